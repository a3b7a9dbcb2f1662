import PyProof.Rows.All
import HandS.Head0
import HandS.Head1
import HandS.Head2
import HandS.HeadEnd
import HandS.HeadHook1
import HandS.HeadHook2
import Wide.All
import OpenK.AllK
import Wide.FinOn
import KE.KStateDown
import HandS.Words
import PySem.Challenge.RW_fairsheet_k20_whole_life_of_a_shared_roo
import HandS.ForMost
import HandS.WordsExc
import HandS.Defaults
import HandS.Flow
import HandS.IsInst
import HandS.Wide
import HandS.Deep
import HandS.More
import HandS.WideMore
import HandS.Style
import HandS.RaiseMore
import HandS.Steps
import HandS.NoneIn
import PyProof.NeKinds
section
set_option Elab.async false
set_option linter.all false
set_option maxRecDepth 100000
set_option maxHeartbeats 0
namespace K20
open PySem PySem.Spec PyProof.Rows L2
def top (i : Nat) : Stmt := PySem.Challenge.pw_fairsheet_k20_whole_life_of_a_shared_roo.main.body.getD i (.Pass ⟨0, 0, 0, 0⟩)
abbrev s0 : Stmt := (inClass (top 4) 0)
abbrev s1 : Stmt := (inClass (top 5) 0)
abbrev s2 : Stmt := (inClass (top 6) 0)
abbrev s3 : Stmt := (inClass (top 7) 0)
abbrev s4 : Stmt := (top 14)
abbrev s5 : Stmt := (top 15)
abbrev s6 : Stmt := (top 16)
abbrev s7 : Stmt := (top 17)
abbrev s8 : Stmt := (top 18)
abbrev s9 : Stmt := (top 19)
abbrev s10 : Stmt := (top 20)
abbrev s11 : Stmt := (top 21)
abbrev s12 : Stmt := (top 22)
abbrev s13 : Stmt := (top 23)
abbrev s14 : Stmt := (top 24)
abbrev s15 : Stmt := (top 25)
abbrev s16 : Stmt := (top 26)
abbrev s17 : Stmt := (top 27)
abbrev s18 : Stmt := (top 29)
abbrev s19 : Stmt := (top 30)
abbrev s20 : Stmt := (inClass (top 32) 0)
abbrev s21 : Stmt := (inClass (top 32) 1)
abbrev s22 : Stmt := (inClass (top 32) 2)
abbrev s23 : Stmt := (top 35)
abbrev s24 : Stmt := (top 36)
abbrev s25 : Stmt := (top 37)
abbrev s26 : Stmt := (top 38)
abbrev s27 : Stmt := (top 39)
abbrev s28 : Stmt := (top 40)
abbrev s29 : Stmt := (top 41)
abbrev s30 : Stmt := (top 42)
abbrev s31 : Stmt := (top 47)
abbrev s32 : Stmt := (inClass (top 48) 0)
abbrev s33 : Stmt := (inClass (top 48) 1)
abbrev s34 : Stmt := (inClass (top 48) 2)
abbrev s35 : Stmt := (inClass (top 48) 3)
abbrev s36 : Stmt := (inClass (top 48) 4)
abbrev s37 : Stmt := (inClass (top 48) 5)
abbrev s38 : Stmt := (inClass (top 48) 6)
abbrev s39 : Stmt := (top 49)
abbrev s40 : Stmt := (top 50)
abbrev s41 : Stmt := (top 51)
abbrev s42 : Stmt := (top 52)
abbrev s43 : Stmt := (inClass (top 53) 0)
abbrev s44 : Stmt := (inClass (top 53) 1)
abbrev s45 : Stmt := (inClass (top 53) 2)
abbrev s46 : Stmt := (inClass (top 54) 0)
abbrev s47 : Stmt := (inClass (top 54) 1)
abbrev s48 : Stmt := (inClass (top 54) 2)
abbrev s49 : Stmt := (inClass (top 54) 3)
abbrev s50 : Stmt := (inClass (top 54) 4)
abbrev s51 : Stmt := (inClass (top 54) 5)
abbrev s52 : Stmt := (inClass (top 54) 6)
abbrev s53 : Stmt := (top 57)
abbrev s54 : Stmt := (top 58)
abbrev s55 : Stmt := (top 59)
abbrev s56 : Stmt := (top 60)
abbrev s57 : Stmt := (top 61)
abbrev s58 : Stmt := (top 62)
abbrev s59 : Stmt := (top 63)
abbrev s60 : Stmt := (top 65)
abbrev s61 : Stmt := (top 66)
abbrev s62 : Stmt := (top 68)
abbrev s63 : Stmt := (top 69)
abbrev s64 : Stmt := (top 70)
abbrev s65 : Stmt := (top 71)
abbrev s66 : Stmt := (top 72)
abbrev s67 : Stmt := (top 73)
abbrev s68 : Stmt := (top 74)
abbrev s69 : Stmt := (top 75)
abbrev s70 : Stmt := (top 76)
abbrev s71 : Stmt := (top 77)
abbrev s72 : Stmt := (top 78)
abbrev s73 : Stmt := (top 79)
abbrev s74 : Stmt := (top 80)
abbrev s75 : Stmt := (top 81)
abbrev s76 : Stmt := (top 82)
abbrev s77 : Stmt := (top 83)
abbrev s78 : Stmt := (top 84)
abbrev s79 : Stmt := (top 85)
abbrev s80 : Stmt := (top 86)
abbrev s81 : Stmt := (top 87)
abbrev s82 : Stmt := (top 88)
abbrev s83 : Stmt := (top 89)
abbrev s84 : Stmt := (top 90)
end K20
namespace K20H
open PySem PySem.Spec PyProof.Rows L2 K20
def d4 : He.DefD := ⟨("is_whole", none), "is_whole", "is_whole", defArgs s4, defBody s4, defScope s4, [], []⟩
def d5 : He.DefD := ⟨("is_length", none), "is_length", "is_length", defArgs s5, defBody s5, defScope s5, [], []⟩
def d6 : He.DefD := ⟨("is_small", none), "is_small", "is_small", defArgs s6, defBody s6, defScope s6, [], []⟩
def d7 : He.DefD := ⟨("is_weight", none), "is_weight", "is_weight", defArgs s7, defBody s7, defScope s7, [], []⟩
def d9 : He.DefD := ⟨("divisor", none), "divisor", "divisor", defArgs s9, defBody s9, defScope s9, [], []⟩
def d11 : He.DefD := ⟨("fraction", none), "fraction", "fraction", defArgs s11, defBody s11, defScope s11, [.int 1], []⟩
def d12 : He.DefD := ⟨("plus", none), "plus", "plus", defArgs s12, defBody s12, defScope s12, [], []⟩
def d13 : He.DefD := ⟨("minus", none), "minus", "minus", defArgs s13, defBody s13, defScope s13, [], []⟩
def d14 : He.DefD := ⟨("times", none), "times", "times", defArgs s14, defBody s14, defScope s14, [], []⟩
def d17 : He.DefD := ⟨("floor_of", none), "floor_of", "floor_of", defArgs s17, defBody s17, defScope s17, [], []⟩
def d16 : He.DefD := ⟨("is_below", none), "is_below", "is_below", defArgs s16, defBody s16, defScope s16, [], []⟩
def d10 : He.DefD := ⟨("is_fraction", none), "is_fraction", "is_fraction", defArgs s10, defBody s10, defScope s10, [], []⟩
def d8 : He.DefD := ⟨("is_name", none), "is_name", "is_name", defArgs s8, defBody s8, defScope s8, [], []⟩
def d20 : He.DefD := ⟨("Part", some "__init__"), "__init__", "Part.__init__", defArgs s20, defBody s20, defScope s20, [.int 0, .non, .int 1, .int 1], []⟩
def d21 : He.DefD := ⟨("Part", some "size_at"), "size_at", "Part.size_at", defArgs s21, defBody s21, defScope s21, [], []⟩
def d22 : He.DefD := ⟨("Part", some "strain_at"), "strain_at", "Part.strain_at", defArgs s22, defBody s22, defScope s22, [], []⟩
def d26 : He.DefD := ⟨("end_of", none), "end_of", "end_of", defArgs s26, defBody s26, defScope s26, [], []⟩
def d23 : He.DefD := ⟨("look_at_parts", none), "look_at_parts", "look_at_parts", defArgs s23, defBody s23, defScope s23, [], []⟩
def d24 : He.DefD := ⟨("price_for", none), "price_for", "price_for", defArgs s24, defBody s24, defScope s24, [], []⟩
def d15 : He.DefD := ⟨("together", none), "together", "together", defArgs s15, defBody s15, defScope s15, [], []⟩
def d18 : He.DefD := ⟨("edges_of", none), "edges_of", "edges_of", defArgs s18, defBody s18, defScope s18, [], []⟩
def d19 : He.DefD := ⟨("wholes_of", none), "wholes_of", "wholes_of", defArgs s19, defBody s19, defScope s19, [], []⟩
def d25 : He.DefD := ⟨("price_of", none), "price_of", "price_of", defArgs s25, defBody s25, defScope s25, [], []⟩
def d27 : He.DefD := ⟨("share_of", none), "share_of", "share_of", defArgs s27, defBody s27, defScope s27, [], []⟩
def d28 : He.DefD := ⟨("share", none), "share", "share", defArgs s28, defBody s28, defScope s28, [], []⟩
def d29 : He.DefD := ⟨("whole_share", none), "whole_share", "whole_share", defArgs s29, defBody s29, defScope s29, [], []⟩
def d30 : He.DefD := ⟨("shares_hold", none), "shares_hold", "shares_hold", defArgs s30, defBody s30, defScope s30, [], []⟩
def d60 : He.DefD := ⟨("strain", none), "strain", "strain", defArgs s60, defBody s60, defScope s60, [], []⟩
def d61 : He.DefD := ⟨("bound", none), "bound", "bound", defArgs s61, defBody s61, defScope s61, [], []⟩
def d31 : He.DefD := ⟨("look_weights", none), "look_weights", "look_weights", defArgs s31, defBody s31, defScope s31, [], []⟩
def d43 : He.DefD := ⟨("Leaf", some "__init__"), "__init__", "Leaf.__init__", defArgs s43, defBody s43, defScope s43, [.int 0, .non, .int 1, .int 1], []⟩
def d44 : He.DefD := ⟨("Leaf", some "across"), "across", "Leaf.across", defArgs s44, defBody s44, defScope s44, [], []⟩
def d39 : He.DefD := ⟨("look_boxes", none), "look_boxes", "look_boxes", defArgs s39, defBody s39, defScope s39, [], []⟩
def d40 : He.DefD := ⟨("size_around", none), "size_around", "size_around", defArgs s40, defBody s40, defScope s40, [], []⟩
def d41 : He.DefD := ⟨("gaps_of", none), "gaps_of", "gaps_of", defArgs s41, defBody s41, defScope s41, [], []⟩
def d42 : He.DefD := ⟨("row_across", none), "row_across", "row_across", defArgs s42, defBody s42, defScope s42, [], []⟩
def d46 : He.DefD := ⟨("Row", some "__init__"), "__init__", "Row.__init__", defArgs s46, defBody s46, defScope s46, [.int 0, .int 1, .int 1], []⟩
def d47 : He.DefD := ⟨("Row", some "across"), "across", "Row.across", defArgs s47, defBody s47, defScope s47, [], []⟩
def d49 : He.DefD := ⟨("Row", some "wides_for"), "wides_for", "Row.wides_for", defArgs s49, defBody s49, defScope s49, [], []⟩
def d53 : He.DefD := ⟨("leanest", none), "leanest", "leanest", defArgs s53, defBody s53, defScope s53, [], []⟩
def d54 : He.DefD := ⟨("fattest", none), "fattest", "fattest", defArgs s54, defBody s54, defScope s54, [], []⟩
def d55 : He.DefD := ⟨("blank_size", none), "blank_size", "blank_size", defArgs s55, defBody s55, defScope s55, [], []⟩
def d56 : He.DefD := ⟨("shared_cost", none), "shared_cost", "shared_cost", defArgs s56, defBody s56, defScope s56, [], []⟩
def d57 : He.DefD := ⟨("cost_of", none), "cost_of", "cost_of", defArgs s57, defBody s57, defScope s57, [], []⟩
def d58 : He.DefD := ⟨("blank_in", none), "blank_in", "blank_in", defArgs s58, defBody s58, defScope s58, [], []⟩
def d62 : He.DefD := ⟨("_law_bag", none), "_law_bag", "_law_bag", defArgs s62, defBody s62, defScope s62, [], []⟩
def d63 : He.DefD := ⟨("_law_take", none), "_law_take", "_law_take", defArgs s63, defBody s63, defScope s63, [], []⟩
def d64 : He.DefD := ⟨("_law_one", none), "_law_one", "_law_one", defArgs s64, defBody s64, defScope s64, [], []⟩
def d67 : He.DefD := ⟨("_law_weight", none), "_law_weight", "_law_weight", defArgs s67, defBody s67, defScope s67, [], []⟩
def d65 : He.DefD := ⟨("_law_alike", none), "_law_alike", "_law_alike", defArgs s65, defBody s65, defScope s65, [], []⟩
def d66 : He.DefD := ⟨("_law_length", none), "_law_length", "_law_length", defArgs s66, defBody s66, defScope s66, [], []⟩
def d68 : He.DefD := ⟨("_law_ends", none), "_law_ends", "_law_ends", defArgs s68, defBody s68, defScope s68, [], []⟩
def d69 : He.DefD := ⟨("_law_part", none), "_law_part", "_law_part", defArgs s69, defBody s69, defScope s69, [], []⟩
def d70 : He.DefD := ⟨("_law_frac", none), "_law_frac", "_law_frac", defArgs s70, defBody s70, defScope s70, [], []⟩
def d71 : He.DefD := ⟨("_law_plus", none), "_law_plus", "_law_plus", defArgs s71, defBody s71, defScope s71, [], []⟩
def d72 : He.DefD := ⟨("_law_total", none), "_law_total", "_law_total", defArgs s72, defBody s72, defScope s72, [], []⟩
def d73 : He.DefD := ⟨("_law_less", none), "_law_less", "_law_less", defArgs s73, defBody s73, defScope s73, [], []⟩
def d74 : He.DefD := ⟨("_law_end", none), "_law_end", "_law_end", defArgs s74, defBody s74, defScope s74, [], []⟩
def d59 : He.DefD := ⟨("spread", none), "spread", "spread", defArgs s59, defBody s59, defScope s59, [], []⟩
def d80 : He.DefD := ⟨("_law_come", none), "_law_come", "_law_come", defArgs s80, defBody s80, defScope s80, [], []⟩
def d81 : He.DefD := ⟨("_law_room", none), "_law_room", "_law_room", defArgs s81, defBody s81, defScope s81, [], []⟩
def d82 : He.DefD := ⟨("_law_deed", none), "_law_deed", "_law_deed", defArgs s82, defBody s82, defScope s82, [], []⟩
def d75 : He.DefD := ⟨("_law_priced_right", none), "_law_priced_right", "_law_priced_right", defArgs s75, defBody s75, defScope s75, [], []⟩
def d76 : He.DefD := ⟨("_law_share_right", none), "_law_share_right", "_law_share_right", defArgs s76, defBody s76, defScope s76, [], []⟩
def d77 : He.DefD := ⟨("_law_wholes_right", none), "_law_wholes_right", "_law_wholes_right", defArgs s77, defBody s77, defScope s77, [], []⟩
def d78 : He.DefD := ⟨("_law_some_right", none), "_law_some_right", "_law_some_right", defArgs s78, defBody s78, defScope s78, [], []⟩
def d83 : He.DefD := ⟨("_law_more_right", none), "_law_more_right", "_law_more_right", defArgs s83, defBody s83, defScope s83, [], []⟩
def d79 : He.DefD := ⟨("_law_run_right", none), "_law_run_right", "_law_run_right", defArgs s79, defBody s79, defScope s79, [], []⟩
def d84 : He.DefD := ⟨("law", none), "law", "law", defArgs s84, defBody s84, defScope s84, [], []⟩
def fn : List He.DefD := [d4, d5, d6, d7, d9, d11, d12, d13, d14, d17, d16, d10, d8, d20, d21, d22, d26, d23, d24, d15, d18, d19, d25, d27, d28, d29, d30, d60, d61, d31, d43, d44, d39, d40, d41, d42, d46, d47, d49, d53, d54, d55, d56, d57, d58, d62, d63, d64, d67, d65, d66, d68, d69, d70, d71, d72, d73, d74, d59, d80, d81, d82, d75, d76, d77, d78, d83, d79, d84]
def fa : List He.Fa := [.str "LETTERS" "abcdefghijklmnopqrstuvwxyz", .int "LENGTH" 1000000000000, .int "SMALL" 1000000, .int "WEIGHT" 1000, .int "LONGEST" 8, .int "MOST" 60, .int "DEEPEST" 6, .int "MOST_BOXES" 60, .int "MOST_WITHIN" 8, .int "ALONE" 10000000000000000000000000000000000000000, .cls "Part", .cls "Leaf", .cls "Row", .free "len", .free "isinstance", .free "int", .free "bool", .free "str", .free "list", .free "tuple", .free "abs", .free "sum", .free "max", .free "min", .free "repr", .free "range", .free "enumerate", .free "zip", .free "sorted", .glo "Part", .glo "Box", .glo "Leaf", .glo "Row", .noat "Part" "base", .noat "Part" "least", .noat "Part" "greatest", .noat "Part" "grow", .noat "Part" "shrink", .noat "Leaf" "key", .noat "Leaf" "base", .noat "Leaf" "least", .noat "Leaf" "greatest", .noat "Leaf" "grow", .noat "Leaf" "shrink", .noat "Leaf" "deep", .noat "Leaf" "many", .noat "Row" "boxes", .noat "Row" "gap", .noat "Row" "grow", .noat "Row" "shrink", .noat "Row" "deep", .noat "Row" "many", .noat "Row" "three", .glo "law", .glo "is_whole", .glo "is_length", .glo "is_small", .glo "is_weight", .glo "divisor", .glo "fraction", .glo "plus", .glo "minus", .glo "times", .glo "floor_of", .glo "is_below", .glo "is_fraction", .glo "is_name", .mkr "Part", .meth "Part" "size_at", .meth "Part" "strain_at", .glo "end_of", .glo "look_at_parts", .glo "price_for", .glo "together", .glo "edges_of", .glo "wholes_of", .glo "price_of", .glo "share_of", .glo "share", .glo "whole_share", .glo "shares_hold", .glo "strain", .glo "bound", .glo "look_weights", .mkr "Leaf", .meth "Leaf" "across", .glo "look_boxes", .glo "size_around", .glo "gaps_of", .glo "row_across", .mkr "Row", .meth "Row" "across", .meth "Row" "wides_for", .glo "leanest", .glo "fattest", .glo "blank_size", .glo "shared_cost", .glo "cost_of", .glo "blank_in", .glo "_law_bag", .glo "_law_take", .glo "_law_one", .glo "_law_weight", .glo "_law_alike", .glo "_law_length", .glo "_law_ends", .glo "_law_part", .glo "_law_frac", .glo "_law_plus", .glo "_law_total", .glo "_law_less", .glo "_law_end", .glo "spread", .glo "_law_come", .glo "_law_room", .glo "_law_deed", .glo "_law_priced_right", .glo "_law_share_right", .glo "_law_wholes_right", .glo "_law_some_right", .glo "_law_more_right", .glo "_law_run_right"]
def tyB (K : PySem.W.Frag) (C : Addr) : Bool := decide (PySem.W.findIn K (.ref C) "__class__" = some (some (.builtin "object.__class__"))) && (decide (PySem.W.specialIn K (.builtin "object.__class__") "__get__" = some (some (.builtin "getset_descriptor.__get__"))) && (decide (PySem.W.takesIn K (.builtin "object.__class__") = some true) && decide (PySem.W.mroIn K C (.type "object") = some true)))
def isaB (K : PySem.W.Frag) (C D : Str) : Bool := tyB K (He.ga K C) && decide (PySem.W.kitOne K (.ref (He.ga K C)) (.ref (He.ga K D)) = some true)
def ex (K : PySem.W.Frag) : Bool := isaB K "Part" "Part" && (isaB K "Leaf" "Box")
def obE (n : Nat) (fa : List He.Fa) (fn : List He.DefD) (g : Addr → Option Obj) : He.AlD × Bool := (He.obsD fa fn (He.frG g (List.range n)), ex (He.frG g (List.range n)))
def hookE (n : Nat) (fa : List He.Fa) (fn : List He.DefD) : PySem.W.Hook where
  α := He.AlD × Bool
  obs := fun s => obE n fa fn s.heap.get?
  val := fun _ => (He.valD fn, true)
  says := fun _ h => ∃ K : PySem.W.Frag, K.In h ∧ He.SaysD fa fn K ∧ ex K = true
  of := fun _ _ e => ⟨_, He.frG_in, congrArg (fun z : He.AlD × Bool => z.1) e, congrArg (fun z : He.AlD × Bool => z.2) e⟩
  keeps := fun _ _ _ ⟨K, hK, c⟩ k => ⟨K, PySem.W.Frag.In.keeps hK k, c⟩
abbrev R : PySem.W.OpenRow := PySem.W.OpenLaw.row PySem.Challenge.rw_fairsheet_k20_whole_life_of_a_shared_roo
abbrev hk : PySem.W.Hook := hookE 1200 fa fn
def ob (s : PySem.W.SharedT) : He.AlD × Bool := obE 1200 fa fn (HandSHeadRun.getT s)
theorem ob_eq (s : PySem.W.SharedT) : ob s = hk.obs s.abs := by
  have e : HandSHeadRun.getT s = s.abs.heap.get? := funext (HandSHeadRun.getT_eq s)
  unfold ob
  rw [e] <;> rfl
def nm0 : List PySem.Str := ["_wall", "FairError", "NoFraction", "Wrong", "NoThing", "TooMany", "TooDeep", "LENGTH", "SMALL", "WEIGHT", "LETTERS", "LONGEST", "is_whole", "is_length", "is_small", "is_weight", "is_name", "divisor", "is_fraction", "fraction"]
def nm1 : List PySem.Str := ["plus", "minus", "times", "together", "is_below", "floor_of", "edges_of", "wholes_of", "Part", "MOST", "look_at_parts", "price_for", "price_of", "end_of", "share_of", "share", "whole_share", "shares_hold", "DEEPEST", "MOST_BOXES"]
def nm2 : List PySem.Str := ["MOST_WITHIN", "look_weights", "Box", "look_boxes", "size_around", "gaps_of", "row_across", "Leaf", "Row", "ALONE", "leanest", "fattest", "blank_size", "shared_cost", "cost_of", "blank_in", "spread", "strain", "bound", "_law_bag"]
def nm3 : List PySem.Str := ["_law_take", "_law_one", "_law_alike", "_law_length", "_law_weight", "_law_ends", "_law_part", "_law_frac", "_law_plus", "_law_total", "_law_less", "_law_end", "_law_priced_right", "_law_share_right", "_law_wholes_right", "_law_some_right", "_law_run_right", "_law_come", "_law_room", "_law_deed"]
def nm4 : List PySem.Str := ["_law_more_right"]
def nms : List PySem.Str := nm0 ++ nm1 ++ nm2 ++ nm3 ++ nm4
theorem run (w : World) : HandSHeadRun.RunEq R (PySem.W.view R.prog [90]) hk ob 40000 nms w := by
  intro os
  kernel_rfl
end K20H
end
section
set_option Elab.async false
set_option linter.all false
set_option maxRecDepth 100000
/-! Data layer, first part: what values are as data, how the heap bears them. -/
namespace DL
open PySem PySem.Spec L2

/-- a value as data: all that is never changed any more -/
inductive D where
  | non | bl (b : Bool) | int (i : Int) | str (x : Str) | raw (v : V)
  | lst (xs : List D) | tup (xs : List D)
  | ins (C : Addr) (ks : List Str) (xs : List D)
  | dk (ks : List Key) (xs : List D)
  | dt (ks : List (List Key)) (xs : List D)
  | bag
  | scr (ns : List Int)

/-- the law's bag: a list of three ints and its cells at c; its ints may change, within ok -/
def BagP (b c : Addr) (ok : Int → Int → Int → Prop) (h : Heap) : Prop := ∃ (i1 i2 i3 : Int) (t1 t2 t3 : Tok) (n : Nat), h.get? b = some { cls := .type "list", data := .seq #[.int i1 t1, .int i2 t2, .int i3 t3, .ref c] n } ∧ ok i1 i2 i3
def bagOk (x y z : Int) : Prop := 0 ≤ x ∧ 0 ≤ y ∧ 0 ≤ z
def BagO (b c : Addr) : HO := .ext (BagP b c bagOk)

mutual
/-- d is what v shows in the frozen heap F -/
def Dp (K : PySem.W.Frag) (F : Hp) : D → V → Prop
  | .non, v => v = .non
  | .bl b, v => v = .bl b
  | .int i, v => v = .int i
  | .str x, v => v = .str x
  | .raw w, v => v = w
  | .lst xs, v => ∃ a vs, v = .ref a ∧ F a = some (.lst vs) ∧ DpL K F xs vs
  | .tup xs, v => ∃ a vs, v = .ref a ∧ F a = some (.tup vs) ∧ DpL K F xs vs
  | .ins C ks xs, v => ∃ a dx vs, v = .ref a ∧ F a = some (.ins C dx (ks.zip vs)) ∧ ks.length = vs.length ∧ DpL K F xs vs
  | .dk ks xs, v => ∃ a vs, v = .ref a ∧ F a = some (.dK (ks.zip vs)) ∧ ks.length = vs.length ∧ DpL K F xs vs
  | .dt ks xs, v => ∃ a vs, v = .ref a ∧ F a = some (.dT (ks.zip vs)) ∧ ks.length = vs.length ∧ DpL K F xs vs
  | .bag, v => ∃ (b c : Addr) (cs : List Int), v = .ref b ∧ F b = some (BagO b c) ∧ F c = some (.lst (cs.map V.int)) ∧ (∀ x ∈ cs, 0 ≤ x) ∧ cs.length ≤ 63
  | .scr ns, v => ∃ a, v = .ref a ∧ SqL K F a (ns.map V.int)
def DpL (K : PySem.W.Frag) (F : Hp) : List D → List V → Prop
  | [], vs => vs = []
  | x :: xs, vs => ∃ v r, vs = v :: r ∧ Dp K F x v ∧ DpL K F xs r
end

theorem same_seqT {K : PySem.W.Frag} {H H' : Hp} {a : Addr} {xs : List V} (e : Same H H') (h : SqT K H a xs) : SqT K H' a xs := by
  rcases h with (h | ⟨o, h⟩) | h
  · exact .inl (.inl (e _ _ h))
  · exact .inl (.inr ⟨o, e _ _ h⟩)
  · exact .inr h

section
variable {K : PySem.W.Frag} {F F' H H' : Hp}
mutual
theorem Dp.mono (e : Same F F') : ∀ (d : D) (v : V), Dp K F d v → Dp K F' d v
  | .non, v, h => h
  | .bl b, v, h => h
  | .int i, v, h => h
  | .str x, v, h => h
  | .raw w, v, h => h
  | .lst xs, v, h => by
    obtain ⟨a, vs, rfl, h1, h2⟩ := h
    exact ⟨a, vs, rfl, e _ _ h1, DpL.mono e xs vs h2⟩
  | .tup xs, v, h => by
    obtain ⟨a, vs, rfl, h1, h2⟩ := h
    exact ⟨a, vs, rfl, e _ _ h1, DpL.mono e xs vs h2⟩
  | .ins C ks xs, v, h => by
    obtain ⟨a, dx, vs, rfl, h1, hl, h2⟩ := h
    exact ⟨a, dx, vs, rfl, e _ _ h1, hl, DpL.mono e xs vs h2⟩
  | .dk ks xs, v, h => by
    obtain ⟨a, vs, rfl, h1, hl, h2⟩ := h
    exact ⟨a, vs, rfl, e _ _ h1, hl, DpL.mono e xs vs h2⟩
  | .dt ks xs, v, h => by
    obtain ⟨a, vs, rfl, h1, hl, h2⟩ := h
    exact ⟨a, vs, rfl, e _ _ h1, hl, DpL.mono e xs vs h2⟩
  | .bag, v, h => by
    obtain ⟨b, c, cs, rfl, h1, h2, h3⟩ := h
    exact ⟨b, c, cs, rfl, e _ _ h1, e _ _ h2, h3⟩
  | .scr ns, v, h => by
    obtain ⟨a, rfl, h1⟩ := h
    exact ⟨a, rfl, e.seq h1⟩
theorem DpL.mono (e : Same F F') : ∀ (xs : List D) (vs : List V), DpL K F xs vs → DpL K F' xs vs
  | [], vs, h => h
  | x :: xs, vs, h => by
    obtain ⟨v, r, rfl, h1, h2⟩ := h
    exact ⟨v, r, rfl, Dp.mono e x v h1, DpL.mono e xs r h2⟩
end
theorem DpL.nil : DpL K F [] [] := rfl
theorem DpL.cons {x : D} {v : V} {xs : List D} {vs : List V} (h : Dp K F x v) (t : DpL K F xs vs) : DpL K F (x :: xs) (v :: vs) := ⟨v, vs, rfl, h, t⟩
theorem dpl_iff : ∀ {xs : List D} {vs : List V}, DpL K F xs vs ↔ (xs.length = vs.length ∧ ∀ (i : Nat) x v, xs[i]? = some x → vs[i]? = some v → Dp K F x v)
  | [], vs => by
    constructor
    · intro h
      have e : vs = [] := h
      subst e
      exact ⟨rfl, fun i x v h1 _ => by simp at h1⟩
    · rintro ⟨h, _⟩
      show vs = []
      cases vs with
      | nil => rfl
      | cons _ _ => simp at h
  | x :: xs, vs => by
    constructor
    · rintro ⟨v, r, rfl, h1, h2⟩
      obtain ⟨hl, hi⟩ := dpl_iff.mp h2
      refine ⟨by simp [hl], fun i y w e1 e2 => ?_⟩
      cases i with
      | zero =>
        simp at e1 e2
        subst e1; subst e2
        exact h1
      | succ i => exact hi i y w (by simpa using e1) (by simpa using e2)
    · rintro ⟨hl, hi⟩
      cases vs with
      | nil => simp at hl
      | cons v r =>
        refine ⟨v, r, rfl, hi 0 x v rfl rfl, dpl_iff.mpr ⟨by simpa using hl, fun i y w e1 e2 => hi (i + 1) y w (by simpa using e1) (by simpa using e2)⟩⟩
theorem DpL.len {xs : List D} {vs : List V} (h : DpL K F xs vs) : xs.length = vs.length := (dpl_iff.mp h).1
theorem DpL.get {xs : List D} {vs : List V} (h : DpL K F xs vs) {i : Nat} {x : D} (e : xs[i]? = some x) : ∃ v, vs[i]? = some v ∧ Dp K F x v := by
  obtain ⟨hl, hi⟩ := dpl_iff.mp h
  have lt : i < xs.length := (List.getElem?_eq_some_iff.mp e).1
  have e2 : vs[i]? = some (vs[i]'(by omega)) := List.getElem?_eq_getElem _
  exact ⟨_, e2, hi i x _ e e2⟩
theorem DpL.at {xs : List D} {vs : List V} (h : DpL K F xs vs) {i : Nat} {v : V} (e : vs[i]? = some v) : ∃ x, xs[i]? = some x ∧ Dp K F x v := by
  obtain ⟨hl, hi⟩ := dpl_iff.mp h
  have lt : i < vs.length := (List.getElem?_eq_some_iff.mp e).1
  have e2 : xs[i]? = some (xs[i]'(by omega)) := List.getElem?_eq_getElem _
  exact ⟨_, e2, hi i _ v e2 e⟩
theorem DpL.app {xs ys : List D} {vs ws : List V} (h : DpL K F xs vs) (h' : DpL K F ys ws) : DpL K F (xs ++ ys) (vs ++ ws) := by
  induction xs generalizing vs with
  | nil =>
    have e : vs = [] := h
    subst e
    exact h'
  | cons x xs ih =>
    obtain ⟨v, r, rfl, h1, h2⟩ := h
    exact ⟨v, r ++ ws, rfl, h1, ih h2⟩
theorem DpL.take {xs : List D} {vs : List V} (h : DpL K F xs vs) (n : Nat) : DpL K F (xs.take n) (vs.take n) := by
  obtain ⟨hl, hi⟩ := dpl_iff.mp h
  refine dpl_iff.mpr ⟨by simp [hl], fun i x v e1 e2 => ?_⟩
  rw [List.getElem?_take] at e1 e2
  split at e1
  · rename_i lt
    rw [if_pos lt] at e2
    exact hi i x v e1 e2
  · cases e1
theorem DpL.drop {xs : List D} {vs : List V} (h : DpL K F xs vs) (n : Nat) : DpL K F (xs.drop n) (vs.drop n) := by
  obtain ⟨hl, hi⟩ := dpl_iff.mp h
  refine dpl_iff.mpr ⟨by simp [hl], fun i x v e1 e2 => ?_⟩
  rw [List.getElem?_drop] at e1 e2
  exact hi _ x v e1 e2
theorem DpL.set {xs : List D} {vs : List V} (h : DpL K F xs vs) (j : Nat) {y : D} {w : V} (q : Dp K F y w) : DpL K F (xs.set j y) (vs.set j w) := by
  obtain ⟨hl, hi⟩ := dpl_iff.mp h
  refine dpl_iff.mpr ⟨by simp [hl], fun i x v e1 e2 => ?_⟩
  rw [List.getElem?_set] at e1 e2
  split at e1
  · rename_i e
    rw [if_pos e] at e2
    subst e
    split at e1
    · split at e2
      · cases e1; cases e2; exact q
      · cases e2
    · cases e1
  · rename_i e
    rw [if_neg e] at e2
    exact hi i x v e1 e2
theorem DpL.rev {xs : List D} {vs : List V} (h : DpL K F xs vs) : DpL K F xs.reverse vs.reverse := by
  induction xs generalizing vs with
  | nil =>
    have e : vs = [] := h
    subst e
    exact DpL.nil
  | cons x xs ih =>
    obtain ⟨v, r, rfl, h1, h2⟩ := h
    rw [List.reverse_cons, List.reverse_cons]
    exact (ih h2).app (DpL.cons h1 DpL.nil)
theorem DpL.dropLast {xs : List D} {vs : List V} (h : DpL K F xs vs) : DpL K F xs.dropLast vs.dropLast := by
  rw [List.dropLast_eq_take, List.dropLast_eq_take, h.len]
  exact h.take _
theorem DpL.rep {xs : List D} {vs : List V} (h : DpL K F xs vs) : ∀ n : Nat, DpL K F (List.replicate n xs).flatten (List.replicate n vs).flatten
  | 0 => DpL.nil
  | n + 1 => by
    rw [List.replicate_succ, List.replicate_succ, List.flatten_cons, List.flatten_cons]
    exact h.app (DpL.rep h n)
theorem DpL.eraseIdx {xs : List D} {vs : List V} (h : DpL K F xs vs) (n : Nat) : DpL K F (xs.eraseIdx n) (vs.eraseIdx n) := by
  rw [List.eraseIdx_eq_take_drop_succ, List.eraseIdx_eq_take_drop_succ]
  exact (h.take n).app (h.drop _)
end

/-- what a slot alone holds: an object that may still be changed -/
inductive OB where
  | lst (xs : List D)
  | ins (C : Addr) (ks : List Str) (xs : List D)
  | slf (C : Addr) (ks : List Str) (xs : List D)
  | dk (ks : List Key) (xs : List D)
  | dt (ks : List (List Key)) (xs : List D)
def OB.toD : OB → D
  | .lst xs => .lst xs
  | .ins C ks xs => .ins C ks xs
  | .slf C ks xs => .ins C ks xs
  | .dk ks xs => .dk ks xs
  | .dt ks xs => .dt ks xs
def OB.isSlf : OB → Bool
  | .slf _ _ _ => true
  | _ => false
/-- a value: data, or an object of its own -/
inductive RD where
  | d (x : D)
  | o (b : OB)
def RD.toD : RD → D
  | .d x => x
  | .o b => b.toD
/-- the names' values -/
abbrev Rho := List (Option RD)
abbrev Sig := List (Option V)

def OwnOk (K : PySem.W.Frag) (F H : Hp) (a : Addr) : OB → Prop
  | .lst xs => ∃ vs, H a = some (.lst vs) ∧ DpL K F xs vs
  | .ins C ks xs => ∃ dx vs, H a = some (.ins C dx (ks.zip vs)) ∧ ks.length = vs.length ∧ DpL K F xs vs
  | .slf C ks xs => ∃ dx vs, H a = some (.ins C dx (ks.zip vs)) ∧ ks.length = vs.length ∧ DpL K F xs vs
  | .dk ks xs => ∃ vs, H a = some (.dK (ks.zip vs)) ∧ ks.length = vs.length ∧ DpL K F xs vs
  | .dt ks xs => ∃ vs, H a = some (.dT (ks.zip vs)) ∧ ks.length = vs.length ∧ DpL K F xs vs
def RdOk (K : PySem.W.Frag) (F H : Hp) : RD → V → Prop
  | .d x, v => Dp K F x v
  | .o b, v => ∃ a, v = .ref a ∧ F a = none ∧ OwnOk K F H a b

section
variable {K : PySem.W.Frag} {F F' H H' : Hp}
theorem OwnOk.mono {a : Addr} {b : OB} (e : Same F F') (eH : H' a = H a) (h : OwnOk K F H a b) : OwnOk K F' H' a b := by
  cases b with
  | lst xs => obtain ⟨vs, h1, h2⟩ := h; exact ⟨vs, eH.trans h1, DpL.mono e _ _ h2⟩
  | ins C ks xs => obtain ⟨dx, vs, h1, hl, h2⟩ := h; exact ⟨dx, vs, eH.trans h1, hl, DpL.mono e _ _ h2⟩
  | slf C ks xs => obtain ⟨dx, vs, h1, hl, h2⟩ := h; exact ⟨dx, vs, eH.trans h1, hl, DpL.mono e _ _ h2⟩
  | dk ks xs => obtain ⟨vs, h1, hl, h2⟩ := h; exact ⟨vs, eH.trans h1, hl, DpL.mono e _ _ h2⟩
  | dt ks xs => obtain ⟨vs, h1, hl, h2⟩ := h; exact ⟨vs, eH.trans h1, hl, DpL.mono e _ _ h2⟩
theorem OwnOk.some {a : Addr} {b : OB} (h : OwnOk K F H a b) : ∃ o, H a = some o := by
  cases b with
  | lst xs => obtain ⟨vs, h1, h2⟩ := h; exact ⟨_, h1⟩
  | ins C ks xs => obtain ⟨dx, vs, h1, hl, h2⟩ := h; exact ⟨_, h1⟩
  | slf C ks xs => obtain ⟨dx, vs, h1, hl, h2⟩ := h; exact ⟨_, h1⟩
  | dk ks xs => obtain ⟨vs, h1, hl, h2⟩ := h; exact ⟨_, h1⟩
  | dt ks xs => obtain ⟨vs, h1, hl, h2⟩ := h; exact ⟨_, h1⟩
/-- frozen -/
theorem OwnOk.frozen {a : Addr} {b : OB} (h : OwnOk K F H a b) (n : F a = none) {o : HO} (ho : H a = Option.some o) : Dp K (upd F a o) b.toD (.ref a) := by
  have e : Same F (upd F a o) := fun c u q => by
    rw [upd_ne (ne_of_none q n)]
    exact q
  cases b with
  | lst xs => obtain ⟨vs, h1, h2⟩ := h; rw [h1] at ho; cases ho; exact ⟨a, vs, rfl, upd_same, DpL.mono e _ _ h2⟩
  | ins C ks xs => obtain ⟨dx, vs, h1, hl, h2⟩ := h; rw [h1] at ho; cases ho; exact ⟨a, dx, vs, rfl, upd_same, hl, DpL.mono e _ _ h2⟩
  | slf C ks xs => obtain ⟨dx, vs, h1, hl, h2⟩ := h; rw [h1] at ho; cases ho; exact ⟨a, dx, vs, rfl, upd_same, hl, DpL.mono e _ _ h2⟩
  | dk ks xs => obtain ⟨vs, h1, hl, h2⟩ := h; rw [h1] at ho; cases ho; exact ⟨a, vs, rfl, upd_same, hl, DpL.mono e _ _ h2⟩
  | dt ks xs => obtain ⟨vs, h1, hl, h2⟩ := h; rw [h1] at ho; cases ho; exact ⟨a, vs, rfl, upd_same, hl, DpL.mono e _ _ h2⟩
end

/-- the entry: heap, frozen heap, the object that __init__ makes -/
structure Ent where
  H0 : Hp
  F0 : Hp
  x : Option Addr := none

/-- the state of a body -/
structure St2 (K : PySem.W.Frag) (E : Ent) (σ : Sig) (H : Hp) (ρ : Rho) (F : Hp) : Prop where
  sub : Same F H
  keep : ∀ a o, E.x ≠ some a → E.H0 a = some o → H a = some o
  there : ∀ a o, E.H0 a = some o → ∃ u, H a = some u
  frz : ∀ a o, E.H0 a = some o → F a = E.F0 a
  len : ρ.length = σ.length
  slot : ∀ (i : Nat) (r : RD), ρ[i]? = some (some r) → ∃ v, σ[i]? = some (some v) ∧ RdOk K F H r v
  own0 : ∀ (i : Nat) (b : OB) (a : Addr), ρ[i]? = some (some (.o b)) → σ[i]? = some (some (.ref a)) → (b.isSlf = true ∧ E.x = some a) ∨ (b.isSlf = false ∧ E.H0 a = none)
  sep : ∀ (i j : Nat) (b b' : OB) (a : Addr), ρ[i]? = some (some (.o b)) → ρ[j]? = some (some (.o b')) → σ[i]? = some (some (.ref a)) → σ[j]? = some (some (.ref a)) → i = j

/-- no slot holds it as its own -/
def NotOwn (σ : Sig) (ρ : Rho) (a : Addr) : Prop := ∀ (i : Nat) (b : OB), ρ[i]? = some (some (.o b)) → σ[i]? ≠ some (some (.ref a))

/-- from one state to a later one of the same body: frozen stays, what no slot owns stays, nothing new is owned -/
structure Stp (σ : Sig) (H : Hp) (ρ : Rho) (F : Hp) (H' : Hp) (ρ' : Rho) (F' : Hp) : Prop where
  frz : Same F F'
  fr : ∀ a o, H a = some o → NotOwn σ ρ a → H' a = some o ∧ F' a = F a
  dec : ∀ (i : Nat) (b : OB), ρ'[i]? = some (some (.o b)) → ∃ b0, ρ[i]? = some (some (.o b0))
theorem Stp.refl {σ : Sig} {H : Hp} {ρ : Rho} {F : Hp} : Stp σ H ρ F H ρ F := ⟨Same.refl F, fun _ _ h _ => ⟨h, rfl⟩, fun _ b h => ⟨b, h⟩⟩
theorem Stp.trans {σ : Sig} {H H1 H2 : Hp} {ρ ρ1 ρ2 : Rho} {F F1 F2 : Hp} (a : Stp σ H ρ F H1 ρ1 F1) (b : Stp σ H1 ρ1 F1 H2 ρ2 F2) : Stp σ H ρ F H2 ρ2 F2 where
  frz := a.frz.trans b.frz
  fr := fun c o h n => by
    obtain ⟨h1, e1⟩ := a.fr c o h n
    obtain ⟨h2, e2⟩ := b.fr c o h1 fun i bb q => by
      obtain ⟨b0, q0⟩ := a.dec i bb q
      exact n i b0 q0
    exact ⟨h2, e2.trans e1⟩
  dec := fun i bb q => by
    obtain ⟨b1, q1⟩ := b.dec i bb q
    exact a.dec i b1 q1

/-- the heap grows: what stood stands, frozen or not as it was -/
structure HExt (H F H' F' : Hp) : Prop where
  keep : Same H H'
  sub : Same F' H'
  frz : ∀ a o, H a = some o → F' a = F a
theorem HExt.refl {H F : Hp} (s : Same F H) : HExt H F H F := ⟨Same.refl H, s, fun _ _ _ => rfl⟩
theorem HExt.same {H F H' F' : Hp} (s : Same F H) (x : HExt H F H' F') : Same F F' := fun a o q => by rw [x.frz a o (s a o q)]; exact q
theorem HExt.trans {H F H1 F1 H2 F2 : Hp} (x : HExt H F H1 F1) (y : HExt H1 F1 H2 F2) : HExt H F H2 F2 :=
  ⟨x.keep.trans y.keep, y.sub, fun a o q => (y.frz a o (x.keep a o q)).trans (x.frz a o q)⟩
/-- a new object, frozen at once -/
theorem HExt.new {H F : Hp} (s : Same F H) {p : Addr} {o : HO} (n : H p = none) : HExt H F (upd H p o) (upd F p o) :=
  ⟨fun a u q => by rw [upd_ne (ne_of_none q n)]; exact q, fun a u q => by
    by_cases e : a = p
    · subst e; rw [upd_same] at q ⊢; exact q
    · rw [upd_ne e] at q ⊢; exact s a u q, fun a u q => by rw [upd_ne (ne_of_none q n)]⟩
/-- a new object, not frozen -/
theorem HExt.newO {H F : Hp} (s : Same F H) {p : Addr} {o : HO} (n : H p = none) : HExt H F (upd H p o) F :=
  ⟨fun a u q => by rw [upd_ne (ne_of_none q n)]; exact q, fun a u q => by rw [upd_ne (ne_of_none (s a u q) n)]; exact s a u q, fun a u q => rfl⟩

/-- what comes out of an operation -/
structure Out (K : PySem.W.Frag) (H F : Hp) (r : RD) (v : V) (H' F' : Hp) : Prop where
  ext : HExt H F H' F'
  ok : RdOk K F' H' r v
  new : ∀ b a, r = .o b → v = .ref a → H a = none ∧ b.isSlf = false
theorem Out.pure {K : PySem.W.Frag} {H F : Hp} {d : D} {v : V} (s : Same F H) (h : Dp K F d v) : Out K H F (.d d) v H F := ⟨HExt.refl s, h, fun _ _ e => nomatch e⟩
theorem Out.newTup {K : PySem.W.Frag} {H F : Hp} {xs : List D} {vs : List V} {p : Addr} (s : Same F H) (n : H p = none) (h : DpL K F xs vs) : Out K H F (.d (.tup xs)) (.ref p) (upd H p (.tup vs)) (upd F p (.tup vs)) :=
  ⟨HExt.new s n, ⟨p, vs, rfl, upd_same, DpL.mono ((HExt.new s n).same s) _ _ h⟩, fun _ _ e => nomatch e⟩
theorem Out.newLst {K : PySem.W.Frag} {H F : Hp} {xs : List D} {vs : List V} {p : Addr} (s : Same F H) (n : H p = none) (h : DpL K F xs vs) : Out K H F (.o (.lst xs)) (.ref p) (upd H p (.lst vs)) F :=
  ⟨HExt.newO s n, ⟨p, rfl, s.free n, vs, upd_same, h⟩, fun b a e1 e2 => by
    cases e1; cases e2
    exact ⟨n, rfl⟩⟩

section
variable {K : PySem.W.Frag} {E : Ent} {σ : Sig} {H H' : Hp} {ρ ρ' : Rho} {F F' : Hp}
theorem St2.ext (S : St2 K E σ H ρ F) (x : HExt H F H' F') : St2 K E σ H' ρ F' ∧ Stp σ H ρ F H' ρ F' := by
  have sF := x.same S.sub
  refine ⟨⟨x.sub, fun a o h1 h2 => x.keep a o (S.keep a o h1 h2), fun a o h => ?_, fun a o h => ?_, S.len, fun i r h => ?_, S.own0, S.sep⟩, ⟨sF, fun a o h _ => ⟨x.keep a o h, x.frz a o h⟩, fun i b h => ⟨b, h⟩⟩⟩
  · obtain ⟨u, hu⟩ := S.there a o h
    exact ⟨u, x.keep a u hu⟩
  · obtain ⟨u, hu⟩ := S.there a o h
    rw [x.frz a u hu]
    exact S.frz a o h
  · obtain ⟨v, h1, h2⟩ := S.slot i r h
    refine ⟨v, h1, ?_⟩
    cases r with
    | d d => exact Dp.mono sF _ _ h2
    | o b =>
      obtain ⟨a, rfl, h3, h4⟩ := h2
      obtain ⟨u, hu⟩ := h4.some
      exact ⟨a, rfl, (x.frz a u hu).trans h3, h4.mono sF ((x.keep a u hu).trans hu.symm)⟩
/-- an object of a value's own, not a slot's, is frozen -/
theorem St2.frz1 (S : St2 K E σ H ρ F) {a : Addr} {o : HO} (n : F a = none) (h : H a = some o) (h0 : E.H0 a = none) (no : NotOwn σ ρ a) : St2 K E σ H ρ (upd F a o) ∧ Same F (upd F a o) := by
  have e : Same F (upd F a o) := fun c u q => by
    rw [upd_ne (ne_of_none q n)]
    exact q
  refine ⟨⟨fun c u q => ?_, S.keep, S.there, fun c u q => ?_, S.len, fun i r q => ?_, S.own0, S.sep⟩, e⟩
  · by_cases hc : c = a
    · subst hc; rw [upd_same] at q; cases q; exact h
    · rw [upd_ne hc] at q; exact S.sub c u q
  · rw [upd_ne (ne_of_none q h0)]
    exact S.frz c u q
  · obtain ⟨v, h1, h2⟩ := S.slot i r q
    refine ⟨v, h1, ?_⟩
    cases r with
    | d d => exact Dp.mono e _ _ h2
    | o b =>
      obtain ⟨c, rfl, h3, h4⟩ := h2
      have ne : c ≠ a := fun z => no i b q (by rw [← z]; exact h1)
      exact ⟨c, rfl, by rw [upd_ne ne]; exact h3, h4.mono e rfl⟩
/-- a slot is given another value; nothing owned comes in -/
theorem St2.drop (S : St2 K E σ H ρ F) (i : Nat) : St2 K E σ H (ρ.set i none) F := by
  have key : ∀ (j : Nat) (r : RD), (ρ.set i none)[j]? = some (some r) → ρ[j]? = some (some r) := fun j r q => by
    rw [List.getElem?_set] at q
    split at q
    · split at q <;> cases q
    · exact q
  exact ⟨S.sub, S.keep, S.there, S.frz, by rw [List.length_set]; exact S.len, fun j r q => S.slot j r (key j r q), fun j b a q => S.own0 j b a (key j _ q), fun j k b b' a q q' => S.sep j k b b' a (key j _ q) (key k _ q')⟩
theorem getElem?_set_cases {α : Type} {l : List α} {i j : Nat} {x y : α} (h : (l.set i x)[j]? = some y) : (j = i ∧ y = x ∧ i < l.length) ∨ (j ≠ i ∧ l[j]? = some y) := by
  rw [List.getElem?_set] at h
  split at h
  · rename_i e
    split at h
    · rename_i lt
      cases h
      exact .inl ⟨e.symm, rfl, lt⟩
    · cases h
  · rename_i e
    exact .inr ⟨fun z => e z.symm, h⟩
/-- a name is given a value -/
theorem St2.put (S : St2 K E σ H ρ F) (i : Nat) {r : RD} {v : V} (ok : RdOk K F H r v) (new : ∀ b a, r = .o b → v = .ref a → E.H0 a = none ∧ b.isSlf = false ∧ NotOwn σ ρ a) : St2 K E (σ.set i (some v)) H (ρ.set i (some r)) F := by
  have hl := S.len
  refine ⟨S.sub, S.keep, S.there, S.frz, by rw [List.length_set, List.length_set]; exact hl, fun j r' q => ?_, fun j b a q1 q2 => ?_, fun j k b b' a q1 q2 q3 q4 => ?_⟩
  · rcases getElem?_set_cases q with ⟨rfl, e, lt⟩ | ⟨ne, q⟩
    · cases e
      exact ⟨v, List.getElem?_set_self (by omega), ok⟩
    · obtain ⟨w, h1, h2⟩ := S.slot j r' q
      exact ⟨w, by rw [List.getElem?_set_ne (Ne.symm ne)]; exact h1, h2⟩
  · rcases getElem?_set_cases q1 with ⟨rfl, e, lt⟩ | ⟨ne, q⟩
    · cases e
      rw [List.getElem?_set_self (by omega)] at q2
      cases q2
      obtain ⟨h0, hs, _⟩ := new b a rfl rfl
      exact .inr ⟨hs, h0⟩
    · rw [List.getElem?_set_ne (Ne.symm ne)] at q2
      exact S.own0 j b a q q2
  · rcases getElem?_set_cases q1 with ⟨rfl, e, lt⟩ | ⟨ne, q⟩
    · cases e
      rw [List.getElem?_set_self (by omega)] at q3
      cases q3
      rcases getElem?_set_cases q2 with ⟨rfl, e', lt'⟩ | ⟨ne', q'⟩
      · rfl
      · rw [List.getElem?_set_ne (Ne.symm ne')] at q4
        exact absurd q4 ((new b a rfl rfl).2.2 k b' q')
    · rw [List.getElem?_set_ne (Ne.symm ne)] at q3
      rcases getElem?_set_cases q2 with ⟨rfl, e', lt'⟩ | ⟨ne', q'⟩
      · cases e'
        rw [List.getElem?_set_self (by omega)] at q4
        cases q4
        exact absurd q3 ((new b' a rfl rfl).2.2 j b q)
      · rw [List.getElem?_set_ne (Ne.symm ne')] at q4
        exact S.sep j k b b' a q q' q3 q4
/-- a slot's own object is frozen; the slot holds it as data -/
theorem St2.frzSlot (S : St2 K E σ H ρ F) {i : Nat} {b : OB} (q : ρ[i]? = some (some (.o b))) (hs : b.isSlf = false) :
    ∃ a o, σ[i]? = some (some (.ref a)) ∧ St2 K E σ H (ρ.set i (some (.d b.toD))) (upd F a o) ∧ Stp σ H ρ F H (ρ.set i (some (.d b.toD))) (upd F a o) ∧ Dp K (upd F a o) b.toD (.ref a) := by
  obtain ⟨v, h1, h2⟩ := S.slot i _ q
  obtain ⟨a, rfl, n, ok⟩ := h2
  obtain ⟨o, ho⟩ := ok.some
  have h0 : E.H0 a = none := by
    rcases S.own0 i b a q h1 with ⟨e, _⟩ | ⟨_, e⟩
    · rw [hs] at e; cases e
    · exact e
  have no : NotOwn σ (ρ.set i none) a := fun j b' q' h' => by
    rcases getElem?_set_cases q' with ⟨_, e, _⟩ | ⟨ne, q'⟩
    · cases e
    · exact ne (S.sep j i b' b a q' q h' h1)
  obtain ⟨S1, e1⟩ := (S.drop i).frz1 n ho h0 no
  have ok1 := ok.frozen n ho
  have S2 := S1.put i (r := .d b.toD) (v := .ref a) ok1 (fun _ _ e => nomatch e)
  have eσ : σ.set i (some (.ref a)) = σ := by
    apply List.ext_getElem?
    intro j
    by_cases hj : i = j
    · subst hj
      have lt : i < σ.length := (List.getElem?_eq_some_iff.mp h1).1
      rw [List.getElem?_set_self lt, h1]
    · rw [List.getElem?_set_ne hj]
  rw [eσ, List.set_set] at S2
  refine ⟨a, o, h1, S2, ⟨e1, fun c u hc nc => ⟨hc, ?_⟩, fun j b' q' => ?_⟩, ok1⟩
  · have ne : c ≠ a := fun z => nc i b q (by rw [z]; exact h1)
    rw [upd_ne ne]
  · rcases getElem?_set_cases q' with ⟨_, e, _⟩ | ⟨ne, q'⟩
    · cases e
    · exact ⟨b', q'⟩
/-- a slot's own object is changed -/
theorem St2.chg (S : St2 K E σ H ρ F) {i : Nat} {b b' : OB} {a : Addr} {o : HO} (q : ρ[i]? = some (some (.o b))) (h1 : σ[i]? = some (some (.ref a))) (hs : b'.isSlf = b.isSlf) (ok : OwnOk K F (upd H a o) a b') :
    St2 K E σ (upd H a o) (ρ.set i (some (.o b'))) F ∧ Stp σ H ρ F (upd H a o) (ρ.set i (some (.o b'))) F := by
  obtain ⟨v, h1', h2⟩ := S.slot i _ q
  rw [h1] at h1'
  cases h1'
  obtain ⟨a', e', n, ok0⟩ := h2
  cases e'
  have lt : i < ρ.length := (List.getElem?_eq_some_iff.mp q).1
  have key : ∀ (j : Nat) (r : RD), (ρ.set i (some (.o b')))[j]? = some (some r) → (j = i ∧ r = .o b') ∨ (j ≠ i ∧ ρ[j]? = some (some r)) := fun j r z => by
    rcases getElem?_set_cases z with ⟨e, e2, _⟩ | ⟨ne, z⟩
    · cases e2; exact .inl ⟨e, rfl⟩
    · exact .inr ⟨ne, z⟩
  have keyO : ∀ (j : Nat) (b'' : OB), (ρ.set i (some (.o b')))[j]? = some (some (.o b'')) → ∃ b0, ρ[j]? = some (some (.o b0)) ∧ b''.isSlf = b0.isSlf := fun j b'' z => by
    rcases key j _ z with ⟨e, e2⟩ | ⟨_, z⟩
    · cases e2; subst e; exact ⟨b, q, hs⟩
    · exact ⟨b'', z, rfl⟩
  refine ⟨⟨fun c u z => ?_, fun c u hx h0 => ?_, fun c u h0 => ?_, S.frz, by rw [List.length_set]; exact S.len, fun j r z => ?_, fun j b'' c z1 z2 => ?_, fun j k bj bk c z1 z2 z3 z4 => ?_⟩, ⟨Same.refl F, fun c u hc nc => ⟨?_, rfl⟩, fun j b'' z => ?_⟩⟩
  · rw [upd_ne (ne_of_none z n)]; exact S.sub c u z
  · have ne : c ≠ a := fun z => by
      subst z
      rcases S.own0 i b c q h1 with ⟨_, e⟩ | ⟨_, e⟩
      · exact hx e
      · rw [h0] at e; cases e
    rw [upd_ne ne]; exact S.keep c u hx h0
  · by_cases e : c = a
    · subst e; exact ⟨o, upd_same⟩
    · rw [upd_ne e]; exact S.there c u h0
  · rcases key j r z with ⟨e, e2⟩ | ⟨ne, z⟩
    · subst e; subst e2
      exact ⟨.ref a, h1, a, rfl, n, ok⟩
    · obtain ⟨w, g1, g2⟩ := S.slot j r z
      refine ⟨w, g1, ?_⟩
      cases r with
      | d d => exact g2
      | o b'' =>
        obtain ⟨c, rfl, g3, g4⟩ := g2
        have nc : c ≠ a := fun e => ne (S.sep j i b'' b a z q (by rw [← e]; exact g1) h1)
        exact ⟨c, rfl, g3, g4.mono (Same.refl F) (upd_ne nc)⟩
  · obtain ⟨b0, z0, e0⟩ := keyO j b'' z1
    rw [e0]
    exact S.own0 j b0 c z0 z2
  · obtain ⟨b0, z0, _⟩ := keyO j bj z1
    obtain ⟨b1, z1', _⟩ := keyO k bk z2
    exact S.sep j k b0 b1 c z0 z1' z3 z4
  · have ne : c ≠ a := fun e => nc i b q (by rw [e]; exact h1)
    rw [upd_ne ne]; exact hc
  · obtain ⟨b0, z0, _⟩ := keyO j b'' z
    exact ⟨b0, z0⟩
end
end DL
end
section
set_option Elab.async false
set_option linter.all false
set_option maxRecDepth 100000
/-! Data layer, second part: judgements, expressions. -/
namespace DL
open PySem PySem.Spec L2

abbrev ET := Rho → (RD → Rho → Prop) → Prop
abbrev TTD := Rho → (Bool → Rho → Prop) → Prop
abbrev ATD := Rho → (List D → Rho → Prop) → Prop

/-- what an expression leaves -/
structure EOk (K : PySem.W.Frag) (E : Ent) (σ : Sig) (H : Hp) (ρ : Rho) (F : Hp) (r : RD) (v : V) (H' : Hp) (ρ' : Rho) (F' : Hp) : Prop where
  st : St2 K E σ H' ρ' F'
  stp : Stp σ H ρ F H' ρ' F'
  ok : RdOk K F' H' r v
  new : ∀ b a, r = .o b → v = .ref a → E.H0 a = none ∧ b.isSlf = false ∧ NotOwn σ ρ' a ∧ ∀ o, H a = some o → ¬ NotOwn σ ρ a

def liftE (K : PySem.W.Frag) (t : ET) : TE := fun σ H Q => ∃ E ρ F R, St2 K E σ H ρ F ∧ t ρ R ∧ ∀ r ρ' v H' F', R r ρ' → EOk K E σ H ρ F r v H' ρ' F' → Q v H'
def liftT (K : PySem.W.Frag) (t : TTD) : TT := fun σ H Q => ∃ E ρ F R, St2 K E σ H ρ F ∧ t ρ R ∧ ∀ b ρ' H' F', R b ρ' → St2 K E σ H' ρ' F' → Stp σ H ρ F H' ρ' F' → Q b H'
def liftA (K : PySem.W.Frag) (t : ATD) : TA := fun σ H Q => ∃ E ρ F R, St2 K E σ H ρ F ∧ t ρ R ∧ ∀ ds ρ' vs H' F', R ds ρ' → St2 K E σ H' ρ' F' → Stp σ H ρ F H' ρ' F' → DpL K F' ds vs → Q vs H'
abbrev DE (X : Cx) (e : Expr) (t : ET) : Prop := PE X e (liftE X.K t)
abbrev DT (X : Cx) (e : Expr) (t : TTD) : Prop := PT X e (liftT X.K t)
abbrev DW (X : Cx) (e : Expr) (t : TTD) : Prop := PW X e (liftT X.K t)
abbrev DA (X : Cx) (es : List Expr) (t : ATD) : Prop := PA X es (liftA X.K t)

section
variable {X : Cx}
theorem PE.imp {e : Expr} {t t' : TE} (h : PE X e t) (i : ∀ σ H Q, t' σ H Q → t σ H Q) : PE X e t' := ⟨fun pins s σ H Q I q => h.run pins s σ H Q I (i σ H Q q)⟩
theorem PT.imp {e : Expr} {t t' : TT} (h : PT X e t) (i : ∀ σ H Q, t' σ H Q → t σ H Q) : PT X e t' := ⟨fun pins s σ H Q I q => h.run pins s σ H Q I (i σ H Q q)⟩
theorem PW.imp {e : Expr} {t t' : TT} (h : PW X e t) (i : ∀ σ H Q, t' σ H Q → t σ H Q) : PW X e t' := ⟨fun w pins s σ H Q I q => h.run w pins s σ H Q I (i σ H Q q)⟩
theorem PA.imp {e : List Expr} {t t' : TA} (h : PA X e t) (i : ∀ σ H Q, t' σ H Q → t σ H Q) : PA X e t' := ⟨fun pos pins s σ H Q I q => h.run pos pins s σ H Q I (i σ H Q q)⟩
end

section
variable {K : PySem.W.Frag} {E : Ent} {σ : Sig} {H H1 H' : Hp} {ρ ρ1 ρ' : Rho} {F F1 F' : Hp} {r : RD} {v : V}
/-- an object of the state's own that no slot owns and that stands at no address known -/
theorem Out.eok (S1 : St2 K E σ H1 ρ1 F1) (st : Stp σ H ρ F H1 ρ1 F1) (o : Out K H1 F1 r v H' F') : EOk K E σ H ρ F r v H' ρ1 F' := by
  obtain ⟨S2, st2⟩ := S1.ext o.ext
  refine ⟨S2, st.trans st2, o.ok, fun b a e1 e2 => ?_⟩
  obtain ⟨n, hs⟩ := o.new b a e1 e2
  refine ⟨?_, hs, fun i b' q h => ?_, fun u hu no => ?_⟩
  · cases q : E.H0 a with
    | none => rfl
    | some u =>
      obtain ⟨w, hw⟩ := S1.there a u q
      rw [n] at hw; cases hw
  · obtain ⟨w, g1, a', e', _, g3⟩ := S1.slot i _ q
    rw [h] at g1; cases g1
    cases e'
    obtain ⟨u, hu⟩ := g3.some
    rw [n] at hu; cases hu
  · have := (st.fr a u hu no).1
    rw [n] at this; cases this
theorem EOk.data {d : D} (S1 : St2 K E σ H1 ρ1 F1) (st : Stp σ H ρ F H1 ρ1 F1) (h : Dp K F1 d v) : EOk K E σ H ρ F (.d d) v H1 ρ1 F1 := Out.eok S1 st (Out.pure S1.sub h)
/-- an outcome taken as data -/
theorem EOk.frz (o : EOk K E σ H ρ F r v H' ρ' F') : ∃ F2, St2 K E σ H' ρ' F2 ∧ Stp σ H ρ F H' ρ' F2 ∧ Dp K F2 r.toD v := by
  cases r with
  | d d => exact ⟨F', o.st, o.stp, o.ok⟩
  | o b =>
    obtain ⟨a, rfl, n, ok⟩ := o.ok
    obtain ⟨u, hu⟩ := ok.some
    obtain ⟨h0, hs, no, nw⟩ := o.new b a rfl rfl
    obtain ⟨S2, e2⟩ := o.st.frz1 n hu h0 no
    refine ⟨_, S2, ⟨o.stp.frz.trans e2, fun c w hc nc => ?_, o.stp.dec⟩, ok.frozen n hu⟩
    obtain ⟨g1, g2⟩ := o.stp.fr c w hc nc
    have ne : c ≠ a := fun z => by
      subst z
      exact nw w hc nc
    exact ⟨g1, by rw [upd_ne ne]; exact g2⟩
/-- an expression read to its end, its value taken as data -/
theorem useE {ta : ET} {R : RD → Rho → Prop} {Q : VK} (S : St2 K E σ H ρ F) (h : ta ρ R) (k : ∀ r ρ' v H' F', R r ρ' → St2 K E σ H' ρ' F' → Stp σ H ρ F H' ρ' F' → Dp K F' r.toD v → Q v H') : liftE K ta σ H Q :=
  ⟨E, ρ, F, R, S, h, fun r ρ' v H' F' hr o => by
    obtain ⟨F2, S2, st2, d2⟩ := o.frz
    exact k r ρ' v H' F2 hr S2 st2 d2⟩
theorem useT {ta : TTD} {R : Bool → Rho → Prop} {Q : Bool → Hp → Prop} (S : St2 K E σ H ρ F) (h : ta ρ R) (k : ∀ b ρ' H' F', R b ρ' → St2 K E σ H' ρ' F' → Stp σ H ρ F H' ρ' F' → Q b H') : liftT K ta σ H Q := ⟨E, ρ, F, R, S, h, k⟩
theorem useA {ta : ATD} {R : List D → Rho → Prop} {Q : List V → Hp → Prop} (S : St2 K E σ H ρ F) (h : ta ρ R) (k : ∀ ds ρ' vs H' F', R ds ρ' → St2 K E σ H' ρ' F' → Stp σ H ρ F H' ρ' F' → DpL K F' ds vs → Q vs H') : liftA K ta σ H Q := ⟨E, ρ, F, R, S, h, k⟩
end

/-! ### operations by data -/
abbrev O1 := D → (RD → Prop) → Prop
abbrev O2 := D → D → (RD → Prop) → Prop
abbrev ON := List D → (RD → Prop) → Prop
def OpD (K : PySem.W.Frag) (r : R2) (r2 : O2) : Prop := ∀ (F H : Hp) (x y : D) (v u : V) (R : RD → Prop) (Q : VK), Same F H → Dp K F x v → Dp K F y u → r2 x y R → (∀ z w H' F', R z → Out K H F z w H' F' → Q w H') → r v u H Q
def UnD (K : PySem.W.Frag) (r : V → Hp → VK → Prop) (r2 : O1) : Prop := ∀ (F H : Hp) (x : D) (v : V) (R : RD → Prop) (Q : VK), Same F H → Dp K F x v → r2 x R → (∀ z w H' F', R z → Out K H F z w H' F' → Q w H') → r v H Q
def CallD (K : PySem.W.Frag) (r : List V → Hp → VK → Prop) (r2 : ON) : Prop := ∀ (F H : Hp) (xs : List D) (vs : List V) (R : RD → Prop) (Q : VK), Same F H → DpL K F xs vs → r2 xs R → (∀ z w H' F', R z → Out K H F z w H' F' → Q w H') → r vs H Q

def dC (d : D) : ET := fun ρ Q => Q (.d d) ρ
def rdVar (o : Option (Option RD)) (i : Nat) (ρ : Rho) (Q : RD → Rho → Prop) : Prop := match o with
  | some (some (.d x)) => Q (.d x) ρ
  | some (some (.o (.slf _ _ _))) => False
  | some (some (.o b)) => Q (.d b.toD) (ρ.set i (some (.d b.toD)))
  | _ => False
def dVar (i : Nat) : ET := fun ρ Q => rdVar ρ[i]? i ρ Q
def dBin (r2 : O2) (ta tb : ET) : ET := fun ρ Q => ta ρ fun x ρ1 => tb ρ1 fun y ρ2 => r2 x.toD y.toD fun z => Q z ρ2
def dUn (r2 : O1) (ta : ET) : ET := fun ρ Q => ta ρ fun x ρ1 => r2 x.toD fun z => Q z ρ1
def dNil : ATD := fun ρ Q => Q [] ρ
def dCons (ta : ET) (tr : ATD) : ATD := fun ρ Q => ta ρ fun x ρ1 => tr ρ1 fun xs ρ2 => Q (x.toD :: xs) ρ2
def dCall (W : ON) (t : ATD) : ET := fun ρ Q => t ρ fun ds ρ1 => W ds fun z => Q z ρ1
def asBl (x : D) (k : Bool → Prop) : Prop := match x with
  | .bl b => k b
  | _ => False
def asInt (x : D) (k : Int → Prop) : Prop := match x with
  | .int i => k i
  | _ => False
def dTest (ta : ET) : TTD := fun ρ Q => ta ρ fun x ρ1 => asBl x.toD fun b => Q b ρ1
theorem asBl_of {x : D} {k : Bool → Prop} (h : asBl x k) : ∃ b, x = .bl b ∧ k b := by
  cases x with
  | bl b => exact ⟨b, rfl, h⟩
  | _ => exact (show False from h).elim
theorem asInt_of {x : D} {k : Int → Prop} (h : asInt x k) : ∃ b, x = .int b ∧ k b := by
  cases x with
  | int b => exact ⟨b, rfl, h⟩
  | _ => exact (show False from h).elim

section
variable {X : Cx} {a b c e : Expr} {ta tb tc te : ET} {pos : Pos}
theorem de_tC {d : D} {v : V} (h : PE X e (tC v)) (hd : ∀ F, Dp X.K F d v) : DE X e (dC d) := PE.imp h fun σ H Q q => by
  obtain ⟨E, ρ, F, R, S, h, k⟩ := q
  exact k _ ρ v H F h (EOk.data S .refl (hd F))
theorem de_int {i j pos} : DE X (.Constant (.int i) j pos) (dC (.int i)) := de_tC pe_int fun _ => rfl
theorem de_bl {b j pos} : DE X (.Constant (.bool b) j pos) (dC (.bl b)) := de_tC pe_bl fun _ => rfl
theorem de_non {j pos} : DE X (.Constant .none j pos) (dC .non) := de_tC pe_non fun _ => rfl
theorem de_str {x j pos} : DE X (.Constant (.str x) j pos) (dC (.str x)) := de_tC pe_str fun _ => rfl
theorem de_tVar {i : Nat} (h : PE X e (tVar i)) : DE X e (dVar i) := PE.imp h fun σ H Q q => by
  obtain ⟨E, ρ, F, R, S, h, k⟩ := q
  have h' : rdVar ρ[i]? i ρ R := h
  cases e1 : ρ[i]? with
  | none => rw [e1] at h'; exact h'.elim
  | some o =>
    cases o with
    | none => rw [e1] at h'; exact h'.elim
    | some r =>
      rw [e1] at h'
      cases r with
      | d x =>
        obtain ⟨v, g1, g2⟩ := S.slot i _ e1
        exact ⟨v, g1, k _ ρ v H F h' (EOk.data S .refl g2)⟩
      | o b =>
        have hs : b.isSlf = false ∧ R (.d b.toD) (ρ.set i (some (.d b.toD))) := by
          cases b with
          | slf C ks xs => exact (show False from h').elim
          | lst xs => exact ⟨rfl, h'⟩
          | ins C ks xs => exact ⟨rfl, h'⟩
          | dk ks xs => exact ⟨rfl, h'⟩
          | dt ks xs => exact ⟨rfl, h'⟩
        obtain ⟨ad, o, g1, S2, st, d2⟩ := S.frzSlot e1 hs.1
        exact ⟨_, g1, k _ _ _ H _ hs.2 (EOk.data S2 st d2)⟩
theorem de_bin {op : Operator} {r : R2} {r2 : O2} (ho : OpR X (binaryOp op) r) (hd : OpD X.K r r2) (ha : DE X a ta) (hb : DE X b tb) : DE X (.BinOp a op b pos) (dBin r2 ta tb) := PE.imp (pe_op ho ha hb) fun σ H Q q => by
  obtain ⟨E, ρ, F, R, S, h, k⟩ := q
  refine useE S h fun x ρ1 v H1 F1 h1 S1 st1 d1 => useE S1 h1 fun y ρ2 u H2 F2 h2 S2 st2 d2 => ?_
  exact hd F2 H2 _ _ v u _ Q S2.sub (Dp.mono st2.frz _ _ d1) d2 h2 fun z w H' F' hz o => k z ρ2 w H' F' hz (o.eok S2 (st1.trans st2))
theorem de_cmp {op : CmpOp} {r : R2} {r2 : O2} (ho : OpR X (compareOp op) r) (hd : OpD X.K r r2) (ha : DE X a ta) (hb : DE X b tb) (hm : behindInMarks op b = false) : DE X (.Compare a [op] [b] pos) (dBin r2 ta tb) := PE.imp (pe_cmpR ho ha hb hm) fun σ H Q q => by
  obtain ⟨E, ρ, F, R, S, h, k⟩ := q
  refine useE S h fun x ρ1 v H1 F1 h1 S1 st1 d1 => useE S1 h1 fun y ρ2 u H2 F2 h2 S2 st2 d2 => ?_
  exact hd F2 H2 _ _ v u _ Q S2.sub (Dp.mono st2.frz _ _ d1) d2 h2 fun z w H' F' hz o => k z ρ2 w H' F' hz (o.eok S2 (st1.trans st2))
/-- an outcome that is a truth -/
theorem Out.bl {K : PySem.W.Frag} {H F H' F' : Hp} {z : RD} {w : V} {k : Bool → Prop} (o : Out K H F z w H' F') (h : asBl z.toD k) : ∃ b, w = .bl b ∧ k b := by
  obtain ⟨b, e, q⟩ := asBl_of h
  cases z with
  | d x =>
    have e' : x = .bl b := e
    subst e'
    exact ⟨b, o.ok, q⟩
  | o y => cases y <;> cases e
theorem dt_cmp {op : CmpOp} {r : R2} {r2 : O2} (ho : OpR X (compareOp op) r) (hd : OpD X.K r r2) (ha : DE X a ta) (hb : DE X b tb) (hm : behindInMarks op b = false) : DT X (.Compare a [op] [b] pos) (dTest (dBin r2 ta tb)) := PT.imp (pt_cmpR ho ha hb hm) fun σ H Q q => by
  obtain ⟨E, ρ, F, R, S, h, k⟩ := q
  refine useE S h fun x ρ1 v H1 F1 h1 S1 st1 d1 => useE S1 h1 fun y ρ2 u H2 F2 h2 S2 st2 d2 => ?_
  refine hd F2 H2 _ _ v u _ _ S2.sub (Dp.mono st2.frz _ _ d1) d2 h2 fun z w H' F' hz o => ?_
  obtain ⟨b, e, q⟩ := o.bl hz
  obtain ⟨S3, st3⟩ := S2.ext o.ext
  exact ⟨b, e, k b ρ2 H' F' q S3 ((st1.trans st2).trans st3)⟩
theorem de_un {op : UnaryOp} {r : V → Hp → VK → Prop} {r2 : O1} (ho : UnR X (unaryOp op) r) (hd : UnD X.K r r2) (ha : DE X a ta) : DE X (.UnaryOp op a pos) (dUn r2 ta) := PE.imp (pe_un ho ha) fun σ H Q q => by
  obtain ⟨E, ρ, F, R, S, h, k⟩ := q
  refine useE S h fun x ρ1 v H1 F1 h1 S1 st1 d1 => ?_
  exact hd F1 H1 _ v _ Q S1.sub d1 h1 fun z w H' F' hz o => k z ρ1 w H' F' hz (o.eok S1 st1)
/-- an expression that gives a truth, as a test -/
theorem dt_val (ha : DE X e te) (he : ∀ whole, isTrue e X.env whole = (do let v ← whole; standAt e.pos; holding [v] (truthy v)) := by intro _; rfl) : DT X e (dTest te) := PT.imp (pt_val ha he) fun σ H Q q => by
  obtain ⟨E, ρ, F, R, S, h, k⟩ := q
  refine useE S h fun x ρ1 v H1 F1 h1 S1 st1 d1 => ?_
  obtain ⟨b, e, q⟩ := asBl_of h1
  rw [e] at d1
  exact ⟨b, d1, k b ρ1 H1 F1 q S1 st1⟩

/-! ### and, or, not, if -/
variable {tA tB : TTD} {rest : List Expr}
def dAnd (t u : TTD) : TTD := fun ρ Q => t ρ fun b ρ1 => match b with
  | true => u ρ1 Q
  | false => Q false ρ1
def dOr (t u : TTD) : TTD := fun ρ Q => t ρ fun b ρ1 => match b with
  | true => Q true ρ1
  | false => u ρ1 Q
def dNot (t : TTD) : TTD := fun ρ Q => t ρ fun b ρ1 => Q (!b) ρ1
theorem dw_and1 (ha : DT X a tA) : DW X (.BoolOp .And [a] pos) tA := pw_and1 ha
theorem dw_or1 (ha : DT X a tA) : DW X (.BoolOp .Or [a] pos) tA := pw_or1 ha
theorem dw_and (ha : DT X a tA) (hb : DW X (.BoolOp .And (b :: rest) pos) tB) : DW X (.BoolOp .And (a :: b :: rest) pos) (dAnd tA tB) := PW.imp (pw_and ha hb) fun σ H Q q => by
  obtain ⟨E, ρ, F, R, S, h, k⟩ := q
  refine useT S h fun b ρ1 H1 F1 h1 S1 st1 => ?_
  cases b with
  | true => exact useT S1 h1 fun c ρ2 H2 F2 h2 S2 st2 => k c ρ2 H2 F2 h2 S2 (st1.trans st2)
  | false => exact k false ρ1 H1 F1 h1 S1 st1
theorem dw_or (ha : DT X a tA) (hb : DW X (.BoolOp .Or (b :: rest) pos) tB) : DW X (.BoolOp .Or (a :: b :: rest) pos) (dOr tA tB) := PW.imp (pw_or ha hb) fun σ H Q q => by
  obtain ⟨E, ρ, F, R, S, h, k⟩ := q
  refine useT S h fun b ρ1 H1 F1 h1 S1 st1 => ?_
  cases b with
  | false => exact useT S1 h1 fun c ρ2 H2 F2 h2 S2 st2 => k c ρ2 H2 F2 h2 S2 (st1.trans st2)
  | true => exact k true ρ1 H1 F1 h1 S1 st1
theorem dt_not (ha : DT X a tA) : DT X (.UnaryOp .Not a pos) (dNot tA) := PT.imp (pt_not ha) fun σ H Q q => by
  obtain ⟨E, ρ, F, R, S, h, k⟩ := q
  exact useT S h fun b ρ1 H1 F1 h1 S1 st1 => k (!b) ρ1 H1 F1 h1 S1 st1
def dAndV (ta tb : ET) : ET := fun ρ Q => ta ρ fun x ρ1 => asBl x.toD fun b => match b with
  | true => tb ρ1 Q
  | false => Q (.d (.bl false)) ρ1
def dOrV (ta tb : ET) : ET := fun ρ Q => ta ρ fun x ρ1 => asBl x.toD fun b => match b with
  | true => Q (.d (.bl true)) ρ1
  | false => tb ρ1 Q
def dNotV (ta : ET) : ET := fun ρ Q => ta ρ fun x ρ1 => asBl x.toD fun b => Q (.d (.bl (!b))) ρ1
theorem EOk.after {K : PySem.W.Frag} {E : Ent} {σ : Sig} {H H1 H' : Hp} {ρ ρ1 ρ' : Rho} {F F1 F' : Hp} {r : RD} {v : V} (st : Stp σ H ρ F H1 ρ1 F1) (o : EOk K E σ H1 ρ1 F1 r v H' ρ' F') : EOk K E σ H ρ F r v H' ρ' F' :=
  ⟨o.st, st.trans o.stp, o.ok, fun b a e1 e2 => by
    obtain ⟨g1, g2, g3, g4⟩ := o.new b a e1 e2
    refine ⟨g1, g2, g3, fun u hu no => ?_⟩
    have hu1 := (st.fr a u hu no).1
    exact g4 u hu1 fun i b' q => by
      obtain ⟨b0, q0⟩ := st.dec i b' q
      exact no i b0 q0⟩
theorem de_one {op} (h : DE X a ta) : DE X (.BoolOp op [a] pos) ta := pe_one h
theorem de_and (ha : DE X a ta) (hb : DE X (.BoolOp .And (b :: rest) pos) tb) : DE X (.BoolOp .And (a :: b :: rest) pos) (dAndV ta tb) := PE.imp (pe_and ha hb) fun σ H Q q => by
  obtain ⟨E, ρ, F, R, S, h, k⟩ := q
  refine useE S h fun x ρ1 v H1 F1 h1 S1 st1 d1 => ?_
  obtain ⟨b, e, q⟩ := asBl_of h1
  rw [e] at d1
  refine ⟨b, d1, ?_⟩
  cases b with
  | true => exact iteT ⟨E, ρ1, F1, R, S1, q, fun r ρ' v' H' F' hr o => k r ρ' v' H' F' hr (o.after st1)⟩
  | false => exact iteF (k _ ρ1 _ H1 F1 q (EOk.data S1 st1 rfl))
theorem de_or (ha : DE X a ta) (hb : DE X (.BoolOp .Or (b :: rest) pos) tb) : DE X (.BoolOp .Or (a :: b :: rest) pos) (dOrV ta tb) := PE.imp (pe_or ha hb) fun σ H Q q => by
  obtain ⟨E, ρ, F, R, S, h, k⟩ := q
  refine useE S h fun x ρ1 v H1 F1 h1 S1 st1 d1 => ?_
  obtain ⟨b, e, q⟩ := asBl_of h1
  rw [e] at d1
  refine ⟨b, d1, ?_⟩
  cases b with
  | false => exact iteF ⟨E, ρ1, F1, R, S1, q, fun r ρ' v' H' F' hr o => k r ρ' v' H' F' hr (o.after st1)⟩
  | true => exact iteT (k _ ρ1 _ H1 F1 q (EOk.data S1 st1 rfl))
theorem de_not (ha : DE X a ta) : DE X (.UnaryOp .Not a pos) (dNotV ta) := PE.imp (pe_not ha) fun σ H Q q => by
  obtain ⟨E, ρ, F, R, S, h, k⟩ := q
  refine useE S h fun x ρ1 v H1 F1 h1 S1 st1 d1 => ?_
  obtain ⟨b, e, q⟩ := asBl_of h1
  rw [e] at d1
  exact ⟨b, d1, k _ ρ1 _ H1 F1 q (EOk.data S1 st1 rfl)⟩
def dIf (t : TTD) (ta tb : ET) : ET := fun ρ Q => t ρ fun b ρ1 => match b with
  | true => ta ρ1 Q
  | false => tb ρ1 Q
theorem de_ifExp (hc : DT X c tA) (ha : DE X a ta) (hb : DE X b tb) : DE X (.IfExp c a b pos) (dIf tA ta tb) := PE.imp (pe_ifExp hc ha hb) fun σ H Q q => by
  obtain ⟨E, ρ, F, R, S, h, k⟩ := q
  refine useT S h fun b ρ1 H1 F1 h1 S1 st1 => ?_
  cases b with
  | true => exact iteT ⟨E, ρ1, F1, R, S1, h1, fun r ρ' v' H' F' hr o => k r ρ' v' H' F' hr (o.after st1)⟩
  | false => exact iteF ⟨E, ρ1, F1, R, S1, h1, fun r ρ' v' H' F' hr o => k r ρ' v' H' F' hr (o.after st1)⟩

/-! ### arguments, displays, calls of built-ins -/
variable {es : List Expr} {t : ATD}
theorem da_nil : DA X [] dNil := PA.imp pa_nil fun σ H Q q => by
  obtain ⟨E, ρ, F, R, S, h, k⟩ := q
  exact k [] ρ [] H F h S .refl rfl
theorem da_cons (ha : DE X e te) (hr : DA X es t) (hs : starEach (e :: es) X.env = (false, eval e X.env) :: starEach es X.env := by rfl) : DA X (e :: es) (dCons te t) := PA.imp (pa_cons ha hr hs) fun σ H Q q => by
  obtain ⟨E, ρ, F, R, S, h, k⟩ := q
  refine useE S h fun x ρ1 v H1 F1 h1 S1 st1 d1 => useA S1 h1 fun xs ρ2 vs H2 F2 h2 S2 st2 d2 => ?_
  exact k _ ρ2 _ H2 F2 h2 S2 (st1.trans st2) (DpL.cons (Dp.mono st2.frz _ _ d1) d2)
def wTup : ON := fun ds R => ds.length ≤ 1000000 ∧ R (.d (.tup ds))
def wLst : ON := fun ds R => ds.length ≤ 1000000 ∧ R (.o (.lst ds))
theorem mill {n : Nat} (h : n ≤ 1000000) : n ≤ sizeLine := Nat.le_trans h (by decide)
theorem mill' {n : Nat} (h : n < 1000000) : n < sizeLine := Nat.lt_of_lt_of_le h (by decide)
theorem de_tup {x1} (h : DA X es t) : DE X (.Tuple es x1 pos) (dCall wTup t) := PE.imp (pe_tup h) fun σ H Q q => by
  obtain ⟨E, ρ, F, R, S, h, k⟩ := q
  refine useA S h fun xs ρ1 vs H1 F1 h1 S1 st1 d1 => ⟨?_, fun p hp => ?_⟩
  · rw [← d1.len]; exact mill h1.1
  · exact k _ ρ1 _ _ _ h1.2 ((Out.newTup S1.sub hp d1).eok S1 st1)
theorem de_lst (h : DA X es t) : DE X (.List es pos) (dCall wLst t) := PE.imp (pe_lst h) fun σ H Q q => by
  obtain ⟨E, ρ, F, R, S, h, k⟩ := q
  refine useA S h fun xs ρ1 vs H1 F1 h1 S1 st1 d1 => ⟨?_, fun p hp => ?_⟩
  · rw [← d1.len]; exact mill h1.1
  · exact k _ ρ1 _ _ _ h1.2 ((Out.newLst S1.sub hp d1).eok S1 st1)
theorem de_tCB {r : List V → Hp → VK → Prop} {W : ON} {ta : TA} (h : PE X e (tCB r (liftA X.K t))) (hd : CallD X.K r W) : DE X e (dCall W t) := PE.imp h fun σ H Q q => by
  obtain ⟨E, ρ, F, R, S, h, k⟩ := q
  refine useA S h fun xs ρ1 vs H1 F1 h1 S1 st1 d1 => ?_
  exact hd F1 H1 _ vs _ Q S1.sub d1 h1 fun z w H' F' hz o => k z ρ1 w H' F' hz (o.eok S1 st1)
theorem de_callB {id : String} {x : Str} {p : Pos} {r : List V → Hp → VK → Prop} {W : ON} (hc : CallR X (.builtin id) r) (hd : CallD X.K r W) (hg : Gl X x) (hm : X.mg x = none) (hv : bootBuiltins x = some (.builtin id)) (ha : DA X (e :: es) t) (hn : x ≠ "__name__" := by decide)
    (hdb : (x == ("__debug__" : Str)) = false := by decide) (he : starEach (e :: es) X.env = (false, eval e X.env) :: starEach es X.env := by rfl) (hpl : (backTo pos (starEach es X.env)).any (·.1) = false := by rfl) : DE X (.Call (.Name x p) (e :: es) [] pos) (dCall W t) :=
  de_tCB (ta := fun _ _ _ => False) (pe_callB hc hg hm hv ha hn hdb he hpl) hd
theorem de_callTy {T : String} {x : Str} {p : Pos} {r : List V → Hp → VK → Prop} {W : ON} (hc : CallR X (.type T) r) (hd : CallD X.K r W) (hg : Gl X x) (hm : X.mg x = none) (hv : bootBuiltins x = some (.type T)) (ha : DA X (e :: es) t) (hn : x ≠ "__name__" := by decide)
    (hdb : (x == ("__debug__" : Str)) = false := by decide) (he : starEach (e :: es) X.env = (false, eval e X.env) :: starEach es X.env := by rfl) (hpl : (backTo pos (starEach es X.env)).any (·.1) = false := by rfl) : DE X (.Call (.Name x p) (e :: es) [] pos) (dCall W t) :=
  de_tCB (ta := fun _ _ _ => False) (pe_callTy hc hg hm hv ha hn hdb he hpl) hd
/-- a op b op' c -/
def dChain (r r' : O2) (ta tb tc : ET) : ET := fun ρ Q => ta ρ fun x ρ1 => tb ρ1 fun y ρ2 => r x.toD y.toD fun z => asBl z.toD fun k => match k with
  | true => tc ρ2 fun w ρ3 => r' y.toD w.toD fun z' => Q z' ρ3
  | false => Q (.d (.bl false)) ρ2
theorem de_chain {op op' : CmpOp} {r r' : R2} {w w' : O2} (ho : OpR X (compareOp op) r) (hd : OpD X.K r w) (ho' : OpR X (compareOp op') r') (hd' : OpD X.K r' w') (ha : DE X a ta) (hb : DE X b tb) (hc : DE X c tc)
    (hm : lastMarks [op, op'] [b, c] = false := by with_unfolding_all rfl) : DE X (.Compare a [op, op'] [b, c] pos) (dChain w w' ta tb tc) := PE.imp (pe_chain ho ho' ha hb hc hm) fun σ H Q q => by
  obtain ⟨E, ρ, F, R, S, h, k⟩ := q
  refine useE S h fun x ρ1 v H1 F1 h1 S1 st1 d1 => useE S1 h1 fun y ρ2 u H2 F2 h2 S2 st2 d2 => ?_
  refine hd F2 H2 _ _ v u _ _ S2.sub (Dp.mono st2.frz _ _ d1) d2 h2 fun z w H' F' hz o => ?_
  obtain ⟨b, e, q⟩ := o.bl hz
  obtain ⟨S3, st3⟩ := S2.ext o.ext
  refine ⟨b, e, ?_⟩
  cases b with
  | true =>
    refine iteT (useE S3 q fun y' ρ3 u' H3 F3 h3 S4 st4 d4 => ?_)
    exact hd' F3 H3 _ _ u u' _ Q S4.sub (Dp.mono (st3.frz.trans st4.frz) _ _ d2) d4 h3 fun z w H'' F'' hz o => k z ρ3 w H'' F'' hz (o.eok S4 (((st1.trans st2).trans st3).trans st4))
  | false => exact iteF (k _ ρ2 _ H' F' q (EOk.data S3 ((st1.trans st2).trans st3) rfl))
theorem dt_chain {op op' : CmpOp} {r r' : R2} {w w' : O2} (ho : OpR X (compareOp op) r) (hd : OpD X.K r w) (ho' : OpR X (compareOp op') r') (hd' : OpD X.K r' w') (ha : DE X a ta) (hb : DE X b tb) (hc : DE X c tc)
    (hm : lastMarks [op, op'] [b, c] = false := by with_unfolding_all rfl) : DT X (.Compare a [op, op'] [b, c] pos) (dTest (dChain w w' ta tb tc)) := PT.imp (pt_chain ho ho' ha hb hc hm) fun σ H Q q => by
  obtain ⟨E, ρ, F, R, S, h, k⟩ := q
  refine useE S h fun x ρ1 v H1 F1 h1 S1 st1 d1 => useE S1 h1 fun y ρ2 u H2 F2 h2 S2 st2 d2 => ?_
  refine hd F2 H2 _ _ v u _ _ S2.sub (Dp.mono st2.frz _ _ d1) d2 h2 fun z w H' F' hz o => ?_
  obtain ⟨b, e, q⟩ := o.bl hz
  obtain ⟨S3, st3⟩ := S2.ext o.ext
  refine ⟨b, e, ?_⟩
  cases b with
  | true =>
    refine iteT (useE S3 q fun y' ρ3 u' H3 F3 h3 S4 st4 d4 => ?_)
    refine hd' F3 H3 _ _ u u' _ _ S4.sub (Dp.mono (st3.frz.trans st4.frz) _ _ d2) d4 h3 fun z w H'' F'' hz o => ?_
    obtain ⟨b, e, q⟩ := o.bl hz
    obtain ⟨S5, st5⟩ := S4.ext o.ext
    exact ⟨b, e, k b ρ3 H'' F'' q S5 ((((st1.trans st2).trans st3).trans st4).trans st5)⟩
  | false => exact iteF ⟨false, rfl, k _ ρ2 H' F' q S3 ((st1.trans st2).trans st3)⟩
end
end DL
end
section
set_option Elab.async false
set_option linter.all false
set_option maxRecDepth 100000
/-! Data layer, third part: calls of defs, methods, classes. -/
namespace DL
open PySem PySem.Spec L2

/-- a def that keeps a promise and lets nothing out, where no repr runs around -/
structure FnG (P : Program) (w : World) (K : PySem.W.Frag) (mg : Str → Option Value) (base : Heap) (k : Nat) (f : Addr) (fd : FuncData) (ps : List Str) (sp : Sp) : Prop where
  len : ∀ vs H Q E, sp vs H Q E → vs.length = ps.length
  run : ∀ (A : Around) (outer : List Env) (s : Shared) (H : Hp) (args : Args) (us : List Value) (vs : List V) (Q : VK), Room k A → A.guards = some [] → Env0 P w K mg base A outer s H →
    BindsTo s fd args (ps.zip us) → Vals vs us → sp vs H Q E0 → codeAny (model P w) A (.call (.ref f) args) (CR CX0 outer P w H s Q E0) s
theorem FnG.mono {P : Program} {w : World} {K : PySem.W.Frag} {mg : Str → Option Value} {base : Heap} {j k : Nat} {f : Addr} {fd : FuncData} {ps : List Str} {sp : Sp} (F : FnG P w K mg base j f fd ps sp) (h : j ≤ k) :
    FnG P w K mg base k f fd ps sp := ⟨F.len, fun A outer s H args us vs Q hr => F.run A outer s H args us vs Q (hr.mono h)⟩
theorem FnG.of {P : Program} {w : World} {K : PySem.W.Frag} {mg : Str → Option Value} {base : Heap} {k : Nat} {f : Addr} {fd : FuncData} {ps : List Str} {sp : Sp} (F : FnOk P w K mg base CX0 k f fd ps sp) : FnG P w K mg base k f fd ps sp :=
  ⟨F.len, fun A outer s H args us vs Q hr _ => F.run A outer s H args us vs Q E0 hr⟩

/-- the body of a def, walked in the context of its call -/
theorem FnG.body {P : Program} {w : World} {K : PySem.W.Frag} {mg : Str → Option Value} {base : Heap} {k : Nat} {f : Addr} {x qual : Str} {params : Arguments} {body : List Stmt} {scope : Scope} {dvs : List V} {kws : List (Str × V)} {fd : FuncData} {N ps : List Str} {sp : Sp}
    (D : FunD K x qual params body scope dvs kws f fd) (S : FnScope N ps scope) (len : ∀ vs H Q E, sp vs H Q E → vs.length = ps.length)
    (hbody : ∀ (cdv : Value) (A : Around) (outer : List Env) (s : Shared) (H : Hp) (vs : List V) (Q : VK), Room k (A.deeper (PyProof.Rows.envOfC qual scope s.heap.objs.size f cdv)) → A.guards = some [] → sp vs H Q E0 →
      ∃ t, PSs (cxOf CX0 P w K mg base N qual scope f cdv A outer s H E0).nox body t ∧ t { nx := fun _ H' => Q .non H', rt := Q } (start N vs) H) : FnG P w K mg base (k + 1) f fd ps sp := by
  obtain ⟨oc, od, dV, kV, doc, pm, an, cdv, ct, osl, rfl, lk, hcd, _, _⟩ := D.ex
  refine ⟨len, fun A outer s H args us vs Q hr hG e0 hb r hsp => ?_⟩
  have hlen := len _ _ _ _ hsp
  have inH : K.In s.heap := e0.mod.kin.keeps fun b o e => (e0.bs b o e).1
  have nolim : s.heap.NoLimit := e0.mod.nolimit.keeps fun b o e => (e0.bs b o e).1
  have kinds : ∀ y ∈ ps.zip us, scope.names.lookup y.1 = some .local ∨ (scope.names.lookup y.1 = some .cell ∧ ((cellsFrom (s.heap.objs.size + 1) scope.names []).lookup y.1).isSome = true) := by
    rintro ⟨n, v⟩ hy
    rcases S.par n (List.of_mem_zip hy).1 with h | h
    · exact Or.inl h
    · exact Or.inr ⟨h, PySem.W.cellsFrom_some _ _ _ (Or.inl h)⟩
  refine codeAny_call_function hr.depth (inH _ _ lk) rfl S.co S.gen rfl (PySem.W.codeRec_of inH hcd) (hb _ _ _ _ ?_)
  refine wpAny_newFunctionEnv_cells S.kind kinds fun env he s1 inC => ?_
  subst he
  refine ⟨nolim.keeps inC.toInCall.keep, codeAny_func ?_⟩
  obtain ⟨t, ht, hq⟩ := hbody cdv A outer s H vs Q (hr.deeper _) hG hsp
  have I := inv_start (CX := CX0) (E := E0) S hr.hd e0 hlen r inC
  refine wpAny_mono (ht.nox.run [] s1 (start N vs) H _ I hq) (fun fl s' hs => ?_) fun e s' hs => hs
  cases fl with
  | ret u => obtain ⟨v, σ', H', J, rv, q⟩ := hs; exact ⟨v, H', J.os, J.bare, J.base, J.hok, rv, q⟩
  | next => obtain ⟨σ', H', J, q⟩ := hs; exact ⟨V.non, H', J.os, J.bare, J.base, J.hok, rfl, q⟩
  | brk => obtain ⟨_, _, _, q⟩ := hs; exact q.elim
  | cont => obtain ⟨_, _, _, q⟩ := hs; exact q.elim

section
variable {X : Cx} {k : Nat} {f C : Addr} {fd : FuncData} {ps : List Str} {sp : Sp} {ds : List Value} {dvs : List V} {pins : List (Addr × Obj)} {σ : L2.St} {H : Hp} {s : Shared} {Q : VK} {us : List Value} {vs : List V}
theorem runG (F : FnG X.prog X.w X.K X.mg X.base k f fd ps sp) (hr : Room k X.A) (hG : X.A.guards = some []) (hb : Binds X.K fd ps ds) (hd : Vals dvs ds) (I : Inv X pins σ H s) (r : Vals vs us) (h : sp (vs ++ dvs) H Q E0) :
    wpAny (model X.prog X.w) X.A (call (.ref f) us) (EP X pins σ Q) X.xe s := by
  have rr : Vals (vs ++ dvs) (us ++ ds) := r.append hd
  have ll : (us ++ ds).length = ps.length := rr.length.symm.trans (F.len _ _ _ _ h)
  refine wpAny_call (codeAny_mono (F.run X.A X.stack s H ⟨us, []⟩ _ _ Q hr hG I.env0 (hb s us I.kIn ll) rr h) fun res s' hq => ?_)
  cases res with
  | error e => exact (show False from hq).elim
  | ok fl =>
    cases fl with
    | ret u => exact I.after hq
    | next => exact (show False from hq).elim
    | brk => exact (show False from hq).elim
    | cont => exact (show False from hq).elim
theorem runMakeG (M : Mk X.K C f) (F : FnG X.prog X.w X.K X.mg X.base k f fd ps sp) (hr : Room (k + 1) X.A) (hG : X.A.guards = some []) (hb : Binds X.K fd ps ds) (hd : Vals dvs ds) (I : Inv X pins σ H s) (r : Vals vs us)
    (h : ∀ x dx, H x = none → H dx = none → dx ≠ x → sp (.ref x :: (vs ++ dvs)) (upd (upd H dx (.own x)) x (.ins C dx [])) (fun v H2 => v = .non ∧ Q (.ref x) H2) E0) :
    wpAny (model X.prog X.w) X.A (call (.ref C) us) (EP X pins σ Q) X.xe s := by
  have hq := h (s.heap.objs.size + 1) s.heap.objs.size (I.hok.fresh (Nat.le_succ _)) (I.hok.fresh (Nat.le_refl _)) (Nat.ne_of_lt (Nat.lt_succ_self _))
  have J := Inv.made (C := C) I
  have rr : Vals (V.ref (s.heap.objs.size + 1) :: (vs ++ dvs)) (Value.ref (s.heap.objs.size + 1) :: (us ++ ds)) := .cons rfl (r.append hd)
  have ll : (Value.ref (s.heap.objs.size + 1) :: us ++ ds).length = ps.length := rr.length.symm.trans (F.len _ _ _ _ hq)
  have gG : (X.A.under (.builtin "type.__call__" ⟨.ref C :: us, []⟩)).guards = some [] := by
    have e : (Code.builtin "type.__call__" ⟨.ref C :: us, []⟩).isGuard = false := by
      show guardIds.contains "type.__call__" = false
      decide +kernel
    simp only [Around.under, Code.guards, e, hG]
    rfl
  refine wpAny_call (make_map (f := f) I.kIn M.makes M.init (beq_iff_eq.mp M.fn) (codeAny_mono (F.run _ X.stack _ _ ⟨Value.ref (s.heap.objs.size + 1) :: us, []⟩ _ _ _ (hr.make C us []) gG
    (J.env0.make C us []) (hb _ (Value.ref (s.heap.objs.size + 1) :: us) J.kIn ll) rr hq) fun res s' hq' => ?_))
  cases res with
  | error e => exact (show False from hq').elim
  | ok fl =>
    cases fl with
    | ret u =>
      obtain ⟨v, H', I3, rv, ev, q3⟩ := J.after hq'
      subst ev
      exact ⟨rv, ⟨V.ref (s.heap.objs.size + 1), H', I3, rfl, q3⟩⟩
    | next => exact (show False from hq').elim
    | brk => exact (show False from hq').elim
    | cont => exact (show False from hq').elim
end

/-! ### promises by data -/
def spD (K : PySem.W.Frag) (W : ON) : Sp := fun vs H Q _ => ∃ F ds R, Same F H ∧ DpL K F ds vs ∧ W ds R ∧ ∀ z w H' F', R z → Out K H F z w H' F' → Q w H'
/-- the fields that __init__ leaves -/
abbrev IN := List D → (List Str → List D → Prop) → Prop
structure OutI (K : PySem.W.Frag) (H F : Hp) (a C : Addr) (ks : List Str) (xs : List D) (ws : List V) (H' F' : Hp) : Prop where
  at_ : ∃ dx, H' a = some (.ins C dx (ks.zip ws))
  len : ks.length = ws.length
  ok : DpL K F' xs ws
  none : F' a = none
  keep : ∀ b o, b ≠ a → H b = some o → H' b = some o
  sub : Same F' H'
  frz : ∀ b o, H b = some o → F' b = F b
def spI (K : PySem.W.Frag) (C : Addr) (W : IN) : Sp := fun vs H Q _ => ∃ F ds R a dx us, vs = .ref a :: us ∧ H a = some (.ins C dx []) ∧ F a = none ∧ Same F H ∧ DpL K F ds us ∧ W ds R ∧
  ∀ ks xs ws H' F', R ks xs → OutI K H F a C ks xs ws H' F' → Q .non H'

/-- the module's name x is a def with such defaults that keeps W -/
structure Def (P : Program) (w : World) (K : PySem.W.Frag) (mg : Str → Option Value) (base : Heap) (k : Nat) (x : Str) (dds : List D) (W : ON) : Prop where
  ex : ∃ f fd ps ds dvs, mg x = some (.ref f) ∧ PySem.W.keepIn K (.ref f) = true ∧ Binds K fd ps ds ∧ Vals dvs ds ∧ (∀ F, DpL K F dds dvs) ∧ FnG P w K mg base k f fd ps (spD K W)
/-- the class at C has the method m -/
structure Mth (P : Program) (w : World) (K : PySem.W.Frag) (mg : Str → Option Value) (base : Heap) (k : Nat) (C : Addr) (m : Str) (dds : List D) (W : ON) : Prop where
  cls : Cls K C
  ex : ∃ f fd ps ds dvs, Meth K C m f ∧ Binds K fd ps ds ∧ Vals dvs ds ∧ (∀ F, DpL K F dds dvs) ∧ FnG P w K mg base k f fd ps (spD K W)
/-- the module's name x is the class at C, its __init__ leaves such attributes -/
structure Cla (P : Program) (w : World) (K : PySem.W.Frag) (mg : Str → Option Value) (base : Heap) (k : Nat) (x : Str) (C : Addr) (dds : List D) (W : IN) : Prop where
  at_ : mg x = some (.ref C)
  ex : ∃ f fd ps ds dvs, Mk K C f ∧ Binds K fd ps ds ∧ Vals dvs ds ∧ (∀ F, DpL K F dds dvs) ∧ FnG P w K mg base k f fd ps (spI K C W)

def asIns (x : D) (k : Addr → List Str → List D → Prop) : Prop := match x with
  | .ins C ks xs => k C ks xs
  | _ => False
theorem asIns_of {x : D} {k : Addr → List Str → List D → Prop} (h : asIns x k) : ∃ C ks xs, x = .ins C ks xs ∧ k C ks xs := by
  cases x with
  | ins C ks xs => exact ⟨C, ks, xs, rfl, h⟩
  | _ => exact (show False from h).elim
/-- the field f -/
def fldD (f : Str) : List Str → List D → Option D
  | k :: ks, x :: xs => if k = f then some x else fldD f ks xs
  | _, _ => none
theorem fldD_at {K : PySem.W.Frag} {F : Hp} {f : Str} {x : D} : ∀ {ks : List Str} {xs : List D} {vs : List V}, ks.length = vs.length → DpL K F xs vs → fldD f ks xs = some x → ∃ v, (ks.zip vs).lookup f = some v ∧ Dp K F x v
  | [], _, _, _, _, h => by cases h
  | _ :: _, [], _, _, _, h => by cases h
  | k :: ks, y :: xs, vs, hl, hd, h => by
    obtain ⟨v, r, rfl, h1, h2⟩ := hd
    unfold fldD at h
    show ∃ w, ((k, v) :: ks.zip r).lookup f = some w ∧ _
    rw [List.lookup_cons]
    split at h
    · rename_i e
      cases h
      refine ⟨v, ?_, h1⟩
      rw [show (f == k) = true from beq_iff_eq.mpr e.symm]
    · rename_i e
      obtain ⟨w, e1, e2⟩ := fldD_at (ks := ks) (xs := xs) (vs := r) (by simpa using hl) h2 h
      refine ⟨w, ?_, e2⟩
      rw [show (f == k) = false from beq_eq_false_iff_ne.mpr fun z => e z.symm]
      exact e1
def noFld (f : Str) : List Str → Bool
  | [] => true
  | k :: ks => decide (k ≠ f) && noFld f ks
theorem noFld_lookup {f : Str} : ∀ {ks : List Str} {vs : List V}, noFld f ks = true → (ks.zip vs).lookup f = none
  | [], _, _ => rfl
  | _ :: _, [], _ => rfl
  | k :: ks, v :: vs, h => by
    obtain ⟨h1, h2⟩ := Bool.and_eq_true_iff.mp (show (decide (k ≠ f) && noFld f ks) = true from h)
    show ((k, v) :: ks.zip vs).lookup f = none
    rw [List.lookup_cons, show (f == k) = false from beq_eq_false_iff_ne.mpr fun z => (of_decide_eq_true h1) z.symm]
    exact noFld_lookup h2
/-- the field may be read off instances of the class at C -/
structure Fld (K : PySem.W.Frag) (C : Addr) (f : Str) : Prop where
  cls : Cls K C
  no : NoAttr K C f

def dFld (K : PySem.W.Frag) (f : Str) (ta : ET) : ET := fun ρ Q => ta ρ fun x ρ1 => asIns x.toD fun C ks xs => Fld K C f ∧ match fldD f ks xs with
  | some d => Q (.d d) ρ1
  | none => False
def dMeth (C : Addr) (m : Str) (W : ON) (ta : ET) (t : ATD) : ET := fun ρ Q => ta ρ fun x ρ1 => asIns x.toD fun C' ks xs => C' = C ∧ noFld m ks = true ∧ t ρ1 fun ds ρ2 => W (x.toD :: ds) fun z => Q z ρ2
def dMake (C : Addr) (W : IN) (t : ATD) : ET := fun ρ Q => t ρ fun ds ρ1 => W ds fun ks xs => Q (.o (.ins C ks xs)) ρ1

section
variable {X : Cx} {k : Nat} {C : Addr} {dds : List D} {W : ON} {WI : IN} {x m : Str} {p pos apos : Pos} {e o : Expr} {es : List Expr} {ta : ET} {t : ATD}
theorem de_call (G : Def X.prog X.w X.K X.mg X.base k x dds W) (hr : Room k X.A) (hG : X.A.guards = some []) (ha : DA X (e :: es) t) (hg : Gl X x := by rfl) (hdb : (x == ("__debug__" : Str)) = false := by decide)
    (he : starEach (e :: es) X.env = (false, eval e X.env) :: starEach es X.env := by rfl) (hpl : (backTo pos (starEach es X.env)).any (·.1) = false := by rfl) : DE X (.Call (.Name x p) (e :: es) [] pos) (dCall (fun ds R => W (ds ++ dds) R) t) := by
  obtain ⟨f, fd, ps, dsv, dvs, hm, hk, hb, hd, hdd, F⟩ := G.ex
  refine ⟨fun pins s σ H Q I q => ?_⟩
  obtain ⟨E, ρ, F0, R, S, h, kk⟩ := q
  refine wpAny_Call_Name_kw (ld_glob I hg hm ?_ hdb)
  refine PySem.W.callWith_K (h₀ := X.base) I.ok.mod.kin hk (thn (ha.run pos pins s σ H (fun vs H1 => spD X.K W (vs ++ dvs) H1 Q E0) I ?_) fun us s1 ⟨vs, H1, I1, r, q⟩ => ⟨I1.kIn, ?_⟩) he hpl
  · refine useA S h fun xs ρ1 vs H1 F1 h1 S1 st1 d1 => ?_
    exact ⟨F1, xs ++ dds, _, S1.sub, d1.app (hdd F1), h1, fun z w H' F' hz o => kk z ρ1 w H' F' hz (o.eok S1 st1)⟩
  · exact runG F hr hG hb hd I1 r q
theorem de_call0 (G : Def X.prog X.w X.K X.mg X.base k x dds W) (hr : Room k X.A) (hG : X.A.guards = some []) (hg : Gl X x := by rfl) (hdb : (x == ("__debug__" : Str)) = false := by decide) : DE X (.Call (.Name x p) [] [] pos) (dCall (fun ds R => W (ds ++ dds) R) dNil) := by
  obtain ⟨f, fd, ps, dsv, dvs, hm, hk, hb, hd, hdd, F⟩ := G.ex
  refine ⟨fun pins s σ H Q I q => ?_⟩
  obtain ⟨E, ρ, F0, R, S, h, kk⟩ := q
  refine wpAny_Call_Name_kw (ld_glob I hg hm ?_ hdb)
  refine PySem.W.callWith_K0 I.kIn hk (runG (us := []) (vs := []) F hr hG hb hd I .nil ?_)
  exact ⟨F0, [] ++ dds, _, S.sub, hdd F0, h, fun z w H' F' hz o => kk z ρ w H' F' hz (o.eok S .refl)⟩
theorem de_fld (ha : DE X e ta) (hb : attributeBase e m X.env (eval e X.env) = eval e X.env := by rfl) : DE X (.Attribute e m pos) (dFld X.K m ta) := PE.imp (pe_fld ha hb) fun σ H Q q => by
  obtain ⟨E, ρ, F, R, S, h, k⟩ := q
  refine useE S h fun y ρ1 v H1 F1 h1 S1 st1 d1 => ?_
  obtain ⟨C, ks, xs, e1, fl, h2⟩ := asIns_of h1
  rw [e1] at d1
  obtain ⟨a, dx, vs, rfl, g1, g2, g3⟩ := d1
  cases e2 : fldD m ks xs with
  | none => rw [e2] at h2; exact h2.elim
  | some d =>
    rw [e2] at h2
    obtain ⟨w, l1, l2⟩ := fldD_at g2 g3 e2
    exact ⟨a, C, dx, _, w, rfl, S1.sub _ _ g1, fl.cls, fl.no, l1, k _ ρ1 w H1 F1 h2 (EOk.data S1 st1 l2)⟩
theorem de_meth {pl : Sem Bool} (G : Mth X.prog X.w X.K X.mg X.base k C m dds W) (ho : DE X o ta) (hr : Room k X.A) (hG : X.A.guards = some []) (ha : DA X (e :: es) t)
    (hst : starEach (e :: es) X.env = (false, eval e X.env) :: starEach es X.env := by rfl) (hpl : (backTo pos (starEach es X.env)).any (·.1) = false := by rfl)
    (ht : eval (.Call (.Attribute o m apos) (e :: es) [] pos) X.env = (do
      let ov ← eval o X.env
      standAt apos.atName
      let (f, first) ← holding [ov] (getMethod ov m pl)
      callWith pos f first (backTo pos (starEach (e :: es) X.env)) (backToKw pos (keywordEach [] X.env))) := by rfl) :
    DE X (.Call (.Attribute o m apos) (e :: es) [] pos) (dMeth C m (fun ds R => W (ds ++ dds) R) ta t) := by
  obtain ⟨f, fd, ps, dsv, dvs, hm, hb, hd, hdd, F⟩ := G.ex
  refine ⟨fun pins s σ H Q I q => ?_⟩
  obtain ⟨E, ρ, F0, R, S, h, kk⟩ := q
  refine PySem.W.methodCall_KW (pl := pl) (thn (ho.run pins s σ H (fun v H1 => ∃ a dx fs, v = .ref a ∧ H1 a = some (.ins C dx fs) ∧ fs.lookup m = none ∧ liftA X.K t σ H1 fun vs H2 => spD X.K W (.ref a :: (vs ++ dvs)) H2 Q E0) I ?_) fun u s1 ⟨v, H1, I1, rv, a, dx, fs, ev, ea, l, q⟩ => ?_) ht
  · refine useE S h fun y ρ1 v H1 F1 h1 S1 st1 d1 => ?_
    obtain ⟨C', ks, xs, e1, rfl, h2, h3⟩ := asIns_of h1
    have d1' := d1
    rw [e1] at d1'
    obtain ⟨a, dx, vs, rfl, g1, g2, g3⟩ := d1'
    refine ⟨a, dx, _, rfl, S1.sub _ _ g1, noFld_lookup h2, useA S1 h3 fun zs ρ2 us H2 F2 h4 S2 st2 d2 => ?_⟩
    exact ⟨F2, y.toD :: (zs ++ dds), _, S2.sub, DpL.cons (Dp.mono st2.frz _ _ d1) (d2.app (hdd F2)), h4, fun z w H' F' hz o => kk z ρ2 w H' F' hz (o.eok S2 (st1.trans st2))⟩
  · subst ev
    obtain rfl : u = Value.ref a := rv
    refine getmeth_ok I1 ea G.cls hm l ?_
    refine PySem.W.callWith_K (first := [.ref a]) (h₀ := X.base) I.ok.mod.kin hm.kp (thn (ha.run pos pins s1 σ H1 _ I1 q) fun us s2 ⟨vs, H2, I2, r, q2⟩ => ⟨I2.kIn, ?_⟩) hst hpl
    exact runG (us := .ref a :: us) (vs := .ref a :: vs) F hr hG hb hd I2 (.cons rfl r) q2
theorem de_meth0 {pl : Sem Bool} (G : Mth X.prog X.w X.K X.mg X.base k C m dds W) (ho : DE X o ta) (hr : Room k X.A) (hG : X.A.guards = some [])
    (ht : eval (.Call (.Attribute o m apos) [] [] pos) X.env = (do
      let ov ← eval o X.env
      standAt apos.atName
      let (f, first) ← holding [ov] (getMethod ov m pl)
      callWith pos f first (backTo pos (starEach [] X.env)) (backToKw pos (keywordEach [] X.env))) := by rfl) :
    DE X (.Call (.Attribute o m apos) [] [] pos) (dMeth C m (fun ds R => W (ds ++ dds) R) ta dNil) := by
  obtain ⟨f, fd, ps, dsv, dvs, hm, hb, hd, hdd, F⟩ := G.ex
  refine ⟨fun pins s σ H Q I q => ?_⟩
  obtain ⟨E, ρ, F0, R, S, h, kk⟩ := q
  refine PySem.W.methodCall_KW (pl := pl) (thn (ho.run pins s σ H (fun v H1 => ∃ a dx fs, v = .ref a ∧ H1 a = some (.ins C dx fs) ∧ fs.lookup m = none ∧ spD X.K W (.ref a :: dvs) H1 Q E0) I ?_) fun u s1 ⟨v, H1, I1, rv, a, dx, fs, ev, ea, l, q⟩ => ?_) ht
  · refine useE S h fun y ρ1 v H1 F1 h1 S1 st1 d1 => ?_
    obtain ⟨C', ks, xs, e1, rfl, h2, h3⟩ := asIns_of h1
    have d1' := d1
    rw [e1] at d1'
    obtain ⟨a, dx, vs, rfl, g1, g2, g3⟩ := d1'
    refine ⟨a, dx, _, rfl, S1.sub _ _ g1, noFld_lookup h2, ?_⟩
    exact ⟨F1, y.toD :: dds, _, S1.sub, DpL.cons d1 (hdd F1), h3, fun z w H' F' hz o => kk z ρ1 w H' F' hz (o.eok S1 st1)⟩
  · subst ev
    obtain rfl : u = Value.ref a := rv
    refine getmeth_ok I1 ea G.cls hm l ?_
    exact PySem.W.callWith_K0 (first := [.ref a]) I1.kIn hm.kp (runG (us := [.ref a]) (vs := [.ref a]) F hr hG hb hd I1 (.cons rfl .nil) q)
theorem Out.made {K : PySem.W.Frag} {H F H' F' : Hp} {x dx C : Addr} {ks : List Str} {xs : List D} {ws : List V} (s : Same F H) (nx : H x = none) (nd : H dx = none) (o : OutI K (upd (upd H dx (.own x)) x (.ins C dx [])) F x C ks xs ws H' F') : Out K H F (.o (.ins C ks xs)) (.ref x) H' F' := by
  have up : ∀ b u, H b = some u → b ≠ x ∧ (upd (upd H dx (.own x)) x (.ins C dx [])) b = some u := fun b u q => by
    refine ⟨ne_of_none q nx, ?_⟩
    rw [upd_ne (ne_of_none q nx), upd_ne (ne_of_none q nd)]
    exact q
  exact ⟨⟨fun b u q => o.keep b u (up b u q).1 (up b u q).2, o.sub, fun b u q => o.frz b u (up b u q).2⟩, (let ⟨dy, hy⟩ := o.at_; ⟨x, rfl, o.none, dy, ws, hy, o.len, o.ok⟩), fun b a e1 e2 => by
    cases e1; cases e2
    exact ⟨nx, rfl⟩⟩
theorem same_made {H F : Hp} {x dx C : Addr} (s : Same F H) (nx : H x = none) (nd : H dx = none) : Same F (upd (upd H dx (.own x)) x (.ins C dx [])) := fun b u q => by
  rw [upd_ne (ne_of_none (s b u q) nx), upd_ne (ne_of_none (s b u q) nd)]
  exact s b u q
theorem de_make (G : Cla X.prog X.w X.K X.mg X.base k x C dds WI) (hr : Room (k + 1) X.A) (hG : X.A.guards = some []) (ha : DA X (e :: es) t) (hg : Gl X x := by rfl) (hdb : (x == ("__debug__" : Str)) = false := by decide)
    (he : starEach (e :: es) X.env = (false, eval e X.env) :: starEach es X.env := by rfl) (hpl : (backTo pos (starEach es X.env)).any (·.1) = false := by rfl) : DE X (.Call (.Name x p) (e :: es) [] pos) (dMake C (fun ds R => WI (ds ++ dds) R) t) := by
  obtain ⟨f, fd, ps, dsv, dvs, M, hb, hd, hdd, F⟩ := G.ex
  refine ⟨fun pins s σ H Q I q => ?_⟩
  obtain ⟨E, ρ, F0, R, S, h, kk⟩ := q
  refine wpAny_Call_Name_kw (ld_glob I hg G.at_ ?_ hdb)
  refine PySem.W.callWith_K (h₀ := X.base) I.ok.mod.kin M.kp (thn (ha.run pos pins s σ H (fun vs H1 => ∀ x dx, H1 x = none → H1 dx = none → dx ≠ x → spI X.K C WI (.ref x :: (vs ++ dvs)) (upd (upd H1 dx (.own x)) x (.ins C dx [])) (fun v H2 => v = .non ∧ Q (.ref x) H2) E0) I ?_) fun us s1 ⟨vs, H1, I1, r, q⟩ => ⟨I1.kIn, ?_⟩) he hpl
  · refine useA S h fun xs ρ1 vs H1 F1 h1 S1 st1 d1 => ?_
    intro x dx nx nd ne
    exact ⟨F1, xs ++ dds, _, x, dx, _, rfl, upd_same, S1.sub.free nx, same_made S1.sub nx nd, d1.app (hdd F1), h1, fun ks ys ws H' F' hr o => ⟨rfl, kk _ ρ1 _ H' F' hr ((Out.made S1.sub nx nd o).eok S1 st1)⟩⟩
  · exact runMakeG M F hr hG hb hd I1 r q
theorem de_make0 (G : Cla X.prog X.w X.K X.mg X.base k x C dds WI) (hr : Room (k + 1) X.A) (hG : X.A.guards = some []) (hg : Gl X x := by rfl) (hdb : (x == ("__debug__" : Str)) = false := by decide) : DE X (.Call (.Name x p) [] [] pos) (dMake C (fun ds R => WI (ds ++ dds) R) dNil) := by
  obtain ⟨f, fd, ps, dsv, dvs, M, hb, hd, hdd, F⟩ := G.ex
  refine ⟨fun pins s σ H Q I q => ?_⟩
  obtain ⟨E, ρ, F0, R, S, h, kk⟩ := q
  refine wpAny_Call_Name_kw (ld_glob I hg G.at_ ?_ hdb)
  refine PySem.W.callWith_K0 I.kIn M.kp (runMakeG (us := []) (vs := []) M F hr hG hb hd I .nil ?_)
  intro x dx nx nd ne
  exact ⟨F0, [] ++ dds, _, x, dx, _, rfl, upd_same, S.sub.free nx, same_made S.sub nx nd, hdd F0, h, fun ks ys ws H' F' hr o => ⟨rfl, kk _ ρ _ H' F' hr ((Out.made S.sub nx nd o).eok S .refl)⟩⟩
end
end DL
end
section
set_option Elab.async false
set_option linter.all false
set_option maxRecDepth 100000
/-! Data layer, fourth part: statements, loops, comprehensions, own objects of a slot. -/
namespace DL
open PySem PySem.Spec L2

structure DEnds where
  nx : Rho → Prop
  rt : RD → Prop
  bk : Rho → Prop := fun _ => False
  ct : Rho → Prop := fun _ => False
  /-- a pair handed back: a fresh list, data -/
  rp : List D → List D → Prop := fun _ _ => False
abbrev DTS := DEnds → Rho → Prop
/-- a value handed back -/
structure ROk (K : PySem.W.Frag) (E : Ent) (H F : Hp) (r : RD) (v : V) : Prop where
  sub : Same F H
  keep : ∀ a o, E.x ≠ some a → E.H0 a = some o → H a = some o
  frz : ∀ a o, E.H0 a = some o → F a = E.F0 a
  ok : RdOk K F H r v
  new : ∀ b a, r = .o b → v = .ref a → E.H0 a = none ∧ b.isSlf = false
/-- a fresh tuple of a fresh list and data, handed back -/
structure PPk (K : PySem.W.Frag) (E : Ent) (H F : Hp) (xs rest : List D) (v : V) : Prop where
  sub : Same F H
  keep : ∀ a o, E.x ≠ some a → E.H0 a = some o → H a = some o
  frz : ∀ a o, E.H0 a = some o → F a = E.F0 a
  at_ : ∃ p a ws vs, v = .ref p ∧ H p = some (.tup (.ref a :: vs)) ∧ H a = some (.lst ws) ∧ F a = none ∧ DpL K F xs ws ∧ DpL K F rest vs ∧ E.H0 p = none ∧ E.H0 a = none
structure Cont (K : PySem.W.Frag) (E : Ent) (F : Hp) (De : DEnds) (Dn : Ends) : Prop where
  nx : ∀ σ H ρ F', St2 K E σ H ρ F' → Same F F' → De.nx ρ → Dn.nx σ H
  bk : ∀ σ H ρ F', St2 K E σ H ρ F' → Same F F' → De.bk ρ → Dn.bk σ H
  ct : ∀ σ H ρ F', St2 K E σ H ρ F' → Same F F' → De.ct ρ → Dn.ct σ H
  rt : ∀ r v H F', ROk K E H F' r v → De.rt r → Dn.rt v H
  rp : ∀ xs rest v H F', PPk K E H F' xs rest v → De.rp xs rest → Dn.rt v H
def liftS (K : PySem.W.Frag) (t : DTS) : TS := fun Dn σ H => ∃ E ρ F De, St2 K E σ H ρ F ∧ t De ρ ∧ Cont K E F De Dn
abbrev DS (X : Cx) (st : Stmt) (t : DTS) : Prop := PS X st (liftS X.K t)
abbrev DSs (X : Cx) (st : List Stmt) (t : DTS) : Prop := PSs X st (liftS X.K t)
theorem PS.imp {X : Cx} {e : Stmt} {t t' : TS} (h : PS X e t) (i : ∀ D σ H, t' D σ H → t D σ H) : PS X e t' := ⟨fun pins s σ H Q I q => h.run pins s σ H Q I (i Q σ H q)⟩
theorem PSs.imp {X : Cx} {e : List Stmt} {t t' : TS} (h : PSs X e t) (i : ∀ D σ H, t' D σ H → t D σ H) : PSs X e t' := ⟨fun pins s σ H Q I q => h.run pins s σ H Q I (i Q σ H q)⟩
theorem PI.imp {X : Cx} {tg e : Expr} {t t' : TI} (h : PI X tg e t) (i : ∀ σ H Q, t' σ H Q → t σ H Q) : PI X tg e t' := ⟨fun pins s σ H Q I q => h.run pins s σ H Q I (i σ H Q q)⟩
theorem Cont.mono {K : PySem.W.Frag} {E : Ent} {F F' : Hp} {De : DEnds} {Dn : Ends} (C : Cont K E F De Dn) (e : Same F F') : Cont K E F' De Dn :=
  ⟨fun σ H ρ G S s => C.nx σ H ρ G S (e.trans s), fun σ H ρ G S s => C.bk σ H ρ G S (e.trans s), fun σ H ρ G S s => C.ct σ H ρ G S (e.trans s), C.rt, C.rp⟩
theorem EOk.rok {K : PySem.W.Frag} {E : Ent} {σ : Sig} {H H' : Hp} {ρ ρ' : Rho} {F F' : Hp} {r : RD} {v : V} (o : EOk K E σ H ρ F r v H' ρ' F') : ROk K E H' F' r v :=
  ⟨o.st.sub, o.st.keep, o.st.frz, o.ok, fun b a e1 e2 => ⟨(o.new b a e1 e2).1, (o.new b a e1 e2).2.1⟩⟩

def dNext : DTS := fun De ρ => De.nx ρ
def dSeq (t u : DTS) : DTS := fun De ρ => t { De with nx := u De } ρ
def dExpr (te : ET) : DTS := fun De ρ => te ρ fun _ ρ' => De.nx ρ'
def dRet (te : ET) : DTS := fun De ρ => te ρ fun r _ => De.rt r
def dRetN : DTS := fun De _ => De.rt (.d .non)
def rtVar (o : Option (Option RD)) (Q : RD → Prop) : Prop := match o with
  | some (some (.d x)) => Q (.d x)
  | some (some (.o (.slf _ _ _))) => False
  | some (some (.o b)) => Q (.o b)
  | _ => False
def dRetV (i : Nat) : DTS := fun De ρ => rtVar ρ[i]? De.rt
def dIfS (c : TTD) (t u : DTS) : DTS := fun De ρ => c ρ fun b ρ1 => match b with
  | true => t De ρ1
  | false => u De ρ1
def dAsg (i : Nat) (te : ET) : DTS := fun De ρ => te ρ fun r ρ1 => De.nx (ρ1.set i (some r))
def dNever : DTS := fun _ _ => False

section
variable {X : Cx} {st : Stmt} {rest : List Stmt} {t u : DTS} {e : Expr} {te : ET} {pos : Pos}
theorem dss_nil : DSs X [] dNext := PSs.imp pss_nil fun D σ H q => by
  obtain ⟨E, ρ, F, De, S, h, C⟩ := q
  exact C.nx σ H ρ F S (Same.refl F) h
theorem dss_cons (h1 : DS X st t) (h2 : DSs X rest u) : DSs X (st :: rest) (dSeq t u) := PSs.imp (pss_cons h1 h2) fun D σ H q => by
  obtain ⟨E, ρ, F, De, S, h, C⟩ := q
  exact ⟨E, ρ, F, { De with nx := u De }, S, h, ⟨fun σ' H' ρ' F' S' s q => ⟨E, ρ', F', De, S', q, C.mono s⟩, C.bk, C.ct, C.rt, C.rp⟩⟩
theorem dss_one (h1 : DS X st t) : DSs X [st] t := pss_one h1
theorem dss_never {sts : List Stmt} : DSs X sts dNever := PSs.imp pss_never fun D σ H q => by
  obtain ⟨E, ρ, F, De, S, h, C⟩ := q
  exact h
theorem ds_never : DS X st dNever := PS.imp ps_never fun D σ H q => by
  obtain ⟨E, ρ, F, De, S, h, C⟩ := q
  exact h
theorem ds_pass : DS X (.Pass pos) dNext := PS.imp ps_pass fun D σ H q => by
  obtain ⟨E, ρ, F, De, S, h, C⟩ := q
  exact C.nx σ H ρ F S (Same.refl F) h
def dBreak : DTS := fun De ρ => De.bk ρ
theorem ds_break : DS X (.Break pos) dBreak := PS.imp ps_break fun D σ H q => by
  obtain ⟨E, ρ, F, De, S, h, C⟩ := q
  exact C.bk σ H ρ F S (Same.refl F) h
theorem ds_expr (he : DE X e te) (hs : swapsWith e none pos.line X.env = pure false := by rfl) : DS X (.Expr e pos) (dExpr te) := PS.imp (ps_expr he hs) fun D σ H q => by
  obtain ⟨E, ρ, F, De, S, h, C⟩ := q
  exact useE S h fun r ρ' v H' F' hr S' st' d => C.nx σ H' ρ' F' S' st'.frz hr
theorem ds_ret (he : DE X e te) : DS X (.Return (some e) pos) (dRet te) := PS.imp (ps_ret he) fun D σ H q => by
  obtain ⟨E, ρ, F, De, S, h, C⟩ := q
  exact ⟨E, ρ, F, _, S, h, fun r ρ' v H' F' hr o => C.rt r v H' F' o.rok hr⟩
theorem ds_retN : DS X (.Return none pos) dRetN := PS.imp ps_retN fun D σ H q => by
  obtain ⟨E, ρ, F, De, S, h, C⟩ := q
  exact C.rt (.d .non) .non H F ⟨S.sub, S.keep, S.frz, rfl, fun _ _ e => nomatch e⟩ h
theorem ds_retV {i : Nat} (he : PE X e (tVar i)) : DS X (.Return (some e) pos) (dRetV i) := PS.imp (ps_ret he) fun D σ H q => by
  obtain ⟨E, ρ, F, De, S, h, C⟩ := q
  have h' : rtVar ρ[i]? De.rt := h
  cases e1 : ρ[i]? with
  | none => rw [e1] at h'; exact h'.elim
  | some o =>
    cases o with
    | none => rw [e1] at h'; exact h'.elim
    | some r =>
      rw [e1] at h'
      obtain ⟨v, g1, g2⟩ := S.slot i r e1
      refine ⟨v, g1, ?_⟩
      cases r with
      | d x => exact C.rt _ v H F ⟨S.sub, S.keep, S.frz, g2, fun _ _ e => nomatch e⟩ h'
      | o b =>
        have hs : b.isSlf = false ∧ De.rt (.o b) := by
          cases b with
          | slf C ks xs => exact (show False from h').elim
          | lst xs => exact ⟨rfl, h'⟩
          | ins C ks xs => exact ⟨rfl, h'⟩
          | dk ks xs => exact ⟨rfl, h'⟩
          | dt ks xs => exact ⟨rfl, h'⟩
        refine C.rt _ v H F ⟨S.sub, S.keep, S.frz, g2, fun b' a e e' => ?_⟩ hs.2
        cases e
        subst e'
        rcases S.own0 i b a e1 g1 with ⟨z, _⟩ | ⟨_, z⟩
        · rw [hs.1] at z; cases z
        · exact ⟨z, hs.1⟩
theorem ds_if {c : Expr} {a b : List Stmt} {tc : TTD} (hc : DT X c tc) (ha : DSs X a t) (hb : DSs X b u) : DS X (.If c a b pos) (dIfS tc t u) := PS.imp (ps_if hc ha hb) fun D σ H q => by
  obtain ⟨E, ρ, F, De, S, h, C⟩ := q
  refine useT S h fun k ρ' H' F' hr S' st' => ?_
  cases k with
  | true => exact iteT ⟨E, ρ', F', De, S', hr, C.mono st'.frz⟩
  | false => exact iteF ⟨E, ρ', F', De, S', hr, C.mono st'.frz⟩
theorem asg_of {i : Nat} (h : PS X st (tAsg (liftE X.K te) (gName i))) : DS X st (dAsg i te) := PS.imp h fun D σ H q => by
  obtain ⟨E, ρ, F, De, S, h, C⟩ := q
  exact ⟨E, ρ, F, _, S, h, fun r ρ' v H' F' hr o => C.nx _ H' _ F' (o.st.put i o.ok fun b a e1 e2 => ⟨(o.new b a e1 e2).1, (o.new b a e1 e2).2.1, (o.new b a e1 e2).2.2.1⟩) o.stp.frz hr⟩
theorem ds_set {i : Nat} {x : Str} {pos' : Pos} (hN : X.N.Nodup) (he : DE X e te) (hi : X.N[i]? = some x := by rfl) (hx : Loc X.env.scope x := by first | exact Or.inl rfl | exact Or.inr rfl) (hs : swapsWith e (some (.Name x pos')) pos.line X.env = pure false := by rfl)
    (hf : X.fn x = true ∨ X.env.scope.names.lookup x = some .local := by first | exact .inl rfl | exact .inr rfl | assumption) : DS X (.Assign [.Name x pos'] e pos) (dAsg i te) := asg_of (ps_set hN hi hx he hs hf)

/-! ### targets -/
inductive Pat where
  | nm (i : Nat)
  | tp (ps : List Pat)
mutual
def gPat (K : PySem.W.Frag) : Pat → TG
  | .nm i => gName i
  | .tp ps => gTup K (lenP ps) (gPats K ps)
def gPats (K : PySem.W.Frag) : List Pat → TGs
  | [] => gNil
  | p :: ps => gCons (gPat K p) (gPats K ps)
def lenP : List Pat → Nat
  | [] => 0
  | _ :: ps => lenP ps + 1
end
mutual
def bindPat : Pat → D → Rho → (Rho → Prop) → Prop
  | .nm i, d, ρ, Q => Q (ρ.set i (some (.d d)))
  | .tp ps, d, ρ, Q => match d with
    | .tup ds => bindPats ps ds ρ Q
    | _ => False
def bindPats : List Pat → List D → Rho → (Rho → Prop) → Prop
  | [], ds, ρ, Q => match ds with
    | [] => Q ρ
    | _ => False
  | p :: ps, ds, ρ, Q => match ds with
    | d :: ds => bindPat p d ρ fun ρ' => bindPats ps ds ρ' Q
    | _ => False
end
mutual
def Pat.ixs : Pat → List Nat
  | .nm i => [i]
  | .tp ps => ixsP ps
def ixsP : List Pat → List Nat
  | [] => []
  | p :: ps => p.ixs ++ ixsP ps
end
/-- from one state to another: other values at these places alone, all data -/
structure Off (vs : List Nat) (σ : Sig) (ρ : Rho) (σ' : Sig) (ρ' : Rho) : Prop where
  len : σ'.length = σ.length
  at_ : ∀ j : Nat, j ∉ vs → σ'[j]? = σ[j]? ∧ ρ'[j]? = ρ[j]?
  dec : ∀ (i : Nat) (b : OB), ρ'[i]? = some (some (.o b)) → ρ[i]? = some (some (.o b))
theorem Off.refl {vs : List Nat} {σ : Sig} {ρ : Rho} : Off vs σ ρ σ ρ := ⟨rfl, fun _ _ => ⟨rfl, rfl⟩, fun _ _ h => h⟩
theorem Off.trans {vs : List Nat} {σ σ1 σ2 : Sig} {ρ ρ1 ρ2 : Rho} (a : Off vs σ ρ σ1 ρ1) (b : Off vs σ1 ρ1 σ2 ρ2) : Off vs σ ρ σ2 ρ2 :=
  ⟨b.len.trans a.len, fun j h => ⟨(b.at_ j h).1.trans (a.at_ j h).1, (b.at_ j h).2.trans (a.at_ j h).2⟩, fun i b' h => a.dec i b' (b.dec i b' h)⟩
theorem Off.mono {vs ws : List Nat} {σ σ1 : Sig} {ρ ρ1 : Rho} (a : Off vs σ ρ σ1 ρ1) (h : ∀ j ∈ vs, j ∈ ws) : Off ws σ ρ σ1 ρ1 := ⟨a.len, fun j hj => a.at_ j fun z => hj (h j z), a.dec⟩
section
variable {K : PySem.W.Frag} {E : Ent} {F H : Hp}
theorem len_pats : ∀ {ps : List Pat} {ds : List D} {ρ : Rho} {Q : Rho → Prop}, bindPats ps ds ρ Q → ds.length = lenP ps
  | [], [], _, _, _ => rfl
  | [], _ :: _, _, _, h => (show False from h).elim
  | _ :: _, [], _, _, h => (show False from h).elim
  | p :: ps, d :: r, ρ, Q, h => by
    show r.length + 1 = lenP ps + 1
    obtain ⟨ρ', q⟩ := ex_of p (show bindPat p d ρ fun ρ' => bindPats ps r ρ' Q from h)
    rw [len_pats q]
where
  ex_of : ∀ (p : Pat) {d : D} {ρ : Rho} {R : Rho → Prop}, bindPat p d ρ R → ∃ ρ', R ρ'
    | .nm i, d, ρ, R, h => ⟨_, h⟩
    | .tp ps, .tup ds, ρ, R, h => exs_of ps h
    | .tp ps, .non, ρ, R, h => (show False from h).elim
    | .tp ps, .bl _, ρ, R, h => (show False from h).elim
    | .tp ps, .int _, ρ, R, h => (show False from h).elim
    | .tp ps, .str _, ρ, R, h => (show False from h).elim
    | .tp ps, .raw _, ρ, R, h => (show False from h).elim
    | .tp ps, .lst _, ρ, R, h => (show False from h).elim
    | .tp ps, .ins _ _ _, ρ, R, h => (show False from h).elim
    | .tp ps, .dk _ _, ρ, R, h => (show False from h).elim
    | .tp ps, .dt _ _, ρ, R, h => (show False from h).elim
    | .tp ps, .bag, ρ, R, h => (show False from h).elim
    | .tp ps, .scr _, ρ, R, h => (show False from h).elim
  exs_of : ∀ (ps : List Pat) {ds : List D} {ρ : Rho} {R : Rho → Prop}, bindPats ps ds ρ R → ∃ ρ', R ρ'
    | [], [], ρ, R, h => ⟨ρ, h⟩
    | [], _ :: _, ρ, R, h => (show False from h).elim
    | p :: ps, [], ρ, R, h => (show False from h).elim
    | p :: ps, d :: ds, ρ, R, h => by
      obtain ⟨ρ1, q⟩ := ex_of p h
      exact exs_of ps q
mutual
theorem pat_ok : ∀ (p : Pat) {d : D} {v : V} {σ : Sig} {ρ : Rho} {R : Rho → Prop} {Q : Sig → Hp → Prop}, St2 K E σ H ρ F → Dp K F d v → bindPat p d ρ R →
    (∀ σ' ρ', St2 K E σ' H ρ' F → Off p.ixs σ ρ σ' ρ' → R ρ' → Q σ' H) → gPat K p v σ H Q
  | .nm i, d, v, σ, ρ, R, Q, S, hd, h, k => by
    refine k _ _ (S.put i (r := .d d) hd fun _ _ e => nomatch e) ⟨by simp, fun j hj => ?_, fun j b q => ?_⟩ h
    · have ne : i ≠ j := fun z => hj (by simp [Pat.ixs, z])
      exact ⟨List.getElem?_set_ne ne, List.getElem?_set_ne ne⟩
    · rcases getElem?_set_cases q with ⟨_, e, _⟩ | ⟨_, q⟩
      · cases e
      · exact q
  | .tp ps, d, v, σ, ρ, R, Q, S, hd, h, k => by
    cases d with
    | tup ds =>
      obtain ⟨a, vs, rfl, h1, h2⟩ := hd
      refine ⟨a, vs, rfl, .inl (.inl (S.sub _ _ h1)), ?_, pats_ok ps S h2 h k⟩
      rw [← h2.len]
      exact len_pats (show bindPats ps ds ρ R from h)
    | _ => exact (show False from h).elim
theorem pats_ok : ∀ (ps : List Pat) {ds : List D} {vs : List V} {σ : Sig} {ρ : Rho} {R : Rho → Prop} {Q : Sig → Hp → Prop}, St2 K E σ H ρ F → DpL K F ds vs → bindPats ps ds ρ R →
    (∀ σ' ρ', St2 K E σ' H ρ' F → Off (ixsP ps) σ ρ σ' ρ' → R ρ' → Q σ' H) → gPats K ps vs σ H Q
  | [], ds, vs, σ, ρ, R, Q, S, hd, h, k => by
    cases ds with
    | nil =>
      have e : vs = [] := hd
      subst e
      exact ⟨rfl, k _ _ S .refl h⟩
    | cons d r => exact (show False from h).elim
  | p :: ps, ds, vs, σ, ρ, R, Q, S, hd, h, k => by
    cases ds with
    | nil => exact (show False from h).elim
    | cons d r =>
      obtain ⟨v, vr, rfl, h1, h2⟩ := hd
      refine ⟨v, vr, rfl, pat_ok p S h1 h fun σ1 ρ1 S1 o1 q1 => pats_ok ps S1 h2 q1 fun σ2 ρ2 S2 o2 q2 => k σ2 ρ2 S2 ?_ q2⟩
      exact (o1.mono fun j hj => by simp only [ixsP, List.mem_append]; exact .inl hj).trans (o2.mono fun j hj => by simp only [ixsP, List.mem_append]; exact .inr hj)
end
end
theorem dg_nm {i : Nat} {x : Str} {pos : Pos} (hN : X.N.Nodup) (hi : X.N[i]? = some x := by rfl) (hx : Loc X.env.scope x := by first | exact Or.inl rfl | exact Or.inr rfl) (hf : X.fn x = true ∨ X.env.scope.names.lookup x = some .local := by first | exact .inl rfl | exact .inr rfl | assumption) : PG X (.Name x pos) (gPat X.K (.nm i)) := by
  unfold gPat
  exact pg_name hN hi hx hf
theorem dgs_nil : PGs X [] (gPats X.K []) := by
  unfold gPats
  exact pgs_nil
theorem dgs_cons {e : Expr} {es : List Expr} {p : Pat} {ps : List Pat} (h1 : PG X e (gPat X.K p)) (h2 : PGs X es (gPats X.K ps)) (hs : (assignEach (e :: es) X.env).map (·.2) = assign e X.env :: (assignEach es X.env).map (·.2) := by rfl) : PGs X (e :: es) (gPats X.K (p :: ps)) := by
  unfold gPats
  exact pgs_cons h1 h2 hs
theorem dg_tp {es : List Expr} {k : Nat} {ps : List Pat} (hc : X.calm = true) (h : PGs X es (gPats X.K ps)) (hn : (assignEach es X.env).length = lenP ps := by rfl) (hst : (assignEach es X.env).findIdx? (·.1) = none := by rfl) : PG X (.Tuple es k pos) (gPat X.K (.tp ps)) := by
  unfold gPat
  exact pg_tup hc h hn hst
def dAsgP (p : Pat) (te : ET) : DTS := fun De ρ => te ρ fun r ρ1 => bindPat p r.toD ρ1 De.nx
theorem ds_asgP {tg : Expr} {p : Pat} (he : DE X e te) (hg : PG X tg (gPat X.K p)) (hs : swapsWithSole [tg] e pos.line X.env = pure false := by rfl) (hw : swappedStores [tg] e X.env = pure none := by rfl)
    (h1 : (assignEach [tg] X.env).map (·.2) = [assign tg X.env] := by rfl) : DS X (.Assign [tg] e pos) (dAsgP p te) := PS.imp (ps_asg he hg hs hw h1) fun D σ H q => by
  obtain ⟨E, ρ, F, De, S, h, C⟩ := q
  refine useE S h fun r ρ' v H' F' hr S' st' d => pat_ok p S' d hr fun σ2 ρ2 S2 _ q => C.nx σ2 H' ρ2 F' S2 st'.frz q
/-- a, b = x, y -/
def dPar (i j : Nat) (ta tb : ET) : DTS := fun De ρ => ta ρ fun r ρ1 => tb ρ1 fun r2 ρ2 => De.nx ((ρ2.set i (some r)).set j (some r2))
theorem ds_par {i j : Nat} {x y : Str} {a b : Expr} {ta tb : ET} {px py pt : Pos} {kt k2 pt2} (hc : X.calm = true) (hN : X.N.Nodup) (ha : DE X a ta) (hb : DE X b tb) (hij : i ≠ j) (hi : X.N[i]? = some x := by rfl) (hj : X.N[j]? = some y := by rfl)
    (hx : X.env.scope.names.lookup x = some .local := by rfl) (hy : X.env.scope.names.lookup y = some .local := by rfl)
    (hw : swappedStores [.Tuple [.Name x px, .Name y py] kt pt] (.Tuple [a, b] k2 pt2) X.env = pure (some [x, y]) := by rfl)
    (hs : swapsWithSole [.Tuple [.Name x px, .Name y py] kt pt] (.Tuple [a, b] k2 pt2) pos.line X.env = pure false := by rfl) (s1 : starEach [a, b] X.env = (false, eval a X.env) :: starEach [b] X.env := by rfl) (s2 : starEach [b] X.env = (false, eval b X.env) :: starEach [] X.env := by rfl) :
    DS X (.Assign [.Tuple [.Name x px, .Name y py] kt pt] (.Tuple [a, b] k2 pt2) pos) (dPar i j ta tb) := PS.imp (ps_par hc hN hi hj hij hx hy (pa_cons ha (pa_cons hb pa_nil s2) s1) hw hs) fun D σ H q => by
  obtain ⟨E, ρ, F, De, S, h, C⟩ := q
  refine ⟨E, ρ, F, _, S, h, fun r ρ1 v H1 F1 hr o => ⟨E, ρ1, F1, _, o.st, hr, fun r2 ρ2 v2 H2 F2 hr2 o2 => ⟨v, v2, rfl, ?_⟩⟩⟩
  -- the first value still stands behind the second
  have st2 := o2.st
  have ok1 : RdOk X.K F2 H2 r v := by
    cases r with
    | d d => exact Dp.mono o2.stp.frz _ _ o.ok
    | o bb =>
      obtain ⟨ad, rfl, n, ok⟩ := o.ok
      obtain ⟨u, hu⟩ := ok.some
      obtain ⟨g1, g2⟩ := o2.stp.fr ad u hu (o.new bb ad rfl rfl).2.2.1
      exact ⟨ad, rfl, g2.trans n, ok.mono o2.stp.frz (g1.trans hu.symm)⟩
  have new1 : ∀ bb ad, r = .o bb → v = .ref ad → E.H0 ad = none ∧ bb.isSlf = false ∧ NotOwn σ ρ2 ad := fun bb ad e1 e2 => by
    obtain ⟨g1, g2, g3, _⟩ := o.new bb ad e1 e2
    exact ⟨g1, g2, fun k b' q => by
      obtain ⟨b0, q0⟩ := o2.stp.dec k b' q
      exact g3 k b0 q0⟩
  have S3 := st2.put i ok1 new1
  have ok2 := o2.ok
  refine C.nx _ H2 _ F2 (S3.put j ok2 fun bb ad e1 e2 => ?_) (o.stp.frz.trans o2.stp.frz) hr2
  obtain ⟨g1, g2, g3, g4⟩ := o2.new bb ad e1 e2
  refine ⟨g1, g2, fun k b' q z => ?_⟩
  rcases getElem?_set_cases q with ⟨rfl, e, lt⟩ | ⟨ne, q⟩
  · cases e
    have lt' : k < σ.length := by rw [← st2.len]; exact lt
    rw [List.getElem?_set_self lt'] at z
    cases z
    obtain ⟨ad', e', n, ok⟩ := o.ok
    cases e'
    obtain ⟨u, hu⟩ := ok.some
    exact g4 u hu (o.new b' ad rfl rfl).2.2.1
  · rw [List.getElem?_set_ne (Ne.symm ne)] at z
    exact g3 k b' q z
/-- x += e, ints -/
def dAug (f : Int → Int → Int) (i : Nat) (te : ET) : DTS := fun De ρ => match ρ[i]? with
  | some (some (.d (.int z))) => te ρ fun y ρ1 => asInt y.toD fun w => De.nx (ρ1.set i (some (.d (.int (f z w)))))
  | _ => False
theorem ds_aug {i : Nat} {x : Str} {op : Operator} {f : Int → Int → Int} {pos' : Pos} (hN : X.N.Nodup) (ho : PIp X op (ipI f)) (he : DE X e te) (hi : X.N[i]? = some x := by rfl) (hx : Loc X.env.scope x := by first | exact Or.inl rfl | exact Or.inr rfl)
    (hf : X.fn x = true ∨ X.env.scope.names.lookup x = some .local := by first | exact .inl rfl | exact .inr rfl | assumption) : DS X (.AugAssign (.Name x pos') op e pos) (dAug f i te) := PS.imp (ps_aug hN hi hx he ho hf) fun D σ H q => by
  obtain ⟨E, ρ, F, De, S, h, C⟩ := q
  unfold dAug at h
  split at h
  · rename_i z e1
    obtain ⟨v, g1, g2⟩ := S.slot i _ e1
    have ev : v = .int z := g2
    subst ev
    refine ⟨.int z, g1, useE S h fun y ρ1 w H1 F1 h1 S1 st1 d1 => ?_⟩
    obtain ⟨j, e2, h2⟩ := asInt_of h1
    rw [e2] at d1
    exact ⟨z, j, rfl, d1, C.nx _ H1 _ F1 (S1.put i (r := .d (.int (f z j))) (v := .int (f z j)) rfl fun _ _ e => nomatch e) st1.frz h2⟩
  · exact h.elim

/-! ### loops -/
def ItOk (K : PySem.W.Frag) (J : It) (ds : List D) (F : Hp) : Prop := ∀ F1 H, Same F F1 → Same F1 H → ∀ i : Nat, (∀ d, ds[i]? = some d → J.go i H ∧ ∀ v H', J.yld i H v H' → ∃ F2, HExt H F1 H' F2 ∧ Dp K F2 d v) ∧ (ds.length ≤ i → J.stop i H)
def liftI (K : PySem.W.Frag) (t : ATD) : TI := fun σ H R => ∃ E ρ F S, St2 K E σ H ρ F ∧ t ρ S ∧ ∀ ds ρ' J H' F', S ds ρ' → St2 K E σ H' ρ' F' → Stp σ H ρ F H' ρ' F' → ItOk K J ds F' → R J H'
def forD (p : Pat) (tb : DTS) (De : DEnds) : List D → Rho → Prop
  | [] => De.nx
  | d :: ds => fun ρ => bindPat p d ρ fun ρ' => tb { De with nx := forD p tb De ds, ct := forD p tb De ds, bk := De.nx } ρ'
def dFor (p : Pat) (ti : ATD) (tb : DTS) : DTS := fun De ρ => ti ρ fun ds ρ1 => forD p tb De ds ρ1
theorem ds_for {tg iter : Expr} {body : List Stmt} {ti : ATD} {p : Pat} {tb : DTS} (hp : PassesOwn (model X.prog X.w) X.A X.env X.xe) (hc : X.calm = true) (hi : PI X tg iter (liftI X.K ti)) (hg : PG X tg (gPat X.K p)) (hb : DSs X body tb)
    (hs : ∀ x, foldedSetIterable iter X.env x = pure x := by intro _; rfl) : DS X (.For tg iter body [] pos) (dFor p ti tb) := PS.imp (ps_for hp hc hi hg hb hs) fun D σ H q => by
  obtain ⟨E, ρ, F, De, S, h, C⟩ := q
  refine ⟨E, ρ, F, _, S, h, fun ds ρ1 J H1 F1 h1 S1 st1 it => ?_⟩
  refine ⟨fun i m σ H => ∃ ρ F', St2 X.K E σ H ρ F' ∧ Same F1 F' ∧ i ≤ ds.length ∧ m = ds.length - i ∧ forD p tb De (ds.drop i) ρ, ⟨_, ρ1, F1, S1, Same.refl F1, Nat.zero_le _, rfl, h1⟩, ?_⟩
  rintro i m σ2 H2 ⟨ρ2, F2, S2, s2, hi, rfl, h2⟩
  obtain ⟨go, stop⟩ := it F2 H2 s2 S2.sub i
  by_cases hlt : i < ds.length
  · have e1 : ds[i]? = some ds[i] := List.getElem?_eq_getElem hlt
    have e2 : ds.drop i = ds[i] :: ds.drop (i + 1) := List.drop_eq_getElem_cons hlt
    obtain ⟨g1, g2⟩ := go _ e1
    rw [e2] at h2
    refine .inr ⟨g1, fun σ' H' => ∃ ρ F', St2 X.K E σ' H' ρ F' ∧ Same F1 F' ∧ forD p tb De (ds.drop (i + 1)) ρ, fun σ' H' ⟨ρ', F', S', s', q'⟩ => ⟨ds.length - (i + 1), by omega, ρ', F', S', s', hlt, rfl, q'⟩, fun x H' hy => ?_⟩
    obtain ⟨F3, ext, dd⟩ := g2 x H' hy
    obtain ⟨S3, st3⟩ := S2.ext ext
    refine pat_ok p S3 dd h2 fun σ4 ρ4 S4 _ q4 => ?_
    have s4 := s2.trans st3.frz
    refine ⟨E, ρ4, F3, _, S4, q4, ⟨fun σ5 H5 ρ5 F5 S5 s5 q5 => ⟨ρ5, F5, S5, s4.trans s5, q5⟩, fun σ5 H5 ρ5 F5 S5 s5 q5 => C.nx σ5 H5 ρ5 F5 S5 ((st1.frz.trans s4).trans s5) q5, fun σ5 H5 ρ5 F5 S5 s5 q5 => ⟨ρ5, F5, S5, s4.trans s5, q5⟩, C.rt, C.rp⟩⟩
  · have e : i = ds.length := by omega
    subst e
    rw [List.drop_length] at h2
    exact .inl ⟨stop (Nat.le_refl _), C.nx σ2 H2 ρ2 F2 S2 (st1.frz.trans s2) h2⟩
def dWhile (c : TTD) (tb : DTS) : DTS := fun De ρ => ∃ W : Nat → Rho → Prop, (∃ m, W m ρ) ∧ ∀ m ρ, W m ρ → c ρ fun b ρ1 => match b with
  | true => tb { De with nx := fun ρ' => ∃ m', m' < m ∧ W m' ρ', ct := fun ρ' => ∃ m', m' < m ∧ W m' ρ', bk := De.nx } ρ1
  | false => De.nx ρ1
theorem ds_while {c : Expr} {body : List Stmt} {tc : TTD} {tb : DTS} (hp : PassesOwn (model X.prog X.w) X.A X.env X.xe) (hc : DT X c tc) (hb : DSs X body tb) : DS X (.While c body [] pos) (dWhile tc tb) := PS.imp (ps_while hp hc hb) fun D σ H q => by
  obtain ⟨E, ρ, F, De, S, ⟨W, ⟨m0, w0⟩, turn⟩, C⟩ := q
  refine ⟨fun m σ H => ∃ ρ F', St2 X.K E σ H ρ F' ∧ Same F F' ∧ W m ρ, ⟨m0, ρ, F, S, Same.refl F, w0⟩, ?_⟩
  rintro m σ1 H1 ⟨ρ1, F1, S1, s1, w1⟩
  refine useT S1 (turn m ρ1 w1) fun b ρ2 H2 F2 h2 S2 st2 => ?_
  have s2 := s1.trans st2.frz
  cases b with
  | true =>
    refine iteT ⟨fun σ' H' => ∃ ρ' F', St2 X.K E σ' H' ρ' F' ∧ Same F F' ∧ ∃ m', m' < m ∧ W m' ρ', fun σ' H' ⟨ρ', F', S', s', m', lt, w'⟩ => ⟨m', lt, ρ', F', S', s', w'⟩, ?_⟩
    exact ⟨E, ρ2, F2, _, S2, h2, ⟨fun σ5 H5 ρ5 F5 S5 s5 q5 => ⟨ρ5, F5, S5, s2.trans s5, q5⟩, fun σ5 H5 ρ5 F5 S5 s5 q5 => C.nx σ5 H5 ρ5 F5 S5 (s2.trans s5) q5, fun σ5 H5 ρ5 F5 S5 s5 q5 => ⟨ρ5, F5, S5, s2.trans s5, q5⟩, C.rt, C.rp⟩⟩
  | false => exact iteF (C.nx σ1 H2 ρ2 F2 S2 s2 h2)
end
end DL
end
section
set_option Elab.async false
set_option linter.all false
set_option maxRecDepth 100000
/-! Data layer, fifth part: what is walked, comprehensions, a slot's own objects, defs by their bodies. -/
namespace DL
open PySem PySem.Spec L2

/-! ### what is walked -/
def asLst (x : D) (k : List D → Prop) : Prop := match x with
  | .lst xs => k xs
  | _ => False
def asTup (x : D) (k : List D → Prop) : Prop := match x with
  | .tup xs => k xs
  | _ => False
theorem asLst_of {x : D} {k : List D → Prop} (h : asLst x k) : ∃ xs, x = .lst xs ∧ k xs := by
  cases x with
  | lst xs => exact ⟨xs, rfl, h⟩
  | _ => exact (show False from h).elim
theorem asTup_of {x : D} {k : List D → Prop} (h : asTup x k) : ∃ xs, x = .tup xs ∧ k xs := by
  cases x with
  | tup xs => exact ⟨xs, rfl, h⟩
  | _ => exact (show False from h).elim
def dItL (te : ET) : ATD := fun ρ Q => te ρ fun x ρ1 => asLst x.toD fun xs => Q xs ρ1
def dItT (te : ET) : ATD := fun ρ Q => te ρ fun x ρ1 => asTup x.toD fun xs => Q xs ρ1
def rngD (lo : Int) : Nat → List D
  | 0 => []
  | n + 1 => .int lo :: rngD (lo + 1) n
theorem rngD_at : ∀ (n : Nat) (lo : Int) (i : Nat) (d : D), (rngD lo n)[i]? = some d → i < n ∧ d = .int (lo + i)
  | 0, lo, i, d, h => by simp [rngD] at h
  | n + 1, lo, 0, d, h => by
    simp [rngD] at h
    exact ⟨Nat.succ_pos n, by rw [← h]; simp⟩
  | n + 1, lo, i + 1, d, h => by
    have h' : (rngD (lo + 1) n)[i]? = some d := by simpa [rngD] using h
    obtain ⟨h1, h2⟩ := rngD_at n (lo + 1) i d h'
    refine ⟨Nat.succ_lt_succ h1, ?_⟩
    rw [h2]
    congr 1
    push_cast
    omega
theorem rngD_len : ∀ (n : Nat) (lo : Int), (rngD lo n).length = n
  | 0, _ => rfl
  | n + 1, lo => by
    show (rngD (lo + 1) n).length + 1 = n + 1
    rw [rngD_len n]
def dRng1 (te : ET) : ATD := fun ρ Q => te ρ fun x ρ1 => asInt x.toD fun j => j < 2 ^ 62 ∧ -(2 ^ 62) ≤ j ∧ Q (rngD 0 j.toNat) ρ1
def dRng2 (ta tb : ET) : ATD := fun ρ Q => ta ρ fun x ρ1 => tb ρ1 fun y ρ2 => asInt x.toD fun i => asInt y.toD fun j => (-(2 ^ 62) ≤ i ∧ i < 2 ^ 62 ∧ -(2 ^ 62) ≤ j ∧ j < 2 ^ 62) ∧ Q (rngD i (j - i).toNat) ρ2
def pairs (i : Nat) : List D → List D
  | [] => []
  | d :: ds => .tup [.int (i : Nat), d] :: pairs (i + 1) ds
theorem pairs_at : ∀ (ds : List D) (k i : Nat) (d : D), (pairs k ds)[i]? = some d → ∃ x, ds[i]? = some x ∧ d = .tup [.int ((k + i : Nat) : Int), x]
  | [], k, i, d, h => by simp [pairs] at h
  | x :: ds, k, 0, d, h => by
    simp [pairs] at h
    exact ⟨x, rfl, by rw [← h]; simp⟩
  | x :: ds, k, i + 1, d, h => by
    have h' : (pairs (k + 1) ds)[i]? = some d := by simpa [pairs] using h
    obtain ⟨y, h1, h2⟩ := pairs_at ds (k + 1) i d h'
    exact ⟨y, by simpa using h1, by rw [h2, show k + 1 + i = k + (i + 1) by omega]⟩
theorem pairs_len : ∀ (ds : List D) (k : Nat), (pairs k ds).length = ds.length
  | [], _ => rfl
  | x :: ds, k => by
    show (pairs (k + 1) ds).length + 1 = ds.length + 1
    rw [pairs_len ds]
def zips : List D → List D → List D
  | x :: xs, y :: ys => .tup [x, y] :: zips xs ys
  | _, _ => []
theorem zips_at : ∀ (xs ys : List D) (i : Nat) (d : D), (zips xs ys)[i]? = some d → ∃ x y, xs[i]? = some x ∧ ys[i]? = some y ∧ d = .tup [x, y]
  | [], _, i, d, h => by simp [zips] at h
  | _ :: _, [], i, d, h => by simp [zips] at h
  | x :: xs, y :: ys, 0, d, h => by
    simp [zips] at h
    exact ⟨x, y, rfl, rfl, h.symm⟩
  | x :: xs, y :: ys, i + 1, d, h => by
    obtain ⟨a, b, h1, h2, h3⟩ := zips_at xs ys i d (by simpa [zips] using h)
    exact ⟨a, b, by simpa using h1, by simpa using h2, h3⟩
theorem zips_len : ∀ (xs ys : List D), (zips xs ys).length = min xs.length ys.length
  | [], _ => by simp [zips]
  | _ :: _, [] => by simp [zips]
  | x :: xs, y :: ys => by simp [zips, zips_len xs ys]
def dEnum (te : ET) : ATD := fun ρ Q => te ρ fun x ρ1 => asLst x.toD fun xs => Q (pairs 0 xs) ρ1
def dZip (ta tb : ET) : ATD := fun ρ Q => ta ρ fun x ρ1 => tb ρ1 fun y ρ2 => asLst x.toD fun xs => asLst y.toD fun ys => Q (zips xs ys) ρ2

section
variable {X : Cx} {tg e e2 : Expr} {te ta tb : ET} {pos : Pos}
theorem lst_itok {K : PySem.W.Frag} {F : Hp} {a : Addr} {xs : List D} {vs : List V} (h : F a = some (.lst vs)) (d : DpL K F xs vs) : ItOk K (Itl K a) xs F := fun F1 H s1 s2 i => by
  have hH : SqL K H a vs := .inl (.inl (s2 _ _ (s1 _ _ h)))
  refine ⟨fun x e => ?_, fun hl => ⟨vs, hH, by rw [← d.len]; exact hl⟩⟩
  obtain ⟨v, e1, e2⟩ := d.get e
  refine ⟨⟨vs, v, hH, e1⟩, fun w H' hy => ?_⟩
  obtain ⟨rfl, hy⟩ := hy
  have e3 := hy vs hH
  rw [e1] at e3
  cases e3
  exact ⟨F1, HExt.refl s2, Dp.mono s1 _ _ e2⟩
theorem di_lst (he : DE X e te) : PI X tg e (liftI X.K (dItL te)) := PI.imp (pi_list he) fun σ H Q q => by
  obtain ⟨E, ρ, F, S, S0, h, k⟩ := q
  refine useE S0 h fun r ρ1 v H1 F1 h1 S1 st1 d1 => ?_
  obtain ⟨xs, e1, h2⟩ := asLst_of h1
  rw [e1] at d1
  obtain ⟨a, vs, rfl, g1, g2⟩ := d1
  exact ⟨a, rfl, ⟨vs, .inl (.inl (S1.sub _ _ g1))⟩, k xs ρ1 _ H1 F1 h2 S1 st1 (lst_itok g1 g2)⟩
theorem di_tup (he : DE X e te) : PI X tg e (liftI X.K (dItT te)) := PI.imp (pi_tup he) fun σ H Q q => by
  obtain ⟨E, ρ, F, S, S0, h, k⟩ := q
  refine useE S0 h fun r ρ1 v H1 F1 h1 S1 st1 d1 => ?_
  obtain ⟨xs, e1, h2⟩ := asTup_of h1
  rw [e1] at d1
  obtain ⟨a, vs, rfl, g1, d⟩ := d1
  refine ⟨a, rfl, ⟨vs, .inl (.inl (S1.sub _ _ g1))⟩, k xs ρ1 _ H1 F1 h2 S1 st1 fun F2 H s1 s2 i => ?_⟩
  have hH : SqT X.K H a vs := .inl (.inl (s2 _ _ (s1 _ _ g1)))
  refine ⟨fun x e => ?_, fun hl => ⟨vs, hH, by rw [← d.len]; exact hl⟩⟩
  obtain ⟨v, e1, e2⟩ := d.get e
  refine ⟨⟨vs, v, hH, e1⟩, fun w H' hy => ?_⟩
  obtain ⟨rfl, hy⟩ := hy
  have e3 := hy vs hH
  rw [e1] at e3
  cases e3
  exact ⟨F2, HExt.refl s2, Dp.mono s1 _ _ e2⟩
theorem rng_itok {K : PySem.W.Frag} {F : Hp} (lo : Int) (n : Nat) : ItOk K (Itr lo n) (rngD lo n) F := fun F1 H s1 s2 i => by
  refine ⟨fun x e => ?_, fun hl => by rw [rngD_len] at hl; exact hl⟩
  obtain ⟨lt, rfl⟩ := rngD_at n lo i x e
  refine ⟨lt, fun w H' hy => ?_⟩
  obtain ⟨rfl, rfl⟩ := hy
  exact ⟨F1, HExt.refl s2, rfl⟩
theorem di_rng1 {p : Pos} (hm : X.mg "range" = none) (he : DE X e te) (hg : Gl X "range" := by rfl) (hs : starEach [e] X.env = [(false, eval e X.env)] := by rfl) : PI X tg (.Call (.Name "range" p) [e] [] pos) (liftI X.K (dRng1 te)) :=
  PI.imp (pi_range1 hg hm (pa_cons he pa_nil hs) hs) fun σ H Q q => by
  obtain ⟨E, ρ, F, S, S0, h, k⟩ := q
  refine useE S0 h fun r ρ1 v H1 F1 h1 S1 st1 d1 => ?_
  obtain ⟨j, e1, g1, g2, h2⟩ := asInt_of h1
  rw [e1] at d1
  cases d1
  exact ⟨j, rfl, g2, g1, k _ ρ1 _ H1 F1 h2 S1 st1 (rng_itok 0 _)⟩
theorem di_rng2 {p : Pos} (hm : X.mg "range" = none) (ha : DE X e ta) (hb : DE X e2 tb) (hg : Gl X "range" := by rfl) (hs : starEach [e, e2] X.env = [(false, eval e X.env), (false, eval e2 X.env)] := by rfl) (hs2 : starEach [e2] X.env = [(false, eval e2 X.env)] := by rfl)
    (hs0 : starEach [e, e2] X.env = (false, eval e X.env) :: starEach [e2] X.env := by rfl) : PI X tg (.Call (.Name "range" p) [e, e2] [] pos) (liftI X.K (dRng2 ta tb)) :=
  PI.imp (pi_range2 hg hm (pa_cons ha (pa_cons hb pa_nil hs2) hs0) hs hs2) fun σ H Q q => by
  obtain ⟨E, ρ, F, S, S0, h, k⟩ := q
  refine useE S0 h fun r ρ1 v H1 F1 h1 S1 st1 d1 => useE S1 h1 fun r2 ρ2 u H2 F2 h2 S2 st2 d2 => ?_
  obtain ⟨i, e1, h3⟩ := asInt_of h2
  obtain ⟨j, e2, g1, h4⟩ := asInt_of h3
  rw [e1] at d1
  rw [e2] at d2
  cases d1
  cases d2
  exact ⟨i, j, rfl, g1, k _ ρ2 _ H2 F2 h4 S2 (st1.trans st2) (rng_itok i _)⟩
theorem di_enum {elts : List Expr} {kk : Nat} {tpos p : Pos} (hm : X.mg "enumerate" = none) (he : DE X e te) (hg : Gl X "enumerate" := by rfl) (hs : starEach [e] X.env = [(false, eval e X.env)] := by rfl) : PI X (.Tuple elts kk tpos) (.Call (.Name "enumerate" p) [e] [] pos) (liftI X.K (dEnum te)) :=
  PI.imp (pi_enum hg hm (pa_cons he pa_nil hs) hs) fun σ H Q q => by
  obtain ⟨E, ρ, F, S, S0, h, k⟩ := q
  refine useE S0 h fun r ρ1 v H1 F1 h1 S1 st1 d1 => ?_
  obtain ⟨xs, e1, h2⟩ := asLst_of h1
  rw [e1] at d1
  obtain ⟨a, vs, rfl, g1, d⟩ := d1
  refine ⟨a, vs, rfl, .inl (.inl (S1.sub _ _ g1)), k _ ρ1 _ H1 F1 h2 S1 st1 fun F2 H s1 s2 i => ?_⟩
  have hH : SqL X.K H a vs := .inl (.inl (s2 _ _ (s1 _ _ g1)))
  refine ⟨fun x e => ?_, fun hl => ⟨vs, hH, by rw [← d.len]; rw [pairs_len] at hl; exact hl⟩⟩
  obtain ⟨y, e3, rfl⟩ := pairs_at xs 0 i x e
  obtain ⟨v, e1, e2⟩ := d.get e3
  refine ⟨⟨vs, v, hH, e1⟩, fun w H' hy => ?_⟩
  obtain ⟨T, z, rfl, nT, rfl, hy⟩ := hy
  have e4 := hy vs hH
  rw [e1] at e4
  cases e4
  refine ⟨upd F2 T (.tup [.int ((i : Nat) : Int), v]), HExt.new s2 nT, T, _, rfl, upd_same, ?_⟩
  have sm : Same F2 (upd F2 T (.tup [.int ((i : Nat) : Int), v])) := (HExt.new s2 nT).same s2
  refine DpL.cons (show V.int (i : Nat) = V.int ((0 + i : Nat) : Int) by rw [Nat.zero_add]) (DpL.cons (Dp.mono sm _ _ (Dp.mono s1 _ _ e2)) DpL.nil)
theorem di_zip {elts : List Expr} {kk : Nat} {tpos p : Pos} (hm : X.mg "zip" = none) (ha : DE X e ta) (hb : DE X e2 tb) (hg : Gl X "zip" := by rfl) (hs : starEach [e, e2] X.env = (false, eval e X.env) :: starEach [e2] X.env := by rfl) (hs2 : starEach [e2] X.env = (false, eval e2 X.env) :: starEach [] X.env := by rfl)
    (hpl : (backTo pos (starEach [e2] X.env)).any (·.1) = false := by rfl) : PI X (.Tuple elts kk tpos) (.Call (.Name "zip" p) [e, e2] [] pos) (liftI X.K (dZip ta tb)) :=
  PI.imp (pi_zip hg hm (pa_cons ha (pa_cons hb pa_nil hs2) hs) hs hpl) fun σ H Q q => by
  obtain ⟨E, ρ, F, S, S0, h, k⟩ := q
  refine useE S0 h fun r ρ1 v H1 F1 h1 S1 st1 d1 => useE S1 h1 fun r2 ρ2 u H2 F2 h2 S2 st2 d2 => ?_
  obtain ⟨xs, e1, h3⟩ := asLst_of h2
  obtain ⟨ys, e2, h4⟩ := asLst_of h3
  rw [e1] at d1
  rw [e2] at d2
  obtain ⟨a, vs, rfl, g1, d⟩ := d1
  obtain ⟨b, us, rfl, g2, d'⟩ := d2
  have g1' := st2.frz _ _ g1
  refine ⟨a, b, vs, us, rfl, .inl (.inl (S2.sub _ _ g1')), .inl (.inl (S2.sub _ _ g2)), k _ ρ2 _ H2 F2 h4 S2 (st1.trans st2) fun F3 H s1 s2 i => ?_⟩
  have hA : SqL X.K H a vs := .inl (.inl (s2 _ _ (s1 _ _ g1')))
  have hB : SqL X.K H b us := .inl (.inl (s2 _ _ (s1 _ _ g2)))
  refine ⟨fun x e => ?_, fun hl => ⟨vs, us, hA, hB, ?_⟩⟩
  · obtain ⟨x1, y1, q1, q2, rfl⟩ := zips_at xs ys i x e
    obtain ⟨v1, l1, m1⟩ := d.get q1
    obtain ⟨v2, l2, m2⟩ := d'.get q2
    refine ⟨⟨vs, us, v1, v2, hA, hB, l1, l2⟩, fun w H' hy => ?_⟩
    obtain ⟨T, z1, z2, rfl, nT, rfl, y1', y2'⟩ := hy
    have e4 := y1' vs hA
    have e5 := y2' us hB
    rw [l1] at e4
    rw [l2] at e5
    cases e4
    cases e5
    have sm : Same F3 (upd F3 T (.tup [v1, v2])) := (HExt.new s2 nT).same s2
    exact ⟨_, HExt.new s2 nT, T, _, rfl, upd_same, DpL.cons (Dp.mono sm _ _ (Dp.mono s1 _ _ (Dp.mono st2.frz _ _ m1))) (DpL.cons (Dp.mono sm _ _ (Dp.mono s1 _ _ m2)) DpL.nil)⟩
  · rw [zips_len] at hl
    have l1 := d.len
    have l2 := d'.len
    omega
end

/-! ### comprehensions -/
def wipeR (ρ : Rho) : List Nat → Rho
  | [] => ρ
  | v :: vs => (wipeR ρ vs).set v none
def restR (ρ r : Rho) : List Nat → Rho
  | [] => r
  | v :: vs => (restR ρ r vs).set v (ρ[v]?.getD none)
/-- no place of these holds an object of its own -/
def noOwn (ρ : Rho) : List Nat → Prop
  | [] => True
  | v :: vs => (match ρ[v]? with
    | some (some (.o _)) => False
    | _ => True) ∧ noOwn ρ vs
def compD (p : Pat) (tt : TTD) (te : ET) (vs : List Nat) (Q : RD → Rho → Prop) : List D → Rho → List D → Prop
  | [], ρ, acc => Q (.o (.lst acc)) ρ
  | d :: ds, ρ, acc => noOwn ρ vs ∧ bindPat p d (wipeR ρ vs) fun ρ2 => tt ρ2 fun b ρ3 => match b with
    | true => te ρ3 fun y ρ4 => acc.length < 1000000 ∧ compD p tt te vs Q ds (restR ρ ρ4 vs) (acc ++ [y.toD])
    | false => compD p tt te vs Q ds (restR ρ ρ3 vs) acc
def dComp (p : Pat) (ti : ATD) (tt : TTD) (te : ET) (vs : List Nat) : ET := fun ρ Q => ti ρ fun ds ρ1 => compD p tt te vs Q ds ρ1 []
def dYes : TTD := fun ρ Q => Q true ρ

theorem noOwn_at {ρ : Rho} : ∀ {vs : List Nat} {i : Nat} {b : OB}, noOwn ρ vs → i ∈ vs → ρ[i]? ≠ some (some (.o b))
  | [], i, b, _, h => by simp at h
  | v :: vs, i, b, ⟨h1, h2⟩, h => by
    rcases List.mem_cons.mp h with e | h
    · subst e
      intro q
      rw [q] at h1
      exact h1
    · exact noOwn_at h2 h
theorem wipeR_len (ρ : Rho) : ∀ vs : List Nat, (wipeR ρ vs).length = ρ.length
  | [] => rfl
  | v :: vs => by unfold wipeR; rw [List.length_set, wipeR_len ρ vs]
theorem wipeR_at {ρ : Rho} {i : Nat} {r : RD} : ∀ {vs : List Nat}, (wipeR ρ vs)[i]? = some (some r) → ρ[i]? = some (some r) ∧ i ∉ vs
  | [], h => ⟨h, by simp⟩
  | v :: vs, h => by
    unfold wipeR at h
    rcases getElem?_set_cases h with ⟨_, e, _⟩ | ⟨ne, h⟩
    · cases e
    · obtain ⟨h1, h2⟩ := wipeR_at h
      exact ⟨h1, by simp only [List.mem_cons, not_or]; exact ⟨ne, h2⟩⟩
theorem wipe_off {σ : Sig} {i : Nat} : ∀ {vs : List Nat}, i ∉ vs → (wipe σ vs)[i]? = σ[i]?
  | [], _ => rfl
  | v :: vs, h => by
    simp only [List.mem_cons, not_or] at h
    show ((wipe σ vs).set v none)[i]? = σ[i]?
    rw [List.getElem?_set_ne (Ne.symm h.1)]
    exact wipe_off h.2
theorem wipeR_off {σ : Rho} {i : Nat} : ∀ {vs : List Nat}, i ∉ vs → (wipeR σ vs)[i]? = σ[i]?
  | [], _ => rfl
  | v :: vs, h => by
    simp only [List.mem_cons, not_or] at h
    show ((wipeR σ vs).set v none)[i]? = σ[i]?
    rw [List.getElem?_set_ne (Ne.symm h.1)]
    exact wipeR_off h.2
theorem restR_len (ρ r : Rho) : ∀ vs : List Nat, (restR ρ r vs).length = r.length
  | [] => rfl
  | v :: vs => by unfold restR; rw [List.length_set, restR_len ρ r vs]
theorem restR_at {ρ r : Rho} {i : Nat} {x : RD} : ∀ {vs : List Nat}, (restR ρ r vs)[i]? = some (some x) → (i ∈ vs ∧ ρ[i]? = some (some x)) ∨ (i ∉ vs ∧ r[i]? = some (some x))
  | [], h => .inr ⟨by simp, h⟩
  | v :: vs, h => by
    unfold restR at h
    rcases getElem?_set_cases h with ⟨e, e2, _⟩ | ⟨ne, h⟩
    · subst e
      refine .inl ⟨List.mem_cons_self, ?_⟩
      cases q : ρ[i]? with
      | none => rw [q] at e2; cases e2
      | some o => rw [q] at e2; rw [e2]; rfl
    · rcases restR_at h with ⟨h1, h2⟩ | ⟨h1, h2⟩
      · exact .inl ⟨List.mem_cons_of_mem _ h1, h2⟩
      · exact .inr ⟨by simp only [List.mem_cons, not_or]; exact ⟨ne, h1⟩, h2⟩
section
variable {K : PySem.W.Frag} {E : Ent} {σ σ2 : Sig} {H H' : Hp} {ρ ρ4 : Rho} {F F' : Hp} {vs : List Nat}
theorem St2.wipe (S : St2 K E σ H ρ F) : St2 K E (wipe σ vs) H (wipeR ρ vs) F := by
  refine ⟨S.sub, S.keep, S.there, S.frz, by rw [wipe_length, wipeR_len]; exact S.len, fun i r h => ?_, fun i b a h1 h2 => ?_, fun i j b b' a h1 h2 h3 h4 => ?_⟩
  · obtain ⟨h1, h2⟩ := wipeR_at h
    rw [wipe_off h2]
    exact S.slot i r h1
  · obtain ⟨h3, h4⟩ := wipeR_at h1
    rw [wipe_off h4] at h2
    exact S.own0 i b a h3 h2
  · obtain ⟨g1, g2⟩ := wipeR_at h1
    obtain ⟨g3, g4⟩ := wipeR_at h2
    rw [wipe_off g2] at h3
    rw [wipe_off g4] at h4
    exact S.sep i j b b' a g1 g3 h3 h4
theorem St2.back (S : St2 K E σ H ρ F) (S4 : St2 K E σ2 H' ρ4 F') (e : Same F F') (hσ : ∀ j : Nat, j ∉ vs → σ2[j]? = σ[j]?) (hl : σ2.length = σ.length) (no : noOwn ρ vs) : St2 K E σ H' (restR ρ ρ4 vs) F' := by
  refine ⟨S4.sub, S4.keep, S4.there, S4.frz, by rw [restR_len, S4.len, hl], fun i r h => ?_, fun i b a h1 h2 => ?_, fun i j b b' a h1 h2 h3 h4 => ?_⟩
  · rcases restR_at h with ⟨h1, h2⟩ | ⟨h1, h2⟩
    · obtain ⟨v, g1, g2⟩ := S.slot i r h2
      refine ⟨v, g1, ?_⟩
      cases r with
      | d d => exact Dp.mono e _ _ g2
      | o b => exact absurd h2 (noOwn_at no h1)
    · obtain ⟨v, g1, g2⟩ := S4.slot i r h2
      exact ⟨v, by rw [← hσ i h1]; exact g1, g2⟩
  · rcases restR_at h1 with ⟨g1, g2⟩ | ⟨g1, g2⟩
    · exact absurd g2 (noOwn_at no g1)
    · exact S4.own0 i b a g2 (by rw [hσ i g1]; exact h2)
  · rcases restR_at h1 with ⟨g1, g2⟩ | ⟨g1, g2⟩
    · exact absurd g2 (noOwn_at no g1)
    · rcases restR_at h2 with ⟨g3, g4⟩ | ⟨g3, g4⟩
      · exact absurd g4 (noOwn_at no g3)
      · exact S4.sep i j b b' a g2 g4 (by rw [hσ i g1]; exact h3) (by rw [hσ j g3]; exact h4)
end
theorem wipe_of_off {σ σ2 : Sig} {vs : List Nat} (hσ : ∀ j : Nat, j ∉ vs → σ2[j]? = (wipe σ vs)[j]?) (hl : σ2.length = σ.length) : wipe σ2 vs = wipe σ vs := by
  apply List.ext_getElem?
  intro j
  by_cases hj : j ∈ vs
  · have key : ∀ (τ : Sig) (ws : List Nat), j ∈ ws → (wipe τ ws)[j]? = if j < τ.length then some none else none := by
      intro τ ws
      induction ws with
      | nil => intro h; simp at h
      | cons w ws ih =>
        intro h
        show ((wipe τ ws).set w none)[j]? = _
        by_cases e : w = j
        · subst e
          rw [List.getElem?_set, wipe_length]
          simp
        · rw [List.getElem?_set_ne e]
          exact ih (by
            rcases List.mem_cons.mp h with z | z
            · exact absurd z.symm e
            · exact z)
    rw [key σ2 vs hj, key σ vs hj, hl]
  · rw [wipe_off hj]
    exact hσ j hj
/-- the reading of a comprehension -/
theorem lc_of {K : PySem.W.Frag} {ti : ATD} {p : Pat} {tt : TTD} {te : ET} {vs : List Nat} {σ : Sig} {H : Hp} {Q : VK} (hp : ∀ j ∈ p.ixs, j ∈ vs) (q : liftE K (dComp p ti tt te vs) σ H Q) : tLc (liftI K ti) (gPat K p) (liftT K tt) (liftE K te) vs σ H Q := by
  obtain ⟨E, ρ, F, R, S, h, kk⟩ := q
  refine ⟨E, ρ, F, _, S, h, fun ds ρ1 J H1 F1 h1 S1 st1 it => ?_⟩
  intro D nD
  have nF : F1 D = none := S1.sub.free nD
  have n0 : E.H0 D = none := by
    cases q : E.H0 D with
    | none => rfl
    | some u =>
      obtain ⟨w, hw⟩ := S1.there D u q
      rw [nD] at hw; cases hw
  have ext0 : HExt H1 F1 (upd H1 D (.lst [])) F1 := HExt.newO S1.sub nD
  obtain ⟨S1', st1'⟩ := S1.ext ext0
  have noD : ∀ {H' : Hp} {ρ' : Rho} {F' : Hp}, Stp σ H1 ρ1 F1 H' ρ' F' → NotOwn σ ρ' D := fun {H' ρ' F'} st i b q z => by
    obtain ⟨b0, q0⟩ := st.dec i b q
    obtain ⟨w, g1, a, e, _, g3⟩ := S1.slot i _ q0
    rw [z] at g1; cases g1
    cases e
    obtain ⟨u, hu⟩ := g3.some
    rw [nD] at hu; cases hu
  refine ⟨fun i m H => ∃ ρ F accV acc, St2 K E σ H ρ F ∧ Stp σ H1 ρ1 F1 H ρ F ∧ H D = some (.lst accV) ∧ F D = none ∧ DpL K F acc accV ∧ i ≤ ds.length ∧ m = ds.length - i ∧ compD p tt te vs R (ds.drop i) ρ acc,
    ⟨_, ρ1, F1, [], [], S1', st1', upd_same, nF, DpL.nil, Nat.zero_le _, rfl, h1⟩, ?_⟩
  rintro i m H2 ⟨ρ2, F2, accV, acc, S2, st2, eD, fD, dA, hi, rfl, h2⟩
  obtain ⟨go, stop⟩ := it F2 H2 st2.frz S2.sub i
  by_cases hlt : i < ds.length
  · have e1 : ds[i]? = some ds[i] := List.getElem?_eq_getElem hlt
    have e2 : ds.drop i = ds[i] :: ds.drop (i + 1) := List.drop_eq_getElem_cons hlt
    obtain ⟨g1, g2⟩ := go _ e1
    rw [e2] at h2
    obtain ⟨no, h2⟩ := h2
    refine .inr ⟨g1, fun H => ∃ ρ F accV acc, St2 K E σ H ρ F ∧ Stp σ H1 ρ1 F1 H ρ F ∧ H D = some (.lst accV) ∧ F D = none ∧ DpL K F acc accV ∧ compD p tt te vs R (ds.drop (i + 1)) ρ acc,
      fun H' ⟨ρ', F', aV, a, S', st', z1, z2, z3, z4⟩ => ⟨ds.length - (i + 1), by omega, ρ', F', aV, a, S', st', z1, z2, z3, hlt, rfl, z4⟩, fun x H' hy => ?_⟩
    obtain ⟨F3, ext, dd⟩ := g2 x H' hy
    obtain ⟨S3, st3⟩ := S2.ext ext
    have eD3 : H' D = some (.lst accV) := ext.keep _ _ eD
    have fD3 : F3 D = none := (ext.frz _ _ eD).trans fD
    have st03 := st2.trans st3
    refine pat_ok p (S3.wipe (vs := vs)) dd h2 fun σ4 ρ4 S4 o4 q4 => ?_
    have hσ4 : ∀ j : Nat, j ∉ vs → σ4[j]? = (wipe σ vs)[j]? := fun j hj => (o4.at_ j fun z => hj (hp j z)).1
    have hl4 : σ4.length = σ.length := o4.len.trans (wipe_length σ vs)
    have hσ4' : ∀ j : Nat, j ∉ vs → σ4[j]? = σ[j]? := fun j hj => (hσ4 j hj).trans (wipe_off hj)
    -- what a state of the block owns is owned outside
    have ownB : ∀ {ρ5 : Rho}, (∀ (i : Nat) (b : OB), ρ5[i]? = some (some (.o b)) → ∃ b0, ρ4[i]? = some (some (.o b0))) → ∀ (i : Nat) (b : OB), ρ5[i]? = some (some (.o b)) → i ∉ vs ∧ ∃ b0, ρ2[i]? = some (some (.o b0)) := fun hd i b q => by
      obtain ⟨b0, q0⟩ := hd i b q
      obtain ⟨z1, z2⟩ := wipeR_at (o4.dec i b0 q0)
      exact ⟨z2, b0, z1⟩
    have noB : ∀ {a : Addr}, NotOwn σ ρ2 a → NotOwn σ4 ρ4 a := fun {a} nn i b q z => by
      obtain ⟨z1, b0, z2⟩ := ownB (ρ5 := ρ4) (fun i b q => ⟨b, q⟩) i b q
      rw [hσ4' i z1] at z
      exact nn i b0 z2 z
    have outer : ∀ {H5 : Hp} {ρ5 : Rho} {F5 : Hp}, Stp σ4 H' ρ4 F3 H5 ρ5 F5 → Stp σ H' ρ2 F3 H5 (restR ρ2 ρ5 vs) F5 := fun {H5 ρ5 F5} st5 => by
      refine ⟨st5.frz, fun a o ha na => st5.fr a o ha (noB na), fun j b q => ?_⟩
      rcases restR_at q with ⟨z1, z2⟩ | ⟨z1, z2⟩
      · exact ⟨b, z2⟩
      · exact (ownB (fun i b q => st5.dec i b q) j b z2).2
    refine ⟨wipe_of_off hσ4 hl4, useT S4 q4 fun b ρ5 H5 F5 h5 S5 st5 => ?_⟩
    have eD5 := st5.fr D _ eD3 (noB (noD st2))
    cases b with
    | true =>
      refine iteT (useE S5 h5 fun y ρ6 v H6 F6 h6 S6 st6 d6 => ?_)
      have st56 := st5.trans st6
      have eD6 := st56.fr D _ eD3 (noB (noD st2))
      obtain ⟨lt, h6⟩ := h6
      refine ⟨accV, eD6.1, by rw [← dA.len]; exact mill' lt, ?_⟩
      have fD6 : F6 D = none := eD6.2.trans fD3
      have S7 := S3.back S6 st56.frz hσ4' hl4 no
      have stO := st03.trans (outer st56)
      refine ⟨restR ρ2 ρ6 vs, F6, accV ++ [v], acc ++ [y.toD], ?_, ?_, upd_same, fD6, (DpL.mono (st3.frz.trans st56.frz) _ _ dA).app (DpL.cons d6 DpL.nil), h6⟩
      · have nn := noD stO
        refine ⟨fun c u z => ?_, fun c u hx h0 => ?_, fun c u h0 => ?_, S7.frz, S7.len, fun j r z => ?_, S7.own0, S7.sep⟩
        · rw [upd_ne (ne_of_none z fD6)]; exact S7.sub c u z
        · have ne : c ≠ D := fun z => by rw [z, n0] at h0; cases h0
          rw [upd_ne ne]; exact S7.keep c u hx h0
        · have ne : c ≠ D := fun z => by rw [z, n0] at h0; cases h0
          rw [upd_ne ne]; exact S7.there c u h0
        · obtain ⟨w, g1, g2⟩ := S7.slot j r z
          refine ⟨w, g1, ?_⟩
          cases r with
          | d d => exact g2
          | o b =>
            obtain ⟨a, rfl, g3, g4⟩ := g2
            have ne : a ≠ D := fun e => nn j b z (by rw [← e]; exact g1)
            exact ⟨a, rfl, g3, g4.mono (Same.refl F6) (upd_ne ne)⟩
      · refine ⟨stO.frz, fun a o ha na => ?_, stO.dec⟩
        obtain ⟨z1, z2⟩ := stO.fr a o ha na
        have ne : a ≠ D := fun e => by rw [e, nD] at ha; cases ha
        exact ⟨by rw [upd_ne ne]; exact z1, z2⟩
    | false =>
      refine iteF ?_
      exact ⟨restR ρ2 ρ5 vs, F5, accV, acc, S3.back S5 st5.frz hσ4' hl4 no, st03.trans (outer st5), eD5.1, eD5.2.trans fD3, DpL.mono (st3.frz.trans st5.frz) _ _ dA, h5⟩
  · have e : i = ds.length := by omega
    subst e
    rw [List.drop_length] at h2
    refine .inl ⟨stop (Nat.le_refl _), kk _ ρ2 _ H2 F2 h2 ⟨S2, st1.trans st2, ⟨D, rfl, fD, accV, eD, dA⟩, fun b a e1 e2 => ?_⟩⟩
    cases e1
    cases e2
    refine ⟨n0, rfl, noD st2, fun o ho nn => ?_⟩
    have := (st1.fr D o ho nn).1
    rw [nD] at this; cases this
section
variable {X : Cx}
structure DTs (X : Cx) (ifs : List Expr) (t : TTD) : Prop where
  h : PTs X ifs (liftT X.K t)
theorem dts_nil : DTs X [] dYes := ⟨⟨fun pins s σ H Q I q => by
  obtain ⟨E, ρ, F, R, S, h, k⟩ := q
  exact pts_nil.run pins s σ H Q I (k true ρ H F h S .refl)⟩⟩
theorem dts_one {c : Expr} {t : TTD} (h : DT X c t) : DTs X [c] t := ⟨pts_one h⟩
theorem de_lc {elt tg iter : Expr} {ifs : List Expr} {scope : Scope} {own : List (Str × Nat)} {pos : Pos} {ti : ATD} {p : Pat} {tt : TTD} {te : ET} (hc : X.calm = true) (hN : X.N.Nodup) (hi : PI X tg iter (liftI X.K ti)) (ok : BlkOk X.N X.env.scope scope own)
    (hg : ∀ (s : Shared) (H : Hp) (C : Addr) (cl : List (Str × Addr)) (fp : List Addr), PG (X.blk s H scope (compEnvC scope cl C X.env) fp) tg (gPat X.K p)) (ht : ∀ (s : Shared) (H : Hp) (C : Addr) (cl : List (Str × Addr)) (fp : List Addr), DTs (X.blk s H scope (compEnvC scope cl C X.env) fp) ifs tt)
    (he : ∀ (s : Shared) (H : Hp) (C : Addr) (cl : List (Str × Addr)) (fp : List Addr), DE (X.blk s H scope (compEnvC scope cl C X.env) fp) elt te) (hp : ∀ j ∈ p.ixs, j ∈ own.map (·.2) := by decide) (hs : ∀ x, foldedSetIterable iter X.env x = pure x := by intro _; rfl) :
    DE X (.ListComp elt [⟨tg, iter, ifs, 0⟩] scope pos) (dComp p ti tt te (own.map (·.2))) :=
  PE.imp (pe_lc hc hN hi ok hg (fun s H C cl fp => (ht s H C cl fp).h) he hs) fun σ H Q q => lc_of hp q
theorem ds_setLc {i : Nat} {y : Str} {py : Pos} {elt tg iter : Expr} {ifs : List Expr} {scope : Scope} {own : List (Str × Nat)} {pos spos : Pos} {ti : ATD} {p : Pat} {tt : TTD} {te : ET} (hc : X.calm = true) (hN : X.N.Nodup) (hyl : X.env.scope.names.lookup y = some .local)
    (hsw : swapsWith (.ListComp elt [⟨tg, iter, ifs, 0⟩] scope pos) (some (.Name y py)) spos.line X.env = pure true) (hi : PI X tg iter (liftI X.K ti)) (ok : BlkOk X.N X.env.scope scope own)
    (hg : ∀ (s : Shared) (H : Hp) (C : Addr) (cl : List (Str × Addr)) (fp : List Addr), PG (X.blk s H scope (compEnvC scope cl C X.env) fp) tg (gPat X.K p)) (ht : ∀ (s : Shared) (H : Hp) (C : Addr) (cl : List (Str × Addr)) (fp : List Addr), DTs (X.blk s H scope (compEnvC scope cl C X.env) fp) ifs tt)
    (he : ∀ (s : Shared) (H : Hp) (C : Addr) (cl : List (Str × Addr)) (fp : List Addr), DE (X.blk s H scope (compEnvC scope cl C X.env) fp) elt te) (hy : X.N[i]? = some y := by rfl) (hp : ∀ j ∈ p.ixs, j ∈ own.map (·.2) := by decide) (hs : ∀ x, foldedSetIterable iter X.env x = pure x := by intro _; rfl) :
    DS X (.Assign [.Name y py] (.ListComp elt [⟨tg, iter, ifs, 0⟩] scope pos) spos) (dAsg i (dComp p ti tt te (own.map (·.2)))) :=
  asg_of (PS.imp (ps_setLc hc hN hy hyl hsw hi ok hg (fun s H C cl fp => (ht s H C cl fp).h) he hs) fun D σ H q => lc_of hp q)
end
end DL
end
section
set_option Elab.async false
set_option linter.all false
set_option maxRecDepth 100000
/-! Data layer, sixth part: a slot's own objects, defs by their bodies, built-in operations by data. -/
namespace DL
open PySem PySem.Spec L2

/-! ### a slot's own objects -/
/-- what a slot holds, looked at as data -/
def atD (ρ : Rho) (i : Nat) (k : D → Prop) : Prop := match ρ[i]? with
  | some (some r) => k r.toD
  | _ => False
theorem atD_of {ρ : Rho} {i : Nat} {k : D → Prop} (h : atD ρ i k) : ∃ r, ρ[i]? = some (some r) ∧ k r.toD := by
  unfold atD at h
  split at h
  · rename_i r e
    exact ⟨r, e, h⟩
  · exact h.elim
def atOwn (ρ : Rho) (i : Nat) (k : List D → Prop) : Prop := match ρ[i]? with
  | some (some (.o (.lst xs))) => k xs
  | _ => False
theorem atOwn_of {ρ : Rho} {i : Nat} {k : List D → Prop} (h : atOwn ρ i k) : ∃ xs, ρ[i]? = some (some (.o (.lst xs))) ∧ k xs := by
  unfold atOwn at h
  split at h
  · rename_i r e
    exact ⟨r, e, h⟩
  · exact h.elim
/-- a list or tuple that a slot holds, own or not -/
theorem St2.lstAt {K : PySem.W.Frag} {E : Ent} {σ : Sig} {H : Hp} {ρ : Rho} {F : Hp} (S : St2 K E σ H ρ F) {i : Nat} {r : RD} {xs : List D} (e : ρ[i]? = some (some r)) (er : r.toD = .lst xs) :
    ∃ a vs, σ[i]? = some (some (.ref a)) ∧ H a = some (.lst vs) ∧ DpL K F xs vs := by
  obtain ⟨v, g1, g2⟩ := S.slot i r e
  cases r with
  | d d =>
    have e2 : d = .lst xs := er
    subst e2
    obtain ⟨a, vs, rfl, h1, h2⟩ := g2
    exact ⟨a, vs, g1, S.sub _ _ h1, h2⟩
  | o b =>
    obtain ⟨a, rfl, n, ok⟩ := g2
    cases b with
    | lst ys =>
      have e2 : ys = xs := by
        have e3 : D.lst ys = D.lst xs := er
        injection e3
      subst e2
      obtain ⟨vs, h1, h2⟩ := ok
      exact ⟨a, vs, g1, h1, h2⟩
    | _ => cases er
theorem St2.tupAt {K : PySem.W.Frag} {E : Ent} {σ : Sig} {H : Hp} {ρ : Rho} {F : Hp} (S : St2 K E σ H ρ F) {i : Nat} {r : RD} {xs : List D} (e : ρ[i]? = some (some r)) (er : r.toD = .tup xs) :
    ∃ a vs, σ[i]? = some (some (.ref a)) ∧ H a = some (.tup vs) ∧ DpL K F xs vs := by
  obtain ⟨v, g1, g2⟩ := S.slot i r e
  cases r with
  | d d =>
    have e2 : d = .tup xs := er
    subst e2
    obtain ⟨a, vs, rfl, h1, h2⟩ := g2
    exact ⟨a, vs, g1, S.sub _ _ h1, h2⟩
  | o b => cases b <;> cases er
def ixD (x y : D) (Q : RD → Prop) : Prop := match x, y with
  | .lst xs, .int z => (match atI xs z with
    | some d => Q (.d d)
    | none => False)
  | .tup xs, .int z => (match atI xs z with
    | some d => Q (.d d)
    | none => False)
  | _, _ => False
theorem atI_len {α β : Type} {xs : List α} {ys : List β} (h : xs.length = ys.length) {z : Int} {x : α} (e : atI xs z = some x) : ∃ j, ixN xs.length z = some j ∧ xs[j]? = some x ∧ ixN ys.length z = some j := by
  unfold atI at e
  cases q : ixN xs.length z with
  | none => rw [q] at e; cases e
  | some j =>
    rw [q] at e
    exact ⟨j, rfl, e, by rw [← h]; exact q⟩
theorem atI_dpl {K : PySem.W.Frag} {F : Hp} {xs : List D} {vs : List V} (d : DpL K F xs vs) {z : Int} {x : D} (e : atI xs z = some x) : ∃ v, atI vs z = some v ∧ Dp K F x v := by
  obtain ⟨j, e1, e2, e3⟩ := atI_len d.len e
  obtain ⟨v, g1, g2⟩ := d.get e2
  exact ⟨v, by unfold atI; rw [e3]; exact g1, g2⟩
/-- x[e], x a name, not frozen -/
def dIxV (i : Nat) (tb : ET) : ET := fun ρ Q => atD ρ i fun _ => tb ρ fun y ρ1 => atD ρ1 i fun x => ixD x y.toD fun z => Q z ρ1
section
variable {X : Cx} {a b e : Expr} {ta tb te : ET} {pos : Pos} {i : Nat}
theorem seqRd {K : PySem.W.Frag} {F1 H1 : Hp} {v : V} {x : D} {z : Int} {Q : RD → Prop} {P : VK} (h : ixD x (.int z) Q)
    (hx : ∀ xs, (x = .lst xs ∨ x = .tup xs) → ∃ a vs, v = .ref a ∧ DpL K F1 xs vs ∧ ((x = .lst xs ∧ SqL K H1 a vs) ∨ (x = .tup xs ∧ SqT K H1 a vs))) (k : ∀ d u, Q (.d d) → Dp K F1 d u → P u H1) : rIx K v (.int z) H1 P := by
  cases x with
  | lst xs =>
    obtain ⟨a, vs, rfl, hd, hs⟩ := hx xs (.inl rfl)
    have h' : (match atI xs z with | some d => Q (.d d) | none => False) := h
    cases q : atI xs z with
    | none => rw [q] at h'; exact h'.elim
    | some d =>
      rw [q] at h'
      obtain ⟨u, e1, e2⟩ := atI_dpl hd q
      rcases hs with ⟨_, hs⟩ | ⟨e, _⟩
      · exact .inl ⟨a, vs, z, u, rfl, rfl, hs, e1, k d u h' e2⟩
      · cases e
  | tup xs =>
    obtain ⟨a, vs, rfl, hd, hs⟩ := hx xs (.inr rfl)
    have h' : (match atI xs z with | some d => Q (.d d) | none => False) := h
    cases q : atI xs z with
    | none => rw [q] at h'; exact h'.elim
    | some d =>
      rw [q] at h'
      obtain ⟨u, e1, e2⟩ := atI_dpl hd q
      rcases hs with ⟨e, _⟩ | ⟨_, hs⟩
      · cases e
      · exact .inr (.inl ⟨a, vs, z, u, rfl, rfl, hs, e1, k d u h' e2⟩)
  | _ => exact (show False from h).elim
theorem ixD_int {x y : D} {Q : RD → Prop} (h : ixD x y Q) : ∃ z, y = .int z := by
  cases y with
  | int z => exact ⟨z, rfl⟩
  | _ => cases x <;> exact (show False from h).elim
theorem de_ix (ha : DE X a ta) (hb : DE X b tb) (hs : PlainIx b := by intro _ _; rfl) : DE X (.Subscript a b pos) (dBin ixD ta tb) := PE.imp (pe_ix ix_seq ha hb hs) fun σ H Q q => by
  obtain ⟨E, ρ, F, R, S, h, k⟩ := q
  refine useE S h fun x ρ1 v H1 F1 h1 S1 st1 d1 => useE S1 h1 fun y ρ2 u H2 F2 h2 S2 st2 d2 => ?_
  obtain ⟨z, ez⟩ := ixD_int h2
  rw [ez] at h2 d2
  cases d2
  have d1' := Dp.mono st2.frz _ _ d1
  refine seqRd (K := X.K) (F1 := F2) h2 (fun xs hx => ?_) fun d w hq hd => k _ ρ2 w H2 F2 hq (EOk.data S2 (st1.trans st2) hd)
  rcases hx with e | e
  · rw [e] at d1'
    obtain ⟨a, vs, rfl, g1, g2⟩ := d1'
    exact ⟨a, vs, rfl, g2, .inl ⟨e, .inl (.inl (S2.sub _ _ g1))⟩⟩
  · rw [e] at d1'
    obtain ⟨a, vs, rfl, g1, g2⟩ := d1'
    exact ⟨a, vs, rfl, g2, .inr ⟨e, .inl (.inl (S2.sub _ _ g1))⟩⟩
theorem de_ixV (ha : PE X a (tVar i)) (hb : DE X b tb) (hs : PlainIx b := by intro _ _; rfl) : DE X (.Subscript a b pos) (dIxV i tb) := PE.imp (pe_ix ix_seq ha hb hs) fun σ H Q q => by
  obtain ⟨E, ρ, F, R, S, h, k⟩ := q
  obtain ⟨r0, e0, h⟩ := atD_of h
  obtain ⟨v0, g0, _⟩ := S.slot i r0 e0
  refine ⟨v0, g0, useE S h fun y ρ2 u H2 F2 h2 S2 st2 d2 => ?_⟩
  obtain ⟨r, e1, h3⟩ := atD_of h2
  obtain ⟨z, ez⟩ := ixD_int h3
  rw [ez] at h3 d2
  cases d2
  refine seqRd (K := X.K) (F1 := F2) h3 (fun xs hx => ?_) fun d w hq hd => k _ ρ2 w H2 F2 hq (EOk.data S2 st2 hd)
  rcases hx with e | e
  · obtain ⟨a, vs, q1, q2, q3⟩ := S2.lstAt e1 e
    rw [g0] at q1
    cases q1
    exact ⟨a, vs, rfl, q3, .inl ⟨e, .inl (.inl q2)⟩⟩
  · obtain ⟨a, vs, q1, q2, q3⟩ := S2.tupAt e1 e
    rw [g0] at q1
    cases q1
    exact ⟨a, vs, rfl, q3, .inr ⟨e, .inl (.inl q2)⟩⟩
/-- len(x), x a name -/
def lenD (x : D) (k : Nat → Prop) : Prop := match x with
  | .lst xs => k xs.length
  | .tup xs => k xs.length
  | .str s => s.length ≤ 1000000 ∧ k s.length
  | _ => False
def wLen : ON := fun ds R => match ds with
  | [x] => lenD x fun n => R (.d (.int n))
  | _ => False
def rLenA (K : PySem.W.Frag) : List V → Hp → VK → Prop := fun xs H Q => (∃ p ys, xs = [.ref p] ∧ (SqL K H p ys ∨ SqT K H p ys) ∧ Q (.int ys.length) H) ∨ ∃ z, xs = [.str z] ∧ z.length ≤ sizeLine ∧ Q (.int z.length) H
theorem cr_len : CallR X (.builtin "len") (rLenA X.K) := CallR.or call_len_seq call_len_str
theorem cd_len : CallD X.K (rLenA X.K) wLen := fun F H xs vs R Q s hd h k => by
  cases xs with
  | nil => exact (show False from h).elim
  | cons x r =>
    cases r with
    | cons _ _ => exact (show False from h).elim
    | nil =>
      obtain ⟨v, r, rfl, h1, h2⟩ := hd
      have e : r = [] := h2
      subst e
      cases x with
      | lst ys =>
        obtain ⟨a, us, rfl, g1, g2⟩ := h1
        refine .inl ⟨a, us, rfl, .inl (.inl (.inl (s _ _ g1))), ?_⟩
        rw [← g2.len]
        exact k _ _ H F h (Out.pure s rfl)
      | tup ys =>
        obtain ⟨a, us, rfl, g1, g2⟩ := h1
        refine .inl ⟨a, us, rfl, .inr (.inl (.inl (s _ _ g1))), ?_⟩
        rw [← g2.len]
        exact k _ _ H F h (Out.pure s rfl)
      | str z =>
        obtain rfl : v = .str z := h1
        obtain ⟨hz, h⟩ : z.length ≤ 1000000 ∧ R (.d (.int z.length)) := h
        exact .inr ⟨z, rfl, mill hz, k _ _ H F h (Out.pure s rfl)⟩
      | _ => exact (show False from h).elim
def dLenV (i : Nat) : ET := fun ρ Q => atD ρ i fun x => match x with
  | .lst xs => Q (.d (.int xs.length)) ρ
  | _ => False
theorem de_lenV {p : Pos} (hm : X.mg "len" = none) (ha : PE X e (tVar i)) (hg : Gl X "len" := by rfl) (he : starEach [e] X.env = (false, eval e X.env) :: starEach [] X.env := by rfl) : DE X (.Call (.Name "len" p) [e] [] pos) (dLenV i) :=
  PE.imp (pe_callB call_len_seq hg hm PySem.boot_len (pa_cons ha pa_nil he) (by decide) (by decide) he rfl) fun σ H Q q => by
  obtain ⟨E, ρ, F, R, S, h, k⟩ := q
  obtain ⟨r, e1, h⟩ := atD_of h
  cases e2 : r.toD with
  | lst xs =>
    rw [e2] at h
    obtain ⟨a, vs, g1, g2, g3⟩ := S.lstAt e1 e2
    refine ⟨_, g1, a, vs, rfl, .inl (.inl (.inl g2)), ?_⟩
    rw [← g3.len]
    exact k _ ρ _ H F h (EOk.data S .refl rfl)
  | _ => rw [e2] at h; exact (show False from h).elim

/-! ### own lists: append, insert, pop .. -/
theorem mutOwn {K : PySem.W.Frag} {E : Ent} {σ : Sig} {H : Hp} {ρ : Rho} {F : Hp} (S : St2 K E σ H ρ F) {xs : List D} (e : ρ[i]? = some (some (.o (.lst xs)))) : ∃ a vs, σ[i]? = some (some (.ref a)) ∧ H a = some (.lst vs) ∧ DpL K F xs vs ∧
    ∀ ys ws, DpL K F ys ws → St2 K E σ (upd H a (.lst ws)) (ρ.set i (some (.o (.lst ys)))) F ∧ Stp σ H ρ F (upd H a (.lst ws)) (ρ.set i (some (.o (.lst ys)))) F := by
  obtain ⟨a, vs, g1, g2, g3⟩ := S.lstAt e rfl
  exact ⟨a, vs, g1, g2, g3, fun ys ws h => S.chg e g1 rfl ⟨ws, upd_same, h⟩⟩
def dApp (i : Nat) (te : ET) : ET := fun ρ Q => atOwn ρ i fun _ => te ρ fun y ρ1 => atOwn ρ1 i fun xs => xs.length < 1000000 ∧ Q (.d .non) (ρ1.set i (some (.o (.lst (xs ++ [y.toD])))))
theorem de_app {o : Expr} {apos cpos : Pos} (ho : PE X o (tVar i)) (he : DE X e te) (hbase : attributeBase o "append" X.env (eval o X.env) = eval o X.env := by rfl)
    (hline : (apos.endLine == cpos.line) = true := by rfl) (hs : starEach [e] X.env = (false, eval e X.env) :: starEach [] X.env := by rfl)
    (hfew : ((backTo cpos (starEach [e] X.env)).all (fun x => !x.1) && (backToKw cpos (keywordEach [] X.env)).all (fun x => x.1.isSome) && decide ([e].length + ([] : List Keyword).length + (if ([] : List Keyword).isEmpty then 0 else 1) < 30)) = true := by rfl) : DE X (.Call (.Attribute o "append" apos) [e] [] cpos) (dApp i te) :=
  PE.imp (pe_bm PySem.F.plainAttrs_list PySem.F.slot_list_append PySem.F.type_list_append mt_append ho (pa_cons he pa_nil hs) hbase hfew hline hs rfl) fun σ H Q q => by
  obtain ⟨E, ρ, F, R, S, h, k⟩ := q
  obtain ⟨xs0, e0, h⟩ := atOwn_of h
  obtain ⟨a0, vs0, g0, h0, _⟩ := S.lstAt e0 rfl
  refine ⟨_, g0, .inl ⟨rfl, _, .inl (.inl h0)⟩, useE S h fun y ρ1 u H1 F1 h1 S1 st1 d1 => ?_⟩
  obtain ⟨xs, e1, lt, h2⟩ := atOwn_of h1
  obtain ⟨a, vs, g1, g2, g3, up⟩ := mutOwn S1 e1
  rw [g0] at g1
  cases g1
  obtain ⟨S2, st2⟩ := up (xs ++ [y.toD]) (vs ++ [u]) (g3.app (DpL.cons d1 DpL.nil))
  exact ⟨_, vs, u, rfl, rfl, g2, by rw [← g3.len]; exact mill' lt, k _ _ _ _ F1 h2 (EOk.data S2 (st1.trans st2) rfl)⟩
def dInsert (i : Nat) (ta te : ET) : ET := fun ρ Q => atOwn ρ i fun _ => ta ρ fun x ρ1 => te ρ1 fun y ρ2 => atOwn ρ2 i fun xs => asInt x.toD fun z => xs.length < 1000000 ∧ 0 ≤ z ∧ z < 2 ^ 63 ∧ Q (.d .non) (ρ2.set i (some (.o (.lst (xs.take z.toNat ++ [y.toD] ++ xs.drop z.toNat)))))
theorem de_insert {o e2 : Expr} {apos cpos : Pos} (ho : PE X o (tVar i)) (ha : DE X e ta) (he : DE X e2 te) (hbase : attributeBase o "insert" X.env (eval o X.env) = eval o X.env := by rfl)
    (hline : (apos.endLine == cpos.line) = true := by rfl) (hs : starEach [e, e2] X.env = (false, eval e X.env) :: starEach [e2] X.env := by rfl) (hs2 : starEach [e2] X.env = (false, eval e2 X.env) :: starEach [] X.env := by rfl) (hpl : (backTo cpos (starEach [e2] X.env)).any (·.1) = false := by rfl)
    (hfew : ((backTo cpos (starEach [e, e2] X.env)).all (fun x => !x.1) && (backToKw cpos (keywordEach [] X.env)).all (fun x => x.1.isSome) && decide ([e, e2].length + ([] : List Keyword).length + (if ([] : List Keyword).isEmpty then 0 else 1) < 30)) = true := by rfl) :
    DE X (.Call (.Attribute o "insert" apos) [e, e2] [] cpos) (dInsert i ta te) :=
  PE.imp (pe_bm PySem.F.plainAttrs_list PySem.F.slot_list_insert PySem.F.type_list_insert mt_insert ho (pa_cons ha (pa_cons he pa_nil hs2) hs) hbase hfew hline hs hpl) fun σ H Q q => by
  obtain ⟨E, ρ, F, R, S, h, k⟩ := q
  obtain ⟨xs0, e0, h⟩ := atOwn_of h
  obtain ⟨a0, vs0, g0, h0, _⟩ := S.lstAt e0 rfl
  refine ⟨_, g0, .inl ⟨rfl, _, .inl (.inl h0)⟩, useE S h fun x ρ1 u1 H1 F1 h1 S1 st1 d1 => useE S1 h1 fun y ρ2 u H2 F2 h2 S2 st2 d2 => ?_⟩
  obtain ⟨xs, e1, h3⟩ := atOwn_of h2
  obtain ⟨z, ez, lt, z0, z1, h4⟩ := asInt_of h3
  rw [ez] at d1
  cases d1
  obtain ⟨a, vs, g1, g2, g3, up⟩ := mutOwn S2 e1
  rw [g0] at g1
  cases g1
  obtain ⟨S3, st3⟩ := up (xs.take z.toNat ++ [y.toD] ++ xs.drop z.toNat) (vs.take z.toNat ++ [u] ++ vs.drop z.toNat) (((g3.take _).app (DpL.cons d2 DpL.nil)).app (g3.drop _))
  exact ⟨_, vs, z, u, rfl, rfl, g2, by rw [← g3.len]; exact mill' lt, z0, z1, k _ _ _ _ F2 h4 (EOk.data S3 ((st1.trans st2).trans st3) rfl)⟩
/-- x[e1] = e2 -/
def dSetIx (i : Nat) (ti te : ET) : DTS := fun De ρ => te ρ fun y ρ1 => atOwn ρ1 i fun _ => ti ρ1 fun x ρ2 => atOwn ρ2 i fun xs => asInt x.toD fun z => match ixN xs.length z with
  | some j => De.nx (ρ2.set i (some (.o (.lst (xs.set j y.toD)))))
  | none => False
theorem ds_setIx {o ix : Expr} {kpos : Pos} {ti : ET} (he : DE X e te) (ho : PE X o (tVar i)) (hi : DE X ix ti)
    (ha : ∀ v, assign (.Subscript o ix kpos) X.env v = (do
      let ov ← holding [v] (eval o X.env)
      let iv ← holding [v, ov] (eval ix X.env)
      standAt kpos
      holding [v, ov, iv] (setItem ov iv v)
      release [v, ov, iv] []) := by intro _; rfl) (hs : swapsWithSole [.Subscript o ix kpos] e pos.line X.env = pure false := by rfl) (hw : swappedStores [.Subscript o ix kpos] e X.env = pure none := by rfl)
    (h1 : (assignEach [.Subscript o ix kpos] X.env).map (·.2) = [assign (.Subscript o ix kpos) X.env] := by rfl) : DS X (.Assign [.Subscript o ix kpos] e pos) (dSetIx i ti te) := PS.imp (ps_asg he (pg_sub ho hi set_list ha) hs hw h1) fun D σ H q => by
  obtain ⟨E, ρ, F, De, S, h, C⟩ := q
  refine useE S h fun y ρ1 u H1 F1 h1 S1 st1 d1 => ?_
  obtain ⟨xs0, e0, h1⟩ := atOwn_of h1
  obtain ⟨a0, vs0, g0, h0, _⟩ := S1.lstAt e0 rfl
  refine ⟨_, g0, useE S1 h1 fun x ρ2 w H2 F2 h2 S2 st2 d2 => ?_⟩
  obtain ⟨xs, e1, h3⟩ := atOwn_of h2
  obtain ⟨z, ez, h4⟩ := asInt_of h3
  rw [ez] at d2
  cases d2
  obtain ⟨a, vs, g1, g2, g3, up⟩ := mutOwn S2 e1
  rw [g0] at g1
  cases g1
  cases q : ixN xs.length z with
  | none => rw [q] at h4; exact h4.elim
  | some j =>
    rw [q] at h4
    obtain ⟨S3, st3⟩ := up (xs.set j y.toD) (vs.set j u) (g3.set j (Dp.mono st2.frz _ _ d1))
    exact ⟨_, vs, z, j, rfl, rfl, g2, by rw [← g3.len]; exact q, C.nx _ _ _ F2 S3 ((st1.frz.trans st2.frz).trans st3.frz) h4⟩

/-! ### the attributes that __init__ stores -/
def putN (f : Str) : List Str → List Str
  | [] => [f]
  | k :: ks => if k = f then k :: ks else k :: putN f ks
def putX {α : Type} (f : Str) (y : α) : List Str → List α → List α
  | k :: ks, x :: xs => if k = f then y :: xs else x :: putX f y ks xs
  | _, _ => [y]
theorem putF_zip (f : Str) (y : V) : ∀ (ks : List Str) (vs : List V), ks.length = vs.length → putF f y (ks.zip vs) = (putN f ks).zip (putX f y ks vs)
  | [], [], _ => rfl
  | [], _ :: _, h => by simp at h
  | _ :: _, [], h => by simp at h
  | k :: ks, v :: vs, h => by
    have ih := putF_zip f y ks vs (by simpa using h)
    show (if k = f then (k, y) :: ks.zip vs else (k, v) :: putF f y (ks.zip vs)) = (if k = f then k :: ks else k :: putN f ks).zip (if k = f then y :: vs else v :: putX f y ks vs)
    by_cases e : k = f
    · rw [if_pos e, if_pos e, if_pos e]; rfl
    · rw [if_neg e, if_neg e, if_neg e, ih]; rfl
theorem put_len {α : Type} (f : Str) (y : α) : ∀ (ks : List Str) (vs : List α), ks.length = vs.length → (putN f ks).length = (putX f y ks vs).length
  | [], [], _ => rfl
  | [], _ :: _, h => by simp at h
  | _ :: _, [], h => by simp at h
  | k :: ks, v :: vs, h => by
    have ih := put_len f y ks vs (by simpa using h)
    show (if k = f then k :: ks else k :: putN f ks).length = (if k = f then y :: vs else v :: putX f y ks vs).length
    by_cases e : k = f
    · rw [if_pos e, if_pos e]; simpa using h
    · rw [if_neg e, if_neg e, List.length_cons, List.length_cons, ih]
theorem putX_dpl {K : PySem.W.Frag} {F : Hp} (f : Str) {y : D} {u : V} (hy : Dp K F y u) : ∀ (ks : List Str) (xs : List D) (vs : List V), ks.length = vs.length → DpL K F xs vs → DpL K F (putX f y ks xs) (putX f u ks vs)
  | [], xs, vs, h, hd => by
    cases vs with
    | nil =>
      cases xs with
      | nil => exact DpL.cons hy DpL.nil
      | cons x r => have := hd.len; simp at this
    | cons v r => simp at h
  | k :: ks, [], vs, h, hd => by
    have e : vs = [] := hd
    subst e
    simp at h
  | k :: ks, x :: xs, vs, h, hd => by
    obtain ⟨v, r, rfl, h1, h2⟩ := hd
    show DpL K F (if k = f then y :: xs else x :: putX f y ks xs) (if k = f then u :: r else v :: putX f u ks r)
    by_cases e : k = f
    · rw [if_pos e, if_pos e]; exact DpL.cons hy h2
    · rw [if_neg e, if_neg e]; exact DpL.cons h1 (putX_dpl f hy ks xs r (by simpa using h) h2)
def atSlf (ρ : Rho) (i : Nat) (k : Addr → List Str → List D → Prop) : Prop := match ρ[i]? with
  | some (some (.o (.slf C ks xs))) => k C ks xs
  | _ => False
theorem atSlf_of {ρ : Rho} {i : Nat} {k : Addr → List Str → List D → Prop} (h : atSlf ρ i k) : ∃ C ks xs, ρ[i]? = some (some (.o (.slf C ks xs))) ∧ k C ks xs := by
  unfold atSlf at h
  split at h
  · exact ⟨_, _, _, by assumption, h⟩
  · exact h.elim
/-- self.f = e in __init__ -/
def dSelf (K : PySem.W.Frag) (i : Nat) (f : Str) (te : ET) : DTS := fun De ρ => te ρ fun y ρ1 => atSlf ρ1 i fun C ks xs => Fld K C f ∧ ks.length < 1000 ∧ De.nx (ρ1.set i (some (.o (.slf C (putN f ks) (putX f y.toD ks xs)))))
theorem ds_self {o : Expr} {f : Str} {pos' : Pos} (ho : PE X o (tVar i)) (he : DE X e te) (hs : swapsWith e (some (.Attribute o f pos')) pos.line X.env = pure false := by rfl) : DS X (.Assign [.Attribute o f pos'] e pos) (dSelf X.K i f te) := PS.imp (ps_fld ho he hs) fun D σ H q => by
  obtain ⟨E, ρ, F, De, S, h, C⟩ := q
  refine useE S h fun y ρ1 u H1 F1 h1 S1 st1 d1 => ?_
  obtain ⟨Cc, ks, xs, e1, fl, lt, h2⟩ := atSlf_of h1
  obtain ⟨v, g1, g2⟩ := S1.slot i _ e1
  obtain ⟨a, rfl, n, dx, vs, q1, q2, q3⟩ := g2
  refine ⟨_, g1, a, Cc, dx, _, rfl, q1, fl.cls, fl.no, by rw [List.length_zip, ← q2, Nat.min_self]; exact lt, ?_⟩
  rw [putF_zip f u ks vs q2]
  obtain ⟨S2, st2⟩ := S1.chg (b' := .slf Cc (putN f ks) (putX f y.toD ks xs)) (o := .ins Cc dx ((putN f ks).zip (putX f u ks vs))) e1 g1 rfl ⟨dx, _, upd_same, put_len f u ks vs q2, putX_dpl f d1 ks xs vs q2 q3⟩
  exact C.nx _ _ _ F1 S2 (st1.frz.trans st2.frz) h2
end
end DL
end
section
set_option Elab.async false
set_option linter.all false
set_option maxRecDepth 100000
/-! Data layer, seventh part: defs by their bodies, built-in operations by data. -/
namespace DL
open PySem PySem.Spec L2

/-! ### defs by their bodies -/
def startR (N : List Str) (ds : List D) : Rho := ds.map (fun d => some (RD.d d)) ++ List.replicate (N.length - ds.length) none
def startI (N : List Str) (C : Addr) (ds : List D) : Rho := some (RD.o (.slf C [] [])) :: ds.map (fun d => some (RD.d d)) ++ List.replicate (N.length - (ds.length + 1)) none
theorem start_at {N : List Str} {vs : List V} {i : Nat} {v : V} (h : vs[i]? = some v) : (L2.start N vs)[i]? = some (some v) := by
  unfold L2.start
  have lt : i < vs.length := (List.getElem?_eq_some_iff.mp h).1
  rw [List.getElem?_append_left (by simpa using lt), List.getElem?_map, h]
  rfl
theorem startR_at {N : List Str} {ds : List D} {i : Nat} {r : RD} (h : (startR N ds)[i]? = some (some r)) : ∃ d, ds[i]? = some d ∧ r = .d d := by
  unfold startR at h
  by_cases lt : i < ds.length
  · rw [List.getElem?_append_left (by simpa using lt), List.getElem?_map] at h
    cases q : ds[i]? with
    | none => rw [q] at h; cases h
    | some d => rw [q] at h; cases h; exact ⟨d, rfl, rfl⟩
  · rw [List.getElem?_append_right (by simpa using Nat.le_of_not_lt lt), List.getElem?_replicate] at h
    split at h <;> cases h
section
variable {P : Program} {w : World} {K : PySem.W.Frag} {mg : Str → Option Value} {base : Heap} {k : Nat} {f : Addr} {x qual : Str} {params : Arguments} {body : List Stmt} {scope : Scope} {dvs : List V} {kws : List (Str × V)} {fd : FuncData} {N ps : List Str}
theorem okG {W : ON} (D : FunD K x qual params body scope dvs kws f fd) (S : FnScope N ps scope) (len : ∀ ds R, W ds R → ds.length = ps.length)
    (hb : ∀ (cdv : Value) (A : Around) (outer : List Env) (s : Shared) (H : Hp), Room k (A.deeper (PyProof.Rows.envOfC qual scope s.heap.objs.size f cdv)) → A.guards = some [] →
      ∃ t, DSs (cxOf CX0 P w K mg base N qual scope f cdv A outer s H E0).nox body t ∧ ∀ ds R, W ds R → t { nx := fun _ => R (.d .non), rt := R } (startR N ds)) : FnG P w K mg base (k + 1) f fd ps (spD K W) := by
  refine FnG.body D S (fun vs H Q E h => ?_) (fun cdv A outer s H vs Q hr hG h => ?_)
  · obtain ⟨F, ds, R, _, h1, h2, _⟩ := h
    rw [← h1.len]
    exact len ds R h2
  · obtain ⟨F, ds, R, sF, hd, hW, kk⟩ := h
    obtain ⟨t, ht, hq⟩ := hb cdv A outer s H hr hG
    refine ⟨_, ht, ⟨H, F, none⟩, startR N ds, F, { nx := fun _ => R (.d .non), rt := R }, ?_, hq ds R hW, ?_⟩
    · have hl : ds.length = vs.length := hd.len
      refine ⟨sF, fun a o _ h => h, fun a o h => ⟨o, h⟩, fun a o h => rfl, ?_, fun i r h => ?_, fun i b a h _ => ?_, fun i j b b' a h _ _ _ => ?_⟩
      · unfold startR L2.start
        simp [hl]
      · obtain ⟨d, h1, rfl⟩ := startR_at h
        obtain ⟨v, h2, h3⟩ := hd.get h1
        exact ⟨v, start_at h2, h3⟩
      · obtain ⟨d, _, e⟩ := startR_at h
        cases e
      · obtain ⟨d, _, e⟩ := startR_at h
        cases e
    · have fin : ∀ r v H' F', ROk K ⟨H, F, none⟩ H' F' r v → R r → Q v H' := fun r v H' F' o hr => kk r v H' F' hr ⟨⟨fun a u h => o.keep a u (by intro e; cases e) h, o.sub, fun a u h => o.frz a u h⟩, o.ok, fun b a e1 e2 => o.new b a e1 e2⟩
      exact ⟨fun σ H' ρ F' S' _ q => fin (.d .non) .non H' F' ⟨S'.sub, S'.keep, S'.frz, rfl, fun _ _ e => nomatch e⟩ q, fun _ _ _ _ _ _ q => q.elim, fun _ _ _ _ _ _ q => q.elim, fun r v H' F' o hr => fin r v H' F' o hr, fun _ _ _ _ _ _ q => q.elim⟩
def slfEnd (C : Addr) (R : List Str → List D → Prop) (ρ : Rho) : Prop := match ρ[0]? with
  | some (some (RD.o (OB.slf C' ks xs))) => C' = C ∧ R ks xs
  | _ => False
theorem okI {W : IN} {C : Addr} (D : FunD K x qual params body scope dvs kws f fd) (S : FnScope N ps scope) (len : ∀ ds R, W ds R → ds.length + 1 = ps.length)
    (hb : ∀ (cdv : Value) (A : Around) (outer : List Env) (s : Shared) (H : Hp), Room k (A.deeper (PyProof.Rows.envOfC qual scope s.heap.objs.size f cdv)) → A.guards = some [] →
      ∃ t, DSs (cxOf CX0 P w K mg base N qual scope f cdv A outer s H E0).nox body t ∧ ∀ ds R, W ds R → t { nx := slfEnd C R, rt := fun _ => False } (startI N C ds)) : FnG P w K mg base (k + 1) f fd ps (spI K C W) := by
  refine FnG.body D S (fun vs H Q E h => ?_) (fun cdv A outer s H vs Q hr hG h => ?_)
  · obtain ⟨F, ds, R, a, dx, us, rfl, _, _, _, h1, h2, _⟩ := h
    show us.length + 1 = ps.length
    rw [← h1.len]
    exact len ds R h2
  · obtain ⟨F, ds, R, a, dx, us, rfl, ha, nF, sF, hd, hW, kk⟩ := h
    obtain ⟨t, ht, hq⟩ := hb cdv A outer s H hr hG
    have hl : ds.length = us.length := hd.len
    have at0 : ∀ (i : Nat) (r : RD), (startI N C ds)[i]? = some (some r) → (i = 0 ∧ r = .o (.slf C [] [])) ∨ ∃ j d, i = j + 1 ∧ ds[j]? = some d ∧ r = .d d := fun i r h => by
      cases i with
      | zero =>
        have e : some (RD.o (.slf C [] [])) = some r := Option.some.inj h
        exact .inl ⟨rfl, (Option.some.inj e).symm⟩
      | succ j =>
        have h' : (ds.map (fun d => some (RD.d d)) ++ List.replicate (N.length - (ds.length + 1)) none)[j]? = some (some r) := h
        by_cases lt : j < ds.length
        · rw [List.getElem?_append_left (by simpa using lt), List.getElem?_map] at h'
          cases q : ds[j]? with
          | none => rw [q] at h'; cases h'
          | some d => rw [q] at h'; cases h'; exact .inr ⟨j, d, rfl, q, rfl⟩
        · rw [List.getElem?_append_right (by simpa using Nat.le_of_not_lt lt), List.getElem?_replicate] at h'
          split at h' <;> cases h'
    refine ⟨_, ht, ⟨H, F, some a⟩, startI N C ds, F, { nx := slfEnd C R, rt := fun _ => False }, ?_, hq ds R hW, ?_⟩
    · refine ⟨sF, fun b o _ h => h, fun b o h => ⟨o, h⟩, fun b o h => rfl, ?_, fun i r h => ?_, fun i b c h h2 => ?_, fun i j b b' c h h' _ _ => ?_⟩
      · unfold startI L2.start
        simp [hl]
      · rcases at0 i r h with ⟨rfl, rfl⟩ | ⟨j, d, rfl, h1, rfl⟩
        · exact ⟨.ref a, start_at rfl, a, rfl, nF, dx, [], ha, rfl, DpL.nil⟩
        · obtain ⟨v, h2, h3⟩ := hd.get h1
          exact ⟨v, start_at h2, h3⟩
      · rcases at0 i _ h with ⟨rfl, e⟩ | ⟨j, d, rfl, h1, e⟩
        · cases e
          have e2 : (L2.start N (.ref a :: us))[0]? = some (some (.ref a)) := start_at rfl
          rw [e2] at h2
          cases h2
          exact .inl ⟨rfl, rfl⟩
        · cases e
      · rcases at0 i _ h with ⟨rfl, e⟩ | ⟨_, _, rfl, h1, e⟩
        · rcases at0 j _ h' with ⟨rfl, e'⟩ | ⟨_, _, rfl, _, e'⟩
          · rfl
          · cases e'
        · cases e
    · refine ⟨fun σ H' ρ F' S' _ q => ?_, fun _ _ _ _ _ _ q => q.elim, fun _ _ _ _ _ _ q => q.elim, fun _ _ _ _ _ q => q.elim, fun _ _ _ _ _ _ q => q.elim⟩
      have q' : slfEnd C R ρ := q
      unfold slfEnd at q'
      split at q'
      · rename_i C' ks xs e1
        obtain ⟨rfl, hR⟩ := q'
        obtain ⟨v, g1, b, rfl, n, dx', vs', q1, q2, q3⟩ := S'.slot 0 _ e1
        have eb : b = a := by
          rcases S'.own0 0 _ b e1 g1 with ⟨_, e⟩ | ⟨e, _⟩
          · exact (Option.some.inj e).symm
          · cases e
        subst eb
        exact kk ks xs vs' H' F' hR ⟨⟨dx', q1⟩, q2, q3, n, fun c u ne hc => S'.keep c u (fun e => ne (Option.some.inj e).symm) hc, S'.sub, S'.frz⟩
      · exact q'.elim
end

/-! ### how a def stands in the module -/
section
variable {P : Program} {w : World} {K : PySem.W.Frag} {mg : Str → Option Value} {base : Heap} {k : Nat} {x m : Str} {f C : Addr} {fd : FuncData} {ps : List Str} {ds : List Value} {dvs : List V} {dds : List D} {W : ON} {WI : IN}
theorem Def.of (hm : mg x = some (.ref f)) (hk : PySem.W.keepIn K (.ref f) = true) (F : FnG P w K mg base k f fd ps (spD K W)) (hb : ∃ ds, Vals dvs ds ∧ Binds K fd ps ds) (hd : ∀ F, DpL K F dds dvs) : Def P w K mg base k x dds W :=
  let ⟨ds, h1, h2⟩ := hb
  ⟨f, fd, ps, ds, dvs, hm, hk, h2, h1, hd, F⟩
theorem Mth.of (c : Cls K C) (hm : Meth K C m f) (F : FnG P w K mg base k f fd ps (spD K W)) (hb : ∃ ds, Vals dvs ds ∧ Binds K fd ps ds) (hd : ∀ F, DpL K F dds dvs) : Mth P w K mg base k C m dds W :=
  let ⟨ds, h1, h2⟩ := hb
  ⟨c, f, fd, ps, ds, dvs, hm, h2, h1, hd, F⟩
theorem Cla.of (hm : mg x = some (.ref C)) (hk : Mk K C f) (F : FnG P w K mg base k f fd ps (spI K C WI)) (hb : ∃ ds, Vals dvs ds ∧ Binds K fd ps ds) (hd : ∀ F, DpL K F dds dvs) : Cla P w K mg base k x C dds WI :=
  let ⟨ds, h1, h2⟩ := hb
  ⟨hm, f, fd, ps, ds, dvs, hk, h2, h1, hd, F⟩
theorem Def.mono {j : Nat} (G : Def P w K mg base j x dds W) (h : j ≤ k) : Def P w K mg base k x dds W :=
  let ⟨f, fd, ps, ds, dvs, h1, h2, h3, h4, h5, F⟩ := G.ex
  ⟨f, fd, ps, ds, dvs, h1, h2, h3, h4, h5, F.mono h⟩
theorem Mth.mono {j : Nat} (G : Mth P w K mg base j C m dds W) (h : j ≤ k) : Mth P w K mg base k C m dds W :=
  let ⟨f, fd, ps, ds, dvs, h1, h3, h4, h5, F⟩ := G.ex
  ⟨G.cls, f, fd, ps, ds, dvs, h1, h3, h4, h5, F.mono h⟩
theorem Cla.mono {j : Nat} (G : Cla P w K mg base j x C dds WI) (h : j ≤ k) : Cla P w K mg base k x C dds WI :=
  let ⟨f, fd, ps, ds, dvs, h1, h3, h4, h5, F⟩ := G.ex
  ⟨G.at_, f, fd, ps, ds, dvs, h1, h3, h4, h5, F.mono h⟩
theorem nods {fd : FuncData} {ps : List Str} (h : Binds K fd ps []) : ∃ ds, Vals [] ds ∧ Binds K fd ps ds := ⟨[], .nil, h⟩
end

/-! ### operations on ints, lists -/
def addD : O2 := fun x y Q => match x, y with
  | .int i, .int j => Q (.d (.int (i + j)))
  | .lst xs, .lst ys => xs.length + ys.length ≤ 1000000 ∧ Q (.o (.lst (xs ++ ys)))
  | _, _ => False
def rAddA : R2 := fun x y H Q => rI0 (fun i j => .int (i + j)) x y H Q ∨ rCat x y H Q
theorem op_addA {X : Cx} : OpR X (binaryOp .Add) rAddA := op_add.or op_cat
theorem od_add {K : PySem.W.Frag} : OpD K rAddA addD := fun F H x y v u R Q s hx hy h k => by
  unfold addD at h
  split at h
  · cases hx; cases hy
    exact .inl ⟨_, _, rfl, rfl, k _ _ H F h (Out.pure s rfl)⟩
  · obtain ⟨a, vs, rfl, g1, g2⟩ := hx
    obtain ⟨b, us, rfl, g3, g4⟩ := hy
    refine .inr ⟨a, b, vs, us, rfl, rfl, s _ _ g1, s _ _ g3, by rw [← g2.len, ← g4.len]; exact mill h.1, fun p hp => ?_⟩
    exact k _ _ _ _ h.2 (Out.newLst s hp (g2.app g4))
  · exact h.elim
def intD (C : Int → Int → Prop) (g : Int → Int → D) : O2 := fun x y Q => match x, y with
  | .int i, .int j => C i j ∧ Q (.d (g i j))
  | _, _ => False
def int0 (g : Int → Int → D) : O2 := fun x y Q => match x, y with
  | .int i, .int j => Q (.d (g i j))
  | _, _ => False
theorem od_int {K : PySem.W.Frag} {C : Int → Int → Prop} {g : Int → Int → V} {g2 : Int → Int → D} (hg : ∀ i j F, Dp K F (g2 i j) (g i j)) : OpD K (rI C g) (intD C g2) := fun F H x y v u R Q s hx hy h k => by
  unfold intD at h
  split at h
  · cases hx; cases hy
    exact ⟨_, _, rfl, rfl, h.1, k _ _ H F h.2 (Out.pure s (hg _ _ _))⟩
  · exact h.elim
theorem od_int0 {K : PySem.W.Frag} {g : Int → Int → V} {g2 : Int → Int → D} (hg : ∀ i j F, Dp K F (g2 i j) (g i j)) : OpD K (rI0 g) (int0 g2) := fun F H x y v u R Q s hx hy h k => by
  unfold int0 at h
  split at h
  · cases hx; cases hy
    exact ⟨_, _, rfl, rfl, k _ _ H F h (Out.pure s (hg _ _ _))⟩
  · exact h.elim
abbrev subD : O2 := int0 fun i j => .int (i - j)
theorem od_sub {K : PySem.W.Frag} : OpD K (rI0 fun i j => .int (i - j)) subD := od_int0 fun _ _ _ => rfl
abbrev fdivD : O2 := intD CDivW fun i j => .int (i / j)
theorem od_fdiv {K : PySem.W.Frag} : OpD K (rI CDivW fun i j => .int (i / j)) fdivD := od_int fun _ _ _ => rfl
abbrev modD : O2 := intD (fun _ j => 0 < j) fun i j => .int (i % j)
theorem od_mod {K : PySem.W.Frag} : OpD K (rI (fun _ j => 0 < j) fun i j => .int (i % j)) modD := od_int fun _ _ _ => rfl
abbrev powD : O2 := intD CPow fun i j => .int (i ^ j.toNat)
theorem od_pow {K : PySem.W.Frag} : OpD K (rI CPow fun i j => .int (i ^ j.toNat)) powD := od_int fun _ _ _ => rfl
abbrev ltD : O2 := int0 fun i j => .bl (decide (i < j))
theorem od_lt {K : PySem.W.Frag} : OpD K (rI0 fun i j => .bl (decide (i < j))) ltD := od_int0 fun _ _ _ => rfl
abbrev leD : O2 := int0 fun i j => .bl (decide (i ≤ j))
theorem od_le {K : PySem.W.Frag} : OpD K (rI0 fun i j => .bl (decide (i ≤ j))) leD := od_int0 fun _ _ _ => rfl
abbrev gtD : O2 := int0 fun i j => .bl (decide (j < i))
theorem od_gt {K : PySem.W.Frag} : OpD K (rI0 fun i j => .bl (decide (j < i))) gtD := od_int0 fun _ _ _ => rfl
abbrev geD : O2 := int0 fun i j => .bl (decide (j ≤ i))
theorem od_ge {K : PySem.W.Frag} : OpD K (rI0 fun i j => .bl (decide (j ≤ i))) geD := od_int0 fun _ _ _ => rfl
def mulD : O2 := fun x y Q => match x, y with
  | .int i, .int j => (CMulW i j ∨ CMul i j) ∧ Q (.d (.int (i * j)))
  | .lst xs, .int n => n < 2 ^ 63 ∧ -(2 ^ 63) ≤ n ∧ xs.length * n.toNat ≤ 1000000 ∧ Q (.o (.lst (List.replicate n.toNat xs).flatten))
  | _, _ => False
def rMulA : R2 := fun x y H Q => rI CMulW (fun i j => .int (i * j)) x y H Q ∨ rI CMul (fun i j => .int (i * j)) x y H Q ∨ rRep x y H Q
theorem op_mulA {X : Cx} : OpR X (binaryOp .Mult) rMulA := op_mulW.or (op_mul.or op_rep)
theorem od_mul {K : PySem.W.Frag} : OpD K rMulA mulD := fun F H x y v u R Q s hx hy h k => by
  unfold mulD at h
  split at h
  · cases hx; cases hy
    rcases h with ⟨h1 | h1, h2⟩
    · exact .inl ⟨_, _, rfl, rfl, h1, k _ _ H F h2 (Out.pure s rfl)⟩
    · exact .inr (.inl ⟨_, _, rfl, rfl, h1, k _ _ H F h2 (Out.pure s rfl)⟩)
  · obtain ⟨a, vs, rfl, g1, g2⟩ := hx
    cases hy
    obtain ⟨h1, h2, h3, h4⟩ := h
    refine .inr <| .inr ⟨a, _, vs, rfl, rfl, s _ _ g1, h2, h1, by rw [← g2.len]; exact mill h3, fun p hp => ?_⟩
    exact k _ _ _ _ h4 (Out.newLst s hp (g2.rep _))
  · exact h.elim
def negD : O1 := fun x Q => match x with
  | .int i => Q (.d (.int (-i)))
  | _ => False
theorem ud_neg {K : PySem.W.Frag} : UnD K (rU fun i => .int (-i)) negD := fun F H x v R Q s hx h k => by
  unfold negD at h
  split at h
  · cases hx
    exact ⟨_, rfl, k _ _ H F h (Out.pure s rfl)⟩
  · exact h.elim
/-! ### is None -/
def D.isNon : D → Bool
  | .non => true
  | .raw (.non) => true
  | _ => false
theorem isNon_dec {K : PySem.W.Frag} {F : Hp} {x : D} {v : V} (h : Dp K F x v) : x.isNon = decide (v = .non) := by
  cases x with
  | non => cases h; rfl
  | bl b => cases h; rfl
  | int b => cases h; rfl
  | str b => cases h; rfl
  | raw b =>
    obtain rfl : v = b := h
    cases v <;> rfl
  | lst xs => obtain ⟨a, vs, rfl, _⟩ := h; rfl
  | tup xs => obtain ⟨a, vs, rfl, _⟩ := h; rfl
  | ins C ks xs => obtain ⟨a, dx, vs, rfl, _⟩ := h; rfl
  | dk ks xs => obtain ⟨a, vs, rfl, _⟩ := h; rfl
  | dt ks xs => obtain ⟨a, vs, rfl, _⟩ := h; rfl
  | bag => obtain ⟨a, b, vs, rfl, _⟩ := h; rfl
  | scr ns => obtain ⟨a, rfl, _⟩ := h; rfl
def isND : O2 := fun x y Q => match y with
  | .non => Q (.d (.bl x.isNon))
  | _ => False
def notND : O2 := fun x y Q => match y with
  | .non => Q (.d (.bl (!x.isNon)))
  | _ => False
def rIsN : R2 := fun x y H Q => y = .non ∧ Q (.bl (decide (x = .non))) H
def rNotN : R2 := fun x y H Q => y = .non ∧ Q (.bl (!decide (x = .non))) H
theorem od_isN {K : PySem.W.Frag} : OpD K rIsN isND := fun F H x y v u R Q s hx hy h k => by
  unfold isND at h
  split at h
  · cases hy
    refine ⟨rfl, ?_⟩
    rw [← isNon_dec hx]
    exact k _ _ H F h (Out.pure s rfl)
  · exact h.elim
theorem od_notN {K : PySem.W.Frag} : OpD K rNotN notND := fun F H x y v u R Q s hx hy h k => by
  unfold notND at h
  split at h
  · cases hy
    refine ⟨rfl, ?_⟩
    rw [← isNon_dec hx]
    exact k _ _ H F h (Out.pure s rfl)
  · exact h.elim
theorem op_isNA {X : Cx} : OpR X (compareOp .Is) rIsN := op_isN
theorem op_notNA {X : Cx} : OpR X (compareOp .IsNot) rNotN := op_notN
end DL
end
section
set_option Elab.async false
set_option linter.all false
set_option maxRecDepth 100000
set_option exponentiation.threshold 20000
/-! Data layer, eighth part: equality, repr, isinstance, slices, built-in functions. -/
namespace DL
open PySem PySem.Spec L2

/-! ### plain data -/
mutual
def D.py : D → PyData
  | .non => .none
  | .bl b => .bool b
  | .int i => .int i
  | .str x => .str x
  | .lst xs => .list (pyL xs)
  | .tup xs => .tuple (pyL xs)
  | .raw _ => .dict []
  | .ins _ _ _ => .dict []
  | .dk _ _ => .dict []
  | .dt _ _ => .dict []
  | .bag => .dict []
  | .scr _ => .dict []
def pyL : List D → List PyData
  | [] => []
  | x :: xs => x.py :: pyL xs
end
/-- plain data: of depth at most k, of at most n things; its ints below 2 ^ 1900 -/
inductive Sh : Nat → Nat → D → Prop
  | non {k n} : Sh k n .non
  | bl {k n b} : Sh k n (.bl b)
  | int {k n i} (h : i.natAbs < 2 ^ 1900) : Sh k n (.int i)
  | str {k n x} (h : PyData.strOk x = true) (hn : x.cps.size ≤ n) : Sh k n (.str x)
  | lst {k n m xs} (h : ∀ x ∈ xs, Sh k n x) (hm : xs.length * (n + 1) ≤ m) : Sh (k + 1) m (.lst xs)
  | tup {k n m xs} (h : ∀ x ∈ xs, Sh k n x) (hm : xs.length * (n + 1) ≤ m) : Sh (k + 1) m (.tup xs)
theorem log2_1900 {i : Nat} (h : i < 2 ^ 1900) : i.log2 < 1920 := log2_small (Nat.lt_of_lt_of_le h (Nat.pow_le_pow_right (by decide) (by decide)))
structure ShF (k n : Nat) (d : PyData) : Prop where
  lay : d.canLay0 = true
  dep : d.depth ≤ k
  blk : d.bulk ≤ n
  sho : d.showable = true
  lea : d.leavesShort 1930 = true
structure ShFL (k n l : Nat) (d : List PyData) : Prop where
  lay : PyData.canLayAll0 d = true
  dep : PyData.depthAll d ≤ k
  blk : PyData.bulkAll d ≤ l * (n + 1)
  sho : PyData.showableAll d = true
  lea : PyData.leavesShortAll 1930 d = true
theorem shfl {k n : Nat} : ∀ {xs : List D}, (∀ x ∈ xs, ShF k n x.py) → ShFL k n xs.length (pyL xs)
  | [], _ => ⟨rfl, by simp [pyL, PyData.depthAll], by simp [pyL, PyData.bulkAll], rfl, rfl⟩
  | x :: xs, h => by
    have h1 := h x List.mem_cons_self
    have h2 := shfl (k := k) (n := n) (xs := xs) fun y hy => h y (List.mem_cons_of_mem _ hy)
    refine ⟨?_, ?_, ?_, ?_, ?_⟩
    · simp only [pyL, PyData.canLayAll0, h1.lay, h2.lay, Bool.and_self]
    · have a := h1.dep
      have b := h2.dep
      simp only [pyL, PyData.depthAll]
      omega
    · have a := h1.blk
      have b := h2.blk
      simp only [pyL, PyData.bulkAll, List.length_cons, Nat.add_mul, Nat.one_mul]
      omega
    · simp only [pyL, PyData.showableAll, h1.sho, h2.sho, Bool.and_self]
    · simp only [pyL, PyData.leavesShortAll, h1.lea, h2.lea, Bool.and_self]
theorem Sh.f {k n : Nat} {d : D} (h : Sh k n d) : ShF k n d.py := by
  induction h with
  | non => exact ⟨rfl, Nat.zero_le _, Nat.zero_le _, rfl, rfl⟩
  | bl => exact ⟨rfl, Nat.zero_le _, Nat.zero_le _, rfl, rfl⟩
  | @int k n i h =>
    refine ⟨rfl, Nat.zero_le _, Nat.zero_le _, ?_, ?_⟩
    · simp only [D.py, PyData.showable, decide_eq_true_eq]
      exact log2_1900 h
    · simp only [D.py, PyData.leavesShort, decide_eq_true_eq, PyData.shown_int]
      have e := int_text_length_le (a := i) (k := 1920) (by decide) (log2_1900 h)
      have e2 : ((toString i : String) : Str).length = (toString i).length := ofString_length _
      rw [e2]
      omega
  | @str k n x h hn =>
    refine ⟨?_, Nat.zero_le _, hn, rfl, ?_⟩
    · simp only [D.py, PyData.canLay0]; exact h
    · simp only [D.py, PyData.leavesShort, List.all_eq_true, decide_eq_true_eq]
      intro c hc
      have h' : x.cps.all (fun c => decide (c < 0x110000)) = true := h
      rw [← Array.all_toList, List.all_eq_true] at h'
      have := of_decide_eq_true (h' c hc)
      omega
  | @lst k n m xs h hm ih =>
    have f := shfl ih
    refine ⟨?_, ?_, ?_, ?_, ?_⟩
    · simp only [D.py, PyData.canLay0]; exact f.lay
    · have := f.dep
      simp only [D.py, PyData.depth]
      omega
    · have := f.blk
      simp only [D.py, PyData.bulk]
      omega
    · simp only [D.py, PyData.showable]; exact f.sho
    · simp only [D.py, PyData.leavesShort]; exact f.lea
  | @tup k n m xs h hm ih =>
    have f := shfl ih
    refine ⟨?_, ?_, ?_, ?_, ?_⟩
    · simp only [D.py, PyData.canLay0]; exact f.lay
    · have := f.dep
      simp only [D.py, PyData.depth]
      omega
    · have := f.blk
      simp only [D.py, PyData.bulk]
      omega
    · simp only [D.py, PyData.showable]; exact f.sho
    · simp only [D.py, PyData.leavesShort]; exact f.lea
theorem ShF.shaped {k n : Nat} {d : PyData} (f : ShF k n d) (hk : k ≤ 64) : SeqAt.shaped d = true := by
  unfold SeqAt.shaped
  rw [f.lay, Bool.true_and]
  have := f.dep
  exact decide_eq_true (by omega)
theorem ShF.short {k n : Nat} {d : PyData} (f : ShF k n d) (hn : n ≤ 8000) : d.shown.length ≤ sizeLine := by
  have h := PyData.shown_le_bulk 1930 (by decide) d f.lea
  have b := f.blk
  have s : sizeLine = 16777216 := sizeLine_eq
  have : (1930 + 2) * d.bulk ≤ 1932 * 8000 := Nat.mul_le_mul_left _ (by omega)
  omega
mutual
theorem Dp.toPy {K : PySem.W.Frag} {F H : Hp} (s : Same F H) : ∀ (d : D) (v : V), d.py.canLay0 = true → Dp K F d v → L2.Dp K H v d.py
  | .non, v, _, h => by cases h; exact .non
  | .bl b, v, _, h => by cases h; exact .bl b
  | .int i, v, _, h => by cases h; exact .int i
  | .str x, v, _, h => by cases h; exact .str x
  | .lst xs, v, c, h => by
    obtain ⟨a, vs, rfl, h1, h2⟩ := h
    exact .lst (.inl (.inl (s _ _ h1))) (DpL.toPy s xs vs (by simpa only [D.py, PyData.canLay0] using c) h2)
  | .tup xs, v, c, h => by
    obtain ⟨a, vs, rfl, h1, h2⟩ := h
    exact .tup (.inl (.inl (s _ _ h1))) (DpL.toPy s xs vs (by simpa only [D.py, PyData.canLay0] using c) h2)
  | .raw w, v, c, h => by simp [D.py, PyData.canLay0] at c
  | .ins _ _ _, v, c, h => by simp [D.py, PyData.canLay0] at c
  | .dk _ _, v, c, h => by simp [D.py, PyData.canLay0] at c
  | .dt _ _, v, c, h => by simp [D.py, PyData.canLay0] at c
  | .bag, v, c, h => by simp [D.py, PyData.canLay0] at c
  | .scr _, v, c, h => by simp [D.py, PyData.canLay0] at c
theorem DpL.toPy {K : PySem.W.Frag} {F H : Hp} (s : Same F H) : ∀ (ds : List D) (vs : List V), PyData.canLayAll0 (pyL ds) = true → DpL K F ds vs → L2.DpAll K H vs (pyL ds)
  | [], vs, _, h => by
    have e : vs = [] := h
    subst e
    exact .nil
  | d :: ds, vs, c, h => by
    obtain ⟨v, r, rfl, h1, h2⟩ := h
    obtain ⟨c1, c2⟩ := Bool.and_eq_true_iff.mp (show (d.py.canLay0 && PyData.canLayAll0 (pyL ds)) = true from by simpa only [pyL, PyData.canLayAll0] using c)
    exact .cons (Dp.toPy s d v c1 h1) (DpL.toPy s ds r c2 h2)
end
/-- equal, as == tells it of plain data -/
def D.eqv (x y : D) : Bool := PyData.eqv x.py y.py
/-- such as == looks at -/
def D.pl (x : D) : Bool := SeqAt.shaped x.py
theorem Sh.pl {k n : Nat} {d : D} (h : Sh k n d) (hk : k ≤ 64 := by decide) : d.pl = true := h.f.shaped hk
theorem Sh.eqv {k n : Nat} {d : D} (h : Sh k n d) : d.eqv d = true := SeqAt.eqv_refl _ h.f.lay
mutual
/-- no truth within -/
def D.nob : D → Bool
  | .bl _ => false
  | .lst xs => nobL xs
  | .tup xs => nobL xs
  | .raw _ => false
  | .ins _ _ _ => false
  | .dk _ _ => false
  | .dt _ _ => false
  | .bag => false
  | .scr _ => false
  | _ => true
def nobL : List D → Bool
  | [] => true
  | x :: xs => x.nob && nobL xs
end
mutual
theorem eqv_iff : ∀ (x y : D), x.nob = true → y.nob = true → (x.eqv y = true ↔ x = y)
  | .non, y, hx, hy => by cases y <;> simp_all [D.eqv, D.py, PyData.eqv, D.nob]
  | .int i, y, hx, hy => by cases y <;> simp_all [D.eqv, D.py, PyData.eqv, D.nob]
  | .str i, y, hx, hy => by cases y <;> simp_all [D.eqv, D.py, PyData.eqv, D.nob]
  | .lst xs, y, hx, hy => by
    cases y with
    | lst ys =>
      have h := eqvL_iff xs ys (by simpa only [D.nob] using hx) (by simpa only [D.nob] using hy)
      simp only [D.eqv, D.py, PyData.eqv]
      rw [h]
      constructor
      · intro e; rw [e]
      · intro e; injection e
    | _ => simp_all [D.eqv, D.py, PyData.eqv, D.nob]
  | .tup xs, y, hx, hy => by
    cases y with
    | tup ys =>
      have h := eqvL_iff xs ys (by simpa only [D.nob] using hx) (by simpa only [D.nob] using hy)
      simp only [D.eqv, D.py, PyData.eqv]
      rw [h]
      constructor
      · intro e; rw [e]
      · intro e; injection e
    | _ => simp_all [D.eqv, D.py, PyData.eqv, D.nob]
  | .bl _, y, hx, _ => by simp [D.nob] at hx
  | .raw _, y, hx, _ => by simp [D.nob] at hx
  | .ins _ _ _, y, hx, _ => by simp [D.nob] at hx
  | .dk _ _, y, hx, _ => by simp [D.nob] at hx
  | .dt _ _, y, hx, _ => by simp [D.nob] at hx
  | .bag, y, hx, _ => by simp [D.nob] at hx
  | .scr _, y, hx, _ => by simp [D.nob] at hx
theorem eqvL_iff : ∀ (xs ys : List D), nobL xs = true → nobL ys = true → (PyData.eqvAll (pyL xs) (pyL ys) = true ↔ xs = ys)
  | [], [], _, _ => by simp [pyL, PyData.eqvAll]
  | [], y :: ys, _, _ => by simp [pyL, PyData.eqvAll]
  | x :: xs, [], _, _ => by simp [pyL, PyData.eqvAll]
  | x :: xs, y :: ys, hx, hy => by
    obtain ⟨a1, a2⟩ := Bool.and_eq_true_iff.mp (show (x.nob && nobL xs) = true from by simpa only [nobL] using hx)
    obtain ⟨b1, b2⟩ := Bool.and_eq_true_iff.mp (show (y.nob && nobL ys) = true from by simpa only [nobL] using hy)
    have h1 := eqv_iff x y a1 b1
    have h2 := eqvL_iff xs ys a2 b2
    simp only [pyL, PyData.eqvAll, Bool.and_eq_true]
    rw [show PyData.eqv x.py y.py = x.eqv y from rfl, h1, h2]
    constructor
    · rintro ⟨rfl, rfl⟩; rfl
    · intro e; injection e with e1 e2; exact ⟨e1, e2⟩
end
theorem eqv_dec {x y : D} (hx : x.nob = true) (hy : y.nob = true) [Decidable (x = y)] : x.eqv y = decide (x = y) := by
  by_cases e : x = y
  · rw [decide_eq_true e]
    exact (eqv_iff x y hx hy).mpr e
  · rw [decide_eq_false e]
    cases q : x.eqv y with
    | false => rfl
    | true => exact absurd ((eqv_iff x y hx hy).mp q) e
def eqD : O2 := fun x y Q => x.pl = true ∧ y.pl = true ∧ Q (.d (.bl (x.eqv y)))
def neD : O2 := fun x y Q => x.pl = true ∧ y.pl = true ∧ Q (.d (.bl (!x.eqv y)))
theorem od_eq {K : PySem.W.Frag} : OpD K (rEqD K) eqD := fun F H x y v u R Q s hx hy h k => by
  obtain ⟨h1, h2, h⟩ := h
  exact ⟨_, _, Dp.toPy s x v (SeqAt.canLay_of_shaped h1) hx, Dp.toPy s y u (SeqAt.canLay_of_shaped h2) hy, h1, h2, k _ _ H F h (Out.pure s rfl)⟩
theorem od_ne {K : PySem.W.Frag} : OpD K (rNeD K) neD := fun F H x y v u R Q s hx hy h k => by
  obtain ⟨h1, h2, h⟩ := h
  exact ⟨_, _, Dp.toPy s x v (SeqAt.canLay_of_shaped h1) hx, Dp.toPy s y u (SeqAt.canLay_of_shaped h2) hy, h1, h2, k _ _ H F h (Out.pure s rfl)⟩
/-- x in a list of plain data -/
def inD : O2 := fun x y Q => match y with
  | .lst ys => x.pl = true ∧ (D.lst ys).pl = true ∧ Q (.d (.bl (ys.any fun z => z.eqv x)))
  | _ => False
def notInD : O2 := fun x y Q => match y with
  | .lst ys => x.pl = true ∧ (D.lst ys).pl = true ∧ Q (.d (.bl (!ys.any fun z => z.eqv x)))
  | _ => False
theorem any_py (x : D) : ∀ ys : List D, ((pyL ys).any fun z => PyData.eqv z x.py) = ys.any fun z => z.eqv x
  | [] => rfl
  | y :: ys => by
    simp only [pyL, List.any_cons, any_py x ys]
    rfl
theorem od_in {K : PySem.W.Frag} : OpD K (rInD K) inD := fun F H x y v u R Q s hx hy h k => by
  unfold inD at h
  split at h
  · obtain ⟨h1, h2, h⟩ := h
    refine ⟨_, _, Dp.toPy s x v (SeqAt.canLay_of_shaped h1) hx, Dp.toPy s _ u (SeqAt.canLay_of_shaped h2) hy, h1, h2, ?_⟩
    rw [any_py]
    exact k _ _ H F h (Out.pure s rfl)
  · exact h.elim
theorem od_notIn {K : PySem.W.Frag} : OpD K (rNotInD K) notInD := fun F H x y v u R Q s hx hy h k => by
  unfold notInD at h
  split at h
  · obtain ⟨h1, h2, h⟩ := h
    refine ⟨_, _, Dp.toPy s x v (SeqAt.canLay_of_shaped h1) hx, Dp.toPy s _ u (SeqAt.canLay_of_shaped h2) hy, h1, h2, ?_⟩
    rw [any_py]
    exact k _ _ H F h (Out.pure s rfl)
  · exact h.elim

/-! ### repr -/
def rRepr (K : PySem.W.Frag) : List V → Hp → VK → Prop := fun xs H Q => ∃ x d, xs = [x] ∧ L2.Dp K H x d ∧ d.canLay0 = true ∧ d.showable = true ∧ d.depth ≤ 60 ∧ d.shown.length ≤ sizeLine ∧ Q (.str d.shown) H
theorem cr_repr {X : Cx} {k : Nat} (hr : Room k X.A) (hG : X.A.guards = some []) : CallR X (.builtin "repr") (rRepr X.K) := by
  intro pins s σ H xs us Q I r h
  obtain ⟨x, d, rfl, hd, hl, hs, hdep, hsz, q⟩ := h
  obtain ⟨u, rfl, rx⟩ := vals1 r
  have hu := hr.units
  obtain ⟨as, rd⟩ := Dp.reads I d x u hd rx
  have fin : ∀ h' t tk, (∀ b o, s.heap.get? b = some o → h'.get? b = some o) → EP X pins σ Q (.str d.shown t) { s with heap := h', toks := tk } := fun h' t tk hk => ⟨.str d.shown, H, I.kept hk, ⟨t, rfl⟩, q⟩
  cases hd with
  | non => cases rx; exact PySem.P.repr_of_none (fin s.heap _ _ fun _ _ e => e)
  | bl b => cases rx; exact PySem.P.repr_of_bool (by
      have e := fin s.heap s.toks (s.toks + 1) fun _ _ e => e
      simp only [PyData.shown_bool] at e
      cases b <;> exact e)
  | int i =>
    obtain ⟨t, rfl⟩ := rx
    exact PySem.P.repr_of_int (by simpa [PyData.showable] using hs) (fin s.heap _ _ fun _ _ e => e)
  | str z =>
    obtain ⟨t, rfl⟩ := rx
    exact PySem.P.repr_of_str (fin s.heap _ _ fun _ _ e => e) (by simpa only [PyData.shown] using hsz)
  | lst h1 h2 =>
    cases rx
    exact repr_of_reads' rd hs (PyData.noDict_hsm (PyData.hasDict_of_canLay _ hl)) hG (by omega) (fun _ _ e => e) (fun h' t tk hk => fin h' t tk hk) hsz
  | tup h1 h2 =>
    cases rx
    exact repr_of_reads' rd hs (PyData.noDict_hsm (PyData.hasDict_of_canLay _ hl)) hG (by omega) (fun _ _ e => e) (fun h' t tk hk => fin h' t tk hk) hsz
def wRepr : ON := fun ds R => match ds with
  | [x] => (∃ k n, k ≤ 60 ∧ n ≤ 8000 ∧ Sh k n x) ∧ R (.d (.str x.py.shown))
  | _ => False
theorem cd_repr {K : PySem.W.Frag} : CallD K (rRepr K) wRepr := fun F H xs vs R Q s hd h k => by
  unfold wRepr at h
  split at h
  · rename_i x
    obtain ⟨⟨kk, n, hk, hn, hx⟩, h⟩ := h
    obtain ⟨v, r, rfl, h1, h2⟩ := hd
    have e : r = [] := h2
    subst e
    have f := hx.f
    have := f.dep
    exact ⟨v, _, rfl, Dp.toPy s x v f.lay h1, f.lay, f.sho, by omega, f.short hn, k _ _ H F h (Out.pure s rfl)⟩
  · exact h.elim
/-- two texts compared -/
def eqSD : O2 := fun x y Q => match x, y with
  | .str a, .str b => Q (.d (.bl (decide (a = b))))
  | _, _ => False
theorem od_eqS {K : PySem.W.Frag} : OpD K rEq eqSD := fun F H x y v u R Q s hx hy h k => by
  unfold eqSD at h
  split at h
  · cases hx; cases hy
    refine ⟨rfl, ?_⟩
    rename_i a b
    rw [show decide (V.str a = V.str b) = decide (a = b) by simp]
    exact k _ _ H F h (Out.pure s rfl)
  · exact h.elim
end DL
end
section
set_option Elab.async false
set_option linter.all false
set_option maxRecDepth 100000
set_option exponentiation.threshold 20000
/-! Data layer, ninth part: isinstance, slices, built-in functions, dicts with tuple keys. -/
namespace DL
open PySem PySem.Spec L2

/-! ### isinstance -/
def D.kd : D → Option String
  | .non => some "NoneType"
  | .bl _ => some "bool"
  | .int _ => some "int"
  | .str _ => some "str"
  | .lst _ => some "list"
  | .tup _ => some "tuple"
  | .dk _ _ => some "dict"
  | .dt _ _ => some "dict"
  | _ => none
/-- what of the text isinstance wants of the class at C -/
structure InsTy (K : PySem.W.Frag) (C : Addr) : Prop where
  cls : Cls K C
  ha : PySem.W.findIn K (.ref C) "__class__" = some (some (.builtin "object.__class__"))
  hn : PySem.W.specialIn K (.builtin "object.__class__") "__get__" = some (some (.builtin "getset_descriptor.__get__"))
  ht : PySem.W.takesIn K (.builtin "object.__class__") = some true
  hm : PySem.W.mroIn K C (.type "object") = some true
theorem kd_ty {K : PySem.W.Frag} {F H : Hp} {x : D} {v : V} {n : String} (s : Same F H) (h : Dp K F x v) (e : x.kd = some n) : TyX K H v (.type n) := by
  cases x with
  | non => cases e; cases h; exact .base .non
  | bl b => cases e; cases h; exact .base (.bl b)
  | int b => cases e; cases h; exact .base (.int b)
  | str b => cases e; cases h; exact .base (.str b)
  | raw b => cases e
  | lst xs => cases e; obtain ⟨a, vs, rfl, h1, _⟩ := h; exact .base (.lst (s _ _ h1))
  | tup xs => cases e; obtain ⟨a, vs, rfl, h1, _⟩ := h; exact .base (.tup (s _ _ h1))
  | ins C ks xs => cases e
  | dk ks xs => cases e; obtain ⟨a, vs, rfl, h1, _⟩ := h; exact .base (.dK (s _ _ h1))
  | dt ks xs => cases e; obtain ⟨a, vs, rfl, h1, _⟩ := h; exact .base (.dT (s _ _ h1))
  | bag => cases e
  | scr ns => cases e
/-- isinstance(x, T), T a built-in type -/
def wIsT (T : String) : ON := fun ds R => match ds with
  | [x, .raw (.ty U)] => U = T ∧ (match x.kd with
    | some n => (match kitB n T with
      | some b => R (.d (.bl b))
      | none => False)
    | none => False)
  | _ => False
/-- isinstance(x, C), C an own class: of instances of the class at D too -/
structure Isa (K : PySem.W.Frag) (D C : Addr) (b : Bool) : Prop where
  ty : InsTy K D
  kit : PySem.W.kitOne K (.ref D) (.ref C) = some b
def wIsC (K : PySem.W.Frag) (C : Addr) : ON := fun ds R => match ds with
  | [.ins B _ _, .raw (.ref C')] => C' = C ∧ ∃ b, Isa K B C b ∧ R (.d (.bl b))
  | _ => False
theorem cd_isT {K : PySem.W.Frag} {T : String} : CallD K (rIsi K) (wIsT T) := fun F H xs vs R Q s hd h k => by
  unfold wIsT at h
  split at h
  · rename_i x U
    obtain ⟨v, r, rfl, h1, u, r2, rfl, h2, h3⟩ := hd
    have e : r2 = [] := h3
    subst e
    cases h2
    obtain ⟨rfl, h⟩ := h
    cases e : x.kd with
    | none => rw [e] at h; exact h.elim
    | some n =>
      rw [e] at h
      simp only at h
      cases q : kitB n U with
      | none => rw [q] at h; exact h.elim
      | some b =>
        rw [q] at h
        exact ⟨v, _, _, _, b, rfl, .ty U, kd_ty s h1 e, kit_ty q, k _ _ H F h (Out.pure s rfl)⟩
  · exact h.elim
theorem cd_isC {K : PySem.W.Frag} {C : Addr} : CallD K (rIsi K) (wIsC K C) := fun F H xs vs R Q s hd h k => by
  unfold wIsC at h
  split at h
  · rename_i B ks ys C'
    obtain ⟨v, r, rfl, h1, u, r2, rfl, h2, h3⟩ := hd
    have e : r2 = [] := h3
    subst e
    cases h2
    obtain ⟨rfl, b, i, h⟩ := h
    obtain ⟨a, dx, us, rfl, g1, _, _⟩ := h1
    exact ⟨_, _, _, _, b, rfl, .own C', .base (.ins (s _ _ g1) i.ty.cls i.ty.ha i.ty.hn i.ty.ht i.ty.hm), i.kit, k _ _ H F h (Out.pure s rfl)⟩
  · exact h.elim
theorem kit_ii : kitB "int" "int" = some true := by decide +kernel
theorem kit_ib : kitB "int" "bool" = some false := by decide +kernel
theorem kit_bi : kitB "bool" "int" = some true := by decide +kernel
theorem kit_bb : kitB "bool" "bool" = some true := by decide +kernel
theorem kit_ll : kitB "list" "list" = some true := by decide +kernel
theorem kit_tt : kitB "tuple" "tuple" = some true := by decide +kernel
theorem kit_ss : kitB "str" "str" = some true := by decide +kernel
theorem kit_nl : kitB "NoneType" "list" = some false := by decide +kernel
theorem kit_ni : kitB "NoneType" "int" = some false := by decide +kernel

/-! ### slices -/
abbrev OT := Rho → (Option Int → Rho → Prop) → Prop
def liftO (K : PySem.W.Frag) (t : OT) : TO := fun σ H Q => ∃ E ρ F R, St2 K E σ H ρ F ∧ t ρ R ∧ ∀ b ρ' H' F', R b ρ' → St2 K E σ H' ρ' F' → Stp σ H ρ F H' ρ' F' → Q b H'
abbrev DO (X : Cx) (e : Option Expr) (t : OT) : Prop := PO X e (liftO X.K t)
def dPart0 : OT := fun ρ Q => Q none ρ
def dPart (te : ET) : OT := fun ρ Q => te ρ fun x ρ1 => asInt x.toD fun i => Q (some i) ρ1
def cutD {α : Type} (xs : List α) (lo hi : Option Int) : List α := (xs.drop (HT.sIx xs.length 0 lo)).take (HT.sIx xs.length xs.length hi - HT.sIx xs.length 0 lo)
def dSl (te : ET) (tl th : OT) : ET := fun ρ Q => te ρ fun x ρ1 => tl ρ1 fun lo ρ2 => th ρ2 fun hi ρ3 => asLst x.toD fun xs => Q (.o (.lst (cutD xs lo hi))) ρ3
def dRev (te : ET) : ET := fun ρ Q => te ρ fun x ρ1 => asLst x.toD fun xs => Q (.o (.lst xs.reverse)) ρ1
theorem DpL.cut {K : PySem.W.Frag} {F : Hp} {xs : List D} {vs : List V} (h : DpL K F xs vs) (lo hi : Option Int) : DpL K F (cutD xs lo hi) (cutV vs lo hi) := by
  unfold cutD cutV
  rw [h.len]
  exact (h.drop _).take _
section
variable {X : Cx} {e e2 : Expr} {te ta tb : ET} {pos : Pos}
theorem do_none : DO X none dPart0 := ⟨fun pins s σ H Q I q => by
  obtain ⟨E, ρ, F, R, S, h, k⟩ := q
  exact po_none.run pins s σ H Q I (k none ρ H F h S .refl)⟩
theorem do_some (he : DE X e te) : DO X (some e) (dPart te) := ⟨fun pins s σ H Q I q => by
  obtain ⟨E, ρ, F, R, S, h, k⟩ := q
  refine (po_some he).run pins s σ H Q I (useE S h fun x ρ1 v H1 F1 h1 S1 st1 d1 => ?_)
  obtain ⟨i, e1, h2⟩ := asInt_of h1
  rw [e1] at d1
  exact ⟨i, d1, k _ ρ1 H1 F1 h2 S1 st1⟩⟩
theorem de_sl {lo hi : Option Expr} {p2 : Pos} {tl th : OT} (he : DE X e te) (hl : DO X lo tl) (hh : DO X hi th) : DE X (.Subscript e (.Slice lo hi none p2) pos) (dSl te tl th) := PE.imp (pe_slice sl_list he hl hh) fun σ H Q q => by
  obtain ⟨E, ρ, F, R, S, h, k⟩ := q
  refine useE S h fun x ρ1 v H1 F1 h1 S1 st1 d1 => ⟨E, ρ1, F1, _, S1, h1, fun l ρ2 H2 F2 h2 S2 st2 => ⟨E, ρ2, F2, _, S2, h2, fun u ρ3 H3 F3 h3 S3 st3 => ?_⟩⟩
  obtain ⟨xs, e1, h4⟩ := asLst_of h3
  have d3 := Dp.mono (st2.frz.trans st3.frz) _ _ d1
  rw [e1] at d3
  obtain ⟨a, vs, rfl, g1, g2⟩ := d3
  exact ⟨a, vs, rfl, .inl (.inl (S3.sub _ _ g1)), fun p hp => k _ ρ3 _ _ _ h4 ((Out.newLst S3.sub hp (g2.cut l u)).eok S3 ((st1.trans st2).trans st3))⟩
theorem de_rev {k0 : Nat} {p1 p2 p3 : Pos} (he : DE X e te) : DE X (.Subscript e (.Slice none none (some (.UnaryOp .USub (.Constant (.int 1) k0 p1) p2)) p3) pos) (dRev te) := PE.imp (pe_revL he) fun σ H Q q => by
  obtain ⟨E, ρ, F, R, S, h, k⟩ := q
  refine useE S h fun x ρ1 v H1 F1 h1 S1 st1 d1 => ?_
  obtain ⟨xs, e1, h4⟩ := asLst_of h1
  rw [e1] at d1
  obtain ⟨a, vs, rfl, g1, g2⟩ := d1
  exact ⟨a, vs, rfl, .inl (.inl (S1.sub _ _ g1)), fun p hp => k _ ρ1 _ _ _ h4 ((Out.newLst S1.sub hp g2.rev).eok S1 st1)⟩
end

/-! ### built-in functions -/
theorem one_of {K : PySem.W.Frag} {F : Hp} {x : D} {vs : List V} (h : DpL K F [x] vs) : ∃ v, vs = [v] ∧ Dp K F x v := by
  obtain ⟨v, r, rfl, h1, h2⟩ := h
  have e : r = [] := h2
  subst e
  exact ⟨v, rfl, h1⟩
theorem two_of {K : PySem.W.Frag} {F : Hp} {x y : D} {vs : List V} (h : DpL K F [x, y] vs) : ∃ v u, vs = [v, u] ∧ Dp K F x v ∧ Dp K F y u := by
  obtain ⟨v, r, rfl, h1, h2⟩ := h
  obtain ⟨u, rfl, h3⟩ := one_of h2
  exact ⟨v, u, rfl, h1, h3⟩
def rAbs : List V → Hp → VK → Prop := fun xs H Q => ∃ i, xs = [.int i] ∧ Q (.int (if i < 0 then -i else i)) H
theorem cr_abs {X : Cx} : CallR X (.builtin "abs") rAbs := call_abs
def wAbs : ON := fun ds R => match ds with
  | [.int i] => R (.d (.int (if i < 0 then -i else i)))
  | _ => False
theorem cd_abs {K : PySem.W.Frag} : CallD K rAbs wAbs := fun F H xs vs R Q s hd h k => by
  unfold wAbs at h
  split at h
  · obtain ⟨v, rfl, h1⟩ := one_of hd
    cases h1
    exact ⟨_, rfl, k _ _ H F h (Out.pure s rfl)⟩
  · exact h.elim
def rMax2 : List V → Hp → VK → Prop := fun xs H Q => ∃ i j, xs = [.int i, .int j] ∧ Q (.int (if j > i then j else i)) H
def rMin2 : List V → Hp → VK → Prop := fun xs H Q => ∃ i j, xs = [.int i, .int j] ∧ Q (.int (if j < i then j else i)) H
theorem cr_max2 {X : Cx} (hc : X.calm = true) : CallR X (.builtin "max") rMax2 := call_max2 hc
theorem cr_min2 {X : Cx} (hc : X.calm = true) : CallR X (.builtin "min") rMin2 := call_min2 hc
def wMax2 : ON := fun ds R => match ds with
  | [.int i, .int j] => R (.d (.int (max i j)))
  | _ => False
def wMin2 : ON := fun ds R => match ds with
  | [.int i, .int j] => R (.d (.int (min i j)))
  | _ => False
theorem cd_max2 {K : PySem.W.Frag} : CallD K rMax2 wMax2 := fun F H xs vs R Q s hd h k => by
  unfold wMax2 at h
  split at h
  · rename_i i j
    obtain ⟨v, u, rfl, h1, h2⟩ := two_of hd
    cases h1; cases h2
    refine ⟨i, j, rfl, ?_⟩
    have e : (if j > i then j else i) = max i j := by split <;> omega
    rw [e]
    exact k _ _ H F h (Out.pure s rfl)
  · exact h.elim
theorem cd_min2 {K : PySem.W.Frag} : CallD K rMin2 wMin2 := fun F H xs vs R Q s hd h k => by
  unfold wMin2 at h
  split at h
  · rename_i i j
    obtain ⟨v, u, rfl, h1, h2⟩ := two_of hd
    cases h1; cases h2
    refine ⟨i, j, rfl, ?_⟩
    have e : (if j < i then j else i) = min i j := by split <;> omega
    rw [e]
    exact k _ _ H F h (Out.pure s rfl)
  · exact h.elim
def rInt1 : List V → Hp → VK → Prop := fun xs H Q => (∃ i, xs = [.int i] ∧ Q (.int i) H) ∨ ∃ k, xs = [.bl k] ∧ Q (.int (if k then 1 else 0)) H
theorem cr_int1 {X : Cx} : CallR X (.type "int") rInt1 := call_int1
def wInt1 : ON := fun ds R => match ds with
  | [.int i] => R (.d (.int i))
  | [.bl b] => R (.d (.int (if b then 1 else 0)))
  | _ => False
theorem cd_int1 {K : PySem.W.Frag} : CallD K rInt1 wInt1 := fun F H xs vs R Q s hd h k => by
  unfold wInt1 at h
  split at h
  · obtain ⟨v, rfl, h1⟩ := one_of hd
    cases h1
    exact .inl ⟨_, rfl, k _ _ H F h (Out.pure s rfl)⟩
  · obtain ⟨v, rfl, h1⟩ := one_of hd
    cases h1
    exact .inr ⟨_, rfl, k _ _ H F h (Out.pure s rfl)⟩
  · exact h.elim
/-- the ints of a list, if it holds ints alone -/
def intsOf : List D → Option (List Int)
  | [] => some []
  | .int i :: r => (match intsOf r with
    | some l => some (i :: l)
    | none => none)
  | _ => none
theorem intsOf_map : ∀ ns : List Int, intsOf (ns.map D.int) = some ns
  | [] => rfl
  | n :: ns => by
    show (match intsOf (ns.map D.int) with | some l => some (n :: l) | none => none) = some (n :: ns)
    rw [intsOf_map ns]
theorem intsOf_vals {K : PySem.W.Frag} {F : Hp} : ∀ {xs : List D} {ns : List Int} {vs : List V}, intsOf xs = some ns → DpL K F xs vs → vs = ns.map V.int
  | [], ns, vs, h, hd => by
    cases h
    exact hd
  | .int i :: r, ns, vs, h, hd => by
    obtain ⟨v, us, rfl, h1, h2⟩ := hd
    cases h1
    unfold intsOf at h
    split at h
    · rename_i l e
      cases h
      rw [intsOf_vals e h2]
      rfl
    · cases h
  | .non :: r, ns, vs, h, hd => by cases h
  | .bl _ :: r, ns, vs, h, hd => by cases h
  | .str _ :: r, ns, vs, h, hd => by cases h
  | .raw _ :: r, ns, vs, h, hd => by cases h
  | .lst _ :: r, ns, vs, h, hd => by cases h
  | .tup _ :: r, ns, vs, h, hd => by cases h
  | .ins _ _ _ :: r, ns, vs, h, hd => by cases h
  | .dk _ _ :: r, ns, vs, h, hd => by cases h
  | .dt _ _ :: r, ns, vs, h, hd => by cases h
  | .bag :: r, ns, vs, h, hd => by cases h
  | .scr _ :: r, ns, vs, h, hd => by cases h
def asInts (xs : List D) (k : List Int → Prop) : Prop := match intsOf xs with
  | some ns => k ns
  | none => False
theorem asInts_map {ns : List Int} {k : List Int → Prop} : asInts (ns.map D.int) k = k ns := by
  unfold asInts
  rw [intsOf_map]
theorem asInts_of {xs : List D} {k : List Int → Prop} (h : asInts xs k) : ∃ ns, intsOf xs = some ns ∧ k ns := by
  unfold asInts at h
  split at h
  · exact ⟨_, by assumption, h⟩
  · exact h.elim
def wSum : ON := fun ds R => match ds with
  | [.lst xs] => asInts xs fun ns => R (.d (.int ns.sum))
  | _ => False
theorem cd_sum {K : PySem.W.Frag} : CallD K (rSum K) wSum := fun F H xs vs R Q s hd h k => by
  unfold wSum at h
  split at h
  · obtain ⟨v, rfl, h1⟩ := one_of hd
    obtain ⟨a, us, rfl, g1, g2⟩ := h1
    obtain ⟨ns, e, h⟩ := asInts_of h
    have ev := intsOf_vals e g2
    subst ev
    exact ⟨a, ns, rfl, .inl (.inl (s _ _ g1)), k _ _ H F h (Out.pure s rfl)⟩
  · exact h.elim
def wMaxL : ON := fun ds R => match ds with
  | [.lst xs] => asInts xs fun ns => 0 < ns.length ∧ ∀ m, m ∈ ns → (∀ y ∈ ns, y ≤ m) → R (.d (.int m))
  | _ => False
def wMinL : ON := fun ds R => match ds with
  | [.lst xs] => asInts xs fun ns => 0 < ns.length ∧ ∀ m, m ∈ ns → (∀ y ∈ ns, m ≤ y) → R (.d (.int m))
  | _ => False
theorem cd_maxL {K : PySem.W.Frag} : CallD K (rMax K) wMaxL := fun F H xs vs R Q s hd h k => by
  unfold wMaxL at h
  split at h
  · obtain ⟨v, rfl, h1⟩ := one_of hd
    obtain ⟨a, us, rfl, g1, g2⟩ := h1
    obtain ⟨ns, e, h0, h⟩ := asInts_of h
    have ev := intsOf_vals e g2
    subst ev
    exact ⟨a, ns, rfl, .inl (.inl (s _ _ g1)), h0, fun m q1 q2 => k _ _ H F (h m q1 q2) (Out.pure s rfl)⟩
  · exact h.elim
theorem cd_minL {K : PySem.W.Frag} : CallD K (rMin K) wMinL := fun F H xs vs R Q s hd h k => by
  unfold wMinL at h
  split at h
  · obtain ⟨v, rfl, h1⟩ := one_of hd
    obtain ⟨a, us, rfl, g1, g2⟩ := h1
    obtain ⟨ns, e, h0, h⟩ := asInts_of h
    have ev := intsOf_vals e g2
    subst ev
    exact ⟨a, ns, rfl, .inl (.inl (s _ _ g1)), h0, fun m q1 q2 => k _ _ H F (h m q1 q2) (Out.pure s rfl)⟩
  · exact h.elim
def rListOf (K : PySem.W.Frag) : List V → Hp → VK → Prop := fun xs H Q => ∃ p ys, xs = [.ref p] ∧ (SqL K H p ys ∨ SqT K H p ys) ∧ ∀ l, H l = none → Q (.ref l) (upd H l (.lst ys))
theorem cr_list {X : Cx} : CallR X (.type "list") (rListOf X.K) := call_list_of
def wList : ON := fun ds R => match ds with
  | [.lst xs] => R (.o (.lst xs))
  | [.tup xs] => R (.o (.lst xs))
  | _ => False
theorem cd_list {K : PySem.W.Frag} : CallD K (rListOf K) wList := fun F H xs vs R Q s hd h k => by
  unfold wList at h
  split at h
  · obtain ⟨v, rfl, h1⟩ := one_of hd
    obtain ⟨a, us, rfl, g1, g2⟩ := h1
    exact ⟨a, us, rfl, .inl (.inl (.inl (s _ _ g1))), fun l hl => k _ _ _ _ h (Out.newLst s hl g2)⟩
  · obtain ⟨v, rfl, h1⟩ := one_of hd
    obtain ⟨a, us, rfl, g1, g2⟩ := h1
    exact ⟨a, us, rfl, .inr (.inl (.inl (s _ _ g1))), fun l hl => k _ _ _ _ h (Out.newLst s hl g2)⟩
  · exact h.elim

/-! ### dicts with tuple keys, own -/
def keyD : D → Option Key
  | .int i => some (.inl i)
  | .str x => some (.inr x)
  | _ => none
def keysD : List D → Option (List Key)
  | [] => some []
  | x :: xs => (match keyD x, keysD xs with
    | some k, some ks => some (k :: ks)
    | _, _ => none)
theorem keyD_v {K : PySem.W.Frag} {F : Hp} {x : D} {v : V} {k : Key} (e : keyD x = some k) (h : Dp K F x v) : v = kV k := by
  cases x with
  | int i => cases e; exact h
  | str i => cases e; exact h
  | _ => cases e
theorem keysD_v {K : PySem.W.Frag} {F : Hp} : ∀ {xs : List D} {vs : List V} {ks : List Key}, keysD xs = some ks → DpL K F xs vs → vs = ks.map kV
  | [], vs, ks, e, h => by cases e; exact h
  | x :: xs, vs, ks, e, h => by
    obtain ⟨v, r, rfl, h1, h2⟩ := h
    unfold keysD at e
    split at e
    · rename_i k ks' e1 e2
      cases e
      rw [keyD_v e1 h1, keysD_v e2 h2]
      rfl
    · cases e
def atDt (ρ : Rho) (i : Nat) (k : List (List Key) → List D → Prop) : Prop := match ρ[i]? with
  | some (some (.o (.dt ks xs))) => k ks xs
  | _ => False
theorem atDt_of {ρ : Rho} {i : Nat} {k : List (List Key) → List D → Prop} (h : atDt ρ i k) : ∃ ks xs, ρ[i]? = some (some (.o (.dt ks xs))) ∧ k ks xs := by
  unfold atDt at h
  split at h
  · exact ⟨_, _, by assumption, h⟩
  · exact h.elim
def asTKey (x : D) (k : List Key → Prop) : Prop := match x with
  | .tup xs => (match keysD xs with
    | some ks => k ks
    | none => False)
  | _ => False
theorem asTKey_of {x : D} {k : List Key → Prop} (h : asTKey x k) : ∃ xs ks, x = .tup xs ∧ keysD xs = some ks ∧ k ks := by
  cases x with
  | tup xs =>
    have h' : (match keysD xs with | some ks => k ks | none => False) := h
    cases q : keysD xs with
    | none => rw [q] at h'; exact h'.elim
    | some ks => rw [q] at h'; exact ⟨xs, ks, rfl, q, h'⟩
  | _ => exact (show False from h).elim
def hasK (k : List Key) (ks : List (List Key)) : Bool := ks.any fun c => decide (c = k)
theorem valV_mem (k : List Key) : ∀ (ks : List (List Key)) (vs : List V), ks.length = vs.length → (valV (ks.zip vs) k).isSome = hasK k ks
  | [], _, _ => by simp [valV, hasK]
  | _ :: _, [], h => by simp at h
  | c :: ks, v :: vs, h => by
    have ih := valV_mem k ks vs (by simpa using h)
    show (valV ((c, v) :: ks.zip vs) k).isSome = _
    by_cases e : c = k
    · rw [valV_pos e]
      simp [e, hasK]
    · rw [valV_neg e, ih]
      simp [e, hasK]
/-- e in x, x a name that holds an own dict with tuple keys -/
def dInDt (i : Nat) (te : ET) : ET := fun ρ Q => te ρ fun y ρ1 => atDt ρ1 i fun ks xs => asTKey y.toD fun k => Q (.d (.bl (hasK k ks))) ρ1
def dDictT : ET := fun ρ Q => Q (.o (.dt [] [])) ρ
section
variable {X : Cx} {e e2 : Expr} {te ta tb : ET} {pos : Pos} {i : Nat}
theorem Out.newDt {K : PySem.W.Frag} {H F : Hp} {p : Addr} (s : Same F H) (n : H p = none) : Out K H F (.o (.dt [] [])) (.ref p) (upd H p (.dT [])) F :=
  ⟨HExt.newO s n, ⟨p, rfl, s.free n, [], upd_same, rfl, DpL.nil⟩, fun b a e1 e2 => by
    cases e1; cases e2
    exact ⟨n, rfl⟩⟩
theorem de_dictT : DE X (.Dict [] [] pos) dDictT := PE.imp pe_dnewT fun σ H Q q => by
  obtain ⟨E, ρ, F, R, S, h, k⟩ := q
  intro p hp
  exact k _ ρ _ _ _ h ((Out.newDt S.sub hp).eok S .refl)
theorem dtAt {K : PySem.W.Frag} {E : Ent} {σ : Sig} {H : Hp} {ρ : Rho} {F : Hp} (S : St2 K E σ H ρ F) {ks : List (List Key)} {xs : List D} (e : ρ[i]? = some (some (.o (.dt ks xs)))) :
    ∃ a vs, σ[i]? = some (some (.ref a)) ∧ H a = some (.dT (ks.zip vs)) ∧ ks.length = vs.length ∧ DpL K F xs vs := by
  obtain ⟨v, g1, g2⟩ := S.slot i _ e
  obtain ⟨a, rfl, n, vs, h1, h2, h3⟩ := g2
  exact ⟨a, vs, g1, h1, h2, h3⟩
theorem dt_inDt {k0 : Nat} (hr : Room k0 X.A) (he : DE X e te) (ho : PE X e2 (tVar i)) (h1 : behindInMarks .In e2 = false := by rfl) : DT X (.Compare e [.In] [e2] pos) (dTest (dInDt i te)) := PT.imp (pt_cmp (pc_din (hu_of hr) he ho) h1) fun σ H Q q => by
  obtain ⟨E, ρ, F, R, S, h, k⟩ := q
  refine useE S h fun y ρ1 v H1 F1 h1 S1 st1 d1 => ?_
  obtain ⟨ks, xs, e1, h2⟩ := atDt_of h1
  obtain ⟨ys, kk, e2, e3, h3⟩ := asTKey_of h2
  obtain ⟨a, vs, g1, g2, g3, g4⟩ := dtAt S1 e1
  rw [e2] at d1
  obtain ⟨b, us, rfl, q1, q2⟩ := d1
  have eu := keysD_v e3 q2
  subst eu
  refine ⟨_, g1, a, _, rfl, DGet.t g2 (S1.sub _ _ q1), ?_⟩
  rw [valV_mem kk ks vs g3]
  exact ⟨_, rfl, k _ ρ1 H1 F1 h3 S1 st1⟩
/-- x[e] = v: a new key -/
def dPutDt (i : Nat) (tk te : ET) : DTS := fun De ρ => te ρ fun y ρ1 => atDt ρ1 i fun _ _ => tk ρ1 fun x ρ2 => atDt ρ2 i fun ks xs => asTKey x.toD fun k => hasK k ks = false ∧ ks.length < 1000000 ∧ De.nx (ρ2.set i (some (.o (.dt (ks ++ [k]) (xs ++ [y.toD])))))
theorem ds_putDt {k0 : Nat} {o ix : Expr} {kpos : Pos} {tk : ET} (hr : Room k0 X.A) (he : DE X e te) (ho : PE X o (tVar i)) (hi : DE X ix tk) (hs : swapsWith e (some (.Subscript o ix kpos)) pos.line X.env = pure false := by rfl) : DS X (.Assign [.Subscript o ix kpos] e pos) (dPutDt i tk te) := PS.imp (ps_dput (hu_of hr) ho hi he hs) fun D σ H q => by
  obtain ⟨E, ρ, F, De, S, h, C⟩ := q
  refine useE S h fun y ρ1 u H1 F1 h1 S1 st1 d1 => ?_
  obtain ⟨ks0, xs0, e0, h1⟩ := atDt_of h1
  obtain ⟨a0, vs0, g0, _, _, _⟩ := dtAt S1 e0
  refine ⟨_, g0, useE S1 h1 fun x ρ2 w H2 F2 h2 S2 st2 d2 => ?_⟩
  obtain ⟨ks, xs, e1, h3⟩ := atDt_of h2
  obtain ⟨ys, kk, e2, e3, nk, lt, h4⟩ := asTKey_of h3
  obtain ⟨a, vs, g1, g2, g3, g4⟩ := dtAt S2 e1
  rw [g0] at g1
  cases g1
  rw [e2] at d2
  obtain ⟨b, us, rfl, q1, q2⟩ := d2
  have eu := keysD_v e3 q2
  subst eu
  have en : valV (ks.zip vs) kk = none := by
    have z := valV_mem kk ks vs g3
    rw [nk] at z
    cases q : valV (ks.zip vs) kk with
    | none => rfl
    | some o => rw [q] at z; cases z
  have ep : putK (ks.zip vs) kk u = (ks ++ [kk]).zip (vs ++ [u]) := by
    rw [putK_new u en, List.zip_append g3]
    rfl
  refine ⟨_, _, rfl, DPut.t g2 (S2.sub _ _ q1) (by rw [List.length_zip, ← g3, Nat.min_self]; exact mill' lt), ?_⟩
  rw [ep]
  obtain ⟨S3, st3⟩ := S2.chg (b' := .dt (ks ++ [kk]) (xs ++ [y.toD])) (o := .dT ((ks ++ [kk]).zip (vs ++ [u]))) e1 g0 rfl ⟨vs ++ [u], upd_same, by simp [g3], g4.app (DpL.cons (Dp.mono st2.frz _ _ d1) DpL.nil)⟩
  exact C.nx _ _ _ F2 S3 ((st1.frz.trans st2.frz).trans st3.frz) h4
end
end DL
end
section
set_option Elab.async false
set_option linter.all false
set_option maxRecDepth 100000
/-! Data layer: the law's bag of draws. -/
namespace DL
open PySem PySem.Spec L2

section
variable {X : Cx}
/-- what stands at b is a bag -/
theorem Inv.bag {pins : List (Addr × Obj)} {σ : L2.St} {H : Hp} {s : Shared} {b c : Addr} {ok : Int → Int → Int → Prop} (I : Inv X pins σ H s) (h : H b = some (.ext (BagP b c ok))) : BagP b c ok s.heap := (I.hok b _ h).1
theorem bag_stay {b c : Addr} {ok : Int → Int → Int → Prop} {h : Heap} (p : BagP b c ok h) (P : Program) (w : World) (H : Hp) : ObjOk P w H h b (.ext (BagP b c ok)) := by
  refine ⟨p, ?_, fun h1 h2 q k => ?_⟩
  · obtain ⟨_, _, _, _, _, _, _, e, _⟩ := p
    exact ⟨_, e⟩
  · obtain ⟨i1, i2, i3, t1, t2, t3, n, e, r⟩ := q
    exact ⟨i1, i2, i3, t1, t2, t3, n, k _ e, r⟩
theorem upd_self {H : Hp} {a : Addr} {o : HO} (h : H a = some o) : upd H a o = H := by
  funext b
  unfold upd
  split
  · rename_i e; rw [e, h]
  · rfl
/-- the bag is seen otherwise; its object stays -/
theorem Inv.rebag {pins : List (Addr × Obj)} {σ : L2.St} {H : Hp} {s : Shared} {b c : Addr} {ok ok' : Int → Int → Int → Prop} (I : Inv X pins σ H s) (h : H b = some (.ext (BagP b c ok))) (p : BagP b c ok' s.heap) : Inv X pins σ (upd H b (.ext (BagP b c ok'))) s := by
  obtain ⟨_, _, _, _, _, _, _, e, _⟩ := id p
  exact I.write (x := b) (e := b) (t' := s.toks) (h' := s.heap) (by rw [h]; trivial) (.inl rfl) (fun _ _ _ q => q) ⟨_, e⟩ (bag_stay p _ _ _)

/-- bag[k] -/
def rBag : R2 := fun x y H Q => ∃ b c ok k, x = .ref b ∧ y = .int k ∧ H b = some (.ext (BagP b c ok)) ∧ ((k = 0 ∧ ∀ x y z, ok x y z → Q (.int x) H) ∨ (k = 1 ∧ ∀ x y z, ok x y z → Q (.int y) H) ∨ (k = 2 ∧ ∀ x y z, ok x y z → Q (.int z) H) ∨ (k = 3 ∧ Q (.ref c) H))
theorem ix_bag : IxR X rBag := by
  intro value slice pins s σ H x y v u Q I rx ry h hs
  obtain ⟨b, c, ok, k, rfl, rfl, hb, q⟩ := h
  cases rx
  obtain ⟨t, rfl⟩ := ry
  obtain ⟨i1, i2, i3, t1, t2, t3, n, e, hok⟩ := Inv.bag I hb
  have pl : PlainL s.heap b #[.int i1 t1, .int i2 t2, .int i3 t3, .ref c] := ⟨_, n, e, rfl, rfl, rfl⟩
  rcases q with ⟨rfl, q⟩ | ⟨rfl, q⟩ | ⟨rfl, q⟩ | ⟨rfl, q⟩
  · exact PyProof.Rows.item_listR pl.isList (by decide) (by decide) (show _ = some (Value.int i1 t1) from rfl) ⟨.int i1, H, I, ⟨_, rfl⟩, q _ _ _ hok⟩ hs
  · exact PyProof.Rows.item_listR pl.isList (by decide) (by decide) (show _ = some (Value.int i2 t2) from rfl) ⟨.int i2, H, I, ⟨_, rfl⟩, q _ _ _ hok⟩ hs
  · exact PyProof.Rows.item_listR pl.isList (by decide) (by decide) (show _ = some (Value.int i3 t3) from rfl) ⟨.int i3, H, I, ⟨_, rfl⟩, q _ _ _ hok⟩ hs
  · exact PyProof.Rows.item_listR pl.isList (by decide) (by decide) (show _ = some (Value.ref c) from rfl) ⟨.ref c, H, I, rfl, q⟩ hs
theorem get_bag : PGet X rBag := by
  intro pins s σ H o i ov iv Q I ro ri h
  obtain ⟨b, c, ok, k, rfl, rfl, hb, q⟩ := h
  cases ro
  obtain ⟨t, rfl⟩ := ri
  obtain ⟨i1, i2, i3, t1, t2, t3, n, e, hok⟩ := Inv.bag I hb
  have pl : PlainL s.heap b #[.int i1 t1, .int i2 t2, .int i3 t3, .ref c] := ⟨_, n, e, rfl, rfl, rfl⟩
  rcases q with ⟨rfl, q⟩ | ⟨rfl, q⟩ | ⟨rfl, q⟩ | ⟨rfl, q⟩
  · exact wpAny_getItem_list pl.isList (by decide) (by decide) (show _ = some (Value.int i1 t1) from rfl) ⟨.int i1, H, I, ⟨_, rfl⟩, q _ _ _ hok⟩
  · exact wpAny_getItem_list pl.isList (by decide) (by decide) (show _ = some (Value.int i2 t2) from rfl) ⟨.int i2, H, I, ⟨_, rfl⟩, q _ _ _ hok⟩
  · exact wpAny_getItem_list pl.isList (by decide) (by decide) (show _ = some (Value.int i3 t3) from rfl) ⟨.int i3, H, I, ⟨_, rfl⟩, q _ _ _ hok⟩
  · exact wpAny_getItem_list pl.isList (by decide) (by decide) (show _ = some (Value.ref c) from rfl) ⟨.ref c, H, I, rfl, q⟩
/-- bag[k] = v -/
def rSetBag : TSet := fun o i v H Q => ∃ b c k j, o = .ref b ∧ i = .int k ∧ v = .int j ∧ H b = some (BagO b c) ∧ (k = 0 ∨ k = 1 ∨ k = 2) ∧ 0 ≤ j ∧ Q H
theorem set_bag : PSet X rSetBag := by
  intro pins s σ H o i v ov iv u Q I ro ri rv h
  obtain ⟨b, c, k, j, rfl, rfl, rfl, hb, hk, hj, q⟩ := h
  cases ro
  obtain ⟨t, rfl⟩ := ri
  obtain ⟨t', rfl⟩ := rv
  obtain ⟨i1, i2, i3, t1, t2, t3, n, e, ho1, ho2, ho3⟩ := Inv.bag I hb
  have fin : ∀ its : List Value, Obj.mapSeq (·.setIfInBounds k.toNat (Value.int j t')) { cls := .type "list", data := .seq #[.int i1 t1, .int i2 t2, .int i3 t3, .ref c] n } = { cls := .type "list", data := .seq its.toArray n } →
      BagP b c bagOk (s.heap.update b (Obj.mapSeq (·.setIfInBounds k.toNat (Value.int j t')))) → Inv X pins σ H { s with heap := s.heap.update b (Obj.mapSeq (·.setIfInBounds k.toNat (Value.int j t'))) } := fun its hf p => by
    have I2 := I.write (x := b) (e := b) (t' := s.toks) (by rw [hb]; trivial) (.inl rfl) (fun b' u hb' q => (Heap.get?_update_other _ _ (Ne.symm hb')).trans q) (by
      obtain ⟨_, _, _, _, _, _, _, e', _⟩ := id p
      exact ⟨_, e'⟩) (bag_stay p X.prog X.w _)
    rw [show upd H b (.ext (BagP b c bagOk)) = H from upd_self hb] at I2
    exact I2
  have get : ∀ its : List Value, Obj.mapSeq (·.setIfInBounds k.toNat (Value.int j t')) { cls := .type "list", data := .seq #[.int i1 t1, .int i2 t2, .int i3 t3, .ref c] n } = { cls := .type "list", data := .seq its.toArray n } →
      (s.heap.update b (Obj.mapSeq (·.setIfInBounds k.toNat (Value.int j t')))).get? b = some { cls := .type "list", data := .seq its.toArray n } := fun its hf => by
    rw [Heap.get?_update_self _ e (by rw [hf] <;> rfl), hf]
  rcases hk with rfl | rfl | rfl
  · exact PySem.W.ki_setAt e (by decide) (by decide) (by simp) ⟨H, fin [.int j t', .int i2 t2, .int i3 t3, .ref c] (by simp [Obj.mapSeq]) ⟨j, i2, i3, t', t2, t3, n, get [.int j t', .int i2 t2, .int i3 t3, .ref c] (by simp [Obj.mapSeq]), hj, ho2, ho3⟩, q⟩
  · exact PySem.W.ki_setAt e (by decide) (by decide) (by simp) ⟨H, fin [.int i1 t1, .int j t', .int i3 t3, .ref c] (by simp [Obj.mapSeq]) ⟨i1, j, i3, t1, t', t3, n, get [.int i1 t1, .int j t', .int i3 t3, .ref c] (by simp [Obj.mapSeq]), ho1, hj, ho3⟩, q⟩
  · exact PySem.W.ki_setAt e (by decide) (by decide) (by simp) ⟨H, fin [.int i1 t1, .int i2 t2, .int j t', .ref c] (by simp [Obj.mapSeq]) ⟨i1, i2, j, t1, t2, t', n, get [.int i1 t1, .int i2 t2, .int j t', .ref c] (by simp [Obj.mapSeq]), ho1, ho2, hj⟩, q⟩
end

/-! ### the bag by data -/
def BagAt (ρ : Rho) (i : Nat) : Prop := ρ[i]? = some (some (.d .bag))
theorem St2.bagAt {K : PySem.W.Frag} {E : Ent} {σ : Sig} {H : Hp} {ρ : Rho} {F : Hp} (S : St2 K E σ H ρ F) {i : Nat} (e : BagAt ρ i) : ∃ (b c : Addr) (cs : List Int), σ[i]? = some (some (.ref b)) ∧ F b = some (BagO b c) ∧ H b = some (BagO b c) ∧ F c = some (.lst (cs.map V.int)) ∧ H c = some (.lst (cs.map V.int)) ∧ (∀ x ∈ cs, (0 : Int) ≤ x) ∧ cs.length ≤ 63 := by
  obtain ⟨v, g1, g2⟩ := S.slot i _ e
  obtain ⟨b, c, cs, rfl, h1, h2, h3, h4⟩ := g2
  exact ⟨b, c, cs, g1, h1, S.sub _ _ h1, h2, S.sub _ _ h2, h3, h4⟩
/-- bag[k], k below 3 -/
def dBag (i : Nat) (k : Int) : ET := fun ρ Q => BagAt ρ i ∧ (k = 0 ∨ k = 1 ∨ k = 2) ∧ ∀ z, 0 ≤ z → Q (.d (.int z)) ρ
section
variable {X : Cx} {o a b ix e : Expr} {te : ET} {pos : Pos} {i : Nat} {k : Int}
theorem de_ixBag (ha : PE X a (tVar i)) (hb : PE X b (tC (.int k))) (hs : PlainIx b := by intro _ _; rfl) : DE X (.Subscript a b pos) (dBag i k) := PE.imp (pe_ix ix_bag ha hb hs) fun σ H Q q => by
  obtain ⟨E, ρ, F, R, S, ⟨e1, hk, h⟩, C⟩ := q
  obtain ⟨b, c, cs, g1, g2, g3, _⟩ := S.bagAt e1
  have fin : ∀ z, 0 ≤ z → Q (.int z) H := fun z hz => C _ ρ _ H F (h z hz) (EOk.data S .refl rfl)
  refine ⟨.ref b, g1, b, c, bagOk, k, rfl, rfl, g3, ?_⟩
  rcases hk with rfl | rfl | rfl
  · exact .inl ⟨rfl, fun x y z r => fin _ r.1⟩
  · exact .inr (.inl ⟨rfl, fun x y z r => fin _ r.2.1⟩)
  · exact .inr (.inr (.inl ⟨rfl, fun x y z r => fin _ r.2.2⟩))
def dSetBag (i : Nat) (k : Int) (te : ET) : DTS := fun De ρ => BagAt ρ i ∧ (k = 0 ∨ k = 1 ∨ k = 2) ∧ te ρ fun y ρ1 => asInt y.toD fun z => 0 ≤ z ∧ De.nx ρ1
theorem Stp.bag {K : PySem.W.Frag} {E : Ent} {σ : Sig} {H H1 : Hp} {ρ ρ1 : Rho} {F F1 : Hp} {b c : Addr} (S1 : St2 K E σ H1 ρ1 F1) (st : Stp σ H ρ F H1 ρ1 F1) (h : F b = some (BagO b c)) : H1 b = some (BagO b c) := S1.sub _ _ (st.frz _ _ h)
theorem ds_setBag {kpos : Pos} (he : DE X e te) (ho : PE X o (tVar i)) (hi : PE X ix (tC (.int k)))
    (ha : ∀ v, assign (.Subscript o ix kpos) X.env v = (do
      let ov ← holding [v] (eval o X.env)
      let iv ← holding [v, ov] (eval ix X.env)
      standAt kpos
      holding [v, ov, iv] (setItem ov iv v)
      release [v, ov, iv] []) := by intro _; rfl) (hs : swapsWithSole [.Subscript o ix kpos] e pos.line X.env = pure false := by rfl) (hw : swappedStores [.Subscript o ix kpos] e X.env = pure none := by rfl)
    (h1 : (assignEach [.Subscript o ix kpos] X.env).map (·.2) = [assign (.Subscript o ix kpos) X.env] := by rfl) : DS X (.Assign [.Subscript o ix kpos] e pos) (dSetBag i k te) := PS.imp (ps_asg he (pg_sub ho hi set_bag ha) hs hw h1) fun D σ H q => by
  obtain ⟨E, ρ, F, De, S, ⟨e1, hk, h⟩, C⟩ := q
  obtain ⟨b, c, cs, g1, g2, g3, _⟩ := S.bagAt e1
  refine useE S h fun y ρ1 u H1 F1 h1 S1 st1 d1 => ?_
  obtain ⟨z, ez, hz, h2⟩ := asInt_of h1
  rw [ez] at d1
  cases d1
  exact ⟨.ref b, g1, b, c, k, z, rfl, rfl, rfl, Stp.bag S1 st1 g2, hk, hz, C.nx σ H1 ρ1 F1 S1 st1.frz h2⟩
/-- bag[2] += e -/
def dAugBag (i : Nat) (te : ET) : DTS := fun De ρ => BagAt ρ i ∧ te ρ fun y ρ1 => asInt y.toD fun z => 0 ≤ z ∧ De.nx ρ1
theorem ds_augBag {tpos : Pos} (ho : PE X o (tVar i)) (hi : PE X ix (tC (.int 2))) (he : DE X e te)
    (ha : ∀ ov iv new, augStore ix ov iv new = (do holding [new, ov, iv] (setItem ov iv new); release [new, ov, iv] []; pure .next) := by intros; rfl) : DS X (.AugAssign (.Subscript o ix tpos) .Add e pos) (dAugBag i te) := PS.imp (ps_augS ho hi get_bag he ip_add set_bag ha) fun D σ H q => by
  obtain ⟨E, ρ, F, De, S, ⟨e1, h⟩, C⟩ := q
  obtain ⟨b, c, cs, g1, g2, g3, _⟩ := S.bagAt e1
  refine ⟨.ref b, g1, b, c, bagOk, 2, rfl, rfl, g3, .inr (.inr (.inl ⟨rfl, fun x y z r => ?_⟩))⟩
  refine useE S h fun w ρ1 u H1 F1 h1 S1 st1 d1 => ?_
  obtain ⟨j, ej, hj, h2⟩ := asInt_of h1
  rw [ej] at d1
  cases d1
  have := r.2.2
  exact ⟨z, j, rfl, rfl, b, c, 2, z + j, rfl, rfl, rfl, Stp.bag S1 st1 g2, .inr (.inr rfl), by omega, C.nx σ H1 ρ1 F1 S1 st1.frz h2⟩
/-- if bag[2] < len(bag[3]): cell = bag[3][bag[2]] -/
def dPick (i j : Nat) : DTS := fun De ρ => BagAt ρ i ∧ De.nx ρ ∧ ∀ z, 0 ≤ z → De.nx (ρ.set j (some (.d (.int z))))
theorem ds_pick {j : Nat} {x : Str} {b1 b2 b3 b4 k2 k3 k3' k2' : Expr} {p1 p2 p3 p4 p5 p6 p7 p8 p9 p10 : Pos} (hN : X.N.Nodup) (hm : X.mg "len" = none) (hb1 : PE X b1 (tVar i)) (hb2 : PE X b2 (tVar i)) (hb3 : PE X b3 (tVar i)) (hb4 : PE X b4 (tVar i))
    (hk2 : PE X k2 (tC (.int 2))) (hk3 : PE X k3 (tC (.int 3))) (hk3' : PE X k3' (tC (.int 3))) (hk2' : PE X k2' (tC (.int 2))) (hi : X.N[j]? = some x := by rfl) (hx : Loc X.env.scope x := by first | exact Or.inl rfl | exact Or.inr rfl)
    (hf : X.fn x = true ∨ X.env.scope.names.lookup x = some .local := by first | exact .inl rfl | exact .inr rfl | assumption)
    (s1 : PlainIx k2 := by intro _ _; rfl) (s2 : PlainIx k3 := by intro _ _; rfl) (s3 : PlainIx k3' := by intro _ _; rfl) (s4 : PlainIx k2' := by intro _ _; rfl) (s5 : PlainIx (.Subscript b4 k2' p8) := by intro _ _; rfl)
    (hg : Gl X "len" := by rfl) (he : starEach [.Subscript b2 k3 p3] X.env = (false, eval (.Subscript b2 k3 p3) X.env) :: starEach [] X.env := by rfl)
    (hm1 : behindInMarks .Lt (.Call (.Name "len" p2) [.Subscript b2 k3 p3] [] p4) = false := by rfl)
    (hs : swapsWith (.Subscript (.Subscript b3 k3' p7) (.Subscript b4 k2' p8) p9) (some (.Name x p6)) p10.line X.env = pure false := by rfl) :
    DS X (.If (.Compare (.Subscript b1 k2 p1) [.Lt] [.Call (.Name "len" p2) [.Subscript b2 k3 p3] [] p4] p5) [.Assign [.Name x p6] (.Subscript (.Subscript b3 k3' p7) (.Subscript b4 k2' p8) p9) p10] [] pos) (dPick i j) := by
  have P := ps_if (pos := pos) (pt_cmpR (pos := p5) op_lt (pe_ix (pos := p1) ix_bag hb1 hk2 s1) (pe_callB (pos := p4) (p := p2) call_len_seq hg hm PySem.boot_len (pa_cons (pe_ix (pos := p3) ix_bag hb2 hk3 s2) pa_nil he) (by decide) (by decide) he rfl) hm1)
    (pss_one (ps_set (pos := p10) (pos' := p6) hN hi hx (pe_ix (pos := p9) ix_list (pe_ix (pos := p7) ix_bag hb3 hk3' s3) (pe_ix (pos := p8) ix_bag hb4 hk2' s4) s5) hs hf)) pss_nil
  refine ⟨fun pins s σ H D I q => ?_⟩
  obtain ⟨E, ρ, F, De, S, ⟨e1, h0, h1⟩, C⟩ := q
  obtain ⟨b, c, cs, g1, g2, g3, g4, g5, g6, g7⟩ := S.bagAt e1
  obtain ⟨i1, i2, i3, t1, t2, t3, n, ho, hok⟩ := id (Inv.bag I g3)
  have I2 := Inv.rebag I g3 (ok' := fun x y z => x = i1 ∧ y = i2 ∧ z = i3) ⟨i1, i2, i3, t1, t2, t3, n, ho, rfl, rfl, rfl⟩
  have ne : c ≠ b := fun z => by rw [z, g3] at g5; cases g5
  have hb : (upd H b (.ext (BagP b c fun x y z => x = i1 ∧ y = i2 ∧ z = i3))) b = some (.ext (BagP b c fun x y z => x = i1 ∧ y = i2 ∧ z = i3)) := upd_same
  have hc : SqL X.K (upd H b (.ext (BagP b c fun x y z => x = i1 ∧ y = i2 ∧ z = i3))) c (cs.map V.int) := .inl (.inl (by rw [upd_ne ne]; exact g5))
  have back : ∀ (σ' : L2.St) s', L2.Inv X pins σ' (upd H b (.ext (BagP b c fun x y z => x = i1 ∧ y = i2 ∧ z = i3))) s' → L2.Inv X pins σ' H s' := fun σ' s' J => by
    obtain ⟨a1, a2, a3, u1, u2, u3, m, ho', r1, r2, r3⟩ := id (Inv.bag J hb)
    subst r1; subst r2; subst r3
    have J2 := Inv.rebag J hb (ok' := bagOk) ⟨_, _, _, u1, u2, u3, m, ho', hok⟩
    rw [upd_upd, show upd H b (.ext (BagP b c bagOk)) = H from upd_self g3] at J2
    exact J2
  have Dx : Ends := { nx := fun σ' H' => H' = upd H b (.ext (BagP b c fun x y z => x = i1 ∧ y = i2 ∧ z = i3)) ∧ D.nx σ' H, rt := fun _ _ => False }
  have run := P.run pins s σ _ { nx := fun σ' H' => H' = upd H b (.ext (BagP b c fun x y z => x = i1 ∧ y = i2 ∧ z = i3)) ∧ D.nx σ' H, rt := fun _ _ => False } I2 (by
    refine ⟨.ref b, g1, b, c, _, 2, rfl, rfl, hb, .inr (.inr (.inl ⟨rfl, fun x y z r => ?_⟩))⟩
    refine ⟨.ref b, g1, b, c, _, 3, rfl, rfl, hb, .inr (.inr (.inr ⟨rfl, ?_⟩))⟩
    refine ⟨c, _, rfl, .inl hc, z, _, rfl, rfl, _, rfl, ?_⟩
    obtain ⟨rfl, rfl, rfl⟩ := r
    rw [List.length_map]
    by_cases lt : z < (cs.length : Int)
    · rw [decide_eq_true lt, if_pos rfl]
      refine ⟨.ref b, g1, b, c, _, 3, rfl, rfl, hb, .inr (.inr (.inr ⟨rfl, ?_⟩))⟩
      refine ⟨.ref b, g1, b, c, _, 2, rfl, rfl, hb, .inr (.inr (.inl ⟨rfl, fun x' y' z' r' => ?_⟩))⟩
      obtain ⟨rfl, rfl, rfl⟩ := r'
      have z0 := hok.2.2
      have lt' : z'.toNat < cs.length := by omega
      refine ⟨c, _, z', .int cs[z'.toNat], rfl, rfl, hc, ?_, ?_⟩
      · have eN : ixN cs.length z' = some z'.toNat := by
          unfold ixN
          rw [if_pos z0, if_pos lt]
        unfold atI
        rw [List.length_map, eN]
        show (cs.map V.int)[z'.toNat]? = _
        rw [List.getElem?_map, List.getElem?_eq_getElem lt']
        rfl
      · refine ⟨rfl, C.nx _ H _ F (S.put j (r := .d (.int cs[z'.toNat])) rfl fun _ _ e => nomatch e) (Same.refl F) (h1 _ (g6 _ (List.getElem_mem lt')))⟩
    · rw [decide_eq_false lt, if_neg (by simp)]
      exact ⟨rfl, C.nx σ H ρ F S (Same.refl F) h0⟩)
  refine thn run fun f s' q => ?_
  cases f with
  | next =>
    obtain ⟨σ', H', J, rfl, q⟩ := q
    exact ⟨σ', H, back σ' s' J, q⟩
  | brk => obtain ⟨σ', H', J, q⟩ := q; exact q.elim
  | cont => obtain ⟨σ', H', J, q⟩ := q; exact q.elim
  | ret u => obtain ⟨v, σ', H', J, r, q⟩ := q; exact q.elim
end
end DL
end
section
set_option Elab.async false
set_option linter.all false
set_option maxRecDepth 100000
/-! Data layer: or by truth, lending an own object to a test, texts walked, global ints. -/
namespace DL
open PySem PySem.Spec L2

def truD (x : D) (k : Bool → Prop) : Prop := match x with
  | .non => k false
  | .bl b => k b
  | .int i => k (i != 0)
  | .lst xs => k (!xs.isEmpty)
  | .tup xs => k (!xs.isEmpty)
  | _ => False
theorem truD_of {K : PySem.W.Frag} {F H : Hp} {x : D} {v : V} {k : Bool → Prop} (s : Same F H) (d : Dp K F x v) (h : truD x k) : ∃ b, TruV K v H b ∧ k b := by
  cases x with
  | non => cases d; exact ⟨false, rfl, h⟩
  | bl b => cases d; exact ⟨b, rfl, h⟩
  | int i => cases d; exact ⟨_, rfl, h⟩
  | lst xs =>
    obtain ⟨a, vs, rfl, g1, g2⟩ := d
    have e : (!xs.isEmpty) = !vs.isEmpty := by
      have := g2.len
      cases xs <;> cases vs <;> simp_all
    exact ⟨_, .inl ⟨vs, .inl (.inl (s _ _ g1)), e⟩, h⟩
  | tup xs =>
    obtain ⟨a, vs, rfl, g1, g2⟩ := d
    have e : (!xs.isEmpty) = !vs.isEmpty := by
      have := g2.len
      cases xs <;> cases vs <;> simp_all
    exact ⟨_, .inr (.inl ⟨vs, .inl (.inl (s _ _ g1)), e⟩), h⟩
  | _ => exact (show False from h).elim
def dOrT (ta tb : ET) : ET := fun ρ Q => ta ρ fun x ρ1 => truD x.toD fun k => match k with
  | true => Q (.d x.toD) ρ1
  | false => tb ρ1 Q
section
variable {X : Cx} {a b e : Expr} {rest : List Expr} {ta tb te : ET} {pos : Pos} {i : Nat}
theorem de_orT (ha : DE X a ta) (hb : DE X b tb) : DE X (.BoolOp .Or [a, b] pos) (dOrT ta tb) := PE.imp (pe_orT ha (pe_one hb)) fun σ H Q q => by
  obtain ⟨E, ρ, F, R, S, h, k⟩ := q
  refine useE S h fun x ρ1 v H1 F1 h1 S1 st1 d1 => ?_
  obtain ⟨c, g1, g2⟩ := truD_of S1.sub d1 h1
  refine ⟨c, g1, ?_⟩
  cases c with
  | true => exact iteT (k _ ρ1 v H1 F1 g2 (EOk.data S1 st1 d1))
  | false =>
    refine iteF ⟨E, ρ1, F1, R, S1, g2, fun r ρ' v H' F' hr o => k r ρ' v H' F' hr ⟨o.st, st1.trans o.stp, o.ok, fun b a e1 e2 => ?_⟩⟩
    obtain ⟨n1, n2, n3, n4⟩ := o.new b a e1 e2
    refine ⟨n1, n2, n3, fun u hu no => ?_⟩
    have := st1.fr a u hu no
    exact n4 u this.1 fun i b' q z => by
      obtain ⟨b0, q0⟩ := st1.dec i b' q
      exact no i b0 q0 z

/-- the truth of a value -/
def dTru (te : ET) : TTD := fun ρ Q => te ρ fun x ρ1 => truD x.toD fun k => Q k ρ1

/-! ### an own object lent to a test -/
def noOwnR : Rho → Prop
  | [] => True
  | some (.o _) :: _ => False
  | _ :: r => noOwnR r
theorem noOwnR_at : ∀ {ρ : Rho} {i : Nat} {b : OB}, noOwnR ρ → ρ[i]? ≠ some (some (.o b))
  | [], i, b, _ => by simp
  | x :: r, i, b, h => by
    cases x with
    | none =>
      cases i with
      | zero => simp
      | succ i => exact noOwnR_at (ρ := r) h
    | some y =>
      cases y with
      | o c => exact (show False from h).elim
      | d d =>
        cases i with
        | zero => simp
        | succ i => exact noOwnR_at (ρ := r) h
def dLend (i : Nat) (t : TTD) : TTD := fun ρ Q => match ρ[i]? with
  | some (some (.o (.slf _ _ _))) => False
  | some (some (.o b)) => noOwnR (ρ.set i none) ∧ t (ρ.set i (some (.d b.toD))) fun k _ => Q k ρ
  | _ => t ρ Q
theorem lend_ok {K : PySem.W.Frag} {t : TTD} {i : Nat} {σ : Sig} {H : Hp} {P : Bool → Hp → Prop} (q : liftT K (dLend i t) σ H P) : liftT K t σ H P := by
  obtain ⟨E, ρ, F, R, S, h, k⟩ := q
  have own : ∀ b : OB, ρ[i]? = some (some (.o b)) → b.isSlf = false → (noOwnR (ρ.set i none) ∧ t (ρ.set i (some (.d b.toD))) fun k _ => R k ρ) → liftT K t σ H P := fun b e hs ⟨no, h⟩ => by
    obtain ⟨a, o, g1, S1, st1, d1⟩ := S.frzSlot e hs
    obtain ⟨v, g1', g2⟩ := S.slot i _ e
    rw [g1] at g1'
    cases g1'
    obtain ⟨a', e', n, ok⟩ := g2
    cases e'
    refine useT S1 h fun c ρ' H' F' hr S2 st2 => ?_
    have hFa : (upd F a o) a = some o := upd_same
    have hHa : H' a = some o := S2.sub _ _ (st2.frz _ _ hFa)
    have hH0 : H a = some o := S1.sub _ _ hFa
    have only : ∀ (j : Nat) (b' : OB), ρ[j]? = some (some (.o b')) → j = i := fun j b' q => by
      by_cases hj : j = i
      · exact hj
      · exact absurd (by rw [List.getElem?_set_ne (Ne.symm hj)]; exact q) (noOwnR_at (i := j) (b := b') no)
    have noAll : ∀ c, NotOwn σ (ρ.set i (some (.d b.toD))) c := fun c j b' q => by
      rcases getElem?_set_cases q with ⟨_, e, _⟩ | ⟨ne, q⟩
      · cases e
      · exact absurd (only j b' q) ne
    refine k c ρ H' F hr ⟨fun c u z => ?_, S2.keep, S2.there, S.frz, S.len, fun j r z => ?_, S.own0, S.sep⟩ ⟨Same.refl F, fun c u hc _ => ⟨(st2.fr c u hc (noAll c)).1, rfl⟩, fun j b' z => ⟨b', z⟩⟩
    · refine S2.sub _ _ (st2.frz _ _ ?_)
      rw [upd_ne (ne_of_none z n)]
      exact z
    · obtain ⟨w, z1, z2⟩ := S.slot j r z
      refine ⟨w, z1, ?_⟩
      cases r with
      | d d => exact z2
      | o b' =>
        have ej := only j b' z
        subst ej
        rw [z] at e
        cases e
        obtain ⟨a2, rfl, y1, y2⟩ := z2
        rw [g1] at z1
        cases z1
        exact ⟨a, rfl, n, ok.mono (Same.refl F) (hHa.trans hH0.symm)⟩
  unfold dLend at h
  split at h
  · exact h.elim
  · rename_i b nb e
    refine own b e ?_ h
    cases b with
    | slf C ks xs => exact absurd rfl (nb C ks xs)
    | _ => rfl
  · exact ⟨E, ρ, F, R, S, h, k⟩
theorem dt_lend {c : Expr} {t : TTD} (h : DT X c t) : DT X c (dLend i t) := PT.imp h fun σ H Q q => lend_ok q

/-! ### texts -/
def signs (x : Str) : List D := x.cps.toList.map fun c => .str ⟨#[c]⟩
def asStr (x : D) (k : Str → Prop) : Prop := match x with
  | .str s => k s
  | _ => False
theorem asStr_of {x : D} {k : Str → Prop} (h : asStr x k) : ∃ b, x = .str b ∧ k b := by
  cases x with
  | str b => exact ⟨b, rfl, h⟩
  | _ => exact (show False from h).elim
def dItS (te : ET) : ATD := fun ρ Q => te ρ fun x ρ1 => asStr x.toD fun s => Q (signs s) ρ1
theorem di_str {tg : Expr} (he : DE X e te) : PI X tg e (liftI X.K (dItS te)) := PI.imp (pi_str he) fun σ H Q q => by
  obtain ⟨E, ρ, F, S, S0, h, k⟩ := q
  refine useE S0 h fun r ρ1 v H1 F1 h1 S1 st1 d1 => ?_
  obtain ⟨x, e1, h2⟩ := asStr_of h1
  rw [e1] at d1
  obtain rfl : v = .str x := d1
  refine ⟨x, rfl, k _ ρ1 _ H1 F1 h2 S1 st1 fun F2 H s1 s2 i => ?_⟩
  have hl : (signs x).length = x.cps.size := by simp [signs]
  refine ⟨fun d e => ?_, fun hle => by rw [hl] at hle; exact hle⟩
  have lt : i < x.cps.size := by rw [← hl]; exact (List.getElem?_eq_some_iff.mp e).1
  refine ⟨lt, fun w H' hy => ?_⟩
  obtain ⟨rfl, c, e2, rfl⟩ := hy
  refine ⟨F2, HExt.refl s2, ?_⟩
  have e3 : (signs x)[i]? = some (.str ⟨#[c]⟩) := by
    unfold signs
    rw [List.getElem?_map, Array.getElem?_toList, e2]
    rfl
  rw [e3] at e
  cases e
  exact rfl
def inSD (f : Bool → Bool) : O2 := fun x y Q => match x, y with
  | .str s, .str z => ∃ c, s = ⟨#[c]⟩ ∧ Q (.d (.bl (f (decide (c ∈ z.cps.toList)))))
  | _, _ => False
theorem od_inS {K : PySem.W.Frag} : OpD K rInS (inSD id) := fun F H x y v u R Q s hx hy h k => by
  unfold inSD at h
  split at h
  · obtain ⟨c, rfl, h⟩ := h
    cases hx; cases hy
    exact ⟨c, _, rfl, rfl, k _ _ H F h (Out.pure s rfl)⟩
  · exact h.elim
theorem od_notInS {K : PySem.W.Frag} : OpD K rNotInS (inSD not) := fun F H x y v u R Q s hx hy h k => by
  unfold inSD at h
  split at h
  · obtain ⟨c, rfl, h⟩ := h
    cases hx; cases hy
    exact ⟨c, _, rfl, rfl, k _ _ H F h (Out.pure s rfl)⟩
  · exact h.elim
theorem de_glob {x : Str} {d : D} {v : V} {u : Value} (hd : ∀ F, Dp X.K F d v) (hg : Gl X x) (hm : X.mg x = some u) (r : RelV v u) (h2 : (x == ("__debug__" : Str)) = false := by decide) : DE X (.Name x pos) (dC d) := de_tC (pe_glob hg hm r h2) hd
theorem de_bltn {x : Str} {v : V} {u : Value} (hg : Gl X x) (hm : X.mg x = none) (hv : bootBuiltins x = some u) (r : RelV v u) (hn : x ≠ "__name__" := by decide) (hd : (x == ("__debug__" : Str)) = false := by decide) : DE X (.Name x pos) (dC (.raw v)) := de_tC (pe_bltn hg hm hv r hn hd) fun _ => rfl
theorem rdVar_d {x : D} {i : Nat} {ρ : Rho} {Q : RD → Rho → Prop} : rdVar (some (some (.d x))) i ρ Q = Q (.d x) ρ := rfl
theorem rdVar_lst {xs : List D} {i : Nat} {ρ : Rho} {Q : RD → Rho → Prop} : rdVar (some (some (.o (.lst xs)))) i ρ Q = Q (.d (.lst xs)) (ρ.set i (some (.d (.lst xs)))) := rfl
theorem rdVar_ins {C : Addr} {ks : List Str} {xs : List D} {i : Nat} {ρ : Rho} {Q : RD → Rho → Prop} : rdVar (some (some (.o (.ins C ks xs)))) i ρ Q = Q (.d (.ins C ks xs)) (ρ.set i (some (.d (.ins C ks xs)))) := rfl
theorem rtVar_d {x : D} {Q : RD → Prop} : rtVar (some (some (.d x))) Q = Q (.d x) := rfl
theorem rtVar_lst {xs : List D} {Q : RD → Prop} : rtVar (some (some (.o (.lst xs)))) Q = Q (.o (.lst xs)) := rfl
theorem toD_d {x : D} : (RD.d x).toD = x := rfl
theorem toD_lst {xs : List D} : (RD.o (.lst xs)).toD = .lst xs := rfl
theorem toD_ins {C : Addr} {ks : List Str} {xs : List D} : (RD.o (.ins C ks xs)).toD = .ins C ks xs := rfl
theorem toDo_lst {xs : List D} : (OB.lst xs).toD = .lst xs := rfl
theorem asBl_bl {b : Bool} {k : Bool → Prop} : asBl (.bl b) k = k b := rfl
theorem asInt_int {b : Int} {k : Int → Prop} : asInt (.int b) k = k b := rfl
theorem asLst_lst {b : List D} {k : List D → Prop} : asLst (.lst b) k = k b := rfl
theorem wTup_eq {ds : List D} {R : RD → Prop} : wTup ds R = (ds.length ≤ 1000000 ∧ R (.d (.tup ds))) := rfl
theorem wLst_eq {ds : List D} {R : RD → Prop} : wLst ds R = (ds.length ≤ 1000000 ∧ R (.o (.lst ds))) := rfl
theorem atD_some {ρ : Rho} {i : Nat} {r : RD} {k : D → Prop} (h : ρ[i]? = some (some r)) : atD ρ i k = k r.toD := by unfold atD; rw [h]
theorem atOwn_some {ρ : Rho} {i : Nat} {xs : List D} {k : List D → Prop} (h : ρ[i]? = some (some (.o (.lst xs)))) : atOwn ρ i k = k xs := by unfold atOwn; rw [h]
theorem ixT0 {a : D} {r : List D} {Q : RD → Prop} : ixD (.tup (a :: r)) (.int 0) Q = Q (.d a) := by simp [ixD, atI, ixN]
theorem ixT1 {a b : D} {r : List D} {Q : RD → Prop} : ixD (.tup (a :: b :: r)) (.int 1) Q = Q (.d b) := by
  have : (1 : Int) < ((r.length : Int) + 1 + 1) := by omega
  simp [ixD, atI, ixN, this]
theorem ixT2 {a b c : D} {r : List D} {Q : RD → Prop} : ixD (.tup (a :: b :: c :: r)) (.int 2) Q = Q (.d c) := by
  have : (2 : Int) < ((r.length : Int) + 1 + 1 + 1) := by omega
  simp [ixD, atI, ixN, this]
theorem ixT3 {a b c d : D} {r : List D} {Q : RD → Prop} : ixD (.tup (a :: b :: c :: d :: r)) (.int 3) Q = Q (.d d) := by
  have : (3 : Int) < ((r.length : Int) + 1 + 1 + 1 + 1) := by omega
  simp [ixD, atI, ixN, this]
theorem ixL_of {xs : List D} {z : Int} {d : D} {Q : RD → Prop} (h : atI xs z = some d) : ixD (.lst xs) (.int z) Q = Q (.d d) := by
  show (match atI xs z with | some d => Q (.d d) | none => False) = _
  rw [h]
theorem ixTp_of {xs : List D} {z : Int} {d : D} {Q : RD → Prop} (h : atI xs z = some d) : ixD (.tup xs) (.int z) Q = Q (.d d) := by
  show (match atI xs z with | some d => Q (.d d) | none => False) = _
  rw [h]
theorem addD_int {i j : Int} {Q : RD → Prop} : addD (.int i) (.int j) Q = Q (.d (.int (i + j))) := rfl
theorem addD_lst {i j : List D} {Q : RD → Prop} : addD (.lst i) (.lst j) Q = (i.length + j.length ≤ 1000000 ∧ Q (.o (.lst (i ++ j)))) := rfl
theorem mulD_int {i j : Int} {Q : RD → Prop} : mulD (.int i) (.int j) Q = ((CMulW i j ∨ CMul i j) ∧ Q (.d (.int (i * j)))) := rfl
theorem mulD_lst {xs : List D} {n : Int} {Q : RD → Prop} : mulD (.lst xs) (.int n) Q = (n < 2 ^ 63 ∧ -(2 ^ 63) ≤ n ∧ xs.length * n.toNat ≤ 1000000 ∧ Q (.o (.lst (List.replicate n.toNat xs).flatten))) := rfl
theorem int0_int {g : Int → Int → D} {i j : Int} {Q : RD → Prop} : int0 g (.int i) (.int j) Q = Q (.d (g i j)) := rfl
theorem intD_int {C : Int → Int → Prop} {g : Int → Int → D} {i j : Int} {Q : RD → Prop} : intD C g (.int i) (.int j) Q = (C i j ∧ Q (.d (g i j))) := rfl
theorem negD_int {i : Int} {Q : RD → Prop} : negD (.int i) Q = Q (.d (.int (-i))) := rfl
theorem lenD_lst {xs : List D} {k : Nat → Prop} : lenD (.lst xs) k = k xs.length := rfl
theorem hu64 {A : Around} {k : Nat} (r : Room k A) : A.units + 64 < cLine := by have := r.un; omega
theorem hu65 {A : Around} {k : Nat} (r : Room k A) : A.units + 65 < cLine := by have := r.un; omega
/-! ### plain data in equations -/
theorem pl_int (i : Int) : (D.int i).pl = true := rfl
theorem pl_non : D.non.pl = true := rfl
theorem pl_bl (b : Bool) : (D.bl b).pl = true := rfl
theorem eqv_int (i j : Int) : (D.int i).eqv (.int j) = decide (i = j) := by
  simp only [D.eqv, D.py, PyData.eqv]
  by_cases h : i = j <;> simp [h]
end
end DL
end
section
set_option Elab.async false
set_option linter.all false
set_option maxRecDepth 100000
/-! Data layer: the script cut, the bag made. -/
namespace DL
open PySem PySem.Spec L2

section
variable {X : Cx} {e : Expr} {te : ET} {pos : Pos}
def asScr (x : D) (k : List Int → Prop) : Prop := match x with
  | .scr ns => k ns
  | _ => False
theorem asScr_of {x : D} {k : List Int → Prop} (h : asScr x k) : ∃ b, x = .scr b ∧ k b := by
  cases x with
  | scr b => exact ⟨b, rfl, h⟩
  | _ => exact (show False from h).elim
theorem dpl_ints {K : PySem.W.Frag} {F : Hp} : ∀ ns : List Int, DpL K F (ns.map D.int) (ns.map V.int)
  | [] => DpL.nil
  | n :: ns => DpL.cons rfl (dpl_ints ns)
/-- script[lo:hi] -/
def dSlS (te : ET) (tl th : OT) : ET := fun ρ Q => te ρ fun x ρ1 => tl ρ1 fun lo ρ2 => th ρ2 fun hi ρ3 => asScr x.toD fun ns => ∀ ms : List Int, (∀ m ∈ ms, m ∈ ns) → ms = cutD ns lo hi → Q (.o (.lst (ms.map D.int))) ρ3
theorem de_slS {lo hi : Option Expr} {p2 : Pos} {tl th : OT} (he : DE X e te) (hl : DO X lo tl) (hh : DO X hi th) : DE X (.Subscript e (.Slice lo hi none p2) pos) (dSlS te tl th) := PE.imp (pe_slice sl_list he hl hh) fun σ H Q q => by
  obtain ⟨E, ρ, F, R, S, h, k⟩ := q
  refine useE S h fun x ρ1 v H1 F1 h1 S1 st1 d1 => ⟨E, ρ1, F1, _, S1, h1, fun l ρ2 H2 F2 h2 S2 st2 => ⟨E, ρ2, F2, _, S2, h2, fun u ρ3 H3 F3 h3 S3 st3 => ?_⟩⟩
  obtain ⟨ns, e1, h4⟩ := asScr_of h3
  have d3 := Dp.mono (st2.frz.trans st3.frz) _ _ d1
  rw [e1] at d3
  obtain ⟨a, rfl, g1⟩ := d3
  have hc : cutV (ns.map V.int) l u = (cutD ns l u).map V.int := by
    unfold cutV cutD
    rw [List.length_map, List.map_take, List.map_drop]
  refine ⟨a, ns.map V.int, rfl, S3.sub.seq g1, fun p hp => ?_⟩
  rw [hc]
  exact k _ ρ3 _ _ _ (h4 _ (fun m hm => List.mem_of_mem_drop (List.mem_of_mem_take hm)) rfl) ((Out.newLst S3.sub hp (dpl_ints _)).eok S3 ((st1.trans st2).trans st3))

/-- an object outside: not frozen, no slot's -/
theorem St2.chgFree {K : PySem.W.Frag} {E : Ent} {σ : Sig} {H : Hp} {ρ : Rho} {F : Hp} (S : St2 K E σ H ρ F) {a : Addr} {o u : HO} (n : F a = none) (h : H a = some u) (h0 : E.H0 a = none) (no : NotOwn σ ρ a) : St2 K E σ (upd H a o) ρ F := by
  refine ⟨fun c w q => ?_, fun c w hx q => ?_, fun c w q => ?_, S.frz, S.len, fun i r q => ?_, S.own0, S.sep⟩
  · rw [upd_ne (ne_of_none q n)]; exact S.sub c w q
  · rw [upd_ne (ne_of_none q h0)]; exact S.keep c w hx q
  · rw [upd_ne (ne_of_none q h0)]; exact S.there c w q
  · obtain ⟨v, g1, g2⟩ := S.slot i r q
    refine ⟨v, g1, ?_⟩
    cases r with
    | d d => exact g2
    | o b =>
      obtain ⟨c, rfl, g3, g4⟩ := g2
      have ne : c ≠ a := fun z => no i b q (by rw [← z]; exact g1)
      exact ⟨c, rfl, g3, g4.mono (Same.refl F) (upd_ne ne)⟩
/-- a fresh list [a, b, c, cells] taken as a bag -/
def dBagOf (te : ET) : ET := fun ρ Q => te ρ fun r ρ1 => ∃ (a b c : Int) (cs : List Int), r = .o (.lst [.int a, .int b, .int c, .lst (cs.map D.int)]) ∧ bagOk a b c ∧ (∀ x ∈ cs, 0 ≤ x) ∧ cs.length ≤ 63 ∧ Q (.d .bag) ρ1
theorem de_bagOf (he : DE X e te) : DE X e (dBagOf te) := by
  refine ⟨fun pins s σ H Q I q => ?_⟩
  obtain ⟨E, ρ, F, R, S, h, k⟩ := q
  refine thn (he.run pins s σ H (fun v H' => ∃ (a b c : Int) (cs : List Int) (ρ1 : Rho) (F' : Hp), bagOk a b c ∧ (∀ x ∈ cs, (0 : Int) ≤ x) ∧ cs.length ≤ 63 ∧ R (.d .bag) ρ1 ∧ EOk X.K E σ H ρ F (.o (.lst [.int a, .int b, .int c, .lst (cs.map D.int)])) v H' ρ1 F') I ⟨E, ρ, F, _, S, h, fun r ρ1 v H' F' hr o => ?_⟩) fun u s1 hq => ?_
  · obtain ⟨a, b, c, cs, rfl, h1, h2, h3, h4⟩ := hr
    exact ⟨a, b, c, cs, ρ1, F', h1, h2, h3, h4, o⟩
  · obtain ⟨v, H', I', rv, a, b, c, cs, ρ1, F', h1, h2, h3, h4, o⟩ := hq
    obtain ⟨p, rfl, fp, vs, hp, dl⟩ := o.ok
    obtain ⟨v1, r1, rfl, d1, v2, r2, rfl, d2, v3, r3, rfl, d3, v4, r4, rfl, d4, d5⟩ := dl
    have e5 : r4 = [] := d5
    subst e5
    obtain rfl : v1 = .int a := d1
    obtain rfl : v2 = .int b := d2
    obtain rfl : v3 = .int c := d3
    obtain ⟨q, ws, rfl, fq, dq⟩ := d4
    have ew : ws = cs.map V.int := intsOf_vals (intsOf_map cs) dq
    subst ew
    obtain ⟨_, its, n, rl, ho⟩ := I'.hok p _ hp
    obtain ⟨n0, _, no, nw⟩ := o.new _ p rfl rfl
    have pB : BagP p q bagOk s1.heap := by
      cases rl with
      | cons t1 rl =>
        obtain ⟨t1, rfl⟩ := t1
        cases rl with
        | cons t2 rl =>
          obtain ⟨t2, rfl⟩ := t2
          cases rl with
          | cons t3 rl =>
            obtain ⟨t3, rfl⟩ := t3
            cases rl with
            | cons t4 rl =>
              cases rl
              obtain rfl := t4
              exact ⟨a, b, c, t1, t2, t3, n, ho, h1⟩
    have I2 := I'.write (x := p) (e := p) (t' := s1.toks) (h' := s1.heap) (o := BagO p q) (by rw [hp]; trivial) (.inl rfl) (fun _ _ _ z => z) ⟨_, ho⟩ (bag_stay pB _ _ _)
    have S2 := o.st.chgFree (o := BagO p q) fp hp n0 no
    obtain ⟨S3, e3⟩ := S2.frz1 (a := p) (o := BagO p q) fp upd_same n0 no
    have eq : p ≠ q := fun z => by rw [← z, fp] at fq; cases fq
    refine ⟨.ref p, upd H' p (BagO p q), I2, rv, k _ ρ1 _ _ (upd F' p (BagO p q)) h4 ⟨S3, ⟨o.stp.frz.trans e3, fun y u hy ny => ?_, o.stp.dec⟩, ⟨p, q, cs, rfl, upd_same, by rw [upd_ne eq.symm]; exact fq, h2, h3⟩, fun _ _ z => nomatch z⟩⟩
    obtain ⟨z1, z2⟩ := o.stp.fr y u hy ny
    have ne : y ≠ p := fun z => by
      subst z
      exact nw u hy ny
    exact ⟨by rw [upd_ne ne]; exact z1, by rw [upd_ne ne]; exact z2⟩
/-- a sequence cut in two -/
theorem dSeq_in {t u : DTS} {De : DEnds} {ρ : Rho} (P : Rho → Prop) (h1 : ∀ ρ', P ρ' → u De ρ') (h2 : ∀ U : Rho → Prop, (∀ ρ', P ρ' → U ρ') → t { De with nx := U } ρ) : dSeq t u De ρ := h2 _ h1
theorem isNon_non : D.non.isNon = true := rfl
theorem isNon_int {i : Int} : (D.int i).isNon = false := rfl
theorem isNon_bl {i : Bool} : (D.bl i).isNon = false := rfl
theorem isNon_tup {i : List D} : (D.tup i).isNon = false := rfl
theorem isNon_lst {i : List D} : (D.lst i).isNon = false := rfl
theorem isNon_ins {C : Addr} {ks : List Str} {i : List D} : (D.ins C ks i).isNon = false := rfl
theorem isND_non {x : D} {Q : RD → Prop} : isND x .non Q = Q (.d (.bl x.isNon)) := rfl
theorem notND_non {x : D} {Q : RD → Prop} : notND x .non Q = Q (.d (.bl (!x.isNon))) := rfl
theorem atOwn_zero {xs : List D} {r : Rho} {k : List D → Prop} : atOwn (some (.o (.lst xs)) :: r) 0 k = k xs := rfl
theorem atOwn_succ {x : Option RD} {r : Rho} {i : Nat} {k : List D → Prop} : atOwn (x :: r) (i + 1) k = atOwn r i k := rfl
theorem atD_zero {x : RD} {r : Rho} {k : D → Prop} : atD (some x :: r) 0 k = k x.toD := rfl
theorem atD_succ {x : Option RD} {r : Rho} {i : Nat} {k : D → Prop} : atD (x :: r) (i + 1) k = atD r i k := rfl
theorem atDt_zero {ks : List (List Key)} {xs : List D} {r : Rho} {k : List (List Key) → List D → Prop} : atDt (some (.o (.dt ks xs)) :: r) 0 k = k ks xs := rfl
theorem atDt_succ {x : Option RD} {r : Rho} {i : Nat} {k : List (List Key) → List D → Prop} : atDt (x :: r) (i + 1) k = atDt r i k := rfl
theorem atSlf_zero {C : Addr} {ks : List Str} {xs : List D} {r : Rho} {k : Addr → List Str → List D → Prop} : atSlf (some (.o (.slf C ks xs)) :: r) 0 k = k C ks xs := rfl
theorem forD_nil {p : Pat} {tb : DTS} {De : DEnds} {ρ : Rho} : forD p tb De [] ρ = De.nx ρ := rfl
theorem forD_cons {p : Pat} {tb : DTS} {De : DEnds} {d : D} {ds : List D} {ρ : Rho} : forD p tb De (d :: ds) ρ = bindPat p d ρ fun ρ' => tb { De with nx := forD p tb De ds, ct := forD p tb De ds, bk := De.nx } ρ' := rfl
theorem wInt1_int {i : Int} {R : RD → Prop} : wInt1 [.int i] R = R (.d (.int i)) := rfl
theorem wInt1_bl {i : Bool} {R : RD → Prop} : wInt1 [.bl i] R = R (.d (.int (if i then 1 else 0))) := rfl
theorem wAbs_int {i : Int} {R : RD → Prop} : wAbs [.int i] R = R (.d (.int (if i < 0 then -i else i))) := rfl
theorem wMax2_int {i j : Int} {R : RD → Prop} : wMax2 [.int i, .int j] R = R (.d (.int (max i j))) := rfl
theorem wMin2_int {i j : Int} {R : RD → Prop} : wMin2 [.int i, .int j] R = R (.d (.int (min i j))) := rfl
theorem wList_lst {xs : List D} {R : RD → Prop} : wList [.lst xs] R = R (.o (.lst xs)) := rfl
theorem wLen_lst {xs : List D} {R : RD → Prop} : wLen [.lst xs] R = R (.d (.int xs.length)) := rfl
theorem wLen_str {s : Str} {R : RD → Prop} : wLen [.str s] R = (s.length ≤ 1000000 ∧ R (.d (.int s.length))) := rfl
theorem bagAt0 {x : Option RD} {r : Rho} : BagAt (x :: r) 0 = (x = some (.d .bag)) := by simp [BagAt]
end
end DL
end
section
set_option Elab.async false
set_option linter.all false
set_option maxRecDepth 100000
/-! Data layer: loops and comprehensions by what holds, tables. -/
namespace DL
open PySem PySem.Spec L2

theorem forD_ind {p : Pat} {tb : DTS} {De : DEnds} (J : List D → Rho → Prop) (hn : ∀ ρ, J [] ρ → De.nx ρ)
    (hs : ∀ d ds ρ (U : Rho → Prop), J (d :: ds) ρ → (∀ ρ', J ds ρ' → U ρ') → bindPat p d ρ fun ρ' => tb { De with nx := U, ct := U, bk := De.nx } ρ') : ∀ {ds : List D} {ρ : Rho}, J ds ρ → forD p tb De ds ρ
  | [], ρ, h => hn ρ h
  | d :: ds, ρ, h => hs d ds ρ _ h fun ρ' h' => forD_ind J hn hs h'
theorem comp_gen {p : Pat} {tt : TTD} {te : ET} {vs : List Nat} {Q : RD → Rho → Prop} {ρ : Rho} (f : D → Option D) (no : noOwn ρ vs) : ∀ (ds acc : List D), acc.length + ds.length ≤ 1000000 →
    (∀ d ∈ ds, ∀ (U : RD → Rho → Prop) (V : Rho → Prop), (∀ r ρ4, f d = some r.toD → restR ρ ρ4 vs = ρ → U r ρ4) → (∀ ρ3, f d = none → restR ρ ρ3 vs = ρ → V ρ3) → bindPat p d (wipeR ρ vs) fun ρ2 => tt ρ2 fun b ρ3 => match b with | true => te ρ3 U | false => V ρ3) →
    Q (.o (.lst (acc ++ ds.filterMap f))) ρ → compD p tt te vs Q ds ρ acc
  | [], acc, _, _, h => by simpa [compD] using h
  | d :: ds, acc, hl, hs, h => by
    refine ⟨no, ?_⟩
    have hl' : acc.length + (ds.length + 1) ≤ 1000000 := hl
    refine hs d List.mem_cons_self (fun y ρ4 => acc.length < 1000000 ∧ compD p tt te vs Q ds (restR ρ ρ4 vs) (acc ++ [y.toD])) (fun ρ3 => compD p tt te vs Q ds (restR ρ ρ3 vs) acc) (fun r ρ4 e1 e2 => ?_) fun ρ3 e1 e2 => ?_
    · refine ⟨by omega, ?_⟩
      rw [e2]
      refine comp_gen f no ds (acc ++ [r.toD]) (by simp; omega) (fun d hd => hs d (List.mem_cons_of_mem _ hd)) ?_
      rw [List.filterMap_cons_some e1] at h
      simpa using h
    · rw [e2]
      refine comp_gen f no ds acc (by omega) (fun d hd => hs d (List.mem_cons_of_mem _ hd)) ?_
      rw [List.filterMap_cons_none e1] at h
      exact h
theorem comp_map {p : Pat} {te : ET} {vs : List Nat} {Q : RD → Rho → Prop} {ρ : Rho} {ds : List D} (g : D → D) (no : noOwn ρ vs) (hl : ds.length ≤ 1000000)
    (hs : ∀ d ∈ ds, ∀ U : RD → Rho → Prop, (∀ r ρ4, r.toD = g d → restR ρ ρ4 vs = ρ → U r ρ4) → bindPat p d (wipeR ρ vs) fun ρ2 => te ρ2 U)
    (h : Q (.o (.lst (ds.map g))) ρ) : compD p dYes te vs Q ds ρ [] :=
  comp_gen (fun d => some (g d)) no ds [] (by simpa using hl) (fun d hd U V hU _ => hs d hd U fun r ρ4 e1 e2 => hU r ρ4 (by rw [e1]) e2) (by simpa [List.filterMap_eq_map] using h)

/-! ### tables -/
def tab {α : Type} (n : Nat) (f : Nat → α) : List α := (List.range (n + 1)).map f
section
variable {α : Type} {n : Nat} {f : Nat → α}
theorem tab_len : (tab n f).length = n + 1 := by simp [tab]
theorem tab_get {v : Nat} (h : v ≤ n) : (tab n f)[v]? = some (f v) := by
  unfold tab
  rw [List.getElem?_map, List.getElem?_range (by omega)]
  rfl
theorem tab_at {v : Nat} (h : v ≤ n) : atI (tab n f) (v : Int) = some (f v) := L2.atI_nat (tab_get h)
theorem tab_ix {v : Nat} (h : v ≤ n) : ixN (tab n f).length (v : Int) = some v := by
  unfold ixN
  rw [tab_len, if_pos (by omega), if_pos (by omega)]
  rfl
theorem tab_set {v : Nat} {x : α} : (tab n f).set v x = tab n fun y => if y = v then x else f y := by
  apply List.ext_getElem?
  intro i
  unfold tab
  rw [List.getElem?_set, List.getElem?_map, List.getElem?_map]
  by_cases h : v = i
  · subst h
    rw [if_pos rfl, List.length_map, List.length_range]
    by_cases h2 : v < n + 1
    · rw [if_pos h2, List.getElem?_range h2]
      simp
    · rw [if_neg h2, List.getElem?_eq_none (by simp; omega)]
      rfl
  · rw [if_neg h]
    by_cases h2 : i < n + 1
    · rw [List.getElem?_range h2]
      simp [Ne.symm h]
    · rw [List.getElem?_eq_none (by simp; omega)]
      rfl
end
theorem rngD_map : ∀ (n k : Nat), rngD (k : Int) n = (List.range' k n).map fun i => D.int (i : Nat)
  | 0, k => rfl
  | n + 1, k => by
    show D.int k :: rngD ((k : Int) + 1) n = _
    have := rngD_map n (k + 1)
    push_cast at this
    rw [this, List.range'_succ]
    rfl
theorem rngD0 (n : Nat) : rngD 0 n = (List.range n).map fun i => D.int (i : Nat) := by
  have := rngD_map n 0
  rw [List.range_eq_range']
  exact this
end DL
end
section
set_option Elab.async false
set_option linter.all false
set_option maxRecDepth 100000
/-! Data layer: a def that hands back a tuple, its first a fresh list of the def's own. -/
namespace DL
open PySem PySem.Spec L2

/-- a comprehension whose element may turn the names' values within J -/
theorem comp_mapJ {p : Pat} {te : ET} {vs : List Nat} {Q : RD → Rho → Prop} (g : D → D) (J : Rho → Prop) (no : ∀ ρ, J ρ → noOwn ρ vs) : ∀ (ds acc : List D) (ρ : Rho), J ρ → acc.length + ds.length ≤ 1000000 →
    (∀ d ∈ ds, ∀ ρ, J ρ → ∀ U : RD → Rho → Prop, (∀ r ρ4, r.toD = g d → J (restR ρ ρ4 vs) → U r ρ4) → bindPat p d (wipeR ρ vs) fun ρ2 => te ρ2 U) →
    (∀ ρ', J ρ' → Q (.o (.lst (acc ++ ds.map g))) ρ') → compD p dYes te vs Q ds ρ acc
  | [], acc, ρ, hJ, _, _, h => by simpa [compD] using h ρ hJ
  | d :: ds, acc, ρ, hJ, hl, hs, h => by
    refine ⟨no ρ hJ, ?_⟩
    have hl' : acc.length + (ds.length + 1) ≤ 1000000 := hl
    refine hs d List.mem_cons_self ρ hJ (fun y ρ4 => acc.length < 1000000 ∧ compD p dYes te vs Q ds (restR ρ ρ4 vs) (acc ++ [y.toD])) fun r ρ4 e1 e2 => ?_
    refine ⟨by omega, ?_⟩
    rw [e1]
    refine comp_mapJ g J no ds (acc ++ [g d]) _ e2 (by simp; omega) (fun d hd => hs d (List.mem_cons_of_mem _ hd)) fun ρ' h' => ?_
    have := h ρ' h'
    simpa using this
theorem de_fldK {X : Cx} {m : Str} {pos : Pos} {e : Expr} {ta : ET} (K : PySem.W.Frag) (ha : DE X e ta) (hK : X.K = K := by rfl) (hb : attributeBase e m X.env (eval e X.env) = eval e X.env := by rfl) : DE X (.Attribute e m pos) (dFld K m ta) := by
  subst hK
  exact de_fld ha hb
abbrev PN := List D → (List D → List D → Prop) → Prop
structure OutP (K : PySem.W.Frag) (H F : Hp) (xs rest : List D) (v : V) (H' F' : Hp) : Prop where
  ext : HExt H F H' F'
  at_ : ∃ p a ws vs, v = .ref p ∧ H' p = some (.tup (.ref a :: vs)) ∧ H' a = some (.lst ws) ∧ F' a = none ∧ DpL K F' xs ws ∧ DpL K F' rest vs ∧ H p = none ∧ H a = none
def spP (K : PySem.W.Frag) (W : PN) : Sp := fun vs H Q _ => ∃ F ds R, Same F H ∧ DpL K F ds vs ∧ W ds R ∧ ∀ xs rest v H' F', R xs rest → OutP K H F xs rest v H' F' → Q v H'
structure DefP (P : Program) (w : World) (K : PySem.W.Frag) (mg : Str → Option Value) (base : Heap) (k : Nat) (x : Str) (W : PN) : Prop where
  ex : ∃ f fd ps, mg x = some (.ref f) ∧ PySem.W.keepIn K (.ref f) = true ∧ Binds K fd ps [] ∧ FnG P w K mg base k f fd ps (spP K W)
theorem DefP.mono {P : Program} {w : World} {K : PySem.W.Frag} {mg : Str → Option Value} {base : Heap} {j k : Nat} {x : Str} {W : PN} (G : DefP P w K mg base j x W) (h : j ≤ k) : DefP P w K mg base k x W :=
  let ⟨f, fd, ps, h1, h2, h3, F⟩ := G.ex
  ⟨f, fd, ps, h1, h2, h3, F.mono h⟩

theorem asIns_ins {C : Addr} {ks : List Str} {xs : List D} {k : Addr → List Str → List D → Prop} : asIns (.ins C ks xs) k = k C ks xs := rfl
theorem slfEnd_eq {C C' : Addr} {ks : List Str} {xs : List D} {R : List Str → List D → Prop} {r : Rho} : slfEnd C R (some (.o (.slf C' ks xs)) :: r) = (C' = C ∧ R ks xs) := rfl
def retP (o : Option (Option RD)) (k : List D → Prop) : Prop := match o with
  | some (some (.o (.lst xs))) => k xs
  | _ => False
theorem retP_of {o : Option (Option RD)} {k : List D → Prop} (h : retP o k) : ∃ xs, o = some (some (.o (.lst xs))) ∧ k xs := by
  unfold retP at h
  split at h
  · exact ⟨_, rfl, h⟩
  · exact h.elim
theorem retP_lst {xs : List D} {k : List D → Prop} : retP (some (some (.o (.lst xs)))) k = k xs := rfl
def dRetP (i : Nat) (tr : ATD) : DTS := fun De ρ => retP ρ[i]? fun _ => tr ρ fun ds ρ1 => ds.length < 1000000 ∧ retP ρ1[i]? fun xs => De.rp xs ds
section
variable {X : Cx} {i : Nat} {e : Expr} {es : List Expr} {tr : ATD} {pos tpos : Pos} {kk : Nat}
theorem ds_retP (he : PE X e (tVar i)) (hr : DA X es tr) (hs : starEach (e :: es) X.env = (false, eval e X.env) :: starEach es X.env := by rfl) : DS X (.Return (some (.Tuple (e :: es) kk tpos)) pos) (dRetP i tr) := PS.imp (ps_ret (pe_tup (pa_cons he hr hs))) fun D σ H q => by
  obtain ⟨E, ρ, F, De, S, h, C⟩ := q
  obtain ⟨xs0, e0, h⟩ := retP_of h
  obtain ⟨v0, g0, a0, ev0, n0, ws0, g1, g2⟩ := S.slot i _ e0
  subst ev0
  refine ⟨.ref a0, g0, useA S h fun ds ρ1 vs H1 F1 h1 S1 st1 d1 => ?_⟩
  obtain ⟨hl, h2⟩ := h1
  obtain ⟨xs, e1, h3⟩ := retP_of h2
  obtain ⟨v1, g3, a1, ev1, n1, ws, g4, g5⟩ := S1.slot i _ e1
  rw [g0] at g3
  cases g3
  cases ev1
  refine ⟨by simp only [List.length_cons]; rw [← d1.len]; exact mill hl, fun p hp => ?_⟩
  have h0a : E.H0 a0 = none := by
    rcases S1.own0 i _ a0 e1 g0 with ⟨z, _⟩ | ⟨_, z⟩
    · cases z
    · exact z
  have h0p : E.H0 p = none := by
    cases q : E.H0 p with
    | none => rfl
    | some u =>
      obtain ⟨y, hy⟩ := S1.there p u q
      rw [hp] at hy; cases hy
  have x := HExt.newO (o := HO.tup (.ref a0 :: vs)) S1.sub hp
  refine C.rp xs ds _ _ F1 ⟨x.sub, fun c o h1 h2 => x.keep c o (S1.keep c o h1 h2), S1.frz, p, a0, ws, vs, rfl, upd_same, x.keep _ _ g4, n1, g5, d1, h0p, h0a⟩ h3
end
section
variable {P : Program} {w : World} {K : PySem.W.Frag} {mg : Str → Option Value} {base : Heap} {k : Nat} {f : Addr} {x qual : Str} {params : Arguments} {body : List Stmt} {scope : Scope} {dvs : List V} {kws : List (Str × V)} {fd : FuncData} {N ps : List Str}
theorem okP {W : PN} (D : FunD K x qual params body scope dvs kws f fd) (S : FnScope N ps scope) (len : ∀ ds R, W ds R → ds.length = ps.length)
    (hb : ∀ (cdv : Value) (A : Around) (outer : List Env) (s : Shared) (H : Hp), Room k (A.deeper (PyProof.Rows.envOfC qual scope s.heap.objs.size f cdv)) → A.guards = some [] →
      ∃ t, DSs (cxOf CX0 P w K mg base N qual scope f cdv A outer s H E0).nox body t ∧ ∀ ds R, W ds R → t { nx := fun _ => False, rt := fun _ => False, rp := R } (startR N ds)) : FnG P w K mg base (k + 1) f fd ps (spP K W) := by
  refine FnG.body D S (fun vs H Q E h => ?_) (fun cdv A outer s H vs Q hr hG h => ?_)
  · obtain ⟨F, ds, R, _, h1, h2, _⟩ := h
    rw [← h1.len]
    exact len ds R h2
  · obtain ⟨F, ds, R, sF, hd, hW, kk⟩ := h
    obtain ⟨t, ht, hq⟩ := hb cdv A outer s H hr hG
    refine ⟨_, ht, ⟨H, F, none⟩, startR N ds, F, { nx := fun _ => False, rt := fun _ => False, rp := R }, ?_, hq ds R hW, ?_⟩
    · have hl : ds.length = vs.length := hd.len
      refine ⟨sF, fun a o _ h => h, fun a o h => ⟨o, h⟩, fun a o h => rfl, ?_, fun i r h => ?_, fun i b a h _ => ?_, fun i j b b' a h _ _ _ => ?_⟩
      · unfold startR L2.start
        simp [hl]
      · obtain ⟨d, h1, rfl⟩ := startR_at h
        obtain ⟨v, h2, h3⟩ := hd.get h1
        exact ⟨v, start_at h2, h3⟩
      · obtain ⟨d, _, e⟩ := startR_at h
        cases e
      · obtain ⟨d, _, e⟩ := startR_at h
        cases e
    · refine ⟨fun _ _ _ _ _ _ q => q.elim, fun _ _ _ _ _ _ q => q.elim, fun _ _ _ _ _ _ q => q.elim, fun _ _ _ _ _ q => q.elim, fun xs rest v H' F' o q => kk xs rest v H' F' q ⟨⟨fun a u h => o.keep a u (by intro e; cases e) h, o.sub, fun a u h => o.frz a u h⟩, ?_⟩⟩
      obtain ⟨p, a, ws, us, h1, h2, h3, h4, h5, h6, h7, h8⟩ := o.at_
      exact ⟨p, a, ws, us, h1, h2, h3, h4, h5, h6, h7, h8⟩
theorem DefP.of {W : PN} (hm : mg x = some (.ref f)) (hk : PySem.W.keepIn K (.ref f) = true) (F : FnG P w K mg base k f fd ps (spP K W)) (hb : ∃ ds, Vals [] ds ∧ Binds K fd ps ds) (_ : True) : DefP P w K mg base k x W := by
  obtain ⟨ds, h1, h2⟩ := hb
  cases h1
  exact ⟨f, fd, ps, hm, hk, h2, F⟩
end
def dUnpackP (W : PN) (t : ATD) (i j l : Nat) : DTS := fun De ρ => t ρ fun ds ρ1 => W ds fun xs rest => ∃ y z, rest = [y, z] ∧ De.nx (((ρ1.set i (some (.o (.lst xs)))).set j (some (.d y))).set l (some (.d z)))
section
variable {X : Cx} {k i j l : Nat} {W : PN} {x : Str} {e tg : Expr} {es : List Expr} {t : ATD} {pos p cpos : Pos}
theorem ds_unpackP (G : DefP X.prog X.w X.K X.mg X.base k x W) (hr : Room k X.A) (hG : X.A.guards = some []) (ha : DA X (e :: es) t) (hg : PG X tg (gPat X.K (.tp [.nm i, .nm j, .nm l]))) (hgl : Gl X x := by rfl) (hdb : (x == ("__debug__" : Str)) = false := by decide)
    (he : starEach (e :: es) X.env = (false, eval e X.env) :: starEach es X.env := by rfl) (hpl : (backTo cpos (starEach es X.env)).any (·.1) = false := by rfl)
    (hs : swapsWithSole [tg] (.Call (.Name x p) (e :: es) [] cpos) pos.line X.env = pure false := by rfl) (hw : swappedStores [tg] (.Call (.Name x p) (e :: es) [] cpos) X.env = pure none := by rfl)
    (h1 : (assignEach [tg] X.env).map (·.2) = [assign tg X.env] := by rfl) : DS X (.Assign [tg] (.Call (.Name x p) (e :: es) [] cpos) pos) (dUnpackP W t i j l) := by
  obtain ⟨f, fd, ps, hm, hk, hb, F⟩ := G.ex
  have pc : PE X (.Call (.Name x p) (e :: es) [] cpos) (fun σ H Q => liftA X.K t σ H fun vs H1 => spP X.K W (vs ++ []) H1 Q E0) := ⟨fun pins s σ H Q I q => by
    refine wpAny_Call_Name_kw (ld_glob I hgl hm ?_ hdb)
    refine PySem.W.callWith_K (h₀ := X.base) I.ok.mod.kin hk (thn (ha.run cpos pins s σ H (fun vs H1 => spP X.K W (vs ++ []) H1 Q E0) I q) fun us s1 ⟨vs, H1, I1, r, q⟩ => ⟨I1.kIn, ?_⟩) he hpl
    exact runG F hr hG hb .nil I1 r q⟩
  refine PS.imp (ps_asg pc hg hs hw h1) fun D σ H q => ?_
  obtain ⟨E, ρ, F0, De, S, h, C⟩ := q
  refine useA S h fun ds ρ1 vs H1 F1 hW S1 st1 d1 => ?_
  refine ⟨F1, ds, _, S1.sub, by rw [List.append_nil]; exact d1, hW, fun xs rest v H' F' hR o => ?_⟩
  obtain ⟨y, z, rfl, hR⟩ := hR
  obtain ⟨q, a, ws, us, rfl, o1, o2, o3, o4, o5, o6, o7⟩ := o.at_
  obtain ⟨vy, r1, rfl, dy, vz, r2, rfl, dz, dn⟩ := o5
  have er : r2 = [] := dn
  subst er
  obtain ⟨S2, st2⟩ := S1.ext o.ext
  refine ⟨q, _, rfl, .inl (.inl o1), rfl, _, _, rfl, _, _, rfl, _, _, rfl, rfl, ?_⟩
  have h0a : E.H0 a = none := by
    cases q : E.H0 a with
    | none => rfl
    | some u =>
      obtain ⟨w, hw⟩ := S1.there a u q
      rw [o7] at hw; cases hw
  have no : NotOwn σ ρ1 a := fun m b q z => by
    obtain ⟨w, g1, a', e', _, g3⟩ := S1.slot m _ q
    rw [z] at g1; cases g1
    cases e'
    obtain ⟨u, hu⟩ := g3.some
    rw [o7] at hu; cases hu
  refine C.nx _ H' _ F' (((S2.put i (r := .o (.lst xs)) (v := .ref a) ⟨a, rfl, o3, ws, o2, o4⟩ fun b c e1 e2 => ?_).put j (r := .d y) dy fun _ _ e => nomatch e).put l (r := .d z) dz fun _ _ e => nomatch e) (st1.frz.trans st2.frz) hR
  cases e1
  cases e2
  exact ⟨h0a, rfl, no⟩
end
end DL
end
section
set_option Elab.async false
set_option linter.all false
set_option maxRecDepth 100000
/-! Data layer: a slot's own object frozen ahead of a test. -/
namespace DL
open PySem PySem.Spec L2
/-- a slot's own object frozen ahead of a test -/
def frzR (ρ : Rho) (j : Nat) : Rho := match ρ[j]? with
  | some (some (.o (.slf _ _ _))) => ρ
  | some (some (.o b)) => ρ.set j (some (.d b.toD))
  | _ => ρ
def dFrz (j : Nat) (t : TTD) : TTD := fun ρ Q => t (frzR ρ j) Q
theorem dt_frz {X : Cx} {c : Expr} {t : TTD} {j : Nat} (h : DT X c t) : DT X c (dFrz j t) := PT.imp h fun σ H Q q => by
  obtain ⟨E, ρ, F, R, S, h, k⟩ := q
  unfold dFrz frzR at h
  split at h
  · exact ⟨E, ρ, F, R, S, h, k⟩
  · rename_i b nb e
    have hs : b.isSlf = false := by
      cases b with
      | slf C ks xs => exact absurd rfl (nb C ks xs)
      | _ => rfl
    obtain ⟨a, o, g1, S1, st1, d1⟩ := S.frzSlot e hs
    exact ⟨E, _, _, R, S1, h, fun b ρ' H' F' hr S2 st2 => k b ρ' H' F' hr S2 (st1.trans st2)⟩
  · exact ⟨E, ρ, F, R, S, h, k⟩
end DL
end
section
set_option Elab.async false
set_option linter.all false
set_option maxRecDepth 100000
/-! Data layer: the law called at the end of the head, where no repr runs. -/
namespace DL
open PySem PySem.Spec PyProof.Rows L2
theorem callG {P : Program} {w : World} {K : PySem.W.Frag} {mg mb : Str → Option Value} {k : Nat} {lf a : Addr} {fd : FuncData} {x : Str} {W : ON} {s : Shared} {us : List Value} {ns : List Int}
    (KX : K.In s.heap) (hns : s.heap.Ns mainGlobals mg) (hb : s.heap.Ns builtinsNs mb) (hbb : ∀ x : Str, x ≠ "__name__" → mb x = bootBuiltins x) (hlim : s.heap.NoLimit) (hg : s.gens = #[])
    (ha : s.heap.get? a = some { cls := .type "list", data := .seq us.toArray }) (hi : IntsAre us ns) (hl : ns.length ≤ sizeLine) (hr : Room k callerA)
    (F : ∀ base : Heap, K.In base → base.Ns mainGlobals mg → FnG P w K mg base k lf fd [x] (spD K W)) (hbind : ∀ (s : Shared) (u : Value), BindsTo s fd ⟨[u], []⟩ [(x, u)])
    (hW : ∀ ns R, R (.d (.bl true)) → W [.scr ns] R) :
    codeAny (model P w) callerA (.call (.ref lf) ⟨[.ref a], []⟩) (fun r s' => r = .ok (.ret (.bool true)) ∧ OldK s.heap s'.heap ∧ s'.os = s.os ∧ AllBare s'.gens) s := by
  have go : ∀ H : Hp, Only H → SqL K H a (ns.map V.int) → HOk P w H s.heap → (∀ b u, H b = some u → b = a ∧ K.lookup a = none) →
      codeAny (model P w) callerA (.call (.ref lf) ⟨[.ref a], []⟩) (fun r s' => r = .ok (.ret (.bool true)) ∧ OldK s.heap s'.heap ∧ s'.os = s.os ∧ AllBare s'.gens) s := by
    intro H only sq ok at_
    have off : ∀ {b : Addr} {o : Obj}, s.heap.get? b = some o → (b = a → K.lookup a ≠ none ∨ ∃ es ep, o.data = .dict es ep) → H b = none := fun {b o} e hne => by
      cases q : H b with
      | none => rfl
      | some u =>
        obtain ⟨eb, kn⟩ := at_ b u q
        subst eb
        rcases hne rfl with z | ⟨es, ep, z⟩
        · exact absurd kn z
        · rw [ha] at e
          cases e
          have z' : Data.seq us.toArray _ = Data.dict es ep := z
          cases z'
    have stay : ∀ {b : Addr} {m : Str → Option Value}, s.heap.Ns b m → (hidT s.heap H).Ns b m := fun {b m} ⟨o, es, ep, e, d, r⟩ => ⟨o, es, ep, hidT_get e (off e fun _ => .inr ⟨es, ep, d⟩), d, r⟩
    have kin : K.In (hidT s.heap H) := fun b o e => hidT_get (KX b o e) (off (KX b o e) fun z => .inl (by rw [← z, e]; simp))
    have md : Mod K mg (hidT s.heap H) := ⟨kin, stay hns, ⟨mb, stay hb, hbb⟩, let ⟨mc, h1, h2⟩ := hlim; ⟨mc, stay h1, h2⟩⟩
    have env : Env0 P w K mg (hidT s.heap H) callerA [] s H := ⟨rfl, md, fun b o e => of_hidT e, Nat.le_of_eq (hidT_size _ _), trivial, fun b z => absurd (show b ∈ ([] : List Addr) from z) (by simp), ok, .of_eq hg⟩
    have pr : spD K W [.ref a] H (fun v _ => v = .bl true) E0 := ⟨H, [.scr ns], fun r => r = .d (.bl true), Same.refl H, DpL.cons ⟨a, rfl, sq⟩ DpL.nil, hW ns _ rfl, fun z v H' F' hz o => by
      subst hz
      exact o.ok⟩
    refine codeAny_mono ((F _ kin (stay hns)).run callerA [] s H ⟨[.ref a], []⟩ [.ref a] [.ref a] _ hr rfl env (hbind s (.ref a)) (.cons rfl .nil) pr) fun r s' z => ?_
    cases r with
    | error e => exact (show False from z).elim
    | ok fl =>
      cases fl with
      | ret u =>
        obtain ⟨v, H', os, bare, un, ok', rv, ev⟩ := z
        have ev' : v = .bl true := ev
        subst ev'
        obtain rfl : u = Value.bool true := rv
        refine ⟨rfl, OldK.of_keep fun b o e => ?_, os, bare⟩
        rcases only b with q | ⟨ob, xs, q⟩
        · exact un.keep b o e q (fun y => absurd (show b ∈ ([] : List Addr) from y) (by simp)) (by simp)
        · have c1 := (ok b _ q).1
          have c2 := (ok' b _ (un.frzs b ob _ q)).1
          rw [e] at c1
          cases c1
          exact c2
      | next => exact (show False from z).elim
      | brk => exact (show False from z).elim
      | cont => exact (show False from z).elim
  have vals := vals_ints hi
  cases q : K.lookup a with
  | some o =>
    have e := KX a o q
    rw [ha] at e
    cases e
    exact go (fun _ => none) (fun _ => .inl rfl) (.inr ⟨_, us.toArray, _, q, rfl, rfl, rfl, by rw [List.size_toArray, hi.length]; exact hl, by simpa using vals⟩) (fun b u z => nomatch (show (none : Option HO) = some u from z)) fun b u z => nomatch (show (none : Option HO) = some u from z)
  | none =>
    have atA : ∀ b u, upd (fun _ => none) a (.frz { cls := .type "list", data := .seq us.toArray } (.lst (ns.map V.int))) b = some u → b = a ∧ u = .frz { cls := .type "list", data := .seq us.toArray } (.lst (ns.map V.int)) := fun b u z => by
      by_cases hb : b = a
      · subst hb
        rw [upd_same] at z
        cases z
        exact ⟨rfl, rfl⟩
      · rw [upd_ne hb] at z
        cases z
    refine go (upd (fun _ => none) a (.frz { cls := .type "list", data := .seq us.toArray } (.lst (ns.map V.int)))) (fun b => ?_) (.inl (.inr ⟨_, upd_same⟩)) (fun b u z => ?_) fun b u z => ⟨(atA b u z).1, q⟩
    · cases z : upd (fun _ => none) a (.frz { cls := .type "list", data := .seq us.toArray } (.lst (ns.map V.int))) b with
      | none => exact .inl rfl
      | some u => exact .inr ⟨_, _, by rw [(atA b u z).2]⟩
    · obtain ⟨rfl, rfl⟩ := atA b u z
      exact ⟨ha, by rw [List.length_map]; exact hl, us, _, vals, ha⟩
/-- the law's end, from what its def keeps where no repr runs -/
theorem walk_ofG {l : PySem.W.OpenLaw} {n k : Nat} {q : Program} {loose : List Str} {XP : (Str → Option Value) → Heap → Prop} {YP : World → Heap → Prop} {d : DefRec} {x : Str}
    (hn : l.most = some n) (hn2 : n ≤ sizeLine) (hdf : d.params.defaults = []) (hr : Room k callerA)
    (F : ∀ (w : World) (mg : Str → Option Value) (lf : Addr) (h : Heap), YP w h → h.Ns mainGlobals mg → mg d.name = some (.ref lf) →
      ∃ (K : PySem.W.Frag) (fd : FuncData) (W : ON), K.In h ∧ (∀ (s : Shared) (u : Value), BindsTo s fd ⟨[u], []⟩ [(x, u)]) ∧ (∀ ns R, R (.d (.bl true)) → W [.scr ns] R) ∧
        ∀ base : Heap, K.In base → base.Ns mainGlobals mg → FnG l.prog w K mg base k lf fd [x] (spD K W)) :
    PySem.W.WalkO q loose XP YP l.row.toRowW d [] (fun f vs => PySem.call f vs) := by
  refine Att.attach_call hn hdf fun w s₀ s mg mb lf o pm cd doc a us ns G Y ho hd hcd hmg hobj ints' hlen hg => ?_
  obtain ⟨K, fd, W, KX, hb, hW, hF⟩ := F w mg lf _ Y G.T.g hmg
  exact callG KX G.T.g G.T.b G.T.builtins G.T.nolimit hg hobj ints' (Nat.le_trans hlen hn2) hr hF hb hW
end DL
end
section
set_option Elab.async false
set_option linter.all false
set_option maxRecDepth 100000
/-! Data layer: lists beside [], tuple and sorted, three names at once, a list of two taken apart. -/
namespace DL
open PySem PySem.Spec L2

def rEqE (K : PySem.W.Frag) : R2 := fun x y H Q => ∃ a b xs, x = .ref a ∧ y = .ref b ∧ SqL K H a xs ∧ SqL K H b [] ∧ Q (.bl xs.isEmpty) H
def rNeE (K : PySem.W.Frag) : R2 := fun x y H Q => ∃ a b xs, x = .ref a ∧ y = .ref b ∧ SqL K H a xs ∧ SqL K H b [] ∧ Q (.bl (!xs.isEmpty)) H
theorem op_eqE {X : Cx} (hu : X.A.units + 64 < cLine) : OpR X (compareOp .Eq) (rEqE X.K) := by
  intro pins s σ H x y v u Q I rx ry h
  obtain ⟨a, b, xs, rfl, rfl, h1, h2, q⟩ := h
  cases xs with
  | nil => exact op_eqD hu pins s σ H _ _ v u Q I rx ry ⟨.list [], .list [], .lst h1 .nil, .lst h2 .nil, rfl, rfl, q⟩
  | cons z zs =>
    cases rx; cases ry
    obtain ⟨its, r1, pl, _⟩ := I.list h1
    obtain ⟨its2, r2, pl2, _⟩ := I.list h2
    have l1 := r1.length
    have l2 := r2.length
    have hl : s.heap.IsList a its.toArray := by
      obtain ⟨o, m, e, c, d, q⟩ := pl
      exact ⟨o, e, c, m, q⟩
    have hb : s.heap.IsList b its2.toArray := by
      obtain ⟨o, m, e, c, d, q⟩ := pl2
      exact ⟨o, e, c, m, q⟩
    exact PySem.SeqAt.eq_list_lengthsAt hl hb (by simp at l1 l2 ⊢; omega) (by omega) ⟨.bl false, H, I, rfl, q⟩
theorem op_neE {X : Cx} (hu : X.A.units + 64 < cLine) : OpR X (compareOp .NotEq) (rNeE X.K) := by
  intro pins s σ H x y v u Q I rx ry h
  obtain ⟨a, b, xs, rfl, rfl, h1, h2, q⟩ := h
  cases xs with
  | nil => exact op_neD hu pins s σ H _ _ v u Q I rx ry ⟨.list [], .list [], .lst h1 .nil, .lst h2 .nil, rfl, rfl, q⟩
  | cons z zs =>
    cases rx; cases ry
    obtain ⟨its, r1, pl, _⟩ := I.list h1
    obtain ⟨its2, r2, pl2, _⟩ := I.list h2
    have l1 := r1.length
    have l2 := r2.length
    have hl : s.heap.IsList a its.toArray := by
      obtain ⟨o, m, e, c, d, q⟩ := pl
      exact ⟨o, e, c, m, q⟩
    have hb : s.heap.IsList b its2.toArray := by
      obtain ⟨o, m, e, c, d, q⟩ := pl2
      exact ⟨o, e, c, m, q⟩
    exact PySem.SeqAt.RcNeAt.lists_lengths hl hb (by simp at l1 l2 ⊢; omega) (by omega) _ _ _ _ ⟨.bl true, H, I, rfl, q⟩
/-- a list of whatever beside [] -/
def eqE : O2 := fun x y Q => match x, y with
  | .lst xs, .lst [] => Q (.d (.bl xs.isEmpty))
  | _, _ => False
def neE : O2 := fun x y Q => match x, y with
  | .lst xs, .lst [] => Q (.d (.bl (!xs.isEmpty)))
  | _, _ => False
theorem DpL.emp {K : PySem.W.Frag} {F : Hp} {xs : List D} {vs : List V} (h : DpL K F xs vs) : xs.isEmpty = vs.isEmpty := by
  have := h.len
  cases xs <;> cases vs <;> simp_all
theorem od_eqE {K : PySem.W.Frag} : OpD K (rEqE K) eqE := fun F H x y v u R Q s hx hy h k => by
  unfold eqE at h
  split at h
  · obtain ⟨a, vs, rfl, g1, g2⟩ := hx
    obtain ⟨b, us, rfl, g3, g4⟩ := hy
    have e : us = [] := g4
    subst e
    rw [g2.emp] at h
    exact ⟨a, b, vs, rfl, rfl, .inl (.inl (s _ _ g1)), .inl (.inl (s _ _ g3)), k _ _ H F h (Out.pure s rfl)⟩
  · exact h.elim
theorem od_neE {K : PySem.W.Frag} : OpD K (rNeE K) neE := fun F H x y v u R Q s hx hy h k => by
  unfold neE at h
  split at h
  · obtain ⟨a, vs, rfl, g1, g2⟩ := hx
    obtain ⟨b, us, rfl, g3, g4⟩ := hy
    have e : us = [] := g4
    subst e
    rw [g2.emp] at h
    exact ⟨a, b, vs, rfl, rfl, .inl (.inl (s _ _ g1)), .inl (.inl (s _ _ g3)), k _ _ H F h (Out.pure s rfl)⟩
  · exact h.elim

/-! ### tuple, sorted -/
def rTupOf (K : PySem.W.Frag) : List V → Hp → VK → Prop := fun xs H Q => ∃ p ys, xs = [.ref p] ∧ ((SqL K H p ys ∧ ∀ l, H l = none → Q (.ref l) (upd H l (.tup ys))) ∨ (SqT K H p ys ∧ Q (.ref p) H))
theorem cr_tuple {X : Cx} : CallR X (.type "tuple") (rTupOf X.K) := call_tuple_of
def wTuple : ON := fun ds R => match ds with
  | [.lst xs] => R (.d (.tup xs))
  | _ => False
theorem cd_tuple {K : PySem.W.Frag} : CallD K (rTupOf K) wTuple := fun F H xs vs R Q s hd h k => by
  unfold wTuple at h
  split at h
  · obtain ⟨v, rfl, h1⟩ := one_of hd
    obtain ⟨a, us, rfl, g1, g2⟩ := h1
    exact ⟨a, us, rfl, .inl ⟨.inl (.inl (s _ _ g1)), fun l hl => k _ _ _ _ h (Out.newTup s hl g2)⟩⟩
  · exact h.elim
theorem DpL.ints {K : PySem.W.Frag} {F : Hp} : ∀ ns : List Int, DpL K F (ns.map D.int) (ns.map V.int)
  | [] => DpL.nil
  | n :: ns => ⟨_, _, rfl, rfl, DpL.ints ns⟩
def wSorted : ON := fun ds R => match ds with
  | [.lst xs] => asInts xs fun ns => ns.length < 64 ∧ ∀ ms : List Int, ms.Perm ns → ms.Pairwise (· ≤ ·) → R (.o (.lst (ms.map D.int)))
  | _ => False
theorem cr_srt {X : Cx} : CallR X (.builtin "sorted") (rSorted X.K) := cr_sorted
theorem cd_sorted {K : PySem.W.Frag} : CallD K (rSorted K) wSorted := fun F H xs vs R Q s hd h k => by
  unfold wSorted at h
  split at h
  · obtain ⟨v, rfl, h1⟩ := one_of hd
    obtain ⟨a, us, rfl, g1, g2⟩ := h1
    obtain ⟨ns, e, h0, h⟩ := asInts_of h
    have ev := intsOf_vals e g2
    subst ev
    exact ⟨a, ns, rfl, .inl (.inl (s _ _ g1)), h0, fun ms p q1 q2 hp => k _ _ _ _ (h ms q1 q2) (Out.newLst s hp (DpL.ints ms))⟩
  · exact h.elim

/-! ### names -/
def dPar3 (i j l : Nat) (t : ATD) : DTS := fun De ρ => t ρ fun ds ρ1 => ∃ x y z, ds = [x, y, z] ∧ De.nx (((ρ1.set i (some (.d x))).set j (some (.d y))).set l (some (.d z)))
section
variable {X : Cx} {i j l : Nat} {pos : Pos}
theorem ds_par3 {x y z : Str} {a b c : Expr} {t : ATD} {px py pz pt : Pos} {kt k2 pt2} (hc : X.calm = true) (hN : X.N.Nodup) (ha : DA X [a, b, c] t) (hij : i ≠ j) (hil : i ≠ l) (hjl : j ≠ l) (hi : X.N[i]? = some x := by rfl) (hj : X.N[j]? = some y := by rfl) (hl : X.N[l]? = some z := by rfl)
    (hx : X.env.scope.names.lookup x = some .local := by rfl) (hy : X.env.scope.names.lookup y = some .local := by rfl) (hz : X.env.scope.names.lookup z = some .local := by rfl)
    (hw : swappedStores [.Tuple [.Name x px, .Name y py, .Name z pz] kt pt] (.Tuple [a, b, c] k2 pt2) X.env = pure (some [x, y, z]) := by rfl)
    (hs : swapsWithSole [.Tuple [.Name x px, .Name y py, .Name z pz] kt pt] (.Tuple [a, b, c] k2 pt2) pos.line X.env = pure false := by rfl) :
    DS X (.Assign [.Tuple [.Name x px, .Name y py, .Name z pz] kt pt] (.Tuple [a, b, c] k2 pt2) pos) (dPar3 i j l t) := PS.imp (ps_par3 hc hN hi hj hl hij hil hjl hx hy hz ha hw hs) fun D σ H q => by
  obtain ⟨E, ρ, F, De, S, h, C⟩ := q
  refine useA S h fun ds ρ1 vs H1 F1 h1 S1 st1 d1 => ?_
  obtain ⟨x, y, z, rfl, h2⟩ := h1
  obtain ⟨v1, r1, rfl, dx, v2, r2, rfl, dy, v3, r3, rfl, dz, dn⟩ := d1
  have e : r3 = [] := dn
  subst e
  exact ⟨v1, v2, v3, rfl, C.nx _ H1 _ F1 (((S1.put i (r := .d x) dx fun _ _ e => nomatch e).put j (r := .d y) dy fun _ _ e => nomatch e).put l (r := .d z) dz fun _ _ e => nomatch e) st1.frz h2⟩
/-- a, b = a list of two -/
def dUnl2 (i j : Nat) (te : ET) : DTS := fun De ρ => te ρ fun r ρ1 => asLst r.toD fun ds => ∃ x y, ds = [x, y] ∧ De.nx ((ρ1.set i (some (.d x))).set j (some (.d y)))
theorem ds_unl2 {e : Expr} {te : ET} {es : List Expr} {k : Nat} {tpos : Pos} (he : DE X e te) (hc : X.calm = true) (hg : PGs X es (gPats X.K [.nm i, .nm j])) (hn : (assignEach es X.env).length = 2 := by rfl) (hst : (assignEach es X.env).findIdx? (·.1) = none := by rfl)
    (hs : swapsWithSole [.Tuple es k tpos] e pos.line X.env = pure false := by rfl) (hw : swappedStores [.Tuple es k tpos] e X.env = pure none := by rfl)
    (h1 : (assignEach [.Tuple es k tpos] X.env).map (·.2) = [assign (.Tuple es k tpos) X.env] := by rfl) : DS X (.Assign [.Tuple es k tpos] e pos) (dUnl2 i j te) := PS.imp (ps_asg he (pg_unl hc hg hn hst) hs hw h1) fun D σ H q => by
  obtain ⟨E, ρ, F, De, S, h, C⟩ := q
  refine useE S h fun r ρ' v H' F' hr S' st' d => ?_
  obtain ⟨ds, e1, h2⟩ := asLst_of hr
  obtain ⟨x, y, rfl, h3⟩ := h2
  rw [e1] at d
  obtain ⟨a, vs, rfl, g1, g2⟩ := d
  refine ⟨a, vs, rfl, .inl (.inl (S'.sub _ _ g1)), by rw [← g2.len]; rfl, pats_ok [.nm i, .nm j] (ρ := ρ') (R := De.nx) S' g2 h3 fun σ2 ρ2 S2 _ q => C.nx σ2 H' ρ2 F' S2 st'.frz q⟩
end
end DL
end
section
set_option linter.all false
/-! Prices and shares over the rationals. Plain mathematics. -/
namespace K20
def rs : List Rat → Rat
  | [] => 0
  | x :: xs => x + rs xs
theorem rs_append : ∀ xs ys : List Rat, rs (xs ++ ys) = rs xs + rs ys
  | [], ys => by simp only [List.nil_append, rs]; grind
  | x :: xs, ys => by
    have := rs_append xs ys
    simp only [List.cons_append, rs, this]
    grind
theorem mulLe {a b c : Rat} (h : a ≤ b) (hc : 0 ≤ c) : a * c ≤ b * c := Rat.mul_le_mul_of_nonneg_right h hc
theorem mulLt {a b c : Rat} (h : a < b) (hc : 0 < c) : a * c < b * c := Rat.mul_lt_mul_of_pos_right h hc
abbrev Wy := Int × Option Int
def cap (y : Wy) : Rat := match y.2 with
  | none => 0
  | some c => c
def cp (y : Wy) (p : Rat) : Rat := match y.2 with
  | none => (y.1 : Rat) * p
  | some c => if (y.1 : Rat) * p ≤ c then (y.1 : Rat) * p else c
def keep (p : Rat) (y : Wy) : Bool := match y.2 with
  | none => true
  | some c => decide ((y.1 : Rat) * p ≤ c)
def wsum (ws : List Wy) : Int := (ws.map fun y => y.1).sum
def cps (ws : List Wy) (p : Rat) : Rat := rs (ws.map fun y => cp y p)
def caps (ws : List Wy) : Rat := rs (ws.map cap)
def pf : Nat → List Wy → Rat → Option Rat
  | 0, _, _ => none
  | k + 1, ws, left => if ws.isEmpty then none else
    if (ws.filter (keep (left / (wsum ws : Rat)))).length = ws.length then some (left / (wsum ws : Rat)) else
    pf k (ws.filter (keep (left / (wsum ws : Rat)))) (left - caps (ws.filter fun y => !keep (left / (wsum ws : Rat)) y))
theorem rs_split {α : Type} (P : α → Bool) (f : α → Rat) : ∀ ws : List α, rs (ws.map f) = rs ((ws.filter P).map f) + rs ((ws.filter fun y => !P y).map f)
  | [] => by simp only [List.filter_nil, List.map_nil, rs]; grind
  | x :: ws => by
    have ih := rs_split P f ws
    cases h : P x
    · rw [List.filter_cons_of_neg (by simp [h]), List.filter_cons_of_pos (by simp [h])]
      simp only [List.map_cons, rs]
      grind
    · rw [List.filter_cons_of_pos h, List.filter_cons_of_neg (by simp [h])]
      simp only [List.map_cons, rs]
      grind
theorem rs_le {α : Type} {f g : α → Rat} : ∀ {ws : List α}, (∀ y ∈ ws, f y ≤ g y) → rs (ws.map f) ≤ rs (ws.map g)
  | [], _ => by simp only [List.map_nil, rs]; exact Rat.le_refl
  | x :: ws, h => by
    have ih := rs_le (f := f) (g := g) (ws := ws) fun y m => h y (List.mem_cons_of_mem _ m)
    have := h x List.mem_cons_self
    simp only [List.map_cons, rs]
    grind
theorem rs_lt {α : Type} {f g : α → Rat} : ∀ {ws : List α}, (∀ y ∈ ws, f y ≤ g y) → (∃ y ∈ ws, f y < g y) → rs (ws.map f) < rs (ws.map g)
  | [], _, ⟨y, m, _⟩ => by cases m
  | x :: ws, h, ⟨y, m, hy⟩ => by
    have hx := h x List.mem_cons_self
    have hr : ∀ y ∈ ws, f y ≤ g y := fun y m => h y (List.mem_cons_of_mem _ m)
    simp only [List.map_cons, rs]
    rcases List.mem_cons.mp m with rfl | m
    · have := rs_le hr
      grind
    · have := rs_lt hr ⟨y, m, hy⟩
      grind
theorem rs_congr {α : Type} {f g : α → Rat} {ws : List α} (h : ∀ y ∈ ws, f y = g y) : rs (ws.map f) = rs (ws.map g) := by
  rw [List.map_congr_left h]
/-- sums of what is not more come to the same: each is the same -/
theorem rs_eq {α : Type} {f g : α → Rat} {ws : List α} (h : ∀ y ∈ ws, f y ≤ g y) (e : rs (ws.map f) = rs (ws.map g)) : ∀ y ∈ ws, f y = g y := fun y m => by
  rcases Rat.le_iff_lt_or_eq.mp (h y m) with q | q
  · have := rs_lt h ⟨y, m, q⟩
    grind
  · exact q
theorem wsum_rat : ∀ (ws : List Wy) (p : Rat), rs (ws.map fun y => (y.1 : Rat) * p) = (wsum ws : Rat) * p
  | [], p => by simp [rs, wsum]
  | x :: ws, p => by
    have ih := wsum_rat ws p
    have e : wsum (x :: ws) = x.1 + wsum ws := by simp [wsum]
    simp only [List.map_cons, rs, ih, e]
    push_cast
    grind
theorem wsum_pos : ∀ {ws : List Wy}, (∀ y ∈ ws, 0 < y.1) → ws ≠ [] → 0 < wsum ws
  | [x], h, _ => by have := h x (by simp); simpa [wsum] using this
  | x :: y :: ws, h, _ => by
    have a := h x List.mem_cons_self
    have b := wsum_pos (ws := y :: ws) (fun z m => h z (List.mem_cons_of_mem _ m)) (by simp)
    simp only [wsum, List.map_cons, List.sum_cons] at b ⊢
    omega
structure OkW (ws : List Wy) : Prop where
  w : ∀ y ∈ ws, 0 < y.1
  c : ∀ y ∈ ws, ∀ c, y.2 = some c → 0 ≤ c
theorem OkW.filter {ws : List Wy} (h : OkW ws) (P : Wy → Bool) : OkW (ws.filter P) := ⟨fun y m => h.w y ((List.mem_filter.mp m).1), fun y m => h.c y ((List.mem_filter.mp m).1)⟩
theorem cp_le_w {y : Wy} {p : Rat} : cp y p ≤ (y.1 : Rat) * p := by
  unfold cp
  split
  · exact Rat.le_refl
  · split
    · exact Rat.le_refl
    · grind
theorem cp_keep {y : Wy} {p : Rat} (h : keep p y = true) : cp y p = (y.1 : Rat) * p := by
  unfold keep at h
  unfold cp
  split at h
  · rename_i e; simp only [e]
  · rename_i e; simp only [decide_eq_true_eq] at h; simp [e, h]
theorem cp_le_cap {y : Wy} {p q : Rat} (h : keep p y = false) : cp y q ≤ cap y := by
  unfold keep at h
  split at h
  · cases h
  · rename_i c e
    unfold cp cap
    rw [e]
    simp only
    split <;> grind
theorem ratpos {w : Int} (h : 0 < w) : (0 : Rat) < (w : Rat) := by exact_mod_cast h
theorem ratnn {w : Int} (h : 0 ≤ w) : (0 : Rat) ≤ (w : Rat) := by exact_mod_cast h
theorem cp_cap {y : Wy} {p q : Rat} (h0 : 0 < y.1) (h : keep p y = false) (hq : p ≤ q) : cp y q = cap y := by
  unfold keep at h
  split at h
  · cases h
  · rename_i c e
    have := mulLe hq (Rat.le_of_lt (ratpos h0))
    unfold cp cap
    rw [e]
    simp only [decide_eq_false_iff_not] at h ⊢
    rw [if_neg (by grind)]
theorem cap_lt {y : Wy} {p : Rat} (h : keep p y = false) : cap y < (y.1 : Rat) * p := by
  unfold keep at h
  split at h
  · cases h
  · rename_i c e
    unfold cap
    rw [e]
    simp only [decide_eq_false_iff_not] at h ⊢
    grind
theorem cps_split (p q : Rat) (ws : List Wy) : cps ws q = cps (ws.filter (keep p)) q + cps (ws.filter fun y => !keep p y) q := rs_split _ _ ws
theorem caps_split (p : Rat) (ws : List Wy) : caps ws = caps (ws.filter (keep p)) + caps (ws.filter fun y => !keep p y) := rs_split _ _ ws
theorem wsum_split (p : Rat) (ws : List Wy) : (wsum ws : Rat) * p = (wsum (ws.filter (keep p)) : Rat) * p + (wsum (ws.filter fun y => !keep p y) : Rat) * p := by
  rw [← wsum_rat, ← wsum_rat, ← wsum_rat]; exact rs_split _ _ ws
/-- the step -/
theorem pf_step {ws : List Wy} {left : Rat} (h : OkW ws) (h0 : 0 < left) (hne : ws ≠ []) : 0 < left / (wsum ws : Rat) ∧ left / (wsum ws : Rat) * (wsum ws : Rat) = left := by
  have hw := ratpos (wsum_pos h.w hne)
  constructor
  · rw [Rat.div_def]
    exact Rat.mul_pos h0 (Rat.inv_pos.mpr hw)
  · grind
theorem drop_lt {ws : List Wy} {p : Rat} : caps (ws.filter fun y => !keep p y) ≤ (wsum (ws.filter fun y => !keep p y) : Rat) * p ∧ ((ws.filter (keep p)).length ≠ ws.length → caps (ws.filter fun y => !keep p y) < (wsum (ws.filter fun y => !keep p y) : Rat) * p) := by
  have hm : ∀ y ∈ ws.filter (fun y => !keep p y), cap y < (y.1 : Rat) * p := fun y m => cap_lt (by simpa using (List.mem_filter.mp m).2)
  rw [← wsum_rat]
  refine ⟨rs_le fun y m => Rat.le_of_lt (hm y m), fun q => ?_⟩
  have : ∃ y ∈ ws, keep p y = false := by
    by_cases e : ∃ y ∈ ws, keep p y = false
    · exact e
    · exfalso
      apply q
      rw [List.filter_eq_self.mpr fun y m => ?_]
      cases hk : keep p y
      · exact absurd ⟨y, m, hk⟩ e
      · rfl
  obtain ⟨y, m, hy⟩ := this
  have m' : y ∈ ws.filter (fun y => !keep p y) := List.mem_filter.mpr ⟨m, by simp [hy]⟩
  exact rs_lt (fun y m => Rat.le_of_lt (hm y m)) ⟨y, m', hm y m'⟩
theorem all_keep {ws : List Wy} {p : Rat} (e : (ws.filter (keep p)).length = ws.length) : ∀ y ∈ ws, keep p y = true := List.length_filter_eq_length_iff.mp e
theorem left_pos {ws : List Wy} {left : Rat} (h : OkW ws) (h0 : 0 < left) (hne : ws ≠ []) : (wsum (ws.filter (keep (left / (wsum ws : Rat)))) : Rat) * (left / (wsum ws : Rat)) ≤ left - caps (ws.filter fun y => !keep (left / (wsum ws : Rat)) y) ∧ ((ws.filter (keep (left / (wsum ws : Rat)))).length ≠ ws.length → 0 < left - caps (ws.filter fun y => !keep (left / (wsum ws : Rat)) y)) := by
  obtain ⟨p0, pe⟩ := pf_step h h0 hne
  generalize left / (wsum ws : Rat) = p at *
  have a := wsum_split p ws
  obtain ⟨b, c⟩ := drop_lt (ws := ws) (p := p)
  refine ⟨by grind, fun q => ?_⟩
  have d := c q
  have e : (0 : Rat) ≤ (wsum (ws.filter (keep p)) : Rat) * p := by
    refine Rat.mul_nonneg ?_ (Rat.le_of_lt p0)
    by_cases z : ws.filter (keep p) = []
    · rw [z]; exact Rat.le_refl
    · exact Rat.le_of_lt (ratpos (wsum_pos (h.filter _).w z))
  grind
theorem pf_some : ∀ {k : Nat} {ws : List Wy} {left p : Rat}, OkW ws → 0 < left → pf k ws left = some p → 0 < p ∧ left ≤ (wsum ws : Rat) * p ∧ cps ws p = left ∧ ∀ q, 0 ≤ q → q < p → cps ws q < left
  | 0, _, _, _, _, _, e => by cases e
  | k + 1, ws, left, p, h, h0, e => by
    unfold pf at e
    split at e
    · cases e
    rename_i hne
    have hne : ws ≠ [] := by simpa using hne
    obtain ⟨p0, pe⟩ := pf_step h h0 hne
    obtain ⟨l1, l2⟩ := left_pos h h0 hne
    have hw := ratpos (wsum_pos h.w hne)
    generalize left / (wsum ws : Rat) = p1 at *
    split at e
    · rename_i hk
      cases e
      have hk := all_keep hk
      have ee : cps ws p = (wsum ws : Rat) * p := by rw [← wsum_rat]; exact rs_congr fun y m => cp_keep (hk y m)
      refine ⟨p0, by grind, by grind, fun q q0 q1 => ?_⟩
      have a : cps ws q ≤ (wsum ws : Rat) * q := by rw [← wsum_rat]; exact rs_le fun y _ => cp_le_w
      have b := mulLt q1 hw
      grind
    · rename_i hk
      have lp := l2 hk
      obtain ⟨a, b, c, d⟩ := pf_some (h.filter _) lp e
      have hst : ws.filter (keep p1) ≠ [] := by
        intro z
        rw [z] at e
        unfold pf at e
        cases k <;> simp at e
      have w' := ratpos (wsum_pos (h.filter (keep p1)).w hst)
      have hp : p1 ≤ p := by
        apply Rat.not_lt.mp
        intro z
        have := mulLt z w'
        grind
      have dd : cps (ws.filter fun y => !keep p1 y) p = caps (ws.filter fun y => !keep p1 y) := rs_congr fun y m => cp_cap (h.w y ((List.mem_filter.mp m).1)) (by simpa using (List.mem_filter.mp m).2) hp
      have s1 := cps_split p1 p ws
      refine ⟨a, ?_, by grind, fun q q0 q1 => ?_⟩
      · have := mulLe hp (Rat.le_of_lt hw)
        grind
      · have z := d q q0 q1
        have s2 := cps_split p1 q ws
        have : cps (ws.filter fun y => !keep p1 y) q ≤ caps (ws.filter fun y => !keep p1 y) := rs_le fun y m => cp_le_cap (by simpa using (List.mem_filter.mp m).2)
        grind
theorem pf_none : ∀ {k : Nat} {ws : List Wy} {left : Rat}, OkW ws → 0 < left → ws.length < k → pf k ws left = none → (∀ y ∈ ws, y.2 ≠ none) ∧ caps ws < left
  | 0, _, _, _, _, hl, e => by omega
  | k + 1, ws, left, h, h0, hl, e => by
    unfold pf at e
    split at e
    · rename_i hz
      have hz : ws = [] := by simpa using hz
      subst hz
      exact ⟨by simp, h0⟩
    rename_i hne
    have hne : ws ≠ [] := by simpa using hne
    obtain ⟨p0, pe⟩ := pf_step h h0 hne
    obtain ⟨l1, l2⟩ := left_pos h h0 hne
    generalize left / (wsum ws : Rat) = p1 at *
    split at e
    · cases e
    · rename_i hk
      have hlt : (ws.filter (keep p1)).length < ws.length := Nat.lt_of_le_of_ne (List.length_filter_le _ _) hk
      obtain ⟨a, b⟩ := pf_none (h.filter _) (l2 hk) (by omega) e
      have s := caps_split p1 ws
      refine ⟨fun y m => ?_, by grind⟩
      cases hy : keep p1 y with
      | true => exact a y (List.mem_filter.mpr ⟨m, hy⟩)
      | false =>
        intro z
        unfold keep at hy
        rw [z] at hy
        cases hy
end K20
end
section
set_option linter.all false
namespace K20
structure Pt where
  b : Int
  l : Int
  g : Option Int
  w : Int
  s : Int
structure OkP (p : Pt) : Prop where
  l0 : 0 ≤ p.l
  lb : p.l ≤ p.b
  b1 : p.b ≤ 1000000000000
  bg : ∀ g, p.g = some g → p.b ≤ g ∧ g ≤ 1000000000000
  w0 : 0 ≤ p.w
  w1 : p.w ≤ 1000
  s0 : 0 ≤ p.s
  s1 : p.s ≤ 1000
def sizeP (p : Pt) (x : Rat) : Rat :=
  if x < 0 then (if (p.b : Rat) + (p.s : Rat) * x < (p.l : Rat) then (p.l : Rat) else (p.b : Rat) + (p.s : Rat) * x)
  else match p.g with
    | none => (p.b : Rat) + (p.w : Rat) * x
    | some g => if (g : Rat) < (p.b : Rat) + (p.w : Rat) * x then (g : Rat) else (p.b : Rat) + (p.w : Rat) * x
def bases (ps : List Pt) : Int := (ps.map fun p => p.b).sum
def upY (p : Pt) : Wy := (p.w, match p.g with | none => none | some g => some (g - p.b))
def dnY (p : Pt) : Wy := (p.s, some (p.b - p.l))
def free (ws : List Wy) : List Wy := ws.filter fun y => decide (0 < y.1)
theorem free_pos {y : Wy} {ws : List Wy} (h : 0 < y.1) : free (y :: ws) = y :: free ws := List.filter_cons_of_pos (decide_eq_true h)
theorem free_neg {y : Wy} {ws : List Wy} (h : ¬ 0 < y.1) : free (y :: ws) = free ws := List.filter_cons_of_neg (by simpa using h)
def priceFor (ws : List Wy) (a : Rat) : Option Rat := pf (ws.length + 1) (free ws) a
def priceO (ps : List Pt) (room : Rat) : Option Rat :=
  if room - (bases ps : Rat) = 0 then some 0 else
  if room - (bases ps : Rat) < 0 then (match priceFor (ps.map dnY) (-(room - (bases ps : Rat))) with | none => none | some p => some (-p))
  else priceFor (ps.map upY) (room - (bases ps : Rat))
def endP (p : Pt) (up : Bool) : Option Int := if up then (if 0 < p.w then p.g else some p.b) else if 0 < p.s then some p.l else some p.b
def endR (p : Pt) (up : Bool) : Rat := match endP p up with | none => 0 | some e => (e : Rat)
/-- what each part comes to -/
def fl (ps : List Pt) (room : Rat) : Pt → Rat := match priceO ps room with
  | some x => fun q => sizeP q x
  | none => fun q => endR q (decide ((bases ps : Rat) < room))
theorem ri {a b : Int} : (a : Rat) ≤ (b : Rat) ↔ a ≤ b := Rat.intCast_le_intCast
theorem rlt {a b : Int} : (a : Rat) < (b : Rat) ↔ a < b := Rat.intCast_lt_intCast
theorem OkP.rl {p : Pt} (h : OkP p) : (p.l : Rat) ≤ (p.b : Rat) := ri.mpr h.lb
theorem OkP.rg {p : Pt} (h : OkP p) {g : Int} (e : p.g = some g) : (p.b : Rat) ≤ (g : Rat) := ri.mpr (h.bg g e).1
theorem OkP.rw0 {p : Pt} (h : OkP p) : (0 : Rat) ≤ (p.w : Rat) := ratnn h.w0
theorem OkP.rs0 {p : Pt} (h : OkP p) : (0 : Rat) ≤ (p.s : Rat) := ratnn h.s0
theorem mulMono {w a b : Rat} (hw : 0 ≤ w) (h : a ≤ b) : w * a ≤ w * b := Rat.mul_le_mul_of_nonneg_left h hw
theorem sizeP_up {p : Pt} (h : OkP p) {x : Rat} (hx : 0 ≤ x) : sizeP p x = (p.b : Rat) + (if 0 < p.w then cp (upY p) x else 0) := by
  have hn : ¬ x < 0 := by grind
  unfold sizeP
  rw [if_neg hn]
  unfold upY cp
  have hw := h.rw0
  have hwx : 0 ≤ (p.w : Rat) * x := Rat.mul_nonneg hw hx
  cases hg : p.g with
  | none =>
    simp only
    split
    · rfl
    · have : p.w = 0 := by have := h.w0; omega
      rw [this]; grind
  | some g =>
    have hb := h.rg hg
    simp only
    have e : ((g - p.b : Int) : Rat) = (g : Rat) - (p.b : Rat) := by push_cast; rfl
    rw [e]
    by_cases q : 0 < p.w
    · rw [if_pos q]
      split <;> split <;> grind
    · rw [if_neg q]
      have : p.w = 0 := by have := h.w0; omega
      rw [this]; split <;> grind
theorem sizeP_dn {p : Pt} (h : OkP p) {x : Rat} (hx : 0 ≤ x) : sizeP p (-x) = (p.b : Rat) - (if 0 < p.s then cp (dnY p) x else 0) := by
  have hw := h.rs0
  have hl := h.rl
  by_cases x0 : x = 0
  · subst x0
    rw [show (-0 : Rat) = 0 by grind, sizeP_up h (by exact Rat.le_refl)]
    have e : ((p.b - p.l : Int) : Rat) = (p.b : Rat) - (p.l : Rat) := by push_cast; rfl
    have a : cp (upY p) 0 = 0 := by
      unfold cp upY
      cases hg : p.g with
      | none => simp only; grind
      | some g =>
        have hb := h.rg hg
        have e2 : ((g - p.b : Int) : Rat) = (g : Rat) - (p.b : Rat) := by push_cast; rfl
        simp only [e2]; split <;> grind
    have b : cp (dnY p) 0 = 0 := by
      unfold cp dnY
      simp only [e]; split <;> grind
    rw [a, b]
    split <;> split <;> grind
  · have hn : -x < 0 := by grind
    unfold sizeP
    rw [if_pos hn]
    unfold dnY cp
    simp only
    have e : ((p.b - p.l : Int) : Rat) = (p.b : Rat) - (p.l : Rat) := by push_cast; rfl
    rw [e]
    by_cases q : 0 < p.s
    · rw [if_pos q]
      split <;> split <;> grind
    · rw [if_neg q]
      have : p.s = 0 := by have := h.s0; omega
      rw [this]; split <;> grind
theorem bases_cons (p : Pt) (ps : List Pt) : (bases (p :: ps) : Rat) = (p.b : Rat) + (bases ps : Rat) := by
  have : bases (p :: ps) = p.b + bases ps := by simp [bases]
  rw [this]; push_cast; rfl
theorem up_sum {x : Rat} (hx : 0 ≤ x) : ∀ {ps : List Pt}, (∀ p ∈ ps, OkP p) → rs (ps.map fun p => sizeP p x) = (bases ps : Rat) + cps (free (ps.map upY)) x
  | [], _ => by simp only [bases, free, cps, List.map_nil, List.filter_nil, rs, List.sum_nil]; exact (Rat.add_zero _).symm
  | p :: ps, h => by
    have ih := up_sum hx (ps := ps) fun q m => h q (List.mem_cons_of_mem _ m)
    have hp := sizeP_up (h p List.mem_cons_self) hx
    rw [bases_cons]
    simp only [List.map_cons, rs, ih, hp]
    by_cases q : 0 < p.w
    · rw [if_pos q, free_pos (y := upY p) q]
      simp only [cps, List.map_cons, rs]
      grind
    · rw [if_neg q, free_neg (y := upY p) q]
      grind
theorem dn_sum {x : Rat} (hx : 0 ≤ x) : ∀ {ps : List Pt}, (∀ p ∈ ps, OkP p) → rs (ps.map fun p => sizeP p (-x)) = (bases ps : Rat) - cps (free (ps.map dnY)) x
  | [], _ => by simp only [bases, free, cps, List.map_nil, List.filter_nil, rs, List.sum_nil]; grind
  | p :: ps, h => by
    have ih := dn_sum hx (ps := ps) fun q m => h q (List.mem_cons_of_mem _ m)
    have hp := sizeP_dn (h p List.mem_cons_self) hx
    rw [bases_cons]
    simp only [List.map_cons, rs, ih, hp]
    by_cases q : 0 < p.s
    · rw [if_pos q, free_pos (y := dnY p) q]
      simp only [cps, List.map_cons, rs]
      grind
    · rw [if_neg q, free_neg (y := dnY p) q]
      grind
theorem okUp {ps : List Pt} (h : ∀ p ∈ ps, OkP p) : OkW (free (ps.map upY)) := by
  refine ⟨fun y m => by simpa using (List.mem_filter.mp m).2, fun y m c hc => ?_⟩
  obtain ⟨p, hp, rfl⟩ := List.mem_map.mp (List.mem_filter.mp m).1
  unfold upY at hc
  cases hg : p.g with
  | none => rw [hg] at hc; cases hc
  | some g =>
    rw [hg] at hc
    have := ((h p hp).bg g hg).1
    cases hc; omega
theorem okDn {ps : List Pt} (h : ∀ p ∈ ps, OkP p) : OkW (free (ps.map dnY)) := by
  refine ⟨fun y m => by simpa using (List.mem_filter.mp m).2, fun y m c hc => ?_⟩
  obtain ⟨p, hp, rfl⟩ := List.mem_map.mp (List.mem_filter.mp m).1
  have := (h p hp).lb
  cases hc; omega
theorem up_ends : ∀ {ps : List Pt}, (∀ y ∈ free (ps.map upY), y.2 ≠ none) → (∀ p ∈ ps, endP p true ≠ none) ∧ rs (ps.map fun p => endR p true) = (bases ps : Rat) + caps (free (ps.map upY))
  | [], _ => ⟨by simp, by simp only [bases, free, caps, List.map_nil, List.filter_nil, rs, List.sum_nil]; exact (Rat.add_zero _).symm⟩
  | p :: ps, h => by
    rw [bases_cons]
    by_cases q : 0 < p.w
    · rw [List.map_cons, free_pos (y := upY p) q] at h
      rw [List.map_cons, List.map_cons, free_pos (y := upY p) q]
      obtain ⟨a, b⟩ := up_ends (ps := ps) fun y m => h y (List.mem_cons_of_mem _ m)
      have c := h _ List.mem_cons_self
      cases hg : p.g with
      | none => unfold upY at c; rw [hg] at c; exact absurd rfl c
      | some g =>
        have e : endP p true = some g := by simp [endP, q, hg]
        refine ⟨fun z m => ?_, ?_⟩
        · rcases List.mem_cons.mp m with rfl | m
          · rw [e]; simp
          · exact a z m
        · have e2 : ((g - p.b : Int) : Rat) = (g : Rat) - (p.b : Rat) := by push_cast; rfl
          simp only [caps, List.map_cons, rs, b, endR, e, cap, upY, hg, e2] at b ⊢
          grind
    · rw [List.map_cons, free_neg (y := upY p) q] at h
      rw [List.map_cons, List.map_cons, free_neg (y := upY p) q]
      obtain ⟨a, b⟩ := up_ends (ps := ps) h
      have e : endP p true = some p.b := by simp [endP, q]
      refine ⟨fun z m => ?_, ?_⟩
      · rcases List.mem_cons.mp m with rfl | m
        · rw [e]; simp
        · exact a z m
      · simp only [List.map_cons, rs, b, endR, e] at b ⊢
        grind
theorem dn_ends : ∀ {ps : List Pt}, rs (ps.map fun p => endR p false) = (bases ps : Rat) - caps (free (ps.map dnY))
  | [] => by simp only [bases, free, caps, List.map_nil, List.filter_nil, rs, List.sum_nil]; grind
  | p :: ps => by
    rw [bases_cons]
    have ih := dn_ends (ps := ps)
    by_cases q : 0 < p.s
    · rw [List.map_cons, List.map_cons, free_pos (y := dnY p) q]
      have e : endP p false = some p.l := by simp [endP, q]
      have e2 : ((p.b - p.l : Int) : Rat) = (p.b : Rat) - (p.l : Rat) := by push_cast; rfl
      simp only [caps, List.map_cons, rs, endR, e, cap, dnY, e2] at ih ⊢
      rw [ih]
      grind
    · rw [List.map_cons, List.map_cons, free_neg (y := dnY p) q]
      have e : endP p false = some p.b := by simp [endP, q]
      simp only [caps, List.map_cons, rs, endR, e] at ih ⊢
      rw [ih]
      grind
theorem endP_dn (p : Pt) : endP p false ≠ none := by unfold endP; simp; split <;> simp
structure Priced (ps : List Pt) (room x : Rat) : Prop where
  sum : rs (ps.map fun p => sizeP p x) = room
  zero : (bases ps : Rat) = room → x = 0
  up : (bases ps : Rat) < room → 0 < x ∧ ∀ q, 0 ≤ q → q < x → rs (ps.map fun p => sizeP p q) < room
  dn : room < (bases ps : Rat) → x < 0 ∧ ∀ q, q ≤ 0 → x < q → room < rs (ps.map fun p => sizeP p q)
theorem free_len (ws : List Wy) : (free ws).length < ws.length + 1 := Nat.lt_succ_of_le (List.length_filter_le _ _)
theorem zero_sum {ps : List Pt} (h : ∀ p ∈ ps, OkP p) : rs (ps.map fun p => sizeP p 0) = (bases ps : Rat) := by
  have a : ∀ p ∈ ps, sizeP p 0 = (p.b : Rat) := fun p m => by
    have hx := sizeP_up (h p m) (x := 0) Rat.le_refl
    have a : cp (upY p) 0 = 0 := by
      unfold cp upY
      cases hg : p.g with
      | none => simp only; grind
      | some g =>
        have hb := (h p m).rg hg
        have e2 : ((g - p.b : Int) : Rat) = (g : Rat) - (p.b : Rat) := by push_cast; rfl
        simp only [e2]; split <;> grind
    rw [hx, a]; split <;> grind
  rw [rs_congr a]
  clear a h
  induction ps with
  | nil => rfl
  | cons p ps ih => rw [bases_cons, List.map_cons, rs, ih]
theorem priceO_some {ps : List Pt} {room x : Rat} (h : ∀ p ∈ ps, OkP p) (e : priceO ps room = some x) : Priced ps room x := by
  unfold priceO at e
  split at e
  · cases e
    refine ⟨by rw [zero_sum h]; grind, fun _ => rfl, fun _ => by grind, fun _ => by grind⟩
  split at e
  · cases he : priceFor (ps.map dnY) (-(room - (bases ps : Rat))) with
    | none => rw [he] at e; cases e
    | some p =>
      rw [he] at e
      cases e
      obtain ⟨a, b, c, d⟩ := pf_some (okDn h) (by grind) he
      refine ⟨?_, fun _ => by grind, fun _ => by grind, fun _ => ⟨by grind, fun q q0 q1 => ?_⟩⟩
      · rw [dn_sum (Rat.le_of_lt a) h, c]; grind
      · have z := d (-q) (by grind) (by grind)
        have z2 := dn_sum (x := -q) (by grind) h
        rw [show (- -q) = q by grind] at z2
        rw [z2]; grind
  · obtain ⟨a, b, c, d⟩ := pf_some (okUp h) (by grind) e
    refine ⟨?_, fun _ => by grind, fun _ => ⟨a, fun q q0 q1 => ?_⟩, fun _ => by grind⟩
    · rw [up_sum (Rat.le_of_lt a) h, c]; grind
    · have z := d q q0 q1
      rw [up_sum q0 h]; grind
structure Ended (ps : List Pt) (room : Rat) (u : Bool) : Prop where
  all : ∀ p ∈ ps, endP p u ≠ none
  up : u = true → (bases ps : Rat) < room ∧ rs (ps.map fun p => endR p true) < room
  dn : u = false → room < (bases ps : Rat) ∧ room < rs (ps.map fun p => endR p false)
theorem priceO_none {ps : List Pt} {room : Rat} (h : ∀ p ∈ ps, OkP p) (e : priceO ps room = none) : Ended ps room (decide ((bases ps : Rat) < room)) := by
  unfold priceO at e
  split at e
  · cases e
  split at e
  · have hd : decide ((bases ps : Rat) < room) = false := by rw [decide_eq_false_iff_not]; grind
    rw [hd]
    cases he : priceFor (ps.map dnY) (-(room - (bases ps : Rat))) with
    | some p => rw [he] at e; cases e
    | none =>
      obtain ⟨a, b⟩ := pf_none (okDn h) (by grind) (free_len _) he
      have := dn_ends (ps := ps)
      exact ⟨fun p _ => endP_dn p, fun z => by simp at z, fun _ => ⟨by grind, by grind⟩⟩
  · have hd : decide ((bases ps : Rat) < room) = true := by rw [decide_eq_true_eq]; grind
    rw [hd]
    obtain ⟨a, b⟩ := pf_none (okUp h) (by grind) (free_len _) e
    obtain ⟨c, d⟩ := up_ends a
    exact ⟨c, fun _ => ⟨by grind, by grind⟩, fun z => by simp at z⟩
end K20
end
section
set_option linter.all false
namespace K20
theorem sizeP_mono {p : Pt} (h : OkP p) {x y : Rat} (hxy : x ≤ y) : sizeP p x ≤ sizeP p y := by
  have a1 := mulMono h.rw0 hxy
  have a2 := mulMono h.rs0 hxy
  have hl := h.rl
  unfold sizeP
  by_cases x0 : x < 0
  · have b1 : (p.s : Rat) * x ≤ (p.s : Rat) * 0 := mulMono h.rs0 (Rat.le_of_lt x0)
    rw [if_pos x0]
    by_cases y0 : y < 0
    · rw [if_pos y0]
      split <;> split <;> grind
    · rw [if_neg y0]
      have b2 : (p.w : Rat) * 0 ≤ (p.w : Rat) * y := mulMono h.rw0 (by grind)
      cases hg : p.g with
      | none => simp only; split <;> grind
      | some g =>
        have := h.rg hg
        simp only
        split <;> split <;> grind
  · have y0 : ¬ y < 0 := by grind
    rw [if_neg x0, if_neg y0]
    cases hg : p.g with
    | none => simp only; grind
    | some g => simp only; split <;> split <;> grind
theorem endR_dn {p : Pt} (h : OkP p) (x : Rat) : endR p false ≤ sizeP p x := by
  have hl := h.rl
  have hs := h.rs0
  by_cases x0 : x < 0
  · have e := sizeP_dn h (x := -x) (by grind)
    rw [show (- -x) = x by grind] at e
    rw [e]
    unfold endR endP
    simp only [Bool.false_eq_true, if_false]
    by_cases z : 0 < p.s
    · have e2 : ((p.b - p.l : Int) : Rat) = (p.b : Rat) - (p.l : Rat) := by push_cast; rfl
      have : cp (dnY p) (-x) ≤ (p.b : Rat) - (p.l : Rat) := by
        unfold cp dnY
        simp only [e2]
        split <;> grind
      rw [if_pos z, if_pos z]
      simp only
      grind
    · rw [if_neg z, if_neg z]
      simp only; grind
  · have b2 : (p.w : Rat) * 0 ≤ (p.w : Rat) * x := mulMono h.rw0 (by grind)
    have a : (p.b : Rat) ≤ sizeP p x := by
      unfold sizeP
      rw [if_neg x0]
      cases hg : p.g with
      | none => simp only; grind
      | some g =>
        have := h.rg hg
        simp only
        split <;> grind
    unfold endR endP
    simp only [Bool.false_eq_true, if_false]
    split <;> grind
theorem endR_up {p : Pt} (h : OkP p) (he : endP p true ≠ none) (x : Rat) : sizeP p x ≤ endR p true := by
  have hl := h.rl
  by_cases x0 : x < 0
  · have b1 : (p.s : Rat) * x ≤ (p.s : Rat) * 0 := mulMono h.rs0 (Rat.le_of_lt x0)
    have a : sizeP p x ≤ (p.b : Rat) := by
      unfold sizeP
      rw [if_pos x0]
      split <;> grind
    unfold endR endP at *
    simp only [if_true] at *
    split at he
    · cases hg : p.g with
      | none => exact absurd hg he
      | some g => rename_i q; have := h.rg hg; rw [if_pos q]; simp only; grind
    · rename_i q; rw [if_neg q]; simp only; grind
  · unfold endR endP at *
    simp only [if_true] at *
    split at he
    · rename_i q
      rw [if_pos q]
      cases hg : p.g with
      | none => exact absurd hg he
      | some g =>
        unfold sizeP
        rw [if_neg x0, hg]
        simp only
        split <;> grind
    · rename_i q
      rw [if_neg q, sizeP_up h (by grind), if_neg q]
      simp only; grind
theorem end_le {p : Pt} (h : OkP p) (he : endP p true ≠ none) : endR p false ≤ endR p true := Rat.le_trans (endR_dn h 0) (endR_up h he 0)
/-- what some come to stands in the row of all that parts may come to -/
structure Fit (qs : List Pt) (f : Pt → Rat) : Prop where
  lo : ∀ q ∈ qs, endR q false ≤ f q
  hi : ∀ q ∈ qs, endP q true ≠ none → f q ≤ endR q true
  ch : ∀ x, (∀ q ∈ qs, sizeP q x ≤ f q) ∨ ∀ q ∈ qs, f q ≤ sizeP q x
theorem Fit.sub {ps qs : List Pt} {f : Pt → Rat} (h : Fit ps f) (s : ∀ q ∈ qs, q ∈ ps) : Fit qs f :=
  ⟨fun q m => h.lo q (s q m), fun q m => h.hi q (s q m), fun x => (h.ch x).imp (fun a q m => a q (s q m)) fun a q m => a q (s q m)⟩
theorem fit_size {ps : List Pt} (h : ∀ p ∈ ps, OkP p) (x : Rat) : Fit ps fun q => sizeP q x :=
  ⟨fun q m => endR_dn (h q m) x, fun q m e => endR_up (h q m) e x, fun y => (Rat.le_total (a := x) (b := y)).elim (fun z => .inr fun q m => sizeP_mono (h q m) z) fun z => .inl fun q m => sizeP_mono (h q m) z⟩
theorem fit_up {ps : List Pt} (h : ∀ p ∈ ps, OkP p) (e : ∀ p ∈ ps, endP p true ≠ none) : Fit ps fun q => endR q true :=
  ⟨fun q m => end_le (h q m) (e q m), fun q m _ => Rat.le_refl, fun y => .inl fun q m => endR_up (h q m) (e q m) y⟩
theorem fit_dn {ps : List Pt} (h : ∀ p ∈ ps, OkP p) : Fit ps fun q => endR q false :=
  ⟨fun q m => Rat.le_refl, fun q m e => end_le (h q m) e, fun y => .inr fun q m => endR_dn (h q m) y⟩
theorem fit_fl {ps : List Pt} (h : ∀ p ∈ ps, OkP p) (room : Rat) : Fit ps (fl ps room) := by
  unfold fl
  cases e : priceO ps room with
  | some x => exact fit_size h x
  | none =>
    have a := priceO_none h e
    simp only
    cases hu : decide ((bases ps : Rat) < room) with
    | true => rw [hu] at a; exact fit_up h a.all
    | false => exact fit_dn h
/-- some of the parts share what they have as they had it -/
theorem some_share {qs : List Pt} {f : Pt → Rat} (h : ∀ p ∈ qs, OkP p) (hf : Fit qs f) : ∃ x, priceO qs (rs (qs.map f)) = some x ∧ ∀ q ∈ qs, sizeP q x = f q := by
  cases e : priceO qs (rs (qs.map f)) with
  | none =>
    have a := priceO_none h e
    exfalso
    cases hu : decide ((bases qs : Rat) < rs (qs.map f)) with
    | true =>
      rw [hu] at a
      have := rs_le (f := f) (g := fun q => endR q true) (ws := qs) fun q m => hf.hi q m (a.all q m)
      have := (a.up rfl).2
      grind
    | false =>
      rw [hu] at a
      have := rs_le (g := f) (f := fun q => endR q false) (ws := qs) fun q m => hf.lo q m
      have := (a.dn rfl).2
      grind
  | some x =>
    have a := (priceO_some h e).sum
    refine ⟨x, rfl, ?_⟩
    rcases hf.ch x with c | c
    · exact rs_eq c a
    · exact fun q m => (rs_eq c a.symm q m).symm
theorem fl_some {ps : List Pt} {room x : Rat} (e : priceO ps room = some x) : fl ps room = fun q => sizeP q x := by unfold fl; rw [e]
theorem fl_none {ps : List Pt} {room : Rat} (e : priceO ps room = none) : fl ps room = fun q => endR q (decide ((bases ps : Rat) < room)) := by unfold fl; rw [e]
/-- with more room no size is less -/
theorem fl_mono {ps : List Pt} (h : ∀ p ∈ ps, OkP p) {r t : Rat} (hrt : r ≤ t) : ∀ q ∈ ps, fl ps r q ≤ fl ps t q := by
  have Fr := fit_fl h r
  have Ft := fit_fl h t
  cases er : priceO ps r with
  | none =>
    have a := priceO_none h er
    rw [fl_none er] at *
    cases hu : decide ((bases ps : Rat) < r) with
    | false => intro q m; exact Ft.lo q m
    | true =>
      rw [hu] at a
      have b := a.up rfl
      cases et : priceO ps t with
      | none =>
        rw [fl_none et] at *
        have : decide ((bases ps : Rat) < t) = true := by rw [decide_eq_true_eq]; grind
        rw [this]
        intro q m
        exact Rat.le_refl
      | some x =>
        have c := (priceO_some h et).sum
        have d := rs_le (f := fun q => sizeP q x) (g := fun q => endR q true) (ws := ps) fun q m => endR_up (h q m) (a.all q m) x
        exfalso
        grind
  | some x =>
    have a := (priceO_some h er).sum
    rw [fl_some er] at *
    cases et : priceO ps t with
    | none =>
      have b := priceO_none h et
      rw [fl_none et] at *
      cases hu : decide ((bases ps : Rat) < t) with
      | true => rw [hu] at b; intro q m; exact endR_up (h q m) (b.all q m) x
      | false =>
        rw [hu] at b
        have c := (b.dn rfl).2
        have d := rs_le (g := fun q => sizeP q x) (f := fun q => endR q false) (ws := ps) fun q m => endR_dn (h q m) x
        exfalso
        grind
    | some y =>
      have b := (priceO_some h et).sum
      rw [fl_some et] at *
      rcases Rat.le_total (a := x) (b := y) with z | z
      · exact fun q m => sizeP_mono (h q m) z
      · have c := rs_le (f := fun q => sizeP q y) (g := fun q => sizeP q x) (ws := ps) fun q m => sizeP_mono (h q m) z
        have d : rs (ps.map fun q => sizeP q y) = rs (ps.map fun q => sizeP q x) := by grind
        intro q m
        have := rs_eq (f := fun q => sizeP q y) (g := fun q => sizeP q x) (ws := ps) (fun q m => sizeP_mono (h q m) z) d q m
        simp only [this]
        exact Rat.le_refl
theorem price_mono {ps : List Pt} (h : ∀ p ∈ ps, OkP p) {r t x y : Rat} (hrt : r ≤ t) (er : priceO ps r = some x) (et : priceO ps t = some y) : x ≤ y := by
  apply Rat.not_lt.mp
  intro z
  have a := (priceO_some h er).sum
  have b := (priceO_some h et).sum
  have c := rs_le (f := fun q => sizeP q y) (g := fun q => sizeP q x) (ws := ps) fun q m => sizeP_mono (h q m) (Rat.le_of_lt z)
  have e : r = t := by grind
  subst e
  rw [er] at et
  cases et
  exact absurd z Rat.lt_irrefl
/-! ### so many of one part -/
theorem rs_rep (f : Pt → Rat) (q : Pt) : ∀ n : Nat, rs ((List.replicate n q).map f) = (n : Rat) * f q
  | 0 => by simp only [List.replicate, List.map_nil, rs]; grind
  | n + 1 => by
    simp only [List.replicate, List.map_cons, rs, rs_rep f q n]
    push_cast
    grind
def blankS (q : Pt) (space : Rat) (n : Nat) : Rat := match endP q true with
  | none => space / (n : Rat)
  | some m => if (n : Rat) * (m : Rat) < space then (m : Rat) else space / (n : Rat)
theorem run_size {q : Pt} (h : OkP q) {space : Rat} {n : Nat} (hn : 0 < n) (hl : (n : Rat) * endR q false ≤ space) : fl (List.replicate n q) space q = blankS q space n := by
  have hp : ∀ p ∈ List.replicate n q, OkP p := fun p m => by rw [List.eq_of_mem_replicate m]; exact h
  have hm : q ∈ List.replicate n q := by simp; omega
  have n0 : (0 : Rat) < (n : Rat) := by exact_mod_cast hn
  cases e : priceO (List.replicate n q) space with
  | some x =>
    have a := (priceO_some hp e).sum
    rw [rs_rep] at a
    rw [fl_some e]
    have b : sizeP q x = space / (n : Rat) := by grind
    unfold blankS
    cases he : endP q true with
    | none => exact b
    | some m =>
      have c := endR_up h (by rw [he]; simp) x
      have d : endR q true = (m : Rat) := by unfold endR; rw [he]
      rw [d] at c
      have := mulMono (Rat.le_of_lt n0) c
      simp only
      rw [if_neg (by grind)]
      exact b
  | none =>
    have a := priceO_none hp e
    rw [fl_none e]
    cases hu : decide ((bases (List.replicate n q) : Rat) < space) with
    | false =>
      rw [hu] at a
      have b := (a.dn rfl).2
      rw [rs_rep] at b
      exfalso
      grind
    | true =>
      rw [hu] at a
      have b := (a.up rfl).2
      rw [rs_rep] at b
      have c := a.all q hm
      unfold blankS
      cases he : endP q true with
      | none => exact absurd he c
      | some m =>
        have d : endR q true = (m : Rat) := by unfold endR; rw [he]
        simp only
        rw [d] at b ⊢
        rw [if_pos b]
/-! ### strain -/
def strainP (p : Pt) (x : Rat) : Option Rat :=
  if x - (p.b : Rat) = 0 then some 0
  else if x - (p.b : Rat) < 0 then (if x < (p.l : Rat) ∨ p.s = 0 then none else some ((x - p.b) * (x - p.b) / (p.s : Rat)))
  else if (∃ g, p.g = some g ∧ (g : Rat) < x) ∨ p.w = 0 then none else some ((x - p.b) * (x - p.b) / (p.w : Rat))
theorem strain_ok {p : Pt} (h : OkP p) {x : Rat} (lo : endR p false ≤ x) (hi : endP p true ≠ none → x ≤ endR p true) : ∃ t, strainP p x = some t := by
  unfold strainP
  split
  · exact ⟨_, rfl⟩
  split
  · rename_i a b
    have : ¬ (x < (p.l : Rat) ∨ p.s = 0) := by
      unfold endR endP at lo
      simp only [Bool.false_eq_true, if_false] at lo
      by_cases z : 0 < p.s
      · rw [if_pos z] at lo
        simp only at lo
        rintro (y | y)
        · grind
        · omega
      · rw [if_neg z] at lo
        simp only at lo
        intro _
        grind
    rw [if_neg this]
    exact ⟨_, rfl⟩
  · rename_i a b
    have : ¬ ((∃ g, p.g = some g ∧ (g : Rat) < x) ∨ p.w = 0) := by
      unfold endR endP at hi
      simp only [if_true] at hi
      by_cases z : 0 < p.w
      · rw [if_pos z] at hi
        rintro (⟨g, hg, y⟩ | y)
        · rw [hg] at hi
          have := hi (by simp)
          simp only at this
          grind
        · omega
      · rw [if_neg z] at hi
        have := hi (by simp)
        simp only at this
        intro _
        grind
    rw [if_neg this]
    exact ⟨_, rfl⟩
end K20
end
section
set_option linter.all false
set_option exponentiation.threshold 20000
set_option maxRecDepth 100000
namespace K20
/-! ### fractions in lowest terms -/
def frac (t b : Int) : Int × Int := (t / (Nat.gcd t.natAbs b.natAbs : Nat), b / (Nat.gcd t.natAbs b.natAbs : Nat))
def nf (x : Rat) : Int × Int := (x.num, (x.den : Int))
theorem den_pos (x : Rat) : (0 : Int) < (x.den : Int) := by have := x.den_pos; omega
theorem denR (x : Rat) : (0 : Rat) < ((x.den : Int) : Rat) := ratpos (den_pos x)
theorem num_eq (x : Rat) : (x.num : Rat) = x * ((x.den : Int) : Rat) := by
  have h := denR x
  have e := Rat.divInt_eq_div x.num (x.den : Int)
  rw [Rat.num_divInt_den] at e
  generalize ((x.den : Int) : Rat) = d at *
  generalize (x.num : Rat) = n at *
  grind
theorem mk_eq (t : Int) {b : Int} (hb : 0 < b) : (t : Rat) / (b : Rat) = mkRat t b.natAbs := by
  have e : b = (b.natAbs : Int) := by omega
  have := Rat.divInt_eq_div t b
  rw [← this, e, Rat.divInt_ofNat]
  rfl
theorem frac_rat {t b : Int} (hb : 0 < b) : frac t b = nf ((t : Rat) / (b : Rat)) := by
  rw [mk_eq t hb]
  unfold nf frac
  rw [Rat.num_mkRat, Rat.den_mkRat, if_neg (by omega), if_neg (by omega), Nat.gcd_comm]
  refine Prod.ext rfl ?_
  show b / _ = _
  push_cast
  congr 1
  omega
theorem nf_inj {x y : Rat} (h : nf x = nf y) : x = y := by
  have h1 := congrArg Prod.fst h
  have h2 := congrArg Prod.snd h
  simp only [nf] at h1 h2
  exact Rat.ext h1 (by omega)
theorem nf_int (i : Int) : nf (i : Rat) = (i, 1) := rfl
theorem nf_gcd (x : Rat) : Nat.gcd x.num.natAbs x.den = 1 := x.reduced
theorem floor_eq (x : Rat) : x.num / (x.den : Int) = x.floor := by
  unfold Rat.floor
  split
  · rename_i h; rw [h]; exact Int.ediv_one _
  · rfl
theorem lt_num (x y : Rat) : (x.num * (y.den : Int) < y.num * (x.den : Int)) ↔ x < y := (Rat.lt_iff x y).symm
theorem num_pos (x : Rat) : 0 < x.num ↔ 0 < x := by
  have := Rat.lt_iff 0 x
  rw [this]
  show 0 < x.num ↔ 0 * _ < x.num * 1
  omega
theorem num_neg (x : Rat) : x.num < 0 ↔ x < 0 := by
  have := Rat.lt_iff x 0
  rw [this]
  show x.num < 0 ↔ x.num * 1 < 0 * _
  omega
theorem num_zero (x : Rat) : x.num = 0 ↔ x = 0 := Rat.num_eq_zero
theorem plus_rat (x y : Rat) : (((x.num * (y.den : Int) + y.num * (x.den : Int) : Int)) : Rat) / ((((x.den : Int) * (y.den : Int) : Int)) : Rat) = x + y := by
  simp only [Rat.intCast_mul, Rat.intCast_add, Rat.intCast_sub]
  have h1 := num_eq x
  have h2 := num_eq y
  have h3 := denR x
  have h4 := denR y
  rw [h1, h2]
  generalize ((x.den : Int) : Rat) = a at *
  generalize ((y.den : Int) : Rat) = b at *
  have hz := Rat.mul_pos h3 h4
  grind
theorem minus_rat (x y : Rat) : (((x.num * (y.den : Int) - y.num * (x.den : Int) : Int)) : Rat) / ((((x.den : Int) * (y.den : Int) : Int)) : Rat) = x - y := by
  simp only [Rat.intCast_mul, Rat.intCast_add, Rat.intCast_sub]
  have h1 := num_eq x
  have h2 := num_eq y
  have h3 := denR x
  have h4 := denR y
  rw [h1, h2]
  generalize ((x.den : Int) : Rat) = a at *
  generalize ((y.den : Int) : Rat) = b at *
  have hz := Rat.mul_pos h3 h4
  grind
theorem times_rat (x y : Rat) : (((x.num * y.num : Int)) : Rat) / ((((x.den : Int) * (y.den : Int) : Int)) : Rat) = x * y := by
  simp only [Rat.intCast_mul, Rat.intCast_add, Rat.intCast_sub]
  have h1 := num_eq x
  have h2 := num_eq y
  have h3 := denR x
  have h4 := denR y
  rw [h1, h2]
  generalize ((x.den : Int) : Rat) = a at *
  generalize ((y.den : Int) : Rat) = b at *
  have hz := Rat.mul_pos h3 h4
  grind
theorem aff_rat (b w : Int) (x : Rat) : (((b * (x.den : Int) + w * x.num : Int)) : Rat) / (((x.den : Int)) : Rat) = (b : Rat) + (w : Rat) * x := by
  simp only [Rat.intCast_mul, Rat.intCast_add, Rat.intCast_sub]
  have h1 := num_eq x
  have h3 := denR x
  rw [h1]
  generalize ((x.den : Int) : Rat) = a at *
  clear h1
  grind
theorem over_rat (x : Rat) {w : Int} (hw : 0 < w) : ((x.num : Int) : Rat) / ((((x.den : Int) * w : Int)) : Rat) = x / (w : Rat) := by
  simp only [Rat.intCast_mul, Rat.intCast_add, Rat.intCast_sub]
  have h1 := num_eq x
  have h3 := denR x
  have h4 := ratpos hw
  rw [h1]
  generalize ((x.den : Int) : Rat) = a at *
  clear h1
  have hz := Rat.mul_pos h3 h4
  grind
theorem sq_rat (x : Rat) {w : Int} (hw : 0 < w) : ((x.num * x.num : Int) : Rat) / ((((x.den : Int) * (x.den : Int) * w : Int)) : Rat) = x * x / (w : Rat) := by
  simp only [Rat.intCast_mul, Rat.intCast_add, Rat.intCast_sub]
  have h1 := num_eq x
  have h3 := denR x
  have h4 := ratpos hw
  rw [h1]
  generalize ((x.den : Int) : Rat) = a at *
  clear h1
  have hz := Rat.mul_pos (Rat.mul_pos h3 h3) h4
  grind
theorem neg_nf (x : Rat) : nf (-x) = (-x.num, (x.den : Int)) := by
  unfold nf
  rw [Rat.neg_num, Rat.neg_den]
/-! ### how great -/
theorem den_le (t : Int) {b : Int} (hb : 0 < b) : (((t : Rat) / (b : Rat)).den : Int) ≤ b := by
  rw [mk_eq t hb, Rat.den_mkRat, if_neg (by omega)]
  have := Nat.div_le_self b.natAbs (b.natAbs.gcd t.natAbs)
  omega
theorem den_add (x y : Rat) : (x + y).den ≤ x.den * y.den := by
  have := den_le (x.num * (y.den : Int) + y.num * (x.den : Int)) (Int.mul_pos (den_pos x) (den_pos y))
  rw [plus_rat] at this
  exact_mod_cast this
theorem den_sub (x y : Rat) : (x - y).den ≤ x.den * y.den := by
  have := den_le (x.num * (y.den : Int) - y.num * (x.den : Int)) (Int.mul_pos (den_pos x) (den_pos y))
  rw [minus_rat] at this
  exact_mod_cast this
theorem den_mul (x y : Rat) : (x * y).den ≤ x.den * y.den := by
  have := den_le (x.num * y.num) (Int.mul_pos (den_pos x) (den_pos y))
  rw [times_rat] at this
  exact_mod_cast this
theorem den_aff (b w : Int) (x : Rat) : ((b : Rat) + (w : Rat) * x).den ≤ x.den := by
  have := den_le (b * (x.den : Int) + w * x.num) (den_pos x)
  rw [aff_rat] at this
  exact_mod_cast this
theorem den_over (x : Rat) {w : Int} (hw : 0 < w) : ((x / (w : Rat)).den : Int) ≤ (x.den : Int) * w := by
  have := den_le x.num (Int.mul_pos (den_pos x) hw)
  rwa [over_rat x hw] at this
theorem den_sq (x : Rat) {w : Int} (hw : 0 < w) : ((x * x / (w : Rat)).den : Int) ≤ (x.den : Int) * (x.den : Int) * w := by
  have := den_le (x.num * x.num) (Int.mul_pos (Int.mul_pos (den_pos x) (den_pos x)) hw)
  rwa [sq_rat x hw] at this
/-- bottom at most 2 ^ d, between - 2 ^ v and 2 ^ v -/
structure Bn (d v : Nat) (x : Rat) : Prop where
  d : x.den ≤ 2 ^ d
  lo : -((2 ^ v : Nat) : Rat) ≤ x
  hi : x ≤ ((2 ^ v : Nat) : Rat)
theorem pow_le {a b : Nat} (h : a ≤ b) : ((2 ^ a : Nat) : Rat) ≤ ((2 ^ b : Nat) : Rat) := by exact_mod_cast Nat.pow_le_pow_right (by decide) h
theorem Bn.mono {d v e u : Nat} {x : Rat} (h : Bn d v x) (hd : d ≤ e) (hv : v ≤ u) : Bn e u x := by
  have := pow_le hv
  exact ⟨Nat.le_trans h.d (Nat.pow_le_pow_right (by decide) hd), by have := h.lo; grind, by have := h.hi; grind⟩
theorem Bn.int {v : Nat} {i : Int} (h : i.natAbs ≤ 2 ^ v) : Bn 0 v (i : Rat) := by
  have h1 : -(((2 ^ v : Nat) : Int)) ≤ i := by omega
  have h2 : i ≤ ((2 ^ v : Nat) : Int) := by omega
  refine ⟨Nat.le_refl _, ?_, ?_⟩
  · have := ri.mpr h1; push_cast at this; push_cast; exact this
  · have := ri.mpr h2; push_cast at this; push_cast; exact this
theorem pow_two (v : Nat) : ((2 ^ (v + 1) : Nat) : Rat) = ((2 ^ v : Nat) : Rat) + ((2 ^ v : Nat) : Rat) := by
  rw [Nat.pow_succ, Nat.mul_two]; push_cast; rfl
theorem Bn.add {d v e : Nat} {x y : Rat} (h : Bn d v x) (g : Bn e v y) : Bn (d + e) (v + 1) (x + y) := by
  refine ⟨Nat.le_trans (den_add x y) ?_, ?_, ?_⟩
  · rw [Nat.pow_add]; exact Nat.mul_le_mul h.d g.d
  · rw [pow_two]; have := h.lo; have := g.lo; grind
  · rw [pow_two]; have := h.hi; have := g.hi; grind
theorem Bn.neg {d v : Nat} {x : Rat} (h : Bn d v x) : Bn d v (-x) := by
  refine ⟨by rw [Rat.neg_den]; exact h.d, ?_, ?_⟩
  · have := h.hi; grind
  · have := h.lo; grind
theorem Bn.sub {d v e : Nat} {x y : Rat} (h : Bn d v x) (g : Bn e v y) : Bn (d + e) (v + 1) (x - y) := by
  rw [Rat.sub_eq_add_neg]; exact h.add g.neg
/-- fit for the steps with fractions -/
def wee (x : Rat) : Prop := x.den < 2 ^ 3500 ∧ x.num.natAbs < 2 ^ 7000
theorem Bn.num {d v : Nat} {x : Rat} (h : Bn d v x) : x.num.natAbs ≤ 2 ^ (d + v) := by
  have h1 := num_eq x
  have h2 := denR x
  have lo := h.lo
  have hi := h.hi
  have a1 : (x.num : Rat) ≤ ((2 ^ v : Nat) : Rat) * ((x.den : Int) : Rat) := by rw [h1]; exact mulLe hi (Rat.le_of_lt h2)
  have a2 : -((2 ^ v : Nat) : Rat) * ((x.den : Int) : Rat) ≤ (x.num : Rat) := by rw [h1]; exact mulLe lo (Rat.le_of_lt h2)
  have b1 : x.num ≤ ((2 ^ v : Nat) : Int) * (x.den : Int) := by apply ri.mp; push_cast at a1 ⊢; exact a1
  have b2 : -((2 ^ v : Nat) : Int) * (x.den : Int) ≤ x.num := by apply ri.mp; push_cast at a2 ⊢; exact a2
  have c : 2 ^ v * x.den ≤ 2 ^ v * 2 ^ d := Nat.mul_le_mul_left _ h.d
  rw [← Nat.pow_add, Nat.add_comm v d] at c
  have e1 : ((2 ^ v * x.den : Nat) : Int) = ((2 ^ v : Nat) : Int) * (x.den : Int) := by push_cast; rfl
  rw [← e1] at b1
  rw [Int.neg_mul, ← e1] at b2
  omega
theorem Bn.wee {d v : Nat} {x : Rat} (h : Bn d v x) (hd : d < 3500) (hv : v < 3500) : wee x := by
  refine ⟨Nat.lt_of_le_of_lt h.d (Nat.pow_lt_pow_right (by decide) hd), Nat.lt_of_le_of_lt h.num (Nat.pow_lt_pow_right (by decide) (by omega))⟩
theorem Bn.aff {d v : Nat} {b w : Int} {x : Rat} (h : Bn d v x) (hb : b.natAbs ≤ 2 ^ 41) (h0 : 0 ≤ w) (h1 : w ≤ 1000) (hv : 41 ≤ v) : Bn d (v + 11) ((b : Rat) + (w : Rat) * x) := by
  have w0 := ratnn h0
  have w1 : (w : Rat) ≤ 1000 := by have := ri.mpr h1; exact_mod_cast this
  have B := Bn.int hb
  have B2 := pow_le hv
  have V0 : (0 : Rat) ≤ ((2 ^ v : Nat) : Rat) := by exact_mod_cast Nat.zero_le _
  have m1 : (w : Rat) * x ≤ 1000 * ((2 ^ v : Nat) : Rat) := Rat.le_trans (mulMono w0 h.hi) (mulLe w1 V0)
  have m2 : (w : Rat) * (-x) ≤ 1000 * ((2 ^ v : Nat) : Rat) := Rat.le_trans (mulMono w0 (by have := h.lo; grind)) (mulLe w1 V0)
  have e : ((2 ^ (v + 11) : Nat) : Rat) = 2048 * ((2 ^ v : Nat) : Rat) := by rw [Nat.pow_add]; push_cast; grind
  have lo := B.lo
  have hi := B.hi
  refine ⟨Nat.le_trans (den_aff b w x) h.d, ?_, ?_⟩
  · rw [e]; grind
  · rw [e]; grind
theorem rs_bn {d v : Nat} : ∀ {k : Nat} {xs : List Rat}, (∀ x ∈ xs, Bn d v x) → xs.length ≤ k → Bn (d * k) (v + k) (rs xs)
  | k, [], _, _ => by
    have := Bn.int (v := 0) (i := 0) (by decide)
    exact this.mono (by omega) (by omega)
  | 0, x :: xs, _, h => by simp at h
  | k + 1, x :: xs, h, hl => by
    have a := rs_bn (k := k) (xs := xs) (fun y m => h y (List.mem_cons_of_mem _ m)) (by simpa using hl)
    have b := h x List.mem_cons_self
    have c := (b.mono (Nat.le_refl d) (show v ≤ v + k by omega)).add a
    exact c.mono (by rw [Nat.mul_succ]; omega) (by omega)
end K20
end
section
set_option linter.all false
set_option exponentiation.threshold 20000
set_option maxRecDepth 100000
namespace K20
def capsI (ws : List Wy) : Int := (ws.map fun y => match y.2 with | none => 0 | some c => c).sum
theorem caps_int : ∀ ws : List Wy, caps ws = (capsI ws : Rat)
  | [] => rfl
  | y :: ws => by
    have ih := caps_int ws
    unfold caps capsI at *
    simp only [List.map_cons, rs, List.sum_cons, Rat.intCast_add, ih]
    congr 1
    unfold cap
    cases y.2 <;> rfl
theorem capsI_nn : ∀ {ws : List Wy}, OkW ws → 0 ≤ capsI ws
  | [], _ => Int.le_refl _
  | y :: ws, h => by
    have ih := capsI_nn (ws := ws) ⟨fun z m => h.w z (List.mem_cons_of_mem _ m), fun z m => h.c z (List.mem_cons_of_mem _ m)⟩
    have := h.c y List.mem_cons_self
    unfold capsI at *
    simp only [List.map_cons, List.sum_cons]
    cases hy : y.2 with
    | none => simp only; omega
    | some c => have := this c hy; simp only; omega
theorem wsum_le : ∀ {ws : List Wy}, (∀ y ∈ ws, y.1 ≤ 1000) → wsum ws ≤ ws.length * 1000
  | [], _ => by simp [wsum]
  | y :: ws, h => by
    have ih := wsum_le (ws := ws) fun z m => h z (List.mem_cons_of_mem _ m)
    have := h y List.mem_cons_self
    unfold wsum at *
    simp only [List.map_cons, List.sum_cons, List.length_cons]
    push_cast
    omega
theorem den_sub_int (x : Rat) (i : Int) : (x - (i : Rat)).den ≤ x.den := by
  have := den_sub x (i : Rat)
  have e : ((i : Rat)).den = 1 := rfl
  rw [e] at this
  omega
theorem pf_bnd : ∀ {k : Nat} {ws : List Wy} {left p : Rat}, OkW ws → 0 < left → (∀ y ∈ ws, y.1 ≤ 1000) → ws.length ≤ 60 → pf k ws left = some p → 0 < p ∧ p ≤ left ∧ p.den ≤ left.den * 60000
  | 0, _, _, _, _, _, _, _, e => by cases e
  | k + 1, ws, left, p, h, h0, h1, h2, e => by
    unfold pf at e
    split at e
    · cases e
    rename_i hne
    have hne : ws ≠ [] := by simpa using hne
    obtain ⟨p0, pe⟩ := pf_step h h0 hne
    obtain ⟨l1, l2⟩ := left_pos h h0 hne
    have hw := wsum_pos h.w hne
    have hwl := wsum_le h1
    have hwr : (1 : Rat) ≤ (wsum ws : Rat) := by have := ri.mpr (show 1 ≤ wsum ws by omega); exact_mod_cast this
    have dn := den_over left hw
    split at e
    · cases e
      refine ⟨p0, ?_, ?_⟩
      · have := mulMono (Rat.le_of_lt p0) hwr
        grind
      · have : (left.den : Int) * wsum ws ≤ (left.den : Int) * 60000 := Int.mul_le_mul_of_nonneg_left (by omega) (by omega)
        omega
    · rename_i hk
      have lp := l2 hk
      have f := List.length_filter_le (keep (left / (wsum ws : Rat))) ws
      obtain ⟨a, b, c⟩ := pf_bnd (h.filter _) lp (fun y m => h1 y (List.mem_filter.mp m).1) (by omega) e
      rw [caps_int] at b c
      have d := den_sub_int left (capsI (ws.filter fun y => !keep (left / (wsum ws : Rat)) y))
      have nn := ratnn (capsI_nn (h.filter fun y => !keep (left / (wsum ws : Rat)) y))
      refine ⟨a, by grind, ?_⟩
      exact Nat.le_trans c (Nat.mul_le_mul_right _ d)
theorem bases_bnd : ∀ {ps : List Pt}, (∀ p ∈ ps, OkP p) → 0 ≤ bases ps ∧ bases ps ≤ ps.length * 1000000000000
  | [], _ => by simp [bases]
  | p :: ps, h => by
    have ih := bases_bnd (ps := ps) fun q m => h q (List.mem_cons_of_mem _ m)
    have hp := h p List.mem_cons_self
    have := hp.l0; have := hp.lb; have := hp.b1
    unfold bases at *
    simp only [List.map_cons, List.sum_cons, List.length_cons]
    push_cast
    omega
theorem sub_int_bn {d : Nat} {x : Rat} {i : Int} (h : Bn d 50 x) (hi : i.natAbs ≤ 2 ^ 50) : Bn d 51 (x - (i : Rat)) := by
  have := h.sub (Bn.int hi)
  exact ⟨by have := this.d; rwa [Nat.add_zero] at this, this.lo, this.hi⟩
theorem price_bn {ps : List Pt} (h : ∀ p ∈ ps, OkP p) (hl : ps.length ≤ 60) {d : Nat} {room x : Rat} (hr : Bn d 50 room) (e : priceO ps room = some x) : Bn (d + 16) 51 x := by
  have hb := bases_bnd h
  have hm := sub_int_bn hr (i := bases ps) (by have : (ps.length : Int) * 1000000000000 ≤ 60 * 1000000000000 := by omega
                                               omega)
  have key : ∀ (ws : List Wy) (a p : Rat), Bn d 51 a → OkW (free ws) → 0 < a → (∀ y ∈ ws, y.1 ≤ 1000) → ws.length ≤ 60 → priceFor ws a = some p → Bn (d + 16) 51 p := by
    intro ws a p ha hw h0 h1 h2 e
    have f : (free ws).length ≤ ws.length := List.length_filter_le _ _
    obtain ⟨z1, z2, z3⟩ := pf_bnd hw h0 (fun y m => h1 y (List.mem_filter.mp m).1) (by omega) e
    refine ⟨?_, ?_, ?_⟩
    · rw [Nat.pow_add]
      exact Nat.le_trans z3 (Nat.mul_le_mul ha.d (by decide))
    · have : (0 : Rat) ≤ ((2 ^ 51 : Nat) : Rat) := by exact_mod_cast Nat.zero_le _
      grind
    · have := ha.hi; grind
  unfold priceO at e
  split at e
  · cases e
    exact (Bn.int (v := 0) (i := 0) (by decide)).mono (by omega) (by omega)
  split at e
  · cases he : priceFor (ps.map dnY) (-(room - (bases ps : Rat))) with
    | none => rw [he] at e; cases e
    | some p =>
      rw [he] at e
      cases e
      refine (key _ _ _ hm.neg (okDn h) (by grind) ?_ (by simpa using hl) he).neg
      intro y m
      obtain ⟨p, hp, rfl⟩ := List.mem_map.mp m
      exact (h p hp).s1
  · refine key _ _ _ hm (okUp h) (by grind) ?_ (by simpa using hl) e
    intro y m
    obtain ⟨p, hp, rfl⟩ := List.mem_map.mp m
    exact (h p hp).w1
theorem size_bn {p : Pt} (h : OkP p) {d : Nat} {x : Rat} (hx : Bn d 51 x) : Bn d 62 (sizeP p x) := by
  have l0 := h.l0; have lb := h.lb; have b1 := h.b1
  have hl : Bn d 62 (p.l : Rat) := (Bn.int (v := 62) (by omega)).mono (by omega) (by omega)
  have a1 : Bn d 62 ((p.b : Rat) + (p.s : Rat) * x) := hx.aff (by omega) h.s0 h.s1 (by omega)
  have a2 : Bn d 62 ((p.b : Rat) + (p.w : Rat) * x) := hx.aff (by omega) h.w0 h.w1 (by omega)
  unfold sizeP
  split
  · split
    · exact hl
    · exact a1
  · cases hg : p.g with
    | none => exact a2
    | some g =>
      have := h.bg g hg
      simp only
      split
      · exact (Bn.int (v := 62) (by omega)).mono (by omega) (by omega)
      · exact a2
theorem endP_bnd {p : Pt} (h : OkP p) {u : Bool} {e : Int} (he : endP p u = some e) : 0 ≤ e ∧ e ≤ 1000000000000 := by
  have l0 := h.l0; have lb := h.lb; have b1 := h.b1
  unfold endP at he
  split at he
  · split at he
    · have := h.bg e he; omega
    · cases he; omega
  · split at he
    · cases he; omega
    · cases he; omega
theorem endR_bn {p : Pt} (h : OkP p) (u : Bool) : Bn 0 62 (endR p u) := by
  unfold endR
  cases he : endP p u with
  | none => exact Bn.int (i := 0) (by decide)
  | some e =>
    have := endP_bnd h he
    exact Bn.int (by omega)
theorem fl_bn {ps : List Pt} (h : ∀ p ∈ ps, OkP p) (hl : ps.length ≤ 60) {d : Nat} {room : Rat} (hr : Bn d 50 room) : ∀ p ∈ ps, Bn (d + 16) 62 (fl ps room p) := by
  intro p m
  unfold fl
  cases e : priceO ps room with
  | some x => exact size_bn (h p m) (price_bn h hl hr e)
  | none => exact (endR_bn (h p m) _).mono (by omega) (by omega)
theorem fl_nn {ps : List Pt} (h : ∀ p ∈ ps, OkP p) (room : Rat) : ∀ p ∈ ps, 0 ≤ fl ps room p := by
  intro p m
  have a := (fit_fl h room).lo p m
  have b : 0 ≤ endR p false := by
    unfold endR
    cases he : endP p false with
    | none => exact Rat.le_refl
    | some e => exact ratnn (endP_bnd (h p m) he).1
  exact Rat.le_trans b a
theorem rs_nn {α : Type} {f : α → Rat} : ∀ {ws : List α}, (∀ y ∈ ws, 0 ≤ f y) → 0 ≤ rs (ws.map f)
  | [], _ => Rat.le_refl
  | x :: ws, h => by
    have ih := rs_nn (f := f) (ws := ws) fun y m => h y (List.mem_cons_of_mem _ m)
    have := h x List.mem_cons_self
    simp only [List.map_cons, rs]
    grind
theorem strain_bn {p : Pt} (h : OkP p) {d : Nat} {x t : Rat} (hx : Bn d 62 x) (e : strainP p x = some t) : t.den ≤ 2 ^ (2 * d + 10) ∧ 0 ≤ t ∧ t ≤ ((2 ^ 126 : Nat) : Rat) := by
  have l0 := h.l0; have lb := h.lb; have b1 := h.b1
  have hb : Bn 0 62 (p.b : Rat) := Bn.int (by omega)
  have hd : Bn d 63 (x - (p.b : Rat)) := by have := hx.sub hb; exact ⟨by have := this.d; rwa [Nat.add_zero] at this, this.lo, this.hi⟩
  have key : ∀ w : Int, 0 < w → w ≤ 1000 → ((x - (p.b : Rat)) * (x - (p.b : Rat)) / (w : Rat)).den ≤ 2 ^ (2 * d + 10) ∧ 0 ≤ (x - (p.b : Rat)) * (x - (p.b : Rat)) / (w : Rat) ∧ (x - (p.b : Rat)) * (x - (p.b : Rat)) / (w : Rat) ≤ ((2 ^ 126 : Nat) : Rat) := by
    intro w w0 w1
    generalize hy : x - (p.b : Rat) = y at *
    have dn := den_sq y w0
    have dd := hd.d
    refine ⟨?_, ?_, ?_⟩
    · have e1 : (y.den : Int) * y.den * w ≤ ((2 ^ d * 2 ^ d * 1000 : Nat) : Int) := by
        have z1 : y.den * y.den ≤ 2 ^ d * 2 ^ d := Nat.mul_le_mul dd dd
        have z2 : (y.den : Int) * y.den ≤ ((2 ^ d * 2 ^ d : Nat) : Int) := by exact_mod_cast z1
        have := Int.mul_le_mul z2 w1 (by omega) (by omega)
        push_cast at this ⊢
        exact this
      have e2 : 2 ^ d * 2 ^ d * 1000 ≤ 2 ^ (2 * d + 10) := by
        rw [Nat.pow_add, Nat.two_mul, Nat.pow_add]
        exact Nat.mul_le_mul_left _ (by decide)
      omega
    · have wr := ratpos w0
      have sq : 0 ≤ y * y := by
        rcases Rat.le_total (a := 0) (b := y) with z | z
        · exact Rat.mul_nonneg z z
        · have := Rat.mul_nonneg (a := -y) (b := -y) (by grind) (by grind)
          grind
      have e : y * y / (w : Rat) * (w : Rat) = y * y := by grind
      apply Rat.not_lt.mp
      intro z
      have := mulLt z wr
      grind
    · have wr := ratpos w0
      have w1r : (1 : Rat) ≤ (w : Rat) := by have := ri.mpr (show 1 ≤ w by omega); exact_mod_cast this
      have e : y * y / (w : Rat) * (w : Rat) = y * y := by grind
      have lo := hd.lo
      have hi := hd.hi
      have V : ((2 ^ 126 : Nat) : Rat) = ((2 ^ 63 : Nat) : Rat) * ((2 ^ 63 : Nat) : Rat) := by
        rw [← Rat.natCast_mul, ← Nat.pow_add]
      have V0 : (0 : Rat) ≤ ((2 ^ 63 : Nat) : Rat) := by exact_mod_cast Nat.zero_le _
      have sq : y * y ≤ ((2 ^ 126 : Nat) : Rat) := by
        rw [V]
        generalize ((2 ^ 63 : Nat) : Rat) = v at *
        have := Rat.mul_nonneg (a := v - y) (b := v + y) (by grind) (by grind)
        grind
      generalize hq : y * y / (w : Rat) = q at *
      apply Rat.not_lt.mp
      intro z
      have q0 : 0 < q := by
        have : (0 : Rat) ≤ ((2 ^ 126 : Nat) : Rat) := by exact_mod_cast Nat.zero_le _
        grind
      have := mulMono (Rat.le_of_lt q0) w1r
      grind
  unfold strainP at e
  split at e
  · cases e
    refine ⟨Nat.one_le_two_pow, Rat.le_refl, by exact_mod_cast Nat.zero_le _⟩
  split at e
  · split at e
    · cases e
    · rename_i q
      cases e
      exact key _ (by have := h.s0; omega) h.s1
  · split at e
    · cases e
    · rename_i q
      cases e
      exact key _ (by have := h.w0; omega) h.w1
end K20
end
section
set_option Elab.async false
set_option linter.all false
set_option maxRecDepth 100000
set_option maxHeartbeats 1000000
set_option exponentiation.threshold 20000
namespace K20
open PySem PySem.Spec L2 DL
/-- what the module's names are, beyond its defs -/
structure Md (K : PySem.W.Frag) (mg : Str → Option Value) : Type where
  C_Part : Addr
  C_Box : Addr
  C_Leaf : Addr
  C_Row : Addr
  b_len : mg "len" = none
  b_isinstance : mg "isinstance" = none
  b_int : mg "int" = none
  b_bool : mg "bool" = none
  b_str : mg "str" = none
  b_list : mg "list" = none
  b_tuple : mg "tuple" = none
  b_abs : mg "abs" = none
  b_sum : mg "sum" = none
  b_max : mg "max" = none
  b_min : mg "min" = none
  b_repr : mg "repr" = none
  b_range : mg "range" = none
  b_enumerate : mg "enumerate" = none
  b_zip : mg "zip" = none
  b_sorted : mg "sorted" = none
  k_Part : mg "Part" = some (.ref C_Part)
  k_Box : mg "Box" = some (.ref C_Box)
  k_Leaf : mg "Leaf" = some (.ref C_Leaf)
  k_Row : mg "Row" = some (.ref C_Row)
  isaP : Isa K C_Part C_Part true
  isaLB : Isa K C_Leaf C_Box true
  fl_Part_base : Fld K C_Part "base"
  fl_Part_least : Fld K C_Part "least"
  fl_Part_greatest : Fld K C_Part "greatest"
  fl_Part_grow : Fld K C_Part "grow"
  fl_Part_shrink : Fld K C_Part "shrink"
  fl_Leaf_key : Fld K C_Leaf "key"
  fl_Leaf_base : Fld K C_Leaf "base"
  fl_Leaf_least : Fld K C_Leaf "least"
  fl_Leaf_greatest : Fld K C_Leaf "greatest"
  fl_Leaf_grow : Fld K C_Leaf "grow"
  fl_Leaf_shrink : Fld K C_Leaf "shrink"
  fl_Leaf_deep : Fld K C_Leaf "deep"
  fl_Leaf_many : Fld K C_Leaf "many"
  fl_Row_boxes : Fld K C_Row "boxes"
  fl_Row_gap : Fld K C_Row "gap"
  fl_Row_grow : Fld K C_Row "grow"
  fl_Row_shrink : Fld K C_Row "shrink"
  fl_Row_deep : Fld K C_Row "deep"
  fl_Row_many : Fld K C_Row "many"
  fl_Row_three : Fld K C_Row "three"
  t_LENGTH : Tok
  c_LENGTH : mg "LENGTH" = some (.int 1000000000000 t_LENGTH)
  t_SMALL : Tok
  c_SMALL : mg "SMALL" = some (.int 1000000 t_SMALL)
  t_WEIGHT : Tok
  c_WEIGHT : mg "WEIGHT" = some (.int 1000 t_WEIGHT)
  t_LONGEST : Tok
  c_LONGEST : mg "LONGEST" = some (.int 8 t_LONGEST)
  t_MOST : Tok
  c_MOST : mg "MOST" = some (.int 60 t_MOST)
  t_DEEPEST : Tok
  c_DEEPEST : mg "DEEPEST" = some (.int 6 t_DEEPEST)
  t_MOST_BOXES : Tok
  c_MOST_BOXES : mg "MOST_BOXES" = some (.int 60 t_MOST_BOXES)
  t_MOST_WITHIN : Tok
  c_MOST_WITHIN : mg "MOST_WITHIN" = some (.int 8 t_MOST_WITHIN)
  t_ALONE : Tok
  c_ALONE : mg "ALONE" = some (.int 10000000000000000000000000000000000000000 t_ALONE)
  t_LETTERS : Tok
  c_LETTERS : mg "LETTERS" = some (.str "abcdefghijklmnopqrstuvwxyz" t_LETTERS)
theorem kit_it : kitB "int" "tuple" = some false := by decide +kernel
theorem kit_nt : kitB "NoneType" "tuple" = some false := by decide +kernel
local macro_rules | `(tactic| walk_at "dl") => `(tactic| try simp only [dSeq, dIfS, dRet, dRetN, dRetV, dAsg, dExpr, dNever, dNext, dVar, dC, dBin, dUn, dTest, dNot, dAnd, dOr, dAndV, dOrV, dNotV, dIf, dCall, dCons, dNil, dBreak, rdVar_d, rdVar_lst, rdVar_ins, rtVar_d, rtVar_lst, toD_d, toD_lst, toD_ins, toDo_lst, asBl_bl, asInt_int, asLst_lst, wTup_eq, wLst_eq, startR, List.map, List.length, List.getElem?_cons_zero, List.getElem?_cons_succ, List.set_cons_zero, List.set_cons_succ, List.replicate, List.cons_append, List.nil_append, List.append_nil, wIsT, D.kd, kit_ii, kit_ib, kit_bi, kit_bb, kit_ll, kit_tt, kit_ss, kit_nl, kit_ni, kit_it, kit_nt, dZip, dPar3, dUnl2, eqE, neE, wTuple, wSorted, Nat.reduceAdd, Nat.reduceSub, Nat.reduceLeDiff, Bool.not_true, Bool.not_false, true_and, and_true, addD_int, addD_lst, mulD_int, mulD_lst, int0_int, intD_int, negD_int, ixT0, ixT1, ixT2, ixT3, lenD_lst, isND_non, notND_non, isNon_non, isNon_int, isNon_bl, isNon_tup, isNon_lst, isNon_ins, dChain, dWhile, dPar, eqD, neD, pl_int, pl_non, pl_bl, eqv_int, dFor, bindPat, bindPats, dItL, dItT, dItS, dRng1, dRng2, dEnum, dLenV, dIxV, dApp, dSetIx, dInsert, atOwn_zero, atOwn_succ, atD_zero, atD_succ, atDt_zero, atDt_succ, atSlf_zero, dRev, dSl, dPart0, dPart, dOrT, dAsgP, dComp, dAug, dRetP, retP_lst, startI, asIns_ins, slfEnd_eq, dSelf, dFld, dMeth, dMake, wIsC, wSum,  dUnpackP, dInDt, dPutDt, dDictT, wInt1_int, wInt1_bl, wAbs_int, wMax2_int, wMin2_int, wList_lst, wLen_lst, wLen_str, bagAt0, dBag, dPick, dAugBag, dSetBag])
local macro_rules | `(tactic| walk_at "br") => `(tactic| (split <;> rename_i hb <;> (first | replace hb := of_decide_eq_true hb | replace hb := of_decide_eq_false hb | skip)))
section
variable {P : Program} {w : World} {K : PySem.W.Frag} {mg : Str → Option Value} {base : Heap} {f : Addr} {fd : FuncData}
/-! ### numbers -/
def W_is_whole (M : Md K mg) : ON := fun ds R => ∃ i, ds = [.int i] ∧ R (.d (.bl true))
/-! is_whole -/
theorem sc_is_whole : FnScope ["thing"] ["thing"] (defScope s4) := ⟨rfl, rfl, rfl, by decide +kernel, rfl, by decide +kernel, by decide +kernel⟩
abbrev dd_is_whole : List D := []
abbrev lv_is_whole : Nat := 1
theorem def_is_whole (M : Md K mg) (Dd : FunD K "is_whole" "is_whole" (defArgs s4) (defBody s4) (defScope s4) [] [] f fd) (hm : mg "is_whole" = some (.ref f)) : Def P w K mg base 1 "is_whole" dd_is_whole (W_is_whole M) := by
  refine Def.of hm Dd.kp (okG (k := 0) Dd sc_is_whole (fun ds R h => by unfold W_is_whole at h; obtain ⟨_, h⟩ := h; obtain ⟨rfl, _⟩ := h; rfl) (fun cdv A outer s H hr hG => ⟨_, (dss_cons (ds_ret (de_and (de_callB call_isi (cd_isT (T := "int")) rfl M.b_isinstance PyProof.Rows.boot_isinstance (da_cons (de_tVar (pv 0)) (da_cons (de_bltn (v := .ty "int") rfl M.b_int PyProof.Rows.boot_int rfl) da_nil))) (de_one (de_not (de_callB call_isi (cd_isT (T := "bool")) rfl M.b_isinstance PyProof.Rows.boot_isinstance (da_cons (de_tVar (pv 0)) (da_cons (de_bltn (v := .ty "bool") rfl M.b_bool PyProof.Rows.boot_bool rfl) da_nil))))))) dss_nil), fun ds R h => ?_⟩)) (nods (Dd.bindsN fun _ _ _ _ _ _ us hl => match us, hl with | [_], _ => rfl)) fun _ => DpL.nil
  unfold W_is_whole at h
  obtain ⟨i, rfl, h⟩ := h
  walk_at "dl"
  exact h
def W_is_length (M : Md K mg) : ON := fun ds R => ∃ i, ds = [.int i] ∧ R (.d (.bl (decide (0 ≤ i ∧ i ≤ 1000000000000))))
/-! is_length -/
theorem sc_is_length : FnScope ["thing"] ["thing"] (defScope s5) := ⟨rfl, rfl, rfl, by decide +kernel, rfl, by decide +kernel, by decide +kernel⟩
abbrev dd_is_length : List D := []
abbrev lv_is_length : Nat := 2
theorem def_is_length (M : Md K mg) (Dd : FunD K "is_length" "is_length" (defArgs s5) (defBody s5) (defScope s5) [] [] f fd) (hm : mg "is_length" = some (.ref f)) (G_is_whole : Def P w K mg base 1 "is_whole" dd_is_whole (W_is_whole M)) : Def P w K mg base 2 "is_length" dd_is_length (W_is_length M) := by
  refine Def.of hm Dd.kp (okG (k := 1) Dd sc_is_length (fun ds R h => by unfold W_is_length at h; obtain ⟨_, h⟩ := h; obtain ⟨rfl, _⟩ := h; rfl) (fun cdv A outer s H hr hG => ⟨_, (dss_cons (ds_ret (de_and (de_call (G_is_whole.mono (by decide)) hr hG (da_cons (de_tVar (pv 0)) da_nil)) (de_one (de_chain op_le od_le op_le od_le de_int (de_tVar (pv 0)) (de_glob (d := .int 1000000000000) (v := .int 1000000000000) (fun _ => rfl) rfl M.c_LENGTH ⟨_, rfl⟩))))) dss_nil), fun ds R h => ?_⟩)) (nods (Dd.bindsN fun _ _ _ _ _ _ us hl => match us, hl with | [_], _ => rfl)) fun _ => DpL.nil
  unfold W_is_length at h
  obtain ⟨i, rfl, h⟩ := h
  walk_at "dl"
  refine ⟨i, rfl, ?_⟩
  walk_at "dl"
  walk_at "br" <;> simp_all
def W_is_small (M : Md K mg) : ON := fun ds R => ∃ i, ds = [.int i] ∧ R (.d (.bl (decide (0 ≤ i ∧ i ≤ 1000000))))
/-! is_small -/
theorem sc_is_small : FnScope ["thing"] ["thing"] (defScope s6) := ⟨rfl, rfl, rfl, by decide +kernel, rfl, by decide +kernel, by decide +kernel⟩
abbrev dd_is_small : List D := []
abbrev lv_is_small : Nat := 2
theorem def_is_small (M : Md K mg) (Dd : FunD K "is_small" "is_small" (defArgs s6) (defBody s6) (defScope s6) [] [] f fd) (hm : mg "is_small" = some (.ref f)) (G_is_whole : Def P w K mg base 1 "is_whole" dd_is_whole (W_is_whole M)) : Def P w K mg base 2 "is_small" dd_is_small (W_is_small M) := by
  refine Def.of hm Dd.kp (okG (k := 1) Dd sc_is_small (fun ds R h => by unfold W_is_small at h; obtain ⟨_, h⟩ := h; obtain ⟨rfl, _⟩ := h; rfl) (fun cdv A outer s H hr hG => ⟨_, (dss_cons (ds_ret (de_and (de_call (G_is_whole.mono (by decide)) hr hG (da_cons (de_tVar (pv 0)) da_nil)) (de_one (de_chain op_le od_le op_le od_le de_int (de_tVar (pv 0)) (de_glob (d := .int 1000000) (v := .int 1000000) (fun _ => rfl) rfl M.c_SMALL ⟨_, rfl⟩))))) dss_nil), fun ds R h => ?_⟩)) (nods (Dd.bindsN fun _ _ _ _ _ _ us hl => match us, hl with | [_], _ => rfl)) fun _ => DpL.nil
  unfold W_is_small at h
  obtain ⟨i, rfl, h⟩ := h
  walk_at "dl"
  refine ⟨i, rfl, ?_⟩
  walk_at "dl"
  walk_at "br" <;> simp_all
def W_is_weight (M : Md K mg) : ON := fun ds R => ∃ i, ds = [.int i] ∧ R (.d (.bl (decide (0 ≤ i ∧ i ≤ 1000))))
/-! is_weight -/
theorem sc_is_weight : FnScope ["thing"] ["thing"] (defScope s7) := ⟨rfl, rfl, rfl, by decide +kernel, rfl, by decide +kernel, by decide +kernel⟩
abbrev dd_is_weight : List D := []
abbrev lv_is_weight : Nat := 2
theorem def_is_weight (M : Md K mg) (Dd : FunD K "is_weight" "is_weight" (defArgs s7) (defBody s7) (defScope s7) [] [] f fd) (hm : mg "is_weight" = some (.ref f)) (G_is_whole : Def P w K mg base 1 "is_whole" dd_is_whole (W_is_whole M)) : Def P w K mg base 2 "is_weight" dd_is_weight (W_is_weight M) := by
  refine Def.of hm Dd.kp (okG (k := 1) Dd sc_is_weight (fun ds R h => by unfold W_is_weight at h; obtain ⟨_, h⟩ := h; obtain ⟨rfl, _⟩ := h; rfl) (fun cdv A outer s H hr hG => ⟨_, (dss_cons (ds_ret (de_and (de_call (G_is_whole.mono (by decide)) hr hG (da_cons (de_tVar (pv 0)) da_nil)) (de_one (de_chain op_le od_le op_le od_le de_int (de_tVar (pv 0)) (de_glob (d := .int 1000) (v := .int 1000) (fun _ => rfl) rfl M.c_WEIGHT ⟨_, rfl⟩))))) dss_nil), fun ds R h => ?_⟩)) (nods (Dd.bindsN fun _ _ _ _ _ _ us hl => match us, hl with | [_], _ => rfl)) fun _ => DpL.nil
  unfold W_is_weight at h
  obtain ⟨i, rfl, h⟩ := h
  walk_at "dl"
  refine ⟨i, rfl, ?_⟩
  walk_at "dl"
  walk_at "br" <;> simp_all

def W_divisor (M : Md K mg) : ON := fun ds R => ∃ a b : Nat, ds = [.int a, .int b] ∧ R (.d (.int (Nat.gcd a b : Nat)))
/-! divisor -/
theorem sc_divisor : FnScope ["one", "other"] ["one", "other"] (defScope s9) := ⟨rfl, rfl, rfl, by decide +kernel, rfl, by decide +kernel, by decide +kernel⟩
abbrev dd_divisor : List D := []
abbrev lv_divisor : Nat := 1
theorem def_divisor (M : Md K mg) (Dd : FunD K "divisor" "divisor" (defArgs s9) (defBody s9) (defScope s9) [] [] f fd) (hm : mg "divisor" = some (.ref f)) : Def P w K mg base 1 "divisor" dd_divisor (W_divisor M) := by
  refine Def.of hm Dd.kp (okG (k := 0) Dd sc_divisor (fun ds R h => by unfold W_divisor at h; obtain ⟨_, h⟩ := h; obtain ⟨_, h⟩ := h; obtain ⟨rfl, _⟩ := h; rfl) (fun cdv A outer s H hr hG => ⟨_, (dss_cons (ds_while PassesOwn.never (dt_cmp (op_neD (hu64 hr)) od_ne (de_tVar (pv 0)) de_int (nomark _)) (dss_cons (ds_par (i := 0) (j := 1) rfl sc_divisor.nd (de_bin op_mod od_mod (de_tVar (pv 1)) (de_tVar (pv 0))) (de_tVar (pv 0)) (by decide)) dss_nil)) (dss_cons (ds_ret (de_tVar (pv 1))) dss_nil)), fun ds R h => ?_⟩)) (nods (Dd.bindsN fun _ _ _ _ _ _ us hl => match us, hl with | [_, _], _ => rfl)) fun _ => DpL.nil
  unfold W_divisor at h
  obtain ⟨a, b, rfl, h⟩ := h
  walk_at "dl"
  refine ⟨fun m ρ => ∃ b' : Nat, ρ = [some (.d (.int m)), some (.d (.int b'))] ∧ Nat.gcd m b' = Nat.gcd a b, ⟨a, b, rfl, rfl⟩, ?_⟩
  rintro m ρ ⟨b', rfl, hg⟩
  walk_at "dl"
  rw [show ((!decide ((m : Int) = 0)) : Bool) = decide (m ≠ 0) by simp]
  walk_at "br"
  · refine ⟨by omega, b' % m, Nat.mod_lt _ (by omega), m, by simp, ?_⟩
    rw [← hg]
    exact (Nat.gcd_rec m b').symm
  · rename_i hb
    have e : m = 0 := by simpa using hb
    subst e
    rw [Nat.gcd_zero_left] at hg
    rw [hg]
    exact h

theorem gcd_le {t b : Int} (h : 0 < b) : 0 < ((Nat.gcd t.natAbs b.natAbs : Nat) : Int) ∧ ((Nat.gcd t.natAbs b.natAbs : Nat) : Int) ≤ b := by
  have h1 : 0 < Nat.gcd t.natAbs b.natAbs := Nat.gcd_pos_of_pos_right _ (by omega)
  have h2 : Nat.gcd t.natAbs b.natAbs ≤ b.natAbs := Nat.gcd_le_right _ (by omega)
  omega
theorem div_ok {t g b : Int} (h0 : 0 < g) (h1 : g ≤ b) (h2 : b < 2 ^ 8000) : CDivW t g := by
  refine ⟨h0, Nat.lt_of_lt_of_le ((Nat.log2_lt (by omega)).mpr (show g.natAbs < 2 ^ 8000 by omega)) (by decide)⟩
def frR (x : Rat) : D := .tup [.int x.num, .int (x.den : Int)]
theorem frR_nf {x : Rat} {a b : Int} (h : (a, b) = nf x) : D.tup [.int a, .int b] = frR x := by
  have h1 := congrArg Prod.fst h
  have h2 := congrArg Prod.snd h
  simp only [nf] at h1 h2
  rw [h1, h2]; rfl
theorem frR_int (i : Int) : frR (i : Rat) = .tup [.int i, .int 1] := rfl
def W_fraction (M : Md K mg) : ON := fun ds R => ∃ t b : Int, ds = [.int t, .int b] ∧ 0 < b ∧ b < 2 ^ 8000 ∧ R (.d (frR ((t : Rat) / (b : Rat))))
/-! fraction -/
theorem sc_fraction : FnScope ["top", "bottom", "by"] ["top", "bottom"] (defScope s11) := ⟨rfl, rfl, rfl, by decide +kernel, rfl, by decide +kernel, by decide +kernel⟩
abbrev dd_fraction : List D := []
abbrev lv_fraction : Nat := 2
theorem def_fraction (M : Md K mg) (Dd : FunD K "fraction" "fraction" (defArgs s11) (defBody s11) (defScope s11) [.int 1] [] f fd) (hm : mg "fraction" = some (.ref f)) (G_divisor : Def P w K mg base 1 "divisor" dd_divisor (W_divisor M)) : Def P w K mg base 2 "fraction" dd_fraction (W_fraction M) := by
  refine Def.of hm Dd.kp (okG (k := 1) Dd sc_fraction (fun ds R h => by unfold W_fraction at h; obtain ⟨_, h⟩ := h; obtain ⟨_, h⟩ := h; obtain ⟨rfl, _⟩ := h; rfl) (fun cdv A outer s H hr hG => ⟨_, (dss_cons (ds_if (dt_cmp (op_eqD (hu64 hr)) od_eq (de_tVar (pv 1)) de_int (nomark _)) dss_never dss_nil) (dss_cons (ds_if (dt_cmp op_lt od_lt (de_tVar (pv 1)) de_int (nomark _)) (dss_cons (ds_par (i := 0) (j := 1) rfl sc_fraction.nd (de_un un_neg ud_neg (de_tVar (pv 0))) (de_un un_neg ud_neg (de_tVar (pv 1))) (by decide)) dss_nil) dss_nil) (dss_cons (ds_set (i := 2) sc_fraction.nd (de_call (G_divisor.mono (by decide)) hr hG (da_cons (de_callB cr_abs cd_abs rfl M.b_abs PyProof.Rows.boot_abs (da_cons (de_tVar (pv 0)) da_nil)) (da_cons (de_tVar (pv 1)) da_nil)))) (dss_cons (ds_ret (de_tup (da_cons (de_bin op_fdivW od_fdiv (de_tVar (pv 0)) (de_tVar (pv 2))) (da_cons (de_bin op_fdivW od_fdiv (de_tVar (pv 1)) (de_tVar (pv 2))) da_nil)))) dss_nil)))), fun ds R h => ?_⟩)) (Dd.binds1 2 1 (by decide) rfl fun _ _ _ _ _ _ _ us its hl hi => match us, hl, its, hi with | [_, _], _, [_], _ => ⟨_, rfl, rfl⟩) fun _ => DpL.nil
  unfold W_fraction at h
  obtain ⟨t, b, rfl, h0, h1, h⟩ := h
  walk_at "dl"
  walk_at "br"
  · omega
  walk_at "br"
  · omega
  refine ⟨t.natAbs, b.natAbs, ?_, ?_⟩
  · simp only [List.cons.injEq, D.int.injEq, and_true]
    constructor
    · split <;> omega
    · omega
  walk_at "dl"
  have g := gcd_le (t := t) h0
  refine ⟨div_ok g.1 g.2 h1, div_ok g.1 g.2 h1, ?_⟩
  have e := frR_nf (frac_rat (t := t) h0)
  rw [e]
  exact h
theorem mul_ok {a b : Int} (ha : a.natAbs < 2 ^ 8000) (hb : b.natAbs < 2 ^ 8000) : CMulW a b ∨ CMul a b := .inl (wide_mul ha hb (by decide) (by decide) (by decide))
theorem wee.n {x : Rat} (h : wee x) : x.num.natAbs < 2 ^ 8000 := Nat.lt_trans h.2 (Nat.pow_lt_pow_right (by decide) (by decide))
theorem wee.d {x : Rat} (h : wee x) : ((x.den : Int)).natAbs < 2 ^ 8000 := by
  rw [Int.natAbs_natCast]
  exact Nat.lt_trans h.1 (Nat.pow_lt_pow_right (by decide) (by decide))
theorem wee.dd {x y : Rat} (h : wee x) (g : wee y) : (x.den : Int) * (y.den : Int) < 2 ^ 8000 := by
  have a : x.den * y.den < 2 ^ 3500 * 2 ^ 3500 := Nat.mul_lt_mul'' h.1 g.1
  rw [← Nat.pow_add] at a
  have b : x.den * y.den < 2 ^ 8000 := Nat.lt_trans a (Nat.pow_lt_pow_right (by decide) (by decide))
  exact_mod_cast b
def W_plus (M : Md K mg) : ON := fun ds R => ∃ x y : Rat, ds = [frR x, frR y] ∧ wee x ∧ wee y ∧ R (.d (frR (x + y)))
/-! plus -/
theorem sc_plus : FnScope ["one", "other"] ["one", "other"] (defScope s12) := ⟨rfl, rfl, rfl, by decide +kernel, rfl, by decide +kernel, by decide +kernel⟩
abbrev dd_plus : List D := []
abbrev lv_plus : Nat := 3
theorem def_plus (M : Md K mg) (Dd : FunD K "plus" "plus" (defArgs s12) (defBody s12) (defScope s12) [] [] f fd) (hm : mg "plus" = some (.ref f)) (G_fraction : Def P w K mg base 2 "fraction" dd_fraction (W_fraction M)) : Def P w K mg base 3 "plus" dd_plus (W_plus M) := by
  refine Def.of hm Dd.kp (okG (k := 2) Dd sc_plus (fun ds R h => by unfold W_plus at h; obtain ⟨_, h⟩ := h; obtain ⟨_, h⟩ := h; obtain ⟨rfl, _⟩ := h; rfl) (fun cdv A outer s H hr hG => ⟨_, (dss_cons (ds_ret (de_call (G_fraction.mono (by decide)) hr hG (da_cons (de_bin op_addA od_add (de_bin op_mulA od_mul (de_ix (de_tVar (pv 0)) de_int) (de_ix (de_tVar (pv 1)) de_int)) (de_bin op_mulA od_mul (de_ix (de_tVar (pv 1)) de_int) (de_ix (de_tVar (pv 0)) de_int))) (da_cons (de_bin op_mulA od_mul (de_ix (de_tVar (pv 0)) de_int) (de_ix (de_tVar (pv 1)) de_int)) da_nil)))) dss_nil), fun ds R h => ?_⟩)) (nods (Dd.bindsN fun _ _ _ _ _ _ us hl => match us, hl with | [_, _], _ => rfl)) fun _ => DpL.nil
  unfold W_plus at h
  obtain ⟨x, y, rfl, hx, hy, h⟩ := h
  unfold frR
  walk_at "dl"
  refine ⟨mul_ok hx.n hy.d, mul_ok hy.n hx.d, mul_ok hx.d hy.d, _, _, rfl, Int.mul_pos (den_pos x) (den_pos y), wee.dd hx hy, ?_⟩
  rw [plus_rat]
  exact h
def W_minus (M : Md K mg) : ON := fun ds R => ∃ x y : Rat, ds = [frR x, frR y] ∧ wee x ∧ wee y ∧ R (.d (frR (x - y)))
/-! minus -/
theorem sc_minus : FnScope ["one", "other"] ["one", "other"] (defScope s13) := ⟨rfl, rfl, rfl, by decide +kernel, rfl, by decide +kernel, by decide +kernel⟩
abbrev dd_minus : List D := []
abbrev lv_minus : Nat := 3
theorem def_minus (M : Md K mg) (Dd : FunD K "minus" "minus" (defArgs s13) (defBody s13) (defScope s13) [] [] f fd) (hm : mg "minus" = some (.ref f)) (G_fraction : Def P w K mg base 2 "fraction" dd_fraction (W_fraction M)) : Def P w K mg base 3 "minus" dd_minus (W_minus M) := by
  refine Def.of hm Dd.kp (okG (k := 2) Dd sc_minus (fun ds R h => by unfold W_minus at h; obtain ⟨_, h⟩ := h; obtain ⟨_, h⟩ := h; obtain ⟨rfl, _⟩ := h; rfl) (fun cdv A outer s H hr hG => ⟨_, (dss_cons (ds_ret (de_call (G_fraction.mono (by decide)) hr hG (da_cons (de_bin op_sub od_sub (de_bin op_mulA od_mul (de_ix (de_tVar (pv 0)) de_int) (de_ix (de_tVar (pv 1)) de_int)) (de_bin op_mulA od_mul (de_ix (de_tVar (pv 1)) de_int) (de_ix (de_tVar (pv 0)) de_int))) (da_cons (de_bin op_mulA od_mul (de_ix (de_tVar (pv 0)) de_int) (de_ix (de_tVar (pv 1)) de_int)) da_nil)))) dss_nil), fun ds R h => ?_⟩)) (nods (Dd.bindsN fun _ _ _ _ _ _ us hl => match us, hl with | [_, _], _ => rfl)) fun _ => DpL.nil
  unfold W_minus at h
  obtain ⟨x, y, rfl, hx, hy, h⟩ := h
  unfold frR
  walk_at "dl"
  refine ⟨mul_ok hx.n hy.d, mul_ok hy.n hx.d, mul_ok hx.d hy.d, _, _, rfl, Int.mul_pos (den_pos x) (den_pos y), wee.dd hx hy, ?_⟩
  rw [minus_rat]
  exact h
def W_times (M : Md K mg) : ON := fun ds R => ∃ x y : Rat, ds = [frR x, frR y] ∧ wee x ∧ wee y ∧ R (.d (frR (x * y)))
/-! times -/
theorem sc_times : FnScope ["one", "other"] ["one", "other"] (defScope s14) := ⟨rfl, rfl, rfl, by decide +kernel, rfl, by decide +kernel, by decide +kernel⟩
abbrev dd_times : List D := []
abbrev lv_times : Nat := 3
theorem def_times (M : Md K mg) (Dd : FunD K "times" "times" (defArgs s14) (defBody s14) (defScope s14) [] [] f fd) (hm : mg "times" = some (.ref f)) (G_fraction : Def P w K mg base 2 "fraction" dd_fraction (W_fraction M)) : Def P w K mg base 3 "times" dd_times (W_times M) := by
  refine Def.of hm Dd.kp (okG (k := 2) Dd sc_times (fun ds R h => by unfold W_times at h; obtain ⟨_, h⟩ := h; obtain ⟨_, h⟩ := h; obtain ⟨rfl, _⟩ := h; rfl) (fun cdv A outer s H hr hG => ⟨_, (dss_cons (ds_ret (de_call (G_fraction.mono (by decide)) hr hG (da_cons (de_bin op_mulA od_mul (de_ix (de_tVar (pv 0)) de_int) (de_ix (de_tVar (pv 1)) de_int)) (da_cons (de_bin op_mulA od_mul (de_ix (de_tVar (pv 0)) de_int) (de_ix (de_tVar (pv 1)) de_int)) da_nil)))) dss_nil), fun ds R h => ?_⟩)) (nods (Dd.bindsN fun _ _ _ _ _ _ us hl => match us, hl with | [_, _], _ => rfl)) fun _ => DpL.nil
  unfold W_times at h
  obtain ⟨x, y, rfl, hx, hy, h⟩ := h
  unfold frR
  walk_at "dl"
  refine ⟨mul_ok hx.n hy.n, mul_ok hx.d hy.d, _, _, rfl, Int.mul_pos (den_pos x) (den_pos y), wee.dd hx hy, ?_⟩
  rw [times_rat]
  exact h
def W_floor_of (M : Md K mg) : ON := fun ds R => ∃ x : Rat, ds = [frR x] ∧ wee x ∧ R (.d (.int x.floor))
/-! floor_of -/
theorem sc_floor_of : FnScope ["one"] ["one"] (defScope s17) := ⟨rfl, rfl, rfl, by decide +kernel, rfl, by decide +kernel, by decide +kernel⟩
abbrev dd_floor_of : List D := []
abbrev lv_floor_of : Nat := 1
theorem def_floor_of (M : Md K mg) (Dd : FunD K "floor_of" "floor_of" (defArgs s17) (defBody s17) (defScope s17) [] [] f fd) (hm : mg "floor_of" = some (.ref f)) : Def P w K mg base 1 "floor_of" dd_floor_of (W_floor_of M) := by
  refine Def.of hm Dd.kp (okG (k := 0) Dd sc_floor_of (fun ds R h => by unfold W_floor_of at h; obtain ⟨_, h⟩ := h; obtain ⟨rfl, _⟩ := h; rfl) (fun cdv A outer s H hr hG => ⟨_, (dss_cons (ds_ret (de_bin op_fdivW od_fdiv (de_ix (de_tVar (pv 0)) de_int) (de_ix (de_tVar (pv 0)) de_int))) dss_nil), fun ds R h => ?_⟩)) (nods (Dd.bindsN fun _ _ _ _ _ _ us hl => match us, hl with | [_], _ => rfl)) fun _ => DpL.nil
  unfold W_floor_of at h
  obtain ⟨x, rfl, hx, h⟩ := h
  unfold frR
  walk_at "dl"
  rw [floor_eq]
  refine ⟨div_ok (den_pos x) (Int.le_refl _) ?_, h⟩
  have := hx.d
  omega
def W_is_below (M : Md K mg) : ON := fun ds R => ∃ x y : Rat, ds = [frR x, frR y] ∧ wee x ∧ wee y ∧ R (.d (.bl (decide (x < y))))
theorem dec_lt (x y : Rat) : decide (x.num * (y.den : Int) < y.num * (x.den : Int)) = decide (x < y) := by
  by_cases h : x < y
  · rw [decide_eq_true h, decide_eq_true ((lt_num x y).mpr h)]
  · rw [decide_eq_false h, decide_eq_false fun q => h ((lt_num x y).mp q)]
/-! is_below -/
theorem sc_is_below : FnScope ["one", "other"] ["one", "other"] (defScope s16) := ⟨rfl, rfl, rfl, by decide +kernel, rfl, by decide +kernel, by decide +kernel⟩
abbrev dd_is_below : List D := []
abbrev lv_is_below : Nat := 1
theorem def_is_below (M : Md K mg) (Dd : FunD K "is_below" "is_below" (defArgs s16) (defBody s16) (defScope s16) [] [] f fd) (hm : mg "is_below" = some (.ref f)) : Def P w K mg base 1 "is_below" dd_is_below (W_is_below M) := by
  refine Def.of hm Dd.kp (okG (k := 0) Dd sc_is_below (fun ds R h => by unfold W_is_below at h; obtain ⟨_, h⟩ := h; obtain ⟨_, h⟩ := h; obtain ⟨rfl, _⟩ := h; rfl) (fun cdv A outer s H hr hG => ⟨_, (dss_cons (ds_ret (de_cmp op_lt od_lt (de_bin op_mulA od_mul (de_ix (de_tVar (pv 0)) de_int) (de_ix (de_tVar (pv 1)) de_int)) (de_bin op_mulA od_mul (de_ix (de_tVar (pv 1)) de_int) (de_ix (de_tVar (pv 0)) de_int)) (nomark _))) dss_nil), fun ds R h => ?_⟩)) (nods (Dd.bindsN fun _ _ _ _ _ _ us hl => match us, hl with | [_, _], _ => rfl)) fun _ => DpL.nil
  unfold W_is_below at h
  obtain ⟨x, y, rfl, hx, hy, h⟩ := h
  unfold frR
  walk_at "dl"
  rw [dec_lt]
  exact ⟨mul_ok hx.n hy.d, mul_ok hy.n hx.d, h⟩
def W_is_fraction (M : Md K mg) : ON := fun ds R => ∃ x : Rat, ds = [frR x] ∧ R (.d (.bl true))
/-! is_fraction -/
theorem sc_is_fraction : FnScope ["thing"] ["thing"] (defScope s10) := ⟨rfl, rfl, rfl, by decide +kernel, rfl, by decide +kernel, by decide +kernel⟩
abbrev dd_is_fraction : List D := []
abbrev lv_is_fraction : Nat := 2
theorem def_is_fraction (M : Md K mg) (Dd : FunD K "is_fraction" "is_fraction" (defArgs s10) (defBody s10) (defScope s10) [] [] f fd) (hm : mg "is_fraction" = some (.ref f)) (G_divisor : Def P w K mg base 1 "divisor" dd_divisor (W_divisor M)) (G_is_whole : Def P w K mg base 1 "is_whole" dd_is_whole (W_is_whole M)) : Def P w K mg base 2 "is_fraction" dd_is_fraction (W_is_fraction M) := by
  refine Def.of hm Dd.kp (okG (k := 1) Dd sc_is_fraction (fun ds R h => by unfold W_is_fraction at h; obtain ⟨_, h⟩ := h; obtain ⟨rfl, _⟩ := h; rfl) (fun cdv A outer s H hr hG => ⟨_, (dss_cons (ds_if (PW.pt (dw_or (dt_not (dt_val (de_callB call_isi (cd_isT (T := "tuple")) rfl M.b_isinstance PyProof.Rows.boot_isinstance (da_cons (de_tVar (pv 0)) (da_cons (de_bltn (v := .ty "tuple") rfl M.b_tuple PyProof.Rows.boot_tuple rfl) da_nil))))) (dw_or1 (dt_cmp (op_neD (hu64 hr)) od_ne (de_callB cr_len cd_len rfl M.b_len PySem.boot_len (da_cons (de_tVar (pv 0)) da_nil)) de_int (nomark _))))) (dss_cons (ds_ret de_bl) dss_nil) dss_nil) (dss_cons (ds_if (PW.pt (dw_or (dt_not (dt_val (de_call (G_is_whole.mono (by decide)) hr hG (da_cons (de_ix (de_tVar (pv 0)) de_int) da_nil)))) (dw_or (dt_not (dt_val (de_call (G_is_whole.mono (by decide)) hr hG (da_cons (de_ix (de_tVar (pv 0)) de_int) da_nil)))) (dw_or1 (dt_cmp op_lt od_lt (de_ix (de_tVar (pv 0)) de_int) de_int (nomark _)))))) (dss_cons (ds_ret de_bl) dss_nil) dss_nil) (dss_cons (ds_ret (de_cmp (op_eqD (hu64 hr)) od_eq (de_call (G_divisor.mono (by decide)) hr hG (da_cons (de_callB cr_abs cd_abs rfl M.b_abs PyProof.Rows.boot_abs (da_cons (de_ix (de_tVar (pv 0)) de_int) da_nil)) (da_cons (de_ix (de_tVar (pv 0)) de_int) da_nil))) de_int (nomark _))) dss_nil))), fun ds R h => ?_⟩)) (nods (Dd.bindsN fun _ _ _ _ _ _ us hl => match us, hl with | [_], _ => rfl)) fun _ => DpL.nil
  unfold W_is_fraction at h
  obtain ⟨x, rfl, h⟩ := h
  unfold frR
  walk_at "dl"
  refine ⟨rfl, ?_⟩
  walk_at "dl"
  refine ⟨_, rfl, ?_⟩
  walk_at "dl"
  refine ⟨_, rfl, ?_⟩
  walk_at "dl"
  have hd := den_pos x
  rw [decide_eq_false (show ¬ (x.den : Int) < 1 by omega)]
  walk_at "dl"
  refine ⟨x.num.natAbs, x.den, ?_, ?_⟩
  · simp only [List.cons.injEq, D.int.injEq, and_true]
    split <;> omega
  walk_at "dl"
  rw [nf_gcd]
  exact h
def isa : Str := "a"
def W_is_name (M : Md K mg) : ON := fun ds R => ds = [.str isa] ∧ R (.d (.bl true))
/-! is_name -/
theorem sc_is_name : FnScope ["thing", "sign"] ["thing"] (defScope s8) := ⟨rfl, rfl, rfl, by decide +kernel, rfl, by decide +kernel, by decide +kernel⟩
abbrev dd_is_name : List D := []
abbrev lv_is_name : Nat := 1
theorem def_is_name (M : Md K mg) (Dd : FunD K "is_name" "is_name" (defArgs s8) (defBody s8) (defScope s8) [] [] f fd) (hm : mg "is_name" = some (.ref f)) : Def P w K mg base 1 "is_name" dd_is_name (W_is_name M) := by
  refine Def.of hm Dd.kp (okG (k := 0) Dd sc_is_name (fun ds R h => by unfold W_is_name at h; obtain ⟨rfl, _⟩ := h; rfl) (fun cdv A outer s H hr hG => ⟨_, (dss_cons (ds_if (PW.pt (dw_or (dt_not (dt_val (de_callB call_isi (cd_isT (T := "str")) rfl M.b_isinstance PyProof.Rows.boot_isinstance (da_cons (de_tVar (pv 0)) (da_cons (de_bltn (v := .ty "str") rfl M.b_str PyProof.Rows.boot_str rfl) da_nil))))) (dw_or1 (dt_not (dt_chain op_le od_le op_le od_le de_int (de_callB cr_len cd_len rfl M.b_len PySem.boot_len (da_cons (de_tVar (pv 0)) da_nil)) (de_glob (d := .int 8) (v := .int 8) (fun _ => rfl) rfl M.c_LONGEST ⟨_, rfl⟩)))))) (dss_cons (ds_ret de_bl) dss_nil) dss_nil) (dss_cons (ds_for PassesOwn.never rfl (di_str (de_tVar (pv 0))) (dg_nm (i := 1) sc_is_name.nd) (dss_cons (ds_if (dt_cmp op_notInS od_notInS (de_tVar (pv 1)) (de_glob (d := .str "abcdefghijklmnopqrstuvwxyz") (v := .str "abcdefghijklmnopqrstuvwxyz") (fun _ => rfl) rfl M.c_LETTERS ⟨_, rfl⟩) rfl) (dss_cons (ds_ret de_bl) dss_nil) dss_nil) dss_nil)) (dss_cons (ds_ret de_bl) dss_nil))), fun ds R h => ?_⟩)) (nods (Dd.bindsN fun _ _ _ _ _ _ us hl => match us, hl with | [_], _ => rfl)) fun _ => DpL.nil
  unfold W_is_name at h
  obtain ⟨rfl, h⟩ := h
  walk_at "dl"
  rw [show isa = ⟨#[97]⟩ from rfl]
  have e : decide (97 ∈ (Str.ofString "abcdefghijklmnopqrstuvwxyz").cps.toList) = true := by decide +kernel
  simp only [asStr, signs, forD, bindPat, dSeq, dIfS, dTest, dBin, dVar, dC, rdVar_d, toD_d, inSD, asBl_bl, dRet, dNext, Str.length, List.map, List.getElem?_cons_zero, List.getElem?_cons_succ, List.set_cons_zero, List.set_cons_succ]
  refine ⟨by decide, ⟨97, rfl, ?_⟩⟩
  rw [e]
  exact h

end
end K20
end
section
set_option Elab.async false
set_option linter.all false
set_option maxRecDepth 100000
set_option maxHeartbeats 1000000
set_option exponentiation.threshold 20000
namespace K20
open PySem PySem.Spec L2 DL
local macro_rules | `(tactic| walk_at "dl") => `(tactic| try simp only [dSeq, dIfS, dRet, dRetN, dRetV, dAsg, dExpr, dNever, dNext, dVar, dC, dBin, dUn, dTest, dNot, dAnd, dOr, dAndV, dOrV, dNotV, dIf, dCall, dCons, dNil, dBreak, rdVar_d, rdVar_lst, rdVar_ins, rtVar_d, rtVar_lst, toD_d, toD_lst, toD_ins, toDo_lst, asBl_bl, asInt_int, asLst_lst, wTup_eq, wLst_eq, startR, List.map, List.length, List.getElem?_cons_zero, List.getElem?_cons_succ, List.set_cons_zero, List.set_cons_succ, List.replicate, List.cons_append, List.nil_append, List.append_nil, wIsT, D.kd, kit_ii, kit_ib, kit_bi, kit_bb, kit_ll, kit_tt, kit_ss, kit_nl, kit_ni, kit_it, kit_nt, dZip, dPar3, dUnl2, eqE, neE, wTuple, wSorted, Nat.reduceAdd, Nat.reduceSub, Nat.reduceLeDiff, Bool.not_true, Bool.not_false, true_and, and_true, addD_int, addD_lst, mulD_int, mulD_lst, int0_int, intD_int, negD_int, ixT0, ixT1, ixT2, ixT3, lenD_lst, isND_non, notND_non, isNon_non, isNon_int, isNon_bl, isNon_tup, isNon_lst, isNon_ins, dChain, dWhile, dPar, eqD, neD, pl_int, pl_non, pl_bl, eqv_int, dFor, bindPat, bindPats, dItL, dItT, dItS, dRng1, dRng2, dEnum, dLenV, dIxV, dApp, dSetIx, dInsert, atOwn_zero, atOwn_succ, atD_zero, atD_succ, atDt_zero, atDt_succ, atSlf_zero, dRev, dSl, dPart0, dPart, dOrT, dAsgP, dComp, dAug, dRetP, retP_lst, startI, asIns_ins, slfEnd_eq, dSelf, dFld, dMeth, dMake, wIsC, wSum,  dUnpackP, dInDt, dPutDt, dDictT, wInt1_int, wInt1_bl, wAbs_int, wMax2_int, wMin2_int, wList_lst, wLen_lst, wLen_str, bagAt0, dBag, dPick, dAugBag, dSetBag])
local macro_rules | `(tactic| walk_at "br") => `(tactic| (split <;> rename_i hb <;> (first | replace hb := of_decide_eq_true hb | replace hb := of_decide_eq_false hb | skip)))
/-! ### parts -/
def partK : List Str := ["base", "least", "greatest", "grow", "shrink"]
theorem pk0 {a b c d e : D} : fldD "base" partK [a, b, c, d, e] = some a := rfl
theorem pk1 {a b c d e : D} : fldD "least" partK [a, b, c, d, e] = some b := rfl
theorem pk2 {a b c d e : D} : fldD "greatest" partK [a, b, c, d, e] = some c := rfl
theorem pk3 {a b c d e : D} : fldD "grow" partK [a, b, c, d, e] = some d := rfl
theorem pk4 {a b c d e : D} : fldD "shrink" partK [a, b, c, d, e] = some e := rfl
def optD : Option Int → D
  | none => .non
  | some i => .int i
section
variable {P : Program} {w : World} {K : PySem.W.Frag} {mg : Str → Option Value} {base : Heap} {f : Addr} {fd : FuncData}
theorem is_len {M : Md K mg} {i : Int} {R : RD → Prop} (h0 : 0 ≤ i) (h1 : i ≤ 1000000000000) (h : R (.d (.bl true))) : W_is_length M [.int i] R := ⟨i, rfl, by rw [decide_eq_true ⟨h0, h1⟩]; exact h⟩
theorem is_sm {M : Md K mg} {i : Int} {R : RD → Prop} (h0 : 0 ≤ i) (h1 : i ≤ 1000000) (h : R (.d (.bl true))) : W_is_small M [.int i] R := ⟨i, rfl, by rw [decide_eq_true ⟨h0, h1⟩]; exact h⟩
theorem is_wt {M : Md K mg} {i : Int} {R : RD → Prop} (h0 : 0 ≤ i) (h1 : i ≤ 1000) (h : R (.d (.bl true))) : W_is_weight M [.int i] R := ⟨i, rfl, by rw [decide_eq_true ⟨h0, h1⟩]; exact h⟩
def ptL (p : Pt) : List D := [.int p.b, .int p.l, optD p.g, .int p.w, .int p.s]
def ptD (M : Md K mg) (p : Pt) : D := .ins M.C_Part partK (ptL p)
theorem ptD_eq (M : Md K mg) (p : Pt) : ptD M p = .ins M.C_Part partK [.int p.b, .int p.l, optD p.g, .int p.w, .int p.s] := rfl
def W_Part (M : Md K mg) : IN := fun ds R => ∃ p : Pt, ds = [.int p.b, .int p.l, optD p.g, .int p.w, .int p.s] ∧ OkP p ∧ R partK (ptL p)
/-! Part.__init__ -/
theorem sc_Part___init__ : FnScope ["self", "base", "least", "greatest", "grow", "shrink"] ["self", "base", "least", "greatest", "grow", "shrink"] (defScope s20) := ⟨rfl, rfl, rfl, by decide +kernel, rfl, by decide +kernel, by decide +kernel⟩
abbrev dd_Part : List D := []
abbrev lv_Part : Nat := 3
theorem def_Part___init__ (M : Md K mg) (Dd : FunD K "__init__" "Part.__init__" (defArgs s20) (defBody s20) (defScope s20) [.int 0, .non, .int 1, .int 1] [] f fd) (hm : mg "Part" = some (.ref M.C_Part)) (hk : Mk K M.C_Part f) (G_is_weight : Def P w K mg base 2 "is_weight" dd_is_weight (W_is_weight M)) (G_is_length : Def P w K mg base 2 "is_length" dd_is_length (W_is_length M)) : Cla P w K mg base 3 "Part" M.C_Part dd_Part (W_Part M) := by
  refine Cla.of hm hk (okI (k := 2) Dd sc_Part___init__ (fun ds R h => by unfold W_Part at h; obtain ⟨_, h⟩ := h; obtain ⟨rfl, _⟩ := h; rfl) (fun cdv A outer s H hr hG => ⟨_, (dss_cons (ds_if (dt_not (dt_val (de_call (G_is_length.mono (by decide)) hr hG (da_cons (de_tVar (pv 1)) da_nil)))) dss_never dss_nil) (dss_cons (ds_if (PW.pt (dw_or (dt_not (dt_val (de_call (G_is_length.mono (by decide)) hr hG (da_cons (de_tVar (pv 2)) da_nil)))) (dw_or1 (dt_cmp op_gt od_gt (de_tVar (pv 2)) (de_tVar (pv 1)) (nomark _))))) dss_never dss_nil) (dss_cons (ds_if (PW.pt (dw_and (dt_cmp op_notNA od_notN (de_tVar (pv 3)) de_non (nomark _)) (dw_and1 (PW.pt (dw_or (dt_not (dt_val (de_call (G_is_length.mono (by decide)) hr hG (da_cons (de_tVar (pv 3)) da_nil)))) (dw_or1 (dt_cmp op_lt od_lt (de_tVar (pv 3)) (de_tVar (pv 1)) (nomark _)))))))) dss_never dss_nil) (dss_cons (ds_if (dt_not (dt_val (de_call (G_is_weight.mono (by decide)) hr hG (da_cons (de_tVar (pv 4)) da_nil)))) dss_never dss_nil) (dss_cons (ds_if (dt_not (dt_val (de_call (G_is_weight.mono (by decide)) hr hG (da_cons (de_tVar (pv 5)) da_nil)))) dss_never dss_nil) (dss_cons (ds_self (pv 0) (de_tVar (pv 1))) (dss_cons (ds_self (pv 0) (de_tVar (pv 2))) (dss_cons (ds_self (pv 0) (de_tVar (pv 3))) (dss_cons (ds_self (pv 0) (de_tVar (pv 4))) (dss_cons (ds_self (pv 0) (de_tVar (pv 5))) dss_nil)))))))))), fun ds R h => ?_⟩)) (Dd.binds1 6 4 (by decide) rfl fun _ _ _ _ _ _ _ us its hl hi => match us, hl, its, hi with | [_, _, _, _, _, _], _, [_, _, _, _], _ => ⟨_, rfl, rfl⟩) fun _ => DpL.nil
  unfold W_Part at h
  obtain ⟨p, rfl, ok, h⟩ := h
  have l0 := ok.l0; have lb := ok.lb; have b1 := ok.b1
  walk_at "dl"
  refine is_len (by omega) b1 ?_
  walk_at "dl"
  refine is_len l0 (by omega) ?_
  walk_at "dl"
  rw [decide_eq_false (show ¬ p.b < p.l by omega)]
  cases hg : p.g with
  | none =>
    simp only [ptL, hg, optD] at h
    simp only [optD]
    walk_at "dl"
    refine is_wt ok.w0 ok.w1 ?_
    walk_at "dl"
    refine is_wt ok.s0 ok.s1 ?_
    walk_at "dl"
    exact ⟨M.fl_Part_base, by decide, M.fl_Part_least, by decide +kernel, M.fl_Part_greatest, by decide +kernel, M.fl_Part_grow, by decide +kernel, M.fl_Part_shrink, by decide +kernel, h⟩
  | some g =>
    simp only [ptL, hg, optD] at h
    have hb := ok.bg g hg
    simp only [optD]
    walk_at "dl"
    refine is_len (by omega) hb.2 ?_
    walk_at "dl"
    rw [decide_eq_false (show ¬ g < p.b by omega)]
    walk_at "dl"
    refine is_wt ok.w0 ok.w1 ?_
    walk_at "dl"
    refine is_wt ok.s0 ok.s1 ?_
    walk_at "dl"
    exact ⟨M.fl_Part_base, by decide, M.fl_Part_least, by decide +kernel, M.fl_Part_greatest, by decide +kernel, M.fl_Part_grow, by decide +kernel, M.fl_Part_shrink, by decide +kernel, h⟩
theorem lt_8000 {a : Int} (h : a.natAbs ≤ 2 ^ 64) : a.natAbs < 2 ^ 8000 := Nat.lt_of_le_of_lt h (Nat.pow_lt_pow_right (by decide) (by decide))
theorem den_8000 {x : Rat} (h : wee x) : (x.den : Int) < 2 ^ 8000 := by have := h.d; omega
theorem bnW {d v : Nat} {x : Rat} (h : Bn d v x) (hd : d ≤ 3000 := by omega) (hv : v ≤ 200 := by omega) : wee x := h.wee (by omega) (by omega)
theorem int_wee {i : Int} (h : i.natAbs ≤ 2 ^ 64) : wee (i : Rat) := (Bn.int h).wee (by omega) (by omega)
theorem num_lt0 (x : Rat) : decide (x.num < 0) = decide (x < 0) := by
  by_cases h : x < 0
  · rw [decide_eq_true h, decide_eq_true ((num_neg x).mpr h)]
  · rw [decide_eq_false h, decide_eq_false fun q => h ((num_neg x).mp q)]
theorem num_gt0 (x : Rat) : decide (0 < x.num) = decide (0 < x) := by
  by_cases h : 0 < x
  · rw [decide_eq_true h, decide_eq_true ((num_pos x).mpr h)]
  · rw [decide_eq_false h, decide_eq_false fun q => h ((num_pos x).mp q)]
theorem num_eq0 (x : Rat) : decide (x.num = 0) = decide (x = 0) := by
  by_cases h : x = 0
  · rw [decide_eq_true h, decide_eq_true ((num_zero x).mpr h)]
  · rw [decide_eq_false h, decide_eq_false fun q => h ((num_zero x).mp q)]
def W_Part_size_at (M : Md K mg) : ON := fun ds R => ∃ (p : Pt) (x : Rat) (d : Nat), ds = [ptD M p, frR x] ∧ OkP p ∧ Bn d 51 x ∧ d ≤ 1500 ∧ R (.d (frR (sizeP p x)))
/-! Part.size_at -/
theorem sc_Part_size_at : FnScope ["self", "price", "top", "bottom", "size"] ["self", "price"] (defScope s21) := ⟨rfl, rfl, rfl, by decide +kernel, rfl, by decide +kernel, by decide +kernel⟩
abbrev dd_Part_size_at : List D := []
abbrev lv_Part_size_at : Nat := 3
theorem def_Part_size_at (M : Md K mg) (Dd : FunD K "size_at" "Part.size_at" (defArgs s21) (defBody s21) (defScope s21) [] [] f fd) (hc : Cls K M.C_Part) (hm : Meth K M.C_Part "size_at" f) (G_is_below : Def P w K mg base 1 "is_below" dd_is_below (W_is_below M)) (G_fraction : Def P w K mg base 2 "fraction" dd_fraction (W_fraction M)) : Mth P w K mg base 3 M.C_Part "size_at" dd_Part_size_at (W_Part_size_at M) := by
  refine Mth.of hc hm (okG (k := 2) Dd sc_Part_size_at (fun ds R h => by unfold W_Part_size_at at h; obtain ⟨_, h⟩ := h; obtain ⟨_, h⟩ := h; obtain ⟨_, h⟩ := h; obtain ⟨rfl, _⟩ := h; rfl) (fun cdv A outer s H hr hG => ⟨_, (dss_cons (ds_asgP (de_tVar (pv 1)) (dg_tp rfl (dgs_cons (dg_nm (i := 2) sc_Part_size_at.nd) (dgs_cons (dg_nm (i := 3) sc_Part_size_at.nd) dgs_nil)))) (dss_cons (ds_if (dt_cmp op_lt od_lt (de_tVar (pv 2)) de_int (nomark _)) (dss_cons (ds_set (i := 4) sc_Part_size_at.nd (de_call (G_fraction.mono (by decide)) hr hG (da_cons (de_bin op_addA od_add (de_bin op_mulA od_mul (de_fldK K (de_tVar (pv 0))) (de_tVar (pv 3))) (de_bin op_mulA od_mul (de_fldK K (de_tVar (pv 0))) (de_tVar (pv 2)))) (da_cons (de_tVar (pv 3)) da_nil)))) (dss_cons (ds_if (dt_val (de_call (G_is_below.mono (by decide)) hr hG (da_cons (de_tVar (pv 4)) (da_cons (de_tup (da_cons (de_fldK K (de_tVar (pv 0))) (da_cons de_int da_nil))) da_nil)))) (dss_cons (ds_ret (de_tup (da_cons (de_fldK K (de_tVar (pv 0))) (da_cons de_int da_nil)))) dss_nil) dss_nil) (dss_cons (ds_ret (de_tVar (pv 4))) dss_nil))) dss_nil) (dss_cons (ds_set (i := 4) sc_Part_size_at.nd (de_call (G_fraction.mono (by decide)) hr hG (da_cons (de_bin op_addA od_add (de_bin op_mulA od_mul (de_fldK K (de_tVar (pv 0))) (de_tVar (pv 3))) (de_bin op_mulA od_mul (de_fldK K (de_tVar (pv 0))) (de_tVar (pv 2)))) (da_cons (de_tVar (pv 3)) da_nil)))) (dss_cons (ds_if (PW.pt (dw_and (dt_cmp op_notNA od_notN (de_fldK K (de_tVar (pv 0))) de_non (nomark _)) (dw_and1 (dt_val (de_call (G_is_below.mono (by decide)) hr hG (da_cons (de_tup (da_cons (de_fldK K (de_tVar (pv 0))) (da_cons de_int da_nil))) (da_cons (de_tVar (pv 4)) da_nil))))))) (dss_cons (ds_ret (de_tup (da_cons (de_fldK K (de_tVar (pv 0))) (da_cons de_int da_nil)))) dss_nil) dss_nil) (dss_cons (ds_ret (de_tVar (pv 4))) dss_nil))))), fun ds R h => ?_⟩)) (nods (Dd.bindsN fun _ _ _ _ _ _ us hl => match us, hl with | [_, _], _ => rfl)) fun _ => DpL.nil
  unfold W_Part_size_at at h
  obtain ⟨p, x, d, rfl, ok, hx, hd, h⟩ := h
  have l0 := ok.l0; have lb := ok.lb; have b1 := ok.b1; have w0 := ok.w0; have w1 := ok.w1; have s0 := ok.s0; have s1 := ok.s1
  have wx := bnW hx
  rw [ptD_eq]
  unfold frR
  walk_at "dl"
  simp only [pk0, pk1, pk2, pk3, pk4]
  walk_at "dl"
  rw [num_lt0]
  split
  · rename_i hb
    have hb := of_decide_eq_true hb
    refine ⟨M.fl_Part_base, mul_ok (lt_8000 (by omega)) wx.d, M.fl_Part_shrink, mul_ok (lt_8000 (by omega)) wx.n, _, _, rfl, den_pos x, den_8000 wx, ?_⟩
    rw [aff_rat]
    have bs : Bn d 62 ((p.b : Rat) + (p.s : Rat) * x) := hx.aff (by omega) s0 s1 (by omega)
    unfold sizeP at h
    rw [if_pos hb] at h
    walk_at "dl"
    refine ⟨M.fl_Part_least, _, (p.l : Rat), rfl, bnW bs, int_wee (by omega), ?_⟩
    walk_at "dl"
    split
    · rename_i hc
      rw [if_pos (of_decide_eq_true hc)] at h
      exact ⟨M.fl_Part_least, h⟩
    · rename_i hc
      rw [if_neg (of_decide_eq_false hc)] at h
      exact h
  · rename_i hb
    have hb := of_decide_eq_false hb
    refine ⟨M.fl_Part_base, mul_ok (lt_8000 (by omega)) wx.d, M.fl_Part_grow, mul_ok (lt_8000 (by omega)) wx.n, _, _, rfl, den_pos x, den_8000 wx, ?_⟩
    rw [aff_rat]
    have bs : Bn d 62 ((p.b : Rat) + (p.w : Rat) * x) := hx.aff (by omega) w0 w1 (by omega)
    unfold sizeP at h
    rw [if_neg hb] at h
    cases hg : p.g with
    | none =>
      rw [hg] at h
      simp only [optD]
      walk_at "dl"
      exact ⟨M.fl_Part_greatest, h⟩
    | some g =>
      have hgb := ok.bg g hg
      rw [hg] at h
      simp only [optD]
      walk_at "dl"
      refine ⟨M.fl_Part_greatest, M.fl_Part_greatest, (g : Rat), _, rfl, int_wee (by omega), bnW bs, ?_⟩
      walk_at "dl"
      split
      · rename_i hc
        simp only [if_pos (of_decide_eq_true hc)] at h
        exact ⟨M.fl_Part_greatest, h⟩
      · rename_i hc
        simp only [if_neg (of_decide_eq_false hc)] at h
        exact h
end
end K20
end
section
set_option Elab.async false
set_option linter.all false
set_option maxRecDepth 100000
set_option maxHeartbeats 1000000
set_option exponentiation.threshold 20000
namespace K20
open PySem PySem.Spec L2 DL
local macro_rules | `(tactic| walk_at "dl") => `(tactic| try simp only [dSeq, dIfS, dRet, dRetN, dRetV, dAsg, dExpr, dNever, dNext, dVar, dC, dBin, dUn, dTest, dNot, dAnd, dOr, dAndV, dOrV, dNotV, dIf, dCall, dCons, dNil, dBreak, rdVar_d, rdVar_lst, rdVar_ins, rtVar_d, rtVar_lst, toD_d, toD_lst, toD_ins, toDo_lst, asBl_bl, asInt_int, asLst_lst, wTup_eq, wLst_eq, startR, List.map, List.length, List.getElem?_cons_zero, List.getElem?_cons_succ, List.set_cons_zero, List.set_cons_succ, List.replicate, List.cons_append, List.nil_append, List.append_nil, wIsT, D.kd, kit_ii, kit_ib, kit_bi, kit_bb, kit_ll, kit_tt, kit_ss, kit_nl, kit_ni, kit_it, kit_nt, dZip, dPar3, dUnl2, eqE, neE, wTuple, wSorted, Nat.reduceAdd, Nat.reduceSub, Nat.reduceLeDiff, Bool.not_true, Bool.not_false, true_and, and_true, addD_int, addD_lst, mulD_int, mulD_lst, int0_int, intD_int, negD_int, ixT0, ixT1, ixT2, ixT3, lenD_lst, isND_non, notND_non, isNon_non, isNon_int, isNon_bl, isNon_tup, isNon_lst, isNon_ins, dChain, dWhile, dPar, eqD, neD, pl_int, pl_non, pl_bl, eqv_int, dFor, bindPat, bindPats, dItL, dItT, dItS, dRng1, dRng2, dEnum, dLenV, dIxV, dApp, dSetIx, dInsert, atOwn_zero, atOwn_succ, atD_zero, atD_succ, atDt_zero, atDt_succ, atSlf_zero, dRev, dSl, dPart0, dPart, dOrT, dAsgP, dComp, dAug, dRetP, retP_lst, startI, asIns_ins, slfEnd_eq, dSelf, dFld, dMeth, dMake, wIsC, wSum,  dUnpackP, dInDt, dPutDt, dDictT, wInt1_int, wInt1_bl, wAbs_int, wMax2_int, wMin2_int, wList_lst, wLen_lst, wLen_str, bagAt0, dBag, dPick, dAugBag, dSetBag])
local macro_rules | `(tactic| walk_at "br") => `(tactic| (split <;> rename_i hb <;> (first | replace hb := of_decide_eq_true hb | replace hb := of_decide_eq_false hb | skip)))
def posF (d : D) : Option D := match d with
  | .tup [.int w, o] => if 0 < w then some (.tup [.int w, o]) else none
  | _ => none
def fstF (d : D) : D := match d with
  | .tup [w, _] => w
  | _ => .non
def wyD (y : Wy) : D := .tup [.int y.1, optD y.2]
theorem posF_map : ∀ ws : List Wy, (ws.map wyD).filterMap posF = (free ws).map wyD
  | [] => rfl
  | x :: ws => by
    have ih := posF_map ws
    by_cases h : 0 < x.1
    · rw [List.map_cons, List.filterMap_cons_some (b := wyD x) (by simp [posF, wyD, h]), ih, free_pos h]
      rfl
    · rw [List.map_cons, List.filterMap_cons_none (by simp [posF, wyD, h]), ih, free_neg h]
theorem fstF_map (ws : List Wy) : (ws.map wyD).map fstF = (ws.map fun y => y.1).map D.int := by
  rw [List.map_map, List.map_map]; rfl
def frO : Option Rat → D
  | none => .non
  | some p => frR p
theorem frR_eq (x : Rat) : frR x = .tup [.int x.num, .int (x.den : Int)] := rfl
theorem le_num (w c : Int) (p : Rat) : decide (w * p.num ≤ c * (p.den : Int)) = decide ((w : Rat) * p ≤ (c : Rat)) := by
  have hd := denR p
  have hn := num_eq p
  have key : (w * p.num ≤ c * (p.den : Int)) ↔ ((w : Rat) * p ≤ (c : Rat)) := by
    rw [← ri, Rat.intCast_mul, Rat.intCast_mul, hn]
    generalize ((p.den : Int) : Rat) = a at *
    constructor
    · intro h
      apply Rat.not_lt.mp
      intro q
      have := mulLt q hd
      grind
    · intro h
      have := mulLe h (Rat.le_of_lt hd)
      grind
  by_cases h : (w : Rat) * p ≤ (c : Rat)
  · rw [decide_eq_true h, decide_eq_true (key.mpr h)]
  · rw [decide_eq_false h, decide_eq_false fun q => h (key.mp q)]
section
variable {P : Program} {w : World} {K : PySem.W.Frag} {mg : Str → Option Value} {base : Heap} {f : Addr} {fd : FuncData}
def W_Part_strain_at (M : Md K mg) : ON := fun ds R => ∃ (p : Pt) (x t : Rat) (d : Nat), ds = [ptD M p, frR x] ∧ OkP p ∧ Bn d 62 x ∧ d ≤ 1500 ∧ strainP p x = some t ∧ R (.d (frR t))
theorem sq_8000 {x : Rat} {w : Int} (h : wee x) (h0 : 0 ≤ w) (h1 : w ≤ 1000) : ((x.den : Int) * (x.den : Int)).natAbs < 2 ^ 8000 ∧ (x.den : Int) * (x.den : Int) * w < 2 ^ 8000 := by
  have a : x.den * x.den < 2 ^ 3500 * 2 ^ 3500 := Nat.mul_lt_mul'' h.1 h.1
  rw [← Nat.pow_add] at a
  have e1 : (2 : Nat) ^ (3500 + 3500) ≤ 2 ^ 7990 := Nat.pow_le_pow_right (by decide) (by decide)
  have e2 : (2 : Nat) ^ 8000 = 2 ^ 7990 * 1024 := by rw [show (8000 : Nat) = 7990 + 10 from rfl, Nat.pow_add]
  have b : ((x.den : Int) * (x.den : Int)) = ((x.den * x.den : Nat) : Int) := by push_cast; rfl
  rw [b]
  generalize x.den * x.den = z at *
  generalize (2 : Nat) ^ 7990 = y at *
  constructor
  · omega
  · have c : (z : Int) * w ≤ (z : Int) * 1000 := Int.mul_le_mul_of_nonneg_left h1 (by omega)
    have n1 : z * 1000 < 2 ^ 8000 := by rw [e2]; omega
    have n2 : (z : Int) * 1000 < 2 ^ 8000 := by exact_mod_cast n1
    exact Int.lt_of_le_of_lt c n2
/-! Part.strain_at -/
theorem sc_Part_strain_at : FnScope ["self", "size", "top", "bottom", "weight", "beyond"] ["self", "size"] (defScope s22) := ⟨rfl, rfl, rfl, by decide +kernel, rfl, by decide +kernel, by decide +kernel⟩
abbrev dd_Part_strain_at : List D := []
abbrev lv_Part_strain_at : Nat := 4
theorem def_Part_strain_at (M : Md K mg) (Dd : FunD K "strain_at" "Part.strain_at" (defArgs s22) (defBody s22) (defScope s22) [] [] f fd) (hc : Cls K M.C_Part) (hm : Meth K M.C_Part "strain_at" f) (G_fraction : Def P w K mg base 2 "fraction" dd_fraction (W_fraction M)) (G_is_below : Def P w K mg base 1 "is_below" dd_is_below (W_is_below M)) (G_minus : Def P w K mg base 3 "minus" dd_minus (W_minus M)) : Mth P w K mg base 4 M.C_Part "strain_at" dd_Part_strain_at (W_Part_strain_at M) := by
  refine Mth.of hc hm (okG (k := 3) Dd sc_Part_strain_at (fun ds R h => by unfold W_Part_strain_at at h; obtain ⟨_, h⟩ := h; obtain ⟨_, h⟩ := h; obtain ⟨_, h⟩ := h; obtain ⟨_, h⟩ := h; obtain ⟨rfl, _⟩ := h; rfl) (fun cdv A outer s H hr hG => ⟨_, (dss_cons (ds_asgP (de_call (G_minus.mono (by decide)) hr hG (da_cons (de_tVar (pv 1)) (da_cons (de_tup (da_cons (de_fldK K (de_tVar (pv 0))) (da_cons de_int da_nil))) da_nil))) (dg_tp rfl (dgs_cons (dg_nm (i := 2) sc_Part_strain_at.nd) (dgs_cons (dg_nm (i := 3) sc_Part_strain_at.nd) dgs_nil)))) (dss_cons (ds_if (dt_cmp (op_eqD (hu64 hr)) od_eq (de_tVar (pv 2)) de_int (nomark _)) (dss_cons (ds_ret (de_tup (da_cons de_int (da_cons de_int da_nil)))) dss_nil) dss_nil) (dss_cons (ds_set (i := 4) sc_Part_strain_at.nd (de_fldK K (de_tVar (pv 0)))) (dss_cons (ds_set (i := 5) sc_Part_strain_at.nd (de_and (de_cmp op_notNA od_notN (de_fldK K (de_tVar (pv 0))) de_non (nomark _)) (de_one (de_call (G_is_below.mono (by decide)) hr hG (da_cons (de_tup (da_cons (de_fldK K (de_tVar (pv 0))) (da_cons de_int da_nil))) (da_cons (de_tVar (pv 1)) da_nil)))))) (dss_cons (ds_if (dt_cmp op_lt od_lt (de_tVar (pv 2)) de_int (nomark _)) (dss_cons (ds_set (i := 4) sc_Part_strain_at.nd (de_fldK K (de_tVar (pv 0)))) (dss_cons (ds_set (i := 5) sc_Part_strain_at.nd (de_call (G_is_below.mono (by decide)) hr hG (da_cons (de_tVar (pv 1)) (da_cons (de_tup (da_cons (de_fldK K (de_tVar (pv 0))) (da_cons de_int da_nil))) da_nil)))) dss_nil)) dss_nil) (dss_cons (ds_if (PW.pt (dw_or (dt_val (de_tVar (pv 5))) (dw_or1 (dt_cmp (op_eqD (hu64 hr)) od_eq (de_tVar (pv 4)) de_int (nomark _))))) (dss_cons (ds_ret de_non) dss_nil) dss_nil) (dss_cons (ds_ret (de_call (G_fraction.mono (by decide)) hr hG (da_cons (de_bin op_mulA od_mul (de_tVar (pv 2)) (de_tVar (pv 2))) (da_cons (de_bin op_mulA od_mul (de_bin op_mulA od_mul (de_tVar (pv 3)) (de_tVar (pv 3))) (de_tVar (pv 4))) da_nil)))) dss_nil))))))), fun ds R h => ?_⟩)) (nods (Dd.bindsN fun _ _ _ _ _ _ us hl => match us, hl with | [_, _], _ => rfl)) fun _ => DpL.nil
  unfold W_Part_strain_at at h
  obtain ⟨p, x, t, d, rfl, ok, hx, hd, ht, h⟩ := h
  have l0 := ok.l0; have lb := ok.lb; have b1 := ok.b1; have w0 := ok.w0; have w1 := ok.w1; have s0 := ok.s0; have s1 := ok.s1
  rw [ptD_eq]
  walk_at "dl"
  simp only [pk0, pk1, pk2, pk3, pk4]
  have wb : wee ((p.b : Int) : Rat) := int_wee (by omega)
  refine ⟨M.fl_Part_base, x, (p.b : Rat), rfl, bnW hx, wb, ?_⟩
  have hy : wee (x - (p.b : Rat)) := bnW (hx.sub (Bn.int (v := 62) (by omega)))
  unfold strainP at ht
  have fin : ∀ w : Int, 0 < w → w ≤ 1000 → R (.d (frR ((x - (p.b : Rat)) * (x - (p.b : Rat)) / (w : Rat)))) → W_fraction M [.int ((x - (p.b : Rat)).num * (x - (p.b : Rat)).num), .int (((x - (p.b : Rat)).den : Int) * ((x - (p.b : Rat)).den : Int) * w)] (fun r => R (.d r.toD)) := fun w h0 h1 hR => by
    refine ⟨_, _, rfl, Int.mul_pos (Int.mul_pos (den_pos _) (den_pos _)) h0, (sq_8000 hy (by omega) h1).2, ?_⟩
    rw [sq_rat _ h0]
    exact hR
  generalize hz : x - (p.b : Rat) = y at *
  rw [frR_eq y]
  walk_at "dl"
  rw [num_eq0, num_lt0]
  split
  · rename_i hb
    rw [if_pos (of_decide_eq_true hb)] at ht
    cases ht
    exact h
  rename_i hb
  rw [if_neg (of_decide_eq_false hb)] at ht
  refine ⟨M.fl_Part_grow, ?_⟩
  cases hg : p.g with
  | none =>
    rw [hg] at ht
    simp only [optD]
    walk_at "dl"
    refine ⟨M.fl_Part_greatest, ?_⟩
    split
    · rename_i hc
      rw [if_pos (of_decide_eq_true hc)] at ht
      try simp only [pk1, pk4]
      refine ⟨M.fl_Part_shrink, M.fl_Part_least, x, (p.l : Rat), rfl, bnW hx, int_wee (by omega), ?_⟩
      split at ht
      · cases ht
      rename_i hq
      cases ht
      walk_at "dl"
      rw [decide_eq_false fun q => hq (.inl q)]
      walk_at "dl"
      rw [decide_eq_false fun q => hq (.inr q)]
      walk_at "dl"
      have sp : 0 < p.s := by have : ¬ p.s = 0 := fun q => hq (.inr q); omega
      exact ⟨mul_ok hy.n hy.n, mul_ok hy.d hy.d, mul_ok (sq_8000 hy s0 s1).1 (lt_8000 (by omega)), fin _ sp s1 h⟩
    · rename_i hc
      rw [if_neg (of_decide_eq_false hc)] at ht
      split at ht
      · cases ht
      rename_i hq
      cases ht
      walk_at "dl"
      rw [decide_eq_false fun q => hq (.inr q)]
      walk_at "dl"
      have sp : 0 < p.w := by have : ¬ p.w = 0 := fun q => hq (.inr q); omega
      exact ⟨mul_ok hy.n hy.n, mul_ok hy.d hy.d, mul_ok (sq_8000 hy w0 w1).1 (lt_8000 (by omega)), fin _ sp w1 h⟩
  | some g =>
    have hgb := ok.bg g hg
    rw [hg] at ht
    simp only [optD]
    walk_at "dl"
    refine ⟨M.fl_Part_greatest, M.fl_Part_greatest, (g : Rat), x, rfl, int_wee (by omega), bnW hx, ?_⟩
    walk_at "dl"
    split
    · rename_i hc
      rw [if_pos (of_decide_eq_true hc)] at ht
      try simp only [pk1, pk4]
      refine ⟨M.fl_Part_shrink, M.fl_Part_least, x, (p.l : Rat), rfl, bnW hx, int_wee (by omega), ?_⟩
      split at ht
      · cases ht
      rename_i hq
      cases ht
      walk_at "dl"
      rw [decide_eq_false fun q => hq (.inl q)]
      walk_at "dl"
      rw [decide_eq_false fun q => hq (.inr q)]
      walk_at "dl"
      have sp : 0 < p.s := by have : ¬ p.s = 0 := fun q => hq (.inr q); omega
      exact ⟨mul_ok hy.n hy.n, mul_ok hy.d hy.d, mul_ok (sq_8000 hy s0 s1).1 (lt_8000 (by omega)), fin _ sp s1 h⟩
    · rename_i hc
      rw [if_neg (of_decide_eq_false hc)] at ht
      split at ht
      · cases ht
      rename_i hq
      cases ht
      rw [decide_eq_false fun q : (g : Rat) < x => hq (.inl ⟨g, rfl, q⟩)]
      walk_at "dl"
      rw [decide_eq_false fun q => hq (.inr q)]
      walk_at "dl"
      have sp : 0 < p.w := by have : ¬ p.w = 0 := fun q => hq (.inr q); omega
      exact ⟨mul_ok hy.n hy.n, mul_ok hy.d hy.d, mul_ok (sq_8000 hy w0 w1).1 (lt_8000 (by omega)), fin _ sp w1 h⟩
def W_end_of (M : Md K mg) : ON := fun ds R => ∃ (p : Pt) (u : Bool) (e : Int), ds = [ptD M p, .bl u] ∧ endP p u = some e ∧ R (.d (frR (e : Rat)))
/-! end_of -/
theorem sc_end_of : FnScope ["part", "up"] ["part", "up"] (defScope s26) := ⟨rfl, rfl, rfl, by decide +kernel, rfl, by decide +kernel, by decide +kernel⟩
abbrev dd_end_of : List D := []
abbrev lv_end_of : Nat := 1
theorem def_end_of (M : Md K mg) (Dd : FunD K "end_of" "end_of" (defArgs s26) (defBody s26) (defScope s26) [] [] f fd) (hm : mg "end_of" = some (.ref f)) : Def P w K mg base 1 "end_of" dd_end_of (W_end_of M) := by
  refine Def.of hm Dd.kp (okG (k := 0) Dd sc_end_of (fun ds R h => by unfold W_end_of at h; obtain ⟨_, h⟩ := h; obtain ⟨_, h⟩ := h; obtain ⟨_, h⟩ := h; obtain ⟨rfl, _⟩ := h; rfl) (fun cdv A outer s H hr hG => ⟨_, (dss_cons (ds_if (PW.pt (dw_and (dt_val (de_tVar (pv 1))) (dw_and1 (dt_cmp op_gt od_gt (de_fldK K (de_tVar (pv 0))) de_int (nomark _))))) (dss_cons (ds_ret (de_tup (da_cons (de_fldK K (de_tVar (pv 0))) (da_cons de_int da_nil)))) dss_nil) dss_nil) (dss_cons (ds_if (PW.pt (dw_and (dt_not (dt_val (de_tVar (pv 1)))) (dw_and1 (dt_cmp op_gt od_gt (de_fldK K (de_tVar (pv 0))) de_int (nomark _))))) (dss_cons (ds_ret (de_tup (da_cons (de_fldK K (de_tVar (pv 0))) (da_cons de_int da_nil)))) dss_nil) dss_nil) (dss_cons (ds_ret (de_tup (da_cons (de_fldK K (de_tVar (pv 0))) (da_cons de_int da_nil)))) dss_nil))), fun ds R h => ?_⟩)) (nods (Dd.bindsN fun _ _ _ _ _ _ us hl => match us, hl with | [_, _], _ => rfl)) fun _ => DpL.nil
  unfold W_end_of at h
  obtain ⟨p, u, e, rfl, he, h⟩ := h
  rw [ptD_eq]
  walk_at "dl"
  simp only [pk0, pk1, pk2, pk3, pk4]
  unfold endP at he
  cases u with
  | true =>
    simp only [if_true] at he
    walk_at "dl"
    refine ⟨M.fl_Part_grow, ?_⟩
    walk_at "dl"
    split
    · rename_i hb
      rw [if_pos (of_decide_eq_true hb)] at he
      rw [he]
      exact ⟨M.fl_Part_greatest, h⟩
    · rename_i hb
      rw [if_neg (of_decide_eq_false hb)] at he
      cases he
      exact ⟨M.fl_Part_base, h⟩
  | false =>
    simp only [Bool.false_eq_true, if_false] at he
    walk_at "dl"
    refine ⟨M.fl_Part_shrink, ?_⟩
    walk_at "dl"
    split
    · rename_i hb
      rw [if_pos (of_decide_eq_true hb)] at he
      cases he
      exact ⟨M.fl_Part_least, h⟩
    · rename_i hb
      rw [if_neg (of_decide_eq_false hb)] at he
      cases he
      exact ⟨M.fl_Part_base, h⟩
def W_look_at_parts (M : Md K mg) : ON := fun ds R => ∃ ps : List Pt, ds = [.lst (ps.map (ptD M))] ∧ ps.length ≤ 60 ∧ R (.d .non)
/-! look_at_parts -/
theorem sc_look_at_parts : FnScope ["parts", "k", "part"] ["parts"] (defScope s23) := ⟨rfl, rfl, rfl, by decide +kernel, rfl, by decide +kernel, by decide +kernel⟩
abbrev dd_look_at_parts : List D := []
abbrev lv_look_at_parts : Nat := 1
theorem def_look_at_parts (M : Md K mg) (Dd : FunD K "look_at_parts" "look_at_parts" (defArgs s23) (defBody s23) (defScope s23) [] [] f fd) (hm : mg "look_at_parts" = some (.ref f)) : Def P w K mg base 1 "look_at_parts" dd_look_at_parts (W_look_at_parts M) := by
  refine Def.of hm Dd.kp (okG (k := 0) Dd sc_look_at_parts (fun ds R h => by unfold W_look_at_parts at h; obtain ⟨_, h⟩ := h; obtain ⟨rfl, _⟩ := h; rfl) (fun cdv A outer s H hr hG => ⟨_, (dss_cons (ds_if (dt_not (dt_val (de_callB call_isi (cd_isT (T := "list")) rfl M.b_isinstance PyProof.Rows.boot_isinstance (da_cons (de_tVar (pv 0)) (da_cons (de_bltn (v := .ty "list") rfl M.b_list PyProof.Rows.boot_list rfl) da_nil))))) dss_never dss_nil) (dss_cons (ds_if (dt_cmp op_gt od_gt (de_callB cr_len cd_len rfl M.b_len PySem.boot_len (da_cons (de_tVar (pv 0)) da_nil)) (de_glob (d := .int 60) (v := .int 60) (fun _ => rfl) rfl M.c_MOST ⟨_, rfl⟩) (nomark _)) dss_never dss_nil) (dss_cons (ds_for PassesOwn.never rfl (di_enum M.b_enumerate (de_tVar (pv 0))) (dg_tp rfl (dgs_cons (dg_nm (i := 1) sc_look_at_parts.nd) (dgs_cons (dg_nm (i := 2) sc_look_at_parts.nd) dgs_nil))) (dss_cons (ds_if (dt_not (dt_val (de_callB call_isi (cd_isC (C := M.C_Part)) rfl M.b_isinstance PyProof.Rows.boot_isinstance (da_cons (de_tVar (pv 2)) (da_cons (de_glob (d := .raw (.ref M.C_Part)) (v := .ref M.C_Part) (fun _ => rfl) rfl M.k_Part rfl) da_nil))))) dss_never dss_nil) dss_nil)) dss_nil))), fun ds R h => ?_⟩)) (nods (Dd.bindsN fun _ _ _ _ _ _ us hl => match us, hl with | [_], _ => rfl)) fun _ => DpL.nil
  unfold W_look_at_parts at h
  obtain ⟨ps, rfl, hl, h⟩ := h
  walk_at "dl"
  rw [decide_eq_false (show ¬ (60 : Int) < ((ps.map (ptD M)).length : Nat) by simp; omega)]
  walk_at "dl"
  refine forD_ind (fun ds ρ => ∃ a b : Option RD, (∀ d ∈ ds, ∃ k p, d = .tup [.int k, ptD M p]) ∧ ρ = [some (.d (.lst (ps.map (ptD M)))), a, b]) ?_ ?_ ⟨_, _, ?_, rfl⟩
  · rintro ρ ⟨a, b, -, rfl⟩
    exact h
  · rintro d ds ρ U ⟨a, b, hd, rfl⟩ hU
    obtain ⟨k, p, rfl⟩ := hd d List.mem_cons_self
    walk_at "dl"
    refine ⟨rfl, true, M.isaP, ?_⟩
    walk_at "dl"
    exact hU _ ⟨_, _, fun d hd' => hd d (List.mem_cons_of_mem _ hd'), rfl⟩
  · intro d hd
    obtain ⟨j, hj⟩ := List.mem_iff_getElem?.mp hd
    obtain ⟨x, hx, rfl⟩ := pairs_at _ _ _ _ hj
    obtain ⟨p, _, rfl⟩ := List.mem_map.mp (List.mem_of_getElem? hx)
    exact ⟨_, p, rfl⟩
end
end K20
end
section
set_option Elab.async false
set_option linter.all false
set_option maxRecDepth 100000
set_option maxHeartbeats 1000000
set_option exponentiation.threshold 20000
namespace K20
open PySem PySem.Spec L2 DL
local macro_rules | `(tactic| walk_at "dl") => `(tactic| try simp only [dSeq, dIfS, dRet, dRetN, dRetV, dAsg, dExpr, dNever, dNext, dVar, dC, dBin, dUn, dTest, dNot, dAnd, dOr, dAndV, dOrV, dNotV, dIf, dCall, dCons, dNil, dBreak, rdVar_d, rdVar_lst, rdVar_ins, rtVar_d, rtVar_lst, toD_d, toD_lst, toD_ins, toDo_lst, asBl_bl, asInt_int, asLst_lst, wTup_eq, wLst_eq, startR, List.map, List.length, List.getElem?_cons_zero, List.getElem?_cons_succ, List.set_cons_zero, List.set_cons_succ, List.replicate, List.cons_append, List.nil_append, List.append_nil, wIsT, D.kd, kit_ii, kit_ib, kit_bi, kit_bb, kit_ll, kit_tt, kit_ss, kit_nl, kit_ni, kit_it, kit_nt, dZip, dPar3, dUnl2, eqE, neE, wTuple, wSorted, Nat.reduceAdd, Nat.reduceSub, Nat.reduceLeDiff, Bool.not_true, Bool.not_false, true_and, and_true, addD_int, addD_lst, mulD_int, mulD_lst, int0_int, intD_int, negD_int, ixT0, ixT1, ixT2, ixT3, lenD_lst, isND_non, notND_non, isNon_non, isNon_int, isNon_bl, isNon_tup, isNon_lst, isNon_ins, dChain, dWhile, dPar, eqD, neD, pl_int, pl_non, pl_bl, eqv_int, dFor, bindPat, bindPats, dItL, dItT, dItS, dRng1, dRng2, dEnum, dLenV, dIxV, dApp, dSetIx, dInsert, atOwn_zero, atOwn_succ, atD_zero, atD_succ, atDt_zero, atDt_succ, atSlf_zero, dRev, dSl, dPart0, dPart, dOrT, dAsgP, dComp, dAug, dRetP, retP_lst, startI, asIns_ins, slfEnd_eq, dSelf, dFld, dMeth, dMake, wIsC, wSum,  dUnpackP, dInDt, dPutDt, dDictT, wInt1_int, wInt1_bl, wAbs_int, wMax2_int, wMin2_int, wList_lst, wLen_lst, wLen_str, bagAt0, dBag, dPick, dAugBag, dSetBag])
local macro_rules | `(tactic| walk_at "br") => `(tactic| (split <;> rename_i hb <;> (first | replace hb := of_decide_eq_true hb | replace hb := of_decide_eq_false hb | skip)))
theorem caps_snoc (P : Wy → Bool) (dn : List Wy) (y : Wy) : caps ((dn ++ [y]).filter fun z => !P z) = caps (dn.filter fun z => !P z) + (if P y then 0 else cap y) := by
  unfold caps
  rw [List.filter_append, List.map_append, rs_append]
  congr 1
  cases h : P y
  · rw [List.filter_cons_of_pos (by simp [h])]
    simp only [List.filter_nil, List.map_cons, List.map_nil, rs, Bool.false_eq_true, if_false]
    exact Rat.add_zero _
  · rw [List.filter_cons_of_neg (by simp [h])]
    rfl
theorem capsI_bnd {C : Int} (hC : 0 ≤ C) : ∀ {ws : List Wy}, (∀ y ∈ ws, ∀ c, y.2 = some c → 0 ≤ c ∧ c ≤ C) → 0 ≤ capsI ws ∧ capsI ws ≤ ws.length * C
  | [], _ => by simp [capsI]
  | y :: ws, h => by
    have ih := capsI_bnd hC (ws := ws) fun z m => h z (List.mem_cons_of_mem _ m)
    have := h y List.mem_cons_self
    unfold capsI at *
    simp only [List.map_cons, List.sum_cons, List.length_cons]
    rw [show (((ws.length + 1 : Nat) : Int)) * C = ws.length * C + C by push_cast; rw [Int.add_mul, Int.one_mul]]
    cases hy : y.2 with
    | none => simp only; omega
    | some c => have := this c hy; simp only; omega
section
variable {P : Program} {w : World} {K : PySem.W.Frag} {mg : Str → Option Value} {base : Heap} {f : Addr} {fd : FuncData}
def W_price_for (M : Md K mg) : ON := fun ds R => ∃ (ws : List Wy) (a : Rat) (d : Nat), ds = [.lst (ws.map wyD), frR a] ∧ ws.length ≤ 60 ∧ OkW (free ws) ∧ (∀ y ∈ free ws, y.1 ≤ 1000 ∧ ∀ c, y.2 = some c → c ≤ 1000000000000) ∧ 0 < a ∧ Bn d 51 a ∧ d ≤ 1400 ∧ R (.d (frO (priceFor ws a)))
/-- what is left, in the steps -/
structure Lf (d : Nat) (a x : Rat) : Prop where
  d : x.den ≤ 2 ^ d
  lo : -((2 ^ 60 : Nat) : Rat) ≤ x
  hi : x ≤ a
theorem Lf.bn {d : Nat} {a x : Rat} (h : Lf d a x) (ha : Bn d 51 a) : Bn d 60 x := ⟨h.d, h.lo, by
  have := ha.hi
  have := pow_le (show 51 ≤ 60 by decide)
  have := h.hi
  grind⟩
/-! price_for -/
theorem sc_price_for : FnScope ["ways", "amount", "free", "left", "weight", "price", "stay", "way"] ["ways", "amount"] (defScope s24) := ⟨rfl, rfl, rfl, by decide +kernel, rfl, by decide +kernel, by decide +kernel⟩
abbrev dd_price_for : List D := []
abbrev lv_price_for : Nat := 4
theorem def_price_for (M : Md K mg) (Dd : FunD K "price_for" "price_for" (defArgs s24) (defBody s24) (defScope s24) [] [] f fd) (hm : mg "price_for" = some (.ref f)) (G_minus : Def P w K mg base 3 "minus" dd_minus (W_minus M)) (G_fraction : Def P w K mg base 2 "fraction" dd_fraction (W_fraction M)) : Def P w K mg base 4 "price_for" dd_price_for (W_price_for M) := by
  refine Def.of hm Dd.kp (okG (k := 3) Dd sc_price_for (fun ds R h => by unfold W_price_for at h; obtain ⟨_, h⟩ := h; obtain ⟨_, h⟩ := h; obtain ⟨_, h⟩ := h; obtain ⟨rfl, _⟩ := h; rfl) (fun cdv A outer s H hr hG => ⟨_, (dss_cons (ds_setLc (i := 2) (own := [("way", 7)]) rfl sc_price_for.nd rfl (sw_true rfl rfl rfl (by decide +kernel)) (di_lst (de_tVar (pv 0))) (blkOk_by (N := ["ways", "amount", "free", "left", "weight", "price", "stay", "way"]) (sc := defScope s24) (by decide +kernel)) (fun _ _ _ _ _ => (dg_nm (i := 7) sc_price_for.nd)) (fun _ _ _ _ _ => (dts_one (dt_cmp op_gt od_gt (de_ix (de_tVar (pv 7)) de_int) de_int (nomark _)))) (fun _ _ _ _ _ => (de_tVar (pv 7)))) (dss_cons (ds_set (i := 3) sc_price_for.nd (de_tVar (pv 1))) (dss_cons (ds_while PassesOwn.never (dt_cmp op_gt od_gt (de_callB cr_len cd_len rfl M.b_len PySem.boot_len (da_cons (de_tVar (pv 2)) da_nil)) de_int (nomark _)) (dss_cons (ds_set (i := 4) sc_price_for.nd (de_callB (cr_sum rfl) cd_sum rfl M.b_sum PyProof.Rows.boot_sum (da_cons (de_lc (own := [("way", 7)]) rfl sc_price_for.nd (di_lst (de_tVar (pv 2))) (blkOk_by (N := ["ways", "amount", "free", "left", "weight", "price", "stay", "way"]) (sc := defScope s24) (by decide +kernel)) (fun _ _ _ _ _ => (dg_nm (i := 7) sc_price_for.nd)) (fun _ _ _ _ _ => dts_nil) (fun _ _ _ _ _ => (de_ix (de_tVar (pv 7)) de_int))) da_nil))) (dss_cons (ds_set (i := 5) sc_price_for.nd (de_call (G_fraction.mono (by decide)) hr hG (da_cons (de_ix (de_tVar (pv 3)) de_int) (da_cons (de_bin op_mulA od_mul (de_ix (de_tVar (pv 3)) de_int) (de_tVar (pv 4))) da_nil)))) (dss_cons (ds_set (i := 6) sc_price_for.nd (de_lst da_nil)) (dss_cons (ds_for PassesOwn.never rfl (di_lst (de_tVar (pv 2))) (dg_nm (i := 7) sc_price_for.nd) (dss_cons (ds_if (PW.pt (dw_or (dt_cmp op_isNA od_isN (de_ix (de_tVar (pv 7)) de_int) de_non (nomark _)) (dw_or1 (dt_cmp op_le od_le (de_bin op_mulA od_mul (de_ix (de_tVar (pv 7)) de_int) (de_ix (de_tVar (pv 5)) de_int)) (de_bin op_mulA od_mul (de_ix (de_tVar (pv 7)) de_int) (de_ix (de_tVar (pv 5)) de_int)) (nomark _))))) (dss_cons (ds_expr (de_app (pv 6) (de_tVar (pv 7)))) dss_nil) (dss_cons (ds_set (i := 3) sc_price_for.nd (de_call (G_minus.mono (by decide)) hr hG (da_cons (de_tVar (pv 3)) (da_cons (de_tup (da_cons (de_ix (de_tVar (pv 7)) de_int) (da_cons de_int da_nil))) da_nil)))) dss_nil)) dss_nil)) (dss_cons (ds_if (dt_cmp (op_eqD (hu64 hr)) od_eq (de_lenV M.b_len (pv 6)) (de_callB cr_len cd_len rfl M.b_len PySem.boot_len (da_cons (de_tVar (pv 2)) da_nil)) (nomark _)) (dss_cons (ds_ret (de_tVar (pv 5))) dss_nil) dss_nil) (dss_cons (ds_set (i := 2) sc_price_for.nd (de_tVar (pv 6))) dss_nil))))))) (dss_cons (ds_ret de_non) dss_nil)))), fun ds R h => ?_⟩)) (nods (Dd.bindsN fun _ _ _ _ _ _ us hl => match us, hl with | [_, _], _ => rfl)) fun _ => DpL.nil
  unfold W_price_for at h
  obtain ⟨ws, a, d, rfl, hl, okw, hy, a0, ab, hd, h⟩ := h
  have hfl : (free ws).length ≤ ws.length := List.length_filter_le _ _
  unfold priceFor at h
  generalize hT : pf (ws.length + 1) (free ws) a = T at h
  walk_at "dl"
  refine comp_gen posF ?_ _ _ (by simp; omega) ?_ ?_
  · exact ⟨trivial, trivial⟩
  · intro d hd U V hU hV
    obtain ⟨x, hx', rfl⟩ := List.mem_map.mp hd
    simp only [wipeR]
    unfold wyD
    walk_at "dl"
    split
    · rename_i hb
      exact hU _ _ (by simp [posF, wyD, toD_d, of_decide_eq_true hb]) rfl
    · rename_i hb
      exact hV _ (by have := of_decide_eq_false hb; simp [posF, wyD]; omega) rfl
  rw [List.nil_append, posF_map]
  walk_at "dl"
  refine ⟨fun m ρ => ∃ (X : List Wy) (l : Rat) (fr : RD) (b1 b2 b3 b4 : Option RD), pf (m + 1) X l = T ∧ X.length ≤ m ∧ X.length ≤ 60 ∧ (∀ y ∈ X, y ∈ free ws) ∧ (X ≠ [] → 0 < l) ∧ Lf d a l ∧ (b4 = none ∨ ∃ z, b4 = some (.d z)) ∧
    (fr = RD.o (.lst (X.map wyD)) ∨ fr = .d (.lst (X.map wyD))) ∧ ρ = [some (.d (.lst (ws.map wyD))), some (.d (frR a)), some fr, some (.d (frR l)), b1, b2, b3, b4], ⟨ws.length, free ws, a, _, _, _, _, _, hT, by omega, by omega, fun _ m => m, fun _ => a0, ⟨ab.d, ?_, Rat.le_refl⟩, .inl rfl, .inl rfl, rfl⟩, ?_⟩
  · have : -((2 ^ 60 : Nat) : Rat) ≤ 0 := by
      have : (0 : Rat) ≤ ((2 ^ 60 : Nat) : Rat) := by exact_mod_cast Nat.zero_le _
      grind
    grind
  rintro m ρ ⟨X, l, fr, b1, b2, b3, b4, hpf, hXm, hX60, hsub, hl0, hL, hb4, hfr, rfl⟩
  rcases hfr with rfl | rfl <;> rcases hb4 with rfl | ⟨z4, rfl⟩
  all_goals
    walk_at "dl"
    cases hf : X with
    | nil =>
      walk_at "dl"
      have hn : pf (m + 1) X l = none := by rw [hf]; rfl
      rw [← hpf, hn] at h
      exact h
    | cons x0 xs0 =>
      have hne : X ≠ [] := by rw [hf]; simp
      have l0 := hl0 hne
      have okX : OkW X := ⟨fun y m => okw.w y (hsub y m), fun y m => okw.c y (hsub y m)⟩
      have hw0 := wsum_pos okX.w hne
      have hw1 := wsum_le (ws := X) fun y m => (hy y (hsub y m)).1
      have lbn := hL.bn ab
      have lw := bnW lbn
      obtain ⟨st1, st2⟩ := pf_step okX l0 hne
      obtain ⟨lp1, lp2⟩ := left_pos okX l0 hne
      have hpf2 := hpf
      rw [← hf]
      unfold pf at hpf
      rw [if_neg (by simpa using hne)] at hpf
      rw [decide_eq_true (show (0 : Int) < ((X.map wyD).length : Nat) by rw [hf]; simp)]
      walk_at "dl"
      refine comp_map fstF ⟨trivial, trivial⟩ (by simp; omega) ?_ ?_
      · intro d hd U hU
        obtain ⟨x, hx', rfl⟩ := List.mem_map.mp hd
        simp only [wipeR]
        unfold wyD
        walk_at "dl"
        exact hU _ _ rfl rfl
      rw [fstF_map]
      walk_at "dl"
      rw [asInts_map]
      rw [frR_eq l]
      walk_at "dl"
      have hwe : (X.map fun y => y.1).sum = wsum X := rfl
      rw [hwe]
      have hdw : (l.den : Int) * wsum X < 2 ^ 8000 := by
        have := (sq_8000 lw (w := 0) (by decide) (by decide)).1
        have z1 : l.den * (wsum X).toNat < 2 ^ 3500 * 2 ^ 20 := Nat.mul_lt_mul'' lw.1 (by omega)
        rw [← Nat.pow_add] at z1
        have z2 : l.den * (wsum X).toNat < 2 ^ 8000 := Nat.lt_trans z1 (Nat.pow_lt_pow_right (by decide) (by decide))
        have z3 : (l.den : Int) * ((wsum X).toNat : Int) < 2 ^ 8000 := by exact_mod_cast z2
        rwa [show ((wsum X).toNat : Int) = wsum X by omega] at z3
      refine ⟨mul_ok lw.d (lt_8000 (by omega)), _, _, rfl, Int.mul_pos (den_pos l) hw0, hdw, ?_⟩
      rw [over_rat l hw0]
      have pden := den_over l hw0
      generalize hp : l / (wsum X : Rat) = p at *
      have pw : wee p := by
        have pl : p ≤ l := by
          have := mulMono (Rat.le_of_lt st1) (show (1 : Rat) ≤ (wsum X : Rat) by have := ri.mpr (show 1 ≤ wsum X by omega); exact_mod_cast this)
          grind
        have pd : p.den ≤ 2 ^ (d + 20) := by
          have z1 : l.den * (wsum X).toNat ≤ 2 ^ d * 2 ^ 20 := Nat.mul_le_mul hL.d (by omega)
          rw [← Nat.pow_add] at z1
          have z3 : (l.den : Int) * ((wsum X).toNat : Int) ≤ ((2 ^ (d + 20) : Nat) : Int) := by exact_mod_cast z1
          rw [show ((wsum X).toNat : Int) = wsum X by omega] at z3
          omega
        refine bnW (d := d + 20) (v := 60) ⟨pd, ?_, ?_⟩
        · have := hL.lo
          have : (0 : Rat) ≤ ((2 ^ 60 : Nat) : Rat) := by exact_mod_cast Nat.zero_le _
          grind
        · have := lbn.hi; grind
      walk_at "dl"
      refine forD_ind (fun ds ρ => ∃ (dn rest : List Wy) (L : List D) (l' : Rat) (b : Option RD), ds = rest.map wyD ∧ X = dn ++ rest ∧ L = (dn.filter (keep p)).map wyD ∧ l' = l - caps (dn.filter fun y => !keep p y) ∧ (b = none ∨ ∃ z, b = some (.d z)) ∧ ρ = [some (.d (.lst (ws.map wyD))), some (.d (frR a)), some (.d (.lst (X.map wyD))), some (.d (frR l')), some (.d (.int (wsum X))), some (.d (frR p)), some (.o (.lst L)), b]) ?_ ?_ ⟨[], X, _, _, _, rfl, rfl, rfl, by show l = l - (0 : Rat); grind, by first | exact .inl rfl | exact .inr ⟨_, rfl⟩, rfl⟩
      · rintro ρ ⟨dn, rest, L, l', b, e1, e2, rfl, e5, hbb, rfl⟩
        have e3 : rest = [] := by simpa using e1.symm
        subst e3
        rw [List.append_nil] at e2
        subst e2
        subst e5
        walk_at "dl"
        have hlen : ((((X.filter (keep p)).map wyD).length : Nat) : Int) = (((X.map wyD).length : Nat) : Int) ↔ (X.filter (keep p)).length = X.length := by rw [List.length_map, List.length_map]; omega
        split
        · rename_i hb
          have hb := hlen.mp (of_decide_eq_true hb)
          rw [if_pos hb] at hpf
          rw [← hpf] at h
          exact h
        · rename_i hb
          have hb : ¬ (X.filter (keep p)).length = X.length := fun q => of_decide_eq_false hb (hlen.mpr q)
          rw [if_neg hb] at hpf
          have hlt : (X.filter (keep p)).length < X.length := Nat.lt_of_le_of_ne (List.length_filter_le _ _) hb
          have e7 := caps_int (X.filter fun y => !keep p y)
          have e8 := capsI_nn (okX.filter fun y => !keep p y)
          refine ⟨m - 1, by omega, X.filter (keep p), l - caps (X.filter fun y => !keep p y), _, _, _, _, _, by rw [show m - 1 + 1 = m by omega]; exact hpf, by omega, by omega, fun y my => hsub y (List.mem_filter.mp my).1, fun _ => lp2 hb, ⟨?_, ?_, ?_⟩, ?_, .inr rfl, rfl⟩
          · rw [e7]; exact Nat.le_trans (den_sub_int _ _) hL.d
          · have := lp2 hb
            have : (0 : Rat) ≤ ((2 ^ 60 : Nat) : Rat) := by exact_mod_cast Nat.zero_le _
            grind
          · have := hL.hi
            have := ratnn e8
            rw [e7]
            grind
          · exact hbb
      · rintro d0 ds ρ U ⟨dn, rest, L, l', b, e1, e2, rfl, rfl, hbb, rfl⟩ hU
        cases rest with
        | nil => cases e1
        | cons x rest =>
          cases e1
          have hmx : x ∈ X := by rw [e2]; simp
          have hxy := hy x (hsub x hmx)
          have hxw := okX.w x hmx
          have hdl : dn.length ≤ X.length := by rw [e2]; simp
          have sn := caps_snoc (keep p) dn x
          rw [show wyD x = .tup [.int x.1, optD x.2] from rfl, frR_eq p]
          cases hg : x.2 with
          | none =>
            have hk : keep p x = true := by unfold keep; rw [hg]
            rw [hk, if_pos rfl] at sn
            simp only [optD]
            walk_at "dl"
            refine ⟨?_, hU _ ⟨dn ++ [x], rest, _, _, _, rfl, by rw [e2]; simp, ?_, ?_, .inr ⟨_, rfl⟩, rfl⟩⟩
            · have := List.length_filter_le (keep p) dn
              simp; omega
            · rw [List.filter_append, List.filter_cons_of_pos hk, List.map_append]; simp [wyD, hg, optD]
            · rw [sn]; grind
          | some c =>
            have hc := hxy.2 c hg
            have hc0 := okX.c x hmx c hg
            simp only [optD]
            walk_at "dl"
            refine ⟨mul_ok (lt_8000 (by omega)) pw.n, mul_ok (lt_8000 (by omega)) pw.d, ?_⟩
            rw [le_num]
            have hk : keep p x = decide ((x.1 : Rat) * p ≤ (c : Rat)) := by unfold keep; rw [hg]
            rw [← hk]
            cases hkk : keep p x with
            | true =>
              rw [hkk, if_pos rfl] at sn
              walk_at "dl"
              refine ⟨?_, hU _ ⟨dn ++ [x], rest, _, _, _, rfl, by rw [e2]; simp, ?_, ?_, .inr ⟨_, rfl⟩, rfl⟩⟩
              · have := List.length_filter_le (keep p) dn
                simp; omega
              · rw [List.filter_append, List.filter_cons_of_pos hkk, List.map_append]; simp [wyD, hg, optD]
              · rw [sn]; grind
            | false =>
              rw [hkk] at sn
              simp only [Bool.false_eq_true, if_false] at sn
              walk_at "dl"
              have hcc : cap x = (c : Rat) := by unfold cap; rw [hg]
              have e7 := caps_int (dn.filter fun y => !keep p y)
              obtain ⟨g1, g2⟩ := capsI_bnd (C := 1000000000000) (by decide) (ws := dn.filter fun y => !keep p y) fun y my c hc => by
                have my' : y ∈ X := by rw [e2]; exact List.mem_append_left _ (List.mem_filter.mp my).1
                exact ⟨okX.c y my' c hc, (hy y (hsub y my')).2 c hc⟩
              have g3 : ((dn.filter fun y => !keep p y).length : Int) ≤ 60 := by
                have := List.length_filter_le (fun y => !keep p y) dn
                omega
              have g4 : capsI (dn.filter fun y => !keep p y) ≤ 60 * 1000000000000 := by omega
              have lbw : wee (l - caps (dn.filter fun y => !keep p y)) := by
                rw [e7]
                exact bnW (lbn.sub (Bn.int (v := 60) (by omega)))
              refine ⟨_, (c : Rat), rfl, lbw, int_wee (by omega), ?_⟩
              refine hU _ ⟨dn ++ [x], rest, (dn.filter (keep p)).map wyD, l - caps (dn.filter fun y => !keep p y) - (c : Rat), some (.d (.tup [.int x.1, .int c])), rfl, by rw [e2]; simp, ?_, ?_, .inr ⟨_, rfl⟩, rfl⟩
              · rw [List.filter_append, List.filter_cons_of_neg (by rw [hkk]; simp)]; simp
              · rw [sn, hcc]; grind
end
end K20
end
section
set_option Elab.async false
set_option linter.all false
set_option maxRecDepth 100000
set_option maxHeartbeats 1000000
set_option exponentiation.threshold 20000
namespace K20
open PySem PySem.Spec L2 DL
local macro_rules | `(tactic| walk_at "dl") => `(tactic| try simp only [dSeq, dIfS, dRet, dRetN, dRetV, dAsg, dExpr, dNever, dNext, dVar, dC, dBin, dUn, dTest, dNot, dAnd, dOr, dAndV, dOrV, dNotV, dIf, dCall, dCons, dNil, dBreak, rdVar_d, rdVar_lst, rdVar_ins, rtVar_d, rtVar_lst, toD_d, toD_lst, toD_ins, toDo_lst, asBl_bl, asInt_int, asLst_lst, wTup_eq, wLst_eq, startR, List.map, List.length, List.getElem?_cons_zero, List.getElem?_cons_succ, List.set_cons_zero, List.set_cons_succ, List.replicate, List.cons_append, List.nil_append, List.append_nil, wIsT, D.kd, kit_ii, kit_ib, kit_bi, kit_bb, kit_ll, kit_tt, kit_ss, kit_nl, kit_ni, kit_it, kit_nt, dZip, dPar3, dUnl2, eqE, neE, wTuple, wSorted, Nat.reduceAdd, Nat.reduceSub, Nat.reduceLeDiff, Bool.not_true, Bool.not_false, true_and, and_true, addD_int, addD_lst, mulD_int, mulD_lst, int0_int, intD_int, negD_int, ixT0, ixT1, ixT2, ixT3, lenD_lst, isND_non, notND_non, isNon_non, isNon_int, isNon_bl, isNon_tup, isNon_lst, isNon_ins, dChain, dWhile, dPar, eqD, neD, pl_int, pl_non, pl_bl, eqv_int, dFor, bindPat, bindPats, dItL, dItT, dItS, dRng1, dRng2, dEnum, dLenV, dIxV, dApp, dSetIx, dInsert, atOwn_zero, atOwn_succ, atD_zero, atD_succ, atDt_zero, atDt_succ, atSlf_zero, dRev, dSl, dPart0, dPart, dOrT, dAsgP, dComp, dAug, dRetP, retP_lst, startI, asIns_ins, slfEnd_eq, dSelf, dFld, dMeth, dMake, wIsC, wSum,  dUnpackP, dInDt, dPutDt, dDictT, wInt1_int, wInt1_bl, wAbs_int, wMax2_int, wMin2_int, wList_lst, wLen_lst, wLen_str, bagAt0, dBag, dPick, dAugBag, dSetBag])
local macro_rules | `(tactic| walk_at "br") => `(tactic| (split <;> rename_i hb <;> (first | replace hb := of_decide_eq_true hb | replace hb := of_decide_eq_false hb | skip)))
/-- small enough to be put together -/
def Sm (xs : List Rat) : Prop := ∃ d v n, xs.length ≤ n ∧ (∀ x ∈ xs, Bn d v x) ∧ d * n ≤ 3000 ∧ v + n ≤ 199 ∧ d ≤ 3000
theorem Sm.len {xs : List Rat} (h : Sm xs) : xs.length ≤ 199 := by
  obtain ⟨d, v, n, a, -, -, b, -⟩ := h
  omega
theorem Sm.wee {xs : List Rat} (h : Sm xs) {x : Rat} (m : x ∈ xs) : wee x := by
  obtain ⟨d, v, n, a, b, c, e, f⟩ := h
  exact bnW (b x m)
theorem Sm.pre {xs dn rest : List Rat} (h : Sm xs) (e : xs = dn ++ rest) : K20.wee (rs dn) := by
  obtain ⟨d, v, n, a, b, c, g, f⟩ := h
  subst e
  have := rs_bn (d := d) (v := v) (k := n) (xs := dn) (fun x m => b x (List.mem_append_left _ m)) (by simp at a; omega)
  exact bnW this
theorem rs_snoc (dn : List Rat) (x : Rat) : rs (dn ++ [x]) = rs dn + x := by
  rw [rs_append]
  congr 1
  exact Rat.add_zero _
theorem rs_snoc2 (dn : List Rat) (x : Rat) (rest : List Rat) : dn ++ x :: rest = (dn ++ [x]) ++ rest := by simp
def edR : Rat → List Rat → List Int
  | _, [] => []
  | t, x :: xs => (t + x).floor :: edR (t + x) xs
theorem edR_len : ∀ (t : Rat) (xs : List Rat), (edR t xs).length = xs.length
  | _, [] => rfl
  | t, x :: xs => by simp [edR, edR_len]
theorem neg_frR (x : Rat) : frR (-x) = .tup [.int (-x.num), .int (x.den : Int)] := by rw [frR_eq, Rat.neg_num, Rat.neg_den]
def ga (vs : List Int) (i : Nat) : Int := (vs[i]?).getD 0
theorem ga_at {vs : List Int} {i : Nat} (h : i < vs.length) : atI (vs.map D.int) (i : Int) = some (.int (ga vs i)) := by
  refine L2.atI_nat ?_
  rw [List.getElem?_map, List.getElem?_eq_getElem h]
  unfold ga
  rw [List.getElem?_eq_getElem h]
  rfl
/-- what is between neighbours -/
def gaps : List Int → List Int
  | a :: b :: r => (b - a) :: gaps (b :: r)
  | _ => []
theorem gaps_len : ∀ (a : Int) (r : List Int), (gaps (a :: r)).length = r.length
  | a, [] => rfl
  | a, b :: r => by simp [gaps, gaps_len]
theorem gaps_at : ∀ (xs : List Int) (k : Nat), k + 1 < xs.length → (gaps xs)[k]? = some (ga xs (k + 1) - ga xs k)
  | [], k, h => by simp at h
  | [a], k, h => by simp at h
  | a :: b :: r, 0, h => by simp [gaps, ga]
  | a :: b :: r, k + 1, h => by
    have := gaps_at (b :: r) k (by simpa using h)
    simpa [gaps, ga] using this
section
variable {P : Program} {w : World} {K : PySem.W.Frag} {mg : Str → Option Value} {base : Heap} {f : Addr} {fd : FuncData}
def W_together (M : Md K mg) : ON := fun ds R => ∃ xs : List Rat, ds = [.lst (xs.map frR)] ∧ Sm xs ∧ R (.d (frR (rs xs)))
/-! together -/
theorem sc_together : FnScope ["fractions", "total", "one"] ["fractions"] (defScope s15) := ⟨rfl, rfl, rfl, by decide +kernel, rfl, by decide +kernel, by decide +kernel⟩
abbrev dd_together : List D := []
abbrev lv_together : Nat := 4
theorem def_together (M : Md K mg) (Dd : FunD K "together" "together" (defArgs s15) (defBody s15) (defScope s15) [] [] f fd) (hm : mg "together" = some (.ref f)) (G_plus : Def P w K mg base 3 "plus" dd_plus (W_plus M)) : Def P w K mg base 4 "together" dd_together (W_together M) := by
  refine Def.of hm Dd.kp (okG (k := 3) Dd sc_together (fun ds R h => by unfold W_together at h; obtain ⟨_, h⟩ := h; obtain ⟨rfl, _⟩ := h; rfl) (fun cdv A outer s H hr hG => ⟨_, (dss_cons (ds_set (i := 1) sc_together.nd (de_tup (da_cons de_int (da_cons de_int da_nil)))) (dss_cons (ds_for PassesOwn.never rfl (di_lst (de_tVar (pv 0))) (dg_nm (i := 2) sc_together.nd) (dss_cons (ds_set (i := 1) sc_together.nd (de_call (G_plus.mono (by decide)) hr hG (da_cons (de_tVar (pv 1)) (da_cons (de_tVar (pv 2)) da_nil)))) dss_nil)) (dss_cons (ds_ret (de_tVar (pv 1))) dss_nil))), fun ds R h => ?_⟩)) (nods (Dd.bindsN fun _ _ _ _ _ _ us hl => match us, hl with | [_], _ => rfl)) fun _ => DpL.nil
  unfold W_together at h
  obtain ⟨xs, rfl, hs, h⟩ := h
  walk_at "dl"
  refine forD_ind (fun ds ρ => ∃ (dn rest : List Rat) (a : Option RD), ds = rest.map frR ∧ xs = dn ++ rest ∧ ρ = [some (.d (.lst (xs.map frR))), some (.d (frR (rs dn))), a]) ?_ ?_ ⟨[], xs, _, rfl, rfl, rfl⟩
  · rintro ρ ⟨dn, rest, a, e1, e2, rfl⟩
    have e3 : rest = [] := by simpa using e1.symm
    subst e3
    rw [List.append_nil] at e2
    subst e2
    walk_at "dl"
    exact h
  · rintro d ds ρ U ⟨dn, rest, a, e1, e2, rfl⟩ hU
    cases rest with
    | nil => cases e1
    | cons x rest =>
      cases e1
      walk_at "dl"
      refine ⟨rs dn, x, rfl, hs.pre e2, hs.wee (by rw [e2]; simp), hU _ ⟨dn ++ [x], rest, some (.d (frR x)), rfl, by rw [e2]; simp, ?_⟩⟩
      rw [rs_snoc]
def W_edges_of (M : Md K mg) : ON := fun ds R => ∃ xs : List Rat, ds = [.lst (xs.map frR)] ∧ Sm xs ∧ R (.o (.lst ((0 :: edR 0 xs).map D.int)))
/-! edges_of -/
theorem sc_edges_of : FnScope ["sizes", "total", "edges", "size"] ["sizes"] (defScope s18) := ⟨rfl, rfl, rfl, by decide +kernel, rfl, by decide +kernel, by decide +kernel⟩
abbrev dd_edges_of : List D := []
abbrev lv_edges_of : Nat := 4
theorem def_edges_of (M : Md K mg) (Dd : FunD K "edges_of" "edges_of" (defArgs s18) (defBody s18) (defScope s18) [] [] f fd) (hm : mg "edges_of" = some (.ref f)) (G_floor_of : Def P w K mg base 1 "floor_of" dd_floor_of (W_floor_of M)) (G_plus : Def P w K mg base 3 "plus" dd_plus (W_plus M)) : Def P w K mg base 4 "edges_of" dd_edges_of (W_edges_of M) := by
  refine Def.of hm Dd.kp (okG (k := 3) Dd sc_edges_of (fun ds R h => by unfold W_edges_of at h; obtain ⟨_, h⟩ := h; obtain ⟨rfl, _⟩ := h; rfl) (fun cdv A outer s H hr hG => ⟨_, (dss_cons (ds_set (i := 1) sc_edges_of.nd (de_tup (da_cons de_int (da_cons de_int da_nil)))) (dss_cons (ds_set (i := 2) sc_edges_of.nd (de_lst (da_cons de_int da_nil))) (dss_cons (ds_for PassesOwn.never rfl (di_lst (de_tVar (pv 0))) (dg_nm (i := 3) sc_edges_of.nd) (dss_cons (ds_set (i := 1) sc_edges_of.nd (de_call (G_plus.mono (by decide)) hr hG (da_cons (de_tVar (pv 1)) (da_cons (de_tVar (pv 3)) da_nil)))) (dss_cons (ds_expr (de_app (pv 2) (de_call (G_floor_of.mono (by decide)) hr hG (da_cons (de_tVar (pv 1)) da_nil)))) dss_nil))) (dss_cons (ds_retV (pv 2)) dss_nil)))), fun ds R h => ?_⟩)) (nods (Dd.bindsN fun _ _ _ _ _ _ us hl => match us, hl with | [_], _ => rfl)) fun _ => DpL.nil
  unfold W_edges_of at h
  obtain ⟨xs, rfl, hs, h⟩ := h
  have hsl := hs.len
  walk_at "dl"
  refine forD_ind (fun ds ρ => ∃ (dn rest : List Rat) (L : List Int) (a : Option RD), ds = rest.map frR ∧ xs = dn ++ rest ∧ L.length = dn.length + 1 ∧ 0 :: edR 0 xs = L ++ edR (rs dn) rest ∧ ρ = [some (.d (.lst (xs.map frR))), some (.d (frR (rs dn))), some (.o (.lst (L.map D.int))), a]) ?_ ?_ ⟨[], xs, [0], _, rfl, rfl, rfl, rfl, rfl⟩
  · rintro ρ ⟨dn, rest, L, a, e1, e2, e3, e5, rfl⟩
    have e4 : rest = [] := by simpa using e1.symm
    subst e4
    walk_at "dl"
    rw [e5] at h
    simpa [edR] using h
  · rintro d ds ρ U ⟨dn, rest, L, a, e1, e2, e3, e5, rfl⟩ hU
    cases rest with
    | nil => cases e1
    | cons x rest =>
      cases e1
      have hdl : dn.length + (rest.length + 1) ≤ 199 := by have := congrArg List.length e2; simp at this; omega
      have pw := hs.pre (e2.trans (rs_snoc2 dn x rest))
      walk_at "dl"
      refine ⟨rs dn, x, rfl, hs.pre e2, hs.wee (by rw [e2]; simp), ?_⟩
      rw [rs_snoc] at pw
      walk_at "dl"
      refine ⟨_, rfl, pw, ?_⟩
      walk_at "dl"
      refine ⟨by simp; omega, hU _ ⟨dn ++ [x], rest, L ++ [(rs dn + x).floor], some (.d (frR x)), rfl, by rw [e2]; simp, by simp; omega, by rw [e5, rs_snoc]; simp [edR], ?_⟩⟩
      rw [rs_snoc]
      simp
def W_wholes_of (M : Md K mg) : ON := fun ds R => ∃ xs : List Rat, ds = [.lst (xs.map frR)] ∧ Sm xs ∧ R (.o (.lst ((gaps (0 :: edR 0 xs)).map D.int)))
/-! wholes_of -/
theorem sc_wholes_of : FnScope ["sizes", "edges", "k"] ["sizes"] (defScope s19) := ⟨rfl, rfl, rfl, by decide +kernel, rfl, by decide +kernel, by decide +kernel⟩
abbrev dd_wholes_of : List D := []
abbrev lv_wholes_of : Nat := 5
theorem def_wholes_of (M : Md K mg) (Dd : FunD K "wholes_of" "wholes_of" (defArgs s19) (defBody s19) (defScope s19) [] [] f fd) (hm : mg "wholes_of" = some (.ref f)) (G_edges_of : Def P w K mg base 4 "edges_of" dd_edges_of (W_edges_of M)) : Def P w K mg base 5 "wholes_of" dd_wholes_of (W_wholes_of M) := by
  refine Def.of hm Dd.kp (okG (k := 4) Dd sc_wholes_of (fun ds R h => by unfold W_wholes_of at h; obtain ⟨_, h⟩ := h; obtain ⟨rfl, _⟩ := h; rfl) (fun cdv A outer s H hr hG => ⟨_, (dss_cons (ds_set (i := 1) sc_wholes_of.nd (de_call (G_edges_of.mono (by decide)) hr hG (da_cons (de_tVar (pv 0)) da_nil))) (dss_cons (ds_ret (de_lc (own := [("k", 2)]) rfl sc_wholes_of.nd (di_rng1 M.b_range (de_callB cr_len cd_len rfl M.b_len PySem.boot_len (da_cons (de_tVar (pv 0)) da_nil))) (blkOk_by (N := ["sizes", "edges", "k"]) (sc := defScope s19) (by decide +kernel)) (fun _ _ _ _ _ => (dg_nm (i := 2) sc_wholes_of.nd)) (fun _ _ _ _ _ => dts_nil) (fun _ _ _ _ _ => (de_bin op_sub od_sub (de_ix (de_tVar (pv 1)) (de_bin op_addA od_add (de_tVar (pv 2)) de_int)) (de_ix (de_tVar (pv 1)) (de_tVar (pv 2))))))) dss_nil)), fun ds R h => ?_⟩)) (nods (Dd.bindsN fun _ _ _ _ _ _ us hl => match us, hl with | [_], _ => rfl)) fun _ => DpL.nil
  unfold W_wholes_of at h
  obtain ⟨fs, rfl, hs, h⟩ := h
  have hsl := hs.len
  walk_at "dl"
  refine ⟨fs, rfl, hs, ?_⟩
  walk_at "dl"
  refine ⟨by simp; omega, by omega, ?_⟩
  rw [show ((((fs.map frR).length : Nat) : Int)).toNat = fs.length by simp, rngD0]
  have hE : (0 :: edR 0 fs).length = fs.length + 1 := by simp [edR_len]
  refine comp_mapJ (fun d => match d with | .int k => .int (ga (0 :: edR 0 fs) (k.toNat + 1) - ga (0 :: edR 0 fs) k.toNat) | _ => .non) (fun ρ => ∃ e : RD, (e = .o (.lst ((0 :: edR 0 fs).map D.int)) ∨ e = .d (.lst ((0 :: edR 0 fs).map D.int))) ∧ ρ = [some (.d (.lst (fs.map frR))), some e, none]) ?_ _ _ _ ⟨_, .inl rfl, rfl⟩ (by simp; omega) ?_ ?_
  · rintro ρ ⟨e, he, rfl⟩
    exact ⟨trivial, trivial⟩
  · rintro d hd ρ ⟨e, he, rfl⟩ U hU
    obtain ⟨k, hk, rfl⟩ := List.mem_map.mp hd
    have hk : k < fs.length := by simpa using hk
    have a1 := ga_at (vs := 0 :: edR 0 fs) (i := k) (by omega)
    have a2 := ga_at (vs := 0 :: edR 0 fs) (i := k + 1) (by omega)
    rw [show (((k + 1 : Nat) : Int)) = (k : Int) + 1 by push_cast; rfl] at a2
    generalize (0 :: edR 0 fs) = E at *
    rcases he with rfl | rfl
    all_goals
      simp only [wipeR]
      walk_at "dl"
      simp only [ixL_of a1, ixL_of a2]
      walk_at "dl"
      exact hU _ _ rfl ⟨_, .inr rfl, rfl⟩
  · rintro ρ -
    rw [List.nil_append, List.map_map]
    have e : (List.range fs.length).map ((fun d => match d with | .int k => .int (ga (0 :: edR 0 fs) (k.toNat + 1) - ga (0 :: edR 0 fs) k.toNat) | _ => .non) ∘ fun i : Nat => D.int i) = (gaps (0 :: edR 0 fs)).map D.int := by
      apply List.ext_getElem?
      intro i
      rw [List.getElem?_map, List.getElem?_map]
      by_cases hi : i < fs.length
      · rw [List.getElem?_range hi, gaps_at _ _ (by omega)]
        rfl
      · rw [List.getElem?_eq_none (by simp; omega), List.getElem?_eq_none (by rw [gaps_len, edR_len]; omega)]
        rfl
    rw [e]
    exact h
/-! ### the price of a room -/
def W_price_of (M : Md K mg) : ON := fun ds R => ∃ (ps : List Pt) (rm : Rat) (d : Nat), ds = [.lst (ps.map (ptD M)), frR rm] ∧ ps.length ≤ 60 ∧ (∀ p ∈ ps, OkP p) ∧ Bn d 50 rm ∧ d ≤ 1400 ∧ R (.d (frO (priceO ps rm)))
theorem opt_sub (g : Option Int) (b : Int) : optD (match g with | none => none | some g => some (g - b)) = match g with | none => .non | some g => .int (g - b) := by cases g <;> rfl
theorem free_sub {ws : List Wy} {y : Wy} (h : y ∈ free ws) : y ∈ ws := (List.mem_filter.mp h).1
/-! price_of -/
theorem sc_price_of : FnScope ["parts", "room", "more", "price", "ways", "part"] ["parts", "room"] (defScope s25) := ⟨rfl, rfl, rfl, by decide +kernel, rfl, by decide +kernel, by decide +kernel⟩
abbrev dd_price_of : List D := []
abbrev lv_price_of : Nat := 5
theorem def_price_of (M : Md K mg) (Dd : FunD K "price_of" "price_of" (defArgs s25) (defBody s25) (defScope s25) [] [] f fd) (hm : mg "price_of" = some (.ref f)) (G_price_for : Def P w K mg base 4 "price_for" dd_price_for (W_price_for M)) (G_minus : Def P w K mg base 3 "minus" dd_minus (W_minus M)) : Def P w K mg base 5 "price_of" dd_price_of (W_price_of M) := by
  refine Def.of hm Dd.kp (okG (k := 4) Dd sc_price_of (fun ds R h => by unfold W_price_of at h; obtain ⟨_, h⟩ := h; obtain ⟨_, h⟩ := h; obtain ⟨_, h⟩ := h; obtain ⟨rfl, _⟩ := h; rfl) (fun cdv A outer s H hr hG => ⟨_, (dss_cons (ds_set (i := 2) sc_price_of.nd (de_call (G_minus.mono (by decide)) hr hG (da_cons (de_tVar (pv 1)) (da_cons (de_tup (da_cons (de_callB (cr_sum rfl) cd_sum rfl M.b_sum PyProof.Rows.boot_sum (da_cons (de_lc (own := [("part", 5)]) rfl sc_price_of.nd (di_lst (de_tVar (pv 0))) (blkOk_by (N := ["parts", "room", "more", "price", "ways", "part"]) (sc := defScope s25) (by decide +kernel)) (fun _ _ _ _ _ => (dg_nm (i := 5) sc_price_of.nd)) (fun _ _ _ _ _ => dts_nil) (fun _ _ _ _ _ => (de_fldK K (de_tVar (pv 5))))) da_nil)) (da_cons de_int da_nil))) da_nil)))) (dss_cons (ds_if (dt_cmp (op_eqD (hu64 hr)) od_eq (de_ix (de_tVar (pv 2)) de_int) de_int (nomark _)) (dss_cons (ds_ret (de_tup (da_cons de_int (da_cons de_int da_nil)))) dss_nil) dss_nil) (dss_cons (ds_if (dt_cmp op_lt od_lt (de_ix (de_tVar (pv 2)) de_int) de_int (nomark _)) (dss_cons (ds_set (i := 3) sc_price_of.nd (de_call (G_price_for.mono (by decide)) hr hG (da_cons (de_lc (own := [("part", 5)]) rfl sc_price_of.nd (di_lst (de_tVar (pv 0))) (blkOk_by (N := ["parts", "room", "more", "price", "ways", "part"]) (sc := defScope s25) (by decide +kernel)) (fun _ _ _ _ _ => (dg_nm (i := 5) sc_price_of.nd)) (fun _ _ _ _ _ => dts_nil) (fun _ _ _ _ _ => (de_tup (da_cons (de_fldK K (de_tVar (pv 5))) (da_cons (de_bin op_sub od_sub (de_fldK K (de_tVar (pv 5))) (de_fldK K (de_tVar (pv 5)))) da_nil))))) (da_cons (de_tup (da_cons (de_un un_neg ud_neg (de_ix (de_tVar (pv 2)) de_int)) (da_cons (de_ix (de_tVar (pv 2)) de_int) da_nil))) da_nil)))) (dss_cons (ds_if (dt_cmp op_isNA od_isN (de_tVar (pv 3)) de_non (nomark _)) (dss_cons (ds_ret de_non) dss_nil) dss_nil) (dss_cons (ds_ret (de_tup (da_cons (de_un un_neg ud_neg (de_ix (de_tVar (pv 3)) de_int)) (da_cons (de_ix (de_tVar (pv 3)) de_int) da_nil)))) dss_nil))) dss_nil) (dss_cons (ds_set (i := 4) sc_price_of.nd (de_lst da_nil)) (dss_cons (ds_for PassesOwn.never rfl (di_lst (de_tVar (pv 0))) (dg_nm (i := 5) sc_price_of.nd) (dss_cons (ds_if (dt_cmp op_isNA od_isN (de_fldK K (de_tVar (pv 5))) de_non (nomark _)) (dss_cons (ds_expr (de_app (pv 4) (de_tup (da_cons (de_fldK K (de_tVar (pv 5))) (da_cons de_non da_nil))))) dss_nil) (dss_cons (ds_expr (de_app (pv 4) (de_tup (da_cons (de_fldK K (de_tVar (pv 5))) (da_cons (de_bin op_sub od_sub (de_fldK K (de_tVar (pv 5))) (de_fldK K (de_tVar (pv 5)))) da_nil))))) dss_nil)) dss_nil)) (dss_cons (ds_ret (de_call (G_price_for.mono (by decide)) hr hG (da_cons (de_tVar (pv 4)) (da_cons (de_tVar (pv 2)) da_nil)))) dss_nil)))))), fun ds R h => ?_⟩)) (nods (Dd.bindsN fun _ _ _ _ _ _ us hl => match us, hl with | [_, _], _ => rfl)) fun _ => DpL.nil
  unfold W_price_of at h
  obtain ⟨ps, rm, d, rfl, hl, hp, hr, hd, h⟩ := h
  obtain ⟨b0, b1⟩ := bases_bnd hp
  have b2 : bases ps ≤ 60 * 1000000000000 := by omega
  walk_at "dl"
  refine comp_map (fun d => match d with | .ins _ _ (b :: _) => b | _ => .non) ⟨trivial, trivial⟩ (by simp; omega) ?_ ?_
  · intro d hd U hU
    obtain ⟨p, hp', rfl⟩ := List.mem_map.mp hd
    simp only [wipeR]
    rw [ptD_eq]
    walk_at "dl"
    simp only [pk0]
    exact ⟨M.fl_Part_base, hU _ _ rfl rfl⟩
  walk_at "dl"
  rw [show (ps.map (ptD M)).map (fun d => match d with | .ins _ _ (b :: _) => b | _ => .non) = (ps.map fun p => p.b).map D.int by rw [List.map_map, List.map_map]; rfl, asInts_map]
  refine ⟨rm, (bases ps : Rat), rfl, bnW hr, int_wee (by omega), ?_⟩
  have hm := sub_int_bn hr (i := bases ps) (by omega)
  unfold priceO at h
  generalize hmo : rm - (bases ps : Rat) = mo at *
  rw [frR_eq mo]
  walk_at "dl"
  rw [num_eq0, num_lt0]
  split
  · rename_i hb
    rw [if_pos (of_decide_eq_true hb)] at h
    exact h
  rename_i hb
  have hb := of_decide_eq_false hb
  rw [if_neg hb] at h
  split
  · rename_i hb2
    have hb2 := of_decide_eq_true hb2
    rw [if_pos hb2] at h
    refine comp_map (fun d => match d with | .ins _ _ [.int b, .int l, _, _, .int s] => .tup [.int s, .int (b - l)] | _ => .non) ⟨trivial, trivial⟩ (by simp; omega) ?_ ?_
    · intro d hd U hU
      obtain ⟨p, hp', rfl⟩ := List.mem_map.mp hd
      simp only [wipeR]
      rw [ptD_eq]
      walk_at "dl"
      simp only [pk0, pk1, pk4]
      refine ⟨M.fl_Part_shrink, M.fl_Part_base, M.fl_Part_least, ?_⟩
      walk_at "dl"
      exact hU _ _ rfl rfl
    walk_at "dl"
    refine ⟨ps.map dnY, -mo, d, ?_, by simpa using hl, okDn hp, ?_, by grind, hm.neg, hd, ?_⟩
    · rw [List.map_map, List.map_map, neg_frR]
      rfl
    · intro y m
      obtain ⟨p, hp', rfl⟩ := List.mem_map.mp (free_sub m)
      have ok := hp p hp'
      have := ok.l0; have := ok.lb; have := ok.b1
      exact ⟨ok.s1, fun c hc => by cases hc; omega⟩
    cases he : priceFor (ps.map dnY) (-mo) with
    | none =>
      rw [he] at h
      simp only [frO]
      walk_at "dl"
      exact h
    | some x =>
      rw [he] at h
      simp only [frO, frR_eq x]
      walk_at "dl"
      have e := neg_frR x
      rw [← e]
      exact h
  · rename_i hb2
    have hb2 := of_decide_eq_false hb2
    rw [if_neg hb2] at h
    refine forD_ind (fun ds ρ => ∃ (dn rest : List Pt) (L : List D) (x : Option RD), ds = rest.map (ptD M) ∧ ps = dn ++ rest ∧ L = (dn.map upY).map wyD ∧ ρ = [some (.d (.lst (ps.map (ptD M)))), some (.d (frR rm)), some (.d (frR mo)), none, some (.o (.lst L)), x]) ?_ ?_ ⟨[], ps, _, _, rfl, rfl, rfl, rfl⟩
    · rintro ρ ⟨dn, rest, L, x, e1, e2, rfl, rfl⟩
      have e3 : rest = [] := by simpa using e1.symm
      subst e3
      rw [List.append_nil] at e2
      subst e2
      walk_at "dl"
      refine ⟨_, mo, d, rfl, by simpa using hl, okUp hp, ?_, by grind, hm, hd, h⟩
      intro y m
      obtain ⟨p, hp', rfl⟩ := List.mem_map.mp (free_sub m)
      have ok := hp p hp'
      have := ok.l0; have := ok.lb; have := ok.b1
      refine ⟨ok.w1, fun c hc => ?_⟩
      unfold upY at hc
      cases hg : p.g with
      | none => rw [hg] at hc; cases hc
      | some g => rw [hg] at hc; have := ok.bg g hg; cases hc; omega
    · rintro d ds ρ U ⟨dn, rest, L, x, e1, e2, rfl, rfl⟩ hU
      cases rest with
      | nil => cases e1
      | cons p rest =>
        cases e1
        have hdl : dn.length ≤ ps.length := by rw [e2]; simp
        rw [ptD_eq]
        walk_at "dl"
        simp only [pk0, pk2, pk3]
        cases hg : p.g with
        | none =>
          simp only [optD]
          walk_at "dl"
          refine ⟨M.fl_Part_greatest, M.fl_Part_grow, by simp; omega, hU _ ⟨dn ++ [p], rest, _, _, rfl, by simp [e2], ?_, rfl⟩⟩
          simp [wyD, upY, hg, optD]
        | some g =>
          simp only [optD]
          walk_at "dl"
          refine ⟨M.fl_Part_greatest, M.fl_Part_grow, M.fl_Part_greatest, M.fl_Part_base, by simp; omega, hU _ ⟨dn ++ [p], rest, _, _, rfl, by simp [e2], ?_, rfl⟩⟩
          simp [wyD, upY, hg, optD]
end
end K20
end
section
set_option Elab.async false
set_option linter.all false
set_option maxRecDepth 100000
set_option maxHeartbeats 1000000
set_option exponentiation.threshold 20000
namespace K20
open PySem PySem.Spec L2 DL
local macro_rules | `(tactic| walk_at "dl") => `(tactic| try simp only [dSeq, dIfS, dRet, dRetN, dRetV, dAsg, dExpr, dNever, dNext, dVar, dC, dBin, dUn, dTest, dNot, dAnd, dOr, dAndV, dOrV, dNotV, dIf, dCall, dCons, dNil, dBreak, rdVar_d, rdVar_lst, rdVar_ins, rtVar_d, rtVar_lst, toD_d, toD_lst, toD_ins, toDo_lst, asBl_bl, asInt_int, asLst_lst, wTup_eq, wLst_eq, startR, List.map, List.length, List.getElem?_cons_zero, List.getElem?_cons_succ, List.set_cons_zero, List.set_cons_succ, List.replicate, List.cons_append, List.nil_append, List.append_nil, wIsT, D.kd, kit_ii, kit_ib, kit_bi, kit_bb, kit_ll, kit_tt, kit_ss, kit_nl, kit_ni, kit_it, kit_nt, dZip, dPar3, dUnl2, eqE, neE, wTuple, wSorted, Nat.reduceAdd, Nat.reduceSub, Nat.reduceLeDiff, Bool.not_true, Bool.not_false, true_and, and_true, addD_int, addD_lst, mulD_int, mulD_lst, int0_int, intD_int, negD_int, ixT0, ixT1, ixT2, ixT3, lenD_lst, isND_non, notND_non, isNon_non, isNon_int, isNon_bl, isNon_tup, isNon_lst, isNon_ins, dChain, dWhile, dPar, eqD, neD, pl_int, pl_non, pl_bl, eqv_int, dFor, bindPat, bindPats, dItL, dItT, dItS, dRng1, dRng2, dEnum, dLenV, dIxV, dApp, dSetIx, dInsert, atOwn_zero, atOwn_succ, atD_zero, atD_succ, atDt_zero, atDt_succ, atSlf_zero, dRev, dSl, dPart0, dPart, dOrT, dAsgP, dComp, dAug, dRetP, retP_lst, startI, asIns_ins, slfEnd_eq, dSelf, dFld, dMeth, dMake, wIsC, wSum,  dUnpackP, dInDt, dPutDt, dDictT, wInt1_int, wInt1_bl, wAbs_int, wMax2_int, wMin2_int, wList_lst, wLen_lst, wLen_str, bagAt0, dBag, dPick, dAugBag, dSetBag])
local macro_rules | `(tactic| walk_at "br") => `(tactic| (split <;> rename_i hb <;> (first | replace hb := of_decide_eq_true hb | replace hb := of_decide_eq_false hb | skip)))
theorem comp_mapAJ {α : Type} {p : Pat} {te : ET} {vs : List Nat} {Q : RD → Rho → Prop} (a g : α → D) (J : Rho → Prop) (no : ∀ ρ, J ρ → noOwn ρ vs) : ∀ (l : List α) (acc : List D) (ρ : Rho), J ρ → acc.length + l.length ≤ 1000000 →
    (∀ x ∈ l, ∀ ρ, J ρ → ∀ U : RD → Rho → Prop, (∀ r ρ4, r.toD = g x → J (restR ρ ρ4 vs) → U r ρ4) → bindPat p (a x) (wipeR ρ vs) fun ρ2 => te ρ2 U) →
    (∀ ρ', J ρ' → Q (.o (.lst (acc ++ l.map g))) ρ') → compD p dYes te vs Q (l.map a) ρ acc
  | [], acc, ρ, hJ, _, _, h => by simpa [compD] using h ρ hJ
  | x :: l, acc, ρ, hJ, hl, hs, h => by
    refine ⟨no ρ hJ, ?_⟩
    have hl' : acc.length + (l.length + 1) ≤ 1000000 := hl
    refine hs x List.mem_cons_self ρ hJ (fun y ρ4 => acc.length < 1000000 ∧ compD p dYes te vs Q (l.map a) (restR ρ ρ4 vs) (acc ++ [y.toD])) fun r ρ4 e1 e2 => ?_
    refine ⟨by omega, ?_⟩
    rw [e1]
    refine comp_mapAJ a g J no l (acc ++ [g x]) _ e2 (by simp; omega) (fun y hy => hs y (List.mem_cons_of_mem _ hy)) fun ρ' h' => ?_
    have := h ρ' h'
    simpa using this
theorem comp_mapA {α : Type} {p : Pat} {te : ET} {vs : List Nat} {Q : RD → Rho → Prop} {ρ : Rho} (a g : α → D) (l : List α) (no : noOwn ρ vs) (hl : l.length ≤ 1000000)
    (hs : ∀ x ∈ l, ∀ U : RD → Rho → Prop, (∀ r ρ4, r.toD = g x → restR ρ ρ4 vs = ρ → U r ρ4) → bindPat p (a x) (wipeR ρ vs) fun ρ2 => te ρ2 U)
    (h : Q (.o (.lst (l.map g))) ρ) : compD p dYes te vs Q (l.map a) ρ [] :=
  comp_mapAJ a g (fun r => r = ρ) (fun _ e => e ▸ no) l [] ρ rfl (by simpa using hl) (fun x hx r e U hU => by subst e; exact hs x hx U hU) fun ρ' e => by subst e; simpa using h
theorem up_num (b : Int) (x : Rat) : decide (b * (x.den : Int) < x.num) = decide ((b : Rat) < x) := by
  have := dec_lt (b : Rat) x
  rwa [show x.num * (((b : Rat)).den : Int) = x.num from Int.mul_one _] at this
theorem sz_sm {ps : List Pt} (hp : ∀ p ∈ ps, OkP p) (hl : ps.length ≤ 10) {d : Nat} {rm : Rat} (hr : Bn d 50 rm) (hd : d ≤ 180) : Sm (ps.map (fl ps rm)) :=
  ⟨d + 16, 62, 10, by simpa using hl, fun x m => by
    obtain ⟨p, hp', rfl⟩ := List.mem_map.mp m
    exact fl_bn hp (by omega) hr p hp', by omega, by omega, by omega⟩
theorem Sm.tot {xs : List Rat} (h : Sm xs) : K20.wee (rs xs) := h.pre (rest := []) (by simp)
theorem frR_pl (x : Rat) : (frR x).pl = true := rfl
theorem frR_inj {x y : Rat} (h : frR x = frR y) : x = y := by
  simp only [frR_eq, D.tup.injEq, List.cons.injEq, D.int.injEq, and_true] at h
  exact Rat.ext h.1 (by omega)
theorem frR_eqv (x y : Rat) : (frR x).eqv (frR y) = decide (x = y) := by
  have : Decidable (frR x = frR y) := Classical.propDecidable _
  rw [eqv_dec (x := frR x) (y := frR y) rfl rfl]
  by_cases h : x = y
  · rw [decide_eq_true h, decide_eq_true (congrArg frR h)]
  · rw [decide_eq_false h, decide_eq_false fun q => h (frR_inj q)]
theorem zips_map {α : Type} (a b : α → D) : ∀ l : List α, zips (l.map a) (l.map b) = l.map fun p => .tup [a p, b p]
  | [] => rfl
  | x :: l => by simp [zips, zips_map a b l]
/-- what share tells -/
def shD (ps : List Pt) (rm : Rat) : D := .tup [.lst ((ps.map (fl ps rm)).map frR), frO (priceO ps rm), frR (rm - rs (ps.map (fl ps rm)))]
def whL (ps : List Pt) (rm : Int) : List Int := gaps (0 :: edR 0 (ps.map (fl ps (rm : Rat))))
theorem whL_len (ps : List Pt) (rm : Int) : (whL ps rm).length = ps.length := by
  unfold whL
  rw [gaps_len, edR_len, List.length_map]
section
variable {P : Program} {w : World} {K : PySem.W.Frag} {mg : Str → Option Value} {base : Heap} {f : Addr} {fd : FuncData}
def W_share_of (M : Md K mg) : ON := fun ds R => ∃ (ps : List Pt) (rm : Rat) (d : Nat), ds = [.lst (ps.map (ptD M)), frR rm] ∧ ps.length ≤ 10 ∧ (∀ p ∈ ps, OkP p) ∧ Bn d 50 rm ∧ d ≤ 180 ∧ R (.d (shD ps rm))
/-! share_of -/
theorem sc_share_of : FnScope ["parts", "room", "price", "up", "sizes", "part"] ["parts", "room"] (defScope s27) := ⟨rfl, rfl, rfl, by decide +kernel, rfl, by decide +kernel, by decide +kernel⟩
abbrev dd_share_of : List D := []
abbrev lv_share_of : Nat := 6
theorem def_share_of (M : Md K mg) (Dd : FunD K "share_of" "share_of" (defArgs s27) (defBody s27) (defScope s27) [] [] f fd) (hm : mg "share_of" = some (.ref f)) (G_minus : Def P w K mg base 3 "minus" dd_minus (W_minus M)) (G_together : Def P w K mg base 4 "together" dd_together (W_together M)) (G_end_of : Def P w K mg base 1 "end_of" dd_end_of (W_end_of M)) (G_Part_size_at : Mth P w K mg base 3 M.C_Part "size_at" dd_Part_size_at (W_Part_size_at M)) (G_price_of : Def P w K mg base 5 "price_of" dd_price_of (W_price_of M)) : Def P w K mg base 6 "share_of" dd_share_of (W_share_of M) := by
  refine Def.of hm Dd.kp (okG (k := 5) Dd sc_share_of (fun ds R h => by unfold W_share_of at h; obtain ⟨_, h⟩ := h; obtain ⟨_, h⟩ := h; obtain ⟨_, h⟩ := h; obtain ⟨rfl, _⟩ := h; rfl) (fun cdv A outer s H hr hG => ⟨_, (dss_cons (ds_set (i := 2) sc_share_of.nd (de_call (G_price_of.mono (by decide)) hr hG (da_cons (de_tVar (pv 0)) (da_cons (de_tVar (pv 1)) da_nil)))) (dss_cons (ds_if (dt_cmp op_isNA od_isN (de_tVar (pv 2)) de_non (nomark _)) (dss_cons (ds_set (i := 3) sc_share_of.nd (de_cmp op_lt od_lt (de_bin op_mulA od_mul (de_callB (cr_sum rfl) cd_sum rfl M.b_sum PyProof.Rows.boot_sum (da_cons (de_lc (own := [("part", 5)]) rfl sc_share_of.nd (di_lst (de_tVar (pv 0))) (blkOk_by (N := ["parts", "room", "price", "up", "sizes", "part"]) (sc := defScope s27) (by decide +kernel)) (fun _ _ _ _ _ => (dg_nm (i := 5) sc_share_of.nd)) (fun _ _ _ _ _ => dts_nil) (fun _ _ _ _ _ => (de_fldK K (de_tVar (pv 5))))) da_nil)) (de_ix (de_tVar (pv 1)) de_int)) (de_ix (de_tVar (pv 1)) de_int) (nomark _))) (dss_cons (ds_setLc (i := 4) (own := [("part", 5)]) rfl sc_share_of.nd rfl (sw_true rfl rfl rfl (by decide +kernel)) (di_lst (de_tVar (pv 0))) (blkOk_by (N := ["parts", "room", "price", "up", "sizes", "part"]) (sc := defScope s27) (by decide +kernel)) (fun _ _ _ _ _ => (dg_nm (i := 5) sc_share_of.nd)) (fun _ _ _ _ _ => dts_nil) (fun _ _ _ _ _ => (de_call (G_end_of.mono (by decide)) hr hG (da_cons (de_tVar (pv 5)) (da_cons (de_tVar (pv 3)) da_nil))))) dss_nil)) (dss_cons (ds_setLc (i := 4) (own := [("part", 5)]) rfl sc_share_of.nd rfl (sw_true rfl rfl rfl (by decide +kernel)) (di_lst (de_tVar (pv 0))) (blkOk_by (N := ["parts", "room", "price", "up", "sizes", "part"]) (sc := defScope s27) (by decide +kernel)) (fun _ _ _ _ _ => (dg_nm (i := 5) sc_share_of.nd)) (fun _ _ _ _ _ => dts_nil) (fun _ _ _ _ _ => (de_meth (G_Part_size_at.mono (by decide)) (de_tVar (pv 5)) hr hG (da_cons (de_tVar (pv 2)) da_nil)))) dss_nil)) (dss_cons (ds_ret (de_tup (da_cons (de_tVar (pv 4)) (da_cons (de_tVar (pv 2)) (da_cons (de_call (G_minus.mono (by decide)) hr hG (da_cons (de_tVar (pv 1)) (da_cons (de_call (G_together.mono (by decide)) hr hG (da_cons (de_tVar (pv 4)) da_nil)) da_nil))) da_nil))))) dss_nil))), fun ds R h => ?_⟩)) (nods (Dd.bindsN fun _ _ _ _ _ _ us hl => match us, hl with | [_, _], _ => rfl)) fun _ => DpL.nil
  unfold W_share_of at h
  obtain ⟨ps, rm, d, rfl, hl, hp, hr, hd, h⟩ := h
  obtain ⟨b0, b1⟩ := bases_bnd hp
  have b2 : bases ps ≤ 60 * 1000000000000 := by omega
  have hs := sz_sm hp hl hr hd
  have wr := bnW hr
  walk_at "dl"
  refine ⟨ps, rm, d, rfl, by omega, hp, hr, by omega, ?_⟩
  -- the tail: what is left over
  have tail : ∀ Q : RD → Prop, Q (.d (frR (rm - rs (ps.map (fl ps rm))))) → W_together M [.lst ((ps.map (fl ps rm)).map frR)] fun z => W_minus M [frR rm, z.toD] fun z2 => Q z2 := fun Q hQ => ⟨_, rfl, hs, _, _, rfl, wr, hs.tot, hQ⟩
  unfold shD at h
  cases hq : priceO ps rm with
  | none =>
    have hE := priceO_none hp hq
    simp only [frO]
    walk_at "dl"
    refine comp_map (fun d => match d with | .ins _ _ (b :: _) => b | _ => .non) ⟨trivial, trivial⟩ (by simp; omega) ?_ ?_
    · intro d hd U hU
      obtain ⟨p, hp', rfl⟩ := List.mem_map.mp hd
      simp only [wipeR]
      rw [ptD_eq]
      walk_at "dl"
      simp only [pk0]
      exact ⟨M.fl_Part_base, hU _ _ rfl rfl⟩
    walk_at "dl"
    rw [show (ps.map (ptD M)).map (fun d => match d with | .ins _ _ (b :: _) => b | _ => .non) = (ps.map fun p => p.b).map D.int by rw [List.map_map, List.map_map]; rfl, asInts_map]
    rw [frR_eq rm]
    walk_at "dl"
    refine ⟨mul_ok (lt_8000 (show (bases ps).natAbs ≤ 2 ^ 64 by omega)) wr.d, ?_⟩
    rw [show decide ((ps.map fun p => p.b).sum * (rm.den : Int) < rm.num) = decide ((bases ps : Rat) < rm) from up_num (bases ps) rm]
    rw [hq, fl_none hq] at h
    rw [fl_none hq] at tail
    generalize hu : decide ((bases ps : Rat) < rm) = u at *
    refine comp_mapA (ptD M) (fun p => frR (endR p u)) ps ⟨trivial, trivial⟩ (by omega) ?_ ?_
    · intro p hp' U hU
      simp only [wipeR]
      walk_at "dl"
      have hn := hE.all p hp'
      cases he : endP p u with
      | none => exact absurd he hn
      | some e =>
        have er : endR p u = (e : Rat) := by unfold endR; rw [he]
        exact ⟨p, u, e, rfl, he, hU _ _ (by rw [er]; rfl) rfl⟩
    walk_at "dl"
    have e2 : ps.map (fun p => frR (endR p u)) = (ps.map fun q => endR q u).map frR := by rw [List.map_map]; rfl
    rw [e2]
    exact tail _ h
  | some x =>
    have hx := price_bn hp (by omega) hr hq
    simp only [frO]
    walk_at "dl"
    rw [hq, fl_some hq] at h
    rw [fl_some hq] at tail
    rw [frR_eq x]
    walk_at "dl"
    refine comp_mapA (ptD M) (fun p => frR (sizeP p x)) ps ⟨trivial, trivial⟩ (by omega) ?_ ?_
    · intro p hp' U hU
      simp only [wipeR]
      rw [ptD_eq]
      walk_at "dl"
      exact ⟨rfl, p, x, d + 16, rfl, hp p hp', hx, by omega, hU _ _ rfl rfl⟩
    walk_at "dl"
    have e2 : ps.map (fun p => frR (sizeP p x)) = (ps.map fun q => sizeP q x).map frR := by rw [List.map_map]; rfl
    rw [e2]
    exact tail _ h
def W_share (M : Md K mg) : ON := fun ds R => ∃ (ps : List Pt) (rm : Rat) (d : Nat), ds = [.lst (ps.map (ptD M)), frR rm] ∧ ps.length ≤ 10 ∧ (∀ p ∈ ps, OkP p) ∧ Bn d 50 rm ∧ d ≤ 180 ∧ 0 ≤ rm ∧ R (.d (shD ps rm))
/-! share -/
theorem sc_share : FnScope ["parts", "room"] ["parts", "room"] (defScope s28) := ⟨rfl, rfl, rfl, by decide +kernel, rfl, by decide +kernel, by decide +kernel⟩
abbrev dd_share : List D := []
abbrev lv_share : Nat := 7
theorem def_share (M : Md K mg) (Dd : FunD K "share" "share" (defArgs s28) (defBody s28) (defScope s28) [] [] f fd) (hm : mg "share" = some (.ref f)) (G_share_of : Def P w K mg base 6 "share_of" dd_share_of (W_share_of M)) (G_is_fraction : Def P w K mg base 2 "is_fraction" dd_is_fraction (W_is_fraction M)) (G_look_at_parts : Def P w K mg base 1 "look_at_parts" dd_look_at_parts (W_look_at_parts M)) : Def P w K mg base 7 "share" dd_share (W_share M) := by
  refine Def.of hm Dd.kp (okG (k := 6) Dd sc_share (fun ds R h => by unfold W_share at h; obtain ⟨_, h⟩ := h; obtain ⟨_, h⟩ := h; obtain ⟨_, h⟩ := h; obtain ⟨rfl, _⟩ := h; rfl) (fun cdv A outer s H hr hG => ⟨_, (dss_cons (ds_expr (de_call (G_look_at_parts.mono (by decide)) hr hG (da_cons (de_tVar (pv 0)) da_nil))) (dss_cons (ds_if (PW.pt (dw_or (dt_not (dt_val (de_call (G_is_fraction.mono (by decide)) hr hG (da_cons (de_tVar (pv 1)) da_nil)))) (dw_or1 (dt_cmp op_lt od_lt (de_ix (de_tVar (pv 1)) de_int) de_int (nomark _))))) dss_never dss_nil) (dss_cons (ds_ret (de_call (G_share_of.mono (by decide)) hr hG (da_cons (de_tVar (pv 0)) (da_cons (de_tVar (pv 1)) da_nil)))) dss_nil))), fun ds R h => ?_⟩)) (nods (Dd.bindsN fun _ _ _ _ _ _ us hl => match us, hl with | [_, _], _ => rfl)) fun _ => DpL.nil
  unfold W_share at h
  obtain ⟨ps, rm, d, rfl, hl, hp, hr, hd, r0, h⟩ := h
  walk_at "dl"
  refine ⟨ps, rfl, by omega, ?_⟩
  refine ⟨rm, rfl, ?_⟩
  walk_at "dl"
  rw [frR_eq rm]
  walk_at "dl"
  rw [num_lt0, decide_eq_false (show ¬ rm < 0 by grind)]
  walk_at "dl"
  exact ⟨ps, rm, d, rfl, hl, hp, hr, hd, h⟩
theorem int_bn {i : Int} (h0 : 0 ≤ i) (h1 : i ≤ 1000000000000) : Bn 0 50 (i : Rat) := Bn.int (by omega)
def W_whole_share (M : Md K mg) : ON := fun ds R => ∃ (ps : List Pt) (rm : Int), ds = [.lst (ps.map (ptD M)), .int rm] ∧ ps.length ≤ 10 ∧ (∀ p ∈ ps, OkP p) ∧ 0 ≤ rm ∧ rm ≤ 1000000000000 ∧ R (.o (.lst ((whL ps rm).map D.int)))
/-! whole_share -/
theorem sc_whole_share : FnScope ["parts", "room"] ["parts", "room"] (defScope s29) := ⟨rfl, rfl, rfl, by decide +kernel, rfl, by decide +kernel, by decide +kernel⟩
abbrev dd_whole_share : List D := []
abbrev lv_whole_share : Nat := 7
theorem def_whole_share (M : Md K mg) (Dd : FunD K "whole_share" "whole_share" (defArgs s29) (defBody s29) (defScope s29) [] [] f fd) (hm : mg "whole_share" = some (.ref f)) (G_wholes_of : Def P w K mg base 5 "wholes_of" dd_wholes_of (W_wholes_of M)) (G_share_of : Def P w K mg base 6 "share_of" dd_share_of (W_share_of M)) (G_is_length : Def P w K mg base 2 "is_length" dd_is_length (W_is_length M)) (G_look_at_parts : Def P w K mg base 1 "look_at_parts" dd_look_at_parts (W_look_at_parts M)) : Def P w K mg base 7 "whole_share" dd_whole_share (W_whole_share M) := by
  refine Def.of hm Dd.kp (okG (k := 6) Dd sc_whole_share (fun ds R h => by unfold W_whole_share at h; obtain ⟨_, h⟩ := h; obtain ⟨_, h⟩ := h; obtain ⟨rfl, _⟩ := h; rfl) (fun cdv A outer s H hr hG => ⟨_, (dss_cons (ds_expr (de_call (G_look_at_parts.mono (by decide)) hr hG (da_cons (de_tVar (pv 0)) da_nil))) (dss_cons (ds_if (dt_not (dt_val (de_call (G_is_length.mono (by decide)) hr hG (da_cons (de_tVar (pv 1)) da_nil)))) dss_never dss_nil) (dss_cons (ds_ret (de_call (G_wholes_of.mono (by decide)) hr hG (da_cons (de_ix (de_call (G_share_of.mono (by decide)) hr hG (da_cons (de_tVar (pv 0)) (da_cons (de_tup (da_cons (de_tVar (pv 1)) (da_cons de_int da_nil))) da_nil))) de_int) da_nil))) dss_nil))), fun ds R h => ?_⟩)) (nods (Dd.bindsN fun _ _ _ _ _ _ us hl => match us, hl with | [_, _], _ => rfl)) fun _ => DpL.nil
  unfold W_whole_share at h
  obtain ⟨ps, rm, rfl, hl, hp, r0, r1, h⟩ := h
  walk_at "dl"
  refine ⟨ps, rfl, by omega, is_len r0 r1 ?_⟩
  walk_at "dl"
  refine ⟨ps, (rm : Rat), 0, rfl, hl, hp, int_bn r0 r1, by omega, ?_⟩
  unfold shD
  walk_at "dl"
  exact ⟨_, rfl, sz_sm hp hl (int_bn r0 r1) (by omega), h⟩
def W_shares_hold (M : Md K mg) : ON := fun ds R => ∃ (ps : List Pt) (rm x : Rat) (d : Nat), ds = [.lst (ps.map (ptD M)), frR rm, .lst ((ps.map fun p => sizeP p x).map frR), frR x] ∧ ps.length ≤ 10 ∧ (∀ p ∈ ps, OkP p) ∧ Bn d 51 x ∧ d ≤ 196 ∧ rs (ps.map fun p => sizeP p x) = rm ∧ R (.d (.bl true))
theorem szx_sm {ps : List Pt} (hp : ∀ p ∈ ps, OkP p) (hl : ps.length ≤ 10) {d : Nat} {x : Rat} (hx : Bn d 51 x) (hd : d ≤ 210) : Sm (ps.map fun p => sizeP p x) :=
  ⟨d, 62, 10, by simpa using hl, fun y m => by
    obtain ⟨p, hp', rfl⟩ := List.mem_map.mp m
    exact size_bn (hp p hp') hx, by omega, by omega, by omega⟩
/-! shares_hold -/
theorem sc_shares_hold : FnScope ["parts", "room", "sizes", "price", "part", "size"] ["parts", "room", "sizes", "price"] (defScope s30) := ⟨rfl, rfl, rfl, by decide +kernel, rfl, by decide +kernel, by decide +kernel⟩
abbrev dd_shares_hold : List D := []
abbrev lv_shares_hold : Nat := 5
theorem def_shares_hold (M : Md K mg) (Dd : FunD K "shares_hold" "shares_hold" (defArgs s30) (defBody s30) (defScope s30) [] [] f fd) (hm : mg "shares_hold" = some (.ref f)) (G_together : Def P w K mg base 4 "together" dd_together (W_together M)) (G_Part_size_at : Mth P w K mg base 3 M.C_Part "size_at" dd_Part_size_at (W_Part_size_at M)) (G_is_fraction : Def P w K mg base 2 "is_fraction" dd_is_fraction (W_is_fraction M)) : Def P w K mg base 5 "shares_hold" dd_shares_hold (W_shares_hold M) := by
  refine Def.of hm Dd.kp (okG (k := 4) Dd sc_shares_hold (fun ds R h => by unfold W_shares_hold at h; obtain ⟨_, h⟩ := h; obtain ⟨_, h⟩ := h; obtain ⟨_, h⟩ := h; obtain ⟨_, h⟩ := h; obtain ⟨rfl, _⟩ := h; rfl) (fun cdv A outer s H hr hG => ⟨_, (dss_cons (ds_if (PW.pt (dw_or (dt_not (dt_val (de_call (G_is_fraction.mono (by decide)) hr hG (da_cons (de_tVar (pv 3)) da_nil)))) (dw_or (dt_not (dt_val (de_callB call_isi (cd_isT (T := "list")) rfl M.b_isinstance PyProof.Rows.boot_isinstance (da_cons (de_tVar (pv 2)) (da_cons (de_bltn (v := .ty "list") rfl M.b_list PyProof.Rows.boot_list rfl) da_nil))))) (dw_or1 (dt_cmp (op_neD (hu64 hr)) od_ne (de_callB cr_len cd_len rfl M.b_len PySem.boot_len (da_cons (de_tVar (pv 2)) da_nil)) (de_callB cr_len cd_len rfl M.b_len PySem.boot_len (da_cons (de_tVar (pv 0)) da_nil)) (nomark _)))))) (dss_cons (ds_ret de_bl) dss_nil) dss_nil) (dss_cons (ds_for PassesOwn.never rfl (di_zip M.b_zip (de_tVar (pv 0)) (de_tVar (pv 2))) (dg_tp rfl (dgs_cons (dg_nm (i := 4) sc_shares_hold.nd) (dgs_cons (dg_nm (i := 5) sc_shares_hold.nd) dgs_nil))) (dss_cons (ds_if (PW.pt (dw_or (dt_not (dt_val (de_call (G_is_fraction.mono (by decide)) hr hG (da_cons (de_tVar (pv 5)) da_nil)))) (dw_or1 (dt_cmp (op_neD (hu64 hr)) od_ne (de_tVar (pv 5)) (de_meth (G_Part_size_at.mono (by decide)) (de_tVar (pv 4)) hr hG (da_cons (de_tVar (pv 3)) da_nil)) (nomark _))))) (dss_cons (ds_ret de_bl) dss_nil) dss_nil) dss_nil)) (dss_cons (ds_ret (de_cmp (op_eqD (hu64 hr)) od_eq (de_call (G_together.mono (by decide)) hr hG (da_cons (de_tVar (pv 2)) da_nil)) (de_tVar (pv 1)) (nomark _))) dss_nil))), fun ds R h => ?_⟩)) (nods (Dd.bindsN fun _ _ _ _ _ _ us hl => match us, hl with | [_, _, _, _], _ => rfl)) fun _ => DpL.nil
  unfold W_shares_hold at h
  obtain ⟨ps, rm, x, d, rfl, hl, hp, hx, hd, hs, h⟩ := h
  walk_at "dl"
  refine ⟨x, rfl, ?_⟩
  walk_at "dl"
  rw [decide_eq_true (show (((((ps.map fun p => sizeP p x).map frR).length : Nat)) : Int) = (((ps.map (ptD M)).length : Nat) : Int) by simp)]
  walk_at "dl"
  rw [List.map_map, zips_map]
  refine forD_ind (fun ds ρ => ∃ (rest : List Pt) (a b : Option RD), ds = rest.map (fun p => D.tup [ptD M p, frR (sizeP p x)]) ∧ (∀ p ∈ rest, OkP p) ∧ ρ = [some (.d (.lst (ps.map (ptD M)))), some (.d (frR rm)), some (.d (.lst (ps.map (frR ∘ fun p => sizeP p x)))), some (.d (frR x)), a, b]) ?_ ?_ ⟨ps, _, _, rfl, hp, rfl⟩
  · rintro ρ ⟨rest, a, b, e1, -, rfl⟩
    walk_at "dl"
    refine ⟨ps.map fun p => sizeP p x, by rw [List.map_map], szx_sm hp hl hx (by omega), ?_⟩
    rw [hs]
    refine ⟨rfl, rfl, ?_⟩
    walk_at "dl"
    rw [frR_eqv, decide_eq_true rfl]
    exact h
  · rintro d0 ds ρ U ⟨rest, a, b, e1, e2, rfl⟩ hU
    cases rest with
    | nil => cases e1
    | cons p rest =>
      cases e1
      have ok := e2 p List.mem_cons_self
      walk_at "dl"
      refine ⟨_, rfl, ?_⟩
      rw [ptD_eq]
      walk_at "dl"
      refine ⟨rfl, p, x, d, rfl, ok, hx, by omega, ?_⟩
      walk_at "dl"
      refine ⟨rfl, rfl, ?_⟩
      rw [frR_eqv, decide_eq_true rfl]
      walk_at "dl"
      exact hU _ ⟨rest, _, _, rfl, fun q m => e2 q (List.mem_cons_of_mem _ m), rfl⟩
/-! ### strain -/
def W_strain (M : Md K mg) : ON := fun ds R => ∃ (ps : List Pt) (g t : Pt → Rat) (d : Nat), ds = [.lst (ps.map (ptD M)), .lst ((ps.map g).map frR)] ∧ (∀ p ∈ ps, OkP p) ∧ (∀ p ∈ ps, Bn d 62 (g p) ∧ strainP p (g p) = some (t p)) ∧ d ≤ 1500 ∧ Sm (ps.map t) ∧ R (.d (frR (rs (ps.map t))))
/-! strain -/
theorem sc_strain : FnScope ["parts", "sizes", "total", "part", "size", "one"] ["parts", "sizes"] (defScope s60) := ⟨rfl, rfl, rfl, by decide +kernel, rfl, by decide +kernel, by decide +kernel⟩
abbrev dd_strain : List D := []
abbrev lv_strain : Nat := 5
theorem def_strain (M : Md K mg) (Dd : FunD K "strain" "strain" (defArgs s60) (defBody s60) (defScope s60) [] [] f fd) (hm : mg "strain" = some (.ref f)) (G_plus : Def P w K mg base 3 "plus" dd_plus (W_plus M)) (G_Part_strain_at : Mth P w K mg base 4 M.C_Part "strain_at" dd_Part_strain_at (W_Part_strain_at M)) : Def P w K mg base 5 "strain" dd_strain (W_strain M) := by
  refine Def.of hm Dd.kp (okG (k := 4) Dd sc_strain (fun ds R h => by unfold W_strain at h; obtain ⟨_, h⟩ := h; obtain ⟨_, h⟩ := h; obtain ⟨_, h⟩ := h; obtain ⟨_, h⟩ := h; obtain ⟨rfl, _⟩ := h; rfl) (fun cdv A outer s H hr hG => ⟨_, (dss_cons (ds_set (i := 2) sc_strain.nd (de_tup (da_cons de_int (da_cons de_int da_nil)))) (dss_cons (ds_for PassesOwn.never rfl (di_zip M.b_zip (de_tVar (pv 0)) (de_tVar (pv 1))) (dg_tp rfl (dgs_cons (dg_nm (i := 3) sc_strain.nd) (dgs_cons (dg_nm (i := 4) sc_strain.nd) dgs_nil))) (dss_cons (ds_set (i := 5) sc_strain.nd (de_meth (G_Part_strain_at.mono (by decide)) (de_tVar (pv 3)) hr hG (da_cons (de_tVar (pv 4)) da_nil))) (dss_cons (ds_if (dt_cmp op_isNA od_isN (de_tVar (pv 5)) de_non (nomark _)) (dss_cons (ds_ret de_non) dss_nil) dss_nil) (dss_cons (ds_set (i := 2) sc_strain.nd (de_call (G_plus.mono (by decide)) hr hG (da_cons (de_tVar (pv 2)) (da_cons (de_tVar (pv 5)) da_nil)))) dss_nil)))) (dss_cons (ds_ret (de_tVar (pv 2))) dss_nil))), fun ds R h => ?_⟩)) (nods (Dd.bindsN fun _ _ _ _ _ _ us hl => match us, hl with | [_, _], _ => rfl)) fun _ => DpL.nil
  unfold W_strain at h
  obtain ⟨ps, g, t, d, rfl, hp, hg, hd, hs, h⟩ := h
  walk_at "dl"
  rw [List.map_map, zips_map]
  refine forD_ind (fun ds ρ => ∃ (dn rest : List Pt) (a b c : Option RD), ds = rest.map (fun p => D.tup [ptD M p, frR (g p)]) ∧ ps = dn ++ rest ∧ ρ = [some (.d (.lst (ps.map (ptD M)))), some (.d (.lst (ps.map (frR ∘ g)))), some (.d (frR (rs (dn.map t)))), a, b, c]) ?_ ?_ ⟨[], ps, _, _, _, rfl, rfl, rfl⟩
  · rintro ρ ⟨dn, rest, a, b, c, e1, e2, rfl⟩
    have e3 : rest = [] := by simpa using e1.symm
    subst e3
    rw [List.append_nil] at e2
    subst e2
    walk_at "dl"
    exact h
  · rintro d0 ds ρ U ⟨dn, rest, a, b, c, e1, e2, rfl⟩ hU
    cases rest with
    | nil => cases e1
    | cons p rest =>
      cases e1
      have hm : p ∈ ps := by rw [e2]; simp
      obtain ⟨g1, g2⟩ := hg p hm
      walk_at "dl"
      rw [ptD_eq]
      walk_at "dl"
      refine ⟨rfl, p, g p, t p, d, rfl, hp p hm, g1, hd, g2, ?_⟩
      walk_at "dl"
      rw [frR_eq (t p)]
      walk_at "dl"
      refine ⟨rs (dn.map t), t p, rfl, hs.pre (by rw [e2, List.map_append]), hs.wee (List.mem_map.mpr ⟨p, hm, rfl⟩), hU _ ⟨dn ++ [p], rest, some (.d (ptD M p)), some (.d (frR (g p))), some (.d (frR (t p))), rfl, by rw [e2]; simp, ?_⟩⟩
      rw [List.map_append, List.map_cons, List.map_nil, rs_snoc]
      rfl
def W_bound (M : Md K mg) : ON := fun ds R => ∃ (ps : List Pt) (rm x : Rat) (t : Pt → Rat) (d e : Nat), ds = [.lst (ps.map (ptD M)), frR rm, frR x] ∧ ps.length ≤ 10 ∧ (∀ p ∈ ps, OkP p) ∧ Bn d 51 x ∧ d ≤ 196 ∧ Bn e 50 rm ∧ e ≤ 1000 ∧ rs (ps.map fun p => sizeP p x) = rm ∧ (∀ p ∈ ps, strainP p (sizeP p x) = some (t p)) ∧ Sm (ps.map t) ∧ R (.d (frR (rs (ps.map t))))
/-! bound -/
theorem sc_bound : FnScope ["parts", "room", "price", "sizes", "left", "part"] ["parts", "room", "price"] (defScope s61) := ⟨rfl, rfl, rfl, by decide +kernel, rfl, by decide +kernel, by decide +kernel⟩
abbrev dd_bound : List D := []
abbrev lv_bound : Nat := 6
theorem def_bound (M : Md K mg) (Dd : FunD K "bound" "bound" (defArgs s61) (defBody s61) (defScope s61) [] [] f fd) (hm : mg "bound" = some (.ref f)) (G_plus : Def P w K mg base 3 "plus" dd_plus (W_plus M)) (G_times : Def P w K mg base 3 "times" dd_times (W_times M)) (G_strain : Def P w K mg base 5 "strain" dd_strain (W_strain M)) (G_minus : Def P w K mg base 3 "minus" dd_minus (W_minus M)) (G_together : Def P w K mg base 4 "together" dd_together (W_together M)) (G_Part_size_at : Mth P w K mg base 3 M.C_Part "size_at" dd_Part_size_at (W_Part_size_at M)) : Def P w K mg base 6 "bound" dd_bound (W_bound M) := by
  refine Def.of hm Dd.kp (okG (k := 5) Dd sc_bound (fun ds R h => by unfold W_bound at h; obtain ⟨_, h⟩ := h; obtain ⟨_, h⟩ := h; obtain ⟨_, h⟩ := h; obtain ⟨_, h⟩ := h; obtain ⟨_, h⟩ := h; obtain ⟨_, h⟩ := h; obtain ⟨rfl, _⟩ := h; rfl) (fun cdv A outer s H hr hG => ⟨_, (dss_cons (ds_setLc (i := 3) (own := [("part", 5)]) rfl sc_bound.nd rfl (sw_true rfl rfl rfl (by decide +kernel)) (di_lst (de_tVar (pv 0))) (blkOk_by (N := ["parts", "room", "price", "sizes", "left", "part"]) (sc := defScope s61) (by decide +kernel)) (fun _ _ _ _ _ => (dg_nm (i := 5) sc_bound.nd)) (fun _ _ _ _ _ => dts_nil) (fun _ _ _ _ _ => (de_meth (G_Part_size_at.mono (by decide)) (de_tVar (pv 5)) hr hG (da_cons (de_tVar (pv 2)) da_nil)))) (dss_cons (ds_set (i := 4) sc_bound.nd (de_call (G_minus.mono (by decide)) hr hG (da_cons (de_tVar (pv 1)) (da_cons (de_call (G_together.mono (by decide)) hr hG (da_cons (de_tVar (pv 3)) da_nil)) da_nil)))) (dss_cons (ds_ret (de_call (G_plus.mono (by decide)) hr hG (da_cons (de_call (G_strain.mono (by decide)) hr hG (da_cons (de_tVar (pv 0)) (da_cons (de_tVar (pv 3)) da_nil))) (da_cons (de_call (G_times.mono (by decide)) hr hG (da_cons (de_tup (da_cons de_int (da_cons de_int da_nil))) (da_cons (de_call (G_times.mono (by decide)) hr hG (da_cons (de_tVar (pv 2)) (da_cons (de_tVar (pv 4)) da_nil))) da_nil))) da_nil)))) dss_nil))), fun ds R h => ?_⟩)) (nods (Dd.bindsN fun _ _ _ _ _ _ us hl => match us, hl with | [_, _, _], _ => rfl)) fun _ => DpL.nil
  unfold W_bound at h
  obtain ⟨ps, rm, x, t, d, e, rfl, hl, hp, hx, hd, hr, he, hs, ht, hst, h⟩ := h
  walk_at "dl"
  refine comp_mapA (ptD M) (fun p => frR (sizeP p x)) ps ⟨trivial, trivial⟩ (by omega) ?_ ?_
  · intro p hp' U hU
    simp only [wipeR]
    rw [ptD_eq]
    walk_at "dl"
    exact ⟨rfl, p, x, d, rfl, hp p hp', hx, by omega, hU _ _ rfl rfl⟩
  walk_at "dl"
  have e2 : ps.map (fun p => frR (sizeP p x)) = (ps.map fun q => sizeP q x).map frR := by rw [List.map_map]; rfl
  rw [e2]
  refine ⟨_, rfl, szx_sm hp hl hx (by omega), ?_⟩
  rw [hs]
  refine ⟨rm, rm, rfl, bnW hr, bnW hr, ?_⟩
  rw [show rm - rm = 0 by grind]
  have w0 : wee 0 := int_wee (i := 0) (by decide)
  have w2 : wee 2 := int_wee (i := 2) (by decide)
  walk_at "dl"
  refine ⟨ps, fun p => sizeP p x, t, d, rfl, hp, fun p m => ⟨size_bn (hp p m) hx, ht p m⟩, by omega, hst, ?_⟩
  walk_at "dl"
  refine ⟨x, 0, rfl, bnW hx, w0, ?_⟩
  rw [show x * 0 = 0 by grind]
  walk_at "dl"
  refine ⟨2, 0, rfl, w2, w0, ?_⟩
  rw [show (2 : Rat) * 0 = 0 by grind]
  walk_at "dl"
  refine ⟨_, 0, rfl, hst.tot, w0, ?_⟩
  rw [show rs (ps.map t) + 0 = rs (ps.map t) by grind]
  exact h
end
end K20
end
section
set_option Elab.async false
set_option linter.all false
set_option maxRecDepth 100000
set_option maxHeartbeats 1000000
set_option exponentiation.threshold 20000
namespace K20
open PySem PySem.Spec L2 DL
local macro_rules | `(tactic| walk_at "dl") => `(tactic| try simp only [dSeq, dIfS, dRet, dRetN, dRetV, dAsg, dExpr, dNever, dNext, dVar, dC, dBin, dUn, dTest, dNot, dAnd, dOr, dAndV, dOrV, dNotV, dIf, dCall, dCons, dNil, dBreak, rdVar_d, rdVar_lst, rdVar_ins, rtVar_d, rtVar_lst, toD_d, toD_lst, toD_ins, toDo_lst, asBl_bl, asInt_int, asLst_lst, wTup_eq, wLst_eq, startR, List.map, List.length, List.getElem?_cons_zero, List.getElem?_cons_succ, List.set_cons_zero, List.set_cons_succ, List.replicate, List.cons_append, List.nil_append, List.append_nil, wIsT, D.kd, kit_ii, kit_ib, kit_bi, kit_bb, kit_ll, kit_tt, kit_ss, kit_nl, kit_ni, kit_it, kit_nt, dZip, dPar3, dUnl2, eqE, neE, wTuple, wSorted, Nat.reduceAdd, Nat.reduceSub, Nat.reduceLeDiff, Bool.not_true, Bool.not_false, true_and, and_true, addD_int, addD_lst, mulD_int, mulD_lst, int0_int, intD_int, negD_int, ixT0, ixT1, ixT2, ixT3, lenD_lst, isND_non, notND_non, isNon_non, isNon_int, isNon_bl, isNon_tup, isNon_lst, isNon_ins, dChain, dWhile, dPar, eqD, neD, pl_int, pl_non, pl_bl, eqv_int, dFor, bindPat, bindPats, dItL, dItT, dItS, dRng1, dRng2, dEnum, dLenV, dIxV, dApp, dSetIx, dInsert, atOwn_zero, atOwn_succ, atD_zero, atD_succ, atDt_zero, atDt_succ, atSlf_zero, dRev, dSl, dPart0, dPart, dOrT, dAsgP, dComp, dAug, dRetP, retP_lst, startI, asIns_ins, slfEnd_eq, dSelf, dFld, dMeth, dMake, wIsC, wSum,  dUnpackP, dInDt, dPutDt, dDictT, wInt1_int, wInt1_bl, wAbs_int, wMax2_int, wMin2_int, wList_lst, wLen_lst, wLen_str, bagAt0, dBag, dPick, dAugBag, dSetBag])
local macro_rules | `(tactic| walk_at "br") => `(tactic| (split <;> rename_i hb <;> (first | replace hb := of_decide_eq_true hb | replace hb := of_decide_eq_false hb | skip)))
/-! ### leaves, rows -/
def leafK : List Str := ["key", "base", "least", "greatest", "grow", "shrink", "deep", "many"]
theorem lk1 {a b c d e f g h : D} : fldD "base" leafK [a, b, c, d, e, f, g, h] = some b := rfl
theorem lk2 {a b c d e f g h : D} : fldD "least" leafK [a, b, c, d, e, f, g, h] = some c := rfl
theorem lk3 {a b c d e f g h : D} : fldD "greatest" leafK [a, b, c, d, e, f, g, h] = some d := rfl
theorem lk4 {a b c d e f g h : D} : fldD "grow" leafK [a, b, c, d, e, f, g, h] = some e := rfl
theorem lk5 {a b c d e f g h : D} : fldD "shrink" leafK [a, b, c, d, e, f, g, h] = some f := rfl
theorem lk6 {a b c d e f g h : D} : fldD "deep" leafK [a, b, c, d, e, f, g, h] = some g := rfl
theorem lk7 {a b c d e f g h : D} : fldD "many" leafK [a, b, c, d, e, f, g, h] = some h := rfl
def rowK : List Str := ["boxes", "gap", "grow", "shrink", "deep", "many", "three"]
theorem rk0 {a b c d e f g : D} : fldD "boxes" rowK [a, b, c, d, e, f, g] = some a := rfl
theorem rk1 {a b c d e f g : D} : fldD "gap" rowK [a, b, c, d, e, f, g] = some b := rfl
theorem rk6 {a b c d e f g : D} : fldD "three" rowK [a, b, c, d, e, f, g] = some g := rfl
structure OkL (p : Pt) : Prop where
  ok : OkP p
  b : p.b ≤ 1000000
  g : ∀ g, p.g = some g → g ≤ 1000000
/-- the least end, the sum of the greatest -/
def eI (p : Pt) : Int := if 0 < p.s then p.l else p.b
theorem eI_end (p : Pt) : endP p false = some (eI p) := by unfold endP eI; by_cases h : 0 < p.s <;> simp [h]
def tacc : Option Int → List Pt → Option Int
  | a, [] => a
  | a, p :: r => tacc (match a, endP p true with | some a, some t => some (a + t) | _, _ => none) r
def sumE (ps : List Pt) : Int := (ps.map eI).sum
def threeD (ps : List Pt) (G : Int) : D := if ps.isEmpty then .tup [.int 0, .int 0, .non] else .tup [.int (G + sumE ps), .int (G + bases ps), optD (tacc (some G) ps)]
section
variable {P : Program} {w : World} {K : PySem.W.Frag} {mg : Str → Option Value} {base : Heap} {f : Addr} {fd : FuncData}
def lfL (p : Pt) : List D := [.str isa, .int p.b, .int p.l, optD p.g, .int p.w, .int p.s, .int 1, .int 1]
def lfD (M : Md K mg) (p : Pt) : D := .ins M.C_Leaf leafK (lfL p)
theorem lfD_eq (M : Md K mg) (p : Pt) : lfD M p = .ins M.C_Leaf leafK [.str isa, .int p.b, .int p.l, optD p.g, .int p.w, .int p.s, .int 1, .int 1] := rfl
def rwL (M : Md K mg) (ps : List Pt) (gap x y G : Int) : List D := [.lst (ps.map (lfD M)), .int gap, .int 1, .int 1, .int x, .int y, threeD ps G]
def W_look_weights (M : Md K mg) : ON := fun ds R => ∃ g s a : Int, ds = [.int g, .int s, .int a] ∧ 0 ≤ g ∧ g ≤ 1000 ∧ 0 ≤ s ∧ s ≤ 1000 ∧ R (.d .non)
/-! look_weights -/
theorem sc_look_weights : FnScope ["grow", "shrink", "at"] ["grow", "shrink", "at"] (defScope s31) := ⟨rfl, rfl, rfl, by decide +kernel, rfl, by decide +kernel, by decide +kernel⟩
abbrev dd_look_weights : List D := []
abbrev lv_look_weights : Nat := 3
theorem def_look_weights (M : Md K mg) (Dd : FunD K "look_weights" "look_weights" (defArgs s31) (defBody s31) (defScope s31) [] [] f fd) (hm : mg "look_weights" = some (.ref f)) (G_is_weight : Def P w K mg base 2 "is_weight" dd_is_weight (W_is_weight M)) : Def P w K mg base 3 "look_weights" dd_look_weights (W_look_weights M) := by
  refine Def.of hm Dd.kp (okG (k := 2) Dd sc_look_weights (fun ds R h => by unfold W_look_weights at h; obtain ⟨_, h⟩ := h; obtain ⟨_, h⟩ := h; obtain ⟨_, h⟩ := h; obtain ⟨rfl, _⟩ := h; rfl) (fun cdv A outer s H hr hG => ⟨_, (dss_cons (ds_if (dt_not (dt_val (de_call (G_is_weight.mono (by decide)) hr hG (da_cons (de_tVar (pv 0)) da_nil)))) dss_never dss_nil) (dss_cons (ds_if (dt_not (dt_val (de_call (G_is_weight.mono (by decide)) hr hG (da_cons (de_tVar (pv 1)) da_nil)))) dss_never dss_nil) dss_nil)), fun ds R h => ?_⟩)) (nods (Dd.bindsN fun _ _ _ _ _ _ us hl => match us, hl with | [_, _, _], _ => rfl)) fun _ => DpL.nil
  unfold W_look_weights at h
  obtain ⟨g, s, a, rfl, g0, g1, s0, s1, h⟩ := h
  walk_at "dl"
  refine is_wt g0 g1 ?_
  walk_at "dl"
  refine is_wt s0 s1 ?_
  walk_at "dl"
  exact h
def W_Leaf (M : Md K mg) : IN := fun ds R => ∃ p : Pt, ds = [.str isa, .int p.b, .int p.l, optD p.g, .int p.w, .int p.s] ∧ OkL p ∧ R leafK (lfL p)
/-! Leaf.__init__ -/
theorem sc_Leaf___init__ : FnScope ["self", "key", "base", "least", "greatest", "grow", "shrink"] ["self", "key", "base", "least", "greatest", "grow", "shrink"] (defScope s43) := ⟨rfl, rfl, rfl, by decide +kernel, rfl, by decide +kernel, by decide +kernel⟩
abbrev dd_Leaf : List D := []
abbrev lv_Leaf : Nat := 4
theorem def_Leaf___init__ (M : Md K mg) (Dd : FunD K "__init__" "Leaf.__init__" (defArgs s43) (defBody s43) (defScope s43) [.int 0, .non, .int 1, .int 1] [] f fd) (hm : mg "Leaf" = some (.ref M.C_Leaf)) (hk : Mk K M.C_Leaf f) (G_look_weights : Def P w K mg base 3 "look_weights" dd_look_weights (W_look_weights M)) (G_is_small : Def P w K mg base 2 "is_small" dd_is_small (W_is_small M)) (G_is_name : Def P w K mg base 1 "is_name" dd_is_name (W_is_name M)) : Cla P w K mg base 4 "Leaf" M.C_Leaf dd_Leaf (W_Leaf M) := by
  refine Cla.of hm hk (okI (k := 3) Dd sc_Leaf___init__ (fun ds R h => by unfold W_Leaf at h; obtain ⟨_, h⟩ := h; obtain ⟨rfl, _⟩ := h; rfl) (fun cdv A outer s H hr hG => ⟨_, (dss_cons (ds_if (dt_not (dt_val (de_call (G_is_name.mono (by decide)) hr hG (da_cons (de_tVar (pv 1)) da_nil)))) dss_never dss_nil) (dss_cons (ds_if (dt_not (dt_val (de_call (G_is_small.mono (by decide)) hr hG (da_cons (de_tVar (pv 2)) da_nil)))) dss_never dss_nil) (dss_cons (ds_if (PW.pt (dw_or (dt_not (dt_val (de_call (G_is_small.mono (by decide)) hr hG (da_cons (de_tVar (pv 3)) da_nil)))) (dw_or1 (dt_cmp op_gt od_gt (de_tVar (pv 3)) (de_tVar (pv 2)) (nomark _))))) dss_never dss_nil) (dss_cons (ds_if (PW.pt (dw_and (dt_cmp op_notNA od_notN (de_tVar (pv 4)) de_non (nomark _)) (dw_and1 (PW.pt (dw_or (dt_not (dt_val (de_call (G_is_small.mono (by decide)) hr hG (da_cons (de_tVar (pv 4)) da_nil)))) (dw_or1 (dt_cmp op_lt od_lt (de_tVar (pv 4)) (de_tVar (pv 2)) (nomark _)))))))) dss_never dss_nil) (dss_cons (ds_expr (de_call (G_look_weights.mono (by decide)) hr hG (da_cons (de_tVar (pv 5)) (da_cons (de_tVar (pv 6)) (da_cons de_int da_nil))))) (dss_cons (ds_self (pv 0) (de_tVar (pv 1))) (dss_cons (ds_self (pv 0) (de_tVar (pv 2))) (dss_cons (ds_self (pv 0) (de_tVar (pv 3))) (dss_cons (ds_self (pv 0) (de_tVar (pv 4))) (dss_cons (ds_self (pv 0) (de_tVar (pv 5))) (dss_cons (ds_self (pv 0) (de_tVar (pv 6))) (dss_cons (ds_self (pv 0) de_int) (dss_cons (ds_self (pv 0) de_int) dss_nil))))))))))))), fun ds R h => ?_⟩)) (Dd.binds1 7 4 (by decide) rfl fun _ _ _ _ _ _ _ us its hl hi => match us, hl, its, hi with | [_, _, _, _, _, _, _], _, [_, _, _, _], _ => ⟨_, rfl, rfl⟩) fun _ => DpL.nil
  unfold W_Leaf at h
  obtain ⟨p, rfl, ⟨ok, pb, pg⟩, h⟩ := h
  have l0 := ok.l0; have lb := ok.lb
  walk_at "dl"
  refine ⟨rfl, ?_⟩
  walk_at "dl"
  refine is_sm (by omega) pb ?_
  walk_at "dl"
  refine is_sm l0 (by omega) ?_
  walk_at "dl"
  rw [decide_eq_false (show ¬ p.b < p.l by omega)]
  cases hg : p.g with
  | none =>
    simp only [lfL, hg, optD] at h
    simp only [optD]
    walk_at "dl"
    refine ⟨p.w, p.s, 4, rfl, ok.w0, ok.w1, ok.s0, ok.s1, ?_⟩
    walk_at "dl"
    exact ⟨M.fl_Leaf_key, by decide, M.fl_Leaf_base, by decide +kernel, M.fl_Leaf_least, by decide +kernel, M.fl_Leaf_greatest, by decide +kernel, M.fl_Leaf_grow, by decide +kernel, M.fl_Leaf_shrink, by decide +kernel, M.fl_Leaf_deep, by decide +kernel, M.fl_Leaf_many, by decide +kernel, h⟩
  | some g =>
    simp only [lfL, hg, optD] at h
    have hb := ok.bg g hg
    have hb2 := pg g hg
    simp only [optD]
    walk_at "dl"
    refine is_sm (by omega) hb2 ?_
    walk_at "dl"
    rw [decide_eq_false (show ¬ g < p.b by omega)]
    walk_at "dl"
    refine ⟨p.w, p.s, 4, rfl, ok.w0, ok.w1, ok.s0, ok.s1, ?_⟩
    walk_at "dl"
    exact ⟨M.fl_Leaf_key, by decide, M.fl_Leaf_base, by decide +kernel, M.fl_Leaf_least, by decide +kernel, M.fl_Leaf_greatest, by decide +kernel, M.fl_Leaf_grow, by decide +kernel, M.fl_Leaf_shrink, by decide +kernel, M.fl_Leaf_deep, by decide +kernel, M.fl_Leaf_many, by decide +kernel, h⟩
def W_Leaf_across (M : Md K mg) : ON := fun ds R => ∃ p : Pt, ds = [lfD M p] ∧ R (.d (.tup [.int p.l, .int p.b, optD p.g]))
/-! Leaf.across -/
theorem sc_Leaf_across : FnScope ["self"] ["self"] (defScope s44) := ⟨rfl, rfl, rfl, by decide +kernel, rfl, by decide +kernel, by decide +kernel⟩
abbrev dd_Leaf_across : List D := []
abbrev lv_Leaf_across : Nat := 1
theorem def_Leaf_across (M : Md K mg) (Dd : FunD K "across" "Leaf.across" (defArgs s44) (defBody s44) (defScope s44) [] [] f fd) (hc : Cls K M.C_Leaf) (hm : Meth K M.C_Leaf "across" f) : Mth P w K mg base 1 M.C_Leaf "across" dd_Leaf_across (W_Leaf_across M) := by
  refine Mth.of hc hm (okG (k := 0) Dd sc_Leaf_across (fun ds R h => by unfold W_Leaf_across at h; obtain ⟨_, h⟩ := h; obtain ⟨rfl, _⟩ := h; rfl) (fun cdv A outer s H hr hG => ⟨_, (dss_cons (ds_ret (de_tup (da_cons (de_fldK K (de_tVar (pv 0))) (da_cons (de_fldK K (de_tVar (pv 0))) (da_cons (de_fldK K (de_tVar (pv 0))) da_nil))))) dss_nil), fun ds R h => ?_⟩)) (nods (Dd.bindsN fun _ _ _ _ _ _ us hl => match us, hl with | [_], _ => rfl)) fun _ => DpL.nil
  unfold W_Leaf_across at h
  obtain ⟨p, rfl, h⟩ := h
  rw [lfD_eq]
  walk_at "dl"
  simp only [lk1, lk2, lk3]
  exact ⟨M.fl_Leaf_least, M.fl_Leaf_base, M.fl_Leaf_greatest, h⟩
def W_look_boxes (M : Md K mg) : ON := fun ds R => ∃ ps : List Pt, ds = [.lst (ps.map (lfD M))] ∧ ps.length ≤ 8 ∧ R (.d .non)
/-! look_boxes -/
theorem sc_look_boxes : FnScope ["boxes", "at", "box"] ["boxes"] (defScope s39) := ⟨rfl, rfl, rfl, by decide +kernel, rfl, by decide +kernel, by decide +kernel⟩
abbrev dd_look_boxes : List D := []
abbrev lv_look_boxes : Nat := 1
theorem def_look_boxes (M : Md K mg) (Dd : FunD K "look_boxes" "look_boxes" (defArgs s39) (defBody s39) (defScope s39) [] [] f fd) (hm : mg "look_boxes" = some (.ref f)) : Def P w K mg base 1 "look_boxes" dd_look_boxes (W_look_boxes M) := by
  refine Def.of hm Dd.kp (okG (k := 0) Dd sc_look_boxes (fun ds R h => by unfold W_look_boxes at h; obtain ⟨_, h⟩ := h; obtain ⟨rfl, _⟩ := h; rfl) (fun cdv A outer s H hr hG => ⟨_, (dss_cons (ds_if (dt_not (dt_val (de_callB call_isi (cd_isT (T := "list")) rfl M.b_isinstance PyProof.Rows.boot_isinstance (da_cons (de_tVar (pv 0)) (da_cons (de_bltn (v := .ty "list") rfl M.b_list PyProof.Rows.boot_list rfl) da_nil))))) dss_never dss_nil) (dss_cons (ds_if (dt_cmp op_gt od_gt (de_callB cr_len cd_len rfl M.b_len PySem.boot_len (da_cons (de_tVar (pv 0)) da_nil)) (de_glob (d := .int 8) (v := .int 8) (fun _ => rfl) rfl M.c_MOST_WITHIN ⟨_, rfl⟩) (nomark _)) dss_never dss_nil) (dss_cons (ds_for PassesOwn.never rfl (di_enum M.b_enumerate (de_tVar (pv 0))) (dg_tp rfl (dgs_cons (dg_nm (i := 1) sc_look_boxes.nd) (dgs_cons (dg_nm (i := 2) sc_look_boxes.nd) dgs_nil))) (dss_cons (ds_if (dt_not (dt_val (de_callB call_isi (cd_isC (C := M.C_Box)) rfl M.b_isinstance PyProof.Rows.boot_isinstance (da_cons (de_tVar (pv 2)) (da_cons (de_glob (d := .raw (.ref M.C_Box)) (v := .ref M.C_Box) (fun _ => rfl) rfl M.k_Box rfl) da_nil))))) dss_never dss_nil) dss_nil)) dss_nil))), fun ds R h => ?_⟩)) (nods (Dd.bindsN fun _ _ _ _ _ _ us hl => match us, hl with | [_], _ => rfl)) fun _ => DpL.nil
  unfold W_look_boxes at h
  obtain ⟨ps, rfl, hl, h⟩ := h
  walk_at "dl"
  rw [decide_eq_false (show ¬ (8 : Int) < ((ps.map (lfD M)).length : Nat) by simp; omega)]
  walk_at "dl"
  refine forD_ind (fun ds ρ => ∃ a b : Option RD, (∀ d ∈ ds, ∃ k p, d = .tup [.int k, lfD M p]) ∧ ρ = [some (.d (.lst (ps.map (lfD M)))), a, b]) ?_ ?_ ⟨_, _, ?_, rfl⟩
  · rintro ρ ⟨a, b, -, rfl⟩
    exact h
  · rintro d ds ρ U ⟨a, b, hd, rfl⟩ hU
    obtain ⟨k, p, rfl⟩ := hd d List.mem_cons_self
    walk_at "dl"
    refine ⟨rfl, true, M.isaLB, ?_⟩
    walk_at "dl"
    exact hU _ ⟨_, _, fun d hd' => hd d (List.mem_cons_of_mem _ hd'), rfl⟩
  · intro d hd
    obtain ⟨j, hj⟩ := List.mem_iff_getElem?.mp hd
    obtain ⟨x, hx, rfl⟩ := pairs_at _ _ _ _ hj
    obtain ⟨p, _, rfl⟩ := List.mem_map.mp (List.mem_of_getElem? hx)
    exact ⟨_, p, rfl⟩
def W_size_around (M : Md K mg) : ON := fun ds R => ∃ ps : List Pt, ds = [.lst (ps.map (lfD M))] ∧ ps.length ≤ 8 ∧ ∀ x y : Int, R (.d (.tup [.int x, .int y]))
/-! size_around -/
theorem sc_size_around : FnScope ["boxes", "deep", "many", "box"] ["boxes"] (defScope s40) := ⟨rfl, rfl, rfl, by decide +kernel, rfl, by decide +kernel, by decide +kernel⟩
abbrev dd_size_around : List D := []
abbrev lv_size_around : Nat := 1
theorem def_size_around (M : Md K mg) (Dd : FunD K "size_around" "size_around" (defArgs s40) (defBody s40) (defScope s40) [] [] f fd) (hm : mg "size_around" = some (.ref f)) : Def P w K mg base 1 "size_around" dd_size_around (W_size_around M) := by
  refine Def.of hm Dd.kp (okG (k := 0) Dd sc_size_around (fun ds R h => by unfold W_size_around at h; obtain ⟨_, h⟩ := h; obtain ⟨rfl, _⟩ := h; rfl) (fun cdv A outer s H hr hG => ⟨_, (dss_cons (ds_set (i := 1) sc_size_around.nd de_int) (dss_cons (ds_set (i := 2) sc_size_around.nd de_int) (dss_cons (ds_for PassesOwn.never rfl (di_lst (de_tVar (pv 0))) (dg_nm (i := 3) sc_size_around.nd) (dss_cons (ds_set (i := 1) sc_size_around.nd (de_callB (cr_max2 rfl) cd_max2 rfl M.b_max PyProof.Rows.boot_max (da_cons (de_tVar (pv 1)) (da_cons (de_bin op_addA od_add (de_fldK K (de_tVar (pv 3))) de_int) da_nil)))) (dss_cons (ds_aug (i := 2) sc_size_around.nd ip_add (de_fldK K (de_tVar (pv 3)))) dss_nil))) (dss_cons (ds_if (dt_cmp op_gt od_gt (de_tVar (pv 1)) (de_glob (d := .int 6) (v := .int 6) (fun _ => rfl) rfl M.c_DEEPEST ⟨_, rfl⟩) (nomark _)) dss_never dss_nil) (dss_cons (ds_if (dt_cmp op_gt od_gt (de_tVar (pv 2)) (de_glob (d := .int 60) (v := .int 60) (fun _ => rfl) rfl M.c_MOST_BOXES ⟨_, rfl⟩) (nomark _)) dss_never dss_nil) (dss_cons (ds_ret (de_tup (da_cons (de_tVar (pv 1)) (da_cons (de_tVar (pv 2)) da_nil)))) dss_nil)))))), fun ds R h => ?_⟩)) (nods (Dd.bindsN fun _ _ _ _ _ _ us hl => match us, hl with | [_], _ => rfl)) fun _ => DpL.nil
  unfold W_size_around at h
  obtain ⟨ps, rfl, hl, h⟩ := h
  walk_at "dl"
  refine forD_ind (fun ds ρ => ∃ (rest : List Pt) (x y : Int) (a : Option RD), ds = rest.map (lfD M) ∧ x ≤ 2 ∧ y + rest.length ≤ 9 ∧ ρ = [some (.d (.lst (ps.map (lfD M)))), some (.d (.int x)), some (.d (.int y)), a]) ?_ ?_ ⟨ps, 1, 1, _, rfl, by decide, by omega, rfl⟩
  · rintro ρ ⟨rest, x, y, a, e1, e2, e3, rfl⟩
    walk_at "dl"
    rw [decide_eq_false (show ¬ (6 : Int) < x by omega)]
    walk_at "dl"
    rw [decide_eq_false (show ¬ (60 : Int) < y by omega)]
    walk_at "dl"
    exact h _ _
  · rintro d ds ρ U ⟨rest, x, y, a, e1, e2, e3, rfl⟩ hU
    cases rest with
    | nil => cases e1
    | cons p rest =>
      cases e1
      rw [lfD_eq]
      walk_at "dl"
      simp only [lk6, lk7]
      simp at e3
      exact ⟨M.fl_Leaf_deep, M.fl_Leaf_many, hU _ ⟨rest, _, _, _, rfl, by omega, by omega, rfl⟩⟩
def W_gaps_of (M : Md K mg) : ON := fun ds R => ∃ (xs : List D) (g : Int), ds = [.lst xs, .int g] ∧ xs.length ≤ 8 ∧ 0 ≤ g ∧ g ≤ 1000000 ∧ R (.d (.int (g * max 0 ((xs.length : Int) - 1))))
theorem mulS {a b : Int} (ha : a.natAbs ≤ 2 ^ 64) (hb : b.natAbs ≤ 2 ^ 64) : CMulW a b ∨ CMul a b := mul_ok (lt_8000 ha) (lt_8000 hb)
/-! gaps_of -/
theorem sc_gaps_of : FnScope ["boxes", "gap"] ["boxes", "gap"] (defScope s41) := ⟨rfl, rfl, rfl, by decide +kernel, rfl, by decide +kernel, by decide +kernel⟩
abbrev dd_gaps_of : List D := []
abbrev lv_gaps_of : Nat := 1
theorem def_gaps_of (M : Md K mg) (Dd : FunD K "gaps_of" "gaps_of" (defArgs s41) (defBody s41) (defScope s41) [] [] f fd) (hm : mg "gaps_of" = some (.ref f)) : Def P w K mg base 1 "gaps_of" dd_gaps_of (W_gaps_of M) := by
  refine Def.of hm Dd.kp (okG (k := 0) Dd sc_gaps_of (fun ds R h => by unfold W_gaps_of at h; obtain ⟨_, h⟩ := h; obtain ⟨_, h⟩ := h; obtain ⟨rfl, _⟩ := h; rfl) (fun cdv A outer s H hr hG => ⟨_, (dss_cons (ds_ret (de_bin op_mulA od_mul (de_tVar (pv 1)) (de_callB (cr_max2 rfl) cd_max2 rfl M.b_max PyProof.Rows.boot_max (da_cons de_int (da_cons (de_bin op_sub od_sub (de_callB cr_len cd_len rfl M.b_len PySem.boot_len (da_cons (de_tVar (pv 0)) da_nil)) de_int) da_nil))))) dss_nil), fun ds R h => ?_⟩)) (nods (Dd.bindsN fun _ _ _ _ _ _ us hl => match us, hl with | [_, _], _ => rfl)) fun _ => DpL.nil
  unfold W_gaps_of at h
  obtain ⟨xs, g, rfl, hl, g0, g1, h⟩ := h
  walk_at "dl"
  exact ⟨mulS (by omega) (by omega), h⟩
theorem eI_bnd {p : Pt} (h : OkP p) : 0 ≤ eI p ∧ eI p ≤ 1000000000000 := endP_bnd h (eI_end p)
def W_row_across (M : Md K mg) : ON := fun ds R => ∃ (ps : List Pt) (g G : Int), ds = [.lst (ps.map (lfD M)), .int g] ∧ ps.length ≤ 8 ∧ (∀ p ∈ ps, OkP p) ∧ 0 ≤ g ∧ g ≤ 1000000 ∧ G = g * max 0 ((ps.length : Int) - 1) ∧ R (.d (threeD ps G))
/-! row_across -/
theorem sc_row_across : FnScope ["boxes", "gap", "least", "base", "greatest", "box", "low", "own", "top"] ["boxes", "gap"] (defScope s42) := ⟨rfl, rfl, rfl, by decide +kernel, rfl, by decide +kernel, by decide +kernel⟩
abbrev dd_row_across : List D := []
abbrev lv_row_across : Nat := 2
theorem def_row_across (M : Md K mg) (Dd : FunD K "row_across" "row_across" (defArgs s42) (defBody s42) (defScope s42) [] [] f fd) (hm : mg "row_across" = some (.ref f)) (G_Leaf_across : Mth P w K mg base 1 M.C_Leaf "across" dd_Leaf_across (W_Leaf_across M)) (G_gaps_of : Def P w K mg base 1 "gaps_of" dd_gaps_of (W_gaps_of M)) : Def P w K mg base 2 "row_across" dd_row_across (W_row_across M) := by
  refine Def.of hm Dd.kp (okG (k := 1) Dd sc_row_across (fun ds R h => by unfold W_row_across at h; obtain ⟨_, h⟩ := h; obtain ⟨_, h⟩ := h; obtain ⟨_, h⟩ := h; obtain ⟨rfl, _⟩ := h; rfl) (fun cdv A outer s H hr hG => ⟨_, (dss_cons (ds_if (dt_cmp (op_eqE (hu64 hr)) od_eqE (de_tVar (pv 0)) (de_lst da_nil) (nomark _)) (dss_cons (ds_ret (de_tup (da_cons de_int (da_cons de_int (da_cons de_non da_nil))))) dss_nil) dss_nil) (dss_cons (ds_set (i := 2) sc_row_across.nd (de_call (G_gaps_of.mono (by decide)) hr hG (da_cons (de_tVar (pv 0)) (da_cons (de_tVar (pv 1)) da_nil)))) (dss_cons (ds_set (i := 3) sc_row_across.nd (de_tVar (pv 2))) (dss_cons (ds_set (i := 4) sc_row_across.nd (de_tVar (pv 2))) (dss_cons (ds_for PassesOwn.never rfl (di_lst (de_tVar (pv 0))) (dg_nm (i := 5) sc_row_across.nd) (dss_cons (ds_asgP (de_meth0 (G_Leaf_across.mono (by decide)) (de_tVar (pv 5)) hr hG) (dg_tp rfl (dgs_cons (dg_nm (i := 6) sc_row_across.nd) (dgs_cons (dg_nm (i := 7) sc_row_across.nd) (dgs_cons (dg_nm (i := 8) sc_row_across.nd) dgs_nil))))) (dss_cons (ds_if (dt_cmp (op_eqD (hu64 hr)) od_eq (de_fldK K (de_tVar (pv 5))) de_int (nomark _)) (dss_cons (ds_set (i := 6) sc_row_across.nd (de_tVar (pv 7))) dss_nil) dss_nil) (dss_cons (ds_if (dt_cmp (op_eqD (hu64 hr)) od_eq (de_fldK K (de_tVar (pv 5))) de_int (nomark _)) (dss_cons (ds_set (i := 8) sc_row_across.nd (de_tVar (pv 7))) dss_nil) dss_nil) (dss_cons (ds_aug (i := 2) sc_row_across.nd ip_add (de_tVar (pv 6))) (dss_cons (ds_aug (i := 3) sc_row_across.nd ip_add (de_tVar (pv 7))) (dss_cons (ds_if (dt_cmp op_notNA od_notN (de_tVar (pv 4)) de_non (nomark _)) (dss_cons (ds_set (i := 4) sc_row_across.nd (de_ifExp (dt_cmp op_isNA od_isN (de_tVar (pv 8)) de_non (nomark _)) de_non (de_bin op_addA od_add (de_tVar (pv 4)) (de_tVar (pv 8))))) dss_nil) dss_nil) dss_nil))))))) (dss_cons (ds_ret (de_tup (da_cons (de_tVar (pv 2)) (da_cons (de_tVar (pv 3)) (da_cons (de_tVar (pv 4)) da_nil))))) dss_nil)))))), fun ds R h => ?_⟩)) (nods (Dd.bindsN fun _ _ _ _ _ _ us hl => match us, hl with | [_, _], _ => rfl)) fun _ => DpL.nil
  unfold W_row_across at h
  obtain ⟨ps, g, G, rfl, hl, hp, g0, g1, hG, h⟩ := h
  walk_at "dl"
  unfold threeD at h
  rw [show (ps.map (lfD M)).isEmpty = ps.isEmpty by cases ps <;> rfl]
  cases he : ps.isEmpty with
  | true =>
    rw [he] at h
    simp only [if_true] at h
    exact h
  | false =>
    rw [he] at h
    simp only [Bool.false_eq_true, if_false] at h
    refine ⟨_, g, rfl, by simpa using hl, g0, g1, ?_⟩
    rw [show g * max 0 ((((ps.map (lfD M)).length : Nat) : Int) - 1) = G by rw [hG]; simp]
    walk_at "dl"
    refine forD_ind (fun ds ρ => ∃ (dn rest : List Pt) (t : Option Int) (a b c d : Option RD), ds = rest.map (lfD M) ∧ ps = dn ++ rest ∧ tacc (some G) ps = tacc t rest ∧ ρ = [some (.d (.lst (ps.map (lfD M)))), some (.d (.int g)), some (.d (.int (G + sumE dn))), some (.d (.int (G + bases dn))), some (.d (optD t)), a, b, c, d]) ?_ ?_ ⟨[], ps, some G, none, none, none, none, rfl, rfl, rfl, by simp [sumE, bases, optD]⟩
    · rintro ρ ⟨dn, rest, t, a, b, c, d, e1, e2, e3, rfl⟩
      have e4 : rest = [] := by simpa using e1.symm
      subst e4
      rw [List.append_nil] at e2
      subst e2
      walk_at "dl"
      rw [e3] at h
      exact h
    · rintro d0 ds ρ U ⟨dn, rest, t, a, b, c, d, e1, e2, e3, rfl⟩ hU
      cases rest with
      | nil => cases e1
      | cons p rest =>
        cases e1
        have ok := hp p (by rw [e2]; simp)
        rw [lfD_eq]
        walk_at "dl"
        refine ⟨rfl, p, rfl, ?_⟩
        walk_at "dl"
        simp only [lk4, lk5]
        have hs : decide (p.s = 0) = !decide (0 < p.s) := by have := ok.s0; by_cases q : 0 < p.s <;> simp [q] <;> omega
        have hw : decide (p.w = 0) = !decide (0 < p.w) := by have := ok.w0; by_cases q : 0 < p.w <;> simp [q] <;> omega
        walk_at "dl"
        have e5 : sumE (dn ++ [p]) = sumE dn + eI p := by simp [sumE]
        have e6 : bases (dn ++ [p]) = bases dn + p.b := by simp [bases]
        have fin : ∀ (t' : Option Int) (z b c d : Option RD), tacc t (p :: rest) = tacc t' rest → U [some (.d (.lst (ps.map (lfD M)))), some (.d (.int g)), some (.d (.int (G + sumE dn + eI p))), some (.d (.int (G + bases dn + p.b))), some (.d (optD t')), z, b, c, d] := fun t' z b c d e => hU _ ⟨dn ++ [p], rest, t', z, b, c, d, rfl, by rw [e2]; simp, e3.trans e, by rw [e5, e6, Int.add_assoc, Int.add_assoc]⟩
        refine ⟨M.fl_Leaf_shrink, ?_⟩
        rw [hs, hw]
        have tn : tacc none (p :: rest) = tacc none rest := rfl
        have ts : ∀ a : Int, tacc (some a) (p :: rest) = tacc (match endP p true with | some t => some (a + t) | none => none) rest := fun a => by
          show tacc (match some a, endP p true with | some a, some t => some (a + t) | _, _ => none) rest = _
          cases endP p true <;> rfl
        have eE : endP p true = if 0 < p.w then p.g else some p.b := by simp [endP]
        by_cases qs : 0 < p.s <;> by_cases qw : 0 < p.w
        all_goals
          first | rw [decide_eq_true qs] | rw [decide_eq_false qs]
          first | rw [decide_eq_true qw] | rw [decide_eq_false qw]
          have el : eI p = eI p := rfl
          conv at el => rhs; unfold eI
          first | rw [if_pos qs] at el | rw [if_neg qs] at el
          first | rw [if_pos qw] at eE | rw [if_neg qw] at eE
          rw [eE] at ts
          rw [el] at fin
          walk_at "dl"
          refine ⟨M.fl_Leaf_grow, ?_⟩
          walk_at "dl"
          cases t with
          | none =>
            simp only [optD]
            walk_at "dl"
            exact fin none _ _ _ _ tn
          | some a =>
            simp only [optD]
            walk_at "dl"
            by_cases qz : 0 < p.w
            · cases hg : p.g with
              | none =>
                first | (rw [hg] at ts) | skip
                simp only [optD]
                walk_at "dl"
                first
                  | exact fin none _ _ _ _ (ts a)
                  | exact fin (some _) _ _ _ _ (ts a)
              | some gg =>
                first | (rw [hg] at ts) | skip
                simp only [optD]
                walk_at "dl"
                exact fin (some _) _ _ _ _ (ts a)
            · first
                | exact fin (some _) _ _ _ _ (ts a)
                | exact absurd qw qz
/-! ### a row -/
def W_Row (M : Md K mg) : IN := fun ds R => ∃ (ps : List Pt) (g : Int), ds = [.lst (ps.map (lfD M)), .int g, .int 1, .int 1] ∧ ps.length ≤ 8 ∧ (∀ p ∈ ps, OkP p) ∧ 0 ≤ g ∧ g ≤ 1000000 ∧ ∀ x y : Int, R rowK (rwL M ps g x y (g * max 0 ((ps.length : Int) - 1)))
/-! Row.__init__ -/
theorem sc_Row___init__ : FnScope ["self", "boxes", "gap", "grow", "shrink", "deep", "many"] ["self", "boxes", "gap", "grow", "shrink"] (defScope s46) := ⟨rfl, rfl, rfl, by decide +kernel, rfl, by decide +kernel, by decide +kernel⟩
abbrev dd_Row : List D := [.int 1, .int 1]
abbrev lv_Row : Nat := 4
theorem def_Row___init__ (M : Md K mg) (Dd : FunD K "__init__" "Row.__init__" (defArgs s46) (defBody s46) (defScope s46) [.int 0, .int 1, .int 1] [] f fd) (hm : mg "Row" = some (.ref M.C_Row)) (hk : Mk K M.C_Row f) (G_row_across : Def P w K mg base 2 "row_across" dd_row_across (W_row_across M)) (G_size_around : Def P w K mg base 1 "size_around" dd_size_around (W_size_around M)) (G_look_weights : Def P w K mg base 3 "look_weights" dd_look_weights (W_look_weights M)) (G_is_small : Def P w K mg base 2 "is_small" dd_is_small (W_is_small M)) (G_look_boxes : Def P w K mg base 1 "look_boxes" dd_look_boxes (W_look_boxes M)) : Cla P w K mg base 4 "Row" M.C_Row dd_Row (W_Row M) := by
  refine Cla.of hm hk (okI (k := 3) Dd sc_Row___init__ (fun ds R h => by unfold W_Row at h; obtain ⟨_, h⟩ := h; obtain ⟨_, h⟩ := h; obtain ⟨rfl, _⟩ := h; rfl) (fun cdv A outer s H hr hG => ⟨_, (dss_cons (ds_expr (de_call (G_look_boxes.mono (by decide)) hr hG (da_cons (de_tVar (pv 1)) da_nil))) (dss_cons (ds_if (dt_not (dt_val (de_call (G_is_small.mono (by decide)) hr hG (da_cons (de_tVar (pv 2)) da_nil)))) dss_never dss_nil) (dss_cons (ds_expr (de_call (G_look_weights.mono (by decide)) hr hG (da_cons (de_tVar (pv 3)) (da_cons (de_tVar (pv 4)) (da_cons de_int da_nil))))) (dss_cons (ds_asgP (de_call (G_size_around.mono (by decide)) hr hG (da_cons (de_tVar (pv 1)) da_nil)) (dg_tp rfl (dgs_cons (dg_nm (i := 5) sc_Row___init__.nd) (dgs_cons (dg_nm (i := 6) sc_Row___init__.nd) dgs_nil)))) (dss_cons (ds_self (pv 0) (de_callTy cr_list cd_list rfl M.b_list PyProof.Rows.boot_list (da_cons (de_tVar (pv 1)) da_nil))) (dss_cons (ds_self (pv 0) (de_tVar (pv 2))) (dss_cons (ds_self (pv 0) (de_tVar (pv 3))) (dss_cons (ds_self (pv 0) (de_tVar (pv 4))) (dss_cons (ds_self (pv 0) (de_tVar (pv 5))) (dss_cons (ds_self (pv 0) (de_tVar (pv 6))) (dss_cons (ds_self (pv 0) (de_call (G_row_across.mono (by decide)) hr hG (da_cons (de_tVar (pv 1)) (da_cons (de_tVar (pv 2)) da_nil)))) dss_nil))))))))))), fun ds R h => ?_⟩)) (Dd.binds1 3 1 (by decide) rfl fun _ _ _ _ _ _ _ us its hl hi => match us, hl, its, hi with | [_, _, _], _, [_, _, _], _ => ⟨_, rfl, rfl⟩) fun _ => ⟨_, _, rfl, rfl, ⟨_, _, rfl, rfl, rfl⟩⟩
  unfold W_Row at h
  obtain ⟨ps, g, rfl, hl, hp, g0, g1, h⟩ := h
  walk_at "dl"
  refine ⟨ps, rfl, hl, is_sm g0 g1 ?_⟩
  walk_at "dl"
  refine ⟨1, 1, 2, rfl, by decide, by decide, by decide, by decide, ?_⟩
  walk_at "dl"
  refine ⟨ps, rfl, hl, fun x y => ?_⟩
  walk_at "dl"
  refine ⟨M.fl_Row_boxes, by decide, M.fl_Row_gap, by decide +kernel, M.fl_Row_grow, by decide +kernel, M.fl_Row_shrink, by decide +kernel, M.fl_Row_deep, by decide +kernel, M.fl_Row_many, by decide +kernel, ps, g, _, rfl, hl, hp, g0, g1, rfl, M.fl_Row_three, by decide +kernel, h x y⟩
def rwD (M : Md K mg) (ps : List Pt) (g x y : Int) : D := .ins M.C_Row rowK (rwL M ps g x y (g * max 0 ((ps.length : Int) - 1)))
theorem rwD_eq (M : Md K mg) (ps : List Pt) (g x y : Int) : rwD M ps g x y = .ins M.C_Row rowK [.lst (ps.map (lfD M)), .int g, .int 1, .int 1, .int x, .int y, threeD ps (g * max 0 ((ps.length : Int) - 1))] := rfl
def W_Row_across (M : Md K mg) : ON := fun ds R => ∃ (ps : List Pt) (g x y : Int), ds = [rwD M ps g x y] ∧ R (.d (threeD ps (g * max 0 ((ps.length : Int) - 1))))
/-! Row.across -/
theorem sc_Row_across : FnScope ["self"] ["self"] (defScope s47) := ⟨rfl, rfl, rfl, by decide +kernel, rfl, by decide +kernel, by decide +kernel⟩
abbrev dd_Row_across : List D := []
abbrev lv_Row_across : Nat := 1
theorem def_Row_across (M : Md K mg) (Dd : FunD K "across" "Row.across" (defArgs s47) (defBody s47) (defScope s47) [] [] f fd) (hc : Cls K M.C_Row) (hm : Meth K M.C_Row "across" f) : Mth P w K mg base 1 M.C_Row "across" dd_Row_across (W_Row_across M) := by
  refine Mth.of hc hm (okG (k := 0) Dd sc_Row_across (fun ds R h => by unfold W_Row_across at h; obtain ⟨_, h⟩ := h; obtain ⟨_, h⟩ := h; obtain ⟨_, h⟩ := h; obtain ⟨_, h⟩ := h; obtain ⟨rfl, _⟩ := h; rfl) (fun cdv A outer s H hr hG => ⟨_, (dss_cons (ds_ret (de_fldK K (de_tVar (pv 0)))) dss_nil), fun ds R h => ?_⟩)) (nods (Dd.bindsN fun _ _ _ _ _ _ us hl => match us, hl with | [_], _ => rfl)) fun _ => DpL.nil
  unfold W_Row_across at h
  obtain ⟨ps, g, x, y, rfl, h⟩ := h
  rw [rwD_eq]
  walk_at "dl"
  simp only [rk6]
  exact ⟨M.fl_Row_three, h⟩
def W_Row_wides_for (M : Md K mg) : ON := fun ds R => ∃ (ps : List Pt) (g x y v : Int), ds = [rwD M ps g x y, .int v] ∧ ps.length ≤ 8 ∧ (∀ p ∈ ps, OkP p) ∧ 0 ≤ g ∧ g ≤ 1000000 ∧ 0 ≤ v - g * max 0 ((ps.length : Int) - 1) ∧ v - g * max 0 ((ps.length : Int) - 1) ≤ 1000000000000 ∧ R (.o (.lst ((whL ps (v - g * max 0 ((ps.length : Int) - 1))).map D.int)))
/-! Row.wides_for -/
theorem sc_Row_wides_for : FnScope ["self", "wide", "parts", "box", "least", "base", "greatest"] ["self", "wide"] (defScope s49) := ⟨rfl, rfl, rfl, by decide +kernel, rfl, by decide +kernel, by decide +kernel⟩
abbrev dd_Row_wides_for : List D := []
abbrev lv_Row_wides_for : Nat := 8
theorem def_Row_wides_for (M : Md K mg) (Dd : FunD K "wides_for" "Row.wides_for" (defArgs s49) (defBody s49) (defScope s49) [] [] f fd) (hc : Cls K M.C_Row) (hm : Meth K M.C_Row "wides_for" f) (G_whole_share : Def P w K mg base 7 "whole_share" dd_whole_share (W_whole_share M)) (G_gaps_of : Def P w K mg base 1 "gaps_of" dd_gaps_of (W_gaps_of M)) (G_Part : Cla P w K mg base 3 "Part" M.C_Part dd_Part (W_Part M)) (G_Leaf_across : Mth P w K mg base 1 M.C_Leaf "across" dd_Leaf_across (W_Leaf_across M)) : Mth P w K mg base 8 M.C_Row "wides_for" dd_Row_wides_for (W_Row_wides_for M) := by
  refine Mth.of hc hm (okG (k := 7) Dd sc_Row_wides_for (fun ds R h => by unfold W_Row_wides_for at h; obtain ⟨_, h⟩ := h; obtain ⟨_, h⟩ := h; obtain ⟨_, h⟩ := h; obtain ⟨_, h⟩ := h; obtain ⟨_, h⟩ := h; obtain ⟨rfl, _⟩ := h; rfl) (fun cdv A outer s H hr hG => ⟨_, (dss_cons (ds_set (i := 2) sc_Row_wides_for.nd (de_lst da_nil)) (dss_cons (ds_for PassesOwn.never rfl (di_lst (de_fldK K (de_tVar (pv 0)))) (dg_nm (i := 3) sc_Row_wides_for.nd) (dss_cons (ds_asgP (de_meth0 (G_Leaf_across.mono (by decide)) (de_tVar (pv 3)) hr hG) (dg_tp rfl (dgs_cons (dg_nm (i := 4) sc_Row_wides_for.nd) (dgs_cons (dg_nm (i := 5) sc_Row_wides_for.nd) (dgs_cons (dg_nm (i := 6) sc_Row_wides_for.nd) dgs_nil))))) (dss_cons (ds_expr (de_app (pv 2) (de_make (G_Part.mono (by decide)) hr hG (da_cons (de_tVar (pv 5)) (da_cons (de_tVar (pv 4)) (da_cons (de_tVar (pv 6)) (da_cons (de_fldK K (de_tVar (pv 3))) (da_cons (de_fldK K (de_tVar (pv 3))) da_nil)))))))) dss_nil))) (dss_cons (ds_ret (de_call (G_whole_share.mono (by decide)) hr hG (da_cons (de_tVar (pv 2)) (da_cons (de_callB (cr_max2 rfl) cd_max2 rfl M.b_max PyProof.Rows.boot_max (da_cons de_int (da_cons (de_bin op_sub od_sub (de_tVar (pv 1)) (de_call (G_gaps_of.mono (by decide)) hr hG (da_cons (de_fldK K (de_tVar (pv 0))) (da_cons (de_fldK K (de_tVar (pv 0))) da_nil)))) da_nil))) da_nil)))) dss_nil))), fun ds R h => ?_⟩)) (nods (Dd.bindsN fun _ _ _ _ _ _ us hl => match us, hl with | [_, _], _ => rfl)) fun _ => DpL.nil
  unfold W_Row_wides_for at h
  obtain ⟨ps, g, x, y, v, rfl, hl, hp, g0, g1, v0, v1, h⟩ := h
  rw [rwD_eq]
  walk_at "dl"
  simp only [rk0, rk1]
  refine ⟨M.fl_Row_boxes, ?_⟩
  walk_at "dl"
  refine forD_ind (fun ds ρ => ∃ (dn rest : List Pt) (a b c d : Option RD), ds = rest.map (lfD M) ∧ ps = dn ++ rest ∧ ρ = [some (.d (rwD M ps g x y)), some (.d (.int v)), some (.o (.lst (dn.map (ptD M)))), a, b, c, d]) ?_ ?_ ⟨[], ps, _, _, _, _, rfl, rfl, rfl⟩
  · rintro ρ ⟨dn, rest, a, b, c, d, e1, e2, rfl⟩
    have e4 : rest = [] := by simpa using e1.symm
    subst e4
    rw [List.append_nil] at e2
    subst e2
    rw [rwD_eq]
    walk_at "dl"
    simp only [rk0, rk1]
    refine ⟨M.fl_Row_boxes, M.fl_Row_gap, _, g, rfl, by simpa using hl, g0, g1, ?_⟩
    walk_at "dl"
    rw [show max 0 (v - g * max 0 ((((ps.map (lfD M)).length : Nat) : Int) - 1)) = v - g * max 0 ((ps.length : Int) - 1) by rw [List.length_map]; omega]
    exact ⟨ps, _, rfl, by omega, hp, v0, v1, h⟩
  · rintro d0 ds ρ U ⟨dn, rest, a, b, c, d, e1, e2, rfl⟩ hU
    cases rest with
    | nil => cases e1
    | cons p rest =>
      cases e1
      have ok := hp p (by rw [e2]; simp)
      have hdl : dn.length ≤ ps.length := by rw [e2]; simp
      rw [lfD_eq]
      walk_at "dl"
      refine ⟨rfl, p, rfl, ?_⟩
      walk_at "dl"
      simp only [lk4, lk5]
      refine ⟨M.fl_Leaf_grow, M.fl_Leaf_shrink, ?_⟩
      refine ⟨p, rfl, ok, ?_⟩
      walk_at "dl"
      refine ⟨by simp; omega, hU _ ⟨dn ++ [p], rest, some (.d (lfD M p)), some (.d (.int p.l)), some (.d (.int p.b)), some (.d (optD p.g)), rfl, by rw [e2]; simp, ?_⟩⟩
      rw [List.map_append]
      rfl
end
end K20
end
section
set_option Elab.async false
set_option linter.all false
set_option maxRecDepth 100000
set_option maxHeartbeats 1000000
set_option exponentiation.threshold 20000
namespace K20
open PySem PySem.Spec L2 DL
local macro_rules | `(tactic| walk_at "dl") => `(tactic| try simp only [dSeq, dIfS, dRet, dRetN, dRetV, dAsg, dExpr, dNever, dNext, dVar, dC, dBin, dUn, dTest, dNot, dAnd, dOr, dAndV, dOrV, dNotV, dIf, dCall, dCons, dNil, dBreak, rdVar_d, rdVar_lst, rdVar_ins, rtVar_d, rtVar_lst, toD_d, toD_lst, toD_ins, toDo_lst, asBl_bl, asInt_int, asLst_lst, wTup_eq, wLst_eq, startR, List.map, List.length, List.getElem?_cons_zero, List.getElem?_cons_succ, List.set_cons_zero, List.set_cons_succ, List.replicate, List.cons_append, List.nil_append, List.append_nil, wIsT, D.kd, kit_ii, kit_ib, kit_bi, kit_bb, kit_ll, kit_tt, kit_ss, kit_nl, kit_ni, kit_it, kit_nt, dZip, dPar3, dUnl2, eqE, neE, wTuple, wSorted, Nat.reduceAdd, Nat.reduceSub, Nat.reduceLeDiff, Bool.not_true, Bool.not_false, true_and, and_true, addD_int, addD_lst, mulD_int, mulD_lst, int0_int, intD_int, negD_int, ixT0, ixT1, ixT2, ixT3, lenD_lst, isND_non, notND_non, isNon_non, isNon_int, isNon_bl, isNon_tup, isNon_lst, isNon_ins, dChain, dWhile, dPar, eqD, neD, pl_int, pl_non, pl_bl, eqv_int, dFor, bindPat, bindPats, dItL, dItT, dItS, dRng1, dRng2, dEnum, dLenV, dIxV, dApp, dSetIx, dInsert, atOwn_zero, atOwn_succ, atD_zero, atD_succ, atDt_zero, atDt_succ, atSlf_zero, dRev, dSl, dPart0, dPart, dOrT, dAsgP, dComp, dAug, dRetP, retP_lst, startI, asIns_ins, slfEnd_eq, dSelf, dFld, dMeth, dMake, wIsC, wSum,  dUnpackP, dInDt, dPutDt, dDictT, wInt1_int, wInt1_bl, wAbs_int, wMax2_int, wMin2_int, wList_lst, wLen_lst, wLen_str, bagAt0, dBag, dPick, dAugBag, dSetBag])
local macro_rules | `(tactic| walk_at "br") => `(tactic| (split <;> rename_i hb <;> (first | replace hb := of_decide_eq_true hb | replace hb := of_decide_eq_false hb | skip)))
theorem bn_mul {d v e u : Nat} {x y : Rat} (h : Bn d v x) (g : Bn e u y) : Bn (d + e) (v + u) (x * y) := by
  have e1 : ((2 ^ (v + u) : Nat) : Rat) = ((2 ^ v : Nat) : Rat) * ((2 ^ u : Nat) : Rat) := by rw [← Rat.natCast_mul, ← Nat.pow_add]
  have h1 := h.lo
  have h2 := h.hi
  have g1 := g.lo
  have g2 := g.hi
  refine ⟨Nat.le_trans (den_mul x y) ?_, ?_, ?_⟩
  · rw [Nat.pow_add]; exact Nat.mul_le_mul h.d g.d
  · rw [e1]
    generalize ((2 ^ v : Nat) : Rat) = V at *
    generalize ((2 ^ u : Nat) : Rat) = W at *
    have a := Rat.mul_nonneg (a := V - x) (b := W - y) (by grind) (by grind)
    have b := Rat.mul_nonneg (a := V + x) (b := W + y) (by grind) (by grind)
    grind
  · rw [e1]
    generalize ((2 ^ v : Nat) : Rat) = V at *
    generalize ((2 ^ u : Nat) : Rat) = W at *
    have a := Rat.mul_nonneg (a := V - x) (b := W + y) (by grind) (by grind)
    have b := Rat.mul_nonneg (a := V + x) (b := W - y) (by grind) (by grind)
    grind
theorem bn_nat {n : Nat} (h : n ≤ 1000) : Bn 0 10 (n : Rat) := Bn.int (i := (n : Int)) (by omega)
/-- a blank's size -/
theorem blankS_bn {p : Pt} (ok : OkP p) {sp : Int} {n : Nat} (h0 : 0 < n) (h1 : n ≤ 100) (s0 : 0 ≤ sp) (s1 : sp ≤ 1000000000000) : Bn 7 62 (blankS p (sp : Rat) n) ∧ 0 ≤ blankS p (sp : Rat) n := by
  have n0 : (0 : Rat) < (n : Rat) := by exact_mod_cast h0
  have n1 : (1 : Rat) ≤ (n : Rat) := by exact_mod_cast h0
  have sr : (0 : Rat) ≤ (sp : Rat) := ratnn s0
  have q : Bn 7 62 ((sp : Rat) / (n : Rat)) ∧ 0 ≤ (sp : Rat) / (n : Rat) := by
    have dl := den_le sp (b := (n : Int)) (by omega)
    have e : (sp : Rat) / (((n : Int)) : Rat) = (sp : Rat) / (n : Rat) := rfl
    rw [e] at dl
    have e2 : (sp : Rat) / (n : Rat) * (n : Rat) = (sp : Rat) := by grind
    generalize (sp : Rat) / (n : Rat) = z at *
    have z0 : 0 ≤ z := by
      apply Rat.not_lt.mp
      intro q
      have := mulLt q n0
      grind
    have z1 := mulMono z0 n1
    have b := Bn.int (v := 62) (i := sp) (by omega)
    have := b.hi
    have : (0 : Rat) ≤ ((2 ^ 62 : Nat) : Rat) := by exact_mod_cast Nat.zero_le _
    exact ⟨⟨by omega, by grind, by grind⟩, z0⟩
  unfold blankS
  cases he : endP p true with
  | none => exact q
  | some m =>
    have hm := endP_bnd ok he
    simp only
    split
    · exact ⟨(Bn.int (v := 62) (by omega)).mono (by omega) (by omega), ratnn hm.1⟩
    · exact q
/-- what so many blanks cost in a space -/
def costR (sp : Rat) (n : Nat) (z t : Rat) : Rat := (n : Rat) * t + (sp - (n : Rat) * z) * (sp - (n : Rat) * z)
section
variable {P : Program} {w : World} {K : PySem.W.Frag} {mg : Str → Option Value} {base : Heap} {f : Addr} {fd : FuncData}
def W_leanest (M : Md K mg) : ON := fun ds R => ∃ p : Pt, ds = [ptD M p] ∧ OkP p ∧ R (.d (.int (eI p)))
/-! leanest -/
theorem sc_leanest : FnScope ["blank"] ["blank"] (defScope s53) := ⟨rfl, rfl, rfl, by decide +kernel, rfl, by decide +kernel, by decide +kernel⟩
abbrev dd_leanest : List D := []
abbrev lv_leanest : Nat := 1
theorem def_leanest (M : Md K mg) (Dd : FunD K "leanest" "leanest" (defArgs s53) (defBody s53) (defScope s53) [] [] f fd) (hm : mg "leanest" = some (.ref f)) : Def P w K mg base 1 "leanest" dd_leanest (W_leanest M) := by
  refine Def.of hm Dd.kp (okG (k := 0) Dd sc_leanest (fun ds R h => by unfold W_leanest at h; obtain ⟨_, h⟩ := h; obtain ⟨rfl, _⟩ := h; rfl) (fun cdv A outer s H hr hG => ⟨_, (dss_cons (ds_if (dt_cmp (op_eqD (hu64 hr)) od_eq (de_fldK K (de_tVar (pv 0))) de_int (nomark _)) (dss_cons (ds_ret (de_fldK K (de_tVar (pv 0)))) dss_nil) dss_nil) (dss_cons (ds_ret (de_fldK K (de_tVar (pv 0)))) dss_nil)), fun ds R h => ?_⟩)) (nods (Dd.bindsN fun _ _ _ _ _ _ us hl => match us, hl with | [_], _ => rfl)) fun _ => DpL.nil
  unfold W_leanest at h
  obtain ⟨p, rfl, ok, h⟩ := h
  have s0 := ok.s0
  rw [ptD_eq]
  walk_at "dl"
  simp only [pk0, pk1, pk4]
  refine ⟨M.fl_Part_shrink, ?_⟩
  unfold eI at h
  walk_at "dl"
  split
  · rename_i hb
    rw [if_neg (by have := of_decide_eq_true hb; omega)] at h
    exact ⟨M.fl_Part_base, h⟩
  · rename_i hb
    rw [if_pos (by have := of_decide_eq_false hb; omega)] at h
    exact ⟨M.fl_Part_least, h⟩
def W_fattest (M : Md K mg) : ON := fun ds R => ∃ p : Pt, ds = [ptD M p] ∧ OkP p ∧ R (.d (optD (endP p true)))
/-! fattest -/
theorem sc_fattest : FnScope ["blank"] ["blank"] (defScope s54) := ⟨rfl, rfl, rfl, by decide +kernel, rfl, by decide +kernel, by decide +kernel⟩
abbrev dd_fattest : List D := []
abbrev lv_fattest : Nat := 1
theorem def_fattest (M : Md K mg) (Dd : FunD K "fattest" "fattest" (defArgs s54) (defBody s54) (defScope s54) [] [] f fd) (hm : mg "fattest" = some (.ref f)) : Def P w K mg base 1 "fattest" dd_fattest (W_fattest M) := by
  refine Def.of hm Dd.kp (okG (k := 0) Dd sc_fattest (fun ds R h => by unfold W_fattest at h; obtain ⟨_, h⟩ := h; obtain ⟨rfl, _⟩ := h; rfl) (fun cdv A outer s H hr hG => ⟨_, (dss_cons (ds_if (dt_cmp (op_eqD (hu64 hr)) od_eq (de_fldK K (de_tVar (pv 0))) de_int (nomark _)) (dss_cons (ds_ret (de_fldK K (de_tVar (pv 0)))) dss_nil) dss_nil) (dss_cons (ds_ret (de_fldK K (de_tVar (pv 0)))) dss_nil)), fun ds R h => ?_⟩)) (nods (Dd.bindsN fun _ _ _ _ _ _ us hl => match us, hl with | [_], _ => rfl)) fun _ => DpL.nil
  unfold W_fattest at h
  obtain ⟨p, rfl, ok, h⟩ := h
  have s0 := ok.w0
  rw [ptD_eq]
  walk_at "dl"
  simp only [pk0, pk2, pk3]
  refine ⟨M.fl_Part_grow, ?_⟩
  have e : endP p true = if 0 < p.w then p.g else some p.b := by simp [endP]
  rw [e] at h
  walk_at "dl"
  split
  · rename_i hb
    rw [if_neg (by have := of_decide_eq_true hb; omega)] at h
    exact ⟨M.fl_Part_base, h⟩
  · rename_i hb
    rw [if_pos (by have := of_decide_eq_false hb; omega)] at h
    exact ⟨M.fl_Part_greatest, h⟩
def W_blank_size (M : Md K mg) : ON := fun ds R => ∃ (sp : Int) (n : Nat) (p : Pt), ds = [.int sp, .int n, ptD M p] ∧ 0 < n ∧ n ≤ 100 ∧ 0 ≤ sp ∧ sp ≤ 1000000000000 ∧ OkP p ∧ R (.d (frR (blankS p (sp : Rat) n)))
theorem n_lt (n : Nat) (m sp : Int) : decide ((n : Int) * m < sp) = decide ((n : Rat) * (m : Rat) < (sp : Rat)) := by
  have e : ((n : Int) * m < sp) ↔ ((n : Rat) * (m : Rat) < (sp : Rat)) := by
    rw [← rlt, Rat.intCast_mul]; rfl
  by_cases h : (n : Rat) * (m : Rat) < (sp : Rat)
  · rw [decide_eq_true h, decide_eq_true (e.mpr h)]
  · rw [decide_eq_false h, decide_eq_false fun q => h (e.mp q)]
theorem nat_8000 {n : Nat} (h : n ≤ 100) : (n : Int) < 2 ^ 8000 := by
  have : n < 2 ^ 8000 := Nat.lt_of_le_of_lt (show n ≤ 2 ^ 7 by omega) (Nat.pow_lt_pow_right (by decide) (by decide))
  exact_mod_cast this
/-! blank_size -/
theorem sc_blank_size : FnScope ["space", "many", "blank", "most"] ["space", "many", "blank"] (defScope s55) := ⟨rfl, rfl, rfl, by decide +kernel, rfl, by decide +kernel, by decide +kernel⟩
abbrev dd_blank_size : List D := []
abbrev lv_blank_size : Nat := 3
theorem def_blank_size (M : Md K mg) (Dd : FunD K "blank_size" "blank_size" (defArgs s55) (defBody s55) (defScope s55) [] [] f fd) (hm : mg "blank_size" = some (.ref f)) (G_fraction : Def P w K mg base 2 "fraction" dd_fraction (W_fraction M)) (G_fattest : Def P w K mg base 1 "fattest" dd_fattest (W_fattest M)) : Def P w K mg base 3 "blank_size" dd_blank_size (W_blank_size M) := by
  refine Def.of hm Dd.kp (okG (k := 2) Dd sc_blank_size (fun ds R h => by unfold W_blank_size at h; obtain ⟨_, h⟩ := h; obtain ⟨_, h⟩ := h; obtain ⟨_, h⟩ := h; obtain ⟨rfl, _⟩ := h; rfl) (fun cdv A outer s H hr hG => ⟨_, (dss_cons (ds_set (i := 3) sc_blank_size.nd (de_call (G_fattest.mono (by decide)) hr hG (da_cons (de_tVar (pv 2)) da_nil))) (dss_cons (ds_if (PW.pt (dw_and (dt_cmp op_notNA od_notN (de_tVar (pv 3)) de_non (nomark _)) (dw_and1 (dt_cmp op_lt od_lt (de_bin op_mulA od_mul (de_tVar (pv 1)) (de_tVar (pv 3))) (de_tVar (pv 0)) (nomark _))))) (dss_cons (ds_ret (de_tup (da_cons (de_tVar (pv 3)) (da_cons de_int da_nil)))) dss_nil) dss_nil) (dss_cons (ds_ret (de_call (G_fraction.mono (by decide)) hr hG (da_cons (de_tVar (pv 0)) (da_cons (de_tVar (pv 1)) da_nil)))) dss_nil))), fun ds R h => ?_⟩)) (nods (Dd.bindsN fun _ _ _ _ _ _ us hl => match us, hl with | [_, _, _], _ => rfl)) fun _ => DpL.nil
  unfold W_blank_size at h
  obtain ⟨sp, n, p, rfl, n0, n1, s0, s1, ok, h⟩ := h
  walk_at "dl"
  refine ⟨p, rfl, ok, ?_⟩
  unfold blankS at h
  have fin : R (.d (frR ((sp : Rat) / (n : Rat)))) → W_fraction M [.int sp, .int n] (fun r => R (.d r.toD)) := fun hR => ⟨sp, (n : Int), rfl, by omega, nat_8000 n1, hR⟩
  cases he : endP p true with
  | none =>
    rw [he] at h
    simp only [optD]
    walk_at "dl"
    exact fin h
  | some m =>
    have hm := endP_bnd ok he
    rw [he] at h
    simp only [optD]
    walk_at "dl"
    refine ⟨mulS (by omega) (by omega), ?_⟩
    rw [n_lt]
    split
    · rename_i hb
      simp only [if_pos (of_decide_eq_true hb)] at h
      exact h
    · rename_i hb
      simp only [if_neg (of_decide_eq_false hb)] at h
      exact fin h
def W_shared_cost (M : Md K mg) : ON := fun ds R => ∃ (sp : Int) (n : Nat) (p : Pt) (t : Rat), ds = [.int sp, .int n, ptD M p] ∧ n ≤ 100 ∧ 0 ≤ sp ∧ sp ≤ 1000000000000 ∧ OkP p ∧ (0 < n → strainP p (blankS p (sp : Rat) n) = some t) ∧ R (.d (frR (costR (sp : Rat) n (blankS p (sp : Rat) n) t)))
/-! shared_cost -/
theorem sc_shared_cost : FnScope ["space", "many", "blank", "size", "left"] ["space", "many", "blank"] (defScope s56) := ⟨rfl, rfl, rfl, by decide +kernel, rfl, by decide +kernel, by decide +kernel⟩
abbrev dd_shared_cost : List D := []
abbrev lv_shared_cost : Nat := 5
theorem def_shared_cost (M : Md K mg) (Dd : FunD K "shared_cost" "shared_cost" (defArgs s56) (defBody s56) (defScope s56) [] [] f fd) (hm : mg "shared_cost" = some (.ref f)) (G_plus : Def P w K mg base 3 "plus" dd_plus (W_plus M)) (G_times : Def P w K mg base 3 "times" dd_times (W_times M)) (G_Part_strain_at : Mth P w K mg base 4 M.C_Part "strain_at" dd_Part_strain_at (W_Part_strain_at M)) (G_minus : Def P w K mg base 3 "minus" dd_minus (W_minus M)) (G_blank_size : Def P w K mg base 3 "blank_size" dd_blank_size (W_blank_size M)) : Def P w K mg base 5 "shared_cost" dd_shared_cost (W_shared_cost M) := by
  refine Def.of hm Dd.kp (okG (k := 4) Dd sc_shared_cost (fun ds R h => by unfold W_shared_cost at h; obtain ⟨_, h⟩ := h; obtain ⟨_, h⟩ := h; obtain ⟨_, h⟩ := h; obtain ⟨_, h⟩ := h; obtain ⟨rfl, _⟩ := h; rfl) (fun cdv A outer s H hr hG => ⟨_, (dss_cons (ds_if (dt_cmp (op_eqD (hu64 hr)) od_eq (de_tVar (pv 1)) de_int (nomark _)) (dss_cons (ds_ret (de_tup (da_cons (de_bin op_mulA od_mul (de_tVar (pv 0)) (de_tVar (pv 0))) (da_cons de_int da_nil)))) dss_nil) dss_nil) (dss_cons (ds_set (i := 3) sc_shared_cost.nd (de_call (G_blank_size.mono (by decide)) hr hG (da_cons (de_tVar (pv 0)) (da_cons (de_tVar (pv 1)) (da_cons (de_tVar (pv 2)) da_nil))))) (dss_cons (ds_set (i := 4) sc_shared_cost.nd (de_call (G_minus.mono (by decide)) hr hG (da_cons (de_tup (da_cons (de_tVar (pv 0)) (da_cons de_int da_nil))) (da_cons (de_call (G_times.mono (by decide)) hr hG (da_cons (de_tup (da_cons (de_tVar (pv 1)) (da_cons de_int da_nil))) (da_cons (de_tVar (pv 3)) da_nil))) da_nil)))) (dss_cons (ds_ret (de_call (G_plus.mono (by decide)) hr hG (da_cons (de_call (G_times.mono (by decide)) hr hG (da_cons (de_tup (da_cons (de_tVar (pv 1)) (da_cons de_int da_nil))) (da_cons (de_meth (G_Part_strain_at.mono (by decide)) (de_tVar (pv 2)) hr hG (da_cons (de_tVar (pv 3)) da_nil)) da_nil))) (da_cons (de_call (G_times.mono (by decide)) hr hG (da_cons (de_tVar (pv 4)) (da_cons (de_tVar (pv 4)) da_nil))) da_nil)))) dss_nil)))), fun ds R h => ?_⟩)) (nods (Dd.bindsN fun _ _ _ _ _ _ us hl => match us, hl with | [_, _, _], _ => rfl)) fun _ => DpL.nil
  unfold W_shared_cost at h
  obtain ⟨sp, n, p, t, rfl, n1, s0, s1, ok, ht, h⟩ := h
  walk_at "dl"
  unfold costR at h
  split
  · rename_i hb
    have hb : n = 0 := by have := of_decide_eq_true hb; omega
    subst hb
    refine ⟨mulS (by omega) (by omega), ?_⟩
    rw [show ((0 : Nat) : Rat) * t + ((sp : Rat) - ((0 : Nat) : Rat) * blankS p (sp : Rat) 0) * ((sp : Rat) - ((0 : Nat) : Rat) * blankS p (sp : Rat) 0) = ((sp * sp : Int) : Rat) by rw [Rat.intCast_mul]; grind] at h
    exact h
  · rename_i hb
    have n0 : 0 < n := by have := of_decide_eq_false hb; omega
    have ht := ht n0
    obtain ⟨zb, z0⟩ := blankS_bn ok n0 n1 s0 s1
    refine ⟨sp, n, p, rfl, n0, n1, s0, s1, ok, ?_⟩
    generalize blankS p (sp : Rat) n = z at *
    have nb := bn_nat (n := n) (by omega)
    have sb := Bn.int (v := 72) (i := sp) (by omega)
    have nzb := bn_mul nb zb
    have lb := sb.sub nzb
    obtain ⟨t1, t2, t3⟩ := strain_bn ok zb ht
    have tb : Bn 24 126 t := ⟨t1, by have : (0 : Rat) ≤ ((2 ^ 126 : Nat) : Rat) := by exact_mod_cast Nat.zero_le _
                                     grind, t3⟩
    walk_at "dl"
    refine ⟨(n : Rat), z, rfl, bnW nb, bnW zb, ?_⟩
    walk_at "dl"
    refine ⟨(sp : Rat), _, rfl, bnW sb, bnW nzb, ?_⟩
    walk_at "dl"
    rw [ptD_eq]
    walk_at "dl"
    refine ⟨rfl, p, z, t, 7, rfl, ok, zb, by omega, ht, ?_⟩
    walk_at "dl"
    refine ⟨(n : Rat), t, rfl, bnW nb, bnW tb, ?_⟩
    walk_at "dl"
    refine ⟨_, _, rfl, bnW lb, bnW lb, ?_⟩
    walk_at "dl"
    exact ⟨_, _, rfl, bnW (bn_mul nb tb), bnW (bn_mul lb lb), h⟩
def W_cost_of (M : Md K mg) : ON := fun ds R => ∃ (s rm : Int) (n : Nat) (p : Pt) (la al : Bool) (t : Rat), ds = [.int s, .int n, ptD M p, .int rm, .bl la, .bl al] ∧ n ≤ 100 ∧ 0 ≤ s ∧ s ≤ rm ∧ rm ≤ 1000000000000 ∧ OkP p ∧
  (0 < n → strainP p (blankS p ((rm - s : Int) : Rat) n) = some t ∨ rm < s + n * eI p) ∧ (la = true → s + n * p.b ≤ rm → R (.d (frR 0))) ∧ (¬ (la = true ∧ s + n * p.b ≤ rm) → s + n * eI p ≤ rm → R (.d (frR (costR ((rm - s : Int) : Rat) n (blankS p ((rm - s : Int) : Rat) n) t)))) ∧ (¬ (la = true ∧ s + n * p.b ≤ rm) → rm < s + n * eI p → al = false ∧ R (.d .non))
/-! cost_of -/
theorem sc_cost_of : FnScope ["solid", "many", "blank", "room", "last", "alone", "lean"] ["solid", "many", "blank", "room", "last", "alone"] (defScope s57) := ⟨rfl, rfl, rfl, by decide +kernel, rfl, by decide +kernel, by decide +kernel⟩
abbrev dd_cost_of : List D := []
abbrev lv_cost_of : Nat := 6
theorem def_cost_of (M : Md K mg) (Dd : FunD K "cost_of" "cost_of" (defArgs s57) (defBody s57) (defScope s57) [] [] f fd) (hm : mg "cost_of" = some (.ref f)) (G_shared_cost : Def P w K mg base 5 "shared_cost" dd_shared_cost (W_shared_cost M)) (G_leanest : Def P w K mg base 1 "leanest" dd_leanest (W_leanest M)) : Def P w K mg base 6 "cost_of" dd_cost_of (W_cost_of M) := by
  refine Def.of hm Dd.kp (okG (k := 5) Dd sc_cost_of (fun ds R h => by unfold W_cost_of at h; obtain ⟨_, h⟩ := h; obtain ⟨_, h⟩ := h; obtain ⟨_, h⟩ := h; obtain ⟨_, h⟩ := h; obtain ⟨_, h⟩ := h; obtain ⟨_, h⟩ := h; obtain ⟨_, h⟩ := h; obtain ⟨rfl, _⟩ := h; rfl) (fun cdv A outer s H hr hG => ⟨_, (dss_cons (ds_if (PW.pt (dw_and (dt_val (de_tVar (pv 4))) (dw_and1 (dt_cmp op_le od_le (de_bin op_addA od_add (de_tVar (pv 0)) (de_bin op_mulA od_mul (de_tVar (pv 1)) (de_fldK K (de_tVar (pv 2))))) (de_tVar (pv 3)) (nomark _))))) (dss_cons (ds_ret (de_tup (da_cons de_int (da_cons de_int da_nil)))) dss_nil) dss_nil) (dss_cons (ds_set (i := 6) sc_cost_of.nd (de_bin op_addA od_add (de_tVar (pv 0)) (de_bin op_mulA od_mul (de_tVar (pv 1)) (de_call (G_leanest.mono (by decide)) hr hG (da_cons (de_tVar (pv 2)) da_nil))))) (dss_cons (ds_if (dt_cmp op_le od_le (de_tVar (pv 6)) (de_tVar (pv 3)) (nomark _)) (dss_cons (ds_ret (de_call (G_shared_cost.mono (by decide)) hr hG (da_cons (de_bin op_sub od_sub (de_tVar (pv 3)) (de_tVar (pv 0))) (da_cons (de_tVar (pv 1)) (da_cons (de_tVar (pv 2)) da_nil))))) dss_nil) dss_nil) (dss_cons (ds_if (dt_val (de_tVar (pv 5))) (dss_cons (ds_ret (de_tup (da_cons (de_bin op_addA od_add (de_glob (d := .int 10000000000000000000000000000000000000000) (v := .int 10000000000000000000000000000000000000000) (fun _ => rfl) rfl M.c_ALONE ⟨_, rfl⟩) (de_bin op_mulA od_mul (de_bin op_sub od_sub (de_tVar (pv 6)) (de_tVar (pv 3))) (de_bin op_sub od_sub (de_tVar (pv 6)) (de_tVar (pv 3))))) (da_cons de_int da_nil)))) dss_nil) dss_nil) (dss_cons (ds_ret de_non) dss_nil))))), fun ds R h => ?_⟩)) (nods (Dd.bindsN fun _ _ _ _ _ _ us hl => match us, hl with | [_, _, _, _, _, _], _ => rfl)) fun _ => DpL.nil
  unfold W_cost_of at h
  obtain ⟨s, rm, n, p, la, al, t, rfl, n1, s0, s1, r1, ok, ht, h1, h2, h3⟩ := h
  have eb := eI_bnd ok
  have pb := ok.b1
  have l0 := ok.l0
  have lb := ok.lb
  have rest : ¬ (la = true ∧ s + n * p.b ≤ rm) → ∀ U : Rho → Prop, True := fun _ _ => trivial
  rw [ptD_eq]
  walk_at "dl"
  simp only [pk0]
  have body : ¬ (la = true ∧ s + n * p.b ≤ rm) → (CMulW (n : Int) (eI p) ∨ CMul (n : Int) (eI p)) := fun _ => mulS (by omega) (by omega)
  cases la with
  | true =>
    walk_at "dl"
    refine ⟨M.fl_Part_base, mulS (by omega) (by omega), ?_⟩
    walk_at "dl"
    split
    · rename_i hb
      exact h1 rfl (of_decide_eq_true hb)
    · rename_i hb
      have hb := of_decide_eq_false hb
      have hn : ¬ (true = true ∧ s + n * p.b ≤ rm) := fun q => hb q.2
      refine ⟨p, rfl, ok, ?_⟩
      walk_at "dl"
      refine ⟨mulS (by omega) (by omega), ?_⟩
      walk_at "dl"
      split
      · rename_i hc
        have hc := of_decide_eq_true hc
        exact ⟨rm - s, n, p, t, rfl, n1, by omega, by omega, ok, fun n0 => by rcases ht n0 with q | q; exact q; omega, h2 hn hc⟩
      · rename_i hc
        have hc := of_decide_eq_false hc
        obtain ⟨rfl, hR⟩ := h3 hn (by omega)
        walk_at "dl"
        exact hR
  | false =>
    walk_at "dl"
    have hn : ¬ (false = true ∧ s + n * p.b ≤ rm) := fun q => nomatch q.1
    refine ⟨p, rfl, ok, ?_⟩
    walk_at "dl"
    refine ⟨mulS (by omega) (by omega), ?_⟩
    walk_at "dl"
    split
    · rename_i hc
      have hc := of_decide_eq_true hc
      exact ⟨rm - s, n, p, t, rfl, n1, by omega, by omega, ok, fun n0 => by rcases ht n0 with q | q; exact q; omega, h2 hn hc⟩
    · rename_i hc
      have hc := of_decide_eq_false hc
      obtain ⟨rfl, hR⟩ := h3 hn (by omega)
      walk_at "dl"
      exact hR
def inR (p : Pt) (sp : Int) (n : Nat) : Rat := if 0 < n ∧ (n : Int) * eI p ≤ sp then blankS p (sp : Rat) n else ((eI p : Int) : Rat)
def W_blank_in (M : Md K mg) : ON := fun ds R => ∃ (sp : Int) (n : Nat) (p : Pt), ds = [.int sp, .int n, ptD M p, .bl false] ∧ n ≤ 100 ∧ 0 ≤ sp ∧ sp ≤ 1000000000000 ∧ OkP p ∧ R (.d (frR (inR p sp n)))
/-! blank_in -/
theorem sc_blank_in : FnScope ["space", "many", "blank", "last"] ["space", "many", "blank", "last"] (defScope s58) := ⟨rfl, rfl, rfl, by decide +kernel, rfl, by decide +kernel, by decide +kernel⟩
abbrev dd_blank_in : List D := []
abbrev lv_blank_in : Nat := 4
theorem def_blank_in (M : Md K mg) (Dd : FunD K "blank_in" "blank_in" (defArgs s58) (defBody s58) (defScope s58) [] [] f fd) (hm : mg "blank_in" = some (.ref f)) (G_leanest : Def P w K mg base 1 "leanest" dd_leanest (W_leanest M)) (G_blank_size : Def P w K mg base 3 "blank_size" dd_blank_size (W_blank_size M)) : Def P w K mg base 4 "blank_in" dd_blank_in (W_blank_in M) := by
  refine Def.of hm Dd.kp (okG (k := 3) Dd sc_blank_in (fun ds R h => by unfold W_blank_in at h; obtain ⟨_, h⟩ := h; obtain ⟨_, h⟩ := h; obtain ⟨_, h⟩ := h; obtain ⟨rfl, _⟩ := h; rfl) (fun cdv A outer s H hr hG => ⟨_, (dss_cons (ds_if (PW.pt (dw_and (dt_val (de_tVar (pv 3))) (dw_and1 (dt_cmp op_le od_le (de_bin op_mulA od_mul (de_tVar (pv 1)) (de_fldK K (de_tVar (pv 2)))) (de_tVar (pv 0)) (nomark _))))) (dss_cons (ds_ret (de_tup (da_cons (de_fldK K (de_tVar (pv 2))) (da_cons de_int da_nil)))) dss_nil) dss_nil) (dss_cons (ds_if (PW.pt (dw_and (dt_cmp op_gt od_gt (de_tVar (pv 1)) de_int (nomark _)) (dw_and1 (dt_cmp op_le od_le (de_bin op_mulA od_mul (de_tVar (pv 1)) (de_call (G_leanest.mono (by decide)) hr hG (da_cons (de_tVar (pv 2)) da_nil))) (de_tVar (pv 0)) (nomark _))))) (dss_cons (ds_ret (de_call (G_blank_size.mono (by decide)) hr hG (da_cons (de_tVar (pv 0)) (da_cons (de_tVar (pv 1)) (da_cons (de_tVar (pv 2)) da_nil))))) dss_nil) dss_nil) (dss_cons (ds_ret (de_tup (da_cons (de_call (G_leanest.mono (by decide)) hr hG (da_cons (de_tVar (pv 2)) da_nil)) (da_cons de_int da_nil)))) dss_nil))), fun ds R h => ?_⟩)) (nods (Dd.bindsN fun _ _ _ _ _ _ us hl => match us, hl with | [_, _, _, _], _ => rfl)) fun _ => DpL.nil
  unfold W_blank_in at h
  obtain ⟨sp, n, p, rfl, n1, s0, s1, ok, h⟩ := h
  have eb := eI_bnd ok
  unfold inR at h
  walk_at "dl"
  have fin : ¬ (0 < n ∧ (n : Int) * eI p ≤ sp) → W_leanest M [ptD M p] (fun r => R (.d (.tup [r.toD, .int 1]))) := fun q => ⟨p, rfl, ok, by rw [if_neg q] at h; exact h⟩
  by_cases n0 : 0 < n
  · rw [decide_eq_true (show (0 : Int) < (n : Int) by omega)]
    walk_at "dl"
    refine ⟨p, rfl, ok, ?_⟩
    walk_at "dl"
    refine ⟨mulS (by omega) (by omega), ?_⟩
    walk_at "dl"
    split
    · rename_i hc
      rw [if_pos ⟨n0, of_decide_eq_true hc⟩] at h
      exact ⟨sp, n, p, rfl, n0, n1, s0, s1, ok, h⟩
    · rename_i hc
      exact fin fun q => of_decide_eq_false hc q.2
  · rw [decide_eq_false (show ¬ (0 : Int) < (n : Int) by omega)]
    walk_at "dl"
    exact fin fun q => n0 q.1
end
end K20
end
section
set_option Elab.async false
set_option linter.all false
set_option maxRecDepth 100000
set_option maxHeartbeats 1000000
set_option exponentiation.threshold 20000
namespace K20
open PySem PySem.Spec L2 DL
local macro_rules | `(tactic| walk_at "dl") => `(tactic| try simp only [dSeq, dIfS, dRet, dRetN, dRetV, dAsg, dExpr, dNever, dNext, dVar, dC, dBin, dUn, dTest, dNot, dAnd, dOr, dAndV, dOrV, dNotV, dIf, dCall, dCons, dNil, dBreak, rdVar_d, rdVar_lst, rdVar_ins, rtVar_d, rtVar_lst, toD_d, toD_lst, toD_ins, toDo_lst, asBl_bl, asInt_int, asLst_lst, wTup_eq, wLst_eq, startR, List.map, List.length, List.getElem?_cons_zero, List.getElem?_cons_succ, List.set_cons_zero, List.set_cons_succ, List.replicate, List.cons_append, List.nil_append, List.append_nil, wIsT, D.kd, kit_ii, kit_ib, kit_bi, kit_bb, kit_ll, kit_tt, kit_ss, kit_nl, kit_ni, kit_it, kit_nt, dZip, dPar3, dUnl2, eqE, neE, wTuple, wSorted, Nat.reduceAdd, Nat.reduceSub, Nat.reduceLeDiff, Bool.not_true, Bool.not_false, true_and, and_true, addD_int, addD_lst, mulD_int, mulD_lst, int0_int, intD_int, negD_int, ixT0, ixT1, ixT2, ixT3, lenD_lst, isND_non, notND_non, isNon_non, isNon_int, isNon_bl, isNon_tup, isNon_lst, isNon_ins, dChain, dWhile, dPar, eqD, neD, pl_int, pl_non, pl_bl, eqv_int, dFor, bindPat, bindPats, dItL, dItT, dItS, dRng1, dRng2, dEnum, dLenV, dIxV, dApp, dSetIx, dInsert, atOwn_zero, atOwn_succ, atD_zero, atD_succ, atDt_zero, atDt_succ, atSlf_zero, dRev, dSl, dPart0, dPart, dOrT, dAsgP, dComp, dAug, dRetP, retP_lst, startI, asIns_ins, slfEnd_eq, dSelf, dFld, dMeth, dMake, wIsC, wSum,  dUnpackP, dInDt, dPutDt, dDictT, wInt1_int, wInt1_bl, wAbs_int, wMax2_int, wMin2_int, wList_lst, wLen_lst, wLen_str, bagAt0, dBag, dPick, dAugBag, dSetBag])
local macro_rules | `(tactic| walk_at "br") => `(tactic| (split <;> rename_i hb <;> (first | replace hb := of_decide_eq_true hb | replace hb := of_decide_eq_false hb | skip)))
theorem cut_hi {α : Type} (xs : List α) (i : Nat) : cutD xs none (some (i : Int)) = xs.take i := by
  unfold cutD
  have : HT.sIx xs.length xs.length (some (i : Int)) = min i xs.length := by
    unfold HT.sIx
    simp
    omega
  rw [this]
  show (xs.drop 0).take (min i xs.length - 0) = _
  simp
theorem cut_lo {α : Type} (xs : List α) (i : Nat) : cutD xs (some (i : Int)) none = xs.drop i := by
  unfold cutD
  have : HT.sIx xs.length 0 (some (i : Int)) = min i xs.length := by
    unfold HT.sIx
    simp
    omega
  rw [this]
  show (xs.drop (min i xs.length)).take (xs.length - min i xs.length) = _
  rw [List.take_of_length_le (by simp)]
  by_cases h : i ≤ xs.length
  · rw [Nat.min_eq_left h]
  · rw [Nat.min_eq_right (by omega), List.drop_eq_nil_of_le (Nat.le_refl _), List.drop_eq_nil_of_le (by omega)]
/-- a comprehension whose elements are known by a property -/
theorem comp_P {p : Pat} {te : ET} {vs : List Nat} {Q : RD → Rho → Prop} {ρ : Rho} (Pr : D → Prop) (no : noOwn ρ vs) : ∀ (ds acc : List D), acc.length + ds.length ≤ 1000000 →
    (∀ d ∈ ds, ∀ U : RD → Rho → Prop, (∀ r ρ4, Pr r.toD → restR ρ ρ4 vs = ρ → U r ρ4) → bindPat p d (wipeR ρ vs) fun ρ2 => te ρ2 U) →
    (∀ ys : List D, ys.length = ds.length → (∀ y ∈ ys, Pr y) → Q (.o (.lst (acc ++ ys))) ρ) → compD p dYes te vs Q ds ρ acc
  | [], acc, _, _, h => by simpa [compD] using h [] rfl (by simp)
  | d :: ds, acc, hl, hs, h => by
    refine ⟨no, ?_⟩
    have hl' : acc.length + (ds.length + 1) ≤ 1000000 := hl
    refine hs d List.mem_cons_self (fun y ρ4 => acc.length < 1000000 ∧ compD p dYes te vs Q ds (restR ρ ρ4 vs) (acc ++ [y.toD])) fun r ρ4 e1 e2 => ?_
    refine ⟨by omega, ?_⟩
    rw [e2]
    refine comp_P Pr no ds (acc ++ [r.toD]) (by simp; omega) (fun d hd => hs d (List.mem_cons_of_mem _ hd)) fun ys hy hP => ?_
    have := h (r.toD :: ys) (by simp [hy]) fun y hy => by
      rcases List.mem_cons.mp hy with rfl | hy
      · exact e1
      · exact hP y hy
    simpa using this
section
variable {P : Program} {w : World} {K : PySem.W.Frag} {mg : Str → Option Value} {base : Heap} {f : Addr} {fd : FuncData}
/-! ### draws -/
def W__law_bag (M : Md K mg) : ON := fun ds R => ∃ ns, ds = [.scr ns] ∧ R (.d .bag)
theorem abs_comp {te : ET} (hte : ∀ i ρ0 Q, te [ρ0, some (.d (.int i))] Q = Q (.d (.int (if i < 0 then -i else i))) [ρ0, some (.d (.int i))]) (Q : RD → Rho → Prop) : ∀ (ms : List Int) (ρ0 : Option RD) (ρ1 : Option RD) (acc : List Int), (∀ b, ρ1 ≠ some (.o b)) → acc.length + ms.length ≤ 100 →
    (∀ ρ, Q (.o (.lst ((acc ++ ms.map fun i => if i < 0 then -i else i).map D.int))) ρ) → compD (.nm 1) dYes te [1] Q (ms.map D.int) [ρ0, ρ1] (acc.map D.int)
  | [], ρ0, ρ1, acc, h1, h2, h3 => by
    have := h3 [ρ0, ρ1]
    simpa [compD] using this
  | m :: ms, ρ0, ρ1, acc, h1, h2, h3 => by
    refine ⟨⟨?_, trivial⟩, ?_⟩
    · cases ρ1 with
      | none => trivial
      | some r =>
        cases r with
        | d _ => trivial
        | o b => exact absurd rfl (h1 b)
    · simp only [bindPat, wipeR, List.set_cons_succ, List.set_cons_zero, dYes, hte]
      have ih := abs_comp hte Q ms ρ0 ρ1 (acc ++ [if m < 0 then -m else m]) h1 (by simp at h2 ⊢; omega) (by simpa using h3)
      refine ⟨by simp at h2 ⊢; omega, ?_⟩
      simpa [restR, toD_d] using ih
/-! _law_bag -/
theorem sc__law_bag : FnScope ["script", "cell"] ["script"] (defScope s62) := ⟨rfl, rfl, rfl, by decide +kernel, rfl, by decide +kernel, by decide +kernel⟩
abbrev dd__law_bag : List D := []
abbrev lv__law_bag : Nat := 1
theorem def__law_bag (M : Md K mg) (Dd : FunD K "_law_bag" "_law_bag" (defArgs s62) (defBody s62) (defScope s62) [] [] f fd) (hm : mg "_law_bag" = some (.ref f)) : Def P w K mg base 1 "_law_bag" dd__law_bag (W__law_bag M) := by
  refine Def.of hm Dd.kp (okG (k := 0) Dd sc__law_bag (fun ds R h => by unfold W__law_bag at h; obtain ⟨_, h⟩ := h; obtain ⟨rfl, _⟩ := h; rfl) (fun cdv A outer s H hr hG => ⟨_, (dss_cons (ds_ret (de_bagOf (de_lst (da_cons de_int (da_cons de_int (da_cons de_int (da_cons (de_lc (own := [("cell", 1)]) rfl sc__law_bag.nd (di_lst (de_slS (de_tVar (pv 0)) do_none (do_some de_int))) (blkOk_by (N := ["script", "cell"]) (sc := defScope s62) (by decide +kernel)) (fun _ _ _ _ _ => (dg_nm (i := 1) sc__law_bag.nd)) (fun _ _ _ _ _ => dts_nil) (fun _ _ _ _ _ => (de_callB cr_abs cd_abs rfl M.b_abs PyProof.Rows.boot_abs (da_cons (de_tVar (pv 1)) da_nil)))) da_nil))))))) dss_nil), fun ds R h => ?_⟩)) (nods (Dd.bindsN fun _ _ _ _ _ _ us hl => match us, hl with | [_], _ => rfl)) fun _ => DpL.nil
  unfold W__law_bag at h
  obtain ⟨ns, rfl, h⟩ := h
  walk_at "dl"
  simp only [dBagOf, dCall, dCons, dC, dNil, dComp, dItL, dSlS, dVar, rdVar_d, toD_d, dPart0, dPart, asInt_int, asScr, List.getElem?_cons_zero]
  intro ms _ hms
  have hl : ms.length ≤ 63 := by
    rw [hms]
    unfold cutD
    rw [List.length_take]
    have : HT.sIx ns.length ns.length (some 63) ≤ 63 := by unfold HT.sIx; simp; omega
    omega
  refine abs_comp ?_ _ ms _ _ [] (by simp) (by simp; omega) ?_
  · intro i ρ0 Q
    rfl
  · intro ρ
    refine ⟨by simp, 0, 1234567891, 0, _, rfl, ⟨by decide, by decide, by decide⟩, ?_, by simpa using hl, h⟩
    intro x hx
    simp only [List.nil_append, List.mem_map] at hx
    obtain ⟨i, _, rfl⟩ := hx
    split <;> omega
def W__law_take (M : Md K mg) : ON := fun ds R => ∃ n, ds = [.bag, .int n] ∧ 0 < n ∧ n < 2 ^ 8000 ∧ ∀ r, 0 ≤ r → r < n → R (.d (.int r))
theorem int_mod {a n : Int} (h : 0 < n) : 0 ≤ a % n ∧ a % n < n := ⟨Int.emod_nonneg _ (by omega), Int.emod_lt_of_pos _ h⟩
/-! _law_take -/
theorem sc__law_take : FnScope ["bag", "upto", "cell", "mixed", "drawn", "early", "second"] ["bag", "upto"] (defScope s63) := ⟨rfl, rfl, rfl, by decide +kernel, rfl, by decide +kernel, by decide +kernel⟩
abbrev dd__law_take : List D := []
abbrev lv__law_take : Nat := 1
theorem def__law_take (M : Md K mg) (Dd : FunD K "_law_take" "_law_take" (defArgs s63) (defBody s63) (defScope s63) [] [] f fd) (hm : mg "_law_take" = some (.ref f)) : Def P w K mg base 1 "_law_take" dd__law_take (W__law_take M) := by
  refine Def.of hm Dd.kp (okG (k := 0) Dd sc__law_take (fun ds R h => by unfold W__law_take at h; obtain ⟨_, h⟩ := h; obtain ⟨rfl, _⟩ := h; rfl) (fun cdv A outer s H hr hG => ⟨_, (dss_cons (ds_if (dt_cmp (op_eqD (hu64 hr)) od_eq (de_ixBag (pv 0) pe_int) de_int (nomark _)) (dss_cons (ds_set (i := 2) sc__law_take.nd de_int) (dss_cons (ds_pick (j := 2) sc__law_take.nd M.b_len (pv 0) (pv 0) (pv 0) (pv 0) pe_int pe_int pe_int pe_int) (dss_cons (ds_augBag (pv 0) pe_int de_int) (dss_cons (ds_if (dt_cmp op_ge od_ge (de_tVar (pv 2)) de_int (nomark _)) (dss_cons (ds_setBag (de_tVar (pv 2)) (pv 0) pe_int) dss_nil) dss_nil) (dss_cons (ds_set (i := 3) sc__law_take.nd (de_bin op_addA od_add (de_bin op_addA od_add (de_bin op_mulA od_mul (de_ixBag (pv 0) pe_int) de_int) (de_bin op_mod od_mod (de_callTy cr_int1 cd_int1 rfl M.b_int PyProof.Rows.boot_int (da_cons (de_tVar (pv 2)) da_nil)) de_int)) (de_bin op_mulA od_mul de_int (de_ixBag (pv 0) pe_int)))) (dss_cons (ds_setBag (de_bin op_mod od_mod (de_callTy cr_int1 cd_int1 rfl M.b_int PyProof.Rows.boot_int (da_cons (de_tVar (pv 3)) da_nil)) de_int) (pv 0) pe_int) dss_nil)))))) dss_nil) (dss_cons (ds_if (dt_cmp op_gt od_gt (de_ixBag (pv 0) pe_int) de_int (nomark _)) (dss_cons (ds_set (i := 4) sc__law_take.nd (de_bin op_mod od_mod (de_callTy cr_int1 cd_int1 rfl M.b_int PyProof.Rows.boot_int (da_cons (de_ixBag (pv 0) pe_int) da_nil)) (de_tVar (pv 1)))) (dss_cons (ds_setBag (de_bin op_fdivW od_fdiv (de_callTy cr_int1 cd_int1 rfl M.b_int PyProof.Rows.boot_int (da_cons (de_ixBag (pv 0) pe_int) da_nil)) (de_tVar (pv 1))) (pv 0) pe_int) (dss_cons (ds_ret (de_tVar (pv 4))) dss_nil))) dss_nil) (dss_cons (ds_set (i := 5) sc__law_take.nd (de_bin op_mod od_mod (de_callTy cr_int1 cd_int1 rfl M.b_int PyProof.Rows.boot_int (da_cons (de_bin op_mulA od_mul (de_bin op_addA od_add (de_ixBag (pv 0) pe_int) de_int) de_int) da_nil)) de_int)) (dss_cons (ds_set (i := 6) sc__law_take.nd (de_bin op_mod od_mod (de_callTy cr_int1 cd_int1 rfl M.b_int PyProof.Rows.boot_int (da_cons (de_bin op_mulA od_mul (de_bin op_mod od_mod (de_callTy cr_int1 cd_int1 rfl M.b_int PyProof.Rows.boot_int (da_cons (de_bin op_mulA od_mul (de_tVar (pv 5)) (de_tVar (pv 5))) da_nil)) de_int) de_int) da_nil)) de_int)) (dss_cons (ds_ret (de_bin op_mod od_mod (de_callTy cr_int1 cd_int1 rfl M.b_int PyProof.Rows.boot_int (da_cons (de_bin op_fdivW od_fdiv (de_tVar (pv 6)) de_int) da_nil)) (de_tVar (pv 1)))) dss_nil))))), fun ds R h => ?_⟩)) (nods (Dd.bindsN fun _ _ _ _ _ _ us hl => match us, hl with | [_, _], _ => rfl)) fun _ => DpL.nil
  unfold W__law_take at h
  obtain ⟨n, rfl, h0, h1, h⟩ := h
  have hm : ∀ a : Int, R (.d (.int (a % n))) := fun a => h _ (int_mod h0).1 (int_mod h0).2
  refine dSeq_in (fun ρ => ∃ a b c d e, ρ = [some (.d .bag), some (.d (.int n)), a, b, c, d, e]) ?_ ?_
  · rintro ρ ⟨a, b, c, d, e, rfl⟩
    walk_at "dl"
    refine ⟨by decide, fun z hz => ?_⟩
    split
    · refine ⟨by simp, fun z1 h1' => ⟨h0, by simp, by simp, fun z2 h2' => ⟨?_, Int.ediv_nonneg h2' (by omega), hm _⟩⟩⟩
      exact ⟨h0, Nat.lt_of_lt_of_le ((Nat.log2_lt (by omega)).mpr (show n.natAbs < 2 ^ 8000 by omega)) (by decide)⟩
    · refine ⟨by simp, fun z1 h1' => ?_⟩
      have b1 := int_mod (a := (z1 + 1) * 39373) (n := 1000000007) (by decide)
      exact ⟨.inr (.inr (by decide)), by decide, .inr (.inr (by omega)), by decide, .inr (.inr (by decide)), by decide, ⟨by decide, by decide⟩, h0, hm _⟩
  intro U hU
  walk_at "dl"
  refine ⟨by decide, fun z hz => ?_⟩
  split
  · refine ⟨⟨by decide, ?_⟩, fun z hz => ⟨by decide, ?_⟩⟩
    all_goals split
    all_goals first
      | exact ⟨by simp, by omega, by simp, fun z1 _ => ⟨.inr (.inr (by decide)), by decide, by simp, fun z2 _ => ⟨.inr (.inl (by decide)), by simp, by decide, (int_mod (by decide)).1, hU _ ⟨_, _, _, _, _, rfl⟩⟩⟩⟩
      | exact ⟨by simp, fun z1 _ => ⟨.inr (.inr (by decide)), by decide, by simp, fun z2 _ => ⟨.inr (.inl (by decide)), by simp, by decide, (int_mod (by decide)).1, hU _ ⟨_, _, _, _, _, rfl⟩⟩⟩⟩
  · exact hU _ ⟨_, _, _, _, _, rfl⟩
/-- n draws in their range -/
theorem draw {M : Md K mg} {n : Int} {R : RD → Prop} (h0 : 0 < n) (h1 : n < 2 ^ 8000) (h : ∀ r, 0 ≤ r → r < n → R (.d (.int r))) : W__law_take M [.bag, .int n] R := ⟨n, rfl, h0, h1, h⟩
def W__law_one (M : Md K mg) : ON := fun ds R => ∃ xs : List D, ds = [.bag, .lst xs] ∧ 0 < xs.length ∧ xs.length ≤ 1000000 ∧ ∀ x ∈ xs, R (.d x)
theorem atI_ex {xs : List D} {r : Int} (h0 : 0 ≤ r) (h1 : r < xs.length) : ∃ x, x ∈ xs ∧ atI xs r = some x := by
  have lt : r.toNat < xs.length := by omega
  refine ⟨xs[r.toNat], List.getElem_mem lt, ?_⟩
  have := atI_nat (List.getElem?_eq_getElem lt)
  rwa [show ((r.toNat : Nat) : Int) = r by omega] at this
/-! _law_one -/
theorem sc__law_one : FnScope ["bag", "some"] ["bag", "some"] (defScope s64) := ⟨rfl, rfl, rfl, by decide +kernel, rfl, by decide +kernel, by decide +kernel⟩
abbrev dd__law_one : List D := []
abbrev lv__law_one : Nat := 2
theorem def__law_one (M : Md K mg) (Dd : FunD K "_law_one" "_law_one" (defArgs s64) (defBody s64) (defScope s64) [] [] f fd) (hm : mg "_law_one" = some (.ref f)) (G__law_take : Def P w K mg base 1 "_law_take" dd__law_take (W__law_take M)) : Def P w K mg base 2 "_law_one" dd__law_one (W__law_one M) := by
  refine Def.of hm Dd.kp (okG (k := 1) Dd sc__law_one (fun ds R h => by unfold W__law_one at h; obtain ⟨_, h⟩ := h; obtain ⟨rfl, _⟩ := h; rfl) (fun cdv A outer s H hr hG => ⟨_, (dss_cons (ds_ret (de_ix (de_tVar (pv 1)) (de_call (G__law_take.mono (by decide)) hr hG (da_cons (de_tVar (pv 0)) (da_cons (de_callB cr_len cd_len rfl M.b_len PySem.boot_len (da_cons (de_tVar (pv 1)) da_nil)) da_nil))))) dss_nil), fun ds R h => ?_⟩)) (nods (Dd.bindsN fun _ _ _ _ _ _ us hl => match us, hl with | [_, _], _ => rfl)) fun _ => DpL.nil
  unfold W__law_one at h
  obtain ⟨xs, rfl, h0, h1, h⟩ := h
  walk_at "dl"
  refine draw (by omega) (by omega) fun r g0 g1 => ?_
  obtain ⟨x, hx, e⟩ := atI_ex g0 g1
  rw [toD_d, ixL_of e]
  exact h _ hx
theorem one {M : Md K mg} {xs : List D} {R : RD → Prop} (h0 : 0 < xs.length) (h1 : xs.length ≤ 1000000) (h : ∀ x ∈ xs, R (.d x)) : W__law_one M [.bag, .lst xs] R := ⟨xs, rfl, h0, h1, h⟩
def W__law_weight (M : Md K mg) : ON := fun ds R => ds = [.bag] ∧ ∀ i, 0 ≤ i → i ≤ 1000 → R (.d (.int i))
/-! _law_weight -/
theorem sc__law_weight : FnScope ["bag"] ["bag"] (defScope s67) := ⟨rfl, rfl, rfl, by decide +kernel, rfl, by decide +kernel, by decide +kernel⟩
abbrev dd__law_weight : List D := []
abbrev lv__law_weight : Nat := 2
theorem def__law_weight (M : Md K mg) (Dd : FunD K "_law_weight" "_law_weight" (defArgs s67) (defBody s67) (defScope s67) [] [] f fd) (hm : mg "_law_weight" = some (.ref f)) (G__law_take : Def P w K mg base 1 "_law_take" dd__law_take (W__law_take M)) : Def P w K mg base 2 "_law_weight" dd__law_weight (W__law_weight M) := by
  refine Def.of hm Dd.kp (okG (k := 1) Dd sc__law_weight (fun ds R h => by unfold W__law_weight at h; obtain ⟨rfl, _⟩ := h; rfl) (fun cdv A outer s H hr hG => ⟨_, (dss_cons (ds_ret (de_ix (de_lst (da_cons de_int (da_cons de_int (da_cons (de_bin op_addA od_add de_int (de_call (G__law_take.mono (by decide)) hr hG (da_cons (de_tVar (pv 0)) (da_cons de_int da_nil)))) (da_cons (de_call (G__law_take.mono (by decide)) hr hG (da_cons (de_tVar (pv 0)) (da_cons de_int da_nil))) da_nil))))) (de_call (G__law_take.mono (by decide)) hr hG (da_cons (de_tVar (pv 0)) (da_cons de_int da_nil))))) dss_nil), fun ds R h => ?_⟩)) (nods (Dd.bindsN fun _ _ _ _ _ _ us hl => match us, hl with | [_], _ => rfl)) fun _ => DpL.nil
  unfold W__law_weight at h
  obtain ⟨rfl, h⟩ := h
  walk_at "dl"
  refine draw (by decide) (by decide) fun r g0 g1 => ?_
  walk_at "dl"
  refine draw (by decide) (by decide) fun r2 g2 g3 => ?_
  walk_at "dl"
  refine draw (by decide) (by decide) fun r3 g4 g5 => ?_
  obtain ⟨x, hx, e⟩ := atI_ex (xs := [.int 0, .int 1, .int (1 + r), .int r2]) g4 g5
  rw [toD_d, ixL_of e]
  simp only [List.mem_cons, List.not_mem_nil, or_false] at hx
  rcases hx with rfl | rfl | rfl | rfl
  · exact h _ (by omega) (by omega)
  · exact h _ (by omega) (by omega)
  · exact h _ (by omega) (by omega)
  · exact h _ (by omega) (by omega)
def W__law_alike (M : Md K mg) : ON := fun ds R => ∃ x, ds = [x, x] ∧ (∃ k n, k ≤ 60 ∧ n ≤ 8000 ∧ Sh k n x) ∧ R (.d (.bl true))
/-! _law_alike -/
theorem sc__law_alike : FnScope ["found", "due"] ["found", "due"] (defScope s65) := ⟨rfl, rfl, rfl, by decide +kernel, rfl, by decide +kernel, by decide +kernel⟩
abbrev dd__law_alike : List D := []
abbrev lv__law_alike : Nat := 1
theorem def__law_alike (M : Md K mg) (Dd : FunD K "_law_alike" "_law_alike" (defArgs s65) (defBody s65) (defScope s65) [] [] f fd) (hm : mg "_law_alike" = some (.ref f)) : Def P w K mg base 1 "_law_alike" dd__law_alike (W__law_alike M) := by
  refine Def.of hm Dd.kp (okG (k := 0) Dd sc__law_alike (fun ds R h => by unfold W__law_alike at h; obtain ⟨_, h⟩ := h; obtain ⟨rfl, _⟩ := h; rfl) (fun cdv A outer s H hr hG => ⟨_, (dss_cons (ds_ret (de_and (de_cmp (op_eqD (hu64 hr)) od_eq (de_tVar (pv 0)) (de_tVar (pv 1)) (nomark _)) (de_one (de_cmp op_eq od_eqS (de_callB (cr_repr hr hG) cd_repr rfl M.b_repr PyProof.Rows.boot_repr (da_cons (de_tVar (pv 0)) da_nil)) (de_callB (cr_repr hr hG) cd_repr rfl M.b_repr PyProof.Rows.boot_repr (da_cons (de_tVar (pv 1)) da_nil)) (nomark _))))) dss_nil), fun ds R h => ?_⟩)) (nods (Dd.bindsN fun _ _ _ _ _ _ us hl => match us, hl with | [_, _], _ => rfl)) fun _ => DpL.nil
  unfold W__law_alike at h
  obtain ⟨x, rfl, ⟨k, n, hk, hn, hs⟩, h⟩ := h
  walk_at "dl"
  refine ⟨hs.pl (by omega), hs.pl (by omega), ?_⟩
  rw [hs.eqv]
  refine ⟨⟨k, n, hk, hn, hs⟩, ⟨k, n, hk, hn, hs⟩, ?_⟩
  simp only [toD_d, eqSD, decide_true]
  exact h
theorem alike {M : Md K mg} {x y : D} {R : RD → Prop} (e : x = y) (hs : ∃ k n, k ≤ 60 ∧ n ≤ 8000 ∧ Sh k n x) (h : R (.d (.bl true))) : W__law_alike M [x, y] R := by subst e; exact ⟨x, rfl, hs, h⟩
def W__law_length (M : Md K mg) : ON := fun ds R => ∃ m : Int, ds = [.bag, .int m] ∧ 0 ≤ m ∧ m ≤ 100000000000000 ∧ ∀ r, 0 ≤ r → r ≤ m → R (.d (.int r))
/-! _law_length -/
theorem sc__law_length : FnScope ["bag", "most", "way"] ["bag", "most"] (defScope s66) := ⟨rfl, rfl, rfl, by decide +kernel, rfl, by decide +kernel, by decide +kernel⟩
abbrev dd__law_length : List D := []
abbrev lv__law_length : Nat := 2
theorem def__law_length (M : Md K mg) (Dd : FunD K "_law_length" "_law_length" (defArgs s66) (defBody s66) (defScope s66) [] [] f fd) (hm : mg "_law_length" = some (.ref f)) (G__law_take : Def P w K mg base 1 "_law_take" dd__law_take (W__law_take M)) : Def P w K mg base 2 "_law_length" dd__law_length (W__law_length M) := by
  refine Def.of hm Dd.kp (okG (k := 1) Dd sc__law_length (fun ds R h => by unfold W__law_length at h; obtain ⟨_, h⟩ := h; obtain ⟨rfl, _⟩ := h; rfl) (fun cdv A outer s H hr hG => ⟨_, (dss_cons (ds_set (i := 2) sc__law_length.nd (de_call (G__law_take.mono (by decide)) hr hG (da_cons (de_tVar (pv 0)) (da_cons de_int da_nil)))) (dss_cons (ds_if (dt_cmp (op_eqD (hu64 hr)) od_eq (de_tVar (pv 2)) de_int (nomark _)) (dss_cons (ds_ret (de_call (G__law_take.mono (by decide)) hr hG (da_cons (de_tVar (pv 0)) (da_cons (de_bin op_addA od_add (de_callB (cr_min2 rfl) cd_min2 rfl M.b_min PyProof.Rows.boot_min (da_cons (de_tVar (pv 1)) (da_cons de_int da_nil))) de_int) da_nil)))) dss_nil) dss_nil) (dss_cons (ds_if (dt_cmp (op_eqD (hu64 hr)) od_eq (de_tVar (pv 2)) de_int (nomark _)) (dss_cons (ds_ret (de_call (G__law_take.mono (by decide)) hr hG (da_cons (de_tVar (pv 0)) (da_cons (de_bin op_addA od_add (de_callB (cr_min2 rfl) cd_min2 rfl M.b_min PyProof.Rows.boot_min (da_cons (de_tVar (pv 1)) (da_cons de_int da_nil))) de_int) da_nil)))) dss_nil) dss_nil) (dss_cons (ds_if (dt_cmp (op_eqD (hu64 hr)) od_eq (de_tVar (pv 2)) de_int (nomark _)) (dss_cons (ds_ret (de_bin op_sub od_sub (de_tVar (pv 1)) (de_call (G__law_take.mono (by decide)) hr hG (da_cons (de_tVar (pv 0)) (da_cons (de_bin op_addA od_add (de_callB (cr_min2 rfl) cd_min2 rfl M.b_min PyProof.Rows.boot_min (da_cons (de_tVar (pv 1)) (da_cons de_int da_nil))) de_int) da_nil))))) dss_nil) dss_nil) (dss_cons (ds_ret (de_call (G__law_take.mono (by decide)) hr hG (da_cons (de_tVar (pv 0)) (da_cons (de_bin op_addA od_add (de_tVar (pv 1)) de_int) da_nil)))) dss_nil))))), fun ds R h => ?_⟩)) (nods (Dd.bindsN fun _ _ _ _ _ _ us hl => match us, hl with | [_, _], _ => rfl)) fun _ => DpL.nil
  unfold W__law_length at h
  obtain ⟨m, rfl, m0, m1, h⟩ := h
  walk_at "dl"
  refine draw (by decide) (by decide) fun r g0 g1 => ?_
  walk_at "dl"
  split
  · exact draw (by omega) (by omega) fun s s0 s1 => h _ s0 (by omega)
  split
  · exact draw (by omega) (by omega) fun s s0 s1 => h _ s0 (by omega)
  split
  · exact draw (by omega) (by omega) fun s s0 s1 => h _ (by omega) (by omega)
  · exact draw (by omega) (by omega) fun s s0 s1 => h _ s0 (by omega)
/-! ### ends -/
def endsD (p : Pt) : D := .tup [.int p.b, .int p.l, optD p.g, .int p.w, .int p.s]
theorem endsD_eq (p : Pt) : endsD p = .tup [.int p.b, .int p.l, optD p.g, .int p.w, .int p.s] := rfl
structure OkE (m : Int) (p : Pt) : Prop where
  ok : OkP p
  b : p.b ≤ m
  g : ∀ g, p.g = some g → g ≤ m
def W__law_ends (M : Md K mg) : ON := fun ds R => ∃ m : Int, ds = [.bag, .int m] ∧ 0 ≤ m ∧ m ≤ 1000000000000 ∧ ∀ p, OkE m p → R (.d (endsD p))
/-! _law_ends -/
theorem sc__law_ends : FnScope ["bag", "most", "base", "least", "greatest"] ["bag", "most"] (defScope s68) := ⟨rfl, rfl, rfl, by decide +kernel, rfl, by decide +kernel, by decide +kernel⟩
abbrev dd__law_ends : List D := []
abbrev lv__law_ends : Nat := 3
theorem def__law_ends (M : Md K mg) (Dd : FunD K "_law_ends" "_law_ends" (defArgs s68) (defBody s68) (defScope s68) [] [] f fd) (hm : mg "_law_ends" = some (.ref f)) (G__law_weight : Def P w K mg base 2 "_law_weight" dd__law_weight (W__law_weight M)) (G__law_take : Def P w K mg base 1 "_law_take" dd__law_take (W__law_take M)) (G__law_length : Def P w K mg base 2 "_law_length" dd__law_length (W__law_length M)) : Def P w K mg base 3 "_law_ends" dd__law_ends (W__law_ends M) := by
  refine Def.of hm Dd.kp (okG (k := 2) Dd sc__law_ends (fun ds R h => by unfold W__law_ends at h; obtain ⟨_, h⟩ := h; obtain ⟨rfl, _⟩ := h; rfl) (fun cdv A outer s H hr hG => ⟨_, (dss_cons (ds_set (i := 2) sc__law_ends.nd (de_call (G__law_length.mono (by decide)) hr hG (da_cons (de_tVar (pv 0)) (da_cons (de_tVar (pv 1)) da_nil)))) (dss_cons (ds_par (i := 3) (j := 4) rfl sc__law_ends.nd (de_bin op_sub od_sub (de_tVar (pv 2)) (de_call (G__law_length.mono (by decide)) hr hG (da_cons (de_tVar (pv 0)) (da_cons (de_tVar (pv 2)) da_nil)))) de_non (by decide)) (dss_cons (ds_if (dt_cmp op_gt od_gt (de_call (G__law_take.mono (by decide)) hr hG (da_cons (de_tVar (pv 0)) (da_cons de_int da_nil))) de_int (nomark _)) (dss_cons (ds_set (i := 4) sc__law_ends.nd (de_bin op_addA od_add (de_tVar (pv 2)) (de_call (G__law_length.mono (by decide)) hr hG (da_cons (de_tVar (pv 0)) (da_cons (de_bin op_sub od_sub (de_tVar (pv 1)) (de_tVar (pv 2))) da_nil))))) dss_nil) dss_nil) (dss_cons (ds_ret (de_tup (da_cons (de_tVar (pv 2)) (da_cons (de_tVar (pv 3)) (da_cons (de_tVar (pv 4)) (da_cons (de_call (G__law_weight.mono (by decide)) hr hG (da_cons (de_tVar (pv 0)) da_nil)) (da_cons (de_call (G__law_weight.mono (by decide)) hr hG (da_cons (de_tVar (pv 0)) da_nil)) da_nil))))))) dss_nil)))), fun ds R h => ?_⟩)) (nods (Dd.bindsN fun _ _ _ _ _ _ us hl => match us, hl with | [_, _], _ => rfl)) fun _ => DpL.nil
  unfold W__law_ends at h
  obtain ⟨m, rfl, m0, m1, h⟩ := h
  walk_at "dl"
  refine ⟨m, rfl, m0, by omega, fun b b0 b1 => ?_⟩
  walk_at "dl"
  refine ⟨b, rfl, b0, by omega, fun l l0 l1 => ?_⟩
  walk_at "dl"
  refine draw (by decide) (by decide) fun r g0 g1 => ?_
  walk_at "dl"
  split
  · refine ⟨m - b, rfl, by omega, by omega, fun g g0 g1 => ?_⟩
    walk_at "dl"
    refine ⟨rfl, fun w w0 w1 => ?_⟩
    walk_at "dl"
    refine ⟨rfl, fun s s0 s1 => ?_⟩
    exact h ⟨b, b - l, some (b + g), w, s⟩ ⟨⟨(by simp; omega), (by simp; omega), (by simp; omega), (fun z hz => by cases hz; simp; omega), w0, w1, s0, s1⟩, b1, (fun z hz => by cases hz; omega)⟩
  · walk_at "dl"
    refine ⟨rfl, fun w w0 w1 => ?_⟩
    walk_at "dl"
    refine ⟨rfl, fun s s0 s1 => ?_⟩
    exact h ⟨b, b - l, none, w, s⟩ ⟨⟨(by simp; omega), (by simp; omega), (by simp; omega), (fun z hz => nomatch hz), w0, w1, s0, s1⟩, b1, (fun z hz => nomatch hz)⟩
def W__law_part (M : Md K mg) : ON := fun ds R => ∃ p : Pt, ds = [endsD p] ∧ OkP p ∧ R (.o (.ins M.C_Part partK (ptL p)))
/-! _law_part -/
theorem sc__law_part : FnScope ["ends"] ["ends"] (defScope s69) := ⟨rfl, rfl, rfl, by decide +kernel, rfl, by decide +kernel, by decide +kernel⟩
abbrev dd__law_part : List D := []
abbrev lv__law_part : Nat := 5
theorem def__law_part (M : Md K mg) (Dd : FunD K "_law_part" "_law_part" (defArgs s69) (defBody s69) (defScope s69) [] [] f fd) (hm : mg "_law_part" = some (.ref f)) (G_Part : Cla P w K mg base 3 "Part" M.C_Part dd_Part (W_Part M)) : Def P w K mg base 5 "_law_part" dd__law_part (W__law_part M) := by
  refine Def.of hm Dd.kp (okG (k := 4) Dd sc__law_part (fun ds R h => by unfold W__law_part at h; obtain ⟨_, h⟩ := h; obtain ⟨rfl, _⟩ := h; rfl) (fun cdv A outer s H hr hG => ⟨_, (dss_cons (ds_ret (de_make (G_Part.mono (by decide)) hr hG (da_cons (de_ix (de_tVar (pv 0)) de_int) (da_cons (de_ix (de_tVar (pv 0)) de_int) (da_cons (de_ix (de_tVar (pv 0)) de_int) (da_cons (de_ix (de_tVar (pv 0)) de_int) (da_cons (de_ix (de_tVar (pv 0)) de_int) da_nil))))))) dss_nil), fun ds R h => ?_⟩)) (nods (Dd.bindsN fun _ _ _ _ _ _ us hl => match us, hl with | [_], _ => rfl)) fun _ => DpL.nil
  unfold W__law_part at h
  obtain ⟨p, rfl, ok, h⟩ := h
  rw [endsD_eq]
  walk_at "dl"
  exact ⟨p, rfl, ok, h⟩
/-! ### fractions -/
def W__law_frac (M : Md K mg) : ON := fun ds R => ∃ t b : Int, ds = [.int t, .int b] ∧ 0 < b ∧ b < 2 ^ 8000 ∧ R (.d (frR ((t : Rat) / (b : Rat))))
/-! _law_frac -/
theorem sc__law_frac : FnScope ["top", "bottom", "one", "other"] ["top", "bottom"] (defScope s70) := ⟨rfl, rfl, rfl, by decide +kernel, rfl, by decide +kernel, by decide +kernel⟩
abbrev dd__law_frac : List D := []
abbrev lv__law_frac : Nat := 1
theorem def__law_frac (M : Md K mg) (Dd : FunD K "_law_frac" "_law_frac" (defArgs s70) (defBody s70) (defScope s70) [] [] f fd) (hm : mg "_law_frac" = some (.ref f)) : Def P w K mg base 1 "_law_frac" dd__law_frac (W__law_frac M) := by
  refine Def.of hm Dd.kp (okG (k := 0) Dd sc__law_frac (fun ds R h => by unfold W__law_frac at h; obtain ⟨_, h⟩ := h; obtain ⟨_, h⟩ := h; obtain ⟨rfl, _⟩ := h; rfl) (fun cdv A outer s H hr hG => ⟨_, (dss_cons (ds_par (i := 2) (j := 3) rfl sc__law_frac.nd (de_callB cr_abs cd_abs rfl M.b_abs PyProof.Rows.boot_abs (da_cons (de_tVar (pv 0)) da_nil)) (de_tVar (pv 1)) (by decide)) (dss_cons (ds_while PassesOwn.never (dt_cmp op_gt od_gt (de_tVar (pv 3)) de_int (nomark _)) (dss_cons (ds_par (i := 2) (j := 3) rfl sc__law_frac.nd (de_tVar (pv 3)) (de_bin op_mod od_mod (de_callTy cr_int1 cd_int1 rfl M.b_int PyProof.Rows.boot_int (da_cons (de_tVar (pv 2)) da_nil)) (de_tVar (pv 3))) (by decide)) dss_nil)) (dss_cons (ds_ret (de_tup (da_cons (de_bin op_fdivW od_fdiv (de_tVar (pv 0)) (de_tVar (pv 2))) (da_cons (de_bin op_fdivW od_fdiv (de_tVar (pv 1)) (de_tVar (pv 2))) da_nil)))) dss_nil))), fun ds R h => ?_⟩)) (nods (Dd.bindsN fun _ _ _ _ _ _ us hl => match us, hl with | [_, _], _ => rfl)) fun _ => DpL.nil
  unfold W__law_frac at h
  obtain ⟨t, b, rfl, h0, h1, h⟩ := h
  walk_at "dl"
  refine ⟨fun m ρ => ∃ a : Nat, ρ = [some (.d (.int t)), some (.d (.int b)), some (.d (.int a)), some (.d (.int m))] ∧ Nat.gcd a m = Nat.gcd t.natAbs b.natAbs ∧ (m : Int) < 2 ^ 8000, ⟨b.natAbs, t.natAbs, ?_, rfl, by omega⟩, ?_⟩
  · rw [show (if t < 0 then -t else t) = (t.natAbs : Int) by split <;> omega, show b = (b.natAbs : Int) by omega]
    rfl
  rintro m ρ ⟨a, rfl, hg, hm⟩
  walk_at "dl"
  by_cases m0 : 0 < m
  · rw [decide_eq_true (show (0 : Int) < (m : Int) by omega)]
    walk_at "dl"
    refine ⟨by omega, a % m, Nat.mod_lt _ m0, m, by simp, ?_, ?_⟩
    · rw [← hg, Nat.gcd_comm m, Nat.gcd_comm a]
      exact (Nat.gcd_rec m a).symm
    · have := Nat.mod_lt a m0
      have : ((a % m : Nat) : Int) < (m : Int) := by exact_mod_cast this
      exact Int.lt_trans this hm
  · rw [decide_eq_false (show ¬ (0 : Int) < (m : Int) by omega)]
    walk_at "dl"
    have e : m = 0 := by omega
    subst e
    rw [Nat.gcd_zero_right] at hg
    subst hg
    have g := gcd_le (t := t) h0
    refine ⟨div_ok g.1 g.2 h1, div_ok g.1 g.2 h1, ?_⟩
    have e := frR_nf (frac_rat (t := t) h0)
    rw [e]
    exact h
def W__law_plus (M : Md K mg) : ON := fun ds R => ∃ x y : Rat, ds = [frR x, frR y] ∧ wee x ∧ wee y ∧ R (.d (frR (x + y)))
/-! _law_plus -/
theorem sc__law_plus : FnScope ["one", "other"] ["one", "other"] (defScope s71) := ⟨rfl, rfl, rfl, by decide +kernel, rfl, by decide +kernel, by decide +kernel⟩
abbrev dd__law_plus : List D := []
abbrev lv__law_plus : Nat := 2
theorem def__law_plus (M : Md K mg) (Dd : FunD K "_law_plus" "_law_plus" (defArgs s71) (defBody s71) (defScope s71) [] [] f fd) (hm : mg "_law_plus" = some (.ref f)) (G__law_frac : Def P w K mg base 1 "_law_frac" dd__law_frac (W__law_frac M)) : Def P w K mg base 2 "_law_plus" dd__law_plus (W__law_plus M) := by
  refine Def.of hm Dd.kp (okG (k := 1) Dd sc__law_plus (fun ds R h => by unfold W__law_plus at h; obtain ⟨_, h⟩ := h; obtain ⟨_, h⟩ := h; obtain ⟨rfl, _⟩ := h; rfl) (fun cdv A outer s H hr hG => ⟨_, (dss_cons (ds_ret (de_call (G__law_frac.mono (by decide)) hr hG (da_cons (de_bin op_addA od_add (de_bin op_mulA od_mul (de_ix (de_tVar (pv 0)) de_int) (de_ix (de_tVar (pv 1)) de_int)) (de_bin op_mulA od_mul (de_ix (de_tVar (pv 1)) de_int) (de_ix (de_tVar (pv 0)) de_int))) (da_cons (de_bin op_mulA od_mul (de_ix (de_tVar (pv 0)) de_int) (de_ix (de_tVar (pv 1)) de_int)) da_nil)))) dss_nil), fun ds R h => ?_⟩)) (nods (Dd.bindsN fun _ _ _ _ _ _ us hl => match us, hl with | [_, _], _ => rfl)) fun _ => DpL.nil
  unfold W__law_plus at h
  obtain ⟨x, y, rfl, hx, hy, h⟩ := h
  unfold frR
  walk_at "dl"
  refine ⟨mul_ok hx.n hy.d, mul_ok hy.n hx.d, mul_ok hx.d hy.d, _, _, rfl, Int.mul_pos (den_pos x) (den_pos y), wee.dd hx hy, ?_⟩
  rw [plus_rat]
  exact h
def W__law_total (M : Md K mg) : ON := fun ds R => ∃ xs : List Rat, ds = [.lst (xs.map frR)] ∧ Sm xs ∧ R (.d (frR (rs xs)))
/-! _law_total -/
theorem sc__law_total : FnScope ["some", "found", "one"] ["some"] (defScope s72) := ⟨rfl, rfl, rfl, by decide +kernel, rfl, by decide +kernel, by decide +kernel⟩
abbrev dd__law_total : List D := []
abbrev lv__law_total : Nat := 3
theorem def__law_total (M : Md K mg) (Dd : FunD K "_law_total" "_law_total" (defArgs s72) (defBody s72) (defScope s72) [] [] f fd) (hm : mg "_law_total" = some (.ref f)) (G__law_plus : Def P w K mg base 2 "_law_plus" dd__law_plus (W__law_plus M)) : Def P w K mg base 3 "_law_total" dd__law_total (W__law_total M) := by
  refine Def.of hm Dd.kp (okG (k := 2) Dd sc__law_total (fun ds R h => by unfold W__law_total at h; obtain ⟨_, h⟩ := h; obtain ⟨rfl, _⟩ := h; rfl) (fun cdv A outer s H hr hG => ⟨_, (dss_cons (ds_set (i := 1) sc__law_total.nd (de_tup (da_cons de_int (da_cons de_int da_nil)))) (dss_cons (ds_for PassesOwn.never rfl (di_lst (de_tVar (pv 0))) (dg_nm (i := 2) sc__law_total.nd) (dss_cons (ds_set (i := 1) sc__law_total.nd (de_call (G__law_plus.mono (by decide)) hr hG (da_cons (de_tVar (pv 1)) (da_cons (de_tVar (pv 2)) da_nil)))) dss_nil)) (dss_cons (ds_ret (de_tVar (pv 1))) dss_nil))), fun ds R h => ?_⟩)) (nods (Dd.bindsN fun _ _ _ _ _ _ us hl => match us, hl with | [_], _ => rfl)) fun _ => DpL.nil
  unfold W__law_total at h
  obtain ⟨xs, rfl, hs, h⟩ := h
  walk_at "dl"
  refine forD_ind (fun ds ρ => ∃ (dn rest : List Rat) (a : Option RD), ds = rest.map frR ∧ xs = dn ++ rest ∧ ρ = [some (.d (.lst (xs.map frR))), some (.d (frR (rs dn))), a]) ?_ ?_ ⟨[], xs, _, rfl, rfl, rfl⟩
  · rintro ρ ⟨dn, rest, a, e1, e2, rfl⟩
    have e3 : rest = [] := by simpa using e1.symm
    subst e3
    rw [List.append_nil] at e2
    subst e2
    walk_at "dl"
    exact h
  · rintro d ds ρ U ⟨dn, rest, a, e1, e2, rfl⟩ hU
    cases rest with
    | nil => cases e1
    | cons x rest =>
      cases e1
      walk_at "dl"
      refine ⟨rs dn, x, rfl, hs.pre e2, hs.wee (by rw [e2]; simp), hU _ ⟨dn ++ [x], rest, some (.d (frR x)), rfl, by rw [e2]; simp, ?_⟩⟩
      rw [rs_snoc]
def W__law_less (M : Md K mg) : ON := fun ds R => ∃ x y : Rat, ds = [frR x, frR y] ∧ wee x ∧ wee y ∧ R (.d (.bl (decide (x < y))))
/-! _law_less -/
theorem sc__law_less : FnScope ["one", "other"] ["one", "other"] (defScope s73) := ⟨rfl, rfl, rfl, by decide +kernel, rfl, by decide +kernel, by decide +kernel⟩
abbrev dd__law_less : List D := []
abbrev lv__law_less : Nat := 1
theorem def__law_less (M : Md K mg) (Dd : FunD K "_law_less" "_law_less" (defArgs s73) (defBody s73) (defScope s73) [] [] f fd) (hm : mg "_law_less" = some (.ref f)) : Def P w K mg base 1 "_law_less" dd__law_less (W__law_less M) := by
  refine Def.of hm Dd.kp (okG (k := 0) Dd sc__law_less (fun ds R h => by unfold W__law_less at h; obtain ⟨_, h⟩ := h; obtain ⟨_, h⟩ := h; obtain ⟨rfl, _⟩ := h; rfl) (fun cdv A outer s H hr hG => ⟨_, (dss_cons (ds_ret (de_cmp op_lt od_lt (de_bin op_mulA od_mul (de_ix (de_tVar (pv 0)) de_int) (de_ix (de_tVar (pv 1)) de_int)) (de_bin op_mulA od_mul (de_ix (de_tVar (pv 1)) de_int) (de_ix (de_tVar (pv 0)) de_int)) (nomark _))) dss_nil), fun ds R h => ?_⟩)) (nods (Dd.bindsN fun _ _ _ _ _ _ us hl => match us, hl with | [_, _], _ => rfl)) fun _ => DpL.nil
  unfold W__law_less at h
  obtain ⟨x, y, rfl, hx, hy, h⟩ := h
  unfold frR
  walk_at "dl"
  rw [dec_lt]
  exact ⟨mul_ok hx.n hy.d, mul_ok hy.n hx.d, h⟩
def W__law_end (M : Md K mg) : ON := fun ds R => ∃ (p : Pt) (u : Bool), ds = [endsD p, .bl u] ∧ OkP p ∧ R (.d (optD (endP p u)))
/-! _law_end -/
theorem sc__law_end : FnScope ["ends", "up", "base", "least", "greatest", "grow", "shrink"] ["ends", "up"] (defScope s74) := ⟨rfl, rfl, rfl, by decide +kernel, rfl, by decide +kernel, by decide +kernel⟩
abbrev dd__law_end : List D := []
abbrev lv__law_end : Nat := 1
theorem def__law_end (M : Md K mg) (Dd : FunD K "_law_end" "_law_end" (defArgs s74) (defBody s74) (defScope s74) [] [] f fd) (hm : mg "_law_end" = some (.ref f)) : Def P w K mg base 1 "_law_end" dd__law_end (W__law_end M) := by
  refine Def.of hm Dd.kp (okG (k := 0) Dd sc__law_end (fun ds R h => by unfold W__law_end at h; obtain ⟨_, h⟩ := h; obtain ⟨_, h⟩ := h; obtain ⟨rfl, _⟩ := h; rfl) (fun cdv A outer s H hr hG => ⟨_, (dss_cons (ds_asgP (de_tVar (pv 0)) (dg_tp rfl (dgs_cons (dg_nm (i := 2) sc__law_end.nd) (dgs_cons (dg_nm (i := 3) sc__law_end.nd) (dgs_cons (dg_nm (i := 4) sc__law_end.nd) (dgs_cons (dg_nm (i := 5) sc__law_end.nd) (dgs_cons (dg_nm (i := 6) sc__law_end.nd) dgs_nil))))))) (dss_cons (ds_if (dt_val (de_tVar (pv 1))) (dss_cons (ds_ret (de_ifExp (dt_cmp (op_eqD (hu64 hr)) od_eq (de_tVar (pv 5)) de_int (nomark _)) (de_tVar (pv 2)) (de_tVar (pv 4)))) dss_nil) dss_nil) (dss_cons (ds_ret (de_ifExp (dt_cmp (op_eqD (hu64 hr)) od_eq (de_tVar (pv 6)) de_int (nomark _)) (de_tVar (pv 2)) (de_tVar (pv 3)))) dss_nil))), fun ds R h => ?_⟩)) (nods (Dd.bindsN fun _ _ _ _ _ _ us hl => match us, hl with | [_, _], _ => rfl)) fun _ => DpL.nil
  unfold W__law_end at h
  obtain ⟨p, u, rfl, ok, h⟩ := h
  have s0 := ok.s0
  have w0 := ok.w0
  rw [endsD_eq]
  unfold endP at h
  walk_at "dl"
  cases u with
  | true =>
    simp only [if_true] at h
    walk_at "dl"
    split
    · rename_i hb
      rw [if_neg (by have := of_decide_eq_true hb; omega)] at h
      exact h
    · rename_i hb
      rw [if_pos (by have := of_decide_eq_false hb; omega)] at h
      exact h
  | false =>
    simp only [Bool.false_eq_true, if_false] at h
    walk_at "dl"
    split
    · rename_i hb
      rw [if_neg (by have := of_decide_eq_true hb; omega)] at h
      exact h
    · rename_i hb
      rw [if_pos (by have := of_decide_eq_false hb; omega)] at h
      exact h
end
end K20
end
section
set_option Elab.async false
set_option linter.all false
set_option maxRecDepth 100000
set_option maxHeartbeats 1000000
set_option exponentiation.threshold 20000
namespace K20
open PySem PySem.Spec L2 DL
local macro_rules | `(tactic| walk_at "dl") => `(tactic| try simp only [dSeq, dIfS, dRet, dRetN, dRetV, dAsg, dExpr, dNever, dNext, dVar, dC, dBin, dUn, dTest, dNot, dAnd, dOr, dAndV, dOrV, dNotV, dIf, dCall, dCons, dNil, dBreak, rdVar_d, rdVar_lst, rdVar_ins, rtVar_d, rtVar_lst, toD_d, toD_lst, toD_ins, toDo_lst, asBl_bl, asInt_int, asLst_lst, wTup_eq, wLst_eq, startR, List.map, List.length, List.getElem?_cons_zero, List.getElem?_cons_succ, List.set_cons_zero, List.set_cons_succ, List.replicate, List.cons_append, List.nil_append, List.append_nil, wIsT, D.kd, kit_ii, kit_ib, kit_bi, kit_bb, kit_ll, kit_tt, kit_ss, kit_nl, kit_ni, kit_it, kit_nt, dZip, dPar3, dUnl2, eqE, neE, wTuple, wSorted, Nat.reduceAdd, Nat.reduceSub, Nat.reduceLeDiff, Bool.not_true, Bool.not_false, true_and, and_true, addD_int, addD_lst, mulD_int, mulD_lst, int0_int, intD_int, negD_int, ixT0, ixT1, ixT2, ixT3, lenD_lst, isND_non, notND_non, isNon_non, isNon_int, isNon_bl, isNon_tup, isNon_lst, isNon_ins, dChain, dWhile, dPar, eqD, neD, pl_int, pl_non, pl_bl, eqv_int, dFor, bindPat, bindPats, dItL, dItT, dItS, dRng1, dRng2, dEnum, dLenV, dIxV, dApp, dSetIx, dInsert, atOwn_zero, atOwn_succ, atD_zero, atD_succ, atDt_zero, atDt_succ, atSlf_zero, dRev, dSl, dPart0, dPart, dOrT, dAsgP, dComp, dAug, dRetP, retP_lst, startI, asIns_ins, slfEnd_eq, dSelf, dFld, dMeth, dMake, wIsC, wSum,  dUnpackP, dInDt, dPutDt, dDictT, wInt1_int, wInt1_bl, wAbs_int, wMax2_int, wMin2_int, wList_lst, wLen_lst, wLen_str, bagAt0, dBag, dPick, dAugBag, dSetBag])
local macro_rules | `(tactic| walk_at "br") => `(tactic| (split <;> rename_i hb <;> (first | replace hb := of_decide_eq_true hb | replace hb := of_decide_eq_false hb | skip)))
/-- things with a blank between -/
def rowR (z : Rat) : List Int → List Rat
  | [] => []
  | t :: ts => (t : Rat) :: ts.flatMap fun u : Int => [z, (u : Rat)]
theorem rowR_snoc (z : Rat) {ts : List Int} (h : ts ≠ []) (u : Int) : rowR z (ts ++ [u]) = rowR z ts ++ [z, (u : Rat)] := by
  cases ts with
  | nil => exact absurd rfl h
  | cons t ts => simp [rowR]
theorem rowR_len (z : Rat) : ∀ ts : List Int, (rowR z ts).length ≤ 2 * ts.length
  | [] => by simp [rowR]
  | t :: ts => by
    have : (ts.flatMap fun u : Int => [z, (u : Rat)]).length = 2 * ts.length := by
      induction ts with
      | nil => rfl
      | cons a b ih => simp only [List.flatMap_cons, List.length_append, List.length_cons, List.length_nil]; omega
    simp only [rowR, List.length_cons, this]
    omega
theorem rowR_len2 (z : Rat) {ts : List Int} (h : ts ≠ []) : (rowR z ts).length + 1 = 2 * ts.length := by
  cases ts with
  | nil => exact absurd rfl h
  | cons t ts =>
    have : (ts.flatMap fun u : Int => [z, (u : Rat)]).length = 2 * ts.length := by
      clear h
      induction ts with
      | nil => rfl
      | cons a b ih => simp only [List.flatMap_cons, List.length_append, List.length_cons, List.length_nil]; omega
    simp only [rowR, List.length_cons, this]
    omega
theorem rowR_bn {z : Rat} (hz : Bn 7 62 z) : ∀ {ts : List Int}, (∀ t ∈ ts, 0 ≤ t ∧ t ≤ 1000000000000) → ∀ x ∈ rowR z ts, Bn 7 62 x
  | [], _, x, m => by simp [rowR] at m
  | t :: ts, h, x, m => by
    have ib : ∀ t : Int, 0 ≤ t ∧ t ≤ 1000000000000 → Bn 7 62 (t : Rat) := fun t ht => (Bn.int (v := 62) (by omega)).mono (by omega) (by omega)
    simp only [rowR, List.mem_cons, List.mem_flatMap, List.not_mem_nil, or_false] at m
    rcases m with rfl | ⟨u, hu, rfl | rfl⟩
    · exact ib t (h t List.mem_cons_self)
    · exact hz
    · exact ib u (h u (List.mem_cons_of_mem _ hu))
theorem rowR_sm {z : Rat} (hz : Bn 7 62 z) {ts : List Int} (h : ∀ t ∈ ts, 0 ≤ t ∧ t ≤ 1000000000000) (hl : ts.length ≤ 9) : Sm (rowR z ts) :=
  ⟨7, 62, 18, by have := rowR_len z ts; omega, rowR_bn hz h, by decide, by decide, by decide⟩
theorem take_snoc {ts : List Int} {k : Nat} (h : k < ts.length) : ts.take (k + 1) = ts.take k ++ [ga ts k] := by
  rw [List.take_add_one, List.getElem?_eq_getElem h]
  unfold ga
  rw [List.getElem?_eq_getElem h]
  rfl
def spotsD (E : List Int) (n : Nat) : List D := (List.range n).map fun k => .tup [.int (ga E (2 * k)), .int (ga E (2 * k + 1))]
theorem inR_bn {p : Pt} (ok : OkP p) {sp : Int} {n : Nat} (h1 : n ≤ 100) (s0 : 0 ≤ sp) (s1 : sp ≤ 1000000000000) : Bn 7 62 (inR p sp n) := by
  unfold inR
  split
  · rename_i h
    exact (blankS_bn ok h.1 h1 s0 s1).1
  · have := eI_bnd ok
    exact (Bn.int (v := 62) (by omega)).mono (by omega) (by omega)
theorem rngD_snoc_nil {k : Int} {m : Nat} (h : rngD k m = []) : m = 0 := by
  cases m with
  | zero => rfl
  | succ m => cases h
section
variable {P : Program} {w : World} {K : PySem.W.Frag} {mg : Str → Option Value} {base : Heap} {f : Addr} {fd : FuncData}
def W_spread (M : Md K mg) : ON := fun ds R => ∃ (ts : List Int) (p : Pt) (rm : Int), ds = [.lst (ts.map D.int), ptD M p, .int rm, .bl false] ∧ ts ≠ [] ∧ ts.length ≤ 9 ∧ (∀ t ∈ ts, 0 ≤ t ∧ t ≤ 1000000000000) ∧ 0 ≤ rm - ts.sum ∧ rm - ts.sum ≤ 1000000000000 ∧ OkP p ∧
  R (.o (.lst (spotsD (0 :: edR 0 (rowR (inR p (rm - ts.sum) (ts.length - 1)) ts)) ts.length)))
/-! spread -/
theorem sc_spread : FnScope ["sizes", "blank", "room", "last", "size", "row", "k", "edges"] ["sizes", "blank", "room", "last"] (defScope s59) := ⟨rfl, rfl, rfl, by decide +kernel, rfl, by decide +kernel, by decide +kernel⟩
abbrev dd_spread : List D := []
abbrev lv_spread : Nat := 5
theorem def_spread (M : Md K mg) (Dd : FunD K "spread" "spread" (defArgs s59) (defBody s59) (defScope s59) [] [] f fd) (hm : mg "spread" = some (.ref f)) (G_edges_of : Def P w K mg base 4 "edges_of" dd_edges_of (W_edges_of M)) (G_blank_in : Def P w K mg base 4 "blank_in" dd_blank_in (W_blank_in M)) : Def P w K mg base 5 "spread" dd_spread (W_spread M) := by
  refine Def.of hm Dd.kp (okG (k := 4) Dd sc_spread (fun ds R h => by unfold W_spread at h; obtain ⟨_, h⟩ := h; obtain ⟨_, h⟩ := h; obtain ⟨_, h⟩ := h; obtain ⟨rfl, _⟩ := h; rfl) (fun cdv A outer s H hr hG => ⟨_, (dss_cons (ds_set (i := 4) sc_spread.nd (de_call (G_blank_in.mono (by decide)) hr hG (da_cons (de_bin op_sub od_sub (de_tVar (pv 2)) (de_callB (cr_sum rfl) cd_sum rfl M.b_sum PyProof.Rows.boot_sum (da_cons (de_tVar (pv 0)) da_nil))) (da_cons (de_callB (cr_max2 rfl) cd_max2 rfl M.b_max PyProof.Rows.boot_max (da_cons (de_bin op_sub od_sub (de_callB cr_len cd_len rfl M.b_len PySem.boot_len (da_cons (de_tVar (pv 0)) da_nil)) de_int) (da_cons de_int da_nil))) (da_cons (de_tVar (pv 1)) (da_cons (de_tVar (pv 3)) da_nil)))))) (dss_cons (ds_set (i := 5) sc_spread.nd (de_lst da_nil)) (dss_cons (ds_for PassesOwn.never rfl (di_rng1 M.b_range (de_callB cr_len cd_len rfl M.b_len PySem.boot_len (da_cons (de_tVar (pv 0)) da_nil))) (dg_nm (i := 6) sc_spread.nd) (dss_cons (ds_if (dt_cmp op_gt od_gt (de_tVar (pv 6)) de_int (nomark _)) (dss_cons (ds_expr (de_app (pv 5) (de_tVar (pv 4)))) dss_nil) dss_nil) (dss_cons (ds_expr (de_app (pv 5) (de_tup (da_cons (de_ix (de_tVar (pv 0)) (de_tVar (pv 6))) (da_cons de_int da_nil))))) dss_nil))) (dss_cons (ds_set (i := 7) sc_spread.nd (de_call (G_edges_of.mono (by decide)) hr hG (da_cons (de_tVar (pv 5)) da_nil))) (dss_cons (ds_ret (de_lc (own := [("k", 6)]) rfl sc_spread.nd (di_rng1 M.b_range (de_callB cr_len cd_len rfl M.b_len PySem.boot_len (da_cons (de_tVar (pv 0)) da_nil))) (blkOk_by (N := ["sizes", "blank", "room", "last", "size", "row", "k", "edges"]) (sc := defScope s59) (by decide +kernel)) (fun _ _ _ _ _ => (dg_nm (i := 6) sc_spread.nd)) (fun _ _ _ _ _ => dts_nil) (fun _ _ _ _ _ => (de_tup (da_cons (de_ix (de_tVar (pv 7)) (de_bin op_mulA od_mul de_int (de_tVar (pv 6)))) (da_cons (de_ix (de_tVar (pv 7)) (de_bin op_addA od_add (de_bin op_mulA od_mul de_int (de_tVar (pv 6))) de_int)) da_nil)))))) dss_nil))))), fun ds R h => ?_⟩)) (nods (Dd.bindsN fun _ _ _ _ _ _ us hl => match us, hl with | [_, _, _, _], _ => rfl)) fun _ => DpL.nil
  unfold W_spread at h
  obtain ⟨ts, p, rm, rfl, hne, hl, ht, r0, r1, ok, h⟩ := h
  have hpos : 0 < ts.length := List.length_pos_iff.mpr hne
  have zb := inR_bn ok (n := ts.length - 1) (by omega) r0 r1
  walk_at "dl"
  rw [asInts_map]
  rw [show max (((((ts.map D.int).length : Nat)) : Int) - 1) 0 = ((ts.length - 1 : Nat) : Int) by simp; omega]
  refine ⟨rm - ts.sum, ts.length - 1, p, rfl, by omega, r0, r1, ok, ?_⟩
  generalize inR p (rm - ts.sum) (ts.length - 1) = z at *
  walk_at "dl"
  refine ⟨by simp; omega, by omega, ?_⟩
  rw [show (((((ts.map D.int).length : Nat)) : Int)).toNat = ts.length by simp]
  refine forD_ind (fun ds ρ => ∃ (k m : Nat) (a : Option RD), ds = rngD (k : Int) m ∧ k + m = ts.length ∧ (a = none ∨ ∃ y, a = some (.d y)) ∧ ρ = [some (.d (.lst (ts.map D.int))), some (.d (ptD M p)), some (.d (.int rm)), some (.d (.bl false)), some (.d (frR z)), some (.o (.lst ((rowR z (ts.take k)).map frR))), a, none]) ?_ ?_ ⟨0, ts.length, _, rfl, by omega, .inl rfl, rfl⟩
  · rintro ρ ⟨k, m, a, e1, e2, e3, rfl⟩
    have m0 := rngD_snoc_nil e1.symm
    subst m0
    rw [List.take_of_length_le (by omega)]
    walk_at "dl"
    refine ⟨_, rfl, rowR_sm zb ht hl, ?_⟩
    have hE : (0 :: edR 0 (rowR z ts)).length = 2 * ts.length := by
      have := rowR_len2 z hne
      simp only [List.length_cons, edR_len]
      omega
    generalize (0 :: edR 0 (rowR z ts)) = E at *
    walk_at "dl"
    refine ⟨by simp; omega, by omega, ?_⟩
    rw [show (((((ts.map D.int).length : Nat)) : Int)).toNat = ts.length by simp, rngD0]
    refine comp_mapAJ (fun i : Nat => D.int (i : Int)) (fun k => D.tup [.int (ga E (2 * k)), .int (ga E (2 * k + 1))]) (fun ρ => ∃ e : RD, (e = .o (.lst (E.map D.int)) ∨ e = .d (.lst (E.map D.int))) ∧ ρ = [some (.d (.lst (ts.map D.int))), some (.d (ptD M p)), some (.d (.int rm)), some (.d (.bl false)), some (.d (frR z)), some (.d (.lst ((rowR z ts).map frR))), a, some e]) ?_ _ _ _ ⟨_, .inl rfl, rfl⟩ (by simp; omega) ?_ ?_
    · rintro ρ ⟨e, he, rfl⟩
      rcases e3 with rfl | ⟨y, rfl⟩ <;> exact ⟨trivial, trivial⟩
    · rintro j hj ρ ⟨e, he, rfl⟩ U hU
      have hj : j < ts.length := by simpa using hj
      have a1 := ga_at (vs := E) (i := 2 * j) (by omega)
      have a2 := ga_at (vs := E) (i := 2 * j + 1) (by omega)
      rw [show (((2 * j : Nat) : Int)) = 2 * (j : Int) by push_cast; rfl] at a1
      rw [show (((2 * j + 1 : Nat) : Int)) = 2 * (j : Int) + 1 by push_cast; rfl] at a2
      rcases he with rfl | rfl
      all_goals
        simp only [wipeR]
        walk_at "dl"
        refine ⟨mulS (by decide) (by omega), ?_⟩
        try simp only [ixL_of a1, ixL_of a2]
        walk_at "dl"
        refine ⟨mulS (by decide) (by omega), ?_⟩
        try simp only [ixL_of a1, ixL_of a2]
        walk_at "dl"
        exact hU _ _ rfl ⟨_, .inr rfl, rfl⟩
    · rintro ρ -
      exact h
  · rintro d ds ρ U ⟨k, m, a, e1, e2, e3, rfl⟩ hU
    cases m with
    | zero => cases e1
    | succ m =>
      cases e1
      have hk : k < ts.length := by omega
      have a1 := ga_at (vs := ts) (i := k) hk
      have hrl := rowR_len z (ts.take k)
      rw [List.length_take] at hrl
      have tk := take_snoc hk
      have ek : ((k : Int)) + 1 = ((k + 1 : Nat) : Int) := by push_cast; rfl
      walk_at "dl"
      cases k with
      | zero =>
        rw [decide_eq_false (show ¬ (0 : Int) < ((0 : Nat) : Int) by omega)]
        walk_at "dl"
        simp only [ixL_of a1]
        walk_at "dl"
        refine ⟨by simp [rowR], hU _ ⟨1, m, some (.d (.int 0)), rfl, by omega, .inr ⟨_, rfl⟩, ?_⟩⟩
        rw [tk]
        rfl
      | succ k =>
        rw [decide_eq_true (show (0 : Int) < ((k + 1 : Nat) : Int) by omega)]
        walk_at "dl"
        simp only [ixL_of a1]
        walk_at "dl"
        refine ⟨by simp; omega, by simp; omega, hU _ ⟨k + 1 + 1, m, some (.d (.int ((k + 1 : Nat) : Int))), by rw [ek], by omega, .inr ⟨_, rfl⟩, ?_⟩⟩
        rw [tk, rowR_snoc z (by
          intro q
          have := congrArg List.length q
          rw [List.length_take, List.length_nil] at this
          omega)]
        simp [frR_int]
/-! ### rooms -/
def W__law_come (M : Md K mg) : ON := fun ds R => ∃ (ps : List Pt) (x : Int), ds = [.lst (ps.map endsD), .int x] ∧ (∀ p ∈ ps, OkP p) ∧ x.natAbs ≤ 2 ^ 62 ∧ ∀ z : Int, R (.d (.int z))
/-! _law_come -/
theorem sc__law_come : FnScope ["ends", "price", "found", "base", "least", "greatest", "grow", "shrink", "size"] ["ends", "price"] (defScope s80) := ⟨rfl, rfl, rfl, by decide +kernel, rfl, by decide +kernel, by decide +kernel⟩
abbrev dd__law_come : List D := []
abbrev lv__law_come : Nat := 1
theorem def__law_come (M : Md K mg) (Dd : FunD K "_law_come" "_law_come" (defArgs s80) (defBody s80) (defScope s80) [] [] f fd) (hm : mg "_law_come" = some (.ref f)) : Def P w K mg base 1 "_law_come" dd__law_come (W__law_come M) := by
  refine Def.of hm Dd.kp (okG (k := 0) Dd sc__law_come (fun ds R h => by unfold W__law_come at h; obtain ⟨_, h⟩ := h; obtain ⟨_, h⟩ := h; obtain ⟨rfl, _⟩ := h; rfl) (fun cdv A outer s H hr hG => ⟨_, (dss_cons (ds_set (i := 2) sc__law_come.nd de_int) (dss_cons (ds_for PassesOwn.never rfl (di_lst (de_tVar (pv 0))) (dg_tp rfl (dgs_cons (dg_nm (i := 3) sc__law_come.nd) (dgs_cons (dg_nm (i := 4) sc__law_come.nd) (dgs_cons (dg_nm (i := 5) sc__law_come.nd) (dgs_cons (dg_nm (i := 6) sc__law_come.nd) (dgs_cons (dg_nm (i := 7) sc__law_come.nd) dgs_nil)))))) (dss_cons (ds_set (i := 8) sc__law_come.nd (de_bin op_addA od_add (de_tVar (pv 3)) (de_bin op_mulA od_mul (de_tVar (pv 1)) (de_ifExp (dt_cmp op_gt od_gt (de_tVar (pv 1)) de_int (nomark _)) (de_tVar (pv 6)) (de_tVar (pv 7)))))) (dss_cons (ds_aug (i := 2) sc__law_come.nd ip_add (de_callB (cr_max2 rfl) cd_max2 rfl M.b_max PyProof.Rows.boot_max (da_cons (de_tVar (pv 4)) (da_cons (de_ifExp (dt_cmp op_isNA od_isN (de_tVar (pv 5)) de_non (nomark _)) (de_tVar (pv 8)) (de_callB (cr_min2 rfl) cd_min2 rfl M.b_min PyProof.Rows.boot_min (da_cons (de_tVar (pv 8)) (da_cons (de_tVar (pv 5)) da_nil)))) da_nil)))) dss_nil))) (dss_cons (ds_ret (de_tVar (pv 2))) dss_nil))), fun ds R h => ?_⟩)) (nods (Dd.bindsN fun _ _ _ _ _ _ us hl => match us, hl with | [_, _], _ => rfl)) fun _ => DpL.nil
  unfold W__law_come at h
  obtain ⟨ps, x, rfl, hp, hx, h⟩ := h
  walk_at "dl"
  refine forD_ind (fun ds ρ => ∃ (rest : List Pt) (y : Int) (a b c d e g : Option RD), ds = rest.map endsD ∧ (∀ p ∈ rest, OkP p) ∧ ρ = [some (.d (.lst (ps.map endsD))), some (.d (.int x)), some (.d (.int y)), a, b, c, d, e, g]) ?_ ?_ ⟨ps, 0, none, none, none, none, none, none, rfl, hp, rfl⟩
  · rintro ρ ⟨rest, y, a, b, c, d, e, g, -, -, rfl⟩
    walk_at "dl"
    exact h _
  · rintro d0 ds ρ U ⟨rest, y, a, b, c, d, e, g, e1, e2, rfl⟩ hU
    cases rest with
    | nil => cases e1
    | cons p rest =>
      cases e1
      have ok := e2 p List.mem_cons_self
      have hb1 := ok.w0; have hb2 := ok.w1; have hb3 := ok.s0; have hb4 := ok.s1
      rw [endsD_eq]
      walk_at "dl"
      have fin : ∀ (z : Int) (a b c d e g : Option RD), U [some (.d (.lst (ps.map endsD))), some (.d (.int x)), some (.d (.int z)), a, b, c, d, e, g] := fun z a b c d e g => hU _ ⟨rest, z, a, b, c, d, e, g, rfl, fun q m => e2 q (List.mem_cons_of_mem _ m), rfl⟩
      split
      · refine ⟨mulS (by omega) (by omega), ?_⟩
        cases hg : p.g with
        | none => simp only [optD]; walk_at "dl"; exact fin _ _ _ _ _ _ _
        | some q => simp only [optD]; walk_at "dl"; exact fin _ _ _ _ _ _ _
      · refine ⟨mulS (by omega) (by omega), ?_⟩
        cases hg : p.g with
        | none => simp only [optD]; walk_at "dl"; exact fin _ _ _ _ _ _ _
        | some q => simp only [optD]; walk_at "dl"; exact fin _ _ _ _ _ _ _
def pickI (p : Pt) (r : Int) : Int := if r = 0 then p.b else if r = 1 then (if p.l = 0 then p.b else p.l) else match p.g with
  | none => p.b
  | some g => if g = 0 then p.b else g
def W__law_room (M : Md K mg) : ON := fun ds R => ∃ (ps : List Pt) (m : Int), ds = [.bag, .lst (ps.map endsD), .int m] ∧ (∀ p ∈ ps, OkP p) ∧ ps.length ≤ 10 ∧ 0 ≤ m ∧ m ≤ 1000000000000 ∧ ∀ z : Int, 0 ≤ z → z ≤ 1000000000000 → R (.d (.int z))
/-! _law_room -/
theorem sc__law_room : FnScope ["bag", "ends", "most", "at", "near", "one"] ["bag", "ends", "most"] (defScope s81) := ⟨rfl, rfl, rfl, by decide +kernel, rfl, by decide +kernel, by decide +kernel⟩
abbrev dd__law_room : List D := []
abbrev lv__law_room : Nat := 3
theorem def__law_room (M : Md K mg) (Dd : FunD K "_law_room" "_law_room" (defArgs s81) (defBody s81) (defScope s81) [] [] f fd) (hm : mg "_law_room" = some (.ref f)) (G__law_one : Def P w K mg base 2 "_law_one" dd__law_one (W__law_one M)) (G__law_take : Def P w K mg base 1 "_law_take" dd__law_take (W__law_take M)) (G__law_length : Def P w K mg base 2 "_law_length" dd__law_length (W__law_length M)) (G__law_come : Def P w K mg base 1 "_law_come" dd__law_come (W__law_come M)) : Def P w K mg base 3 "_law_room" dd__law_room (W__law_room M) := by
  refine Def.of hm Dd.kp (okG (k := 2) Dd sc__law_room (fun ds R h => by unfold W__law_room at h; obtain ⟨_, h⟩ := h; obtain ⟨_, h⟩ := h; obtain ⟨rfl, _⟩ := h; rfl) (fun cdv A outer s H hr hG => ⟨_, (dss_cons (ds_set (i := 3) sc__law_room.nd (de_call (G__law_take.mono (by decide)) hr hG (da_cons (de_tVar (pv 0)) (da_cons de_int da_nil)))) (dss_cons (ds_set (i := 4) sc__law_room.nd (de_bin op_sub od_sub (de_bin op_addA od_add (de_callB (cr_sum rfl) cd_sum rfl M.b_sum PyProof.Rows.boot_sum (da_cons (de_lc (own := [("one", 5)]) rfl sc__law_room.nd (di_lst (de_tVar (pv 1))) (blkOk_by (N := ["bag", "ends", "most", "at", "near", "one"]) (sc := defScope s81) (by decide +kernel)) (fun _ _ _ _ _ => (dg_nm (i := 5) sc__law_room.nd)) (fun _ _ _ _ _ => dts_nil) (fun _ _ _ _ _ => (de_orT (de_ix (de_tVar (pv 5)) (de_tVar (pv 3))) (de_ix (de_tVar (pv 5)) de_int)))) da_nil)) (de_call (G__law_take.mono (by decide)) hr hG (da_cons (de_tVar (pv 0)) (da_cons de_int da_nil)))) de_int)) (dss_cons (ds_if (dt_cmp (op_eqD (hu64 hr)) od_eq (de_call (G__law_take.mono (by decide)) hr hG (da_cons (de_tVar (pv 0)) (da_cons de_int da_nil))) de_int (nomark _)) (dss_cons (ds_set (i := 4) sc__law_room.nd (de_call (G__law_come.mono (by decide)) hr hG (da_cons (de_tVar (pv 1)) (da_cons (de_bin op_mulA od_mul (de_call (G__law_one.mono (by decide)) hr hG (da_cons (de_tVar (pv 0)) (da_cons (de_lst (da_cons de_int (da_cons (de_un un_neg ud_neg de_int) da_nil))) da_nil))) (de_call (G__law_length.mono (by decide)) hr hG (da_cons (de_tVar (pv 0)) (da_cons (de_bin op_addA od_add (de_bin op_fdivW od_fdiv (de_tVar (pv 2)) de_int) de_int) da_nil)))) da_nil)))) dss_nil) dss_nil) (dss_cons (ds_ret (de_callB (cr_min2 rfl) cd_min2 rfl M.b_min PyProof.Rows.boot_min (da_cons (de_bin op_pow od_pow de_int de_int) (da_cons (de_callB (cr_max2 rfl) cd_max2 rfl M.b_max PyProof.Rows.boot_max (da_cons de_int (da_cons (de_call (G__law_one.mono (by decide)) hr hG (da_cons (de_tVar (pv 0)) (da_cons (de_lst (da_cons (de_tVar (pv 4)) (da_cons (de_tVar (pv 4)) (da_cons (de_call (G__law_length.mono (by decide)) hr hG (da_cons (de_tVar (pv 0)) (da_cons (de_tVar (pv 2)) da_nil))) (da_cons (de_call (G__law_take.mono (by decide)) hr hG (da_cons (de_tVar (pv 0)) (da_cons (de_bin op_addA od_add (de_bin op_mulA od_mul de_int (de_tVar (pv 2))) de_int) da_nil))) da_nil))))) da_nil))) da_nil))) da_nil)))) dss_nil)))), fun ds R h => ?_⟩)) (nods (Dd.bindsN fun _ _ _ _ _ _ us hl => match us, hl with | [_, _, _], _ => rfl)) fun _ => DpL.nil
  unfold W__law_room at h
  obtain ⟨ps, m, rfl, hp, hl, m0, m1, h⟩ := h
  walk_at "dl"
  refine draw (by decide) (by decide) fun r g0 g1 => ?_
  walk_at "dl"
  refine comp_mapA endsD (fun p => D.int (pickI p r)) ps ⟨trivial, trivial⟩ (by omega) ?_ ?_
  · intro p hp' U hU
    simp only [wipeR]
    rw [endsD_eq]
    have hr : r = 0 ∨ r = 1 ∨ r = 2 := by omega
    have ti : ∀ (i : Int) (k : Bool → Prop), truD (.int i) k = k (i != 0) := fun _ _ => rfl
    have tn : ∀ (k : Bool → Prop), truD .non k = k false := fun _ => rfl
    unfold pickI at hU
    rcases hr with rfl | rfl | rfl
    · walk_at "dl"
      simp only [ti]
      cases hb : (p.b != 0) <;> walk_at "dl" <;> exact hU _ _ rfl rfl
    · walk_at "dl"
      simp only [ti]
      simp only [show ¬ (1 : Int) = 0 by decide, if_false, if_true] at hU
      cases hb : (p.l != 0) with
      | true =>
        walk_at "dl"
        rw [if_neg (by simpa using hb)] at hU
        exact hU _ _ rfl rfl
      | false =>
        walk_at "dl"
        rw [if_pos (by simpa using hb)] at hU
        exact hU _ _ rfl rfl
    · simp only [show ¬ (2 : Int) = 0 by decide, show ¬ (2 : Int) = 1 by decide, if_false] at hU
      cases hg : p.g with
      | none =>
        rw [hg] at hU
        simp only [optD]
        walk_at "dl"
        simp only [tn]
        exact hU _ _ rfl rfl
      | some g =>
        rw [hg] at hU
        simp only [optD]
        walk_at "dl"
        simp only [ti]
        simp only at hU
        cases hb : (g != 0) with
        | true =>
          walk_at "dl"
          rw [if_neg (by simpa using hb)] at hU
          exact hU _ _ rfl rfl
        | false =>
          walk_at "dl"
          rw [if_pos (by simpa using hb)] at hU
          exact hU _ _ rfl rfl
  walk_at "dl"
  rw [show ps.map (fun p => D.int (pickI p r)) = (ps.map fun p => pickI p r).map D.int by rw [List.map_map]; rfl, asInts_map]
  refine draw (by decide) (by decide) fun s s0 s1 => ?_
  walk_at "dl"
  refine draw (by decide) (by decide) fun u u0 u1 => ?_
  walk_at "dl"
  split
  · refine one (by simp) (by simp) fun d hd => ?_
    have hd' : ∃ z : Int, d = .int z ∧ z.natAbs = 1 := by
      simp only [List.mem_cons, List.not_mem_nil, or_false] at hd
      rcases hd with rfl | rfl
      · exact ⟨1, rfl, rfl⟩
      · exact ⟨-1, rfl, rfl⟩
    obtain ⟨z, rfl, hz⟩ := hd'
    walk_at "dl"
    refine ⟨⟨by decide, by decide +kernel⟩, m / 100 + 2, rfl, by omega, by omega, fun l l0 l1 => ?_⟩
    walk_at "dl"
    have hb : (z * l).natAbs ≤ 2 ^ 62 := by rw [Int.natAbs_mul, hz]; omega
    refine ⟨mulS (by omega) (by omega), ps, z * l, rfl, hp, hb, fun y => ?_⟩
    walk_at "dl"
    refine ⟨⟨by decide, by decide, by decide⟩, m, rfl, m0, by omega, fun a a0 a1 => ?_⟩
    walk_at "dl"
    refine ⟨mulS (by decide) (by omega), draw (by omega) (by omega) fun b b0 b1 => one (by simp) (by simp) fun d hd => ?_⟩
    have hd' : ∃ z : Int, d = .int z := by
      simp only [List.mem_cons, List.not_mem_nil, or_false] at hd
      rcases hd with rfl | rfl | rfl | rfl <;> exact ⟨_, rfl⟩
    obtain ⟨z, rfl⟩ := hd'
    walk_at "dl"
    exact h _ (by simp; omega) (by simp; omega)
  · refine ⟨⟨by decide, by decide, by decide⟩, m, rfl, m0, by omega, fun a a0 a1 => ?_⟩
    walk_at "dl"
    refine ⟨mulS (by decide) (by omega), draw (by omega) (by omega) fun b b0 b1 => one (by simp) (by simp) fun d hd => ?_⟩
    have hd' : ∃ z : Int, d = .int z := by
      simp only [List.mem_cons, List.not_mem_nil, or_false] at hd
      rcases hd with rfl | rfl | rfl | rfl <;> exact ⟨_, rfl⟩
    obtain ⟨z, rfl⟩ := hd'
    walk_at "dl"
    exact h _ (by simp; omega) (by simp; omega)
def W__law_deed (M : Md K mg) : ON := fun ds R => ∃ (ps : List Pt) (rm m : Int), ds = [.bag, .lst (ps.map endsD), .int rm, .int m] ∧ (∀ p ∈ ps, OkE m p) ∧ ps.length ≤ 10 ∧ 0 ≤ m ∧ m ≤ 1000000000000 ∧ 0 ≤ rm ∧ rm ≤ 1000000000000 ∧ ∀ (qs : List Pt) (z : Int), (∀ p ∈ qs, OkE m p) → qs.length ≤ 10 → 0 ≤ z → z ≤ 1000000000000 → R (.d (.tup [.lst (qs.map endsD), .int z]))
/-! _law_deed -/
theorem sc__law_deed : FnScope ["bag", "ends", "room", "most", "way", "at"] ["bag", "ends", "room", "most"] (defScope s82) := ⟨rfl, rfl, rfl, by decide +kernel, rfl, by decide +kernel, by decide +kernel⟩
abbrev dd__law_deed : List D := []
abbrev lv__law_deed : Nat := 4
theorem def__law_deed (M : Md K mg) (Dd : FunD K "_law_deed" "_law_deed" (defArgs s82) (defBody s82) (defScope s82) [] [] f fd) (hm : mg "_law_deed" = some (.ref f)) (G__law_room : Def P w K mg base 3 "_law_room" dd__law_room (W__law_room M)) (G__law_ends : Def P w K mg base 3 "_law_ends" dd__law_ends (W__law_ends M)) (G__law_take : Def P w K mg base 1 "_law_take" dd__law_take (W__law_take M)) : Def P w K mg base 4 "_law_deed" dd__law_deed (W__law_deed M) := by
  refine Def.of hm Dd.kp (okG (k := 3) Dd sc__law_deed (fun ds R h => by unfold W__law_deed at h; obtain ⟨_, h⟩ := h; obtain ⟨_, h⟩ := h; obtain ⟨_, h⟩ := h; obtain ⟨rfl, _⟩ := h; rfl) (fun cdv A outer s H hr hG => ⟨_, (dss_cons (ds_par (i := 4) (j := 5) rfl sc__law_deed.nd (de_call (G__law_take.mono (by decide)) hr hG (da_cons (de_tVar (pv 0)) (da_cons de_int da_nil))) (de_call (G__law_take.mono (by decide)) hr hG (da_cons (de_tVar (pv 0)) (da_cons (de_bin op_addA od_add (de_callB cr_len cd_len rfl M.b_len PySem.boot_len (da_cons (de_tVar (pv 1)) da_nil)) de_int) da_nil))) (by decide)) (dss_cons (ds_if (PW.pt (dw_and (dt_cmp op_lt od_lt (de_tVar (pv 4)) de_int (nomark _)) (dw_and1 (dt_cmp op_lt od_lt (de_callB cr_len cd_len rfl M.b_len PySem.boot_len (da_cons (de_tVar (pv 1)) da_nil)) de_int (nomark _))))) (dss_cons (ds_ret (de_tup (da_cons (de_bin op_addA od_add (de_bin op_addA od_add (de_sl (de_tVar (pv 1)) do_none (do_some (de_tVar (pv 5)))) (de_lst (da_cons (de_call (G__law_ends.mono (by decide)) hr hG (da_cons (de_tVar (pv 0)) (da_cons (de_tVar (pv 3)) da_nil))) da_nil))) (de_sl (de_tVar (pv 1)) (do_some (de_tVar (pv 5))) do_none)) (da_cons (de_tVar (pv 2)) da_nil)))) dss_nil) dss_nil) (dss_cons (ds_if (dt_cmp (op_eqD (hu64 hr)) od_eq (de_tVar (pv 4)) de_int (nomark _)) (dss_cons (ds_ret (de_tup (da_cons (de_bin op_addA od_add (de_sl (de_tVar (pv 1)) do_none (do_some (de_tVar (pv 5)))) (de_sl (de_tVar (pv 1)) (do_some (de_bin op_addA od_add (de_tVar (pv 5)) de_int)) do_none)) (da_cons (de_tVar (pv 2)) da_nil)))) dss_nil) dss_nil) (dss_cons (ds_if (PW.pt (dw_and (dt_cmp (op_eqD (hu64 hr)) od_eq (de_tVar (pv 4)) de_int (nomark _)) (dw_and1 (dt_cmp op_lt od_lt (de_tVar (pv 5)) (de_callB cr_len cd_len rfl M.b_len PySem.boot_len (da_cons (de_tVar (pv 1)) da_nil)) (nomark _))))) (dss_cons (ds_ret (de_tup (da_cons (de_bin op_addA od_add (de_bin op_addA od_add (de_sl (de_tVar (pv 1)) do_none (do_some (de_tVar (pv 5)))) (de_lst (da_cons (de_call (G__law_ends.mono (by decide)) hr hG (da_cons (de_tVar (pv 0)) (da_cons (de_tVar (pv 3)) da_nil))) da_nil))) (de_sl (de_tVar (pv 1)) (do_some (de_bin op_addA od_add (de_tVar (pv 5)) de_int)) do_none)) (da_cons (de_tVar (pv 2)) da_nil)))) dss_nil) dss_nil) (dss_cons (ds_ret (de_tup (da_cons (de_tVar (pv 1)) (da_cons (de_call (G__law_room.mono (by decide)) hr hG (da_cons (de_tVar (pv 0)) (da_cons (de_tVar (pv 1)) (da_cons (de_tVar (pv 3)) da_nil)))) da_nil)))) dss_nil))))), fun ds R h => ?_⟩)) (nods (Dd.bindsN fun _ _ _ _ _ _ us hl => match us, hl with | [_, _, _, _], _ => rfl)) fun _ => DpL.nil
  unfold W__law_deed at h
  obtain ⟨ps, rm, m, rfl, hp, hl, m0, m1, r0, r1, h⟩ := h
  walk_at "dl"
  refine draw (by decide) (by decide) fun wy w0 w1 => ?_
  walk_at "dl"
  refine draw (by omega) (by simp; omega) fun a a0 a1 => ?_
  obtain ⟨a, rfl⟩ := Int.eq_ofNat_of_zero_le a0
  have al : a ≤ ps.length := by simp at a1; omega
  walk_at "dl"
  have e1 : ((a : Int)) + 1 = ((a + 1 : Nat) : Int) := by push_cast; rfl
  rw [e1]
  simp only [cut_hi, cut_lo, ← List.map_take, ← List.map_drop]
  have hT : ∀ x ∈ ps.take a, OkE m x := fun x m => hp x (List.mem_of_mem_take m)
  have hD : ∀ i, ∀ x ∈ ps.drop i, OkE m x := fun i x m => hp x (List.mem_of_mem_drop m)
  have three : ∀ (x : Pt) (i : Nat), OkE m x → (ps.take a).length + 1 + (ps.drop i).length ≤ 10 → R (.d (.tup [.lst ((ps.take a).map endsD ++ [endsD x] ++ (ps.drop i).map endsD), .int rm])) := fun x i ox hl => by
    have := h (ps.take a ++ [x] ++ ps.drop i) rm (fun y hy => by
      simp only [List.mem_append, List.mem_singleton] at hy
      rcases hy with (hy | rfl) | hy
      · exact hT y hy
      · exact ox
      · exact hD i y hy) (by simp at hl ⊢; omega) r0 r1
    simpa using this
  have two : R (.d (.tup [.lst ((ps.take a).map endsD ++ (ps.drop (a + 1)).map endsD), .int rm])) := by
    have := h (ps.take a ++ ps.drop (a + 1)) rm (fun y hy => by
      simp only [List.mem_append] at hy
      rcases hy with hy | hy
      · exact hT y hy
      · exact hD _ y hy) (by simp; omega) r0 r1
    simpa using this
  have last : W__law_room M [.bag, .lst (ps.map endsD), .int m] fun r => R (.d (.tup [.lst (ps.map endsD), r.toD])) := ⟨ps, m, rfl, fun p hm => (hp p hm).ok, hl, m0, m1, fun z z0 z1 => h ps z hp hl z0 z1⟩
  have new : ∀ i : Nat, (ps.take a).length + 1 + (ps.drop i).length ≤ 10 → W__law_ends M [.bag, .int m] fun z => ((ps.take a).map endsD).length ≤ 999999 ∧ ((ps.take a).map endsD ++ [z.toD]).length + ((ps.drop i).map endsD).length ≤ 1000000 ∧ R (.d (.tup [.lst ((ps.take a).map endsD ++ [z.toD] ++ (ps.drop i).map endsD), .int rm])) := fun i hi => by
    refine ⟨m, rfl, m0, m1, fun x ox => ⟨?_, ?_, three x i ox hi⟩⟩
    · simp at hi ⊢; omega
    · simp at hi ⊢; omega
  have hts : ((ps.take a).map endsD).length + ((ps.drop (a + 1)).map endsD).length ≤ 1000000 := by simp; omega
  have rest : (match decide (wy = 2) with
      | true => ((ps.take a).map endsD).length + ((ps.drop (a + 1)).map endsD).length ≤ 1000000 ∧ R (.d (.tup [.lst ((ps.take a).map endsD ++ (ps.drop (a + 1)).map endsD), .int rm]))
      | false => match decide (wy = 3) with
        | true => (match decide ((a : Int) < (((ps.map endsD).length : Nat) : Int)) with
          | true => W__law_ends M [.bag, .int m] fun z => ((ps.take a).map endsD).length ≤ 999999 ∧ ((ps.take a).map endsD ++ [z.toD]).length + ((ps.drop (a + 1)).map endsD).length ≤ 1000000 ∧ R (.d (.tup [.lst ((ps.take a).map endsD ++ [z.toD] ++ (ps.drop (a + 1)).map endsD), .int rm]))
          | false => W__law_room M [.bag, .lst (ps.map endsD), .int m] fun r => R (.d (.tup [.lst (ps.map endsD), r.toD])))
        | false => W__law_room M [.bag, .lst (ps.map endsD), .int m] fun r => R (.d (.tup [.lst (ps.map endsD), r.toD]))) := by
    split
    · exact ⟨hts, two⟩
    split
    · split
      · rename_i hb
        have hb := of_decide_eq_true hb
        refine new (a + 1) ?_
        simp at hb ⊢
        omega
      · exact last
    · exact last
  split
  · split
    · rename_i hb
      have hb := of_decide_eq_true hb
      refine new a ?_
      simp at hb ⊢
      omega
    · exact rest
  · exact rest
end
end K20
end
section
set_option Elab.async false
set_option linter.all false
set_option maxRecDepth 100000
set_option maxHeartbeats 1000000
set_option exponentiation.threshold 20000
namespace K20
open PySem PySem.Spec L2 DL
local macro_rules | `(tactic| walk_at "dl") => `(tactic| try simp only [dSeq, dIfS, dRet, dRetN, dRetV, dAsg, dExpr, dNever, dNext, dVar, dC, dBin, dUn, dTest, dNot, dAnd, dOr, dAndV, dOrV, dNotV, dIf, dCall, dCons, dNil, dBreak, rdVar_d, rdVar_lst, rdVar_ins, rtVar_d, rtVar_lst, toD_d, toD_lst, toD_ins, toDo_lst, asBl_bl, asInt_int, asLst_lst, wTup_eq, wLst_eq, startR, List.map, List.length, List.getElem?_cons_zero, List.getElem?_cons_succ, List.set_cons_zero, List.set_cons_succ, List.replicate, List.cons_append, List.nil_append, List.append_nil, wIsT, D.kd, kit_ii, kit_ib, kit_bi, kit_bb, kit_ll, kit_tt, kit_ss, kit_nl, kit_ni, kit_it, kit_nt, dZip, dPar3, dUnl2, eqE, neE, wTuple, wSorted, Nat.reduceAdd, Nat.reduceSub, Nat.reduceLeDiff, Bool.not_true, Bool.not_false, true_and, and_true, addD_int, addD_lst, mulD_int, mulD_lst, int0_int, intD_int, negD_int, ixT0, ixT1, ixT2, ixT3, lenD_lst, isND_non, notND_non, isNon_non, isNon_int, isNon_bl, isNon_tup, isNon_lst, isNon_ins, dChain, dWhile, dPar, eqD, neD, pl_int, pl_non, pl_bl, eqv_int, dFor, bindPat, bindPats, dItL, dItT, dItS, dRng1, dRng2, dEnum, dLenV, dIxV, dApp, dSetIx, dInsert, atOwn_zero, atOwn_succ, atD_zero, atD_succ, atDt_zero, atDt_succ, atSlf_zero, dRev, dSl, dPart0, dPart, dOrT, dAsgP, dComp, dAug, dRetP, retP_lst, startI, asIns_ins, slfEnd_eq, dSelf, dFld, dMeth, dMake, wIsC, wSum,  dUnpackP, dInDt, dPutDt, dDictT, wInt1_int, wInt1_bl, wAbs_int, wMax2_int, wMin2_int, wList_lst, wLen_lst, wLen_str, bagAt0, dBag, dPick, dAugBag, dSetBag])
local macro_rules | `(tactic| walk_at "br") => `(tactic| (split <;> rename_i hb <;> (first | replace hb := of_decide_eq_true hb | replace hb := of_decide_eq_false hb | skip)))
/-- is, is not of truths -/
def isBD : O2 := fun x y Q => match x, y with
  | .bl a, .bl b => Q (.d (.bl (decide (a = b))))
  | _, _ => False
def notBD : O2 := fun x y Q => match x, y with
  | .bl a, .bl b => Q (.d (.bl (!decide (a = b))))
  | _, _ => False
theorem od_isB {K : PySem.W.Frag} : OpD K rIsB isBD := fun F H x y v u R Q s hx hy h k => by
  unfold isBD at h
  split at h
  · cases hx; cases hy
    exact ⟨_, _, rfl, rfl, k _ _ H F h (Out.pure s rfl)⟩
  · exact h.elim
theorem od_notB {K : PySem.W.Frag} : OpD K rNotB notBD := fun F H x y v u R Q s hx hy h k => by
  unfold notBD at h
  split at h
  · cases hx; cases hy
    exact ⟨_, _, rfl, rfl, k _ _ H F h (Out.pure s rfl)⟩
  · exact h.elim
theorem notBD_tt {Q : RD → Prop} : notBD (.bl true) (.bl true) Q = Q (.d (.bl false)) := rfl
theorem sh_int {i : Int} (h : i.natAbs ≤ 2 ^ 1800) : Sh 0 0 (.int i) := .int (Nat.lt_of_le_of_lt h (Nat.pow_lt_pow_right (by decide) (by decide)))
theorem sh_frR {d v : Nat} {x : Rat} (h : Bn d v x) (hd : d + v ≤ 1800) : Sh 1 2 (frR x) := by
  refine .tup (n := 0) (fun y m => ?_) (by simp)
  simp only [List.mem_cons, List.not_mem_nil, or_false] at m
  rcases m with rfl | rfl
  · exact sh_int (Nat.le_trans h.num (Nat.pow_le_pow_right (by decide) hd))
  · refine sh_int ?_
    rw [Int.natAbs_natCast]
    exact Nat.le_trans h.d (Nat.pow_le_pow_right (by decide) (by omega))
theorem sh_frs {xs : List Rat} (h : ∀ x ∈ xs, ∃ d v, Bn d v x ∧ d + v ≤ 1800) (hl : xs.length ≤ 20) : Sh 2 60 (.lst (xs.map frR)) := by
  refine .lst (n := 2) (fun y m => ?_) (by simp; omega)
  obtain ⟨x, hx, rfl⟩ := List.mem_map.mp m
  obtain ⟨d, v, hb, hd⟩ := h x hx
  exact sh_frR hb hd
theorem sh_ints {xs : List Int} (h : ∀ x ∈ xs, x.natAbs ≤ 2 ^ 1800) (hl : xs.length ≤ 60) : Sh 1 60 (.lst (xs.map D.int)) := by
  refine .lst (n := 0) (fun y m => ?_) (by simp; omega)
  obtain ⟨x, hx, rfl⟩ := List.mem_map.mp m
  exact sh_int (h x hx)
theorem size0 {p : Pt} (h : OkP p) : sizeP p 0 = (p.b : Rat) := by
  have a := zero_sum (ps := [p]) (by simpa using h)
  have e1 : bases [p] = p.b := by simp [bases]
  rw [e1] at a
  simp only [List.map_cons, List.map_nil, rs] at a
  rw [Rat.add_zero] at a
  exact a
theorem near_rat (x : Rat) : (((x.num * 99 : Int)) : Rat) / ((((x.den : Int) * 100 : Int)) : Rat) = x * 99 / 100 := by
  simp only [Rat.intCast_mul]
  have h1 := num_eq x
  have h3 := denR x
  rw [h1]
  have e1 : ((99 : Int) : Rat) = 99 := rfl
  have e2 : ((100 : Int) : Rat) = 100 := rfl
  rw [e1, e2]
  generalize ((x.den : Int) : Rat) = a at *
  grind
theorem near_bn {d : Nat} {x : Rat} (h : Bn d 51 x) : Bn (d + 7) 51 (x * 99 / 100) := by
  have dl := den_le (x.num * 99) (Int.mul_pos (den_pos x) (show (0 : Int) < 100 by decide))
  rw [near_rat] at dl
  have lo := h.lo
  have hi := h.hi
  have V0 : (0 : Rat) ≤ ((2 ^ 51 : Nat) : Rat) := by exact_mod_cast Nat.zero_le _
  refine ⟨?_, by grind, by grind⟩
  have z1 : x.den * 100 ≤ 2 ^ d * 2 ^ 7 := Nat.mul_le_mul h.d (by decide)
  rw [← Nat.pow_add] at z1
  omega
/-- the strain, where there is one -/
def strainZ (p : Pt) (x : Rat) : Rat := (strainP p x).getD 0
theorem strainZ_size {p : Pt} (h : OkP p) (y : Rat) : strainP p (sizeP p y) = some (strainZ p (sizeP p y)) := by
  obtain ⟨t, e⟩ := strain_ok h (endR_dn h y) fun q => endR_up h q y
  unfold strainZ
  rw [e]
  rfl
theorem strainZ_bn {p : Pt} (ok : OkP p) {d : Nat} {x : Rat} (hx : Bn d 62 x) (e : strainP p x = some (strainZ p x)) : Bn (2 * d + 10) 126 (strainZ p x) := by
  obtain ⟨t1, t2, t3⟩ := strain_bn ok hx e
  refine ⟨t1, ?_, t3⟩
  have : (0 : Rat) ≤ ((2 ^ 126 : Nat) : Rat) := by exact_mod_cast Nat.zero_le _
  grind
theorem strain_sm {ps : List Pt} (hp : ∀ p ∈ ps, OkP p) (hl : ps.length ≤ 10) {d : Nat} (hd : d ≤ 100) {g : Pt → Rat} (hg : ∀ p ∈ ps, Bn d 62 (g p) ∧ strainP p (g p) = some (strainZ p (g p))) : Sm (ps.map fun p => strainZ p (g p)) :=
  ⟨2 * d + 10, 126, 10, by simpa using hl, fun y m => by
    obtain ⟨p, hp', rfl⟩ := List.mem_map.mp m
    obtain ⟨a, b⟩ := hg p hp'
    obtain ⟨t1, t2, t3⟩ := strain_bn (hp p hp') a b
    exact ⟨t1, by have : (0 : Rat) ≤ ((2 ^ 126 : Nat) : Rat) := by exact_mod_cast Nat.zero_le _
                  grind, t3⟩, by omega, by omega, by omega⟩
theorem rs_wide {xs : List Rat} {d v n : Nat} (h : ∀ x ∈ xs, Bn d v x) (hl : xs.length ≤ n) (hs : d * n + (v + n) ≤ 1800) : Sh 1 2 (frR (rs xs)) := sh_frR (rs_bn h hl) hs
section
variable {P : Program} {w : World} {K : PySem.W.Frag} {mg : Str → Option Value} {base : Heap} {f : Addr} {fd : FuncData}
def W__law_priced_right (M : Md K mg) : ON := fun ds R => ∃ (ps : List Pt) (rm x : Rat) (d : Nat), ds = [.lst (ps.map (ptD M)), .lst (ps.map endsD), frR rm, .lst ((ps.map fun p => sizeP p x).map frR), frR x] ∧ ps.length ≤ 10 ∧ (∀ p ∈ ps, OkP p) ∧ Bn d 50 rm ∧ d ≤ 2 ∧ priceO ps rm = some x ∧ R (.d (.bl true))
/-! _law_priced_right -/
theorem sc__law_priced_right : FnScope ["made", "ends", "room", "sizes", "price", "bases", "nearer", "come", "due", "part", "one", "size"] ["made", "ends", "room", "sizes", "price"] (defScope s75) := ⟨rfl, rfl, rfl, by decide +kernel, rfl, by decide +kernel, by decide +kernel⟩
abbrev dd__law_priced_right : List D := []
abbrev lv__law_priced_right : Nat := 7
theorem def__law_priced_right (M : Md K mg) (Dd : FunD K "_law_priced_right" "_law_priced_right" (defArgs s75) (defBody s75) (defScope s75) [] [] f fd) (hm : mg "_law_priced_right" = some (.ref f)) (G__law_alike : Def P w K mg base 1 "_law_alike" dd__law_alike (W__law_alike M)) (G_bound : Def P w K mg base 6 "bound" dd_bound (W_bound M)) (G_strain : Def P w K mg base 5 "strain" dd_strain (W_strain M)) (G__law_total : Def P w K mg base 3 "_law_total" dd__law_total (W__law_total M)) (G_Part_strain_at : Mth P w K mg base 4 M.C_Part "strain_at" dd_Part_strain_at (W_Part_strain_at M)) (G__law_less : Def P w K mg base 1 "_law_less" dd__law_less (W__law_less M)) (G_Part_size_at : Mth P w K mg base 3 M.C_Part "size_at" dd_Part_size_at (W_Part_size_at M)) (G__law_frac : Def P w K mg base 1 "_law_frac" dd__law_frac (W__law_frac M)) (G_shares_hold : Def P w K mg base 5 "shares_hold" dd_shares_hold (W_shares_hold M)) : Def P w K mg base 7 "_law_priced_right" dd__law_priced_right (W__law_priced_right M) := by
  refine Def.of hm Dd.kp (okG (k := 6) Dd sc__law_priced_right (fun ds R h => by unfold W__law_priced_right at h; obtain ⟨_, h⟩ := h; obtain ⟨_, h⟩ := h; obtain ⟨_, h⟩ := h; obtain ⟨_, h⟩ := h; obtain ⟨rfl, _⟩ := h; rfl) (fun cdv A outer s H hr hG => ⟨_, (dss_cons (ds_if (PW.pt (dw_or (dt_cmp (op_neD (hu64 hr)) od_ne (de_tVar (pv 3)) (de_lc (own := [("part", 9)]) rfl sc__law_priced_right.nd (di_lst (de_tVar (pv 0))) (blkOk_by (N := ["made", "ends", "room", "sizes", "price", "bases", "nearer", "come", "due", "part", "one", "size"]) (sc := defScope s75) (by decide +kernel)) (fun _ _ _ _ _ => (dg_nm (i := 9) sc__law_priced_right.nd)) (fun _ _ _ _ _ => dts_nil) (fun _ _ _ _ _ => (de_meth (G_Part_size_at.mono (by decide)) (de_tVar (pv 9)) hr hG (da_cons (de_tVar (pv 4)) da_nil)))) (nomark _)) (dw_or1 (dt_cmp (op_neD (hu64 hr)) od_ne (de_call (G__law_total.mono (by decide)) hr hG (da_cons (de_tVar (pv 3)) da_nil)) (de_tVar (pv 2)) (nomark _))))) (dss_cons (ds_ret de_bl) dss_nil) dss_nil) (dss_cons (ds_if (dt_cmp op_notBl od_notB (de_call (G_shares_hold.mono (by decide)) hr hG (da_cons (de_tVar (pv 0)) (da_cons (de_tVar (pv 2)) (da_cons (de_callTy cr_list cd_list rfl M.b_list PyProof.Rows.boot_list (da_cons (de_tVar (pv 3)) da_nil)) (da_cons (de_tVar (pv 4)) da_nil))))) de_bl (nomark _)) (dss_cons (ds_ret de_bl) dss_nil) dss_nil) (dss_cons (ds_set (i := 5) sc__law_priced_right.nd (de_tup (da_cons (de_callB (cr_sum rfl) cd_sum rfl M.b_sum PyProof.Rows.boot_sum (da_cons (de_lc (own := [("one", 10)]) rfl sc__law_priced_right.nd (di_lst (de_tVar (pv 1))) (blkOk_by (N := ["made", "ends", "room", "sizes", "price", "bases", "nearer", "come", "due", "part", "one", "size"]) (sc := defScope s75) (by decide +kernel)) (fun _ _ _ _ _ => (dg_nm (i := 10) sc__law_priced_right.nd)) (fun _ _ _ _ _ => dts_nil) (fun _ _ _ _ _ => (de_ix (de_tVar (pv 10)) de_int))) da_nil)) (da_cons de_int da_nil)))) (dss_cons (ds_if (dt_cmp (op_eqD (hu64 hr)) od_eq (de_tVar (pv 5)) (de_tVar (pv 2)) (nomark _)) (dss_cons (ds_ret (de_and (de_cmp (op_eqD (hu64 hr)) od_eq (de_tVar (pv 4)) (de_tup (da_cons de_int (da_cons de_int da_nil))) (nomark _)) (de_one (de_cmp (op_eqD (hu64 hr)) od_eq (de_tVar (pv 3)) (de_lc (own := [("one", 10)]) rfl sc__law_priced_right.nd (di_lst (de_tVar (pv 1))) (blkOk_by (N := ["made", "ends", "room", "sizes", "price", "bases", "nearer", "come", "due", "part", "one", "size"]) (sc := defScope s75) (by decide +kernel)) (fun _ _ _ _ _ => (dg_nm (i := 10) sc__law_priced_right.nd)) (fun _ _ _ _ _ => dts_nil) (fun _ _ _ _ _ => (de_tup (da_cons (de_ix (de_tVar (pv 10)) de_int) (da_cons de_int da_nil))))) (nomark _))))) dss_nil) dss_nil) (dss_cons (ds_set (i := 6) sc__law_priced_right.nd (de_call (G__law_frac.mono (by decide)) hr hG (da_cons (de_bin op_mulA od_mul (de_ix (de_tVar (pv 4)) de_int) de_int) (da_cons (de_bin op_mulA od_mul (de_ix (de_tVar (pv 4)) de_int) de_int) da_nil)))) (dss_cons (ds_set (i := 7) sc__law_priced_right.nd (de_call (G__law_total.mono (by decide)) hr hG (da_cons (de_lc (own := [("part", 9)]) rfl sc__law_priced_right.nd (di_lst (de_tVar (pv 0))) (blkOk_by (N := ["made", "ends", "room", "sizes", "price", "bases", "nearer", "come", "due", "part", "one", "size"]) (sc := defScope s75) (by decide +kernel)) (fun _ _ _ _ _ => (dg_nm (i := 9) sc__law_priced_right.nd)) (fun _ _ _ _ _ => dts_nil) (fun _ _ _ _ _ => (de_meth (G_Part_size_at.mono (by decide)) (de_tVar (pv 9)) hr hG (da_cons (de_tVar (pv 6)) da_nil)))) da_nil))) (dss_cons (ds_if (PW.pt (dw_and (dt_val (de_call (G__law_less.mono (by decide)) hr hG (da_cons (de_tVar (pv 5)) (da_cons (de_tVar (pv 2)) da_nil)))) (dw_and1 (dt_not (PW.pt (dw_and (dt_cmp op_gt od_gt (de_ix (de_tVar (pv 4)) de_int) de_int (nomark _)) (dw_and1 (dt_val (de_call (G__law_less.mono (by decide)) hr hG (da_cons (de_tVar (pv 7)) (da_cons (de_tVar (pv 2)) da_nil))))))))))) (dss_cons (ds_ret de_bl) dss_nil) dss_nil) (dss_cons (ds_if (PW.pt (dw_and (dt_val (de_call (G__law_less.mono (by decide)) hr hG (da_cons (de_tVar (pv 2)) (da_cons (de_tVar (pv 5)) da_nil)))) (dw_and1 (dt_not (PW.pt (dw_and (dt_cmp op_lt od_lt (de_ix (de_tVar (pv 4)) de_int) de_int (nomark _)) (dw_and1 (dt_val (de_call (G__law_less.mono (by decide)) hr hG (da_cons (de_tVar (pv 2)) (da_cons (de_tVar (pv 7)) da_nil))))))))))) (dss_cons (ds_ret de_bl) dss_nil) dss_nil) (dss_cons (ds_set (i := 8) sc__law_priced_right.nd (de_call (G__law_total.mono (by decide)) hr hG (da_cons (de_lc (own := [("part", 9), ("size", 11)]) rfl sc__law_priced_right.nd (di_zip M.b_zip (de_tVar (pv 0)) (de_tVar (pv 3))) (blkOk_by (N := ["made", "ends", "room", "sizes", "price", "bases", "nearer", "come", "due", "part", "one", "size"]) (sc := defScope s75) (by decide +kernel)) (fun _ _ _ _ _ => (dg_tp rfl (dgs_cons (dg_nm (i := 9) sc__law_priced_right.nd) (dgs_cons (dg_nm (i := 11) sc__law_priced_right.nd) dgs_nil)))) (fun _ _ _ _ _ => dts_nil) (fun _ _ _ _ _ => (de_meth (G_Part_strain_at.mono (by decide)) (de_tVar (pv 9)) hr hG (da_cons (de_tVar (pv 11)) da_nil)))) da_nil))) (dss_cons (ds_ret (de_call (G__law_alike.mono (by decide)) hr hG (da_cons (de_lst (da_cons (de_call (G_strain.mono (by decide)) hr hG (da_cons (de_tVar (pv 0)) (da_cons (de_tVar (pv 3)) da_nil))) (da_cons (de_call (G_bound.mono (by decide)) hr hG (da_cons (de_tVar (pv 0)) (da_cons (de_tVar (pv 2)) (da_cons (de_tVar (pv 4)) da_nil)))) da_nil))) (da_cons (de_lst (da_cons (de_tVar (pv 8)) (da_cons (de_tVar (pv 8)) da_nil))) da_nil)))) dss_nil)))))))))), fun ds R h => ?_⟩)) (nods (Dd.bindsN fun _ _ _ _ _ _ us hl => match us, hl with | [_, _, _, _, _], _ => rfl)) fun _ => DpL.nil
  unfold W__law_priced_right at h
  obtain ⟨ps, rm, x, d, rfl, hl, hp, hr, hd, hx, h⟩ := h
  obtain ⟨b0, b1⟩ := bases_bnd hp
  have hb := price_bn hp (by omega) hr hx
  have hsm := szx_sm hp hl hb (by omega)
  obtain ⟨psum, pz, pu, pd⟩ := priceO_some hp hx
  have shs : Sh 2 60 (.lst ((ps.map fun p => sizeP p x).map frR)) := sh_frs (fun y m => by
    obtain ⟨p, hp', rfl⟩ := List.mem_map.mp m
    exact ⟨_, _, size_bn (hp p hp') hb, by omega⟩) (by simp; omega)
  have sizeL : ∀ (y : Rat), ps.map (fun p => frR (sizeP p y)) = (ps.map fun p => sizeP p y).map frR := fun y => by rw [List.map_map]; rfl
  walk_at "dl"
  refine comp_mapA (ptD M) (fun p => frR (sizeP p x)) ps ⟨trivial, trivial⟩ (by omega) ?_ ?_
  · intro p hp' U hU
    simp only [wipeR]
    rw [ptD_eq]
    walk_at "dl"
    exact ⟨rfl, p, x, d + 16, rfl, hp p hp', hb, by omega, hU _ _ rfl rfl⟩
  rw [sizeL]
  walk_at "dl"
  rw [shs.eqv]
  refine ⟨shs.pl, shs.pl, ?_⟩
  walk_at "dl"
  refine ⟨_, rfl, hsm, ?_⟩
  rw [psum]
  walk_at "dl"
  refine ⟨rfl, rfl, ?_⟩
  rw [frR_eqv, decide_eq_true rfl]
  walk_at "dl"
  refine ⟨ps, rm, x, d + 16, rfl, hl, hp, hb, by omega, psum, ?_⟩
  walk_at "dl"
  rw [notBD_tt]
  walk_at "dl"
  refine comp_mapA endsD (fun p => D.int p.b) ps ⟨trivial, trivial⟩ (by omega) ?_ ?_
  · intro p hp' U hU
    simp only [wipeR]
    rw [endsD_eq]
    walk_at "dl"
    exact hU _ _ rfl rfl
  walk_at "dl"
  rw [show ps.map (fun p => D.int p.b) = (ps.map fun p => p.b).map D.int by rw [List.map_map]; rfl, asInts_map]
  walk_at "dl"
  rw [show (D.tup [.int (ps.map fun p => p.b).sum, .int 1]) = frR (bases ps : Rat) from rfl]
  refine ⟨rfl, rfl, ?_⟩
  rw [frR_eqv]
  have wb : wee (bases ps : Rat) := int_wee (by omega)
  have wr := bnW hr
  by_cases hbr : (bases ps : Rat) = rm
  · rw [decide_eq_true hbr]
    walk_at "dl"
    have x0 := pz hbr
    subst x0
    refine ⟨rfl, rfl, ?_⟩
    rw [show (D.tup [.int 0, .int 1]) = frR 0 from rfl, frR_eqv, decide_eq_true rfl]
    walk_at "dl"
    refine comp_mapA endsD (fun p => frR (p.b : Rat)) ps ⟨trivial, trivial⟩ (by omega) ?_ ?_
    · intro p hp' U hU
      simp only [wipeR]
      rw [endsD_eq]
      walk_at "dl"
      exact hU _ _ rfl rfl
    walk_at "dl"
    rw [show ps.map (fun p => frR (p.b : Rat)) = (ps.map fun p => sizeP p 0).map frR by
      rw [List.map_map]
      exact List.map_congr_left fun p hm => by rw [Function.comp_apply, size0 (hp p hm)]]
    rw [shs.eqv]
    exact ⟨shs.pl, shs.pl, h⟩
  rw [decide_eq_false hbr]
  walk_at "dl"
  have hxw := bnW hb
  rw [frR_eq x]
  walk_at "dl"
  have hd100 : (x.den : Int) * 100 < 2 ^ 8000 := (by
    have z1 : x.den * 100 < 2 ^ 3500 * 2 ^ 7 := Nat.mul_lt_mul'' hxw.1 (by decide)
    rw [← Nat.pow_add] at z1
    have z2 : x.den * 100 < 2 ^ 8000 := Nat.lt_trans z1 (Nat.pow_lt_pow_right (by decide) (by decide))
    exact_mod_cast z2)
  refine ⟨mul_ok hxw.n (lt_8000 (by decide)), mul_ok hxw.d (lt_8000 (by decide)), _, _, rfl, Int.mul_pos (den_pos x) (by decide), hd100, ?_⟩
  rw [near_rat]
  have hyb := near_bn hb
  have hy1 : bases ps < rm → 0 ≤ x * 99 / 100 ∧ x * 99 / 100 < x := fun q => by have := (pu q).1; grind
  have hy2 : rm < bases ps → x * 99 / 100 ≤ 0 ∧ x < x * 99 / 100 := fun q => by have := (pd q).1; grind
  generalize x * 99 / 100 = y at *
  have hsy := szx_sm hp hl hyb (by omega)
  walk_at "dl"
  refine comp_mapA (ptD M) (fun p => frR (sizeP p y)) ps ⟨trivial, trivial⟩ (by omega) ?_ ?_
  · intro p hp' U hU
    simp only [wipeR]
    rw [ptD_eq]
    walk_at "dl"
    exact ⟨rfl, p, y, _, rfl, hp p hp', hyb, by omega, hU _ _ rfl rfl⟩
  rw [sizeL]
  walk_at "dl"
  refine ⟨_, rfl, hsy, ?_⟩
  walk_at "dl"
  refine ⟨(bases ps : Rat), rm, rfl, wb, wr, ?_⟩
  have zz : zips (ps.map (ptD M)) ((ps.map fun p => sizeP p x).map frR) = ps.map (fun p => D.tup [ptD M p, frR (sizeP p x)]) := by
    rw [List.map_map, zips_map]
    rfl
  have hst := strain_sm hp hl (d := d + 16) (by omega) (g := fun p => sizeP p x) fun p m => ⟨size_bn (hp p m) hb, strainZ_size (hp p m) x⟩
  have hsl : ps.map (fun p => frR (strainZ p (sizeP p x))) = (ps.map fun p => strainZ p (sizeP p x)).map frR := by rw [List.map_map]; rfl
  have fin : ∃ k n, k ≤ 60 ∧ n ≤ 8000 ∧ Sh k n (D.lst [frR (rs (ps.map fun p => strainZ p (sizeP p x))), frR (rs (ps.map fun p => strainZ p (sizeP p x)))]) := by
    refine ⟨2, 6, by decide, by decide, .lst (n := 2) (fun z m => ?_) (by simp)⟩
    have : Sh 1 2 (frR (rs (ps.map fun p => strainZ p (sizeP p x)))) := rs_wide (d := 46) (v := 126) (n := 10) (fun q m => by
      obtain ⟨p, hp', rfl⟩ := List.mem_map.mp m
      exact (strainZ_bn (hp p hp') (size_bn (hp p hp') hb) (strainZ_size (hp p hp') x)).mono (by omega) (by omega)) (by simpa using hl) (by decide)
    simp only [List.mem_cons, List.not_mem_nil, or_false] at m
    rcases m with rfl | rfl <;> exact this
  by_cases hlt : (bases ps : Rat) < rm
  · rw [decide_eq_true hlt]
    walk_at "dl"
    rw [num_gt0, decide_eq_true (pu hlt).1]
    walk_at "dl"
    refine ⟨_, rm, rfl, hsy.tot, wr, ?_⟩
    rw [decide_eq_true ((pu hlt).2 y (hy1 hlt).1 (hy1 hlt).2)]
    walk_at "dl"
    refine ⟨rm, (bases ps : Rat), rfl, wr, wb, ?_⟩
    rw [decide_eq_false (show ¬ rm < (bases ps : Rat) by grind)]
    walk_at "dl"
    rw [zz]
    refine comp_mapA (fun p => D.tup [ptD M p, frR (sizeP p x)]) (fun p => frR (strainZ p (sizeP p x))) ps ⟨trivial, trivial, trivial⟩ (by omega) ?_ ?_
    · intro p hp' U hU
      simp only [wipeR]
      rw [ptD_eq]
      walk_at "dl"
      exact ⟨rfl, p, _, _, d + 16, rfl, hp p hp', size_bn (hp p hp') hb, by omega, strainZ_size (hp p hp') x, hU _ _ rfl rfl⟩
    rw [hsl]
    walk_at "dl"
    refine ⟨_, rfl, hst, ?_⟩
    walk_at "dl"
    refine ⟨ps, fun p => sizeP p x, fun p => strainZ p (sizeP p x), d + 16, rfl, hp, fun p m => ⟨size_bn (hp p m) hb, strainZ_size (hp p m) x⟩, by omega, hst, ?_⟩
    walk_at "dl"
    refine ⟨ps, rm, x, fun p => strainZ p (sizeP p x), d + 16, d, rfl, hl, hp, hb, by omega, hr, by omega, psum, fun p m => strainZ_size (hp p m) x, hst, ?_⟩
    walk_at "dl"
    exact alike rfl fin h
  · have hgt : rm < (bases ps : Rat) := by grind
    rw [decide_eq_false hlt]
    walk_at "dl"
    refine ⟨rm, (bases ps : Rat), rfl, wr, wb, ?_⟩
    rw [decide_eq_true hgt]
    walk_at "dl"
    rw [num_lt0, decide_eq_true (pd hgt).1]
    walk_at "dl"
    refine ⟨rm, _, rfl, wr, hsy.tot, ?_⟩
    rw [decide_eq_true ((pd hgt).2 y (hy2 hgt).1 (hy2 hgt).2)]
    walk_at "dl"
    rw [zz]
    refine comp_mapA (fun p => D.tup [ptD M p, frR (sizeP p x)]) (fun p => frR (strainZ p (sizeP p x))) ps ⟨trivial, trivial, trivial⟩ (by omega) ?_ ?_
    · intro p hp' U hU
      simp only [wipeR]
      rw [ptD_eq]
      walk_at "dl"
      exact ⟨rfl, p, _, _, d + 16, rfl, hp p hp', size_bn (hp p hp') hb, by omega, strainZ_size (hp p hp') x, hU _ _ rfl rfl⟩
    rw [hsl]
    walk_at "dl"
    refine ⟨_, rfl, hst, ?_⟩
    walk_at "dl"
    refine ⟨ps, fun p => sizeP p x, fun p => strainZ p (sizeP p x), d + 16, rfl, hp, fun p m => ⟨size_bn (hp p m) hb, strainZ_size (hp p m) x⟩, by omega, hst, ?_⟩
    walk_at "dl"
    refine ⟨ps, rm, x, fun p => strainZ p (sizeP p x), d + 16, d, rfl, hl, hp, hb, by omega, hr, by omega, psum, fun p m => strainZ_size (hp p m) x, hst, ?_⟩
    walk_at "dl"
    exact alike rfl fin h
end
end K20
end
section
set_option Elab.async false
set_option linter.all false
set_option maxRecDepth 100000
set_option maxHeartbeats 1000000
set_option exponentiation.threshold 20000
namespace K20
open PySem PySem.Spec L2 DL
local macro_rules | `(tactic| walk_at "dl") => `(tactic| try simp only [dSeq, dIfS, dRet, dRetN, dRetV, dAsg, dExpr, dNever, dNext, dVar, dC, dBin, dUn, dTest, dNot, dAnd, dOr, dAndV, dOrV, dNotV, dIf, dCall, dCons, dNil, dBreak, rdVar_d, rdVar_lst, rdVar_ins, rtVar_d, rtVar_lst, toD_d, toD_lst, toD_ins, toDo_lst, asBl_bl, asInt_int, asLst_lst, wTup_eq, wLst_eq, startR, List.map, List.length, List.getElem?_cons_zero, List.getElem?_cons_succ, List.set_cons_zero, List.set_cons_succ, List.replicate, List.cons_append, List.nil_append, List.append_nil, wIsT, D.kd, kit_ii, kit_ib, kit_bi, kit_bb, kit_ll, kit_tt, kit_ss, kit_nl, kit_ni, kit_it, kit_nt, dZip, dPar3, dUnl2, eqE, neE, wTuple, wSorted, Nat.reduceAdd, Nat.reduceSub, Nat.reduceLeDiff, Bool.not_true, Bool.not_false, true_and, and_true, addD_int, addD_lst, mulD_int, mulD_lst, int0_int, intD_int, negD_int, ixT0, ixT1, ixT2, ixT3, lenD_lst, isND_non, notND_non, isNon_non, isNon_int, isNon_bl, isNon_tup, isNon_lst, isNon_ins, dChain, dWhile, dPar, eqD, neD, pl_int, pl_non, pl_bl, eqv_int, dFor, bindPat, bindPats, dItL, dItT, dItS, dRng1, dRng2, dEnum, dLenV, dIxV, dApp, dSetIx, dInsert, atOwn_zero, atOwn_succ, atD_zero, atD_succ, atDt_zero, atDt_succ, atSlf_zero, dRev, dSl, dPart0, dPart, dOrT, dAsgP, dComp, dAug, dRetP, retP_lst, startI, asIns_ins, slfEnd_eq, dSelf, dFld, dMeth, dMake, wIsC, wSum,  dUnpackP, dInDt, dPutDt, dDictT, wInt1_int, wInt1_bl, wAbs_int, wMax2_int, wMin2_int, wList_lst, wLen_lst, wLen_str, bagAt0, dBag, dPick, dAugBag, dSetBag])
local macro_rules | `(tactic| walk_at "br") => `(tactic| (split <;> rename_i hb <;> (first | replace hb := of_decide_eq_true hb | replace hb := of_decide_eq_false hb | skip)))
theorem opt_int {g : Option Int} {i : Int} (h : g = some i) : optD g = .int i := by rw [h]; rfl
def endZ (p : Pt) (u : Bool) : Int := (endP p u).getD 0
theorem endZ_of {p : Pt} {u : Bool} (h : endP p u ≠ none) : endP p u = some (endZ p u) := by
  unfold endZ
  cases e : endP p u with
  | none => exact absurd e h
  | some i => rfl
theorem endZ_R {p : Pt} {u : Bool} (h : endP p u ≠ none) : endR p u = (endZ p u : Rat) := by
  unfold endR
  rw [endZ_of h]
theorem wLen_tup {xs : List D} {Q : RD → Prop} : wLen [.tup xs] Q = Q (.d (.int (xs.length : Nat))) := rfl
theorem notInD_lst {x : D} {ys : List D} {Q : RD → Prop} : notInD x (.lst ys) Q = (x.pl = true ∧ (D.lst ys).pl = true ∧ Q (.d (.bl (!ys.any fun z => z.eqv x)))) := rfl
theorem inD_lst {x : D} {ys : List D} {Q : RD → Prop} : inD x (.lst ys) Q = (x.pl = true ∧ (D.lst ys).pl = true ∧ Q (.d (.bl (ys.any fun z => z.eqv x)))) := rfl
theorem le_1800 {n : Nat} (h : n ≤ 2 ^ 64) : n ≤ 2 ^ 1800 := Nat.le_trans h (Nat.pow_le_pow_right (by decide) (by decide))
theorem any_int {ns : List Int} : ((ns.map D.int).any fun z => z.eqv .non) = false := by
  rw [List.any_eq_false]
  intro z m
  obtain ⟨i, _, rfl⟩ := List.mem_map.mp m
  simp [D.eqv, D.py, PyData.eqv]
section
variable {P : Program} {w : World} {K : PySem.W.Frag} {mg : Str → Option Value} {base : Heap} {f : Addr} {fd : FuncData}
def W__law_share_right (M : Md K mg) : ON := fun ds R => ∃ (ps : List Pt) (rm : Rat) (d : Nat), ds = [.lst (ps.map (ptD M)), .lst (ps.map endsD), frR rm] ∧ ps.length ≤ 10 ∧ (∀ p ∈ ps, OkP p) ∧ Bn d 50 rm ∧ d ≤ 2 ∧ 0 ≤ rm ∧ R (.d (.bl true))
/-! _law_share_right -/
theorem sc__law_share_right : FnScope ["made", "ends", "room", "handed", "found", "sizes", "price", "left", "come", "due", "one"] ["made", "ends", "room"] (defScope s76) := ⟨rfl, rfl, rfl, by decide +kernel, rfl, by decide +kernel, by decide +kernel⟩
abbrev dd__law_share_right : List D := []
abbrev lv__law_share_right : Nat := 8
theorem def__law_share_right (M : Md K mg) (Dd : FunD K "_law_share_right" "_law_share_right" (defArgs s76) (defBody s76) (defScope s76) [] [] f fd) (hm : mg "_law_share_right" = some (.ref f)) (G__law_alike : Def P w K mg base 1 "_law_alike" dd__law_alike (W__law_alike M)) (G__law_end : Def P w K mg base 1 "_law_end" dd__law_end (W__law_end M)) (G__law_priced_right : Def P w K mg base 7 "_law_priced_right" dd__law_priced_right (W__law_priced_right M)) (G__law_plus : Def P w K mg base 2 "_law_plus" dd__law_plus (W__law_plus M)) (G__law_total : Def P w K mg base 3 "_law_total" dd__law_total (W__law_total M)) (G_share : Def P w K mg base 7 "share" dd_share (W_share M)) : Def P w K mg base 8 "_law_share_right" dd__law_share_right (W__law_share_right M) := by
  refine Def.of hm Dd.kp (okG (k := 7) Dd sc__law_share_right (fun ds R h => by unfold W__law_share_right at h; obtain ⟨_, h⟩ := h; obtain ⟨_, h⟩ := h; obtain ⟨_, h⟩ := h; obtain ⟨rfl, _⟩ := h; rfl) (fun cdv A outer s H hr hG => ⟨_, (dss_cons (ds_set (i := 3) sc__law_share_right.nd (de_callTy cr_list cd_list rfl M.b_list PyProof.Rows.boot_list (da_cons (de_tVar (pv 0)) da_nil))) (dss_cons (ds_set (i := 4) sc__law_share_right.nd (de_call (G_share.mono (by decide)) hr hG (da_cons (de_tVar (pv 3)) (da_cons (de_tVar (pv 2)) da_nil)))) (dss_cons (ds_if (PW.pt (dw_or (dt_not (dt_val (de_callB call_isi (cd_isT (T := "tuple")) rfl M.b_isinstance PyProof.Rows.boot_isinstance (da_cons (de_tVar (pv 4)) (da_cons (de_bltn (v := .ty "tuple") rfl M.b_tuple PyProof.Rows.boot_tuple rfl) da_nil))))) (dw_or (dt_cmp (op_neD (hu64 hr)) od_ne (de_callB cr_len cd_len rfl M.b_len PySem.boot_len (da_cons (de_tVar (pv 4)) da_nil)) de_int (nomark _)) (dw_or (dt_cmp (op_neD (hu64 hr)) od_ne (de_callB cr_len cd_len rfl M.b_len PySem.boot_len (da_cons (de_ix (de_tVar (pv 4)) de_int) da_nil)) (de_callB cr_len cd_len rfl M.b_len PySem.boot_len (da_cons (de_tVar (pv 0)) da_nil)) (nomark _)) (dw_or1 (dt_cmp (op_neD (hu64 hr)) od_ne (de_callB cr_len cd_len rfl M.b_len PySem.boot_len (da_cons (de_tVar (pv 3)) da_nil)) (de_callB cr_len cd_len rfl M.b_len PySem.boot_len (da_cons (de_tVar (pv 0)) da_nil)) (nomark _))))))) (dss_cons (ds_ret de_bl) dss_nil) dss_nil) (dss_cons (ds_asgP (de_tVar (pv 4)) (dg_tp rfl (dgs_cons (dg_nm (i := 5) sc__law_share_right.nd) (dgs_cons (dg_nm (i := 6) sc__law_share_right.nd) (dgs_cons (dg_nm (i := 7) sc__law_share_right.nd) dgs_nil))))) (dss_cons (ds_set (i := 8) sc__law_share_right.nd (de_call (G__law_total.mono (by decide)) hr hG (da_cons (de_tVar (pv 5)) da_nil))) (dss_cons (ds_if (dt_not (dt_val (de_call (G__law_alike.mono (by decide)) hr hG (da_cons (de_tVar (pv 7)) (da_cons (de_call (G__law_plus.mono (by decide)) hr hG (da_cons (de_tVar (pv 2)) (da_cons (de_tup (da_cons (de_bin op_sub od_sub de_int (de_ix (de_tVar (pv 8)) de_int)) (da_cons (de_ix (de_tVar (pv 8)) de_int) da_nil))) da_nil))) da_nil))))) (dss_cons (ds_ret de_bl) dss_nil) dss_nil) (dss_cons (ds_if (dt_cmp op_notNA od_notN (de_tVar (pv 6)) de_non (nomark _)) (dss_cons (ds_ret (de_and (de_cmp (op_eqD (hu64 hr)) od_eq (de_tVar (pv 7)) (de_tup (da_cons de_int (da_cons de_int da_nil))) (nomark _)) (de_one (de_call (G__law_priced_right.mono (by decide)) hr hG (da_cons (de_tVar (pv 0)) (da_cons (de_tVar (pv 1)) (da_cons (de_tVar (pv 2)) (da_cons (de_tVar (pv 5)) (da_cons (de_tVar (pv 6)) da_nil))))))))) dss_nil) dss_nil) (dss_cons (ds_setLc (i := 9) (own := [("one", 10)]) rfl sc__law_share_right.nd rfl (sw_true rfl rfl rfl (by decide +kernel)) (di_lst (de_tVar (pv 1))) (blkOk_by (N := ["made", "ends", "room", "handed", "found", "sizes", "price", "left", "come", "due", "one"]) (sc := defScope s76) (by decide +kernel)) (fun _ _ _ _ _ => (dg_nm (i := 10) sc__law_share_right.nd)) (fun _ _ _ _ _ => dts_nil) (fun _ _ _ _ _ => (de_call (G__law_end.mono (by decide)) hr hG (da_cons (de_tVar (pv 10)) (da_cons (de_cmp op_gt od_gt (de_ix (de_tVar (pv 7)) de_int) de_int (nomark _)) da_nil))))) (dss_cons (ds_ret (de_and (de_cmp (op_neD (hu64 hr)) od_ne (de_ix (de_tVar (pv 7)) de_int) de_int (nomark _)) (de_and (de_cmp (op_notInD (hu65 hr)) od_notIn de_non (de_tVar (pv 9)) rfl) (de_one (de_call (G__law_alike.mono (by decide)) hr hG (da_cons (de_tVar (pv 5)) (da_cons (de_lc (own := [("one", 10)]) rfl sc__law_share_right.nd (di_lst (de_tVar (pv 9))) (blkOk_by (N := ["made", "ends", "room", "handed", "found", "sizes", "price", "left", "come", "due", "one"]) (sc := defScope s76) (by decide +kernel)) (fun _ _ _ _ _ => (dg_nm (i := 10) sc__law_share_right.nd)) (fun _ _ _ _ _ => dts_nil) (fun _ _ _ _ _ => (de_tup (da_cons (de_tVar (pv 10)) (da_cons de_int da_nil))))) da_nil))))))) dss_nil))))))))), fun ds R h => ?_⟩)) (nods (Dd.bindsN fun _ _ _ _ _ _ us hl => match us, hl with | [_, _, _], _ => rfl)) fun _ => DpL.nil
  unfold W__law_share_right at h
  obtain ⟨ps, rm, d, rfl, hl, hp, hr, hd, r0, h⟩ := h
  have hs := sz_sm hp hl hr (by omega)
  have wr := bnW hr
  have hfb : ∀ y ∈ ps.map (fl ps rm), Bn 18 62 y := fun y m => by
    obtain ⟨p, hp', rfl⟩ := List.mem_map.mp m
    exact (fl_bn hp (by omega) hr p hp').mono (by omega) (by omega)
  have hlb : Bn 182 73 (rm - rs (ps.map (fl ps rm))) := (((hr.mono (show d ≤ 2 by omega) (show 50 ≤ 72 by omega)).sub (rs_bn (k := 10) hfb (by simpa using hl))).mono (by omega) (by omega))
  walk_at "dl"
  refine ⟨ps, rm, d, rfl, hl, hp, hr, by omega, r0, ?_⟩
  unfold shD
  walk_at "dl"
  rw [wLen_tup]
  walk_at "dl"
  rw [show decide ((((ps.map (fl ps rm)).map frR).length : Int) = (((ps.map (ptD M)).length : Nat) : Int)) = true by simp]
  simp only [show decide (((3 : Nat) : Int) = 3) = true from rfl, decide_true, Bool.not_true]
  walk_at "dl"
  refine ⟨_, rfl, hs, ?_⟩
  rw [frR_eq (rs (ps.map (fl ps rm)))]
  walk_at "dl"
  have en := neg_frR (rs (ps.map (fl ps rm)))
  rw [show (0 : Int) - (rs (ps.map (fl ps rm))).num = -(rs (ps.map (fl ps rm))).num by omega, ← en]
  have wS := hs.tot
  have wnS : wee (-rs (ps.map (fl ps rm))) := bnW (rs_bn (k := 10) hfb (by simpa using hl)).neg
  refine ⟨rm, _, rfl, wr, wnS, ?_⟩
  rw [show rm + -rs (ps.map (fl ps rm)) = rm - rs (ps.map (fl ps rm)) by grind]
  refine alike rfl ⟨1, 2, by decide, by decide, sh_frR hlb (by decide)⟩ ?_
  walk_at "dl"
  cases hq : priceO ps rm with
  | some x =>
    have hS : rs (ps.map (fl ps rm)) = rm := by rw [fl_some hq]; exact (priceO_some hp hq).sum
    rw [hS, show rm - rm = 0 by grind]
    simp only [frO]
    rw [frR_eq x]
    walk_at "dl"
    refine ⟨rfl, rfl, ?_⟩
    rw [show (D.tup [.int 0, .int 1]) = frR 0 from rfl, frR_eqv, decide_eq_true rfl]
    walk_at "dl"
    exact ⟨ps, rm, x, d, by rw [fl_some hq]; rfl, hl, hp, hr, hd, hq, h⟩
  | none =>
    have hE := priceO_none hp hq
    simp only [frO]
    walk_at "dl"
    have hfl := fl_none hq
    have hu : decide (0 < rm - rs (ps.map (fl ps rm))) = decide ((bases ps : Rat) < rm) ∧ rm - rs (ps.map (fl ps rm)) ≠ 0 := by
      rw [hfl]
      cases hu : decide ((bases ps : Rat) < rm) with
      | true =>
        rw [hu] at hE
        have := (hE.up rfl).2
        exact ⟨decide_eq_true (by grind), by grind⟩
      | false =>
        rw [hu] at hE
        have := (hE.dn rfl).2
        exact ⟨decide_eq_false (by grind), by grind⟩
    obtain ⟨hu1, hu2⟩ := hu
    generalize hL : rm - rs (ps.map (fl ps rm)) = left at *
    generalize hU : decide ((bases ps : Rat) < rm) = u at *
    have hends : ps.map (fl ps rm) = ps.map fun p => (endZ p u : Rat) := by
      rw [hfl]
      exact List.map_congr_left fun p m => endZ_R (hE.all p m)
    refine comp_mapA endsD (fun p => D.int (endZ p u)) ps ⟨trivial, trivial⟩ (by omega) ?_ ?_
    · intro p hp' U hU
      simp only [wipeR]
      rw [frR_eq left]
      walk_at "dl"
      rw [num_gt0, hu1]
      exact ⟨p, u, rfl, hp p hp', hU _ _ (by simp only [toD_d]; rw [endZ_of (hE.all p hp')]; rfl) rfl⟩
    walk_at "dl"
    rw [frR_eq left]
    walk_at "dl"
    rw [num_eq0, decide_eq_false hu2]
    walk_at "dl"
    have e9 : ps.map (fun p => D.int (endZ p u)) = (ps.map fun p => endZ p u).map D.int := by rw [List.map_map]; rfl
    have shI : Sh 1 60 (.lst ((ps.map fun p => endZ p u).map D.int)) := sh_ints (fun i m => by
      obtain ⟨p, hp', rfl⟩ := List.mem_map.mp m
      have := endP_bnd (hp p hp') (endZ_of (hE.all p hp'))
      exact le_1800 (by omega)) (by simp; omega)
    rw [e9, notInD_lst, any_int]
    refine ⟨rfl, shI.pl, ?_⟩
    walk_at "dl"
    refine comp_mapA D.int (fun i => frR (i : Rat)) (ps.map fun p => endZ p u) ⟨trivial, trivial⟩ (by simp; omega) ?_ ?_
    · intro i hi U hU
      simp only [wipeR]
      walk_at "dl"
      exact hU _ _ rfl rfl
    walk_at "dl"
    refine alike ?_ ⟨2, 60, by decide, by decide, sh_frs (fun y m => ⟨18, 62, hfb y m, by decide⟩) (by simp; omega)⟩ h
    rw [hends, List.map_map, List.map_map]
    rfl
end
end K20
end
section
set_option Elab.async false
set_option linter.all false
set_option maxRecDepth 100000
set_option maxHeartbeats 1000000
set_option exponentiation.threshold 20000
namespace K20
open PySem PySem.Spec L2 DL
local macro_rules | `(tactic| walk_at "dl") => `(tactic| try simp only [dSeq, dIfS, dRet, dRetN, dRetV, dAsg, dExpr, dNever, dNext, dVar, dC, dBin, dUn, dTest, dNot, dAnd, dOr, dAndV, dOrV, dNotV, dIf, dCall, dCons, dNil, dBreak, rdVar_d, rdVar_lst, rdVar_ins, rtVar_d, rtVar_lst, toD_d, toD_lst, toD_ins, toDo_lst, asBl_bl, asInt_int, asLst_lst, wTup_eq, wLst_eq, startR, List.map, List.length, List.getElem?_cons_zero, List.getElem?_cons_succ, List.set_cons_zero, List.set_cons_succ, List.replicate, List.cons_append, List.nil_append, List.append_nil, wIsT, D.kd, kit_ii, kit_ib, kit_bi, kit_bb, kit_ll, kit_tt, kit_ss, kit_nl, kit_ni, kit_it, kit_nt, dZip, dPar3, dUnl2, eqE, neE, wTuple, wSorted, Nat.reduceAdd, Nat.reduceSub, Nat.reduceLeDiff, Bool.not_true, Bool.not_false, true_and, and_true, addD_int, addD_lst, mulD_int, mulD_lst, int0_int, intD_int, negD_int, ixT0, ixT1, ixT2, ixT3, lenD_lst, isND_non, notND_non, isNon_non, isNon_int, isNon_bl, isNon_tup, isNon_lst, isNon_ins, dChain, dWhile, dPar, eqD, neD, pl_int, pl_non, pl_bl, eqv_int, dFor, bindPat, bindPats, dItL, dItT, dItS, dRng1, dRng2, dEnum, dLenV, dIxV, dApp, dSetIx, dInsert, atOwn_zero, atOwn_succ, atD_zero, atD_succ, atDt_zero, atDt_succ, atSlf_zero, dRev, dSl, dPart0, dPart, dOrT, dAsgP, dComp, dAug, dRetP, retP_lst, startI, asIns_ins, slfEnd_eq, dSelf, dFld, dMeth, dMake, wIsC, wSum,  dUnpackP, dInDt, dPutDt, dDictT, wInt1_int, wInt1_bl, wAbs_int, wMax2_int, wMin2_int, wList_lst, wLen_lst, wLen_str, bagAt0, dBag, dPick, dAugBag, dSetBag])
local macro_rules | `(tactic| walk_at "br") => `(tactic| (split <;> rename_i hb <;> (first | replace hb := of_decide_eq_true hb | replace hb := of_decide_eq_false hb | skip)))
theorem floor_abs (x : Rat) : x.floor.natAbs ≤ x.num.natAbs := by
  rw [← floor_eq]
  exact Int.natAbs_ediv_le_natAbs _ _
theorem edR_bnd {B : Nat} : ∀ (xs : List Rat) (t : Rat), (∀ dn rest, xs = dn ++ rest → (t + rs dn).num.natAbs ≤ B) → ∀ y ∈ edR t xs, y.natAbs ≤ B
  | [], t, _, y, m => by simp [edR] at m
  | x :: xs, t, h, y, m => by
    have h1 := h [x] xs rfl
    rw [show rs [x] = x by show x + 0 = x; exact Rat.add_zero _] at h1
    rcases List.mem_cons.mp m with rfl | m
    · exact Nat.le_trans (floor_abs _) h1
    · refine edR_bnd xs (t + x) (fun dn rest e => ?_) y m
      have := h (x :: dn) rest (by rw [e]; rfl)
      rwa [show t + rs (x :: dn) = t + x + rs dn by show t + (x + rs dn) = _; grind] at this
theorem gaps_bnd {B : Nat} : ∀ {E : List Int}, (∀ y ∈ E, y.natAbs ≤ B) → ∀ y ∈ gaps E, y.natAbs ≤ 2 * B
  | [], _, y, m => by simp [gaps] at m
  | [a], _, y, m => by simp [gaps] at m
  | a :: b :: r, h, y, m => by
    have ha := h a (by simp)
    have hb := h b (by simp)
    simp only [gaps, List.mem_cons] at m
    rcases m with rfl | m
    · omega
    · exact gaps_bnd (E := b :: r) (fun z hz => h z (List.mem_cons_of_mem _ hz)) y m
/-- the edges of a room -/
theorem edges_bnd {ps : List Pt} (hp : ∀ p ∈ ps, OkP p) (hl : ps.length ≤ 10) {rm : Int} (r0 : 0 ≤ rm) (r1 : rm ≤ 1000000000000) : ∀ y ∈ (0 :: edR 0 (ps.map (fl ps (rm : Rat)))), y.natAbs ≤ 2 ^ 232 := by
  intro y m
  rcases List.mem_cons.mp m with rfl | m
  · exact Nat.zero_le _
  refine edR_bnd _ _ (fun dn rest e => ?_) y m
  rw [show (0 : Rat) + rs dn = rs dn by exact Rat.zero_add _]
  have hb := rs_bn (d := 16) (v := 62) (k := 10) (xs := dn) (fun x hx => by
    have : x ∈ ps.map (fl ps (rm : Rat)) := by rw [e]; exact List.mem_append_left _ hx
    obtain ⟨p, hp', rfl⟩ := List.mem_map.mp this
    exact fl_bn hp (by omega) (int_bn r0 r1) p hp') (by
    have := congrArg List.length e
    simp at this
    omega)
  exact hb.num
theorem whL_bnd {ps : List Pt} (hp : ∀ p ∈ ps, OkP p) (hl : ps.length ≤ 10) {rm : Int} (r0 : 0 ≤ rm) (r1 : rm ≤ 1000000000000) : ∃ k n, k ≤ 60 ∧ n ≤ 8000 ∧ Sh k n (D.lst ((whL ps rm).map D.int)) := by
  refine ⟨1, 60, by decide, by decide, sh_ints (fun y m => ?_) (by rw [whL_len]; omega)⟩
  have := gaps_bnd (edges_bnd hp hl r0 r1) y m
  refine Nat.le_trans this (show 2 * 2 ^ 232 ≤ 2 ^ 1800 from ?_)
  rw [Nat.mul_comm, ← Nat.pow_succ]
  exact Nat.pow_le_pow_right (by decide) (by decide)
/-- the greatest ends together -/
theorem tacc_none : ∀ ps : List Pt, tacc none ps = none
  | [] => rfl
  | p :: ps => tacc_none ps
theorem tacc_all : ∀ {ps : List Pt} (G : Int), (∀ p ∈ ps, endP p true ≠ none) → tacc (some G) ps = some (G + (ps.map fun p => endZ p true).sum)
  | [], G, _ => by simp [tacc]
  | p :: ps, G, h => by
    have e := endZ_of (h p List.mem_cons_self)
    show tacc (match some G, endP p true with | some a, some t => some (a + t) | _, _ => none) ps = _
    rw [e]
    show tacc (some (G + endZ p true)) ps = _
    rw [tacc_all _ fun q m => h q (List.mem_cons_of_mem _ m)]
    simp only [List.map_cons, List.sum_cons]
    congr 1
    omega
theorem tacc_some : ∀ {ps : List Pt} (a : Option Int), (∃ p ∈ ps, endP p true = none) → tacc a ps = none
  | [], a, ⟨p, m, _⟩ => by cases m
  | q :: ps, a, ⟨p, m, e⟩ => by
    rcases List.mem_cons.mp m with rfl | m
    · show tacc (match a, endP p true with | some a, some t => some (a + t) | _, _ => none) ps = _
      rw [e]
      cases a <;> exact tacc_none ps
    · show tacc (match a, endP q true with | some a, some t => some (a + t) | _, _ => none) ps = none
      exact tacc_some _ ⟨p, m, e⟩
theorem sh_opts {os : List (Option Int)} (h : ∀ i, some i ∈ os → i.natAbs ≤ 2 ^ 1800) (hl : os.length ≤ 60) : Sh 1 60 (.lst (os.map optD)) := by
  refine .lst (n := 0) (fun y m => ?_) (by simp; omega)
  obtain ⟨x, hx, rfl⟩ := List.mem_map.mp m
  cases x with
  | none => exact .non
  | some i => exact sh_int (h i hx)
theorem sumE_bnd : ∀ {ps : List Pt}, (∀ p ∈ ps, OkP p) → 0 ≤ sumE ps ∧ sumE ps ≤ ps.length * 1000000000000
  | [], _ => by simp [sumE]
  | p :: r, hp => by
    have a := eI_bnd (hp p List.mem_cons_self)
    have b := sumE_bnd (ps := r) fun q m => hp q (List.mem_cons_of_mem _ m)
    unfold sumE at *
    simp only [List.map_cons, List.sum_cons, List.length_cons]
    push_cast
    omega
theorem sumZ_bnd : ∀ {ps : List Pt}, (∀ p ∈ ps, OkP p) → (∀ p ∈ ps, endP p true ≠ none) → 0 ≤ (ps.map fun p => endZ p true).sum ∧ (ps.map fun p => endZ p true).sum ≤ ps.length * 1000000000000
  | [], _, _ => by simp
  | p :: r, hp, qa => by
    have a := endP_bnd (hp p List.mem_cons_self) (endZ_of (qa p List.mem_cons_self))
    have b := sumZ_bnd (ps := r) (fun q m => hp q (List.mem_cons_of_mem _ m)) fun q m => qa q (List.mem_cons_of_mem _ m)
    simp only [List.map_cons, List.sum_cons, List.length_cons]
    push_cast
    omega
theorem three_eq {ps : List Pt} {G : Int} {z : D} (hG : ps = [] → G = 0) (hz : z = if ps.isEmpty then .non else optD (tacc (some G) ps)) : threeD ps G = .tup [.int (sumE ps + G), .int (bases ps + G), z] := by
  subst hz
  unfold threeD
  cases ps with
  | nil => rw [hG rfl]; rfl
  | cons p r =>
    rw [Int.add_comm G, Int.add_comm G]
    rfl
theorem any_none {ps : List Pt} : ((ps.map fun p => optD (endP p true)).any fun z => z.eqv .non) = decide (∃ p ∈ ps, endP p true = none) := by
  have key : ((ps.map fun p => optD (endP p true)).any fun z => z.eqv .non) = true ↔ ∃ p ∈ ps, endP p true = none := by
    rw [List.any_eq_true]
    constructor
    · rintro ⟨z, m, h⟩
      obtain ⟨p, hp, rfl⟩ := List.mem_map.mp m
      refine ⟨p, hp, ?_⟩
      cases e : endP p true with
      | none => rfl
      | some i => rw [e] at h; simp [optD, D.eqv, D.py, PyData.eqv] at h
    · rintro ⟨p, hp, e⟩
      refine ⟨_, List.mem_map.mpr ⟨p, hp, rfl⟩, ?_⟩
      rw [e]
      rfl
  by_cases h : ∃ p ∈ ps, endP p true = none
  · rw [decide_eq_true h]; exact key.mpr h
  · rw [decide_eq_false h]
    cases q : ((ps.map fun p => optD (endP p true)).any fun z => z.eqv .non) with
    | false => rfl
    | true => exact absurd (key.mp q) h
section
variable {P : Program} {w : World} {K : PySem.W.Frag} {mg : Str → Option Value} {base : Heap} {f : Addr} {fd : FuncData}
def W__law_wholes_right (M : Md K mg) : ON := fun ds R => ∃ (ps : List Pt) (rm m : Int), ds = [.bag, .lst (ps.map (ptD M)), .lst (ps.map endsD), .int rm, .int m] ∧ ps.length ≤ 10 ∧ (∀ p ∈ ps, OkE m p) ∧ 0 ≤ rm ∧ rm ≤ 1000000000000 ∧ R (.d (.bl true))
/-! _law_wholes_right -/
theorem sc__law_wholes_right : FnScope ["bag", "made", "ends", "room", "most", "sizes", "found", "lines", "gap", "gaps", "row", "due", "tops", "k", "one"] ["bag", "made", "ends", "room", "most"] (defScope s77) := ⟨rfl, rfl, rfl, by decide +kernel, rfl, by decide +kernel, by decide +kernel⟩
abbrev dd__law_wholes_right : List D := []
abbrev lv__law_wholes_right : Nat := 9
theorem def__law_wholes_right (M : Md K mg) (Dd : FunD K "_law_wholes_right" "_law_wholes_right" (defArgs s77) (defBody s77) (defScope s77) [] [] f fd) (hm : mg "_law_wholes_right" = some (.ref f)) (G__law_alike : Def P w K mg base 1 "_law_alike" dd__law_alike (W__law_alike M)) (G_Row_across : Mth P w K mg base 1 M.C_Row "across" dd_Row_across (W_Row_across M)) (G_Row_wides_for : Mth P w K mg base 8 M.C_Row "wides_for" dd_Row_wides_for (W_Row_wides_for M)) (G__law_end : Def P w K mg base 1 "_law_end" dd__law_end (W__law_end M)) (G_Row : Cla P w K mg base 4 "Row" M.C_Row dd_Row (W_Row M)) (G_Leaf : Cla P w K mg base 4 "Leaf" M.C_Leaf dd_Leaf (W_Leaf M)) (G__law_length : Def P w K mg base 2 "_law_length" dd__law_length (W__law_length M)) (G_wholes_of : Def P w K mg base 5 "wholes_of" dd_wholes_of (W_wholes_of M)) (G_edges_of : Def P w K mg base 4 "edges_of" dd_edges_of (W_edges_of M)) (G_whole_share : Def P w K mg base 7 "whole_share" dd_whole_share (W_whole_share M)) (G_share : Def P w K mg base 7 "share" dd_share (W_share M)) : Def P w K mg base 9 "_law_wholes_right" dd__law_wholes_right (W__law_wholes_right M) := by
  refine Def.of hm Dd.kp (okG (k := 8) Dd sc__law_wholes_right (fun ds R h => by unfold W__law_wholes_right at h; obtain ⟨_, h⟩ := h; obtain ⟨_, h⟩ := h; obtain ⟨_, h⟩ := h; obtain ⟨rfl, _⟩ := h; rfl) (fun cdv A outer s H hr hG => ⟨_, (dss_cons (ds_set (i := 5) sc__law_wholes_right.nd (de_ix (de_call (G_share.mono (by decide)) hr hG (da_cons (de_tVar (pv 1)) (da_cons (de_tup (da_cons (de_tVar (pv 3)) (da_cons de_int da_nil))) da_nil))) de_int)) (dss_cons (ds_set (i := 6) sc__law_wholes_right.nd (de_call (G_whole_share.mono (by decide)) hr hG (da_cons (de_tVar (pv 1)) (da_cons (de_tVar (pv 3)) da_nil)))) (dss_cons (ds_set (i := 7) sc__law_wholes_right.nd (de_call (G_edges_of.mono (by decide)) hr hG (da_cons (de_tVar (pv 5)) da_nil))) (dss_cons (ds_if (PW.pt (dw_or (dt_not (dt_val (de_call (G__law_alike.mono (by decide)) hr hG (da_cons (de_tVar (pv 6)) (da_cons (de_call (G_wholes_of.mono (by decide)) hr hG (da_cons (de_tVar (pv 5)) da_nil)) da_nil))))) (dw_or (dt_cmp (op_neD (hu64 hr)) od_ne (de_ix (de_tVar (pv 7)) de_int) de_int (nomark _)) (dw_or1 (dt_cmp (op_neD (hu64 hr)) od_ne (de_callB cr_len cd_len rfl M.b_len PySem.boot_len (da_cons (de_tVar (pv 7)) da_nil)) (de_bin op_addA od_add (de_callB cr_len cd_len rfl M.b_len PySem.boot_len (da_cons (de_tVar (pv 6)) da_nil)) de_int) (nomark _)))))) (dss_cons (ds_ret de_bl) dss_nil) dss_nil) (dss_cons (ds_if (dt_not (dt_val (de_call (G__law_alike.mono (by decide)) hr hG (da_cons (de_tVar (pv 6)) (da_cons (de_lc (own := [("k", 13)]) rfl sc__law_wholes_right.nd (di_rng1 M.b_range (de_callB cr_len cd_len rfl M.b_len PySem.boot_len (da_cons (de_tVar (pv 6)) da_nil))) (blkOk_by (N := ["bag", "made", "ends", "room", "most", "sizes", "found", "lines", "gap", "gaps", "row", "due", "tops", "k", "one"]) (sc := defScope s77) (by decide +kernel)) (fun _ _ _ _ _ => (dg_nm (i := 13) sc__law_wholes_right.nd)) (fun _ _ _ _ _ => dts_nil) (fun _ _ _ _ _ => (de_bin op_sub od_sub (de_ix (de_tVar (pv 7)) (de_bin op_addA od_add (de_tVar (pv 13)) de_int)) (de_ix (de_tVar (pv 7)) (de_tVar (pv 13)))))) da_nil))))) (dss_cons (ds_ret de_bl) dss_nil) dss_nil) (dss_cons (ds_set (i := 8) sc__law_wholes_right.nd (de_call (G__law_length.mono (by decide)) hr hG (da_cons (de_tVar (pv 0)) (da_cons de_int da_nil)))) (dss_cons (ds_set (i := 9) sc__law_wholes_right.nd (de_bin op_mulA od_mul (de_tVar (pv 8)) (de_callB (cr_max2 rfl) cd_max2 rfl M.b_max PyProof.Rows.boot_max (da_cons de_int (da_cons (de_bin op_sub od_sub (de_callB cr_len cd_len rfl M.b_len PySem.boot_len (da_cons (de_tVar (pv 2)) da_nil)) de_int) da_nil))))) (dss_cons (ds_if (PW.pt (dw_or (dt_cmp op_gt od_gt (de_tVar (pv 4)) (de_bin op_pow od_pow de_int de_int) (nomark _)) (dw_or (dt_cmp op_gt od_gt (de_callB cr_len cd_len rfl M.b_len PySem.boot_len (da_cons (de_tVar (pv 2)) da_nil)) de_int (nomark _)) (dw_or1 (dt_cmp op_gt od_gt (de_bin op_addA od_add (de_tVar (pv 3)) (de_tVar (pv 9))) (de_bin op_pow od_pow de_int de_int) (nomark _)))))) (dss_cons (ds_ret de_bl) dss_nil) dss_nil) (dss_cons (ds_set (i := 10) sc__law_wholes_right.nd (de_make (G_Row.mono (by decide)) hr hG (da_cons (de_lc (own := [("one", 14)]) rfl sc__law_wholes_right.nd (di_lst (de_tVar (pv 2))) (blkOk_by (N := ["bag", "made", "ends", "room", "most", "sizes", "found", "lines", "gap", "gaps", "row", "due", "tops", "k", "one"]) (sc := defScope s77) (by decide +kernel)) (fun _ _ _ _ _ => (dg_nm (i := 14) sc__law_wholes_right.nd)) (fun _ _ _ _ _ => dts_nil) (fun _ _ _ _ _ => (de_make (G_Leaf.mono (by decide)) hr hG (da_cons de_str (da_cons (de_ix (de_tVar (pv 14)) de_int) (da_cons (de_ix (de_tVar (pv 14)) de_int) (da_cons (de_ix (de_tVar (pv 14)) de_int) (da_cons (de_ix (de_tVar (pv 14)) de_int) (da_cons (de_ix (de_tVar (pv 14)) de_int) da_nil))))))))) (da_cons (de_tVar (pv 8)) da_nil)))) (dss_cons (ds_set (i := 11) sc__law_wholes_right.nd (de_lst (da_cons (de_bin op_addA od_add (de_callB (cr_sum rfl) cd_sum rfl M.b_sum PyProof.Rows.boot_sum (da_cons (de_lc (own := [("one", 14)]) rfl sc__law_wholes_right.nd (di_lst (de_tVar (pv 2))) (blkOk_by (N := ["bag", "made", "ends", "room", "most", "sizes", "found", "lines", "gap", "gaps", "row", "due", "tops", "k", "one"]) (sc := defScope s77) (by decide +kernel)) (fun _ _ _ _ _ => (dg_nm (i := 14) sc__law_wholes_right.nd)) (fun _ _ _ _ _ => dts_nil) (fun _ _ _ _ _ => (de_call (G__law_end.mono (by decide)) hr hG (da_cons (de_tVar (pv 14)) (da_cons de_bl da_nil))))) da_nil)) (de_tVar (pv 9))) (da_cons (de_bin op_addA od_add (de_callB (cr_sum rfl) cd_sum rfl M.b_sum PyProof.Rows.boot_sum (da_cons (de_lc (own := [("one", 14)]) rfl sc__law_wholes_right.nd (di_lst (de_tVar (pv 2))) (blkOk_by (N := ["bag", "made", "ends", "room", "most", "sizes", "found", "lines", "gap", "gaps", "row", "due", "tops", "k", "one"]) (sc := defScope s77) (by decide +kernel)) (fun _ _ _ _ _ => (dg_nm (i := 14) sc__law_wholes_right.nd)) (fun _ _ _ _ _ => dts_nil) (fun _ _ _ _ _ => (de_ix (de_tVar (pv 14)) de_int))) da_nil)) (de_tVar (pv 9))) da_nil)))) (dss_cons (ds_setLc (i := 12) (own := [("one", 14)]) rfl sc__law_wholes_right.nd rfl (sw_true rfl rfl rfl (by decide +kernel)) (di_lst (de_tVar (pv 2))) (blkOk_by (N := ["bag", "made", "ends", "room", "most", "sizes", "found", "lines", "gap", "gaps", "row", "due", "tops", "k", "one"]) (sc := defScope s77) (by decide +kernel)) (fun _ _ _ _ _ => (dg_nm (i := 14) sc__law_wholes_right.nd)) (fun _ _ _ _ _ => dts_nil) (fun _ _ _ _ _ => (de_call (G__law_end.mono (by decide)) hr hG (da_cons (de_tVar (pv 14)) (da_cons de_bl da_nil))))) (dss_cons (ds_expr (de_app (pv 11) (de_ifExp (PW.pt (dw_or (dt_cmp (op_inD (hu65 hr)) od_in de_non (de_tVar (pv 12)) rfl) (dw_or1 (dt_cmp (op_eqE (hu64 hr)) od_eqE (de_tVar (pv 12)) (de_lst da_nil) (nomark _))))) de_non (de_bin op_addA od_add (de_callB (cr_sum rfl) cd_sum rfl M.b_sum PyProof.Rows.boot_sum (da_cons (de_tVar (pv 12)) da_nil)) (de_tVar (pv 9)))))) (dss_cons (ds_ret (de_and (de_call (G__law_alike.mono (by decide)) hr hG (da_cons (de_meth (G_Row_wides_for.mono (by decide)) (de_tVar (pv 10)) hr hG (da_cons (de_bin op_addA od_add (de_tVar (pv 3)) (de_tVar (pv 9))) da_nil)) (da_cons (de_tVar (pv 6)) da_nil))) (de_one (de_call (G__law_alike.mono (by decide)) hr hG (da_cons (de_meth0 (G_Row_across.mono (by decide)) (de_tVar (pv 10)) hr hG) (da_cons (de_callTy cr_tuple cd_tuple rfl M.b_tuple PyProof.Rows.boot_tuple (da_cons (de_tVar (pv 11)) da_nil)) da_nil)))))) dss_nil))))))))))))), fun ds R h => ?_⟩)) (nods (Dd.bindsN fun _ _ _ _ _ _ us hl => match us, hl with | [_, _, _, _, _], _ => rfl)) fun _ => DpL.nil
  unfold W__law_wholes_right at h
  obtain ⟨ps, rm, m, rfl, hl, hpe, r0, r1, h⟩ := h
  have hp : ∀ p ∈ ps, OkP p := fun p m => (hpe p m).ok
  have hs := sz_sm hp hl (int_bn r0 r1) (by omega)
  have shW := whL_bnd hp hl r0 r1
  have rr0 := ratnn r0
  walk_at "dl"
  refine ⟨ps, (rm : Rat), 0, rfl, hl, hp, int_bn r0 r1, by omega, rr0, ?_⟩
  unfold shD
  walk_at "dl"
  refine ⟨ps, rm, rfl, hl, hp, r0, r1, ?_⟩
  walk_at "dl"
  refine ⟨_, rfl, hs, ?_⟩
  have hw : whL ps rm = gaps (0 :: edR 0 (ps.map (fl ps (rm : Rat)))) := rfl
  have hEl : (0 :: edR 0 (ps.map (fl ps (rm : Rat)))).length = ps.length + 1 := by simp [edR_len]
  have hE0 : ga (0 :: edR 0 (ps.map (fl ps (rm : Rat)))) 0 = 0 := rfl
  have hww : ∀ R : RD → Prop, R (.o (.lst ((gaps (0 :: edR 0 (ps.map (fl ps (rm : Rat))))).map D.int))) → W_wholes_of M [.lst ((ps.map (fl ps (rm : Rat))).map frR)] R := fun R h => ⟨_, rfl, hs, h⟩
  generalize (0 :: edR 0 (ps.map (fl ps (rm : Rat)))) = E at *
  walk_at "dl"
  refine hww _ ?_
  rw [← hw]
  refine alike rfl shW ?_
  walk_at "dl"
  have a0 := ga_at (vs := E) (i := 0) (by omega)
  rw [hE0] at a0
  rw [ixL_of (z := (0 : Int)) a0]
  walk_at "dl"
  rw [show decide ((((E.map D.int).length : Nat) : Int) = ((((whL ps rm).map D.int).length : Nat) : Int) + 1) = true by rw [List.length_map, List.length_map, whL_len, hEl]; simp]
  simp only [decide_true, Bool.not_true]
  have wl := whL_len ps rm
  refine ⟨by simp; omega, by omega, ?_⟩
  rw [show (((((whL ps rm).map D.int).length : Nat)) : Int).toNat = ps.length by rw [List.length_map, wl]; rfl, rngD0]
  refine comp_mapA (fun i : Nat => D.int (i : Int)) (fun k => D.int (ga E (k + 1) - ga E k)) _ ⟨trivial, trivial⟩ (by simp; omega) ?_ ?_
  · intro k hk U hU
    have hk : k < ps.length := by simpa using hk
    have a1 := ga_at (vs := E) (i := k) (by omega)
    have a2 := ga_at (vs := E) (i := k + 1) (by omega)
    rw [show (((k + 1 : Nat) : Int)) = (k : Int) + 1 by push_cast; rfl] at a2
    simp only [wipeR]
    walk_at "dl"
    simp only [ixL_of a1, ixL_of a2]
    walk_at "dl"
    exact hU _ _ rfl rfl
  have eg : (List.range ps.length).map (fun k => D.int (ga E (k + 1) - ga E k)) = (whL ps rm).map D.int := by
    rw [hw]
    apply List.ext_getElem?
    intro i
    rw [List.getElem?_map, List.getElem?_map]
    by_cases hi : i < ps.length
    · rw [List.getElem?_range hi, gaps_at _ _ (by omega)]
      rfl
    · rw [List.getElem?_eq_none (by simp; omega), List.getElem?_eq_none (by rw [← hw, wl]; omega)]
      rfl
  rw [eg]
  walk_at "dl"
  refine alike rfl shW ?_
  walk_at "dl"
  refine ⟨1000, rfl, by decide, by decide, fun g g0 g1 => ?_⟩
  walk_at "dl"
  refine ⟨mulS (by omega) (by simp; omega), ⟨by decide, by decide, by decide⟩, ?_⟩
  rw [show max 0 (((((ps.map endsD).length : Nat)) : Int) - 1) = max 0 ((ps.length : Int) - 1) by simp]
  walk_at "dl"
  split
  · exact h
  rename_i hm
  have hm : m ≤ 1000000 := by have := of_decide_eq_false hm; simp at this; omega
  split
  · exact h
  rename_i hl8
  have hl8 : ps.length ≤ 8 := by have := of_decide_eq_false hl8; simp at this; omega
  have hG0 : 0 ≤ g * max 0 ((ps.length : Int) - 1) := Int.mul_nonneg g0 (by omega)
  have hG1 : g * max 0 ((ps.length : Int) - 1) ≤ 1000 * 8 := Int.mul_le_mul g1 (by omega) (by omega) (by decide)
  walk_at "dl"
  refine ⟨⟨by decide, by decide, by decide⟩, ?_⟩
  split
  · exact h
  rename_i hroom
  have hroom : rm + g * max 0 ((ps.length : Int) - 1) ≤ 1000000000000 := by have := of_decide_eq_false hroom; simp at this; omega
  have hLf : ∀ p ∈ ps, OkL p := fun p hm' => ⟨hp p hm', by have := (hpe p hm').b; omega, fun z hz => by have := (hpe p hm').g z hz; omega⟩
  walk_at "dl"
  refine comp_mapA endsD (lfD M) ps ?_ (by omega) ?_ ?_
  · exact ⟨trivial, trivial⟩
  · intro p hp' U hU
    simp only [wipeR]
    rw [endsD_eq]
    walk_at "dl"
    exact ⟨p, rfl, hLf p hp', hU _ _ rfl rfl⟩
  walk_at "dl"
  refine ⟨ps, g, rfl, hl8, hp, g0, by omega, fun x y => ?_⟩
  generalize hGe : g * max 0 ((ps.length : Int) - 1) = G at *
  have hG00 : ps = [] → G = 0 := fun q => by rw [← hGe, q]; exact Int.mul_zero g
  have shT : ∃ k n, k ≤ 60 ∧ n ≤ 8000 ∧ Sh k n (threeD ps G) := by
    refine ⟨1, 3, by decide, by decide, ?_⟩
    have b0 := bases_bnd hp
    have s0 := sumE_bnd hp
    unfold threeD
    split
    · refine .tup (n := 0) (fun y m => ?_) (by simp)
      simp only [List.mem_cons, List.not_mem_nil, or_false] at m
      rcases m with rfl | rfl | rfl
      · exact sh_int (by simp)
      · exact sh_int (by simp)
      · exact .non
    · refine .tup (n := 0) (fun y m => ?_) (by simp)
      simp only [List.mem_cons, List.not_mem_nil, or_false] at m
      rcases m with rfl | rfl | rfl
      · exact sh_int (le_1800 (by omega))
      · exact sh_int (le_1800 (by omega))
      · by_cases q : ∃ p ∈ ps, endP p true = none
        · rw [tacc_some _ q]; exact .non
        · have qa : ∀ p ∈ ps, endP p true ≠ none := fun p m z => q ⟨p, m, z⟩
          rw [tacc_all _ qa]
          have s1 := sumZ_bnd hp qa
          exact sh_int (le_1800 (by omega))
  walk_at "dl"
  refine comp_mapA endsD (fun p => D.int (eI p)) ps ⟨trivial, trivial⟩ (by omega) ?_ ?_
  · intro p hp' U hU
    simp only [wipeR]
    walk_at "dl"
    exact ⟨p, false, rfl, hp p hp', hU _ _ (by simp only [toD_d]; rw [eI_end]; rfl) rfl⟩
  walk_at "dl"
  rw [show ps.map (fun p => D.int (eI p)) = (ps.map eI).map D.int by rw [List.map_map]; rfl, asInts_map]
  walk_at "dl"
  refine comp_mapA endsD (fun p => D.int p.b) ps ⟨trivial, trivial⟩ (by omega) ?_ ?_
  · intro p hp' U hU
    simp only [wipeR]
    rw [endsD_eq]
    walk_at "dl"
    exact hU _ _ rfl rfl
  walk_at "dl"
  rw [show ps.map (fun p => D.int p.b) = (ps.map fun p => p.b).map D.int by rw [List.map_map]; rfl, asInts_map]
  walk_at "dl"
  refine comp_mapA endsD (fun p => optD (endP p true)) ps ⟨trivial, trivial⟩ (by omega) ?_ ?_
  · intro p hp' U hU
    simp only [wipeR]
    walk_at "dl"
    exact ⟨p, true, rfl, hp p hp', hU _ _ rfl rfl⟩
  walk_at "dl"
  have eo : ps.map (fun p => optD (endP p true)) = (ps.map fun p => endP p true).map optD := by rw [List.map_map]; rfl
  have shO : Sh 1 60 (.lst (ps.map fun p => optD (endP p true))) := by
    rw [eo]
    refine sh_opts (fun i m => ?_) (by simp; omega)
    obtain ⟨p, hp', e⟩ := List.mem_map.mp m
    have := endP_bnd (hp p hp') e
    exact le_1800 (by omega)
  rw [inD_lst, any_none]
  refine ⟨rfl, shO.pl, ?_⟩
  rw [show (ps.map eI).sum = sumE ps from rfl, show (ps.map fun p => p.b).sum = bases ps from rfl]
  by_cases hn : ∃ p ∈ ps, endP p true = none
  · rw [decide_eq_true hn]
    walk_at "dl"
    refine ⟨by simp, rfl, ps, g, x, y, rm + G, by rw [rwD, hGe], hl8, hp, g0, by omega, by rw [hGe]; omega, by rw [hGe]; omega, ?_⟩
    rw [hGe, show rm + G - G = rm by omega]
    walk_at "dl"
    refine alike rfl shW ?_
    walk_at "dl"
    refine ⟨rfl, ps, g, x, y, by rw [rwD, hGe], ?_⟩
    rw [hGe]
    walk_at "dl"
    refine alike (three_eq hG00 ?_) ?_ h
    · obtain ⟨p, m, _⟩ := id hn
      have hz : ps.isEmpty = false := by cases ps with | nil => cases m | cons _ _ => rfl
      rw [hz, tacc_some _ hn]
      rfl
    · exact shT
  rw [decide_eq_false hn]
  walk_at "dl"
  have ha : ∀ p ∈ ps, endP p true ≠ none := fun p m z => hn ⟨p, m, z⟩
  have ez : ps.map (fun p => optD (endP p true)) = (ps.map fun p => endZ p true).map D.int := by
    rw [List.map_map]
    exact List.map_congr_left fun p m => by rw [endZ_of (ha p m)]; rfl
  rw [show (ps.map fun p => optD (endP p true)).isEmpty = ps.isEmpty by cases ps <;> rfl]
  cases hz : ps.isEmpty with
  | true =>
    walk_at "dl"
    refine ⟨by simp, rfl, ps, g, x, y, rm + G, by rw [rwD, hGe], hl8, hp, g0, by omega, by rw [hGe]; omega, by rw [hGe]; omega, ?_⟩
    rw [hGe, show rm + G - G = rm by omega]
    walk_at "dl"
    refine alike rfl shW ?_
    walk_at "dl"
    refine ⟨rfl, ps, g, x, y, by rw [rwD, hGe], ?_⟩
    rw [hGe]
    walk_at "dl"
    refine alike (three_eq hG00 ?_) ?_ h
    · rw [hz]; rfl
    · exact shT
  | false =>
    walk_at "dl"
    rw [ez, asInts_map]
    walk_at "dl"
    refine ⟨by simp, rfl, ps, g, x, y, rm + G, by rw [rwD, hGe], hl8, hp, g0, by omega, by rw [hGe]; omega, by rw [hGe]; omega, ?_⟩
    rw [hGe, show rm + G - G = rm by omega]
    walk_at "dl"
    refine alike rfl shW ?_
    walk_at "dl"
    refine ⟨rfl, ps, g, x, y, by rw [rwD, hGe], ?_⟩
    rw [hGe]
    walk_at "dl"
    refine alike (three_eq hG00 ?_) ?_ h
    · rw [hz, tacc_all _ ha, Int.add_comm]; rfl
    · exact shT
end
end K20
end
section
set_option Elab.async false
set_option linter.all false
set_option maxRecDepth 100000
set_option maxHeartbeats 1000000
set_option exponentiation.threshold 20000
namespace K20
open PySem PySem.Spec L2 DL
local macro_rules | `(tactic| walk_at "dl") => `(tactic| try simp only [dSeq, dIfS, dRet, dRetN, dRetV, dAsg, dExpr, dNever, dNext, dVar, dC, dBin, dUn, dTest, dNot, dAnd, dOr, dAndV, dOrV, dNotV, dIf, dCall, dCons, dNil, dBreak, rdVar_d, rdVar_lst, rdVar_ins, rtVar_d, rtVar_lst, toD_d, toD_lst, toD_ins, toDo_lst, asBl_bl, asInt_int, asLst_lst, wTup_eq, wLst_eq, startR, List.map, List.length, List.getElem?_cons_zero, List.getElem?_cons_succ, List.set_cons_zero, List.set_cons_succ, List.replicate, List.cons_append, List.nil_append, List.append_nil, wIsT, D.kd, kit_ii, kit_ib, kit_bi, kit_bb, kit_ll, kit_tt, kit_ss, kit_nl, kit_ni, kit_it, kit_nt, dZip, dPar3, dUnl2, eqE, neE, wTuple, wSorted, Nat.reduceAdd, Nat.reduceSub, Nat.reduceLeDiff, Bool.not_true, Bool.not_false, true_and, and_true, addD_int, addD_lst, mulD_int, mulD_lst, int0_int, intD_int, negD_int, ixT0, ixT1, ixT2, ixT3, lenD_lst, isND_non, notND_non, isNon_non, isNon_int, isNon_bl, isNon_tup, isNon_lst, isNon_ins, dChain, dWhile, dPar, eqD, neD, pl_int, pl_non, pl_bl, eqv_int, dFor, bindPat, bindPats, dItL, dItT, dItS, dRng1, dRng2, dEnum, dLenV, dIxV, dApp, dSetIx, dInsert, atOwn_zero, atOwn_succ, atD_zero, atD_succ, atDt_zero, atDt_succ, atSlf_zero, dRev, dSl, dPart0, dPart, dOrT, dAsgP, dComp, dAug, dRetP, retP_lst, startI, asIns_ins, slfEnd_eq, dSelf, dFld, dMeth, dMake, wIsC, wSum,  dUnpackP, dInDt, dPutDt, dDictT, wInt1_int, wInt1_bl, wAbs_int, wMax2_int, wMin2_int, wList_lst, wLen_lst, wLen_str, bagAt0, dBag, dPick, dAugBag, dSetBag])
local macro_rules | `(tactic| walk_at "br") => `(tactic| (split <;> rename_i hb <;> (first | replace hb := of_decide_eq_true hb | replace hb := of_decide_eq_false hb | skip)))
/-- a comprehension with a test that may go either way -/
theorem comp_Q {p : Pat} {tt : TTD} {te : ET} {vs : List Nat} {Q : RD → Rho → Prop} {ρ : Rho} (Pr : D → Prop) (no : noOwn ρ vs) : ∀ (ds acc : List D), acc.length + ds.length ≤ 1000000 →
    (∀ d ∈ ds, ∀ (U : RD → Rho → Prop) (V : Rho → Prop), (∀ r ρ4, Pr r.toD → restR ρ ρ4 vs = ρ → U r ρ4) → (∀ ρ3, restR ρ ρ3 vs = ρ → V ρ3) → bindPat p d (wipeR ρ vs) fun ρ2 => tt ρ2 fun b ρ3 => match b with | true => te ρ3 U | false => V ρ3) →
    (∀ ys : List D, ys.length ≤ ds.length → (∀ y ∈ ys, Pr y) → Q (.o (.lst (acc ++ ys))) ρ) → compD p tt te vs Q ds ρ acc
  | [], acc, _, _, h => by simpa [compD] using h [] (by simp) (by simp)
  | d :: ds, acc, hl, hs, h => by
    refine ⟨no, ?_⟩
    have hl' : acc.length + (ds.length + 1) ≤ 1000000 := hl
    refine hs d List.mem_cons_self (fun y ρ4 => acc.length < 1000000 ∧ compD p tt te vs Q ds (restR ρ ρ4 vs) (acc ++ [y.toD])) (fun ρ3 => compD p tt te vs Q ds (restR ρ ρ3 vs) acc) (fun r ρ4 e1 e2 => ?_) fun ρ3 e2 => ?_
    · refine ⟨by omega, ?_⟩
      rw [e2]
      refine comp_Q Pr no ds (acc ++ [r.toD]) (by simp; omega) (fun d hd => hs d (List.mem_cons_of_mem _ hd)) fun ys hy hP => ?_
      have := h (r.toD :: ys) (by simp; omega) fun y hy => by
        rcases List.mem_cons.mp hy with rfl | hy
        · exact e1
        · exact hP y hy
      simpa using this
    · rw [e2]
      exact comp_Q Pr no ds acc (by omega) (fun d hd => hs d (List.mem_cons_of_mem _ hd)) fun ys hy hP => h ys (by simp; omega) hP
theorem big_lit : ((1000000000000 : Int) : Rat) = 1000000000000 := by decide +kernel
theorem mem_le_rs {α : Type} {f : α → Rat} : ∀ {ws : List α}, (∀ y ∈ ws, 0 ≤ f y) → ∀ x ∈ ws, f x ≤ rs (ws.map f)
  | [], _, x, m => by cases m
  | y :: ws, h, x, m => by
    have hy := h y List.mem_cons_self
    have hr : ∀ z ∈ ws, 0 ≤ f z := fun z m => h z (List.mem_cons_of_mem _ m)
    have nn := rs_nn hr
    simp only [List.map_cons, rs]
    rcases List.mem_cons.mp m with rfl | m
    · grind
    · have := mem_le_rs hr x m
      grind
/-- no part has more than the room, or than its greatest -/
theorem fl_le {ps : List Pt} (hp : ∀ p ∈ ps, OkP p) {rm : Int} (r1 : rm ≤ 1000000000000) : ∀ p ∈ ps, fl ps (rm : Rat) p ≤ 1000000000000 := by
  intro p m
  have r1' : (rm : Rat) ≤ 1000000000000 := by rw [← big_lit]; exact ri.mpr r1
  cases e : priceO ps (rm : Rat) with
  | some x =>
    have a := (priceO_some hp e).sum
    have b := mem_le_rs (f := fl ps (rm : Rat)) (fl_nn hp (rm : Rat)) p m
    rw [fl_some e] at b ⊢
    rw [a] at b
    exact Rat.le_trans b r1'
  | none =>
    rw [fl_none e]
    have hE := (priceO_none hp e).all p m
    have hb := endP_bnd (hp p m) (endZ_of hE)
    simp only
    rw [endZ_R hE]
    rw [← big_lit]
    exact ri.mpr hb.2
theorem rs_cap {α : Type} {f : α → Rat} {B : Rat} (hB : 0 ≤ B) : ∀ {ws : List α} {n : Nat}, (∀ y ∈ ws, f y ≤ B) → ws.length ≤ n → rs (ws.map f) ≤ (n : Rat) * B
  | [], n, _, _ => by
    show (0 : Rat) ≤ _
    exact Rat.mul_nonneg (by exact_mod_cast Nat.zero_le _) hB
  | y :: ws, 0, _, hl => by simp at hl
  | y :: ws, n + 1, h, hl => by
    have a := rs_cap hB (ws := ws) (n := n) (fun z m => h z (List.mem_cons_of_mem _ m)) (by simpa using hl)
    have b := h y List.mem_cons_self
    simp only [List.map_cons, rs]
    push_cast
    grind
/-- the room of some of the parts -/
theorem some_bn {ps qs : List Pt} (hp : ∀ p ∈ ps, OkP p) (hl : ps.length ≤ 10) (hq : ∀ q ∈ qs, q ∈ ps) (hql : qs.length ≤ 10) {rm : Int} (r0 : 0 ≤ rm) (r1 : rm ≤ 1000000000000) : Bn 160 50 (rs (qs.map (fl ps (rm : Rat)))) ∧ 0 ≤ rs (qs.map (fl ps (rm : Rat))) := by
  have a := rs_bn (d := 16) (v := 62) (k := 10) (xs := qs.map (fl ps (rm : Rat))) (fun x m => by
    obtain ⟨q, hq', rfl⟩ := List.mem_map.mp m
    exact fl_bn hp (by omega) (int_bn r0 r1) q (hq q hq')) (by simpa using hql)
  have b := rs_nn (f := fl ps (rm : Rat)) (ws := qs) fun q m => fl_nn hp (rm : Rat) q (hq q m)
  have c := rs_cap (f := fl ps (rm : Rat)) (B := 1000000000000) (by decide) (ws := qs) (fun q m => fl_le hp r1 q (hq q m)) hql
  have d : ((10 : Nat) : Rat) * 1000000000000 ≤ ((2 ^ 50 : Nat) : Rat) := by decide +kernel
  have e : (0 : Rat) ≤ ((2 ^ 50 : Nat) : Rat) := by exact_mod_cast Nat.zero_le _
  exact ⟨⟨a.d, by grind, Rat.le_trans c d⟩, b⟩
theorem idx_list {n : Nat} : ∀ {ys : List D}, (∀ y ∈ ys, ∃ k : Nat, k < n ∧ y = .int (k : Int)) → ∃ ks : List Nat, ys = ks.map (fun k : Nat => D.int (k : Int)) ∧ ∀ k ∈ ks, k < n
  | [], _ => ⟨[], rfl, by simp⟩
  | y :: ys, h => by
    obtain ⟨k, hk, rfl⟩ := h y List.mem_cons_self
    obtain ⟨ks, rfl, h2⟩ := idx_list (ys := ys) fun y hy => h y (List.mem_cons_of_mem _ hy)
    exact ⟨k :: ks, rfl, fun z hz => by
      rcases List.mem_cons.mp hz with rfl | hz
      · exact hk
      · exact h2 z hz⟩
def gp (ps : List Pt) (k : Nat) : Pt := (ps[k]?).getD ⟨0, 0, none, 0, 0⟩
theorem gp_mem {ps : List Pt} {k : Nat} (h : k < ps.length) : gp ps k ∈ ps := by
  unfold gp
  rw [List.getElem?_eq_getElem h]
  exact List.getElem_mem h
theorem gp_at {ps : List Pt} {k : Nat} (h : k < ps.length) (g : Pt → D) : atI (ps.map g) (k : Int) = some (g (gp ps k)) := by
  refine L2.atI_nat ?_
  unfold gp
  rw [List.getElem?_map, List.getElem?_eq_getElem h]
  rfl
section
variable {P : Program} {w : World} {K : PySem.W.Frag} {mg : Str → Option Value} {base : Heap} {f : Addr} {fd : FuncData}
def W__law_some_right (M : Md K mg) : ON := fun ds R => ∃ (ps : List Pt) (rm : Int), ds = [.bag, .lst (ps.map (ptD M)), .int rm] ∧ ps.length ≤ 10 ∧ (∀ p ∈ ps, OkP p) ∧ 0 ≤ rm ∧ rm ≤ 1000000000000 ∧ R (.d (.bl true))
/-! _law_some_right -/
theorem sc__law_some_right : FnScope ["bag", "made", "room", "sizes", "some", "its", "found", "k"] ["bag", "made", "room"] (defScope s78) := ⟨rfl, rfl, rfl, by decide +kernel, rfl, by decide +kernel, by decide +kernel⟩
abbrev dd__law_some_right : List D := []
abbrev lv__law_some_right : Nat := 8
theorem def__law_some_right (M : Md K mg) (Dd : FunD K "_law_some_right" "_law_some_right" (defArgs s78) (defBody s78) (defScope s78) [] [] f fd) (hm : mg "_law_some_right" = some (.ref f)) (G__law_alike : Def P w K mg base 1 "_law_alike" dd__law_alike (W__law_alike M)) (G_share : Def P w K mg base 7 "share" dd_share (W_share M)) (G__law_total : Def P w K mg base 3 "_law_total" dd__law_total (W__law_total M)) (G__law_take : Def P w K mg base 1 "_law_take" dd__law_take (W__law_take M)) : Def P w K mg base 8 "_law_some_right" dd__law_some_right (W__law_some_right M) := by
  refine Def.of hm Dd.kp (okG (k := 7) Dd sc__law_some_right (fun ds R h => by unfold W__law_some_right at h; obtain ⟨_, h⟩ := h; obtain ⟨_, h⟩ := h; obtain ⟨rfl, _⟩ := h; rfl) (fun cdv A outer s H hr hG => ⟨_, (dss_cons (ds_set (i := 3) sc__law_some_right.nd (de_ix (de_call (G_share.mono (by decide)) hr hG (da_cons (de_tVar (pv 1)) (da_cons (de_tup (da_cons (de_tVar (pv 2)) (da_cons de_int da_nil))) da_nil))) de_int)) (dss_cons (ds_setLc (i := 4) (own := [("k", 7)]) rfl sc__law_some_right.nd rfl (sw_true rfl rfl rfl (by decide +kernel)) (di_rng1 M.b_range (de_callB cr_len cd_len rfl M.b_len PySem.boot_len (da_cons (de_tVar (pv 1)) da_nil))) (blkOk_by (N := ["bag", "made", "room", "sizes", "some", "its", "found", "k"]) (sc := defScope s78) (by decide +kernel)) (fun _ _ _ _ _ => (dg_nm (i := 7) sc__law_some_right.nd)) (fun _ _ _ _ _ => (dts_one (dt_cmp (op_eqD (hu64 hr)) od_eq (de_call (G__law_take.mono (by decide)) hr hG (da_cons (de_tVar (pv 0)) (da_cons de_int da_nil))) de_int (nomark _)))) (fun _ _ _ _ _ => (de_tVar (pv 7)))) (dss_cons (ds_setLc (i := 5) (own := [("k", 7)]) rfl sc__law_some_right.nd rfl (sw_true rfl rfl rfl (by decide +kernel)) (di_lst (de_tVar (pv 4))) (blkOk_by (N := ["bag", "made", "room", "sizes", "some", "its", "found", "k"]) (sc := defScope s78) (by decide +kernel)) (fun _ _ _ _ _ => (dg_nm (i := 7) sc__law_some_right.nd)) (fun _ _ _ _ _ => dts_nil) (fun _ _ _ _ _ => (de_ix (de_tVar (pv 3)) (de_tVar (pv 7))))) (dss_cons (ds_set (i := 6) sc__law_some_right.nd (de_call (G_share.mono (by decide)) hr hG (da_cons (de_lc (own := [("k", 7)]) rfl sc__law_some_right.nd (di_lst (de_tVar (pv 4))) (blkOk_by (N := ["bag", "made", "room", "sizes", "some", "its", "found", "k"]) (sc := defScope s78) (by decide +kernel)) (fun _ _ _ _ _ => (dg_nm (i := 7) sc__law_some_right.nd)) (fun _ _ _ _ _ => dts_nil) (fun _ _ _ _ _ => (de_ix (de_tVar (pv 1)) (de_tVar (pv 7))))) (da_cons (de_call (G__law_total.mono (by decide)) hr hG (da_cons (de_tVar (pv 5)) da_nil)) da_nil)))) (dss_cons (ds_ret (de_and (de_call (G__law_alike.mono (by decide)) hr hG (da_cons (de_ix (de_tVar (pv 6)) de_int) (da_cons (de_tVar (pv 5)) da_nil))) (de_and (de_cmp op_notNA od_notN (de_ix (de_tVar (pv 6)) de_int) de_non (nomark _)) (de_one (de_cmp (op_eqD (hu64 hr)) od_eq (de_ix (de_tVar (pv 6)) de_int) (de_tup (da_cons de_int (da_cons de_int da_nil))) (nomark _)))))) dss_nil))))), fun ds R h => ?_⟩)) (nods (Dd.bindsN fun _ _ _ _ _ _ us hl => match us, hl with | [_, _, _], _ => rfl)) fun _ => DpL.nil
  unfold W__law_some_right at h
  obtain ⟨ps, rm, rfl, hl, hp, r0, r1, h⟩ := h
  have rr0 := ratnn r0
  walk_at "dl"
  refine ⟨ps, (rm : Rat), 0, rfl, hl, hp, int_bn r0 r1, by omega, rr0, ?_⟩
  unfold shD
  walk_at "dl"
  refine ⟨by simp; omega, by omega, ?_⟩
  rw [show (((((ps.map (ptD M)).length : Nat)) : Int)).toNat = ps.length by simp, rngD0]
  refine comp_Q (fun d => ∃ k : Nat, k < ps.length ∧ d = .int (k : Int)) ?_ _ _ (by simp; omega) ?_ ?_
  · exact ⟨trivial, trivial⟩
  · intro d hd U V hU hV
    obtain ⟨k, hk, rfl⟩ := List.mem_map.mp hd
    have hk : k < ps.length := by simpa using hk
    simp only [wipeR]
    walk_at "dl"
    refine draw (by decide) (by decide) fun r g0 g1 => ?_
    walk_at "dl"
    split
    · exact hU _ _ ⟨k, hk, rfl⟩ rfl
    · exact hV _ rfl
  intro ys hy hP
  obtain ⟨ks, rfl, hks⟩ := idx_list hP
  have hkl : ks.length ≤ 10 := by simp at hy; omega
  rw [List.nil_append]
  have hfl2 : ∀ k ∈ ks, atI ((ps.map (fl ps (rm : Rat))).map frR) (k : Int) = some (frR (fl ps (rm : Rat) (gp ps k))) := fun k m => by
    rw [List.map_map]
    exact gp_at (hks k m) _
  have hq : ∀ q ∈ ks.map (gp ps), q ∈ ps := fun q m => by
    obtain ⟨k, hk, rfl⟩ := List.mem_map.mp m
    exact gp_mem (hks k hk)
  have hqo : ∀ q ∈ ks.map (gp ps), OkP q := fun q m => hp q (hq q m)
  obtain ⟨sb, s0⟩ := some_bn hp hl hq (by simpa using hkl) r0 r1
  obtain ⟨x, hx1, hx2⟩ := some_share hqo ((fit_fl hp (rm : Rat)).sub hq)
  walk_at "dl"
  refine comp_mapA (fun k : Nat => D.int (k : Int)) (fun k => frR (fl ps (rm : Rat) (gp ps k))) ks ⟨trivial, trivial⟩ (by omega) ?_ ?_
  · intro k hk U hU
    simp only [wipeR]
    walk_at "dl"
    rw [ixL_of (hfl2 k hk)]
    exact hU _ _ rfl rfl
  walk_at "dl"
  refine comp_mapA (fun k : Nat => D.int (k : Int)) (fun k => ptD M (gp ps k)) ks ⟨trivial, trivial⟩ (by omega) ?_ ?_
  · intro k hk U hU
    simp only [wipeR]
    walk_at "dl"
    rw [ixL_of (gp_at (hks k hk) (ptD M))]
    exact hU _ _ rfl rfl
  walk_at "dl"
  have hfb : ∀ y ∈ (ks.map (gp ps)).map (fl ps (rm : Rat)), Bn 16 62 y := fun y m => by
    obtain ⟨q, hq', rfl⟩ := List.mem_map.mp m
    exact fl_bn hp (by omega) (int_bn r0 r1) q (hq q hq')
  have e1 : ks.map (fun k => frR (fl ps (rm : Rat) (gp ps k))) = ((ks.map (gp ps)).map (fl ps (rm : Rat))).map frR := by rw [List.map_map, List.map_map]; rfl
  have e2 : ks.map (fun k => ptD M (gp ps k)) = (ks.map (gp ps)).map (ptD M) := by rw [List.map_map]; rfl
  rw [e1, e2]
  refine ⟨_, rfl, ⟨16, 62, 10, by simpa using hkl, hfb, by decide, by decide, by decide⟩, ?_⟩
  have e3 : (ks.map (gp ps)).map (fl (ks.map (gp ps)) (rs ((ks.map (gp ps)).map (fl ps (rm : Rat))))) = (ks.map (gp ps)).map (fl ps (rm : Rat)) := by
    rw [fl_some hx1]
    exact List.map_congr_left fun q m => hx2 q m
  generalize (ks.map (gp ps)) = qs at *
  walk_at "dl"
  refine ⟨qs, _, 160, rfl, by
    have := congrArg List.length e2
    simp at this
    omega, hqo, sb, by decide, s0, ?_⟩
  unfold shD
  rw [e3, hx1]
  walk_at "dl"
  refine alike rfl ⟨2, 60, by decide, by decide, sh_frs (fun y m => ⟨16, 62, hfb y m, by decide⟩) (by
    have := congrArg List.length e2
    simp at this ⊢
    omega)⟩ ?_
  walk_at "dl"
  simp only [frO]
  rw [frR_eq x]
  walk_at "dl"
  refine ⟨rfl, rfl, ?_⟩
  rw [show rs (qs.map (fl ps (rm : Rat))) - rs (qs.map (fl ps (rm : Rat))) = 0 by grind, show (D.tup [.int 0, .int 1]) = frR 0 from rfl, frR_eqv, decide_eq_true rfl]
  exact h
end
end K20
end
section
set_option Elab.async false
set_option linter.all false
set_option maxRecDepth 100000
set_option maxHeartbeats 1000000
set_option exponentiation.threshold 20000
namespace K20
open PySem PySem.Spec L2 DL
local macro_rules | `(tactic| walk_at "dl") => `(tactic| try simp only [dSeq, dIfS, dRet, dRetN, dRetV, dAsg, dExpr, dNever, dNext, dVar, dC, dBin, dUn, dTest, dNot, dAnd, dOr, dAndV, dOrV, dNotV, dIf, dCall, dCons, dNil, dBreak, rdVar_d, rdVar_lst, rdVar_ins, rtVar_d, rtVar_lst, toD_d, toD_lst, toD_ins, toDo_lst, asBl_bl, asInt_int, asLst_lst, wTup_eq, wLst_eq, startR, List.map, List.length, List.getElem?_cons_zero, List.getElem?_cons_succ, List.set_cons_zero, List.set_cons_succ, List.replicate, List.cons_append, List.nil_append, List.append_nil, wIsT, D.kd, kit_ii, kit_ib, kit_bi, kit_bb, kit_ll, kit_tt, kit_ss, kit_nl, kit_ni, kit_it, kit_nt, dZip, dPar3, dUnl2, eqE, neE, wTuple, wSorted, Nat.reduceAdd, Nat.reduceSub, Nat.reduceLeDiff, Bool.not_true, Bool.not_false, true_and, and_true, addD_int, addD_lst, mulD_int, mulD_lst, int0_int, intD_int, negD_int, ixT0, ixT1, ixT2, ixT3, lenD_lst, isND_non, notND_non, isNon_non, isNon_int, isNon_bl, isNon_tup, isNon_lst, isNon_ins, dChain, dWhile, dPar, eqD, neD, pl_int, pl_non, pl_bl, eqv_int, dFor, bindPat, bindPats, dItL, dItT, dItS, dRng1, dRng2, dEnum, dLenV, dIxV, dApp, dSetIx, dInsert, atOwn_zero, atOwn_succ, atD_zero, atD_succ, atDt_zero, atDt_succ, atSlf_zero, dRev, dSl, dPart0, dPart, dOrT, dAsgP, dComp, dAug, dRetP, retP_lst, startI, asIns_ins, slfEnd_eq, dSelf, dFld, dMeth, dMake, wIsC, wSum,  dUnpackP, dInDt, dPutDt, dDictT, wInt1_int, wInt1_bl, wAbs_int, wMax2_int, wMin2_int, wList_lst, wLen_lst, wLen_str, bagAt0, dBag, dPick, dAugBag, dSetBag])
local macro_rules | `(tactic| walk_at "br") => `(tactic| (split <;> rename_i hb <;> (first | replace hb := of_decide_eq_true hb | replace hb := of_decide_eq_false hb | skip)))
theorem two_sorted {r t : Int} {ms : List Int} (h : ms.Perm [r, t]) (s : ms.Pairwise (· ≤ ·)) : ∃ a b, ms = [a, b] ∧ a ≤ b ∧ (a = r ∨ a = t) ∧ (b = r ∨ b = t) := by
  have hl := h.length_eq
  match ms, hl with
  | [a, b], _ =>
    refine ⟨a, b, rfl, ?_, ?_, ?_⟩
    · simpa using s
    · have := h.mem_iff.mp (show a ∈ [a, b] by simp)
      simpa using this
    · have := h.mem_iff.mp (show b ∈ [a, b] by simp)
      simpa using this
theorem flat_rep {α : Type} (x : α) : ∀ n : Nat, (List.replicate n [x]).flatten = List.replicate n x
  | 0 => rfl
  | n + 1 => by simp [List.replicate_succ, flat_rep x n]
section
variable {P : Program} {w : World} {K : PySem.W.Frag} {mg : Str → Option Value} {base : Heap} {f : Addr} {fd : FuncData}
def W__law_more_right (M : Md K mg) : ON := fun ds R => ∃ (ps : List Pt) (r t : Int), ds = [.lst (ps.map (ptD M)), .int r, .int t] ∧ ps.length ≤ 10 ∧ (∀ p ∈ ps, OkP p) ∧ 0 ≤ r ∧ r ≤ 1000000000000 ∧ 0 ≤ t ∧ t ≤ 1000000000000 ∧ R (.d (.bl true))
/-! _law_more_right -/
theorem sc__law_more_right : FnScope ["made", "room", "more", "low", "high", "one", "other", "k"] ["made", "room", "more"] (defScope s83) := ⟨rfl, rfl, rfl, by decide +kernel, rfl, by decide +kernel, by decide +kernel⟩
abbrev dd__law_more_right : List D := []
abbrev lv__law_more_right : Nat := 8
theorem def__law_more_right (M : Md K mg) (Dd : FunD K "_law_more_right" "_law_more_right" (defArgs s83) (defBody s83) (defScope s83) [] [] f fd) (hm : mg "_law_more_right" = some (.ref f)) (G__law_less : Def P w K mg base 1 "_law_less" dd__law_less (W__law_less M)) (G_share : Def P w K mg base 7 "share" dd_share (W_share M)) : Def P w K mg base 8 "_law_more_right" dd__law_more_right (W__law_more_right M) := by
  refine Def.of hm Dd.kp (okG (k := 7) Dd sc__law_more_right (fun ds R h => by unfold W__law_more_right at h; obtain ⟨_, h⟩ := h; obtain ⟨_, h⟩ := h; obtain ⟨_, h⟩ := h; obtain ⟨rfl, _⟩ := h; rfl) (fun cdv A outer s H hr hG => ⟨_, (dss_cons (ds_unl2 (i := 3) (j := 4) (de_callB cr_srt cd_sorted rfl M.b_sorted PyProof.Rows.boot_sorted (da_cons (de_lst (da_cons (de_tVar (pv 1)) (da_cons (de_tVar (pv 2)) da_nil))) da_nil)) rfl (dgs_cons (dg_nm (i := 3) sc__law_more_right.nd) (dgs_cons (dg_nm (i := 4) sc__law_more_right.nd) dgs_nil))) (dss_cons (ds_asgP (de_tup (da_cons (de_call (G_share.mono (by decide)) hr hG (da_cons (de_tVar (pv 0)) (da_cons (de_tup (da_cons (de_tVar (pv 3)) (da_cons de_int da_nil))) da_nil))) (da_cons (de_call (G_share.mono (by decide)) hr hG (da_cons (de_tVar (pv 0)) (da_cons (de_tup (da_cons (de_tVar (pv 4)) (da_cons de_int da_nil))) da_nil))) da_nil))) (dg_tp rfl (dgs_cons (dg_nm (i := 5) sc__law_more_right.nd) (dgs_cons (dg_nm (i := 6) sc__law_more_right.nd) dgs_nil)))) (dss_cons (ds_if (dt_cmp (op_neE (hu64 hr)) od_neE (de_lc (own := [("k", 7)]) rfl sc__law_more_right.nd (di_rng1 M.b_range (de_callB cr_len cd_len rfl M.b_len PySem.boot_len (da_cons (de_tVar (pv 0)) da_nil))) (blkOk_by (N := ["made", "room", "more", "low", "high", "one", "other", "k"]) (sc := defScope s83) (by decide +kernel)) (fun _ _ _ _ _ => (dg_nm (i := 7) sc__law_more_right.nd)) (fun _ _ _ _ _ => (dts_one (dt_val (de_call (G__law_less.mono (by decide)) hr hG (da_cons (de_ix (de_ix (de_tVar (pv 6)) de_int) (de_tVar (pv 7))) (da_cons (de_ix (de_ix (de_tVar (pv 5)) de_int) (de_tVar (pv 7))) da_nil)))))) (fun _ _ _ _ _ => (de_tVar (pv 7)))) (de_lst da_nil) (nomark _)) (dss_cons (ds_ret de_bl) dss_nil) dss_nil) (dss_cons (ds_ret (de_or (de_cmp op_isNA od_isN (de_ix (de_tVar (pv 5)) de_int) de_non (nomark _)) (de_or (de_cmp op_isNA od_isN (de_ix (de_tVar (pv 6)) de_int) de_non (nomark _)) (de_one (de_not (de_call (G__law_less.mono (by decide)) hr hG (da_cons (de_ix (de_tVar (pv 6)) de_int) (da_cons (de_ix (de_tVar (pv 5)) de_int) da_nil)))))))) dss_nil)))), fun ds R h => ?_⟩)) (nods (Dd.bindsN fun _ _ _ _ _ _ us hl => match us, hl with | [_, _, _], _ => rfl)) fun _ => DpL.nil
  unfold W__law_more_right at h
  obtain ⟨ps, r, t, rfl, hl, hp, r0, r1, t0, t1, h⟩ := h
  walk_at "dl"
  rw [show asInts [.int r, .int t] = asInts ([r, t].map D.int) from rfl, asInts_map]
  refine ⟨by simp, fun ms q1 q2 => ?_⟩
  obtain ⟨a, b, rfl, hab, ha, hb⟩ := two_sorted q1 q2
  have a0 : 0 ≤ a := by omega
  have a1 : a ≤ 1000000000000 := by omega
  have b0 : 0 ≤ b := by omega
  have b1 : b ≤ 1000000000000 := by omega
  walk_at "dl"
  refine ⟨_, _, rfl, ?_⟩
  walk_at "dl"
  refine ⟨ps, (a : Rat), 0, rfl, hl, hp, int_bn a0 a1, by omega, ratnn a0, ?_⟩
  refine ⟨ps, (b : Rat), 0, rfl, hl, hp, int_bn b0 b1, by omega, ratnn b0, ?_⟩
  unfold shD
  walk_at "dl"
  refine ⟨by simp; omega, by omega, ?_⟩
  rw [show (((((ps.map (ptD M)).length : Nat)) : Int)).toNat = ps.length by simp, rngD0]
  have mono := fl_mono hp (ri.mpr hab)
  have sa := sz_sm hp hl (int_bn a0 a1) (by omega)
  have sb := sz_sm hp hl (int_bn b0 b1) (by omega)
  have fa : ∀ (r : Rat) (k : Nat), k < ps.length → atI ((ps.map (fl ps r)).map frR) (k : Int) = some (frR (fl ps r (gp ps k))) := fun r k hk => by
    rw [List.map_map]
    exact gp_at hk _
  refine comp_Q (fun _ => False) ?_ _ _ (by simp; omega) ?_ ?_
  · exact ⟨trivial, trivial⟩
  · intro d hd U V hU hV
    obtain ⟨k, hk, rfl⟩ := List.mem_map.mp hd
    have hk : k < ps.length := by simpa using hk
    simp only [wipeR]
    walk_at "dl"
    rw [ixL_of (fa _ k hk)]
    walk_at "dl"
    rw [ixL_of (fa _ k hk)]
    walk_at "dl"
    have m := gp_mem hk
    refine ⟨_, _, rfl, sb.wee (List.mem_map.mpr ⟨_, m, rfl⟩), sa.wee (List.mem_map.mpr ⟨_, m, rfl⟩), ?_⟩
    rw [decide_eq_false (by have := mono _ m; grind)]
    walk_at "dl"
    exact hV _ rfl
  intro ys hy hP
  have e : ys = [] := by
    cases ys with
    | nil => rfl
    | cons y _ => exact (hP y List.mem_cons_self).elim
  subst e
  walk_at "dl"
  cases ea : priceO ps (a : Rat) with
  | none =>
    simp only [frO]
    walk_at "dl"
    exact h
  | some x =>
    simp only [frO]
    rw [frR_eq x]
    walk_at "dl"
    cases eb : priceO ps (b : Rat) with
    | none =>
      simp only [frO]
      walk_at "dl"
      exact h
    | some y =>
      simp only [frO]
      rw [frR_eq y]
      walk_at "dl"
      have hxy := price_mono hp (ri.mpr hab) ea eb
      refine ⟨y, x, rfl, bnW (price_bn hp (by omega) (int_bn b0 b1) eb), bnW (price_bn hp (by omega) (int_bn a0 a1) ea), ?_⟩
      rw [decide_eq_false (by grind)]
      exact h
end
end K20
end
section
set_option Elab.async false
set_option linter.all false
set_option maxRecDepth 100000
set_option maxHeartbeats 1000000
set_option exponentiation.threshold 20000
namespace K20
open PySem PySem.Spec L2 DL
local macro_rules | `(tactic| walk_at "dl") => `(tactic| try simp only [dSeq, dIfS, dRet, dRetN, dRetV, dAsg, dExpr, dNever, dNext, dVar, dC, dBin, dUn, dTest, dNot, dAnd, dOr, dAndV, dOrV, dNotV, dIf, dCall, dCons, dNil, dBreak, rdVar_d, rdVar_lst, rdVar_ins, rtVar_d, rtVar_lst, toD_d, toD_lst, toD_ins, toDo_lst, asBl_bl, asInt_int, asLst_lst, wTup_eq, wLst_eq, startR, List.map, List.length, List.getElem?_cons_zero, List.getElem?_cons_succ, List.set_cons_zero, List.set_cons_succ, List.replicate, List.cons_append, List.nil_append, List.append_nil, wIsT, D.kd, kit_ii, kit_ib, kit_bi, kit_bb, kit_ll, kit_tt, kit_ss, kit_nl, kit_ni, kit_it, kit_nt, dZip, dPar3, dUnl2, eqE, neE, wTuple, wSorted, Nat.reduceAdd, Nat.reduceSub, Nat.reduceLeDiff, Bool.not_true, Bool.not_false, true_and, and_true, addD_int, addD_lst, mulD_int, mulD_lst, int0_int, intD_int, negD_int, ixT0, ixT1, ixT2, ixT3, lenD_lst, isND_non, notND_non, isNon_non, isNon_int, isNon_bl, isNon_tup, isNon_lst, isNon_ins, dChain, dWhile, dPar, eqD, neD, pl_int, pl_non, pl_bl, eqv_int, dFor, bindPat, bindPats, dItL, dItT, dItS, dRng1, dRng2, dEnum, dLenV, dIxV, dApp, dSetIx, dInsert, atOwn_zero, atOwn_succ, atD_zero, atD_succ, atDt_zero, atDt_succ, atSlf_zero, dRev, dSl, dPart0, dPart, dOrT, dAsgP, dComp, dAug, dRetP, retP_lst, startI, asIns_ins, slfEnd_eq, dSelf, dFld, dMeth, dMake, wIsC, wSum,  dUnpackP, dInDt, dPutDt, dDictT, wInt1_int, wInt1_bl, wAbs_int, wMax2_int, wMin2_int, wList_lst, wLen_lst, wLen_str, bagAt0, dBag, dPick, dAugBag, dSetBag])
local macro_rules | `(tactic| walk_at "br") => `(tactic| (split <;> rename_i hb <;> (first | replace hb := of_decide_eq_true hb | replace hb := of_decide_eq_false hb | skip)))
theorem rs_repl (z : Rat) : ∀ n : Nat, rs (List.replicate n z) = (n : Rat) * z
  | 0 => by simp only [List.replicate, rs]; grind
  | n + 1 => by
    simp only [List.replicate, rs, rs_repl z n]
    push_cast
    grind
theorem eI_R (q : Pt) : endR q false = (eI q : Rat) := by unfold endR; rw [eI_end]
theorem run_fl {q : Pt} (ok : OkP q) {n : Nat} {sp : Int} (hle : (n : Int) * eI q ≤ sp) : (List.replicate n q).map (fl (List.replicate n q) (sp : Rat)) = List.replicate n (inR q sp n) := by
  rw [List.map_replicate]
  by_cases n0 : 0 < n
  · congr 1
    have h := run_size ok (space := (sp : Rat)) n0 (by
      rw [eI_R]
      have := ri.mpr hle
      rw [Rat.intCast_mul] at this
      exact this)
    rw [h]
    unfold inR
    rw [if_pos ⟨n0, hle⟩]
  · have : n = 0 := by omega
    subst this
    rfl
theorem run_strain {q : Pt} (ok : OkP q) {n : Nat} {sp : Int} (hle : (n : Int) * eI q ≤ sp) (n0 : 0 < n) : strainP q (inR q sp n) = some (strainZ q (inR q sp n)) := by
  have hp : ∀ p ∈ List.replicate n q, OkP p := fun p m => by rw [List.eq_of_mem_replicate m]; exact ok
  have hm : q ∈ List.replicate n q := by simp; omega
  have F := fit_fl hp (sp : Rat)
  have e : fl (List.replicate n q) (sp : Rat) q = inR q sp n := by
    have := run_fl ok hle
    rw [List.map_replicate] at this
    have h2 := congrArg (fun l => l[0]?) this
    simp only [List.getElem?_replicate, if_pos n0, Option.some.injEq] at h2
    exact h2
  rw [← e]
  obtain ⟨t, ht⟩ := strain_ok ok (F.lo q hm) (F.hi q hm)
  unfold strainZ
  rw [ht]
  rfl
theorem cost_same {q : Pt} {n : Nat} {sp : Int} (hle : (n : Int) * eI q ≤ sp) (t : Rat) : costR (sp : Rat) n (blankS q (sp : Rat) n) t = costR (sp : Rat) n (inR q sp n) t := by
  by_cases n0 : 0 < n
  · unfold inR
    rw [if_pos ⟨n0, hle⟩]
  · have : n = 0 := by omega
    subst this
    unfold costR
    grind
theorem cost_bn {q : Pt} (ok : OkP q) {n : Nat} (n8 : n ≤ 8) {sp : Int} (s0 : 0 ≤ sp) (s1 : sp ≤ 1000000000000) (hle : (n : Int) * eI q ≤ sp) : Bn 60 250 (costR (sp : Rat) n (inR q sp n) (strainZ q (inR q sp n))) := by
  have sb := Bn.int (v := 72) (i := sp) (by omega)
  have zb := inR_bn ok (n := n) (by omega) s0 s1
  by_cases n0 : 0 < n
  · have tb := strainZ_bn ok zb (run_strain ok hle n0)
    have nb := bn_nat (n := n) (by omega)
    have nzb := bn_mul nb zb
    have lb := sb.sub nzb
    unfold costR
    exact (((bn_mul nb tb).mono (Nat.le_refl _) (show 10 + 126 ≤ 146 by decide)).add ((bn_mul lb lb).mono (Nat.le_refl _) (by decide))).mono (by decide) (by decide)
  · have : n = 0 := by omega
    subst this
    have e : costR (sp : Rat) 0 (inR q sp 0) (strainZ q (inR q sp 0)) = (sp : Rat) * (sp : Rat) := by unfold costR; grind
    rw [e]
    exact (bn_mul sb sb).mono (by decide) (by decide)
theorem sum_repl (x : Int) : ∀ n : Nat, (List.replicate n x).sum = (n : Int) * x
  | 0 => by simp
  | n + 1 => by
    rw [List.replicate_succ, List.sum_cons, sum_repl x n]
    push_cast
    rw [Int.add_mul]
    omega
/-- a solid in so many and one things -/
def things (s : Int) (n : Nat) : List Int := List.replicate n (s / ((n : Int) + 1)) ++ [s - (n : Int) * (s / ((n : Int) + 1))]
theorem things_len (s : Int) (n : Nat) : (things s n).length = n + 1 := by simp [things]
theorem things_sum (s : Int) (n : Nat) : (things s n).sum = s := by
  unfold things
  rw [List.sum_append, sum_repl]
  simp
  omega
theorem things_bnd {s : Int} (s0 : 0 ≤ s) (s1 : s ≤ 1000000000000) {n : Nat} (n8 : n ≤ 8) : ∀ t ∈ things s n, 0 ≤ t ∧ t ≤ 1000000000000 := by
  intro t m
  have e0 : 0 ≤ s / ((n : Int) + 1) := Int.ediv_nonneg s0 (by omega)
  have e1 : s / ((n : Int) + 1) ≤ s := Int.ediv_le_self _ s0
  have e2 : ((n : Int) + 1) * (s / ((n : Int) + 1)) ≤ s := Int.mul_ediv_self_le (by omega)
  rw [Int.add_mul, Int.one_mul] at e2
  have e3 : 0 ≤ (n : Int) * (s / ((n : Int) + 1)) := Int.mul_nonneg (by omega) e0
  unfold things at m
  rcases List.mem_append.mp m with m | m
  · rw [List.eq_of_mem_replicate m]
    omega
  · simp only [List.mem_singleton] at m
    omega
theorem spots_sh {E : List Int} (hE : ∀ k, (ga E k).natAbs ≤ 2 ^ 1800) {n : Nat} (hn : n ≤ 20) : ∃ k m, k ≤ 60 ∧ m ≤ 8000 ∧ Sh k m (D.lst (spotsD E n)) := by
  refine ⟨2, 60, by decide, by decide, .lst (n := 2) (fun y m => ?_) (by unfold spotsD; simp; omega)⟩
  obtain ⟨k, _, rfl⟩ := List.mem_map.mp m
  refine .tup (n := 0) (fun z hz => ?_) (by simp)
  simp only [List.mem_cons, List.not_mem_nil, or_false] at hz
  rcases hz with rfl | rfl <;> exact sh_int (hE _)
theorem row_edges {z : Rat} (hz : Bn 7 62 z) {ts : List Int} (h : ∀ t ∈ ts, 0 ≤ t ∧ t ≤ 1000000000000) (hl : ts.length ≤ 9) : ∀ k, (ga (0 :: edR 0 (rowR z ts)) k).natAbs ≤ 2 ^ 1800 := by
  have key : ∀ y ∈ (0 :: edR 0 (rowR z ts)), y.natAbs ≤ 2 ^ 206 := by
    intro y m
    rcases List.mem_cons.mp m with rfl | m
    · exact Nat.zero_le _
    refine edR_bnd _ _ (fun dn rest e => ?_) y m
    rw [show (0 : Rat) + rs dn = rs dn by exact Rat.zero_add _]
    have hb := rs_bn (d := 7) (v := 62) (k := 18) (xs := dn) (fun x hx => rowR_bn hz h x (by rw [e]; exact List.mem_append_left _ hx)) (by
      have := congrArg List.length e
      have := rowR_len z ts
      simp at *
      omega)
    exact hb.num
  intro k
  unfold ga
  cases e : (0 :: edR 0 (rowR z ts))[k]? with
  | none => exact Nat.zero_le _
  | some y => exact Nat.le_trans (key y (List.mem_of_getElem? e)) (Nat.pow_le_pow_right (by decide) (by decide))
section
variable {P : Program} {w : World} {K : PySem.W.Frag} {mg : Str → Option Value} {base : Heap} {f : Addr} {fd : FuncData}
def W__law_run_right (M : Md K mg) : ON := fun ds R => ∃ (ps : List Pt) (rm : Int), ds = [.bag, .lst (ps.map (ptD M)), .lst (ps.map endsD), .int rm] ∧ 0 < ps.length ∧ ps.length ≤ 10 ∧ (∀ p ∈ ps, OkP p) ∧ 0 ≤ rm ∧ rm ≤ 1000000000000 ∧ R (.d (.bl true))
/-! _law_run_right -/
theorem sc__law_run_right : FnScope ["bag", "made", "ends", "room", "at", "count", "solid", "blank", "lean", "each", "things", "last", "found", "sizes", "price", "left", "due", "row", "k", "lines", "spots"] ["bag", "made", "ends", "room"] (defScope s79) := ⟨rfl, rfl, rfl, by decide +kernel, rfl, by decide +kernel, by decide +kernel⟩
abbrev dd__law_run_right : List D := []
abbrev lv__law_run_right : Nat := 8
theorem def__law_run_right (M : Md K mg) (Dd : FunD K "_law_run_right" "_law_run_right" (defArgs s79) (defBody s79) (defScope s79) [] [] f fd) (hm : mg "_law_run_right" = some (.ref f)) (G__law_alike : Def P w K mg base 1 "_law_alike" dd__law_alike (W__law_alike M)) (G_spread : Def P w K mg base 5 "spread" dd_spread (W_spread M)) (G_edges_of : Def P w K mg base 4 "edges_of" dd_edges_of (W_edges_of M)) (G_cost_of : Def P w K mg base 6 "cost_of" dd_cost_of (W_cost_of M)) (G__law_plus : Def P w K mg base 2 "_law_plus" dd__law_plus (W__law_plus M)) (G__law_frac : Def P w K mg base 1 "_law_frac" dd__law_frac (W__law_frac M)) (G_strain : Def P w K mg base 5 "strain" dd_strain (W_strain M)) (G_share : Def P w K mg base 7 "share" dd_share (W_share M)) (G__law_end : Def P w K mg base 1 "_law_end" dd__law_end (W__law_end M)) (G__law_take : Def P w K mg base 1 "_law_take" dd__law_take (W__law_take M)) : Def P w K mg base 8 "_law_run_right" dd__law_run_right (W__law_run_right M) := by
  refine Def.of hm Dd.kp (okG (k := 7) Dd sc__law_run_right (fun ds R h => by unfold W__law_run_right at h; obtain ⟨_, h⟩ := h; obtain ⟨_, h⟩ := h; obtain ⟨rfl, _⟩ := h; rfl) (fun cdv A outer s H hr hG => ⟨_, (dss_cons (ds_par3 rfl sc__law_run_right.nd (da_cons (de_call (G__law_take.mono (by decide)) hr hG (da_cons (de_tVar (pv 0)) (da_cons (de_callB cr_len cd_len rfl M.b_len PySem.boot_len (da_cons (de_tVar (pv 1)) da_nil)) da_nil))) (da_cons (de_call (G__law_take.mono (by decide)) hr hG (da_cons (de_tVar (pv 0)) (da_cons de_int da_nil))) (da_cons (de_call (G__law_take.mono (by decide)) hr hG (da_cons (de_tVar (pv 0)) (da_cons (de_bin op_addA od_add (de_tVar (pv 3)) de_int) da_nil))) da_nil))) (i := 4) (j := 5) (l := 6) (by decide) (by decide) (by decide)) (dss_cons (ds_par (i := 7) (j := 8) rfl sc__law_run_right.nd (de_ix (de_tVar (pv 1)) (de_tVar (pv 4))) (de_call (G__law_end.mono (by decide)) hr hG (da_cons (de_ix (de_tVar (pv 2)) (de_tVar (pv 4))) (da_cons de_bl da_nil))) (by decide)) (dss_cons (ds_set (i := 9) sc__law_run_right.nd (de_bin op_fdivW od_fdiv (de_tVar (pv 6)) (de_bin op_addA od_add (de_tVar (pv 5)) de_int))) (dss_cons (ds_set (i := 10) sc__law_run_right.nd (de_bin op_addA od_add (de_bin op_mulA od_mul (de_lst (da_cons (de_tVar (pv 9)) da_nil)) (de_tVar (pv 5))) (de_lst (da_cons (de_bin op_sub od_sub (de_tVar (pv 6)) (de_bin op_mulA od_mul (de_tVar (pv 5)) (de_tVar (pv 9)))) da_nil)))) (dss_cons (ds_set (i := 11) sc__law_run_right.nd (de_cmp op_le od_le (de_bin op_addA od_add (de_tVar (pv 6)) (de_bin op_mulA od_mul (de_tVar (pv 5)) (de_ix (de_ix (de_tVar (pv 2)) (de_tVar (pv 4))) de_int))) (de_tVar (pv 3)) (nomark _))) (dss_cons (ds_set (i := 12) sc__law_run_right.nd (de_call (G_cost_of.mono (by decide)) hr hG (da_cons (de_tVar (pv 6)) (da_cons (de_tVar (pv 5)) (da_cons (de_tVar (pv 7)) (da_cons (de_tVar (pv 3)) (da_cons de_bl (da_cons de_bl da_nil)))))))) (dss_cons (ds_if (PW.pt (dw_and (dt_val (de_tVar (pv 11))) (dw_and1 (dt_not (dt_val (de_call (G__law_alike.mono (by decide)) hr hG (da_cons (de_tVar (pv 12)) (da_cons (de_tup (da_cons de_int (da_cons de_int da_nil))) da_nil)))))))) (dss_cons (ds_ret de_bl) dss_nil) dss_nil) (dss_cons (ds_if (dt_cmp op_gt od_gt (de_bin op_addA od_add (de_tVar (pv 6)) (de_bin op_mulA od_mul (de_tVar (pv 5)) (de_tVar (pv 8)))) (de_tVar (pv 3)) (nomark _)) (dss_cons (ds_ret (de_or (de_tVar (pv 11)) (de_one (de_cmp op_isNA od_isN (de_tVar (pv 12)) de_non (nomark _))))) dss_nil) dss_nil) (dss_cons (ds_asgP (de_call (G_share.mono (by decide)) hr hG (da_cons (de_bin op_mulA od_mul (de_lst (da_cons (de_tVar (pv 7)) da_nil)) (de_tVar (pv 5))) (da_cons (de_tup (da_cons (de_bin op_sub od_sub (de_tVar (pv 3)) (de_tVar (pv 6))) (da_cons de_int da_nil))) da_nil))) (dg_tp rfl (dgs_cons (dg_nm (i := 13) sc__law_run_right.nd) (dgs_cons (dg_nm (i := 14) sc__law_run_right.nd) (dgs_cons (dg_nm (i := 15) sc__law_run_right.nd) dgs_nil))))) (dss_cons (ds_set (i := 16) sc__law_run_right.nd (de_call (G__law_plus.mono (by decide)) hr hG (da_cons (de_call (G_strain.mono (by decide)) hr hG (da_cons (de_bin op_mulA od_mul (de_lst (da_cons (de_tVar (pv 7)) da_nil)) (de_tVar (pv 5))) (da_cons (de_tVar (pv 13)) da_nil))) (da_cons (de_call (G__law_frac.mono (by decide)) hr hG (da_cons (de_bin op_mulA od_mul (de_ix (de_tVar (pv 15)) de_int) (de_ix (de_tVar (pv 15)) de_int)) (da_cons (de_bin op_mulA od_mul (de_ix (de_tVar (pv 15)) de_int) (de_ix (de_tVar (pv 15)) de_int)) da_nil))) da_nil)))) (dss_cons (ds_if (dt_not (dt_val (de_call (G__law_alike.mono (by decide)) hr hG (da_cons (de_call (G_cost_of.mono (by decide)) hr hG (da_cons (de_tVar (pv 6)) (da_cons (de_tVar (pv 5)) (da_cons (de_tVar (pv 7)) (da_cons (de_tVar (pv 3)) (da_cons de_bl (da_cons de_bl da_nil))))))) (da_cons (de_tVar (pv 16)) da_nil))))) (dss_cons (ds_ret de_bl) dss_nil) dss_nil) (dss_cons (ds_set (i := 17) sc__law_run_right.nd (de_lst (da_cons (de_tup (da_cons (de_ix (de_tVar (pv 10)) de_int) (da_cons de_int da_nil))) da_nil))) (dss_cons (ds_for PassesOwn.never rfl (di_rng1 M.b_range (de_tVar (pv 5))) (dg_nm (i := 18) sc__law_run_right.nd) (dss_cons (ds_set (i := 17) sc__law_run_right.nd (de_bin op_addA od_add (de_tVar (pv 17)) (de_lst (da_cons (de_ix (de_tVar (pv 13)) (de_tVar (pv 18))) (da_cons (de_tup (da_cons (de_ix (de_tVar (pv 10)) (de_bin op_addA od_add (de_tVar (pv 18)) de_int)) (da_cons de_int da_nil))) da_nil))))) dss_nil)) (dss_cons (ds_set (i := 19) sc__law_run_right.nd (de_call (G_edges_of.mono (by decide)) hr hG (da_cons (de_tVar (pv 17)) da_nil))) (dss_cons (ds_setLc (i := 20) (own := [("k", 18)]) rfl sc__law_run_right.nd rfl (sw_true rfl rfl rfl (by decide +kernel)) (di_rng1 M.b_range (de_bin op_addA od_add (de_tVar (pv 5)) de_int)) (blkOk_by (N := ["bag", "made", "ends", "room", "at", "count", "solid", "blank", "lean", "each", "things", "last", "found", "sizes", "price", "left", "due", "row", "k", "lines", "spots"]) (sc := defScope s79) (by decide +kernel)) (fun _ _ _ _ _ => (dg_nm (i := 18) sc__law_run_right.nd)) (fun _ _ _ _ _ => dts_nil) (fun _ _ _ _ _ => (de_tup (da_cons (de_ix (de_tVar (pv 19)) (de_bin op_mulA od_mul de_int (de_tVar (pv 18)))) (da_cons (de_ix (de_tVar (pv 19)) (de_bin op_addA od_add (de_bin op_mulA od_mul de_int (de_tVar (pv 18))) de_int)) da_nil))))) (dss_cons (ds_ret (de_call (G__law_alike.mono (by decide)) hr hG (da_cons (de_call (G_spread.mono (by decide)) hr hG (da_cons (de_tVar (pv 10)) (da_cons (de_tVar (pv 7)) (da_cons (de_tVar (pv 3)) (da_cons de_bl da_nil))))) (da_cons (de_tVar (pv 20)) da_nil)))) dss_nil)))))))))))))))), fun ds R h => ?_⟩)) (nods (Dd.bindsN fun _ _ _ _ _ _ us hl => match us, hl with | [_, _, _, _], _ => rfl)) fun _ => DpL.nil
  unfold W__law_run_right at h
  obtain ⟨ps, rm, rfl, hl0, hl, hp, r0, r1, h⟩ := h
  walk_at "dl"
  refine draw (by simp; omega) (by simp; omega) fun a a0 a1 => ?_
  obtain ⟨a, rfl⟩ := Int.eq_ofNat_of_zero_le a0
  have al : a < ps.length := by simp at a1; omega
  walk_at "dl"
  refine draw (by decide) (by decide) fun n n0 n1 => ?_
  obtain ⟨n, rfl⟩ := Int.eq_ofNat_of_zero_le n0
  have n8 : n ≤ 8 := by omega
  walk_at "dl"
  refine draw (by omega) (by omega) fun s s0 s1 => ?_
  have hm := gp_mem al
  have ok := hp _ hm
  have at1 := gp_at al (ptD M)
  have at2 := gp_at al endsD
  generalize gp ps a = q at *
  have eb := eI_bnd ok
  have qb := ok.b1
  have q0 := ok.l0
  have ql := ok.lb
  refine ⟨_, _, _, rfl, ?_⟩
  walk_at "dl"
  rw [ixL_of at1]
  walk_at "dl"
  rw [ixL_of at2]
  walk_at "dl"
  refine ⟨q, false, rfl, ok, ?_⟩
  rw [eI_end]
  simp only [optD]
  -- MARK
  walk_at "dl"
  have hn9 : (n : Int) + 1 < 2 ^ 8000 := by
    have := nat_8000 (n := n + 1) (by omega)
    push_cast at this
    exact this
  have e0 : 0 ≤ s / ((n : Int) + 1) := Int.ediv_nonneg s0 (by omega)
  have e1 : s / ((n : Int) + 1) ≤ s := Int.ediv_le_self _ s0
  refine ⟨div_ok (by omega) (Int.le_refl _) hn9, by omega, by omega, by simp; omega, mulS (by omega) (by omega), by simp; omega, ?_⟩
  rw [show ((n : Int)).toNat = n from rfl, flat_rep]
  have eth : List.replicate n (D.int (s / ((n : Int) + 1))) ++ [D.int (s - (n : Int) * (s / ((n : Int) + 1)))] = (things s n).map D.int := by
    unfold things
    rw [List.map_append, List.map_replicate]
    rfl
  rw [eth, ixL_of at2]
  rw [endsD_eq]
  walk_at "dl"
  have sp0 : 0 ≤ rm - s := by omega
  have sp1 : rm - s ≤ 1000000000000 := by omega
  have hle : s + n * eI q ≤ rm → (n : Int) * eI q ≤ rm - s := fun z => by omega
  refine ⟨mulS (by omega) (by omega), s, rm, n, q, true, false, strainZ q (inR q (rm - s) n), rfl, by omega, s0, by omega, r1, ok, fun hn => ?_, fun _ hla => ?_, fun hla hlean => ?_, fun hla hlean => ⟨rfl, ?_⟩⟩
  · by_cases z : s + n * eI q ≤ rm
    · left
      have e := run_strain ok (hle z) hn
      unfold inR at e ⊢
      rw [if_pos ⟨hn, hle z⟩] at e ⊢
      exact e
    · exact .inr (by omega)
  · have hlean : s + n * eI q ≤ rm := by
      have : eI q ≤ q.b := by unfold eI; split <;> omega
      have : (n : Int) * eI q ≤ n * q.b := Int.mul_le_mul_of_nonneg_left this (by omega)
      omega
    walk_at "dl"
    rw [decide_eq_true hla]
    walk_at "dl"
    refine alike rfl ⟨1, 2, by decide, by decide, sh_frR (d := 0) (v := 0) (x := 0) (Bn.int (i := 0) (by decide)) (by decide)⟩ ?_
    walk_at "dl"
    refine ⟨mulS (by omega) (by omega), ?_⟩
    rw [decide_eq_false (show ¬ rm < s + n * eI q by omega)]
    walk_at "dl"
    have hle := hle hlean
    have rep : ∀ p ∈ List.replicate n q, OkP p := fun p m => by rw [List.eq_of_mem_replicate m]; exact ok
    have hrl : (List.replicate n q).length ≤ 10 := by simp; omega
    have rfl' := run_fl ok hle
    have zb := inR_bn ok (n := n) (by omega) sp0 sp1
    have cb := cost_bn ok n8 sp0 sp1 hle
    have hst := run_strain ok hle
    have hcs := cost_same hle (strainZ q (inR q (rm - s) n))
    have hsp : ∀ R : RD → Prop, R (.o (.lst (spotsD (0 :: edR 0 (rowR (inR q (rm - s) n) (things s n))) (n + 1)))) → W_spread M [.lst ((things s n).map D.int), ptD M q, .int rm, .bl false] R := fun R hR => by
      refine ⟨things s n, q, rm, rfl, by intro e; have := congrArg List.length e; rw [things_len] at this; simp at this, by rw [things_len]; omega, things_bnd s0 (by omega) n8, by rw [things_sum]; exact sp0, by rw [things_sum]; exact sp1, ok, ?_⟩
      rw [things_sum, things_len]
      exact hR
    generalize hzz : inR q (rm - s) n = z at *
    refine ⟨by omega, by omega, by simp; omega, ?_⟩
    rw [show ((n : Int)).toNat = n from rfl, flat_rep]
    refine ⟨List.replicate n q, ((rm - s : Int) : Rat), 0, by rw [List.map_replicate]; rfl, hrl, rep, int_bn sp0 sp1, by decide, ratnn sp0, ?_⟩
    unfold shD
    rw [rfl', rs_repl]
    walk_at "dl"
    refine ⟨by omega, by omega, by simp; omega, ?_⟩
    have tb : 0 < n → Bn 24 126 (strainZ q z) := fun n0 => strainZ_bn ok zb (hst n0)
    have ntb : Bn 24 140 ((n : Rat) * strainZ q z) := by
      by_cases n0 : 0 < n
      · exact (bn_mul (bn_nat (n := n) (by omega)) (tb n0)).mono (by omega) (by omega)
      · have : n = 0 := by omega
        rw [this, show ((0 : Nat) : Rat) * strainZ q z = ((0 : Int) : Rat) by show (0 : Rat) * _ = 0; exact Rat.zero_mul _]
        exact (Bn.int (v := 0) (i := 0) (by decide)).mono (by omega) (by omega)
    have lb := ((Bn.int (v := 72) (i := rm - s) (by omega)).sub (bn_mul (bn_nat (n := n) (by omega)) zb))
    refine ⟨List.replicate n q, fun _ => z, fun _ => strainZ q z, 7, by simp only [List.map_replicate], rep, fun p m => ?_, by decide, ⟨24, 126, 10, by simp; omega, fun x m => ?_, by decide, by decide, by decide⟩, ?_⟩
    · have n0 : 0 < n := by cases n with | zero => cases m | succ n => omega
      rw [List.eq_of_mem_replicate m]
      exact ⟨zb, hst n0⟩
    · rw [List.map_replicate] at m
      have n0 : 0 < n := by cases n with | zero => cases m | succ n => omega
      rw [List.eq_of_mem_replicate m]
      exact tb n0
    rw [show rs ((List.replicate n q).map fun _ => strainZ q z) = (n : Rat) * strainZ q z by rw [List.map_replicate, rs_repl]]
    have clf : ((rm - s : Int) : Rat) - (n : Rat) * z = ((rm - s : Int) : Rat) - (n : Rat) * z := rfl
    have ceq : (n : Rat) * strainZ q z + (((rm - s : Int) : Rat) - (n : Rat) * z) * (((rm - s : Int) : Rat) - (n : Rat) * z) = costR ((rm - s : Int) : Rat) n z (strainZ q z) := rfl
    generalize hlf : ((rm - s : Int) : Rat) - (n : Rat) * z = left at lb ceq ⊢
    rw [frR_eq left]
    walk_at "dl"
    have wl := bnW lb
    refine ⟨mul_ok wl.n wl.n, mul_ok wl.d wl.d, _, _, rfl, Int.mul_pos (den_pos left) (den_pos left), wee.dd wl wl, ?_⟩
    rw [times_rat]
    walk_at "dl"
    refine ⟨_, _, rfl, bnW ntb, bnW (bn_mul lb lb), ?_⟩
    rw [ceq]
    walk_at "dl"
    refine ⟨s, rm, n, q, false, true, strainZ q z, rfl, by omega, s0, by omega, r1, ok, fun hn => .inl ?_, (fun z => nomatch z), fun _ _ => ?_, fun _ z => by omega⟩
    · have e := hst hn
      unfold inR at hzz
      rw [if_pos ⟨hn, hle⟩] at hzz
      rw [hzz]
      exact e
    rw [hcs]
    walk_at "dl"
    refine alike rfl ⟨1, 2, by decide, by decide, sh_frR cb (by decide)⟩ ?_
    walk_at "dl"
    have tl := things_len s n
    have th0 := ga_at (vs := things s n) (i := 0) (by omega)
    rw [ixL_of (z := (0 : Int)) th0]
    walk_at "dl"
    refine ⟨by omega, by omega, ?_⟩
    rw [show ((n : Int)).toNat = n from rfl]
    have er : [D.tup [D.int (ga (things s n) 0), D.int 1]] = (rowR z ((things s n).take (0 + 1))).map frR := by
      rw [take_snoc (ts := things s n) (k := 0) (by omega)]
      rfl
    rw [er]
    refine forD_ind (fun ds ρ => ∃ (k m : Nat) (x1 x2 x4 x6 x8 x9 x11 x12 x14 x15 x16 x18 x19 x20 : Option RD), ds = rngD (k : Int) m ∧ k + m = n ∧ (x18 = none ∨ ∃ y, x18 = some (.d y)) ∧ ρ = [some (.d .bag), x1, x2, some (.d (.int rm)), x4, some (.d (.int n)), x6, some (.d (ptD M q)), x8, x9, some (.d (.lst ((things s n).map D.int))), x11, x12, some (.d (.lst ((List.replicate n z).map frR))), x14, x15, x16, some (.o (.lst ((rowR z ((things s n).take (k + 1))).map frR))), x18, x19, x20]) ?_ ?_ ⟨0, n, _, _, _, _, _, _, _, _, _, _, _, none, _, _, rfl, by omega, .inl rfl, rfl⟩
    · rintro ρ ⟨k, m, x1, x2, x4, x6, x8, x9, x11, x12, x14, x15, x16, x18, x19, x20, f1, f2, f3, rfl⟩
      have m0 := rngD_snoc_nil f1.symm
      subst m0
      have kn : k = n := by omega
      subst kn
      rw [List.take_of_length_le (by omega)]
      have tb9 := things_bnd s0 (show s ≤ 1000000000000 by omega) n8
      walk_at "dl"
      refine ⟨_, rfl, rowR_sm zb tb9 (by omega), ?_⟩
      have hE : (0 :: edR 0 (rowR z (things s k))).length = 2 * (k + 1) := by
        have := rowR_len2 z (ts := things s k) (by intro e; rw [e] at tl; simp at tl)
        simp only [List.length_cons, edR_len]
        omega
      have hEb := row_edges zb tb9 (by omega)
      generalize (0 :: edR 0 (rowR z (things s k))) = E at *
      walk_at "dl"
      refine ⟨by omega, by omega, ?_⟩
      rw [show ((k : Int) + 1).toNat = k + 1 by omega, rngD0]
      refine comp_mapAJ (fun i : Nat => D.int (i : Int)) (fun k => D.tup [.int (ga E (2 * k)), .int (ga E (2 * k + 1))]) (fun ρ => ∃ e : RD, (e = .o (.lst (E.map D.int)) ∨ e = .d (.lst (E.map D.int))) ∧ ρ = [some (.d .bag), x1, x2, some (.d (.int rm)), x4, some (.d (.int k)), x6, some (.d (ptD M q)), x8, x9, some (.d (.lst ((things s k).map D.int))), x11, x12, some (.d (.lst ((List.replicate k z).map frR))), x14, x15, x16, some (.d (.lst ((rowR z (things s k)).map frR))), x18, some e, x20]) ?_ _ _ _ ⟨_, .inl rfl, rfl⟩ (by simp; omega) ?_ ?_
      · rintro ρ ⟨e, he, rfl⟩
        rcases f3 with rfl | ⟨y, rfl⟩ <;> exact ⟨trivial, trivial⟩
      · rintro j hj ρ ⟨e, he, rfl⟩ U hU
        have hj : j < k + 1 := by simpa using hj
        have a1 := ga_at (vs := E) (i := 2 * j) (by omega)
        have a2 := ga_at (vs := E) (i := 2 * j + 1) (by omega)
        rw [show (((2 * j : Nat) : Int)) = 2 * (j : Int) by push_cast; rfl] at a1
        rw [show (((2 * j + 1 : Nat) : Int)) = 2 * (j : Int) + 1 by push_cast; rfl] at a2
        rcases he with rfl | rfl
        all_goals
          simp only [wipeR]
          walk_at "dl"
          refine ⟨mulS (by decide) (by omega), ?_⟩
          try simp only [ixL_of a1, ixL_of a2]
          walk_at "dl"
          refine ⟨mulS (by decide) (by omega), ?_⟩
          try simp only [ixL_of a1, ixL_of a2]
          walk_at "dl"
          exact hU _ _ rfl ⟨_, .inr rfl, rfl⟩
      · rintro ρ ⟨e, he, rfl⟩
        walk_at "dl"
        refine hsp _ ?_
        walk_at "dl"
        exact alike rfl (spots_sh hEb (by omega)) h
    · rintro d ds ρ U ⟨k, m, x1, x2, x4, x6, x8, x9, x11, x12, x14, x15, x16, x18, x19, x20, f1, f2, f3, rfl⟩ hU
      cases m with
      | zero => cases f1
      | succ m =>
        cases f1
        have hk : k + 1 < (things s n).length := by omega
        have a1 := ga_at (vs := things s n) (i := k + 1) hk
        rw [show (((k + 1 : Nat) : Int)) = (k : Int) + 1 by push_cast; rfl] at a1
        have a2 : atI ((List.replicate n z).map frR) (k : Int) = some (frR z) := by
          refine L2.atI_nat ?_
          rw [List.getElem?_map, List.getElem?_replicate, if_pos (by omega)]
          rfl
        have tk := take_snoc hk
        have hrl2 := rowR_len z ((things s n).take (k + 1))
        rw [List.length_take] at hrl2
        walk_at "dl"
        rw [ixL_of a2]
        walk_at "dl"
        rw [ixL_of a1]
        walk_at "dl"
        have er2 : (rowR z ((things s n).take (k + 1))).map frR ++ [frR z, D.tup [.int (ga (things s n) (k + 1)), .int 1]] = (rowR z ((things s n).take (k + 1 + 1))).map frR := by
          rw [tk, rowR_snoc z (by
            intro q
            have := congrArg List.length q
            rw [List.length_take, List.length_nil] at this
            omega), List.map_append]
          rfl
        rw [er2]
        refine ⟨by simp; omega, hU _ ⟨k + 1, m, _, _, _, _, _, _, _, _, _, _, _, some (.d (.int k)), _, _, by push_cast; rfl, by omega, .inr ⟨_, rfl⟩, rfl⟩⟩
  · have hla : ¬ s + n * q.b ≤ rm := fun z => hla ⟨rfl, z⟩
    walk_at "dl"
    rw [decide_eq_false hla]
    walk_at "dl"
    refine ⟨mulS (by omega) (by omega), ?_⟩
    rw [decide_eq_false (show ¬ rm < s + n * eI q by omega)]
    walk_at "dl"
    have hle := hle hlean
    have rep : ∀ p ∈ List.replicate n q, OkP p := fun p m => by rw [List.eq_of_mem_replicate m]; exact ok
    have hrl : (List.replicate n q).length ≤ 10 := by simp; omega
    have rfl' := run_fl ok hle
    have zb := inR_bn ok (n := n) (by omega) sp0 sp1
    have cb := cost_bn ok n8 sp0 sp1 hle
    have hst := run_strain ok hle
    have hcs := cost_same hle (strainZ q (inR q (rm - s) n))
    have hsp : ∀ R : RD → Prop, R (.o (.lst (spotsD (0 :: edR 0 (rowR (inR q (rm - s) n) (things s n))) (n + 1)))) → W_spread M [.lst ((things s n).map D.int), ptD M q, .int rm, .bl false] R := fun R hR => by
      refine ⟨things s n, q, rm, rfl, by intro e; have := congrArg List.length e; rw [things_len] at this; simp at this, by rw [things_len]; omega, things_bnd s0 (by omega) n8, by rw [things_sum]; exact sp0, by rw [things_sum]; exact sp1, ok, ?_⟩
      rw [things_sum, things_len]
      exact hR
    generalize hzz : inR q (rm - s) n = z at *
    refine ⟨by omega, by omega, by simp; omega, ?_⟩
    rw [show ((n : Int)).toNat = n from rfl, flat_rep]
    refine ⟨List.replicate n q, ((rm - s : Int) : Rat), 0, by rw [List.map_replicate]; rfl, hrl, rep, int_bn sp0 sp1, by decide, ratnn sp0, ?_⟩
    unfold shD
    rw [rfl', rs_repl]
    walk_at "dl"
    refine ⟨by omega, by omega, by simp; omega, ?_⟩
    have tb : 0 < n → Bn 24 126 (strainZ q z) := fun n0 => strainZ_bn ok zb (hst n0)
    have ntb : Bn 24 140 ((n : Rat) * strainZ q z) := by
      by_cases n0 : 0 < n
      · exact (bn_mul (bn_nat (n := n) (by omega)) (tb n0)).mono (by omega) (by omega)
      · have : n = 0 := by omega
        rw [this, show ((0 : Nat) : Rat) * strainZ q z = ((0 : Int) : Rat) by show (0 : Rat) * _ = 0; exact Rat.zero_mul _]
        exact (Bn.int (v := 0) (i := 0) (by decide)).mono (by omega) (by omega)
    have lb := ((Bn.int (v := 72) (i := rm - s) (by omega)).sub (bn_mul (bn_nat (n := n) (by omega)) zb))
    refine ⟨List.replicate n q, fun _ => z, fun _ => strainZ q z, 7, by simp only [List.map_replicate], rep, fun p m => ?_, by decide, ⟨24, 126, 10, by simp; omega, fun x m => ?_, by decide, by decide, by decide⟩, ?_⟩
    · have n0 : 0 < n := by cases n with | zero => cases m | succ n => omega
      rw [List.eq_of_mem_replicate m]
      exact ⟨zb, hst n0⟩
    · rw [List.map_replicate] at m
      have n0 : 0 < n := by cases n with | zero => cases m | succ n => omega
      rw [List.eq_of_mem_replicate m]
      exact tb n0
    rw [show rs ((List.replicate n q).map fun _ => strainZ q z) = (n : Rat) * strainZ q z by rw [List.map_replicate, rs_repl]]
    have clf : ((rm - s : Int) : Rat) - (n : Rat) * z = ((rm - s : Int) : Rat) - (n : Rat) * z := rfl
    have ceq : (n : Rat) * strainZ q z + (((rm - s : Int) : Rat) - (n : Rat) * z) * (((rm - s : Int) : Rat) - (n : Rat) * z) = costR ((rm - s : Int) : Rat) n z (strainZ q z) := rfl
    generalize hlf : ((rm - s : Int) : Rat) - (n : Rat) * z = left at lb ceq ⊢
    rw [frR_eq left]
    walk_at "dl"
    have wl := bnW lb
    refine ⟨mul_ok wl.n wl.n, mul_ok wl.d wl.d, _, _, rfl, Int.mul_pos (den_pos left) (den_pos left), wee.dd wl wl, ?_⟩
    rw [times_rat]
    walk_at "dl"
    refine ⟨_, _, rfl, bnW ntb, bnW (bn_mul lb lb), ?_⟩
    rw [ceq]
    walk_at "dl"
    refine ⟨s, rm, n, q, false, true, strainZ q z, rfl, by omega, s0, by omega, r1, ok, fun hn => .inl ?_, (fun z => nomatch z), fun _ _ => ?_, fun _ z => by omega⟩
    · have e := hst hn
      unfold inR at hzz
      rw [if_pos ⟨hn, hle⟩] at hzz
      rw [hzz]
      exact e
    rw [hcs]
    walk_at "dl"
    refine alike rfl ⟨1, 2, by decide, by decide, sh_frR cb (by decide)⟩ ?_
    walk_at "dl"
    have tl := things_len s n
    have th0 := ga_at (vs := things s n) (i := 0) (by omega)
    rw [ixL_of (z := (0 : Int)) th0]
    walk_at "dl"
    refine ⟨by omega, by omega, ?_⟩
    rw [show ((n : Int)).toNat = n from rfl]
    have er : [D.tup [D.int (ga (things s n) 0), D.int 1]] = (rowR z ((things s n).take (0 + 1))).map frR := by
      rw [take_snoc (ts := things s n) (k := 0) (by omega)]
      rfl
    rw [er]
    refine forD_ind (fun ds ρ => ∃ (k m : Nat) (x1 x2 x4 x6 x8 x9 x11 x12 x14 x15 x16 x18 x19 x20 : Option RD), ds = rngD (k : Int) m ∧ k + m = n ∧ (x18 = none ∨ ∃ y, x18 = some (.d y)) ∧ ρ = [some (.d .bag), x1, x2, some (.d (.int rm)), x4, some (.d (.int n)), x6, some (.d (ptD M q)), x8, x9, some (.d (.lst ((things s n).map D.int))), x11, x12, some (.d (.lst ((List.replicate n z).map frR))), x14, x15, x16, some (.o (.lst ((rowR z ((things s n).take (k + 1))).map frR))), x18, x19, x20]) ?_ ?_ ⟨0, n, _, _, _, _, _, _, _, _, _, _, _, none, _, _, rfl, by omega, .inl rfl, rfl⟩
    · rintro ρ ⟨k, m, x1, x2, x4, x6, x8, x9, x11, x12, x14, x15, x16, x18, x19, x20, f1, f2, f3, rfl⟩
      have m0 := rngD_snoc_nil f1.symm
      subst m0
      have kn : k = n := by omega
      subst kn
      rw [List.take_of_length_le (by omega)]
      have tb9 := things_bnd s0 (show s ≤ 1000000000000 by omega) n8
      walk_at "dl"
      refine ⟨_, rfl, rowR_sm zb tb9 (by omega), ?_⟩
      have hE : (0 :: edR 0 (rowR z (things s k))).length = 2 * (k + 1) := by
        have := rowR_len2 z (ts := things s k) (by intro e; rw [e] at tl; simp at tl)
        simp only [List.length_cons, edR_len]
        omega
      have hEb := row_edges zb tb9 (by omega)
      generalize (0 :: edR 0 (rowR z (things s k))) = E at *
      walk_at "dl"
      refine ⟨by omega, by omega, ?_⟩
      rw [show ((k : Int) + 1).toNat = k + 1 by omega, rngD0]
      refine comp_mapAJ (fun i : Nat => D.int (i : Int)) (fun k => D.tup [.int (ga E (2 * k)), .int (ga E (2 * k + 1))]) (fun ρ => ∃ e : RD, (e = .o (.lst (E.map D.int)) ∨ e = .d (.lst (E.map D.int))) ∧ ρ = [some (.d .bag), x1, x2, some (.d (.int rm)), x4, some (.d (.int k)), x6, some (.d (ptD M q)), x8, x9, some (.d (.lst ((things s k).map D.int))), x11, x12, some (.d (.lst ((List.replicate k z).map frR))), x14, x15, x16, some (.d (.lst ((rowR z (things s k)).map frR))), x18, some e, x20]) ?_ _ _ _ ⟨_, .inl rfl, rfl⟩ (by simp; omega) ?_ ?_
      · rintro ρ ⟨e, he, rfl⟩
        rcases f3 with rfl | ⟨y, rfl⟩ <;> exact ⟨trivial, trivial⟩
      · rintro j hj ρ ⟨e, he, rfl⟩ U hU
        have hj : j < k + 1 := by simpa using hj
        have a1 := ga_at (vs := E) (i := 2 * j) (by omega)
        have a2 := ga_at (vs := E) (i := 2 * j + 1) (by omega)
        rw [show (((2 * j : Nat) : Int)) = 2 * (j : Int) by push_cast; rfl] at a1
        rw [show (((2 * j + 1 : Nat) : Int)) = 2 * (j : Int) + 1 by push_cast; rfl] at a2
        rcases he with rfl | rfl
        all_goals
          simp only [wipeR]
          walk_at "dl"
          refine ⟨mulS (by decide) (by omega), ?_⟩
          try simp only [ixL_of a1, ixL_of a2]
          walk_at "dl"
          refine ⟨mulS (by decide) (by omega), ?_⟩
          try simp only [ixL_of a1, ixL_of a2]
          walk_at "dl"
          exact hU _ _ rfl ⟨_, .inr rfl, rfl⟩
      · rintro ρ ⟨e, he, rfl⟩
        walk_at "dl"
        refine hsp _ ?_
        walk_at "dl"
        exact alike rfl (spots_sh hEb (by omega)) h
    · rintro d ds ρ U ⟨k, m, x1, x2, x4, x6, x8, x9, x11, x12, x14, x15, x16, x18, x19, x20, f1, f2, f3, rfl⟩ hU
      cases m with
      | zero => cases f1
      | succ m =>
        cases f1
        have hk : k + 1 < (things s n).length := by omega
        have a1 := ga_at (vs := things s n) (i := k + 1) hk
        rw [show (((k + 1 : Nat) : Int)) = (k : Int) + 1 by push_cast; rfl] at a1
        have a2 : atI ((List.replicate n z).map frR) (k : Int) = some (frR z) := by
          refine L2.atI_nat ?_
          rw [List.getElem?_map, List.getElem?_replicate, if_pos (by omega)]
          rfl
        have tk := take_snoc hk
        have hrl2 := rowR_len z ((things s n).take (k + 1))
        rw [List.length_take] at hrl2
        walk_at "dl"
        rw [ixL_of a2]
        walk_at "dl"
        rw [ixL_of a1]
        walk_at "dl"
        have er2 : (rowR z ((things s n).take (k + 1))).map frR ++ [frR z, D.tup [.int (ga (things s n) (k + 1)), .int 1]] = (rowR z ((things s n).take (k + 1 + 1))).map frR := by
          rw [tk, rowR_snoc z (by
            intro q
            have := congrArg List.length q
            rw [List.length_take, List.length_nil] at this
            omega), List.map_append]
          rfl
        rw [er2]
        refine ⟨by simp; omega, hU _ ⟨k + 1, m, _, _, _, _, _, _, _, _, _, _, _, some (.d (.int k)), _, _, by push_cast; rfl, by omega, .inr ⟨_, rfl⟩, rfl⟩⟩
  · have hla : ¬ s + n * q.b ≤ rm := fun z => hla ⟨rfl, z⟩
    walk_at "dl"
    rw [decide_eq_false hla]
    walk_at "dl"
    refine ⟨mulS (by omega) (by omega), ?_⟩
    rw [decide_eq_true hlean]
    walk_at "dl"
    exact h
end
end K20
end
section
set_option Elab.async false
set_option linter.all false
set_option maxRecDepth 100000
set_option maxHeartbeats 1000000
set_option exponentiation.threshold 20000
namespace K20
open PySem PySem.Spec L2 DL
local macro_rules | `(tactic| walk_at "dl") => `(tactic| try simp only [dSeq, dIfS, dRet, dRetN, dRetV, dAsg, dExpr, dNever, dNext, dVar, dC, dBin, dUn, dTest, dNot, dAnd, dOr, dAndV, dOrV, dNotV, dIf, dCall, dCons, dNil, dBreak, rdVar_d, rdVar_lst, rdVar_ins, rtVar_d, rtVar_lst, toD_d, toD_lst, toD_ins, toDo_lst, asBl_bl, asInt_int, asLst_lst, wTup_eq, wLst_eq, startR, List.map, List.length, List.getElem?_cons_zero, List.getElem?_cons_succ, List.set_cons_zero, List.set_cons_succ, List.replicate, List.cons_append, List.nil_append, List.append_nil, wIsT, D.kd, kit_ii, kit_ib, kit_bi, kit_bb, kit_ll, kit_tt, kit_ss, kit_nl, kit_ni, kit_it, kit_nt, dZip, dPar3, dUnl2, eqE, neE, wTuple, wSorted, Nat.reduceAdd, Nat.reduceSub, Nat.reduceLeDiff, Bool.not_true, Bool.not_false, true_and, and_true, addD_int, addD_lst, mulD_int, mulD_lst, int0_int, intD_int, negD_int, ixT0, ixT1, ixT2, ixT3, lenD_lst, isND_non, notND_non, isNon_non, isNon_int, isNon_bl, isNon_tup, isNon_lst, isNon_ins, dChain, dWhile, dPar, eqD, neD, pl_int, pl_non, pl_bl, eqv_int, dFor, bindPat, bindPats, dItL, dItT, dItS, dRng1, dRng2, dEnum, dLenV, dIxV, dApp, dSetIx, dInsert, atOwn_zero, atOwn_succ, atD_zero, atD_succ, atDt_zero, atDt_succ, atSlf_zero, dRev, dSl, dPart0, dPart, dOrT, dAsgP, dComp, dAug, dRetP, retP_lst, startI, asIns_ins, slfEnd_eq, dSelf, dFld, dMeth, dMake, wIsC, wSum,  dUnpackP, dInDt, dPutDt, dDictT, wInt1_int, wInt1_bl, wAbs_int, wMax2_int, wMin2_int, wList_lst, wLen_lst, wLen_str, bagAt0, dBag, dPick, dAugBag, dSetBag])
local macro_rules | `(tactic| walk_at "br") => `(tactic| (split <;> rename_i hb <;> (first | replace hb := of_decide_eq_true hb | replace hb := of_decide_eq_false hb | skip)))
theorem pt_all {m : Int} : ∀ {ys : List D}, (∀ y ∈ ys, ∃ p, y = endsD p ∧ OkE m p) → ∃ ps : List Pt, ys = ps.map endsD ∧ ∀ p ∈ ps, OkE m p
  | [], _ => ⟨[], rfl, by simp⟩
  | y :: ys, h => by
    obtain ⟨p, rfl, hp⟩ := h y List.mem_cons_self
    obtain ⟨ps, rfl, h2⟩ := pt_all (ys := ys) fun y hy => h y (List.mem_cons_of_mem _ hy)
    exact ⟨p :: ps, rfl, fun z hz => by
      rcases List.mem_cons.mp hz with rfl | hz
      · exact hp
      · exact h2 z hz⟩
theorem half_frR (rm : Int) : D.tup [.int (2 * rm + 1), .int 2] = frR (((2 * rm + 1 : Int) : Rat) / ((2 : Int) : Rat)) := by
  apply frR_nf
  rw [← frac_rat (by decide)]
  unfold frac
  have e : Nat.gcd (2 * rm + 1).natAbs (2 : Int).natAbs = 1 := by
    rw [Nat.gcd_comm, show (2 : Int).natAbs = 2 from rfl, Nat.gcd_rec]
    rw [show (2 * rm + 1).natAbs % 2 = 1 by omega]
    rfl
  rw [e]
  simp
theorem half_bn {rm : Int} (r0 : 0 ≤ rm) (r1 : rm ≤ 1000000000000) : Bn 1 50 (((2 * rm + 1 : Int) : Rat) / ((2 : Int) : Rat)) ∧ 0 ≤ ((2 * rm + 1 : Int) : Rat) / ((2 : Int) : Rat) := by
  have dl : (((((2 * rm + 1 : Int)) : Rat) / 2).den : Int) ≤ 2 := den_le (2 * rm + 1) (b := 2) (by decide)
  have b := Bn.int (v := 50) (i := 2 * rm + 1) (by omega)
  have h0 := ratnn (show 0 ≤ 2 * rm + 1 by omega)
  show Bn 1 50 (((2 * rm + 1 : Int) : Rat) / 2) ∧ 0 ≤ ((2 * rm + 1 : Int) : Rat) / 2
  generalize ((2 * rm + 1 : Int) : Rat) = t at *
  have hi := b.hi
  have V0 : (0 : Rat) ≤ ((2 ^ 50 : Nat) : Rat) := by exact_mod_cast Nat.zero_le _
  refine ⟨⟨?_, by grind, by grind⟩, by grind⟩
  show _ ≤ 2
  omega
section
variable {P : Program} {w : World} {K : PySem.W.Frag} {mg : Str → Option Value} {base : Heap} {f : Addr} {fd : FuncData}
def W_law (M : Md K mg) : ON := fun ds R => ∃ ns, ds = [.scr ns] ∧ R (.d (.bl true))
/-! law -/
theorem sc_law : FnScope ["script", "bag", "most", "ends", "room", "k", "before", "made", "one"] ["script"] (defScope s84) := ⟨rfl, rfl, rfl, by decide +kernel, rfl, by decide +kernel, by decide +kernel⟩
abbrev dd_law : List D := []
abbrev lv_law : Nat := 10
theorem fnG_law (M : Md K mg) (Dd : FunD K "law" "law" (defArgs s84) (defBody s84) (defScope s84) [] [] f fd) (G__law_take : Def P w K mg base 1 "_law_take" dd__law_take (W__law_take M)) (G__law_run_right : Def P w K mg base 8 "_law_run_right" dd__law_run_right (W__law_run_right M)) (G__law_more_right : Def P w K mg base 8 "_law_more_right" dd__law_more_right (W__law_more_right M)) (G__law_some_right : Def P w K mg base 8 "_law_some_right" dd__law_some_right (W__law_some_right M)) (G__law_wholes_right : Def P w K mg base 9 "_law_wholes_right" dd__law_wholes_right (W__law_wholes_right M)) (G__law_share_right : Def P w K mg base 8 "_law_share_right" dd__law_share_right (W__law_share_right M)) (G__law_part : Def P w K mg base 5 "_law_part" dd__law_part (W__law_part M)) (G__law_deed : Def P w K mg base 4 "_law_deed" dd__law_deed (W__law_deed M)) (G__law_room : Def P w K mg base 3 "_law_room" dd__law_room (W__law_room M)) (G__law_ends : Def P w K mg base 3 "_law_ends" dd__law_ends (W__law_ends M)) (G__law_one : Def P w K mg base 2 "_law_one" dd__law_one (W__law_one M)) (G__law_bag : Def P w K mg base 1 "_law_bag" dd__law_bag (W__law_bag M)) : FnG P w K mg base 10 f fd ["script"] (spD K (W_law M)) := by
  refine okG (k := 9) Dd sc_law (fun ds R h => by unfold W_law at h; obtain ⟨_, h⟩ := h; obtain ⟨rfl, _⟩ := h; rfl) (fun cdv A outer s H hr hG => ⟨_, (dss_cons (ds_set (i := 1) sc_law.nd (de_call (G__law_bag.mono (by decide)) hr hG (da_cons (de_tVar (pv 0)) da_nil))) (dss_cons (ds_set (i := 2) sc_law.nd (de_call (G__law_one.mono (by decide)) hr hG (da_cons (de_tVar (pv 1)) (da_cons (de_lst (da_cons de_int (da_cons de_int (da_cons (de_bin op_pow od_pow de_int de_int) (da_cons (de_bin op_pow od_pow de_int de_int) da_nil))))) da_nil)))) (dss_cons (ds_setLc (i := 3) (own := [("k", 5)]) rfl sc_law.nd rfl (sw_true rfl rfl rfl (by decide +kernel)) (di_rng1 M.b_range (de_call (G__law_take.mono (by decide)) hr hG (da_cons (de_tVar (pv 1)) (da_cons de_int da_nil)))) (blkOk_by (N := ["script", "bag", "most", "ends", "room", "k", "before", "made", "one"]) (sc := defScope s84) (by decide +kernel)) (fun _ _ _ _ _ => (dg_nm (i := 5) sc_law.nd)) (fun _ _ _ _ _ => dts_nil) (fun _ _ _ _ _ => (de_call (G__law_ends.mono (by decide)) hr hG (da_cons (de_tVar (pv 1)) (da_cons (de_tVar (pv 2)) da_nil))))) (dss_cons (ds_set (i := 4) sc_law.nd (de_call (G__law_room.mono (by decide)) hr hG (da_cons (de_tVar (pv 1)) (da_cons (de_tVar (pv 3)) (da_cons (de_tVar (pv 2)) da_nil))))) (dss_cons (ds_for PassesOwn.never rfl (di_rng1 M.b_range (de_bin op_addA od_add de_int (de_call (G__law_take.mono (by decide)) hr hG (da_cons (de_tVar (pv 1)) (da_cons de_int da_nil))))) (dg_nm (i := 5) sc_law.nd) (dss_cons (ds_set (i := 6) sc_law.nd (de_tVar (pv 4))) (dss_cons (ds_asgP (de_call (G__law_deed.mono (by decide)) hr hG (da_cons (de_tVar (pv 1)) (da_cons (de_tVar (pv 3)) (da_cons (de_tVar (pv 4)) (da_cons (de_tVar (pv 2)) da_nil))))) (dg_tp rfl (dgs_cons (dg_nm (i := 3) sc_law.nd) (dgs_cons (dg_nm (i := 4) sc_law.nd) dgs_nil)))) (dss_cons (ds_setLc (i := 7) (own := [("one", 8)]) rfl sc_law.nd rfl (sw_true rfl rfl rfl (by decide +kernel)) (di_lst (de_tVar (pv 3))) (blkOk_by (N := ["script", "bag", "most", "ends", "room", "k", "before", "made", "one"]) (sc := defScope s84) (by decide +kernel)) (fun _ _ _ _ _ => (dg_nm (i := 8) sc_law.nd)) (fun _ _ _ _ _ => dts_nil) (fun _ _ _ _ _ => (de_call (G__law_part.mono (by decide)) hr hG (da_cons (de_tVar (pv 8)) da_nil)))) (dss_cons (ds_if (PW.pt (dw_or (dt_not (dt_val (de_call (G__law_share_right.mono (by decide)) hr hG (da_cons (de_tVar (pv 7)) (da_cons (de_tVar (pv 3)) (da_cons (de_tup (da_cons (de_tVar (pv 4)) (da_cons de_int da_nil))) da_nil)))))) (dw_or1 (dt_not (dt_val (de_call (G__law_share_right.mono (by decide)) hr hG (da_cons (de_tVar (pv 7)) (da_cons (de_tVar (pv 3)) (da_cons (de_tup (da_cons (de_bin op_addA od_add (de_bin op_mulA od_mul de_int (de_tVar (pv 4))) de_int) (da_cons de_int da_nil))) da_nil))))))))) (dss_cons (ds_ret de_bl) dss_nil) dss_nil) (dss_cons (ds_if (PW.pt (dw_or (dt_not (dt_val (de_call (G__law_wholes_right.mono (by decide)) hr hG (da_cons (de_tVar (pv 1)) (da_cons (de_tVar (pv 7)) (da_cons (de_tVar (pv 3)) (da_cons (de_tVar (pv 4)) (da_cons (de_tVar (pv 2)) da_nil)))))))) (dw_or1 (dt_not (dt_val (de_call (G__law_some_right.mono (by decide)) hr hG (da_cons (de_tVar (pv 1)) (da_cons (de_tVar (pv 7)) (da_cons (de_tVar (pv 4)) da_nil))))))))) (dss_cons (ds_ret de_bl) dss_nil) dss_nil) (dss_cons (ds_if (PW.pt (dw_or (dt_not (dt_val (de_call (G__law_more_right.mono (by decide)) hr hG (da_cons (de_tVar (pv 7)) (da_cons (de_tVar (pv 6)) (da_cons (de_tVar (pv 4)) da_nil)))))) (dw_or1 (PW.pt (dw_and (dt_cmp (op_neE (hu64 hr)) od_neE (de_tVar (pv 7)) (de_lst da_nil) (nomark _)) (dw_and1 (dt_not (dt_val (de_call (G__law_run_right.mono (by decide)) hr hG (da_cons (de_tVar (pv 1)) (da_cons (de_tVar (pv 7)) (da_cons (de_tVar (pv 3)) (da_cons (de_tVar (pv 4)) da_nil))))))))))))) (dss_cons (ds_ret de_bl) dss_nil) dss_nil) dss_nil))))))) (dss_cons (ds_ret de_bl) dss_nil)))))), fun ds R h => ?_⟩)
  unfold W_law at h
  obtain ⟨ns, rfl, h⟩ := h
  refine dSeq_in (fun ρ => ρ = [some (.d (.scr ns)), some (.d .bag), none, none, none, none, none, none, none]) ?_ ?_
  · rintro ρ rfl
    walk_at "dl"
    refine ⟨⟨by decide, by decide, by decide⟩, ⟨by decide, by decide, by decide⟩, one (by simp) (by simp) fun d hd => ?_⟩
    have hd' : ∃ z : Int, d = .int z ∧ 0 < z ∧ z ≤ 1000000000000 := by
      simp only [List.mem_cons, List.not_mem_nil, or_false] at hd
      rcases hd with rfl | rfl | rfl | rfl
      · exact ⟨_, rfl, by decide, by decide⟩
      · exact ⟨_, rfl, by decide, by decide⟩
      · exact ⟨_, rfl, by decide, by decide⟩
      · exact ⟨_, rfl, by decide, by decide⟩
    obtain ⟨m, rfl, m0, m1⟩ := hd'
    walk_at "dl"
    refine draw (by decide) (by decide) fun b b0 b1 => ?_
    walk_at "dl"
    refine ⟨by omega, by omega, ?_⟩
    refine comp_P (fun d => ∃ p, d = endsD p ∧ OkE m p) ?_ _ _ (by simp [rngD_len]; omega) ?_ ?_
    · exact ⟨trivial, trivial⟩
    · intro d hd U hU
      simp only [wipeR]
      walk_at "dl"
      exact ⟨m, rfl, by omega, m1, fun p ok => hU _ _ ⟨p, rfl, ok⟩ rfl⟩
    intro ys yl hy
    obtain ⟨ps, rfl, hok⟩ := pt_all hy
    have nl : ps.length ≤ 10 := by rw [rngD_len] at yl; simp at yl; omega
    rw [List.nil_append]
    walk_at "dl"
    refine ⟨ps, m, rfl, fun p hp => (hok p hp).ok, nl, by omega, m1, fun rm r0 r1 => ?_⟩
    walk_at "dl"
    refine draw (by decide) (by decide) fun c c0 c1 => ?_
    walk_at "dl"
    refine ⟨by omega, by omega, ?_⟩
    refine forD_ind (fun ds ρ => ∃ (ps : List Pt) (rm : Int) (e : RD) (x5 x6 x7 x8 : Option RD), (∀ d ∈ ds, ∃ z, d = D.int z) ∧ ps.length ≤ 10 ∧ (∀ p ∈ ps, OkE m p) ∧ 0 ≤ rm ∧ rm ≤ 1000000000000 ∧ (e = .o (.lst (ps.map endsD)) ∨ e = .d (.lst (ps.map endsD))) ∧ (x8 = none ∨ ∃ y, x8 = some (.d y)) ∧ ρ = [some (.d (.scr ns)), some (.d .bag), some (.d (.int m)), some e, some (.d (.int rm)), x5, x6, x7, x8]) ?_ ?_ ⟨ps, rm, _, _, _, _, none, ?_, nl, hok, r0, r1, by first | exact .inl rfl | exact .inr rfl, .inl rfl, rfl⟩
    · rintro ρ ⟨ps, rm, e, x5, x6, x7, x8, -, -, -, -, -, -, -, rfl⟩
      walk_at "dl"
      exact h
    · rintro d ds ρ U ⟨ps, rm, e, x5, x6, x7, x8, hd, hl, hok, r0, r1, he, h8, rfl⟩ hU
      obtain ⟨z, rfl⟩ := hd d List.mem_cons_self
      have hd' : ∀ d ∈ ds, ∃ z, d = D.int z := fun d hd1 => hd d (List.mem_cons_of_mem _ hd1)
      rcases he with rfl | rfl <;> rcases h8 with rfl | ⟨y8, rfl⟩
      all_goals
        walk_at "dl"
        refine ⟨ps, rm, m, rfl, hok, hl, by omega, m1, r0, r1, fun qs rn hqo hql n0 n1 => ?_⟩
        walk_at "dl"
        have hp : ∀ p ∈ qs, OkP p := fun p hm => (hqo p hm).ok
        refine comp_mapA endsD (ptD M) qs ?_ (by omega) ?_ ?_
        · exact ⟨trivial, trivial⟩
        · intro p hp' U hU
          simp only [wipeR]
          walk_at "dl"
          exact ⟨p, rfl, hp p hp', hU _ _ rfl rfl⟩
        walk_at "dl"
        refine ⟨qs, (rn : Rat), 0, rfl, hql, hp, int_bn n0 n1, by decide, ratnn n0, ?_⟩
        walk_at "dl"
        obtain ⟨hb, h0⟩ := half_bn n0 n1
        refine ⟨mulS (by decide) (by omega), qs, _, 1, by rw [half_frR], hql, hp, hb, by decide, h0, ?_⟩
        walk_at "dl"
        refine ⟨qs, rn, m, rfl, hql, hqo, n0, n1, ?_⟩
        walk_at "dl"
        refine ⟨qs, rn, rfl, hql, hp, n0, n1, ?_⟩
        walk_at "dl"
        refine ⟨qs, rm, rn, rfl, hql, hp, r0, r1, n0, n1, ?_⟩
        walk_at "dl"
        rw [show (qs.map (ptD M)).isEmpty = qs.isEmpty by cases qs <;> rfl]
        cases hq : qs.isEmpty with
        | true =>
          walk_at "dl"
          exact hU _ ⟨qs, rn, _, _, _, _, _, hd', hql, hqo, n0, n1, .inr rfl, by first | exact .inl rfl | exact .inr ⟨_, rfl⟩, rfl⟩
        | false =>
          walk_at "dl"
          refine ⟨qs, rn, rfl, by cases qs with | nil => cases hq | cons _ _ => simp, hql, hp, n0, n1, ?_⟩
          walk_at "dl"
          exact hU _ ⟨qs, rn, _, _, _, _, _, hd', hql, hqo, n0, n1, .inr rfl, by first | exact .inl rfl | exact .inr ⟨_, rfl⟩, rfl⟩
    · intro d hd
      obtain ⟨i, hi⟩ := List.mem_iff_getElem?.mp hd
      obtain ⟨_, rfl⟩ := rngD_at _ _ _ _ hi
      exact ⟨_, rfl⟩
  · intro U hU
    walk_at "dl"
    exact ⟨ns, rfl, hU _ rfl⟩
end
end K20
end
section
set_option Elab.async false
set_option linter.all false
set_option maxRecDepth 100000
set_option maxHeartbeats 0
namespace K20
open PySem PySem.Spec PyProof.Rows L2 DL K20H
theorem isaB_ok {K : PySem.W.Frag} {C D : Str} (c : Cls K (He.ga K C)) (h : isaB K C D = true) : Isa K (He.ga K C) (He.ga K D) true := by
  obtain ⟨h1, h2⟩ := He.ba h
  obtain ⟨a1, h1⟩ := He.ba h1
  obtain ⟨a2, h1⟩ := He.ba h1
  obtain ⟨a3, a4⟩ := He.ba h1
  exact ⟨⟨c, of_decide_eq_true a1, of_decide_eq_true a2, of_decide_eq_true a3, of_decide_eq_true a4⟩, of_decide_eq_true h2⟩
section
variable {P : Program} {w : World} {K : PySem.W.Frag} {mg : Str → Option Value} {base : Heap} {f : Addr} {fd : FuncData}
theorem facts {h : Heap} {fa0 : Addr} (X : K.In h) (G : h.Ns mainGlobals mg) (hfa : mg ("law" : Str) = some (.ref fa0)) (c : He.SaysD fa fn K) (hex : ex K = true) :
    ∃ fd : FuncData, (∀ (s : Shared) (v : Value), BindsTo s fd ⟨[v], []⟩ [("script", v)]) ∧ ∃ W : ON, (∀ ns R, R (.d (.bl true)) → W [.scr ns] R) ∧ ∀ base : Heap, K.In base → base.Ns mainGlobals mg → FnG P w K mg base 10 fa0 fd ["script"] (spD K W) := by
  obtain ⟨x_isaP, hex⟩ := He.ba hex
  have e_isaP := isaB_ok (He.cls_ok (c.fact 10)) x_isaP
  have e_isaLB := isaB_ok (He.cls_ok (c.fact 11)) hex
  obtain ⟨t_LETTERS, c_LETTERS⟩ := He.str_ok X G (c.fact 0)
  obtain ⟨t_LENGTH, c_LENGTH⟩ := He.int_ok X G (c.fact 1)
  obtain ⟨t_SMALL, c_SMALL⟩ := He.int_ok X G (c.fact 2)
  obtain ⟨t_WEIGHT, c_WEIGHT⟩ := He.int_ok X G (c.fact 3)
  obtain ⟨t_LONGEST, c_LONGEST⟩ := He.int_ok X G (c.fact 4)
  obtain ⟨t_MOST, c_MOST⟩ := He.int_ok X G (c.fact 5)
  obtain ⟨t_DEEPEST, c_DEEPEST⟩ := He.int_ok X G (c.fact 6)
  obtain ⟨t_MOST_BOXES, c_MOST_BOXES⟩ := He.int_ok X G (c.fact 7)
  obtain ⟨t_MOST_WITHIN, c_MOST_WITHIN⟩ := He.int_ok X G (c.fact 8)
  obtain ⟨t_ALONE, c_ALONE⟩ := He.int_ok X G (c.fact 9)
  have k_Part := He.cls_ok (c.fact 10)
  have k_Leaf := He.cls_ok (c.fact 11)
  have k_Row := He.cls_ok (c.fact 12)
  let M : Md K mg := {
    C_Part := He.ga K "Part"
    C_Box := He.ga K "Box"
    C_Leaf := He.ga K "Leaf"
    C_Row := He.ga K "Row"
    b_len := He.free_ok X G (c.fact 13)
    b_isinstance := He.free_ok X G (c.fact 14)
    b_int := He.free_ok X G (c.fact 15)
    b_bool := He.free_ok X G (c.fact 16)
    b_str := He.free_ok X G (c.fact 17)
    b_list := He.free_ok X G (c.fact 18)
    b_tuple := He.free_ok X G (c.fact 19)
    b_abs := He.free_ok X G (c.fact 20)
    b_sum := He.free_ok X G (c.fact 21)
    b_max := He.free_ok X G (c.fact 22)
    b_min := He.free_ok X G (c.fact 23)
    b_repr := He.free_ok X G (c.fact 24)
    b_range := He.free_ok X G (c.fact 25)
    b_enumerate := He.free_ok X G (c.fact 26)
    b_zip := He.free_ok X G (c.fact 27)
    b_sorted := He.free_ok X G (c.fact 28)
    k_Part := He.glo_ok X G (c.fact 29)
    k_Box := He.glo_ok X G (c.fact 30)
    k_Leaf := He.glo_ok X G (c.fact 31)
    k_Row := He.glo_ok X G (c.fact 32)
    isaP := e_isaP
    isaLB := e_isaLB
    t_LETTERS := t_LETTERS
    c_LETTERS := c_LETTERS
    t_LENGTH := t_LENGTH
    c_LENGTH := c_LENGTH
    t_SMALL := t_SMALL
    c_SMALL := c_SMALL
    t_WEIGHT := t_WEIGHT
    c_WEIGHT := c_WEIGHT
    t_LONGEST := t_LONGEST
    c_LONGEST := c_LONGEST
    t_MOST := t_MOST
    c_MOST := c_MOST
    t_DEEPEST := t_DEEPEST
    c_DEEPEST := c_DEEPEST
    t_MOST_BOXES := t_MOST_BOXES
    c_MOST_BOXES := c_MOST_BOXES
    t_MOST_WITHIN := t_MOST_WITHIN
    c_MOST_WITHIN := c_MOST_WITHIN
    t_ALONE := t_ALONE
    c_ALONE := c_ALONE
    fl_Part_base := ⟨k_Part, He.noat_ok (c.fact 33)⟩
    fl_Part_least := ⟨k_Part, He.noat_ok (c.fact 34)⟩
    fl_Part_greatest := ⟨k_Part, He.noat_ok (c.fact 35)⟩
    fl_Part_grow := ⟨k_Part, He.noat_ok (c.fact 36)⟩
    fl_Part_shrink := ⟨k_Part, He.noat_ok (c.fact 37)⟩
    fl_Leaf_key := ⟨k_Leaf, He.noat_ok (c.fact 38)⟩
    fl_Leaf_base := ⟨k_Leaf, He.noat_ok (c.fact 39)⟩
    fl_Leaf_least := ⟨k_Leaf, He.noat_ok (c.fact 40)⟩
    fl_Leaf_greatest := ⟨k_Leaf, He.noat_ok (c.fact 41)⟩
    fl_Leaf_grow := ⟨k_Leaf, He.noat_ok (c.fact 42)⟩
    fl_Leaf_shrink := ⟨k_Leaf, He.noat_ok (c.fact 43)⟩
    fl_Leaf_deep := ⟨k_Leaf, He.noat_ok (c.fact 44)⟩
    fl_Leaf_many := ⟨k_Leaf, He.noat_ok (c.fact 45)⟩
    fl_Row_boxes := ⟨k_Row, He.noat_ok (c.fact 46)⟩
    fl_Row_gap := ⟨k_Row, He.noat_ok (c.fact 47)⟩
    fl_Row_grow := ⟨k_Row, He.noat_ok (c.fact 48)⟩
    fl_Row_shrink := ⟨k_Row, He.noat_ok (c.fact 49)⟩
    fl_Row_deep := ⟨k_Row, He.noat_ok (c.fact 50)⟩
    fl_Row_many := ⟨k_Row, He.noat_ok (c.fact 51)⟩
    fl_Row_three := ⟨k_Row, He.noat_ok (c.fact 52)⟩
  }
  obtain ⟨fd4, F4⟩ := c.def_ 0 (d := d4) rfl
  obtain ⟨fd5, F5⟩ := c.def_ 1 (d := d5) rfl
  obtain ⟨fd6, F6⟩ := c.def_ 2 (d := d6) rfl
  obtain ⟨fd7, F7⟩ := c.def_ 3 (d := d7) rfl
  obtain ⟨fd9, F9⟩ := c.def_ 4 (d := d9) rfl
  obtain ⟨fd11, F11⟩ := c.def_ 5 (d := d11) rfl
  obtain ⟨fd12, F12⟩ := c.def_ 6 (d := d12) rfl
  obtain ⟨fd13, F13⟩ := c.def_ 7 (d := d13) rfl
  obtain ⟨fd14, F14⟩ := c.def_ 8 (d := d14) rfl
  obtain ⟨fd17, F17⟩ := c.def_ 9 (d := d17) rfl
  obtain ⟨fd16, F16⟩ := c.def_ 10 (d := d16) rfl
  obtain ⟨fd10, F10⟩ := c.def_ 11 (d := d10) rfl
  obtain ⟨fd8, F8⟩ := c.def_ 12 (d := d8) rfl
  obtain ⟨fd20, F20⟩ := c.def_ 13 (d := d20) rfl
  obtain ⟨fd21, F21⟩ := c.def_ 14 (d := d21) rfl
  obtain ⟨fd22, F22⟩ := c.def_ 15 (d := d22) rfl
  obtain ⟨fd26, F26⟩ := c.def_ 16 (d := d26) rfl
  obtain ⟨fd23, F23⟩ := c.def_ 17 (d := d23) rfl
  obtain ⟨fd24, F24⟩ := c.def_ 18 (d := d24) rfl
  obtain ⟨fd15, F15⟩ := c.def_ 19 (d := d15) rfl
  obtain ⟨fd18, F18⟩ := c.def_ 20 (d := d18) rfl
  obtain ⟨fd19, F19⟩ := c.def_ 21 (d := d19) rfl
  obtain ⟨fd25, F25⟩ := c.def_ 22 (d := d25) rfl
  obtain ⟨fd27, F27⟩ := c.def_ 23 (d := d27) rfl
  obtain ⟨fd28, F28⟩ := c.def_ 24 (d := d28) rfl
  obtain ⟨fd29, F29⟩ := c.def_ 25 (d := d29) rfl
  obtain ⟨fd30, F30⟩ := c.def_ 26 (d := d30) rfl
  obtain ⟨fd60, F60⟩ := c.def_ 27 (d := d60) rfl
  obtain ⟨fd61, F61⟩ := c.def_ 28 (d := d61) rfl
  obtain ⟨fd31, F31⟩ := c.def_ 29 (d := d31) rfl
  obtain ⟨fd43, F43⟩ := c.def_ 30 (d := d43) rfl
  obtain ⟨fd44, F44⟩ := c.def_ 31 (d := d44) rfl
  obtain ⟨fd39, F39⟩ := c.def_ 32 (d := d39) rfl
  obtain ⟨fd40, F40⟩ := c.def_ 33 (d := d40) rfl
  obtain ⟨fd41, F41⟩ := c.def_ 34 (d := d41) rfl
  obtain ⟨fd42, F42⟩ := c.def_ 35 (d := d42) rfl
  obtain ⟨fd46, F46⟩ := c.def_ 36 (d := d46) rfl
  obtain ⟨fd47, F47⟩ := c.def_ 37 (d := d47) rfl
  obtain ⟨fd49, F49⟩ := c.def_ 38 (d := d49) rfl
  obtain ⟨fd53, F53⟩ := c.def_ 39 (d := d53) rfl
  obtain ⟨fd54, F54⟩ := c.def_ 40 (d := d54) rfl
  obtain ⟨fd55, F55⟩ := c.def_ 41 (d := d55) rfl
  obtain ⟨fd56, F56⟩ := c.def_ 42 (d := d56) rfl
  obtain ⟨fd57, F57⟩ := c.def_ 43 (d := d57) rfl
  obtain ⟨fd58, F58⟩ := c.def_ 44 (d := d58) rfl
  obtain ⟨fd62, F62⟩ := c.def_ 45 (d := d62) rfl
  obtain ⟨fd63, F63⟩ := c.def_ 46 (d := d63) rfl
  obtain ⟨fd64, F64⟩ := c.def_ 47 (d := d64) rfl
  obtain ⟨fd67, F67⟩ := c.def_ 48 (d := d67) rfl
  obtain ⟨fd65, F65⟩ := c.def_ 49 (d := d65) rfl
  obtain ⟨fd66, F66⟩ := c.def_ 50 (d := d66) rfl
  obtain ⟨fd68, F68⟩ := c.def_ 51 (d := d68) rfl
  obtain ⟨fd69, F69⟩ := c.def_ 52 (d := d69) rfl
  obtain ⟨fd70, F70⟩ := c.def_ 53 (d := d70) rfl
  obtain ⟨fd71, F71⟩ := c.def_ 54 (d := d71) rfl
  obtain ⟨fd72, F72⟩ := c.def_ 55 (d := d72) rfl
  obtain ⟨fd73, F73⟩ := c.def_ 56 (d := d73) rfl
  obtain ⟨fd74, F74⟩ := c.def_ 57 (d := d74) rfl
  obtain ⟨fd59, F59⟩ := c.def_ 58 (d := d59) rfl
  obtain ⟨fd80, F80⟩ := c.def_ 59 (d := d80) rfl
  obtain ⟨fd81, F81⟩ := c.def_ 60 (d := d81) rfl
  obtain ⟨fd82, F82⟩ := c.def_ 61 (d := d82) rfl
  obtain ⟨fd75, F75⟩ := c.def_ 62 (d := d75) rfl
  obtain ⟨fd76, F76⟩ := c.def_ 63 (d := d76) rfl
  obtain ⟨fd77, F77⟩ := c.def_ 64 (d := d77) rfl
  obtain ⟨fd78, F78⟩ := c.def_ 65 (d := d78) rfl
  obtain ⟨fd83, F83⟩ := c.def_ 66 (d := d83) rfl
  obtain ⟨fd79, F79⟩ := c.def_ 67 (d := d79) rfl
  obtain ⟨fd84, F84⟩ := c.def_ 68 (d := d84) rfl
  have e := hfa.symm.trans (He.glo_ok X G (c.fact 53 (f := .glo "law") rfl))
  cases e
  have b := FunD.bindsA (ps := ["script"]) F84 fun _ _ _ _ _ _ us hl => match us, hl with | [_], _ => rfl
  refine ⟨fd84, fun s v => b s [v] rfl, W_law M, fun ns R h => ⟨ns, rfl, h⟩, fun base _ _ => ?_⟩
  have G_is_whole := def_is_whole (P := P) (w := w) (base := base) M F4 (He.glo_ok X G (c.fact 54)) 
  have G_is_length := def_is_length (P := P) (w := w) (base := base) M F5 (He.glo_ok X G (c.fact 55)) G_is_whole
  have G_is_small := def_is_small (P := P) (w := w) (base := base) M F6 (He.glo_ok X G (c.fact 56)) G_is_whole
  have G_is_weight := def_is_weight (P := P) (w := w) (base := base) M F7 (He.glo_ok X G (c.fact 57)) G_is_whole
  have G_divisor := def_divisor (P := P) (w := w) (base := base) M F9 (He.glo_ok X G (c.fact 58)) 
  have G_fraction := def_fraction (P := P) (w := w) (base := base) M F11 (He.glo_ok X G (c.fact 59)) G_divisor
  have G_plus := def_plus (P := P) (w := w) (base := base) M F12 (He.glo_ok X G (c.fact 60)) G_fraction
  have G_minus := def_minus (P := P) (w := w) (base := base) M F13 (He.glo_ok X G (c.fact 61)) G_fraction
  have G_times := def_times (P := P) (w := w) (base := base) M F14 (He.glo_ok X G (c.fact 62)) G_fraction
  have G_floor_of := def_floor_of (P := P) (w := w) (base := base) M F17 (He.glo_ok X G (c.fact 63)) 
  have G_is_below := def_is_below (P := P) (w := w) (base := base) M F16 (He.glo_ok X G (c.fact 64)) 
  have G_is_fraction := def_is_fraction (P := P) (w := w) (base := base) M F10 (He.glo_ok X G (c.fact 65)) G_divisor G_is_whole
  have G_is_name := def_is_name (P := P) (w := w) (base := base) M F8 (He.glo_ok X G (c.fact 66)) 
  have G_Part := def_Part___init__ (P := P) (w := w) (base := base) M F20 (He.glo_ok X G (c.fact 29)) (He.mkr_ok (c.fact 67)) G_is_weight G_is_length
  have G_Part_size_at := def_Part_size_at (P := P) (w := w) (base := base) M F21 k_Part (He.meth_ok (c.fact 68)) G_is_below G_fraction
  have G_Part_strain_at := def_Part_strain_at (P := P) (w := w) (base := base) M F22 k_Part (He.meth_ok (c.fact 69)) G_fraction G_is_below G_minus
  have G_end_of := def_end_of (P := P) (w := w) (base := base) M F26 (He.glo_ok X G (c.fact 70)) 
  have G_look_at_parts := def_look_at_parts (P := P) (w := w) (base := base) M F23 (He.glo_ok X G (c.fact 71)) 
  have G_price_for := def_price_for (P := P) (w := w) (base := base) M F24 (He.glo_ok X G (c.fact 72)) G_minus G_fraction
  have G_together := def_together (P := P) (w := w) (base := base) M F15 (He.glo_ok X G (c.fact 73)) G_plus
  have G_edges_of := def_edges_of (P := P) (w := w) (base := base) M F18 (He.glo_ok X G (c.fact 74)) G_floor_of G_plus
  have G_wholes_of := def_wholes_of (P := P) (w := w) (base := base) M F19 (He.glo_ok X G (c.fact 75)) G_edges_of
  have G_price_of := def_price_of (P := P) (w := w) (base := base) M F25 (He.glo_ok X G (c.fact 76)) G_price_for G_minus
  have G_share_of := def_share_of (P := P) (w := w) (base := base) M F27 (He.glo_ok X G (c.fact 77)) G_minus G_together G_end_of G_Part_size_at G_price_of
  have G_share := def_share (P := P) (w := w) (base := base) M F28 (He.glo_ok X G (c.fact 78)) G_share_of G_is_fraction G_look_at_parts
  have G_whole_share := def_whole_share (P := P) (w := w) (base := base) M F29 (He.glo_ok X G (c.fact 79)) G_wholes_of G_share_of G_is_length G_look_at_parts
  have G_shares_hold := def_shares_hold (P := P) (w := w) (base := base) M F30 (He.glo_ok X G (c.fact 80)) G_together G_Part_size_at G_is_fraction
  have G_strain := def_strain (P := P) (w := w) (base := base) M F60 (He.glo_ok X G (c.fact 81)) G_plus G_Part_strain_at
  have G_bound := def_bound (P := P) (w := w) (base := base) M F61 (He.glo_ok X G (c.fact 82)) G_plus G_times G_strain G_minus G_together G_Part_size_at
  have G_look_weights := def_look_weights (P := P) (w := w) (base := base) M F31 (He.glo_ok X G (c.fact 83)) G_is_weight
  have G_Leaf := def_Leaf___init__ (P := P) (w := w) (base := base) M F43 (He.glo_ok X G (c.fact 31)) (He.mkr_ok (c.fact 84)) G_look_weights G_is_small G_is_name
  have G_Leaf_across := def_Leaf_across (P := P) (w := w) (base := base) M F44 k_Leaf (He.meth_ok (c.fact 85)) 
  have G_look_boxes := def_look_boxes (P := P) (w := w) (base := base) M F39 (He.glo_ok X G (c.fact 86)) 
  have G_size_around := def_size_around (P := P) (w := w) (base := base) M F40 (He.glo_ok X G (c.fact 87)) 
  have G_gaps_of := def_gaps_of (P := P) (w := w) (base := base) M F41 (He.glo_ok X G (c.fact 88)) 
  have G_row_across := def_row_across (P := P) (w := w) (base := base) M F42 (He.glo_ok X G (c.fact 89)) G_Leaf_across G_gaps_of
  have G_Row := def_Row___init__ (P := P) (w := w) (base := base) M F46 (He.glo_ok X G (c.fact 32)) (He.mkr_ok (c.fact 90)) G_row_across G_size_around G_look_weights G_is_small G_look_boxes
  have G_Row_across := def_Row_across (P := P) (w := w) (base := base) M F47 k_Row (He.meth_ok (c.fact 91)) 
  have G_Row_wides_for := def_Row_wides_for (P := P) (w := w) (base := base) M F49 k_Row (He.meth_ok (c.fact 92)) G_whole_share G_gaps_of G_Part G_Leaf_across
  have G_leanest := def_leanest (P := P) (w := w) (base := base) M F53 (He.glo_ok X G (c.fact 93)) 
  have G_fattest := def_fattest (P := P) (w := w) (base := base) M F54 (He.glo_ok X G (c.fact 94)) 
  have G_blank_size := def_blank_size (P := P) (w := w) (base := base) M F55 (He.glo_ok X G (c.fact 95)) G_fraction G_fattest
  have G_shared_cost := def_shared_cost (P := P) (w := w) (base := base) M F56 (He.glo_ok X G (c.fact 96)) G_plus G_times G_Part_strain_at G_minus G_blank_size
  have G_cost_of := def_cost_of (P := P) (w := w) (base := base) M F57 (He.glo_ok X G (c.fact 97)) G_shared_cost G_leanest
  have G_blank_in := def_blank_in (P := P) (w := w) (base := base) M F58 (He.glo_ok X G (c.fact 98)) G_leanest G_blank_size
  have G__law_bag := def__law_bag (P := P) (w := w) (base := base) M F62 (He.glo_ok X G (c.fact 99)) 
  have G__law_take := def__law_take (P := P) (w := w) (base := base) M F63 (He.glo_ok X G (c.fact 100)) 
  have G__law_one := def__law_one (P := P) (w := w) (base := base) M F64 (He.glo_ok X G (c.fact 101)) G__law_take
  have G__law_weight := def__law_weight (P := P) (w := w) (base := base) M F67 (He.glo_ok X G (c.fact 102)) G__law_take
  have G__law_alike := def__law_alike (P := P) (w := w) (base := base) M F65 (He.glo_ok X G (c.fact 103)) 
  have G__law_length := def__law_length (P := P) (w := w) (base := base) M F66 (He.glo_ok X G (c.fact 104)) G__law_take
  have G__law_ends := def__law_ends (P := P) (w := w) (base := base) M F68 (He.glo_ok X G (c.fact 105)) G__law_weight G__law_take G__law_length
  have G__law_part := def__law_part (P := P) (w := w) (base := base) M F69 (He.glo_ok X G (c.fact 106)) G_Part
  have G__law_frac := def__law_frac (P := P) (w := w) (base := base) M F70 (He.glo_ok X G (c.fact 107)) 
  have G__law_plus := def__law_plus (P := P) (w := w) (base := base) M F71 (He.glo_ok X G (c.fact 108)) G__law_frac
  have G__law_total := def__law_total (P := P) (w := w) (base := base) M F72 (He.glo_ok X G (c.fact 109)) G__law_plus
  have G__law_less := def__law_less (P := P) (w := w) (base := base) M F73 (He.glo_ok X G (c.fact 110)) 
  have G__law_end := def__law_end (P := P) (w := w) (base := base) M F74 (He.glo_ok X G (c.fact 111)) 
  have G_spread := def_spread (P := P) (w := w) (base := base) M F59 (He.glo_ok X G (c.fact 112)) G_edges_of G_blank_in
  have G__law_come := def__law_come (P := P) (w := w) (base := base) M F80 (He.glo_ok X G (c.fact 113)) 
  have G__law_room := def__law_room (P := P) (w := w) (base := base) M F81 (He.glo_ok X G (c.fact 114)) G__law_one G__law_take G__law_length G__law_come
  have G__law_deed := def__law_deed (P := P) (w := w) (base := base) M F82 (He.glo_ok X G (c.fact 115)) G__law_room G__law_ends G__law_take
  have G__law_priced_right := def__law_priced_right (P := P) (w := w) (base := base) M F75 (He.glo_ok X G (c.fact 116)) G__law_alike G_bound G_strain G__law_total G_Part_strain_at G__law_less G_Part_size_at G__law_frac G_shares_hold
  have G__law_share_right := def__law_share_right (P := P) (w := w) (base := base) M F76 (He.glo_ok X G (c.fact 117)) G__law_alike G__law_end G__law_priced_right G__law_plus G__law_total G_share
  have G__law_wholes_right := def__law_wholes_right (P := P) (w := w) (base := base) M F77 (He.glo_ok X G (c.fact 118)) G__law_alike G_Row_across G_Row_wides_for G__law_end G_Row G_Leaf G__law_length G_wholes_of G_edges_of G_whole_share G_share
  have G__law_some_right := def__law_some_right (P := P) (w := w) (base := base) M F78 (He.glo_ok X G (c.fact 119)) G__law_alike G_share G__law_total G__law_take
  have G__law_more_right := def__law_more_right (P := P) (w := w) (base := base) M F83 (He.glo_ok X G (c.fact 120)) G__law_less G_share
  have G__law_run_right := def__law_run_right (P := P) (w := w) (base := base) M F79 (He.glo_ok X G (c.fact 121)) G__law_alike G_spread G_edges_of G_cost_of G__law_plus G__law_frac G_strain G_share G__law_end G__law_take
  exact fnG_law M F84 G__law_take G__law_run_right G__law_more_right G__law_some_right G__law_wholes_right G__law_share_right G__law_part G__law_deed G__law_room G__law_ends G__law_one G__law_bag
end
end K20
open PySem PySem.W PySem.Calls PyProof.Rows
theorem PySem.Challenge.cw_fairsheet_k20_whole_life_of_a_shared_roo_holds : PySem.Challenge.rw_fairsheet_k20_whole_life_of_a_shared_roo.Holds := by
  w_on; o_law
  refine HandSHeadRun.head_any (r := OpenLaw.row PySem.Challenge.rw_fairsheet_k20_whole_life_of_a_shared_roo) (q := view (OpenLaw.row PySem.Challenge.rw_fairsheet_k20_whole_life_of_a_shared_roo).prog [90]) (H := K20H.hk) (ob := K20H.ob) (M := 40000) (loose := K20H.nms) (d := HandSHeadRun.topDef (OpenLaw.row PySem.Challenge.rw_fairsheet_k20_whole_life_of_a_shared_roo).prog 90) (kwd := []) K20H.ob_eq
    (by kernel_rfl) (fun s => by kernel_rfl) K20H.run (by kernel_rfl) (by kernel_rfl) (by kernel_rfl) (by rfl) (by first | assumption | decide +kernel) (by decide +kernel) ⟨rfl, rfl, rfl, rfl, rfl, by decide +kernel⟩ ?hw ?hc
  case hw => w_witness2
  case hc =>
    refine DL.walk_ofG (l := PySem.Challenge.rw_fairsheet_k20_whole_life_of_a_shared_roo) (n := 63) (k := 10) (x := "script") rfl (by decide) (by kernel_rfl) ⟨rfl, by decide, by decide⟩ ?F
    intro w mg fa h Y G hmg0
    obtain ⟨K, KX, c, hex⟩ := Y
    have hmg : mg ("law" : PySem.Str) = some (.ref fa) := by
      have e : (HandSHeadRun.topDef (OpenLaw.row PySem.Challenge.rw_fairsheet_k20_whole_life_of_a_shared_roo).prog 90).name = ("law" : PySem.Str) := by kernel_rfl
      rw [← e]
      exact hmg0
    obtain ⟨fd, hb, W, hW, hF⟩ := K20.facts (P := (PySem.Challenge.rw_fairsheet_k20_whole_life_of_a_shared_roo).prog) (w := w) KX G hmg c hex
    exact ⟨K, fd, W, KX, hb, hW, hF⟩
end
