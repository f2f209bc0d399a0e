import PyProof.Rows.All
import Wide.All
import OpenK.AllK
import Wide.FinOn
import KE.KStateDown
import HandS.Base
import HandS.Call
import HandS.Ends
import HandS.More
import HandS.Words
import HandS.Defaults
import HandS.Head0
import HandS.Head1
import HandS.Head2
import HandS.Head3
import HandS.HeadEnd
import HandS.HeadHook1
import HandS.HeadHook2
import HandS.HeadHook3
import HandS.HeadHook4
import HandS.ForMost
import HandS.IsInst
import HandS.Gcd
import HandS.Wide
import HandS.Lambda
import HandS.TupAny
import HandS.Style
import HandS.ExcOwn
import HandS.TupLe
import HandS.Zip
import HandS.FStrTup
import HandS.EndTab
import PySem.Challenge.RW_stillplates_k39_whole_full_reflux
section
set_option Elab.async false
set_option linter.all false
set_option maxRecDepth 100000
set_option maxHeartbeats 0
namespace K39
open PySem PySem.Spec PyProof.Rows L2
def topS (i : Nat) : Stmt := PySem.Challenge.pw_stillplates_k39_whole_full_reflux.main.body.getD i (.Pass ⟨0, 0, 0, 0⟩)
def d8 : He.DefD := ⟨("is_whole", none), "is_whole", "is_whole", defArgs (topS 8), defBody (topS 8), defScope (topS 8), [], []⟩
def d9 : He.DefD := ⟨("is_between", none), "is_between", "is_between", defArgs (topS 9), defBody (topS 9), defScope (topS 9), [], []⟩
def d10 : He.DefD := ⟨("are_wholes", none), "are_wholes", "are_wholes", defArgs (topS 10), defBody (topS 10), defScope (topS 10), [], []⟩
def d11 : He.DefD := ⟨("divisor_of", none), "divisor_of", "divisor_of", defArgs (topS 11), defBody (topS 11), defScope (topS 11), [], []⟩
def d12 : He.DefD := ⟨("lowest", none), "lowest", "lowest", defArgs (topS 12), defBody (topS 12), defScope (topS 12), [], []⟩
def d16 : He.DefD := ⟨("is_ratio", none), "is_ratio", "is_ratio", defArgs (topS 16), defBody (topS 16), defScope (topS 16), [], []⟩
def d17 : He.DefD := ⟨("ratio", none), "ratio", "ratio", defArgs (topS 17), defBody (topS 17), defScope (topS 17), [], []⟩
def d18 : He.DefD := ⟨("plus", none), "plus", "plus", defArgs (topS 18), defBody (topS 18), defScope (topS 18), [], []⟩
def d19 : He.DefD := ⟨("minus", none), "minus", "minus", defArgs (topS 19), defBody (topS 19), defScope (topS 19), [], []⟩
def d20 : He.DefD := ⟨("times", none), "times", "times", defArgs (topS 20), defBody (topS 20), defScope (topS 20), [], []⟩
def d21 : He.DefD := ⟨("over", none), "over", "over", defArgs (topS 21), defBody (topS 21), defScope (topS 21), [], []⟩
def d22 : He.DefD := ⟨("total", none), "total", "total", defArgs (topS 22), defBody (topS 22), defScope (topS 22), [], []⟩
def d23 : He.DefD := ⟨("is_below", none), "is_below", "is_below", defArgs (topS 23), defBody (topS 23), defScope (topS 23), [], []⟩
def d25 : He.DefD := ⟨("vapour", none), "vapour", "vapour", defArgs (topS 25), defBody (topS 25), defScope (topS 25), [], []⟩
def d26 : He.DefD := ⟨("liquid", none), "liquid", "liquid", defArgs (topS 26), defBody (topS 26), defScope (topS 26), [], []⟩
def d27 : He.DefD := ⟨("height_of", none), "height_of", "height_of", defArgs (topS 27), defBody (topS 27), defScope (topS 27), [], []⟩
def d29 : He.DefD := ⟨("is_share", none), "is_share", "is_share", defArgs (topS 29), defBody (topS 29), defScope (topS 29), [], []⟩
def d30 : He.DefD := ⟨("is_inner", none), "is_inner", "is_inner", defArgs (topS 30), defBody (topS 30), defScope (topS 30), [], []⟩
def d31 : He.DefD := ⟨("is_amount", none), "is_amount", "is_amount", defArgs (topS 31), defBody (topS 31), defScope (topS 31), [], []⟩
def d32 : He.DefD := ⟨("is_volatility", none), "is_volatility", "is_volatility", defArgs (topS 32), defBody (topS 32), defScope (topS 32), [], []⟩
def d35 : He.DefD := ⟨("is_feed", none), "is_feed", "is_feed", defArgs (topS 35), defBody (topS 35), defScope (topS 35), [], []⟩
def d36 : He.DefD := ⟨("are_feeds", none), "are_feeds", "are_feeds", defArgs (topS 36), defBody (topS 36), defScope (topS 36), [], []⟩
def d37 : He.DefD := ⟨("amount_of", none), "amount_of", "amount_of", defArgs (topS 37), defBody (topS 37), defScope (topS 37), [], []⟩
def d38 : He.DefD := ⟨("light_of", none), "light_of", "light_of", defArgs (topS 38), defBody (topS 38), defScope (topS 38), [], []⟩
def d39 : He.DefD := ⟨("wet_of", none), "wet_of", "wet_of", defArgs (topS 39), defBody (topS 39), defScope (topS 39), [], []⟩
def d40 : He.DefD := ⟨("dry_of", none), "dry_of", "dry_of", defArgs (topS 40), defBody (topS 40), defScope (topS 40), [], []⟩
def d41 : He.DefD := ⟨("rising", none), "rising", "rising", defArgs (topS 41), defBody (topS 41), defScope (topS 41), [], []⟩
def d42 : He.DefD := ⟨("flows", none), "flows", "flows", defArgs (topS 42), defBody (topS 42), defScope (topS 42), [], []⟩
def d43 : He.DefD := ⟨("sections_by", none), "sections_by", "sections_by", defArgs (topS 43), defBody (topS 43), defScope (topS 43), [], []⟩
def d44 : He.DefD := ⟨("slope_of", none), "slope_of", "slope_of", defArgs (topS 44), defBody (topS 44), defScope (topS 44), [], []⟩
def d45 : He.DefD := ⟨("crossing", none), "crossing", "crossing", defArgs (topS 45), defBody (topS 45), defScope (topS 45), [], []⟩
def d47 : He.DefD := ⟨("is_column", none), "is_column", "is_column", defArgs (topS 47), defBody (topS 47), defScope (topS 47), [], []⟩
def d48 : He.DefD := ⟨("check_column", none), "check_column", "check_column", defArgs (topS 48), defBody (topS 48), defScope (topS 48), [], []⟩
def d49 : He.DefD := ⟨("check_reflux", none), "check_reflux", "check_reflux", defArgs (topS 49), defBody (topS 49), defScope (topS 49), [], []⟩
def d50 : He.DefD := ⟨("check_both", none), "check_both", "check_both", defArgs (topS 50), defBody (topS 50), defScope (topS 50), [], []⟩
def d51 : He.DefD := ⟨("products_of", none), "products_of", "products_of", defArgs (topS 51), defBody (topS 51), defScope (topS 51), [], []⟩
def d52 : He.DefD := ⟨("sections_of", none), "sections_of", "sections_of", defArgs (topS 52), defBody (topS 52), defScope (topS 52), [], []⟩
def d54 : He.DefD := ⟨("lowest_at", none), "lowest_at", "lowest_at", defArgs (topS 54), defBody (topS 54), defScope (topS 54), [], []⟩
def d55 : He.DefD := ⟨("kinks_of", none), "kinks_of", "kinks_of", defArgs (topS 55), defBody (topS 55), defScope (topS 55), [], []⟩
def d56 : He.DefD := ⟨("is_free", none), "is_free", "is_free", defArgs (topS 56), defBody (topS 56), defScope (topS 56), [], []⟩
def d57 : He.DefD := ⟨("parts_with", none), "parts_with", "parts_with", defArgs (topS 57), defBody (topS 57), defScope (topS 57), [], []⟩
def d60 : He.DefD := ⟨("best_rows", none), "best_rows", "best_rows", defArgs (topS 60), defBody (topS 60), defScope (topS 60), [], []⟩
def d61 : He.DefD := ⟨("best_of", none), "best_of", "best_of", defArgs (topS 61), defBody (topS 61), defScope (topS 61), [], []⟩
def d62 : He.DefD := ⟨("full_shares", none), "full_shares", "full_shares", defArgs (topS 62), defBody (topS 62), defScope (topS 62), [], []⟩
def d63 : He.DefD := ⟨("best_walk", none), "best_walk", "best_walk", defArgs (topS 63), defBody (topS 63), defScope (topS 63), [], []⟩
def d64 : He.DefD := ⟨("fewest_plates", none), "fewest_plates", "fewest_plates", defArgs (topS 64), defBody (topS 64), defScope (topS 64), [], []⟩
def d65 : He.DefD := ⟨("full_reflux_walk", none), "full_reflux_walk", "full_reflux_walk", defArgs (topS 65), defBody (topS 65), defScope (topS 65), [], []⟩
def d66 : He.DefD := ⟨("full_reflux_plates", none), "full_reflux_plates", "full_reflux_plates", defArgs (topS 66), defBody (topS 66), defScope (topS 66), [], []⟩
def d68 : He.DefD := ⟨("check_number", none), "check_number", "check_number", defArgs (topS 68), defBody (topS 68), defScope (topS 68), [], []⟩
def d69 : He.DefD := ⟨("ever_within", none), "ever_within", "ever_within", defArgs (topS 69), defBody (topS 69), defScope (topS 69), [], []⟩
def d71 : He.DefD := ⟨("_law_spring", none), "_law_spring", "_law_spring", defArgs (topS 71), defBody (topS 71), defScope (topS 71), [], []⟩
def d72 : He.DefD := ⟨("_law_dip", none), "_law_dip", "_law_dip", defArgs (topS 72), defBody (topS 72), defScope (topS 72), [], []⟩
def d73 : He.DefD := ⟨("_law_any", none), "_law_any", "_law_any", defArgs (topS 73), defBody (topS 73), defScope (topS 73), [], []⟩
def d74 : He.DefD := ⟨("_law_gcd", none), "_law_gcd", "_law_gcd", defArgs (topS 74), defBody (topS 74), defScope (topS 74), [], []⟩
def d75 : He.DefD := ⟨("_law_frac", none), "_law_frac", "_law_frac", defArgs (topS 75), defBody (topS 75), defScope (topS 75), [], []⟩
def d76 : He.DefD := ⟨("_law_plus", none), "_law_plus", "_law_plus", defArgs (topS 76), defBody (topS 76), defScope (topS 76), [], []⟩
def d77 : He.DefD := ⟨("_law_less", none), "_law_less", "_law_less", defArgs (topS 77), defBody (topS 77), defScope (topS 77), [], []⟩
def d78 : He.DefD := ⟨("_law_times", none), "_law_times", "_law_times", defArgs (topS 78), defBody (topS 78), defScope (topS 78), [], []⟩
def d79 : He.DefD := ⟨("_law_over", none), "_law_over", "_law_over", defArgs (topS 79), defBody (topS 79), defScope (topS 79), [], []⟩
def d80 : He.DefD := ⟨("_law_side", none), "_law_side", "_law_side", defArgs (topS 80), defBody (topS 80), defScope (topS 80), [], []⟩
def d81 : He.DefD := ⟨("_law_sum", none), "_law_sum", "_law_sum", defArgs (topS 81), defBody (topS 81), defScope (topS 81), [], []⟩
def d82 : He.DefD := ⟨("_law_amount", none), "_law_amount", "_law_amount", defArgs (topS 82), defBody (topS 82), defScope (topS 82), [], []⟩
def d83 : He.DefD := ⟨("_law_drip", none), "_law_drip", "_law_drip", defArgs (topS 83), defBody (topS 83), defScope (topS 83), [], []⟩
def d84 : He.DefD := ⟨("_law_flows", none), "_law_flows", "_law_flows", defArgs (topS 84), defBody (topS 84), defScope (topS 84), [], []⟩
def d85 : He.DefD := ⟨("_law_under", none), "_law_under", "_law_under", defArgs (topS 85), defBody (topS 85), defScope (topS 85), [], []⟩
def d86 : He.DefD := ⟨("_law_vapour", none), "_law_vapour", "_law_vapour", defArgs (topS 86), defBody (topS 86), defScope (topS 86), [], []⟩
def d87 : He.DefD := ⟨("_law_height", none), "_law_height", "_law_height", defArgs (topS 87), defBody (topS 87), defScope (topS 87), [], []⟩
def d88 : He.DefD := ⟨("_law_wish", none), "_law_wish", "_law_wish", defArgs (topS 88), defBody (topS 88), defScope (topS 88), [], []⟩
def d89 : He.DefD := ⟨("_law_made", none), "_law_made", "_law_made", defArgs (topS 89), defBody (topS 89), defScope (topS 89), [], []⟩
def d90 : He.DefD := ⟨("_law_floor", none), "_law_floor", "_law_floor", defArgs (topS 90), defBody (topS 90), defScope (topS 90), [], []⟩
def d91 : He.DefD := ⟨("_law_lines", none), "_law_lines", "_law_lines", defArgs (topS 91), defBody (topS 91), defScope (topS 91), [], []⟩
def d92 : He.DefD := ⟨("_law_streams", none), "_law_streams", "_law_streams", defArgs (topS 92), defBody (topS 92), defScope (topS 92), [], []⟩
def d93 : He.DefD := ⟨("_law_bends", none), "_law_bends", "_law_bends", defArgs (topS 93), defBody (topS 93), defScope (topS 93), [], []⟩
def d94 : He.DefD := ⟨("_law_parts", none), "_law_parts", "_law_parts", defArgs (topS 94), defBody (topS 94), defScope (topS 94), [], []⟩
def d95 : He.DefD := ⟨("_law_rise", none), "_law_rise", "_law_rise", defArgs (topS 95), defBody (topS 95), defScope (topS 95), [], []⟩
def d96 : He.DefD := ⟨("_law_sure", none), "_law_sure", "_law_sure", defArgs (topS 96), defBody (topS 96), defScope (topS 96), [], []⟩
def d97 : He.DefD := ⟨("_law_reflux", none), "_law_reflux", "_law_reflux", defArgs (topS 97), defBody (topS 97), defScope (topS 97), [], []⟩
def d98 : He.DefD := ⟨("_law_slow", none), "_law_slow", "_law_slow", defArgs (topS 98), defBody (topS 98), defScope (topS 98), [], []⟩
def d99 : He.DefD := ⟨("_law_came", none), "_law_came", "_law_came", defArgs (topS 99), defBody (topS 99), defScope (topS 99), [], []⟩
def d100 : He.DefD := ⟨("_law_size", none), "_law_size", "_law_size", defArgs (topS 100), defBody (topS 100), defScope (topS 100), [], []⟩
def d101 : He.DefD := ⟨("_law_tenth", none), "_law_tenth", "_law_tenth", defArgs (topS 101), defBody (topS 101), defScope (topS 101), [], []⟩
def d102 : He.DefD := ⟨("_law_whole", none), "_law_whole", "_law_whole", defArgs (topS 102), defBody (topS 102), defScope (topS 102), [], []⟩
def d103 : He.DefD := ⟨("_law_next", none), "_law_next", "_law_next", defArgs (topS 103), defBody (topS 103), defScope (topS 103), [], []⟩
def d104 : He.DefD := ⟨("_law_fast", none), "_law_fast", "_law_fast", defArgs (topS 104), defBody (topS 104), defScope (topS 104), [], []⟩
def d105 : He.DefD := ⟨("_law_count", none), "_law_count", "_law_count", defArgs (topS 105), defBody (topS 105), defScope (topS 105), [], []⟩
def d106 : He.DefD := ⟨("_law_full", none), "_law_full", "_law_full", defArgs (topS 106), defBody (topS 106), defScope (topS 106), [], []⟩
def d107 : He.DefD := ⟨("_law_least", none), "_law_least", "_law_least", defArgs (topS 107), defBody (topS 107), defScope (topS 107), [], []⟩
def d108 : He.DefD := ⟨("_law_edged", none), "_law_edged", "_law_edged", defArgs (topS 108), defBody (topS 108), defScope (topS 108), [], []⟩
def d109 : He.DefD := ⟨("_law_ever_right", none), "_law_ever_right", "_law_ever_right", defArgs (topS 109), defBody (topS 109), defScope (topS 109), [], []⟩
def d110 : He.DefD := ⟨("_law_beside_right", none), "_law_beside_right", "_law_beside_right", defArgs (topS 110), defBody (topS 110), defScope (topS 110), [], []⟩
def d111 : He.DefD := ⟨("_law_one_right", none), "_law_one_right", "_law_one_right", defArgs (topS 111), defBody (topS 111), defScope (topS 111), [], []⟩
def d112 : He.DefD := ⟨("_law_right", none), "_law_right", "_law_right", defArgs (topS 112), defBody (topS 112), defScope (topS 112), [], []⟩
def d113 : He.DefD := ⟨("law", none), "law", "law", defArgs (topS 113), defBody (topS 113), defScope (topS 113), [], []⟩
def fn : List He.DefD := [d8, d9, d10, d11, d12, d16, d17, d18, d19, d20, d21, d22, d23, d25, d26, d27, d29, d30, d31, d32, d35, d36, d37, d38, d39, d40, d41, d42, d43, d44, d45, d47, d48, d49, d50, d51, d52, d54, d55, d56, d57, d60, d61, d62, d63, d64, d65, d66, d68, d69, d71, d72, d73, d74, d75, d76, d77, d78, d79, d80, d81, d82, d83, d84, d85, d86, d87, d88, d89, d90, d91, d92, d93, d94, d95, d96, d97, d98, d99, d100, d101, d102, d103, d104, d105, d106, d107, d108, d109, d110, d111, d112, d113]
def fa : List He.Fa := [.glo "is_whole", .glo "is_between", .glo "are_wholes", .glo "divisor_of", .glo "lowest", .glo "is_ratio", .glo "ratio", .glo "plus", .glo "minus", .glo "times", .glo "over", .glo "total", .glo "is_below", .glo "vapour", .glo "liquid", .glo "height_of", .glo "is_share", .glo "is_inner", .glo "is_amount", .glo "is_volatility", .glo "is_feed", .glo "are_feeds", .glo "amount_of", .glo "light_of", .glo "wet_of", .glo "dry_of", .glo "rising", .glo "flows", .glo "sections_by", .glo "slope_of", .glo "crossing", .glo "is_column", .glo "check_column", .glo "check_reflux", .glo "check_both", .glo "products_of", .glo "sections_of", .glo "lowest_at", .glo "kinks_of", .glo "is_free", .glo "parts_with", .glo "best_rows", .glo "best_of", .glo "full_shares", .glo "best_walk", .glo "fewest_plates", .glo "full_reflux_walk", .glo "full_reflux_plates", .glo "check_number", .glo "ever_within", .glo "_law_spring", .glo "_law_dip", .glo "_law_any", .glo "_law_gcd", .glo "_law_frac", .glo "_law_plus", .glo "_law_less", .glo "_law_times", .glo "_law_over", .glo "_law_side", .glo "_law_sum", .glo "_law_amount", .glo "_law_drip", .glo "_law_flows", .glo "_law_under", .glo "_law_vapour", .glo "_law_height", .glo "_law_wish", .glo "_law_made", .glo "_law_floor", .glo "_law_lines", .glo "_law_streams", .glo "_law_bends", .glo "_law_parts", .glo "_law_rise", .glo "_law_sure", .glo "_law_reflux", .glo "_law_slow", .glo "_law_came", .glo "_law_size", .glo "_law_tenth", .glo "_law_whole", .glo "_law_next", .glo "_law_fast", .glo "_law_count", .glo "_law_full", .glo "_law_least", .glo "_law_edged", .glo "_law_ever_right", .glo "_law_beside_right", .glo "_law_one_right", .glo "_law_right", .glo "law", .glo "TooMany", .glo "ZERO", .glo "ONE", .int "MOST_PLATES" 60, .int "MOST_FEEDS" 4, .exc "TooMany", .exm "TooMany" "TooMany" true, .free "isinstance", .free "int", .free "bool", .free "tuple", .free "len", .free "all", .free "range", .free "abs", .free "sum", .free "min", .free "divmod", .free "repr", .free "zip"]
/-! ### my own hook: the module's names, what their objects name -/
def exK (K : PySem.W.Frag) : Bool := He.tupB K "ZERO" [.int 0, .int 1] && He.tupB K "ONE" [.int 1, .int 1] && (match PySem.W.nsIn K mainGlobals "gcd" with
  | some (some (.builtin b)) => decide (b = "math.gcd")
  | _ => false)
def named (g : Addr → Option Obj) (a : Addr) : List Addr := match g a with
  | some o => He.refsD o
  | none => []
def asY (g : Addr → Option Obj) : List Addr := mainGlobals :: (named g mainGlobals ++ (named g mainGlobals).flatMap (named g))
def firm {α : Type} : PySem.W.Frag → (PySem.W.Frag → α) → α
  | [], k => k []
  | (a, ⟨c, d, t, l⟩) :: r, k => HandSHeadRun.frNat a fun a => firm r fun r => k ((a, ⟨c, d, t, l⟩) :: r)
theorem firm_eq {α : Type} : ∀ (K : PySem.W.Frag) (k : PySem.W.Frag → α), firm K k = k K
  | [], _ => rfl
  | (a, ⟨c, d, t, l⟩) :: r, k => by
    show HandSHeadRun.frNat a (fun a => firm r fun r => k ((a, ⟨c, d, t, l⟩) :: r)) = _
    rw [HandSHeadRun.frNat_eq, firm_eq r]
def tf : List He.Defn := [("_law_one_right", none)]
def looksY (g : Addr → Option Obj) (K : PySem.W.Frag) : He.AlD × Bool := (He.obsD fa fn K, exK K && He.tabsB g tf K)
def obsY (g : Addr → Option Obj) : He.AlD × Bool := firm (He.frT g (asY g)) (looksY g)
/-- what the head tells: a part K of the heap, the facts, one def's own table, still empty and outside of K -/
structure SaysY (h : Heap) (K : PySem.W.Frag) : Prop where
  d : He.SaysD fa fn K
  ex : exK K = true
  hd : PySem.W.codeHdIn K (He.cT K ("_law_one_right", none)).1 (He.cT K ("_law_one_right", none)).2 = true
  out : K.lookup (He.cT K ("_law_one_right", none)).2 = none
  empty : h.get? (He.cT K ("_law_one_right", none)).2 = some { cls := .none, data := .fields #[] }
theorem saysY_of {h : Heap} (e : obsY h.get? = (He.valD fn, true)) : SaysY h (He.frT h.get? (asY h.get?)) := by
  unfold obsY at e
  rw [firm_eq] at e
  generalize hK : He.frT h.get? (asY h.get?) = K at e
  have e1 : He.obsD fa fn K = He.valD fn := congrArg (fun z : He.AlD × Bool => z.1) e
  have e2 : (exK K && He.tabsB h.get? tf K) = true := congrArg (fun z : He.AlD × Bool => z.2) e
  obtain ⟨q1, q2⟩ := He.ba e2
  have q3 := List.all_eq_true.mp q2 ("_law_one_right", none) (List.mem_singleton.mpr rfl)
  obtain ⟨q4, q5⟩ := He.ba q3
  cases z : h.get? (He.cT K ("_law_one_right", none)).2 with
  | none =>
    rw [z] at q5
    cases q5
  | some o =>
    rw [z] at q5
    refine ⟨e1, q1, q4, ?_, by rw [z, He.emptyTab_eq q5]⟩
    subst hK
    exact He.frT_none z q5
def hk : PySem.W.Hook where
  α := He.AlD × Bool
  obs := fun s => obsY s.heap.get?
  val := fun _ => (He.valD fn, true)
  says := fun _ h => ∃ K : PySem.W.Frag, K.In h ∧ SaysY h K
  of := fun _ _ e => ⟨_, He.frT_in, saysY_of e⟩
  keeps := fun _ _ _ ⟨K, hK, c⟩ k => ⟨K, PySem.W.Frag.In.keeps hK k, ⟨c.d, c.ex, c.hd, c.out, k _ _ c.empty⟩⟩
abbrev R : PySem.W.OpenRow := PySem.W.OpenLaw.row PySem.Challenge.rw_stillplates_k39_whole_full_reflux
def ob (s : PySem.W.SharedT) : He.AlD × Bool := obsY (HandSHeadRun.getT s)
theorem ob_eq (s : PySem.W.SharedT) : ob s = hk.obs s.abs := by
  show obsY (HandSHeadRun.getT s) = obsY s.abs.heap.get?
  rw [show HandSHeadRun.getT s = s.abs.heap.get? from funext (HandSHeadRun.getT_eq s)]
def loose : List PySem.Str := (R.prog.main.scope.names.map (·.1)).filter fun n => !((["law", "gcd"] : List PySem.Str).contains n)
end K39
end
section
set_option Elab.async false
set_option linter.all false
set_option maxRecDepth 100000
set_option maxHeartbeats 4000000
/-! T0: specs of values (Sv), what a value is at an abstract heap (Sat), growth of heaps (Gr), expressions by specs (Ev). -/
namespace K39
open PySem PySem.Spec PyProof.Rows L2

/-! ### specs -/
inductive Sv where
  | non | bl (b : Bool) | int (i : Int) | str (x : Str) | q (r : Rat) | tup (l : List Sv) | lst (l : List Sv) | own (l : List Sv) | ref (a : Addr) | spr | scr (ns : List Int)
def Sv.rd : Sv → Sv
  | .own l => .lst l
  | r => r
def Sv.isL : Sv → Bool
  | .own _ => true
  | .lst _ => true
  | _ => false
def Sv.isO : Sv → Bool
  | .own _ => true
  | _ => false
def Sv.isN : Sv → Bool
  | .non => true
  | _ => false
/-- a tuple of the module's own -/
def KT (K : PySem.W.Frag) (a : Addr) (xs : List V) : Prop := SqT K (fun _ => none) a xs
theorem KT.sq {K : PySem.W.Frag} {a : Addr} {xs : List V} (h : KT K a xs) (H : Hp) : SqT K H a xs := by
  rcases h with (h | ⟨o, h⟩) | h
  · cases h
  · cases h
  · exact .inr h
def Tq (K : PySem.W.Frag) (H : Hp) (a : Addr) (xs : List V) : Prop := H a = some (.tup xs) ∨ KT K a xs
theorem Tq.sq {K : PySem.W.Frag} {H : Hp} {a : Addr} {xs : List V} (h : Tq K H a xs) : SqT K H a xs := by
  rcases h with h | h
  · exact SqT.of h
  · exact h.sq H
/-- the law's spring: a list of three ints, the middle one small -/
def Spr (H : Hp) (a : Addr) : Prop := ∃ x y z : Int, H a = some (.lst [.int x, .int y, .int z]) ∧ 0 ≤ y ∧ y < 2147483648
mutual
inductive Sat (K : PySem.W.Frag) (s : Option Addr) (H : Hp) : V → Sv → Prop
  | non : Sat K s H .non .non
  | bl (b : Bool) : Sat K s H (.bl b) (.bl b)
  | int (i : Int) : Sat K s H (.int i) (.int i)
  | str (x : Str) : Sat K s H (.str x) (.str x)
  | q {a : Addr} {r : Rat} : Tq K H a [.int r.num, .int (r.den : Int)] → Sat K s H (.ref a) (.q r)
  | tup {a : Addr} {vs : List V} {l : List Sv} : Tq K H a vs → SatL K s H vs l → Sat K s H (.ref a) (.tup l)
  | lst {a : Addr} {vs : List V} {l : List Sv} : H a = some (.lst vs) → s ≠ some a → SatL K s H vs l → Sat K s H (.ref a) (.lst l)
  | own {a : Addr} {vs : List V} {l : List Sv} : H a = some (.lst vs) → s ≠ some a → SatL K s H vs l → Sat K s H (.ref a) (.own l)
  | ref (a : Addr) : Sat K s H (.ref a) (.ref a)
  | spr {a : Addr} : s = some a → Spr H a → Sat K s H (.ref a) .spr
  | scr {a : Addr} {ns : List Int} : SqL K H a (ns.map V.int) → s ≠ some a → Sat K s H (.ref a) (.scr ns)
inductive SatL (K : PySem.W.Frag) (s : Option Addr) (H : Hp) : List V → List Sv → Prop
  | nil : SatL K s H [] []
  | cons {v : V} {vs : List V} {r : Sv} {l : List Sv} : Sat K s H v r → SatL K s H vs l → SatL K s H (v :: vs) (r :: l)
end
/-- what grows: all but tables of code (and the spring's three ints) stays -/
structure GrN (s : Option Addr) (H H' : Hp) : Prop where
  keep : ∀ b o, H b = some o → s ≠ some b → (∀ ps, o ≠ .tbl ps) → H' b = some o
  tups : ∀ b xs, H b = some (.tup xs) → H' b = some (.tup xs)
  spr : ∀ a, s = some a → Spr H a → Spr H' a
structure Gr (s : Option Addr) (H H' : Hp) : Prop where
  keep : ∀ b o, H b = some o → s ≠ some b → H' b = some o
  tups : ∀ b xs, H b = some (.tup xs) → H' b = some (.tup xs)
  spr : ∀ a, s = some a → Spr H a → Spr H' a
section
variable {K : PySem.W.Frag} {s : Option Addr} {H H' H2 : Hp}
theorem Gr.n (g : Gr s H H') : GrN s H H' := ⟨fun b o h n _ => g.keep b o h n, g.tups, g.spr⟩
theorem Gr.refl : Gr s H H := ⟨fun _ _ h _ => h, fun _ _ h => h, fun _ _ h => h⟩
theorem Gr.trans (g : Gr s H H') (g' : Gr s H' H2) : Gr s H H2 :=
  ⟨fun b o h n => g'.keep b o (g.keep b o h n) n, fun b xs h => g'.tups b xs (g.tups b xs h), fun a e h => g'.spr a e (g.spr a e h)⟩
theorem GrN.refl : GrN s H H := Gr.refl.n
theorem GrN.trans (g : GrN s H H') (g' : GrN s H' H2) : GrN s H H2 :=
  ⟨fun b o h n t => g'.keep b o (g.keep b o h n t) n t, fun b xs h => g'.tups b xs (g.tups b xs h), fun a e h => g'.spr a e (g.spr a e h)⟩
theorem Gr.same (g : Same H H') : Gr s H H' := ⟨fun b o h _ => g b o h, fun b xs h => g b _ h, fun a _ ⟨x, y, z, h, q⟩ => ⟨x, y, z, g _ _ h, q⟩⟩
theorem Gr.new {a : Addr} {o : HO} (n : H a = none) : Gr s H (upd H a o) := Gr.same fun b u h => by rw [upd_ne (ne_of_none h n)]; exact h
theorem Tq.mono {a : Addr} {xs : List V} (h : Tq K H a xs) (g : GrN s H H') : Tq K H' a xs := by
  rcases h with h | h
  · exact .inl (g.tups _ _ h)
  · exact .inr h
theorem sqL_mono {a : Addr} {xs : List V} (g : GrN s H H') (n : s ≠ some a) (h : SqL K H a xs) : SqL K H' a xs := by
  rcases h with (h | ⟨o, h⟩) | h
  · exact .inl (.inl (g.keep _ _ h n (fun _ z => nomatch z)))
  · exact .inl (.inr ⟨o, g.keep _ _ h n (fun _ z => nomatch z)⟩)
  · exact .inr h
mutual
theorem Sat.mono (g : GrN s H H') : ∀ {v : V} {r : Sv}, Sat K s H v r → Sat K s H' v r
  | _, _, .non => .non
  | _, _, .bl b => .bl b
  | _, _, .int i => .int i
  | _, _, .str x => .str x
  | _, _, .q h => .q (h.mono g)
  | _, _, .tup h hs => .tup (h.mono g) (SatL.mono g hs)
  | _, _, .lst h n hs => .lst (g.keep _ _ h n (fun _ z => nomatch z)) n (SatL.mono g hs)
  | _, _, .own h n hs => .own (g.keep _ _ h n (fun _ z => nomatch z)) n (SatL.mono g hs)
  | _, _, .ref a => .ref a
  | _, _, .spr e h => .spr e (g.spr _ e h)
  | _, _, .scr h n => .scr (sqL_mono g n h) n
theorem SatL.mono (g : GrN s H H') : ∀ {vs : List V} {l : List Sv}, SatL K s H vs l → SatL K s H' vs l
  | _, _, .nil => .nil
  | _, _, .cons h hs => .cons (Sat.mono g h) (SatL.mono g hs)
end
theorem Sat.rd {v : V} {r : Sv} (h : Sat K s H v r) : Sat K s H v r.rd := by
  cases h with
  | own h n hs => exact .lst h n hs
  | non => exact .non
  | bl b => exact .bl b
  | int i => exact .int i
  | str x => exact .str x
  | q h => exact .q h
  | tup h hs => exact .tup h hs
  | lst h n hs => exact .lst h n hs
  | ref a => exact .ref a
  | spr e h => exact .spr e h
  | scr h n => exact .scr h n
theorem SatL.length : ∀ {vs : List V} {l : List Sv}, SatL K s H vs l → vs.length = l.length
  | _, _, .nil => rfl
  | _, _, .cons _ hs => by rw [List.length_cons, List.length_cons, hs.length]
theorem SatL.get : ∀ {vs : List V} {l : List Sv} {i : Nat} {r : Sv}, SatL K s H vs l → l[i]? = some r → ∃ v, vs[i]? = some v ∧ Sat K s H v r
  | _, _, 0, _, .cons h _, e => by
    simp only [List.getElem?_cons_zero, Option.some.injEq] at e
    subst e
    exact ⟨_, rfl, h⟩
  | _, _, i + 1, _, .cons _ hs, e => by
    obtain ⟨v, e1, h1⟩ := SatL.get (i := i) hs (by simpa using e)
    exact ⟨v, by simpa using e1, h1⟩
theorem SatL.get' : ∀ {vs : List V} {l : List Sv} {i : Nat} {v : V}, SatL K s H vs l → vs[i]? = some v → ∃ r, l[i]? = some r ∧ Sat K s H v r
  | _, _, 0, _, .cons h _, e => by
    simp only [List.getElem?_cons_zero, Option.some.injEq] at e
    subst e
    exact ⟨_, rfl, h⟩
  | _, _, i + 1, _, .cons _ hs, e => by
    obtain ⟨v, e1, h1⟩ := SatL.get' (i := i) hs (by simpa using e)
    exact ⟨v, by simpa using e1, h1⟩
theorem SatL.snoc : ∀ {vs : List V} {l : List Sv} {v : V} {r : Sv}, SatL K s H vs l → Sat K s H v r → SatL K s H (vs ++ [v]) (l ++ [r])
  | _, _, _, _, .nil, h => .cons h .nil
  | _, _, _, _, .cons h hs, h' => .cons h (hs.snoc h')
theorem SatL.app : ∀ {vs ws : List V} {l m : List Sv}, SatL K s H vs l → SatL K s H ws m → SatL K s H (vs ++ ws) (l ++ m)
  | _, _, _, _, .nil, h => h
  | _, _, _, _, .cons h hs, h' => .cons h (hs.app h')
theorem SatL.take : ∀ {vs : List V} {l : List Sv} (n : Nat), SatL K s H vs l → SatL K s H (vs.take n) (l.take n)
  | _, _, 0, _ => .nil
  | _, _, _ + 1, .nil => .nil
  | _, _, n + 1, .cons h hs => .cons h (hs.take n)
theorem SatL.drop : ∀ {vs : List V} {l : List Sv} (n : Nat), SatL K s H vs l → SatL K s H (vs.drop n) (l.drop n)
  | _, _, 0, h => h
  | _, _, _ + 1, .nil => .nil
  | _, _, n + 1, .cons _ hs => hs.drop n
theorem SatL.ints : ∀ {vs : List V} {ns : List Int}, SatL K s H vs (ns.map Sv.int) → vs = ns.map V.int
  | _, [], h => by cases h; rfl
  | _, n :: ns, h => by
    cases h with
    | cons h hs =>
      cases h
      rw [hs.ints] <;> rfl
theorem SatL.bls : ∀ {vs : List V} {ns : List Bool}, SatL K s H vs (ns.map Sv.bl) → vs = ns.map V.bl
  | _, [], h => by cases h; rfl
  | _, n :: ns, h => by
    cases h with
    | cons h hs =>
      cases h
      rw [hs.bls] <;> rfl
theorem SatL.of_ints : ∀ (ns : List Int), SatL K s H (ns.map V.int) (ns.map Sv.int)
  | [] => .nil
  | n :: ns => .cons (.int n) (SatL.of_ints ns)
theorem Sat.tupq {v : V} {r : Rat} (h : Sat K s H v (.tup [.int r.num, .int (r.den : Int)])) : Sat K s H v (.q r) := by
  cases h with
  | tup h hs =>
    cases hs with
    | cons h1 hs =>
      cases hs with
      | cons h2 hs =>
        cases hs
        cases h1
        cases h2
        exact .q h
end

/-! ### the environment of an expression -/
structure En (K : PySem.W.Frag) (s : Option Addr) (σ : L2.St) (H : Hp) (ρ : List (Option Sv)) : Prop where
  len : σ.length = ρ.length
  at_ : ∀ (i : Nat) (r : Sv), ρ[i]? = some (some r) → ∃ v, σ[i]? = some (some v) ∧ Sat K s H v r
  spr : ∀ a, s = some a → Spr H a
theorem En.mono {K : PySem.W.Frag} {s : Option Addr} {σ : L2.St} {H H' : Hp} {ρ : List (Option Sv)} (h : En K s σ H ρ) (g : GrN s H H') : En K s σ H' ρ :=
  ⟨h.len, fun i r e => let ⟨v, e1, h1⟩ := h.at_ i r e; ⟨v, e1, h1.mono g⟩, fun a e => g.spr a e (h.spr a e)⟩

/-! ### static contexts -/
structure Sc where
  P : Program
  w : World
  K : PySem.W.Frag
  mg : Str → Option Value
  base : Heap
  N : List Str
  names : List (Str × NameKind)
  lvl : Nat
  s : Option Addr
  d : Bool
  g : Bool
  lam : Option (Addr × Addr × Str)
structure Is (X : Cx) (S : Sc) : Prop where
  P : X.prog = S.P
  w : X.w = S.w
  K : X.K = S.K
  mg : X.mg = S.mg
  base : X.base = S.base
  N : X.N = S.N
  names : X.env.scope.names = S.names
  kind : X.env.scope.kind = .function
  room : Room S.lvl X.A
  calm : X.calm = true
  nd : X.N.Nodup
  xe : X.xe = fun _ _ => False
  fn : S.d = true → ∀ x, X.fn x = true
  gd : S.g = true → X.A.guards = some []
  lm : ∀ c T q, S.lam = some (c, T, q) → X.env.code = .ref c ∧ X.env.qual = q ∧ LamX.TabB X.base X.mg c T

/-! ### weakest readings -/
section
variable {X : Cx}
structure WE (X : Cx) (e : Expr) (σ : L2.St) (H : Hp) (Q : VK) : Prop where
  run : ∀ (pins : List (Addr × Obj)) (st : Shared), Inv X pins σ H st → wpAny (model X.prog X.w) X.A (eval e X.env) (EP X pins σ Q) X.xe st
structure WT (X : Cx) (e : Expr) (σ : L2.St) (H : Hp) (Q : Bool → Hp → Prop) : Prop where
  run : ∀ (pins : List (Addr × Obj)) (st : Shared), Inv X pins σ H st → wpAny (model X.prog X.w) X.A (isTrue e X.env (eval e X.env)) (TP X pins σ Q) X.xe st
structure WW (X : Cx) (e : Expr) (σ : L2.St) (H : Hp) (Q : Bool → Hp → Prop) : Prop where
  run : ∀ (wh : Sem Value) (pins : List (Addr × Obj)) (st : Shared), Inv X pins σ H st → wpAny (model X.prog X.w) X.A (isTrue e X.env wh) (TP X pins σ Q) X.xe st
structure WA (X : Cx) (es : List Expr) (σ : L2.St) (H : Hp) (Q : List V → Hp → Prop) : Prop where
  run : ∀ (pos : Pos) (pins : List (Addr × Obj)) (st : Shared), Inv X pins σ H st → wpAny (model X.prog X.w) X.A (spliced (backTo pos (starEach es X.env))) (AP X pins σ Q) X.xe st
structure WSs (X : Cx) (ts : List Stmt) (D : Ends) (σ : L2.St) (H : Hp) : Prop where
  run : ∀ (pins : List (Addr × Obj)) (st : Shared), Inv X pins σ H st → wpAny (model X.prog X.w) X.A (execs ts X.env) (SP X pins D) X.xe st
theorem pe_W {e : Expr} : PE X e (WE X e) := ⟨fun pins s σ H Q I h => h.run pins s I⟩
theorem pt_W {e : Expr} : PT X e (WT X e) := ⟨fun pins s σ H Q I h => h.run pins s I⟩
theorem pw_W {e : Expr} : PW X e (WW X e) := ⟨fun wh pins s σ H Q I h => h.run wh pins s I⟩
theorem pa_W {es : List Expr} : PA X es (WA X es) := ⟨fun pos pins s σ H Q I h => h.run pos pins s I⟩
theorem pss_W {ts : List Stmt} : PSs X ts (WSs X ts) := ⟨fun pins s σ H Q I h => h.run pins s I⟩
theorem WE.of {e : Expr} {t : TE} {σ : L2.St} {H : Hp} {Q : VK} (h : PE X e t) (q : t σ H Q) : WE X e σ H Q := ⟨fun pins st I => PE.run h pins st σ H Q I q⟩
theorem WT.of {e : Expr} {t : TT} {σ : L2.St} {H : Hp} {Q : Bool → Hp → Prop} (h : PT X e t) (q : t σ H Q) : WT X e σ H Q := ⟨fun pins st I => PT.run h pins st σ H Q I q⟩
theorem WW.of {e : Expr} {t : TT} {σ : L2.St} {H : Hp} {Q : Bool → Hp → Prop} (h : PW X e t) (q : t σ H Q) : WW X e σ H Q := ⟨fun wh pins st I => PW.run h wh pins st σ H Q I q⟩
theorem WA.of {es : List Expr} {t : TA} {σ : L2.St} {H : Hp} {Q : List V → Hp → Prop} (h : PA X es t) (q : t σ H Q) : WA X es σ H Q := ⟨fun pos pins st I => PA.run h pos pins st σ H Q I q⟩
theorem WSs.of {ts : List Stmt} {t : TS} {σ : L2.St} {H : Hp} {D : Ends} (h : PSs X ts t) (q : t D σ H) : WSs X ts D σ H := ⟨fun pins st I => PSs.run h pins st σ H D I q⟩
end

/-! ### expressions, tests, argument lists by specs -/
def Ev (S : Sc) (e : Expr) (ρ : List (Option Sv)) (Φ : Sv → Prop) : Prop :=
  ∀ X, Is X S → ∀ (σ : L2.St) (H : Hp), En S.K S.s σ H ρ → ∀ Q : VK, (∀ v H' r, Gr S.s H H' → Sat S.K S.s H' v r → Φ r → Q v H') → WE X e σ H Q
def Et (S : Sc) (e : Expr) (ρ : List (Option Sv)) (Ψ : Bool → Prop) : Prop :=
  ∀ X, Is X S → ∀ (σ : L2.St) (H : Hp), En S.K S.s σ H ρ → ∀ Q : Bool → Hp → Prop, (∀ b H', Gr S.s H H' → Ψ b → Q b H') → WT X e σ H Q
def Ew (S : Sc) (e : Expr) (ρ : List (Option Sv)) (Ψ : Bool → Prop) : Prop :=
  ∀ X, Is X S → ∀ (σ : L2.St) (H : Hp), En S.K S.s σ H ρ → ∀ Q : Bool → Hp → Prop, (∀ b H', Gr S.s H H' → Ψ b → Q b H') → WW X e σ H Q
def Ea (S : Sc) (es : List Expr) (ρ : List (Option Sv)) (Φ : List Sv → Prop) : Prop :=
  ∀ X, Is X S → ∀ (σ : L2.St) (H : Hp), En S.K S.s σ H ρ → ∀ Q : List V → Hp → Prop, (∀ vs H' l, Gr S.s H H' → SatL S.K S.s H' vs l → Φ l → Q vs H') → WA X es σ H Q

section
variable {S : Sc} {ρ : List (Option Sv)} {Φ : Sv → Prop} {Ψ : Bool → Prop} {a b c e : Expr} {es : List Expr} {pos : Pos}

/-- a name's visibility, by the names' table -/
def Sees (S : Sc) (x : Str) : Prop := S.names.lookup x = some .local ∨ S.names.lookup x = some .cell ∨ S.names.lookup x = some .free
def Glb (S : Sc) (x : Str) : Prop := S.names.lookup x = some .globalImplicit
theorem Is.vis {X : Cx} {x : Str} (h : Is X S) (v : Sees S x) : Vis X.env.scope x := by
  unfold Vis
  rw [h.names]
  exact v
theorem Is.gl {X : Cx} {x : Str} (h : Is X S) (v : Glb S x) : Gl X x := by
  show X.env.scope.names.lookup x = _
  rw [h.names]
  exact v

theorem ev_var (i : Nat) {x : Str} {r : Sv} (hN : S.N[i]? = some x) (hv : Sees S x) (hr : ρ[i]? = some (some r)) (h : Φ r.rd)
    (hd : (x == ("__debug__" : Str)) = false := by decide +kernel) (hcd : (x == ("__classdict__" : Str)) = false := by decide +kernel) : Ev S (.Name x pos) ρ Φ := by
  intro X hX σ H hE Q k
  obtain ⟨v, e1, h1⟩ := hE.at_ i r hr
  refine WE.of (pe_var (i := i) (by rw [hX.N]; exact hN) (hX.vis hv) hd hcd) ⟨v, e1, ?_⟩
  exact k v H _ Gr.refl h1.rd h
theorem ev_int {i : Int} {j : Nat} (h : Φ (.int i)) : Ev S (.Constant (.int i) j pos) ρ Φ := by
  intro X hX σ H hE Q k
  exact WE.of pe_int (k _ H _ Gr.refl (.int i) h)
theorem ev_bl {i : Bool} {j : Nat} (h : Φ (.bl i)) : Ev S (.Constant (.bool i) j pos) ρ Φ := by
  intro X hX σ H hE Q k
  exact WE.of pe_bl (k _ H _ Gr.refl (.bl i) h)
theorem ev_non {j : Nat} (h : Φ .non) : Ev S (.Constant .none j pos) ρ Φ := by
  intro X hX σ H hE Q k
  exact WE.of pe_non (k _ H _ Gr.refl .non h)
theorem ev_str {i : Str} {j : Nat} (h : Φ (.str i)) : Ev S (.Constant (.str i) j pos) ρ Φ := by
  intro X hX σ H hE Q k
  exact WE.of pe_str (k _ H _ Gr.refl (.str i) h)
/-- a module's fraction -/
theorem ev_gq {x : Str} {u : Addr} {r : Rat} (hg : Glb S x) (hm : S.mg x = some (.ref u)) (hk : KT S.K u [.int r.num, .int (r.den : Int)]) (h : Φ (.q r))
    (hd : (x == ("__debug__" : Str)) = false := by decide +kernel) : Ev S (.Name x pos) ρ Φ := by
  intro X hX σ H hE Q k
  refine WE.of (pe_glob (v := .ref u) (hX.gl hg) (by rw [hX.mg]; exact hm) rfl hd) (k _ H _ Gr.refl (.q (.inr hk)) h)
theorem ev_gi {x : Str} {i : Int} (hg : Glb S x) (hm : ∃ t, S.mg x = some (.int i t)) (h : Φ (.int i)) (hd : (x == ("__debug__" : Str)) = false := by decide +kernel) : Ev S (.Name x pos) ρ Φ := by
  intro X hX σ H hE Q k
  obtain ⟨t, hm⟩ := hm
  refine WE.of (pe_glob (v := .int i) (hX.gl hg) (by rw [hX.mg]; exact hm) ⟨t, rfl⟩ hd) (k _ H _ Gr.refl (.int i) h)
/-- two ints by an operator -/
theorem ev_bin {op : Operator} {C : Int → Int → Prop} {g : Int → Int → Int} (ho : ∀ X : Cx, OpR X (binaryOp op) (rI C fun i j => .int (g i j)))
    (h : Ev S a ρ fun x => ∃ m, x = .int m ∧ Ev S b ρ fun y => ∃ n, y = .int n ∧ C m n ∧ Φ (.int (g m n))) : Ev S (.BinOp a op b pos) ρ Φ := by
  intro X hX σ H hE Q k
  refine WE.of (pe_op (ho X) pe_W pe_W) (h X hX σ H hE _ fun v H1 r g1 s1 ⟨m, e, h2⟩ => ?_)
  subst e
  cases s1
  refine h2 X hX σ H1 (hE.mono g1.n) _ fun v2 H2 r2 g2 s2 ⟨n, e, hc, h3⟩ => ?_
  subst e
  cases s2
  exact ⟨m, n, rfl, rfl, hc, k _ H2 _ (g1.trans g2) (.int _) h3⟩
theorem ev_bin0 {op : Operator} {g : Int → Int → Int} (ho : ∀ X : Cx, OpR X (binaryOp op) (rI0 fun i j => .int (g i j)))
    (h : Ev S a ρ fun x => ∃ m, x = .int m ∧ Ev S b ρ fun y => ∃ n, y = .int n ∧ Φ (.int (g m n))) : Ev S (.BinOp a op b pos) ρ Φ := by
  intro X hX σ H hE Q k
  refine WE.of (pe_op (ho X) pe_W pe_W) (h X hX σ H hE _ fun v H1 r g1 s1 ⟨m, e, h2⟩ => ?_)
  subst e
  cases s1
  refine h2 X hX σ H1 (hE.mono g1.n) _ fun v2 H2 r2 g2 s2 ⟨n, e, h3⟩ => ?_
  subst e
  cases s2
  exact ⟨m, n, rfl, rfl, k _ H2 _ (g1.trans g2) (.int _) h3⟩
theorem ev_add (h : Ev S a ρ fun x => ∃ m, x = .int m ∧ Ev S b ρ fun y => ∃ n, y = .int n ∧ Φ (.int (m + n))) : Ev S (.BinOp a .Add b pos) ρ Φ := ev_bin0 (fun X => op_add) h
theorem ev_sub (h : Ev S a ρ fun x => ∃ m, x = .int m ∧ Ev S b ρ fun y => ∃ n, y = .int n ∧ Φ (.int (m - n))) : Ev S (.BinOp a .Sub b pos) ρ Φ := ev_bin0 (fun X => op_sub) h
theorem ev_mul (h : Ev S a ρ fun x => ∃ m, x = .int m ∧ Ev S b ρ fun y => ∃ n, y = .int n ∧ CMulW m n ∧ Φ (.int (m * n))) : Ev S (.BinOp a .Mult b pos) ρ Φ := ev_bin (fun X => op_mulW) h
theorem ev_mod (h : Ev S a ρ fun x => ∃ m, x = .int m ∧ Ev S b ρ fun y => ∃ n, y = .int n ∧ 0 < n ∧ Φ (.int (m % n))) : Ev S (.BinOp a .Mod b pos) ρ Φ := ev_bin (C := fun _ j => 0 < j) (fun X => op_mod) h
theorem ev_div (h : Ev S a ρ fun x => ∃ m, x = .int m ∧ Ev S b ρ fun y => ∃ n, y = .int n ∧ CDivW m n ∧ Φ (.int (m / n))) : Ev S (.BinOp a .FloorDiv b pos) ρ Φ := ev_bin (fun X => op_fdivW) h
theorem ev_pow (h : Ev S a ρ fun x => ∃ m, x = .int m ∧ Ev S b ρ fun y => ∃ n, y = .int n ∧ CPow m n ∧ Φ (.int (m ^ n.toNat))) : Ev S (.BinOp a .Pow b pos) ρ Φ := ev_bin (fun X => op_pow) h
theorem ev_neg (h : Ev S a ρ fun x => ∃ m, x = .int m ∧ Φ (.int (-m))) : Ev S (.UnaryOp .USub a pos) ρ Φ := by
  intro X hX σ H hE Q k
  refine WE.of (pe_un un_neg pe_W) (h X hX σ H hE _ fun v H1 r g1 s1 ⟨m, e, h2⟩ => ?_)
  subst e
  cases s1
  exact ⟨m, rfl, k _ H1 _ g1 (.int _) h2⟩
/-- two ints compared, as a value -/
theorem ev_cmp {op : CmpOp} {p : Int → Int → Bool} (ho : ∀ X : Cx, OpR X (compareOp op) (rI0 fun i j => .bl (p i j))) (hm : behindInMarks op b = false)
    (h : Ev S a ρ fun x => ∃ m, x = .int m ∧ Ev S b ρ fun y => ∃ n, y = .int n ∧ Φ (.bl (p m n))) : Ev S (.Compare a [op] [b] pos) ρ Φ := by
  intro X hX σ H hE Q k
  refine WE.of (pe_cmpR (ho X) pe_W pe_W hm) (h X hX σ H hE _ fun v H1 r g1 s1 ⟨m, e, h2⟩ => ?_)
  subst e
  cases s1
  refine h2 X hX σ H1 (hE.mono g1.n) _ fun v2 H2 r2 g2 s2 ⟨n, e, h3⟩ => ?_
  subst e
  cases s2
  exact ⟨m, n, rfl, rfl, k _ H2 _ (g1.trans g2) (.bl _) h3⟩
theorem op_eqI (X : Cx) : OpR X (compareOp .Eq) (rI0 fun i j => .bl (decide (i = j))) := by
  intro pins s σ H x y v u Q I rx ry ⟨i, j, e1, e2, q⟩
  subst e1 e2
  refine op_eq pins s σ H _ _ v u Q I rx ry ⟨rfl, ?_⟩
  rw [show decide (V.int i = V.int j) = decide (i = j) from by rw [dec_int]; exact Bool.beq_eq_decide_eq i j]
  exact q
theorem ev_lt (h : Ev S a ρ fun x => ∃ m, x = .int m ∧ Ev S b ρ fun y => ∃ n, y = .int n ∧ Φ (.bl (decide (m < n)))) : Ev S (.Compare a [.Lt] [b] pos) ρ Φ := ev_cmp (fun X => op_lt) (nomark _) h
theorem ev_le (h : Ev S a ρ fun x => ∃ m, x = .int m ∧ Ev S b ρ fun y => ∃ n, y = .int n ∧ Φ (.bl (decide (m ≤ n)))) : Ev S (.Compare a [.LtE] [b] pos) ρ Φ := ev_cmp (fun X => op_le) (nomark _) h
theorem ev_gt (h : Ev S a ρ fun x => ∃ m, x = .int m ∧ Ev S b ρ fun y => ∃ n, y = .int n ∧ Φ (.bl (decide (n < m)))) : Ev S (.Compare a [.Gt] [b] pos) ρ Φ := ev_cmp (fun X => op_gt) (nomark _) h
theorem ev_ge (h : Ev S a ρ fun x => ∃ m, x = .int m ∧ Ev S b ρ fun y => ∃ n, y = .int n ∧ Φ (.bl (decide (n ≤ m)))) : Ev S (.Compare a [.GtE] [b] pos) ρ Φ := ev_cmp (fun X => op_ge) (nomark _) h
theorem ev_eq (h : Ev S a ρ fun x => ∃ m, x = .int m ∧ Ev S b ρ fun y => ∃ n, y = .int n ∧ Φ (.bl (decide (m = n)))) : Ev S (.Compare a [.Eq] [b] pos) ρ Φ := ev_cmp (fun X => op_eqI X) (nomark _) h
/-- as a test -/
theorem et_cmp {op : CmpOp} {p : Int → Int → Bool} (ho : ∀ X : Cx, OpR X (compareOp op) (rI0 fun i j => .bl (p i j))) (hm : behindInMarks op b = false)
    (h : Ev S a ρ fun x => ∃ m, x = .int m ∧ Ev S b ρ fun y => ∃ n, y = .int n ∧ Ψ (p m n)) : Et S (.Compare a [op] [b] pos) ρ Ψ := by
  intro X hX σ H hE Q k
  refine WT.of (pt_cmpR (ho X) pe_W pe_W hm) (h X hX σ H hE _ fun v H1 r g1 s1 ⟨m, e, h2⟩ => ?_)
  subst e
  cases s1
  refine h2 X hX σ H1 (hE.mono g1.n) _ fun v2 H2 r2 g2 s2 ⟨n, e, h3⟩ => ?_
  subst e
  cases s2
  exact ⟨m, n, rfl, rfl, _, rfl, k _ H2 (g1.trans g2) h3⟩
theorem et_lt (h : Ev S a ρ fun x => ∃ m, x = .int m ∧ Ev S b ρ fun y => ∃ n, y = .int n ∧ Ψ (decide (m < n))) : Et S (.Compare a [.Lt] [b] pos) ρ Ψ := et_cmp (fun X => op_lt) (nomark _) h
theorem et_le (h : Ev S a ρ fun x => ∃ m, x = .int m ∧ Ev S b ρ fun y => ∃ n, y = .int n ∧ Ψ (decide (m ≤ n))) : Et S (.Compare a [.LtE] [b] pos) ρ Ψ := et_cmp (fun X => op_le) (nomark _) h
theorem et_gt (h : Ev S a ρ fun x => ∃ m, x = .int m ∧ Ev S b ρ fun y => ∃ n, y = .int n ∧ Ψ (decide (n < m))) : Et S (.Compare a [.Gt] [b] pos) ρ Ψ := et_cmp (fun X => op_gt) (nomark _) h
theorem et_ge (h : Ev S a ρ fun x => ∃ m, x = .int m ∧ Ev S b ρ fun y => ∃ n, y = .int n ∧ Ψ (decide (n ≤ m))) : Et S (.Compare a [.GtE] [b] pos) ρ Ψ := et_cmp (fun X => op_ge) (nomark _) h
theorem et_eq (h : Ev S a ρ fun x => ∃ m, x = .int m ∧ Ev S b ρ fun y => ∃ n, y = .int n ∧ Ψ (decide (m = n))) : Et S (.Compare a [.Eq] [b] pos) ρ Ψ := et_cmp (fun X => op_eqI X) (nomark _) h
theorem Sat.isN {K : PySem.W.Frag} {s : Option Addr} {H : Hp} {v : V} {r : Sv} (h : Sat K s H v r) : decide (v = .non) = r.isN := by
  cases h <;> rfl
/-- x is None -/
theorem ev_isN {j : Nat} {p2 : Pos} (h : Ev S a ρ fun x => Φ (.bl x.isN)) : Ev S (.Compare a [.Is] [.Constant .none j p2] pos) ρ Φ := by
  intro X hX σ H hE Q k
  refine WE.of (pe_cmpR op_isN pe_W pe_non (nomark _)) (h X hX σ H hE _ fun v H1 r g1 s1 h2 => ⟨rfl, ?_⟩)
  rw [s1.isN]
  exact k _ H1 _ g1 (.bl _) h2
theorem et_isN {j : Nat} {p2 : Pos} (h : Ev S a ρ fun x => Ψ x.isN) : Et S (.Compare a [.Is] [.Constant .none j p2] pos) ρ Ψ := by
  intro X hX σ H hE Q k
  refine WT.of (pt_cmpR op_isN pe_W pe_non (nomark _)) (h X hX σ H hE _ fun v H1 r g1 s1 h2 => ⟨rfl, _, rfl, ?_⟩)
  rw [s1.isN]
  exact k _ H1 g1 h2
theorem ev_notN {j : Nat} {p2 : Pos} (h : Ev S a ρ fun x => Φ (.bl (!x.isN))) : Ev S (.Compare a [.IsNot] [.Constant .none j p2] pos) ρ Φ := by
  intro X hX σ H hE Q k
  refine WE.of (pe_cmpR op_notN pe_W pe_non (nomark _)) (h X hX σ H hE _ fun v H1 r g1 s1 h2 => ⟨rfl, ?_⟩)
  rw [s1.isN]
  exact k _ H1 _ g1 (.bl _) h2
/-- a value that is a bool, as a test -/
theorem et_val (he : ∀ env whole, isTrue a env whole = (do let v ← whole; standAt a.pos; holding [v] (truthy v))) (h : Ev S a ρ fun x => ∃ b, x = .bl b ∧ Ψ b) : Et S a ρ Ψ := by
  intro X hX σ H hE Q k
  refine WT.of (pt_val pe_W (he _)) (h X hX σ H hE _ fun v H1 r g1 s1 ⟨b, e, h2⟩ => ?_)
  subst e
  cases s1
  exact ⟨b, rfl, k _ H1 g1 h2⟩
theorem et_not (h : Et S a ρ fun b => Ψ (!b)) : Et S (.UnaryOp .Not a pos) ρ Ψ := by
  intro X hX σ H hE Q k
  exact WT.of (pt_not pt_W) (h X hX σ H hE _ fun b H1 g1 h2 => k _ H1 g1 h2)
theorem ew_and1 (h : Et S a ρ Ψ) : Ew S (.BoolOp .And [a] pos) ρ Ψ := by
  intro X hX σ H hE Q k
  exact WW.of (pw_and1 pt_W) (h X hX σ H hE _ k)
theorem ew_or1 (h : Et S a ρ Ψ) : Ew S (.BoolOp .Or [a] pos) ρ Ψ := by
  intro X hX σ H hE Q k
  exact WW.of (pw_or1 pt_W) (h X hX σ H hE _ k)
theorem ew_and (h : Et S a ρ fun c => if c = true then Ew S (.BoolOp .And (b :: es) pos) ρ Ψ else Ψ false) : Ew S (.BoolOp .And (a :: b :: es) pos) ρ Ψ := by
  intro X hX σ H hE Q k
  refine WW.of (pw_and pt_W pw_W) (h X hX σ H hE _ fun c H1 g1 h2 => ?_)
  cases c with
  | true => exact h2 X hX σ H1 (hE.mono g1.n) _ fun b H2 g2 h3 => k b H2 (g1.trans g2) h3
  | false => exact k _ H1 g1 h2
theorem ew_or (h : Et S a ρ fun c => if c = true then Ψ true else Ew S (.BoolOp .Or (b :: es) pos) ρ Ψ) : Ew S (.BoolOp .Or (a :: b :: es) pos) ρ Ψ := by
  intro X hX σ H hE Q k
  refine WW.of (pw_or pt_W pw_W) (h X hX σ H hE _ fun c H1 g1 h2 => ?_)
  cases c with
  | false => exact h2 X hX σ H1 (hE.mono g1.n) _ fun b H2 g2 h3 => k b H2 (g1.trans g2) h3
  | true => exact k _ H1 g1 h2
theorem et_w (h : Ew S a ρ Ψ) : Et S a ρ Ψ := by
  intro X hX σ H hE Q k
  exact WT.of pw_W.pt (h X hX σ H hE _ k)
/-- and, or, not as values -/
theorem ev_and1 (h : Ev S a ρ Φ) : Ev S (.BoolOp .And [a] pos) ρ Φ := by
  intro X hX σ H hE Q k
  exact WE.of (pe_one pe_W) (h X hX σ H hE _ k)
theorem ev_or1 (h : Ev S a ρ Φ) : Ev S (.BoolOp .Or [a] pos) ρ Φ := by
  intro X hX σ H hE Q k
  exact WE.of (pe_one pe_W) (h X hX σ H hE _ k)
theorem ev_and (h : Ev S a ρ fun x => ∃ c, x = .bl c ∧ if c = true then Ev S (.BoolOp .And (b :: es) pos) ρ Φ else Φ (.bl false)) : Ev S (.BoolOp .And (a :: b :: es) pos) ρ Φ := by
  intro X hX σ H hE Q k
  refine WE.of (pe_and pe_W pe_W) (h X hX σ H hE _ fun v H1 r g1 s1 ⟨c, e, h2⟩ => ?_)
  subst e
  cases s1
  refine ⟨c, rfl, ?_⟩
  cases c with
  | true => exact h2 X hX σ H1 (hE.mono g1.n) _ fun v H2 r g2 s2 h3 => k v H2 r (g1.trans g2) s2 h3
  | false => exact k _ H1 _ g1 (.bl _) h2
theorem ev_or (h : Ev S a ρ fun x => ∃ c, x = .bl c ∧ if c = true then Φ (.bl true) else Ev S (.BoolOp .Or (b :: es) pos) ρ Φ) : Ev S (.BoolOp .Or (a :: b :: es) pos) ρ Φ := by
  intro X hX σ H hE Q k
  refine WE.of (pe_or pe_W pe_W) (h X hX σ H hE _ fun v H1 r g1 s1 ⟨c, e, h2⟩ => ?_)
  subst e
  cases s1
  refine ⟨c, rfl, ?_⟩
  cases c with
  | false => exact h2 X hX σ H1 (hE.mono g1.n) _ fun v H2 r g2 s2 h3 => k v H2 r (g1.trans g2) s2 h3
  | true => exact k _ H1 _ g1 (.bl _) h2
theorem ev_not (h : Ev S a ρ fun x => ∃ c, x = .bl c ∧ Φ (.bl (!c))) : Ev S (.UnaryOp .Not a pos) ρ Φ := by
  intro X hX σ H hE Q k
  refine WE.of (pe_not pe_W) (h X hX σ H hE _ fun v H1 r g1 s1 ⟨c, e, h2⟩ => ?_)
  subst e
  cases s1
  exact ⟨c, rfl, k _ H1 _ g1 (.bl _) h2⟩
theorem ev_if (h : Et S c ρ fun t => if t = true then Ev S a ρ Φ else Ev S b ρ Φ) : Ev S (.IfExp c a b pos) ρ Φ := by
  intro X hX σ H hE Q k
  refine WE.of (pe_ifExp pt_W pe_W pe_W) (h X hX σ H hE _ fun t H1 g1 h2 => ?_)
  cases t with
  | true => exact h2 X hX σ H1 (hE.mono g1.n) _ fun v H2 r g2 s2 h3 => k v H2 r (g1.trans g2) s2 h3
  | false => exact h2 X hX σ H1 (hE.mono g1.n) _ fun v H2 r g2 s2 h3 => k v H2 r (g1.trans g2) s2 h3
/-- argument lists -/
theorem ea_nil {Φ : List Sv → Prop} (h : Φ []) : Ea S [] ρ Φ := by
  intro X hX σ H hE Q k
  exact WA.of pa_nil (k [] H [] Gr.refl .nil h)
theorem ea_cons {Φ : List Sv → Prop} (h : Ev S a ρ fun r => Ea S es ρ fun l => Φ (r :: l)) (hs : ∀ env, starEach (a :: es) env = (false, eval a env) :: starEach es env := by intro _; rfl) : Ea S (a :: es) ρ Φ := by
  intro X hX σ H hE Q k
  refine WA.of (pa_cons pe_W pa_W (hs _)) (h X hX σ H hE _ fun v H1 r g1 s1 h2 => ?_)
  exact h2 X hX σ H1 (hE.mono g1.n) _ fun vs H2 l g2 s2 h3 => k _ H2 _ (g1.trans g2) (.cons (s1.mono g2.n) s2) h3
/-- displays -/
theorem ev_tup {k0 : Nat} (h : Ea S es ρ fun l => l.length ≤ sizeLine ∧ Φ (.tup l)) : Ev S (.Tuple es k0 pos) ρ Φ := by
  intro X hX σ H hE Q k
  refine WE.of (pe_tup pa_W) (h X hX σ H hE _ fun vs H1 l g1 s1 ⟨hl, h2⟩ => ⟨by rw [s1.length]; exact hl, fun p hp => ?_⟩)
  have g2 : Gr S.s H1 (upd H1 p (.tup vs)) := Gr.new hp
  exact k _ _ _ (g1.trans g2) (.tup (.inl upd_same) (s1.mono g2.n)) h2
theorem ev_tupq {k0 : Nat} (h : Ea S es ρ fun l => ∃ r : Rat, l = [.int r.num, .int (r.den : Int)] ∧ Φ (.q r)) : Ev S (.Tuple es k0 pos) ρ Φ := by
  intro X hX σ H hE Q k
  refine WE.of (pe_tup pa_W) (h X hX σ H hE _ fun vs H1 l g1 s1 ⟨r, e, h2⟩ => ⟨by rw [s1.length, e]; show 2 ≤ sizeLine; decide, fun p hp => ?_⟩)
  subst e
  have g2 : Gr S.s H1 (upd H1 p (.tup vs)) := Gr.new hp
  exact k _ _ _ (g1.trans g2) (Sat.tup (.inl upd_same) (s1.mono g2.n)).tupq h2
/-- a new list is not the spring -/
theorem En.new {K : PySem.W.Frag} {s : Option Addr} {σ : L2.St} {H : Hp} {ρ : List (Option Sv)} (h : En K s σ H ρ) {p : Addr} (hp : H p = none) : s ≠ some p := fun e => by
  obtain ⟨_, _, _, q, _⟩ := h.spr p e
  rw [hp] at q
  cases q
theorem ev_lst (h : Ea S es ρ fun l => l.length ≤ sizeLine ∧ Φ (.lst l)) : Ev S (.List es pos) ρ Φ := by
  intro X hX σ H hE Q k
  refine WE.of (pe_lst pa_W) (h X hX σ H hE _ fun vs H1 l g1 s1 ⟨hl, h2⟩ => ⟨by rw [s1.length]; exact hl, fun p hp => ?_⟩)
  have g2 : Gr S.s H1 (upd H1 p (.lst vs)) := Gr.new hp
  exact k _ _ _ (g1.trans g2) (.lst upd_same ((hE.mono g1.n).new hp) (s1.mono g2.n)) h2
/-- items -/
def Sv.item : Sv → Int → Option Sv
  | .tup l, i => atI l i
  | .lst l, i => atI l i
  | .q r, i => atI [.int r.num, .int (r.den : Int)] i
  | .scr ns, i => atI (ns.map Sv.int) i
  | _, _ => none
theorem SatL.atI {K : PySem.W.Frag} {s : Option Addr} {H : Hp} {vs : List V} {l : List Sv} {i : Int} {r : Sv} (h : SatL K s H vs l) (e : atI l i = some r) : ∃ v, L2.atI vs i = some v ∧ Sat K s H v r := by
  unfold L2.atI at e ⊢
  rw [h.length]
  cases q : ixN l.length i with
  | none =>
    rw [q] at e
    cases e
  | some j =>
    rw [q] at e
    exact h.get e
theorem ev_ix (hs : PlainIx b) (h : Ev S a ρ fun x => Ev S b ρ fun y => ∃ i r, y = .int i ∧ x.item i = some r ∧ Φ r) : Ev S (.Subscript a b pos) ρ Φ := by
  intro X hX σ H hE Q k
  refine WE.of (pe_ix ix_seq pe_W pe_W hs) (h X hX σ H hE _ fun v H1 r g1 s1 h2 => ?_)
  refine h2 X hX σ H1 (hE.mono g1.n) _ fun v2 H2 r2 g2 s2 ⟨i, r', e, hi, h3⟩ => ?_
  subst e
  cases s2
  have s1' := s1.mono g2.n
  cases s1' with
  | tup ht hl =>
    obtain ⟨v', e1, h4⟩ := hl.atI (show atI _ i = some r' from hi)
    refine .inr (.inl ⟨_, _, i, v', rfl, rfl, ?_, e1, k v' H2 r' (g1.trans g2) h4 h3⟩)
    rw [hX.K]
    exact ht.sq
  | lst ht _ hl =>
    obtain ⟨v', e1, h4⟩ := hl.atI (show atI _ i = some r' from hi)
    exact .inl ⟨_, _, i, v', rfl, rfl, SqL.of ht, e1, k v' H2 r' (g1.trans g2) h4 h3⟩
  | q ht =>
    obtain ⟨v', e1, h4⟩ := SatL.atI (K := S.K) (s := S.s) (H := H2) (.cons (.int _) (.cons (.int _) .nil)) (show atI [Sv.int _, Sv.int _] i = some r' from hi)
    refine .inr (.inl ⟨_, _, i, v', rfl, rfl, ?_, e1, k v' H2 r' (g1.trans g2) h4 h3⟩)
    rw [hX.K]
    exact ht.sq
  | scr hq _ =>
    obtain ⟨v', e1, h4⟩ := SatL.atI (SatL.of_ints (K := S.K) (s := S.s) (H := H2) _) (show atI _ i = some r' from hi)
    refine .inl ⟨_, _, i, v', rfl, rfl, ?_, e1, k v' H2 r' (g1.trans g2) h4 h3⟩
    rw [hX.K]
    exact hq
  | _ => cases hi
end
end K39
end
section
set_option Elab.async false
set_option linter.all false
set_option maxRecDepth 100000
set_option maxHeartbeats 4000000
/-! T1: targets, calls, built-ins, comprehensions, slices. -/
namespace K39
open PySem PySem.Spec PyProof.Rows L2
section
variable {S : Sc} {ρ : List (Option Sv)} {Φ : Sv → Prop} {Ψ : Bool → Prop} {a b c e : Expr} {es : List Expr} {pos p : Pos} {x : Str}

/-! ### parts of a tuple -/
def Sv.parts : Sv → Option (List Sv)
  | .tup l => some l
  | .q r => some [.int r.num, .int (r.den : Int)]
  | _ => none
theorem Sat.parts {K : PySem.W.Frag} {s : Option Addr} {H : Hp} {v : V} {r : Sv} {l : List Sv} (h : Sat K s H v r) (e : r.parts = some l) : ∃ a vs, v = .ref a ∧ Tq K H a vs ∧ SatL K s H vs l := by
  cases h with
  | tup ht hl =>
    cases e
    exact ⟨_, _, rfl, ht, hl⟩
  | q ht =>
    cases e
    exact ⟨_, _, rfl, ht, .cons (.int _) (.cons (.int _) .nil)⟩
  | _ => cases e
/-- lists and tuples -/
def Sv.seq : Sv → Option (List Sv)
  | .tup l => some l
  | .lst l => some l
  | .q r => some [.int r.num, .int (r.den : Int)]
  | .scr ns => some (ns.map .int)
  | _ => none

/-! ### stores -/
def Sto (S : Sc) (x : Str) : Prop := S.names.lookup x = some .local ∨ (S.d = true ∧ S.names.lookup x = some .cell)
theorem Is.loc {X : Cx} (h : Is X S) (t : Sto S x) : L2.Loc X.env.scope x := by
  unfold L2.Loc
  rw [h.names]
  exact t.imp id fun z => z.2
theorem Is.sto {X : Cx} (h : Is X S) (t : Sto S x) : X.fn x = true ∨ X.env.scope.names.lookup x = some .local := by
  rw [h.names]
  rcases t with t | t
  · exact .inr t
  · exact .inl (h.fn t.1 x)
inductive Nms (S : Sc) : List Expr → List Nat → Prop
  | nil : Nms S [] []
  | cons {x : Str} {i : Nat} {pos : Pos} {es : List Expr} {is : List Nat} : S.N[i]? = some x → Sto S x → Nms S es is → Nms S (.Name x pos :: es) (i :: is)
def sets {α : Type} (σ : List (Option α)) : List Nat → List α → List (Option α)
  | i :: is, v :: vs => sets (σ.set i (some v)) is vs
  | _, _ => σ
def gSets (is : List Nat) : TGs := fun vs σ H Q => vs.length = is.length ∧ Q (sets σ is vs) H
theorem Nms.pgs {X : Cx} (hX : Is X S) : ∀ {es : List Expr} {is : List Nat}, Nms S es is → PGs X es (gSets is)
  | _, _, .nil => ⟨fun pins s σ H vs us Q I r h => by
      obtain ⟨e1, h⟩ := h
      have e2 : vs = [] := List.length_eq_zero_iff.mp e1
      subst e2
      exact pgs_nil.run pins s σ H [] us Q I r ⟨rfl, h⟩⟩
  | .Name x p :: es, i :: is, .cons h1 h2 h3 => ⟨fun pins s σ H vs us Q I r h => by
      obtain ⟨e1, h⟩ := h
      cases vs with
      | nil => cases e1
      | cons v vs =>
        have ih := Nms.pgs hX h3
        have hN : X.N[i]? = some x := by rw [hX.N]; exact h1
        refine (pgs_cons (pg_name (i := i) hX.nd hN (hX.loc h2) (hX.sto h2)) ih).run pins s σ H (v :: vs) us Q I r ⟨v, vs, rfl, ?_, h⟩
        exact Nat.succ.inj e1⟩
theorem Nms.len {env : Env} : ∀ {es : List Expr} {is : List Nat}, Nms S es is → (assignEach es env).length = is.length
  | _, _, .nil => rfl
  | _, _, .cons (x := x) (pos := p) (es := es) (is := is) _ _ h => by
    show (assignEach es env).length + 1 = _
    rw [h.len] <;> rfl
theorem Nms.plain {env : Env} : ∀ {es : List Expr} {is : List Nat}, Nms S es is → (assignEach es env).findIdx? (·.1) = none
  | _, _, .nil => rfl
  | _, _, .cons (x := x) (pos := p) (es := es) (is := is) _ _ h => by
    have e : assignEach (.Name x p :: es) env = (false, assign (.Name x p) env) :: assignEach es env := by rfl
    rw [e, List.findIdx?_cons]
    show (if false = true then _ else _) = _
    rw [if_neg Bool.false_ne_true, h.plain] <;> rfl
theorem Nms.pg {X : Cx} {k0 : Nat} {is : List Nat} (hX : Is X S) (h : Nms S es is) : PG X (.Tuple es k0 pos) (gTup X.K is.length (gSets is)) :=
  pg_tup (hX.calm) (h.pgs hX) h.len h.plain
theorem En.sets {K : PySem.W.Frag} {s : Option Addr} {H : Hp} : ∀ {is : List Nat} {vs : List V} {l : List Sv} {σ : L2.St} {ρ : List (Option Sv)}, En K s σ H ρ → SatL K s H vs l → En K s (sets σ is vs) H (K39.sets ρ is l)
  | [], _, _, _, _, h, _ => h
  | _ :: _, _, _, _, _, h, .nil => h
  | i :: is, v :: vs, r :: l, σ, ρ, h, .cons hv hl => by
    refine En.sets (is := is) (σ := σ.set i (some v)) (ρ := ρ.set i (some r)) ⟨?_, fun j r' e => ?_, h.spr⟩ hl
    · rw [List.length_set, List.length_set, h.len]
    · by_cases hj : i = j
      · subst hj
        by_cases hi : i < ρ.length
        · rw [List.getElem?_set_self hi] at e
          cases e
          exact ⟨v, by rw [List.getElem?_set_self (by rw [h.len]; exact hi)], hv⟩
        · rw [List.getElem?_eq_none (by rw [List.length_set]; omega)] at e
          cases e
      · rw [List.getElem?_set_ne hj] at e
        obtain ⟨v', e', h'⟩ := h.at_ j r' e
        exact ⟨v', by rw [List.getElem?_set_ne hj]; exact e', h'⟩

/-! ### calls -/
def Pm (K : PySem.W.Frag) {α : Type} (args : α → List Sv) (pre : α → Prop) (res : α → Sv → Prop) : Sp := fun vs H Q _ =>
  ∃ (s : Option Addr) (x : α), (∀ a, s = some a → Spr H a) ∧ pre x ∧ SatL K s H vs (args x) ∧ ∀ v H' r, Gr s H H' → Sat K s H' v r → res x r → Q v H'
structure Fn (P : Program) (w : World) (K : PySem.W.Frag) (mg : Str → Option Value) (base : Heap) (x : Str) (k : Nat) (ps : List Str) (sp : Sp) : Prop where
  ex : ∃ f fd, mg x = some (.ref f) ∧ PySem.W.keepIn K (.ref f) = true ∧ Binds K fd ps [] ∧ FnOk P w K mg base CX0 k f fd ps sp
theorem ev_call {α : Type} {k : Nat} {ps : List Str} {args : α → List Sv} {pre : α → Prop} {res : α → Sv → Prop} (G : Fn S.P S.w S.K S.mg S.base x k ps (Pm S.K args pre res)) (hg : Glb S x)
    (h : Ea S (e :: es) ρ fun l => ∃ z : α, args z = l ∧ pre z ∧ ∀ r, res z r → Φ r) (hl : Nat.ble k S.lvl = true := by rfl) (hdb : (x == ("__debug__" : Str)) = false := by decide +kernel)
    (he : ∀ env, starEach (e :: es) env = (false, eval e env) :: starEach es env := by intro _; rfl) (hpl : ∀ env, (backTo pos (starEach es env)).any (·.1) = false := by intro _; rfl) : Ev S (.Call (.Name x p) (e :: es) [] pos) ρ Φ := by
  intro X hX σ H hE Q k'
  obtain ⟨f, fd, hm, hk, hb, F⟩ := G.ex
  have F' : FnOk X.prog X.w X.K X.mg X.base CX0 k f fd ps (Pm S.K args pre res) := by rw [hX.P, hX.w, hX.K, hX.mg, hX.base]; exact F
  have hb' : Binds X.K fd ps [] := by rw [hX.K]; exact hb
  refine WE.of (pe_call F' (hX.room.mono (Nat.le_of_ble_eq_true hl)) (hX.gl hg) (by rw [hX.mg]; exact hm) (by rw [hX.K]; exact hk) hb' .nil pass0 pa_W hdb (he _) (hpl _)) ?_
  refine h X hX σ H hE _ fun vs H1 l g1 s1 ⟨z, e1, h1, h2⟩ => ?_
  subst e1
  rw [List.append_nil]
  exact ⟨S.s, z, (hE.mono g1.n).spr, h1, s1, fun v H2 r g2 s2 h3 => k' v H2 r (g1.trans g2) s2 (h2 r h3)⟩
/-- the same where the result is a function -/
theorem ev_callf {α : Type} {k : Nat} {ps : List Str} {args : α → List Sv} {pre : α → Prop} {f : α → Sv} (G : Fn S.P S.w S.K S.mg S.base x k ps (Pm S.K args pre fun z r => r = f z)) (hg : Glb S x)
    (h : Ea S (e :: es) ρ fun l => ∃ z : α, args z = l ∧ pre z ∧ Φ (f z)) (hl : Nat.ble k S.lvl = true := by rfl) (hdb : (x == ("__debug__" : Str)) = false := by decide +kernel)
    (he : ∀ env, starEach (e :: es) env = (false, eval e env) :: starEach es env := by intro _; rfl) (hpl : ∀ env, (backTo pos (starEach es env)).any (·.1) = false := by intro _; rfl) : Ev S (.Call (.Name x p) (e :: es) [] pos) ρ Φ := by
  refine ev_call G hg ?_ hl hdb he hpl
  intro X hX σ H hE Q k'
  exact h X hX σ H hE Q fun vs H1 l g1 s1 ⟨z, e1, h1, h2⟩ => k' vs H1 l g1 s1 ⟨z, e1, h1, fun r e2 => by rw [e2]; exact h2⟩

/-! ### built-ins -/
/-- a built-in function by its name, from its rule -/
theorem ev_blt {id : String} {r : Cx → List V → Hp → VK → Prop} (hc : ∀ X : Cx, Is X S → CallR X (.builtin id) (r X)) (hg : Glb S x) (hm : S.mg x = none) (hv : bootBuiltins x = some (.builtin id)) {Φa : List Sv → Prop} (h : Ea S (e :: es) ρ Φa)
    (hr : ∀ X, Is X S → ∀ (σ : L2.St) (vs : List V) (H : Hp) (l : List Sv) (Q : VK), En S.K S.s σ H ρ → SatL S.K S.s H vs l → Φa l → (∀ v H' r, Gr S.s H H' → Sat S.K S.s H' v r → Φ r → Q v H') → r X vs H Q)
    (hn : x ≠ "__name__" := by decide +kernel) (hdb : (x == ("__debug__" : Str)) = false := by decide +kernel)
    (he : ∀ env, starEach (e :: es) env = (false, eval e env) :: starEach es env := by intro _; rfl) (hpl : ∀ env, (backTo pos (starEach es env)).any (·.1) = false := by intro _; rfl) : Ev S (.Call (.Name x p) (e :: es) [] pos) ρ Φ := by
  intro X hX σ H hE Q k
  refine WE.of (pe_callB (hc X hX) (hX.gl hg) (by rw [hX.mg]; exact hm) hv pa_W hn hdb (he _) (hpl _)) ?_
  refine h X hX σ H hE _ fun vs H1 l g1 s1 h1 => ?_
  exact hr X hX σ vs H1 l Q (hE.mono g1.n) s1 h1 fun v H2 r g2 s2 h2 => k v H2 r (g1.trans g2) s2 h2
theorem ev_bty {id : String} {r : Cx → List V → Hp → VK → Prop} (hc : ∀ X : Cx, Is X S → CallR X (.type id) (r X)) (hg : Glb S x) (hm : S.mg x = none) (hv : bootBuiltins x = some (.type id)) {Φa : List Sv → Prop} (h : Ea S (e :: es) ρ Φa)
    (hr : ∀ X, Is X S → ∀ (σ : L2.St) (vs : List V) (H : Hp) (l : List Sv) (Q : VK), En S.K S.s σ H ρ → SatL S.K S.s H vs l → Φa l → (∀ v H' r, Gr S.s H H' → Sat S.K S.s H' v r → Φ r → Q v H') → r X vs H Q)
    (hn : x ≠ "__name__" := by decide +kernel) (hdb : (x == ("__debug__" : Str)) = false := by decide +kernel)
    (he : ∀ env, starEach (e :: es) env = (false, eval e env) :: starEach es env := by intro _; rfl) (hpl : ∀ env, (backTo pos (starEach es env)).any (·.1) = false := by intro _; rfl) : Ev S (.Call (.Name x p) (e :: es) [] pos) ρ Φ := by
  intro X hX σ H hE Q k
  refine WE.of (pe_callTy (hc X hX) (hX.gl hg) (by rw [hX.mg]; exact hm) hv pa_W hn hdb (he _) (hpl _)) ?_
  refine h X hX σ H hE _ fun vs H1 l g1 s1 h1 => ?_
  exact hr X hX σ vs H1 l Q (hE.mono g1.n) s1 h1 fun v H2 r g2 s2 h2 => k v H2 r (g1.trans g2) s2 h2
theorem Ev.imp {Φ' : Sv → Prop} (h : Ev S a ρ Φ) (i : ∀ r, Φ r → Φ' r) : Ev S a ρ Φ' := fun X hX σ H hE Q k => h X hX σ H hE Q fun v H' r g s q => k v H' r g s (i r q)
theorem Ea.imp {Φ Φ' : List Sv → Prop} (h : Ea S es ρ Φ) (i : ∀ r, Φ r → Φ' r) : Ea S es ρ Φ' := fun X hX σ H hE Q k => h X hX σ H hE Q fun v H' r g s q => k v H' r g s (i r q)
theorem Et.imp {Ψ' : Bool → Prop} (h : Et S a ρ Ψ) (i : ∀ r, Ψ r → Ψ' r) : Et S a ρ Ψ' := fun X hX σ H hE Q k => h X hX σ H hE Q fun v H' g q => k v H' g (i v q)
theorem ea_one {Φ : List Sv → Prop} (h : Ev S a ρ fun r => Φ [r]) (hs : ∀ env, starEach [a] env = (false, eval a env) :: starEach [] env := by intro _; rfl) : Ea S [a] ρ Φ :=
  ea_cons (h.imp fun _ q => ea_nil q) hs
theorem Sat.seq {K : PySem.W.Frag} {s : Option Addr} {H : Hp} {v : V} {r : Sv} {l : List Sv} (h : Sat K s H v r) (e : r.seq = some l) : ∃ a vs, v = .ref a ∧ (SqL K H a vs ∨ SqT K H a vs) ∧ SatL K s H vs l := by
  cases h with
  | tup ht hl =>
    cases e
    exact ⟨_, _, rfl, .inr ht.sq, hl⟩
  | q ht =>
    cases e
    exact ⟨_, _, rfl, .inr ht.sq, .cons (.int _) (.cons (.int _) .nil)⟩
  | lst ht _ hl =>
    cases e
    exact ⟨_, _, rfl, .inl (SqL.of ht), hl⟩
  | scr hq _ =>
    cases e
    exact ⟨_, _, rfl, .inl hq, SatL.of_ints _⟩
  | _ => cases e
theorem SatL.one {K : PySem.W.Frag} {s : Option Addr} {H : Hp} {vs : List V} {r : Sv} (h : SatL K s H vs [r]) : ∃ v, vs = [v] ∧ Sat K s H v r := by
  cases h with
  | cons h1 h2 =>
    cases h2
    exact ⟨_, rfl, h1⟩
theorem SatL.two {K : PySem.W.Frag} {s : Option Addr} {H : Hp} {vs : List V} {r t : Sv} (h : SatL K s H vs [r, t]) : ∃ v w, vs = [v, w] ∧ Sat K s H v r ∧ Sat K s H w t := by
  cases h with
  | cons h1 h2 =>
    obtain ⟨w, e, h3⟩ := h2.one
    exact ⟨_, w, by rw [e], h1, h3⟩
/-- len -/
theorem ev_len (hg : Glb S "len") (hm : S.mg "len" = none) (h : Ev S a ρ fun x => ∃ l, x.seq = some l ∧ Φ (.int l.length)) (hs : ∀ env, starEach [a] env = (false, eval a env) :: starEach [] env := by intro _; rfl) : Ev S (.Call (.Name "len" p) [a] [] pos) ρ Φ := by
  refine ev_blt (id := "len") (fun X _ => call_len_seq) hg hm PySem.boot_len (Φa := fun l => ∃ y m, l = [y] ∧ y.seq = some m ∧ Φ (.int m.length)) (ea_one (h.imp fun r ⟨m, e1, e2⟩ => ⟨r, m, rfl, e1, e2⟩) hs) ?_ (he := hs)
  rintro X hX σ vs H l Q hE s1 ⟨y, m, rfl, e1, e2⟩ k
  obtain ⟨v, rfl, h1⟩ := s1.one
  obtain ⟨a, ws, rfl, h2, h3⟩ := h1.seq e1
  refine ⟨a, ws, rfl, by rw [hX.K]; exact h2, ?_⟩
  rw [h3.length]
  exact k _ H _ Gr.refl (.int _) e2
/-- tuple of a list: a new tuple; of a tuple: itself -/
theorem ev_tuple (hg : Glb S "tuple") (hm : S.mg "tuple" = none) (h : Ev S a ρ fun x => (∃ l, x = .lst l ∧ Φ (.tup l)) ∨ (∃ l, x.parts = some l ∧ Φ x)) (hs : ∀ env, starEach [a] env = (false, eval a env) :: starEach [] env := by intro _; rfl) : Ev S (.Call (.Name "tuple" p) [a] [] pos) ρ Φ := by
  refine ev_bty (id := "tuple") (fun X _ => call_tuple_of) hg hm (by decide +kernel) (Φa := fun l => ∃ y, l = [y] ∧ ((∃ l, y = .lst l ∧ Φ (.tup l)) ∨ (∃ l, y.parts = some l ∧ Φ y))) (ea_one (h.imp fun r q => ⟨r, rfl, q⟩) hs) ?_ (he := hs)
  rintro X hX σ vs H l Q hE s1 ⟨y, rfl, e2⟩ k
  obtain ⟨v, rfl, h1⟩ := s1.one
  rcases e2 with ⟨m, rfl, e2⟩ | ⟨m, e1, e2⟩
  · cases h1 with
    | @lst _ ws _ ht _ hl =>
      refine ⟨_, _, rfl, .inl ⟨SqL.of ht, fun q hq => ?_⟩⟩
      have g := Gr.new (s := S.s) (o := .tup ws) hq
      exact k _ _ _ g (.tup (.inl upd_same) (hl.mono g.n)) e2
  · obtain ⟨a, ws, rfl, h2, h3⟩ := h1.parts e1
    refine ⟨a, ws, rfl, .inr ⟨by rw [hX.K]; exact h2.sq, k _ H _ Gr.refl h1 e2⟩⟩
/-- the same, the tuple a fraction -/
theorem ev_tupleq (hg : Glb S "tuple") (hm : S.mg "tuple" = none) (h : Ev S a ρ fun x => ∃ r : Rat, x = .lst [.int r.num, .int (r.den : Int)] ∧ Φ (.q r)) (hs : ∀ env, starEach [a] env = (false, eval a env) :: starEach [] env := by intro _; rfl) : Ev S (.Call (.Name "tuple" p) [a] [] pos) ρ Φ := by
  refine ev_bty (id := "tuple") (fun X _ => call_tuple_of) hg hm (by decide +kernel) (Φa := fun l => ∃ r : Rat, l = [.lst [.int r.num, .int (r.den : Int)]] ∧ Φ (.q r)) (ea_one (h.imp fun r ⟨z, e, q⟩ => ⟨z, by rw [e], q⟩) hs) ?_ (he := hs)
  rintro X hX σ vs H l Q hE s1 ⟨r, rfl, e2⟩ k
  obtain ⟨v, rfl, h1⟩ := s1.one
  cases h1 with
  | @lst _ ws _ ht _ hl =>
    refine ⟨_, _, rfl, .inl ⟨SqL.of ht, fun q hq => ?_⟩⟩
    have g := Gr.new (s := S.s) (o := .tup ws) hq
    exact k _ _ _ g (Sat.tup (.inl upd_same) (hl.mono g.n)).tupq e2
theorem ev_all (hg : Glb S "all") (hm : S.mg "all" = none) (h : Ev S a ρ fun x => ∃ bs : List Bool, x = .lst (bs.map .bl) ∧ Φ (.bl (bs.all id))) (hs : ∀ env, starEach [a] env = (false, eval a env) :: starEach [] env := by intro _; rfl) : Ev S (.Call (.Name "all" p) [a] [] pos) ρ Φ := by
  refine ev_blt (id := "all") (fun X hX => cr_all hX.calm) hg hm (by decide +kernel) (Φa := fun l => ∃ bs : List Bool, l = [.lst (bs.map .bl)] ∧ Φ (.bl (bs.all id))) (ea_one (h.imp fun r ⟨bs, e1, e2⟩ => ⟨bs, by rw [e1], e2⟩) hs) ?_ (he := hs)
  rintro X hX σ vs H l Q hE s1 ⟨bs, rfl, e2⟩ k
  obtain ⟨v, rfl, h1⟩ := s1.one
  cases h1 with
  | lst ht _ hl =>
    rw [hl.bls] at ht
    exact ⟨_, bs, rfl, SqL.of ht, k _ H _ Gr.refl (.bl _) e2⟩
theorem ev_sum (hg : Glb S "sum") (hm : S.mg "sum" = none) (h : Ev S a ρ fun x => ∃ ns : List Int, x = .lst (ns.map .int) ∧ Φ (.int ns.sum)) (hs : ∀ env, starEach [a] env = (false, eval a env) :: starEach [] env := by intro _; rfl) : Ev S (.Call (.Name "sum" p) [a] [] pos) ρ Φ := by
  refine ev_blt (id := "sum") (fun X hX => cr_sum hX.calm) hg hm (by decide +kernel) (Φa := fun l => ∃ ns : List Int, l = [.lst (ns.map .int)] ∧ Φ (.int ns.sum)) (ea_one (h.imp fun r ⟨bs, e1, e2⟩ => ⟨bs, by rw [e1], e2⟩) hs) ?_ (he := hs)
  rintro X hX σ vs H l Q hE s1 ⟨bs, rfl, e2⟩ k
  obtain ⟨v, rfl, h1⟩ := s1.one
  cases h1 with
  | lst ht _ hl =>
    rw [hl.ints] at ht
    exact ⟨_, bs, rfl, SqL.of ht, k _ H _ Gr.refl (.int _) e2⟩
theorem ev_min (hg : Glb S "min") (hm : S.mg "min" = none) (h : Ev S a ρ fun x => ∃ ns : List Int, x = .lst (ns.map .int) ∧ 0 < ns.length ∧ ∀ m, m ∈ ns → (∀ y, y ∈ ns → m ≤ y) → Φ (.int m)) (hs : ∀ env, starEach [a] env = (false, eval a env) :: starEach [] env := by intro _; rfl) : Ev S (.Call (.Name "min" p) [a] [] pos) ρ Φ := by
  refine ev_blt (id := "min") (fun X hX => cr_min hX.calm) hg hm (by decide +kernel) (Φa := fun l => ∃ ns : List Int, l = [.lst (ns.map .int)] ∧ 0 < ns.length ∧ ∀ m, m ∈ ns → (∀ y, y ∈ ns → m ≤ y) → Φ (.int m)) (ea_one (h.imp fun r ⟨bs, e1, e2⟩ => ⟨bs, by rw [e1], e2⟩) hs) ?_ (he := hs)
  rintro X hX σ vs H l Q hE s1 ⟨bs, rfl, e1, e2⟩ k
  obtain ⟨v, rfl, h1⟩ := s1.one
  cases h1 with
  | lst ht _ hl =>
    rw [hl.ints] at ht
    exact ⟨_, bs, rfl, SqL.of ht, e1, fun m h3 h4 => k _ H _ Gr.refl (.int _) (e2 m h3 h4)⟩
theorem ev_abs (hg : Glb S "abs") (hm : S.mg "abs" = none) (h : Ev S a ρ fun x => ∃ i : Int, x = .int i ∧ Φ (.int (i.natAbs : Int))) (hs : ∀ env, starEach [a] env = (false, eval a env) :: starEach [] env := by intro _; rfl) : Ev S (.Call (.Name "abs" p) [a] [] pos) ρ Φ := by
  refine ev_blt (id := "abs") (fun X hX => call_abs) hg hm (by decide +kernel) (Φa := fun l => ∃ i : Int, l = [.int i] ∧ Φ (.int (i.natAbs : Int))) (ea_one (h.imp fun r ⟨bs, e1, e2⟩ => ⟨bs, by rw [e1], e2⟩) hs) ?_ (he := hs)
  rintro X hX σ vs H l Q hE s1 ⟨i, rfl, e2⟩ k
  obtain ⟨v, rfl, h1⟩ := s1.one
  cases h1
  refine ⟨i, rfl, ?_⟩
  rw [show (if i < 0 then -i else i) = (i.natAbs : Int) from by split <;> omega]
  exact k _ H _ Gr.refl (.int _) e2
theorem ev_toint (hg : Glb S "int") (hm : S.mg "int" = none) (h : Ev S a ρ fun x => ∃ i : Int, x = .int i ∧ Φ (.int i)) (hs : ∀ env, starEach [a] env = (false, eval a env) :: starEach [] env := by intro _; rfl) : Ev S (.Call (.Name "int" p) [a] [] pos) ρ Φ := by
  refine ev_bty (id := "int") (fun X hX => call_int1) hg hm (by decide +kernel) (Φa := fun l => ∃ i : Int, l = [.int i] ∧ Φ (.int i)) (ea_one (h.imp fun r ⟨bs, e1, e2⟩ => ⟨bs, by rw [e1], e2⟩) hs) ?_ (he := hs)
  rintro X hX σ vs H l Q hE s1 ⟨i, rfl, e2⟩ k
  obtain ⟨v, rfl, h1⟩ := s1.one
  cases h1
  exact .inl ⟨i, rfl, k _ H _ Gr.refl (.int _) e2⟩
theorem ev_divmod (hg : Glb S "divmod") (hm : S.mg "divmod" = none) (h : Ev S a ρ fun x => ∃ i : Int, x = .int i ∧ Ev S b ρ fun y => ∃ j : Int, y = .int j ∧ CDiv i j ∧ Φ (.tup [.int (i / j), .int (i % j)]))
    (hs : ∀ env, starEach [a, b] env = (false, eval a env) :: starEach [b] env := by intro _; rfl) (hs2 : ∀ env, starEach [b] env = (false, eval b env) :: starEach [] env := by intro _; rfl) (hpl : ∀ env, (backTo pos (starEach [b] env)).any (·.1) = false := by intro _; rfl) : Ev S (.Call (.Name "divmod" p) [a, b] [] pos) ρ Φ := by
  refine ev_blt (id := "divmod") (fun X hX => call_divmod) hg hm (by decide +kernel) (Φa := fun l => ∃ i j : Int, l = [.int i, .int j] ∧ CDiv i j ∧ Φ (.tup [.int (i / j), .int (i % j)])) (ea_cons (h.imp fun r ⟨i, e1, e2⟩ => ea_one (e2.imp fun r2 ⟨j, e3, e4, e5⟩ => ⟨i, j, by rw [e1, e3], e4, e5⟩) hs2) hs) ?_ (he := hs) (hpl := hpl)
  rintro X hX σ vs H l Q hE s1 ⟨i, j, rfl, hc, e2⟩ k
  obtain ⟨v, w, rfl, h1, h2⟩ := s1.two
  cases h1
  cases h2
  refine ⟨i, j, rfl, hc, fun q hq => ?_⟩
  have g := Gr.new (s := S.s) (o := .tup [.int (i / j), .int (i % j)]) hq
  exact k _ _ _ g (.tup (.inl upd_same) (.cons (.int _) (.cons (.int _) .nil))) e2
/-- math.gcd by the module's name -/
theorem ev_gcd (hg : Glb S "gcd") (hm : S.mg "gcd" = some (.builtin "math.gcd")) (h : Ev S a ρ fun x => ∃ i : Int, x = .int i ∧ Ev S b ρ fun y => ∃ j : Int, y = .int j ∧ Φ (.int ((Nat.gcd i.natAbs j.natAbs : Nat) : Int)))
    (hs : ∀ env, starEach [a, b] env = (false, eval a env) :: starEach [b] env := by intro _; rfl) (hs2 : ∀ env, starEach [b] env = (false, eval b env) :: starEach [] env := by intro _; rfl) (hpl : ∀ env, (backTo pos (starEach [b] env)).any (·.1) = false := by intro _; rfl) : Ev S (.Call (.Name "gcd" p) [a, b] [] pos) ρ Φ := by
  intro X hX σ H hE Q k
  refine WE.of (pe_callBfun cr_gcd (hX.gl hg) (by rw [hX.mg]; exact hm) pa_W (by decide +kernel) (hs _) (hpl _)) ?_
  have h' : Ea S [a, b] ρ fun l => ∃ i j : Int, l = [.int i, .int j] ∧ Φ (.int ((Nat.gcd i.natAbs j.natAbs : Nat) : Int)) := ea_cons (h.imp fun r ⟨i, e1, e2⟩ => ea_one (e2.imp fun r2 ⟨j, e3, e5⟩ => ⟨i, j, by rw [e1, e3], e5⟩) hs2) hs
  refine h' X hX σ H hE _ fun vs H1 l g1 s1 ⟨i, j, e1, h1⟩ => ?_
  subst e1
  obtain ⟨v, w, rfl, h2, h3⟩ := s1.two
  cases h2
  cases h3
  exact ⟨i, j, rfl, k _ H1 _ g1 (.int _) h1⟩
/-- isinstance of a built-in class -/
def Sv.ty : Sv → Option String
  | .non => some "NoneType"
  | .bl _ => some "bool"
  | .int _ => some "int"
  | .str _ => some "str"
  | .q _ => some "tuple"
  | .tup _ => some "tuple"
  | .lst _ => some "list"
  | _ => none
theorem Tq.tyx {K : PySem.W.Frag} {H : Hp} {a : Addr} {xs : List V} (h : Tq K H a xs) : TyX K H (.ref a) (.type "tuple") := by
  rcases h with h | h
  · exact .base (.tup h)
  · rcases h with (h | ⟨o, h⟩) | ⟨o, its, n, h1, h2, _⟩
    · cases h
    · cases h
    · exact .kTuple h1 h2
theorem Sat.ty {K : PySem.W.Frag} {s : Option Addr} {H : Hp} {v : V} {r : Sv} {T : String} (h : Sat K s H v r) (e : r.ty = some T) : TyX K H v (.type T) := by
  cases h with
  | non => cases e; exact .base .non
  | bl b => cases e; exact .base (.bl b)
  | int i => cases e; exact .base (.int i)
  | str x => cases e; exact .base (.str x)
  | q ht => cases e; exact ht.tyx
  | tup ht _ => cases e; exact ht.tyx
  | lst ht _ _ => cases e; exact .base (.lst ht)
  | own _ _ _ => cases e
  | ref a => cases e
  | spr _ _ => cases e
  | scr _ _ => cases e
theorem ev_isi {T T' : String} {y : Str} {p2 : Pos} {r : Bool} (hg : Glb S "isinstance") (hm : S.mg "isinstance" = none) (hg2 : Glb S y) (hm2 : S.mg y = none) (hv2 : bootBuiltins y = some (.type T)) (hk : ∀ K, PySem.W.kitOne K (.type T') (.type T) = some r)
    (h : Ev S a ρ fun x => x.ty = some T' ∧ Φ (.bl r)) (hn : y ≠ "__name__" := by decide +kernel) (hdb : (y == ("__debug__" : Str)) = false := by decide +kernel)
    (hs : ∀ env, starEach [a, .Name y p2] env = (false, eval a env) :: starEach [.Name y p2] env := by intro _; rfl) : Ev S (.Call (.Name "isinstance" p) [a, .Name y p2] [] pos) ρ Φ := by
  intro X hX σ H hE Q k
  have he : starEach [.Name y p2] X.env = (false, eval (.Name y p2) X.env) :: starEach [] X.env := by rfl
  refine WE.of (pe_callB call_isi (hX.gl hg) (by rw [hX.mg]; exact hm) (by decide +kernel) (pa_cons pe_W (pa_cons (pe_bltn (v := .ty T) (hX.gl hg2) (by rw [hX.mg]; exact hm2) hv2 rfl hn hdb) pa_nil he) (hs _)) (by decide +kernel) (by decide +kernel) (hs _) (by rfl)) ?_
  refine h X hX σ H hE _ fun v H1 r' g1 s1 ⟨e1, h1⟩ => ?_
  refine ⟨v, .ty T, .type T', .type T, r, rfl, .ty T, ?_, hk _, k _ H1 _ g1 (.bl _) h1⟩
  rw [hX.K]
  exact s1.ty e1
end
end K39
end
section
set_option Elab.async false
set_option linter.all false
set_option maxRecDepth 100000
set_option maxHeartbeats 4000000
/-! T2: flat values, comprehensions, slices, sums of tuples and lists, keyword calls. -/
namespace K39
open PySem PySem.Spec PyProof.Rows L2
mutual
def Sv.flat : Sv → Bool
  | .tup l => Sv.flatL l
  | .lst _ => false
  | .own _ => false
  | .scr _ => false
  | _ => true
def Sv.flatL : List Sv → Bool
  | [] => true
  | r :: l => Sv.flat r && Sv.flatL l
end
theorem flatL_of : ∀ {l : List Sv}, (∀ r ∈ l, r.flat = true) → Sv.flatL l = true
  | [], _ => rfl
  | r :: l, h => by
    show (Sv.flat r && Sv.flatL l) = true
    rw [h r List.mem_cons_self, flatL_of fun z hz => h z (List.mem_cons_of_mem _ hz)]
    rfl
theorem of_flatL : ∀ {l : List Sv}, Sv.flatL l = true → ∀ r ∈ l, r.flat = true
  | [], _, _, h => by cases h
  | r :: l, e, z, h => by
    have e' : (Sv.flat r && Sv.flatL l) = true := e
    obtain ⟨e1, e2⟩ := Bool.and_eq_true_iff.mp e'
    rcases List.mem_cons.mp h with h | h
    · rw [h]; exact e1
    · exact of_flatL e2 z h
section
variable {K : PySem.W.Frag} {s : Option Addr} {H H' : Hp}
mutual
theorem Sat.keepF (ht : ∀ b xs, H b = some (.tup xs) → H' b = some (.tup xs)) (hs : ∀ a, s = some a → Spr H a → Spr H' a) : ∀ {v : V} {r : Sv}, r.flat = true → Sat K s H v r → Sat K s H' v r
  | _, _, _, .non => .non
  | _, _, _, .bl b => .bl b
  | _, _, _, .int i => .int i
  | _, _, _, .str x => .str x
  | _, _, _, .q h => .q (h.imp (ht _ _) id)
  | _, .tup l, e, .tup h hl => .tup (h.imp (ht _ _) id) (SatL.keepF ht hs e hl)
  | _, _, e, .lst _ _ _ => by cases e
  | _, _, e, .own _ _ _ => by cases e
  | _, _, _, .ref a => .ref a
  | _, _, _, .spr e h => .spr e (hs _ e h)
  | _, _, e, .scr _ _ => by cases e
theorem SatL.keepF (ht : ∀ b xs, H b = some (.tup xs) → H' b = some (.tup xs)) (hs : ∀ a, s = some a → Spr H a → Spr H' a) : ∀ {vs : List V} {l : List Sv}, Sv.flatL l = true → SatL K s H vs l → SatL K s H' vs l
  | _, _, _, .nil => .nil
  | _, r :: l, e, .cons h hl => by
    obtain ⟨e1, e2⟩ := Bool.and_eq_true_iff.mp (show (Sv.flat r && Sv.flatL l) = true from e)
    exact .cons (Sat.keepF ht hs e1 h) (SatL.keepF ht hs e2 hl)
end
/-- a list of ours is written -/
theorem Gr.put {D : Addr} {xs ys : List V} (h : H D = some (.lst xs)) (n : s ≠ some D) : (∀ b zs, H b = some (.tup zs) → upd H D (.lst ys) b = some (.tup zs)) ∧ ∀ a, s = some a → Spr H a → Spr (upd H D (.lst ys)) a := by
  refine ⟨fun b zs e => ?_, fun a e ⟨x, y, z, q, r⟩ => ⟨x, y, z, ?_, r⟩⟩
  · rw [upd_ne (ne_of e h (by intro z; cases z))]
    exact e
  · have na : a ≠ D := fun z => n (by rw [← z]; exact e)
    rw [upd_ne na]
    exact q
end
/-! ### slots wiped -/
def wipeR (ρ : List (Option Sv)) : List Nat → List (Option Sv)
  | [] => ρ
  | v :: vs => (wipeR ρ vs).set v none
theorem wipe_get {σ : L2.St} {i : Nat} : ∀ {vs : List Nat}, i ∉ vs → (wipe σ vs)[i]? = σ[i]?
  | [], _ => rfl
  | v :: vs, h => by
    have h1 : v ≠ i := fun e => h (by rw [e]; exact List.mem_cons_self)
    show ((wipe σ vs).set v none)[i]? = _
    rw [List.getElem?_set_ne h1]
    exact wipe_get fun e => h (List.mem_cons_of_mem _ e)
theorem wipe_in {σ : L2.St} {i : Nat} : ∀ {vs : List Nat}, i ∈ vs → i < σ.length → (wipe σ vs)[i]? = some none
  | v :: vs, h, hl => by
    show ((wipe σ vs).set v none)[i]? = _
    by_cases e : v = i
    · subst e
      rw [List.getElem?_set_self (by rw [wipe_length]; exact hl)]
    · rw [List.getElem?_set_ne e]
      exact wipe_in ((List.mem_cons.mp h).resolve_left fun z => e z.symm) hl
theorem wipe_eq {σ τ : L2.St} {vs : List Nat} (hl : σ.length = τ.length) (h : ∀ i, i ∉ vs → σ[i]? = τ[i]?) : wipe σ vs = wipe τ vs := by
  refine List.ext_getElem? fun i => ?_
  by_cases hi : i ∈ vs
  · by_cases hs : i < σ.length
    · rw [wipe_in hi hs, wipe_in hi (by rw [← hl]; exact hs)]
    · rw [List.getElem?_eq_none (by rw [wipe_length]; omega), List.getElem?_eq_none (by rw [wipe_length]; omega)]
  · rw [wipe_get hi, wipe_get hi, h i hi]
theorem sets_length {α : Type} : ∀ {is : List Nat} {vs : List α} {σ : List (Option α)}, (sets σ is vs).length = σ.length
  | [], _, _ => rfl
  | _ :: _, [], _ => rfl
  | i :: is, v :: vs, σ => by
    show (sets (σ.set i (some v)) is vs).length = _
    rw [sets_length, List.length_set]
theorem sets_get {α : Type} {j : Nat} : ∀ {is : List Nat} {vs : List α} {σ : List (Option α)}, j ∉ is → (sets σ is vs)[j]? = σ[j]?
  | [], _, _, _ => rfl
  | _ :: _, [], _, _ => rfl
  | i :: is, v :: vs, σ, h => by
    show (sets (σ.set i (some v)) is vs)[j]? = _
    rw [sets_get fun e => h (List.mem_cons_of_mem _ e), List.getElem?_set_ne fun e => h (by rw [e]; exact List.mem_cons_self)]
theorem wipe_sets {σ : L2.St} {is : List Nat} {vs : List V} : wipe (sets (wipe σ is) is vs) is = wipe σ is :=
  wipe_eq (by rw [sets_length, wipe_length]) fun i hi => by rw [sets_get hi, wipe_get hi]
theorem wipeR_length (ρ : List (Option Sv)) : ∀ vs : List Nat, (wipeR ρ vs).length = ρ.length
  | [] => rfl
  | v :: vs => by
    show ((wipeR ρ vs).set v none).length = _
    rw [List.length_set, wipeR_length ρ vs]
theorem wipeR_some {ρ : List (Option Sv)} {i : Nat} {r : Sv} : ∀ {vs : List Nat}, (wipeR ρ vs)[i]? = some (some r) → ρ[i]? = some (some r) ∧ i ∉ vs
  | [], h => ⟨h, by simp⟩
  | v :: vs, h => by
    have h : ((wipeR ρ vs).set v none)[i]? = some (some r) := h
    by_cases hi : v = i
    · subst hi
      by_cases hv : v < (wipeR ρ vs).length
      · rw [List.getElem?_set_self hv] at h; cases h
      · rw [List.getElem?_eq_none (by simpa using hv)] at h; cases h
    · rw [List.getElem?_set_ne hi] at h
      obtain ⟨h1, h2⟩ := wipeR_some h
      exact ⟨h1, by simp only [List.mem_cons, not_or]; exact ⟨fun e => hi e.symm, h2⟩⟩
theorem En.wipe {K : PySem.W.Frag} {s : Option Addr} {H : Hp} {σ : L2.St} {ρ : List (Option Sv)} (h : En K s σ H ρ) (is : List Nat) : En K s (L2.wipe σ is) H (wipeR ρ is) :=
  ⟨by rw [wipe_length, wipeR_length, h.len], fun i r e => by
    obtain ⟨e1, e2⟩ := wipeR_some e
    obtain ⟨v, e3, h3⟩ := h.at_ i r e1
    exact ⟨v, by rw [wipe_get e2]; exact e3, h3⟩, h.spr⟩

/-! ### targets -/
inductive Tgt (S : Sc) : Expr → List Nat → Bool → Prop
  | name {x : Str} {i : Nat} {pos : Pos} : S.N[i]? = some x → Sto S x → Tgt S (.Name x pos) [i] false
  | tup {es : List Expr} {is : List Nat} {k0 : Nat} {pos : Pos} : Nms S es is → Tgt S (.Tuple es k0 pos) is true
def tv : Bool → Sv → Option (List Sv)
  | true, r => r.parts
  | false, r => some [r]
def gT (K : PySem.W.Frag) (b : Bool) (is : List Nat) : TG := fun v σ H Q => match b with
  | true => gTup K is.length (gSets is) v σ H Q
  | false => ∃ i, is = [i] ∧ gName i v σ H Q
theorem Tgt.pg {S : Sc} {X : Cx} {tg : Expr} {is : List Nat} {b : Bool} (h : Tgt S tg is b) (hX : Is X S) : PG X tg (gT S.K b is) := by
  cases h with
  | @name x i pos h1 h2 =>
    refine ⟨fun pins s σ H v u Q I r ⟨i', e, q⟩ => ?_⟩
    cases e
    exact (pg_name (i := i) hX.nd (by rw [hX.N]; exact h1) (hX.loc h2) (hX.sto h2)).run pins s σ H v u Q I r q
  | tup h =>
    rw [← hX.K]
    exact h.pg hX
theorem gT_of {K : PySem.W.Frag} {s : Option Addr} {H : Hp} {b : Bool} {is : List Nat} {v : V} {r : Sv} {l : List Sv} {σ : L2.St} {Q : L2.St → Hp → Prop} (h : Sat K s H v r) (e : tv b r = some l) (hl : l.length = is.length)
    (q : ∀ vs, SatL K s H vs l → Q (sets σ is vs) H) : gT K b is v σ H Q := by
  cases b with
  | true =>
    obtain ⟨a, vs, rfl, ht, hs⟩ := h.parts (show r.parts = some l from e)
    have e2 : vs.length = is.length := by rw [hs.length]; exact hl
    exact ⟨a, vs, rfl, ht.sq, e2, e2, q vs hs⟩
  | false =>
    cases e
    match is, hl with
    | [i], _ => exact ⟨i, rfl, q [v] (.cons h .nil)⟩

/-! ### a comprehension over a tuple -/
def relN (outer inner : List (Str × NameKind)) : List (Str × NameKind) := inner.map fun (n, k) => if (k == .free && true && outer.lookup n == some .cell) then (n, .cell) else (n, k)
def Sc.blk (S : Sc) (inner : List (Str × NameKind)) : Sc := { S with names := relN S.names inner, d := false, g := false, lam := none }
def blkN (N : List Str) (names : List (Str × NameKind)) (scope : Scope) (own : List (Str × Nat)) : Bool := blkC N ⟨.function, names, false, false, []⟩ scope own
theorem blkN_eq {N : List Str} {sc scope : Scope} {own : List (Str × Nat)} (names : List (Str × NameKind)) (h : sc.names = names) : blkC N sc scope own = blkN N names scope own := by
  subst h
  rfl
theorem Is.blk {X : Cx} {S : Sc} {scope : Scope} {own : List (Str × Nat)} (hX : Is X S) (ok : BlkOk X.N X.env.scope scope own) (s : Shared) (H : Hp) (C : Addr) (cl : List (Str × Addr)) (fp : List Addr) : Is (X.blk s H scope (compEnvC scope cl C X.env) fp) (S.blk scope.names) :=
  ⟨hX.P, hX.w, hX.K, hX.mg, hX.base, hX.N, by
    show (relS scope X.env.scope).names = relN S.names scope.names
    unfold relS relN
    rw [hX.names, hX.kind] <;> rfl, ok.kind, hX.room, hX.calm, hX.nd, rfl, (fun z => by cases z), (fun z => by cases z), fun _ _ _ z => by cases z⟩
section
variable {S : Sc} {ρ : List (Option Sv)} {Φ : Sv → Prop} {Ψ : Bool → Prop} {a b c e : Expr} {es : List Expr} {pos p : Pos} {x : Str}
theorem ev_lc {elt tg iter : Expr} {scope : Scope} {own : List (Str × Nat)} {is : List Nat} {bt : Bool} (hb : blkN S.N S.names scope own = true) (ho : own.map (·.2) = is) (ht : Tgt (S.blk scope.names) tg is bt)
    (h : Ev S iter ρ fun r => ∃ src os : List Sv, r.parts = some src ∧ os.length = src.length ∧ src.length ≤ 1000 ∧ (∀ o ∈ os, o.flat = true) ∧
      (∀ (i : Nat) (r o : Sv), src[i]? = some r → os[i]? = some o → ∃ l, tv bt r = some l ∧ l.length = is.length ∧ Ev (S.blk scope.names) elt (sets (wipeR ρ is) is l) fun z => z = o) ∧ Φ (.lst os))
    (hfs : ∀ env x, foldedSetIterable iter env x = pure x := by intro _ _; rfl) : Ev S (.ListComp elt [⟨tg, iter, [], 0⟩] scope pos) ρ Φ := by
  intro X hX σ H hE Q k
  have ok : BlkOk X.N X.env.scope scope own := blkOk_by (by rw [blkN_eq S.names hX.names, hX.N]; exact hb)
  have hP : PE X (.ListComp elt [⟨tg, iter, [], 0⟩] scope pos) (tLc (iTup X.K (WE X iter)) (gT S.K bt is) tYes (fun σ H Q => ∀ X', Is X' (S.blk scope.names) → WE X' elt σ H Q) (own.map (·.2))) :=
    pe_lc hX.calm hX.nd (pi_tup pe_W) ok (fun s H C cl fp => ht.pg (hX.blk ok s H C cl fp)) (fun _ _ _ _ _ => pts_nil)
      (fun s H C cl fp => ⟨fun pins st σ H' Q I q => (q _ (hX.blk ok s H C cl fp)).run pins st I⟩) (hfs _)
  refine WE.of hP ?_
  rw [ho]
  refine h X hX σ H hE _ fun v H1 r g1 s1 ⟨src, os, e1, e2, e3, e4, e5, e6⟩ => ?_
  obtain ⟨u, vs, rfl, hq, hl⟩ := s1.parts e1
  have hE1 := hE.mono g1.n
  refine ⟨u, rfl, ⟨vs, by rw [hX.K]; exact hq.sq⟩, fun D hD => ?_⟩
  have nD : S.s ≠ some D := hE1.new hD
  refine lc_tup (K := X.K) (a := u) (xs := vs) (g := gT S.K bt is) (tt := tYes) (te := fun σ H Q => ∀ X', Is X' (S.blk scope.names) → WE X' elt σ H Q) (vs := is) (σ := σ) (D := D) (Qd := Q (.ref D)) (fun i H' => Gr S.s H1 H' ∧ ∃ acc, H' D = some (.lst acc) ∧ SatL S.K S.s H' acc (os.take i)) ⟨Gr.new hD, [], upd_same, .nil⟩
    (fun i H' _ ⟨g, _⟩ => by rw [hX.K]; exact (hq.mono g.n).sq) ?_ ?_
  · rintro i y H' hy ⟨g, acc, hacc, sacc⟩
    obtain ⟨r', er, sr⟩ := hl.get' hy
    have hi : i < os.length := by
      rw [e2]
      exact (List.getElem?_eq_some_iff.mp er).1
    obtain ⟨l, f1, f2, f3⟩ := e5 i r' os[i] er (List.getElem?_eq_getElem hi)
    refine gT_of (sr.mono g.n) f1 f2 fun ws hw => ⟨wipe_sets, ?_⟩
    show ∀ X', Is X' (S.blk scope.names) → WE X' elt _ H' _
    intro X' hX'
    refine f3 X' hX' _ H' (En.sets ((hE1.mono g.n).wipe is) hw) _ fun z H4 o' g4 s4 e => ?_
    subst e
    have hD4 : H4 D = some (.lst acc) := g4.keep D _ hacc nD
    obtain ⟨p1, p2⟩ := Gr.put (ys := acc ++ [z]) hD4 nD
    have hacl : acc.length = i := by
      rw [sacc.length, List.length_take]
      omega
    refine ⟨acc, hD4, ?_, ⟨fun b o hb n => ?_, fun b xs hb => ?_, fun a ea hs => ?_⟩, acc ++ [z], upd_same, ?_⟩
    · rw [hacl, sizeLine_eq]
      omega
    · rw [upd_ne (ne_of_none hb hD)]
      exact g4.keep b o (g.keep b o hb n) n
    · rw [upd_ne (ne_of_none hb hD)]
      exact g4.tups b xs (g.tups b xs hb)
    · exact p2 a ea (g4.spr a ea (g.spr a ea hs))
    · rw [List.take_succ, List.getElem?_eq_getElem hi]
      refine (SatL.keepF p1 p2 (flatL_of fun r hr => e4 r (List.mem_of_mem_take hr)) (sacc.mono g4.n)).snoc (Sat.keepF p1 p2 (e4 _ (List.getElem_mem hi)) s4)
  · rintro H' ⟨g, acc, hacc, sacc⟩
    rw [List.take_of_length_le (by rw [hl.length]; omega)] at sacc
    exact k _ H' _ (g1.trans g) (.lst hacc nD sacc) e6
end
end K39
end
section
set_option Elab.async false
set_option linter.all false
set_option maxRecDepth 100000
set_option maxHeartbeats 4000000
/-! T3: slices, sums of tuples and lists, keyword calls; statements by specs. -/
namespace K39
open PySem PySem.Spec PyProof.Rows L2
section
variable {S : Sc} {ρ : List (Option Sv)} {Φ : Sv → Prop} {Ψ : Bool → Prop} {a b c e : Expr} {es : List Expr} {pos p p2 : Pos} {x : Str}
/-! ### slices with written or reckoned bounds from nought on -/
theorem sIx_some (n d k : Nat) : HT.sIx n d (some (k : Int)) = min k n := HT.sIx_nat n d k
/-- t[:n], the item's place from nought -/
theorem ev_to (h : Ev S a ρ fun x => ∃ l, x.parts = some l ∧ (x = .tup l) ∧ Ev S b ρ fun y => ∃ n : Nat, y = .int (n : Int) ∧ Φ (.tup (l.take n))) : Ev S (.Subscript a (.Slice none (some b) none p2) pos) ρ Φ := by
  intro X hX σ H hE Q k
  refine WE.of (pe_slice sl_tupA pe_W po_none (po_some pe_W)) (h X hX σ H hE _ fun v H1 r g1 s1 ⟨l, e1, e2, h2⟩ => ?_)
  subst e2
  refine h2 X hX σ H1 (hE.mono g1.n) _ fun v2 H2 r2 g2 s2 ⟨n, e3, h3⟩ => ?_
  subst e3
  cases s2
  refine ⟨_, rfl, ?_⟩
  have s3 := s1.mono g2.n
  obtain ⟨u, vs, e4, ht, hl⟩ := s3.parts e1
  subst e4
  have e5 : cutV vs none (some (n : Int)) = vs.take n := by
    unfold cutV
    rw [sIx_some, HT.sIx_none]
    simp only [List.drop_zero, Nat.sub_zero]
    by_cases hn : n ≤ vs.length
    · rw [Nat.min_eq_left hn]
    · rw [Nat.min_eq_right (by omega), List.take_of_length_le (Nat.le_refl _), List.take_of_length_le (by omega)]
  refine ⟨u, vs, rfl, by rw [hX.K]; exact ht.sq, fun ⟨_, q⟩ => ?_, fun _ q hq => ?_⟩
  · rw [sIx_some] at q
    have q2 : l.take n = l := List.take_of_length_le (by rw [← hl.length]; omega)
    rw [q2] at h3
    exact k _ H2 _ (g1.trans g2) s3 h3
  · rw [e5]
    have g3 := Gr.new (s := S.s) (o := .tup (vs.take n)) hq
    exact k _ _ _ ((g1.trans g2).trans g3) (.tup (.inl upd_same) ((hl.take n).mono g3.n)) h3
/-- t[1:] of a tuple -/
theorem ev_from (h : Ev S a ρ fun x => ∃ l, (x = .tup l) ∧ Ev S b ρ fun y => ∃ n : Nat, y = .int (n : Int) ∧ Φ (.tup (l.drop n))) : Ev S (.Subscript a (.Slice (some b) none none p2) pos) ρ Φ := by
  intro X hX σ H hE Q k
  refine WE.of (pe_slice sl_tupA pe_W (po_some pe_W) po_none) (h X hX σ H hE _ fun v H1 r g1 s1 ⟨l, e2, h2⟩ => ?_)
  subst e2
  refine h2 X hX σ H1 (hE.mono g1.n) _ fun v2 H2 r2 g2 s2 ⟨n, e3, h3⟩ => ?_
  subst e3
  cases s2
  refine ⟨_, rfl, ?_⟩
  have s3 := s1.mono g2.n
  obtain ⟨u, vs, e4, ht, hl⟩ := s3.parts rfl
  subst e4
  have e5 : cutV vs (some (n : Int)) none = vs.drop n := by
    unfold cutV
    rw [sIx_some, HT.sIx_none]
    by_cases hn : n ≤ vs.length
    · rw [Nat.min_eq_left hn, List.take_of_length_le (by rw [List.length_drop]; omega)]
    · rw [Nat.min_eq_right (by omega), List.drop_of_length_le (Nat.le_refl _), List.drop_of_length_le (i := n) (by omega), List.take_nil]
  refine ⟨u, vs, rfl, by rw [hX.K]; exact ht.sq, fun ⟨q, _⟩ => ?_, fun _ q hq => ?_⟩
  · rw [sIx_some] at q
    have q2 : l.drop n = l := by
      have hz : n = 0 ∨ l = [] := by
        by_cases hn : n = 0
        · exact .inl hn
        · refine .inr (List.length_eq_zero_iff.mp ?_)
          rw [← hl.length]
          omega
      rcases hz with z | z
      · rw [z]; rfl
      · rw [z]; simp
    rw [q2] at h3
    exact k _ H2 _ (g1.trans g2) s3 h3
  · rw [e5]
    have g3 := Gr.new (s := S.s) (o := .tup (vs.drop n)) hq
    exact k _ _ _ ((g1.trans g2).trans g3) (.tup (.inl upd_same) ((hl.drop n).mono g3.n)) h3
/-- t + u of tuples -/
theorem ev_cat (h : Ev S a ρ fun x => ∃ l, x = .tup l ∧ Ev S b ρ fun y => ∃ m, y = .tup m ∧ l.length + m.length ≤ 1000 ∧ Φ (.tup (l ++ m))) : Ev S (.BinOp a .Add b pos) ρ Φ := by
  intro X hX σ H hE Q k
  refine WE.of (pe_op op_catA pe_W pe_W) (h X hX σ H hE _ fun v H1 r g1 s1 ⟨l, e1, h2⟩ => ?_)
  subst e1
  refine h2 X hX σ H1 (hE.mono g1.n) _ fun v2 H2 r2 g2 s2 ⟨m, e2, hz, h3⟩ => ?_
  subst e2
  have s3 := s1.mono g2.n
  obtain ⟨u, vs, e4, ht, hl⟩ := s3.parts rfl
  obtain ⟨u2, vs2, e5, ht2, hl2⟩ := s2.parts rfl
  subst e4 e5
  have n1 := hl.length
  have n2 := hl2.length
  refine ⟨u, u2, vs, vs2, rfl, rfl, by rw [hX.K]; exact ht.sq, by rw [hX.K]; exact ht2.sq, by rw [sizeLine_eq]; omega, fun e => ?_, fun _ e => ?_, fun _ _ q hq => ?_⟩
  · subst e
    have e : l = [] := List.length_eq_zero_iff.mp n1.symm
    subst e
    exact k _ H2 _ (g1.trans g2) s2 h3
  · subst e
    have e : m = [] := List.length_eq_zero_iff.mp n2.symm
    subst e
    rw [List.append_nil] at h3
    exact k _ H2 _ (g1.trans g2) s3 h3
  · have g3 := Gr.new (s := S.s) (o := .tup (vs ++ vs2)) hq
    exact k _ _ _ ((g1.trans g2).trans g3) (.tup (.inl upd_same) ((hl.app hl2).mono g3.n)) h3
/-- keywords' values -/
structure WK (X : Cx) (kws : List Keyword) (σ : L2.St) (H : Hp) (Q : List V → Hp → Prop) : Prop where
  run : ∀ (pos : Pos) (pins : List (Addr × Obj)) (st : Shared), Inv X pins σ H st → wpAny (model X.prog X.w) X.A (evalAll ((backToKw pos (keywordEach kws X.env)).map (·.2))) (AP X pins σ Q) X.xe st
theorem pk_W {X : Cx} {kws : List Keyword} : PK X kws (WK X kws) := ⟨fun pos pins s σ H Q I h => h.run pos pins s I⟩
def Ek (S : Sc) (kws : List Keyword) (ρ : List (Option Sv)) (Φ : List Sv → Prop) : Prop :=
  ∀ X, Is X S → ∀ (σ : L2.St) (H : Hp), En S.K S.s σ H ρ → ∀ Q : List V → Hp → Prop, (∀ vs H' l, Gr S.s H H' → SatL S.K S.s H' vs l → Φ l → Q vs H') → WK X kws σ H Q
theorem ek_nil {Φ : List Sv → Prop} (h : Φ []) : Ek S [] ρ Φ := by
  intro X hX σ H hE Q k
  refine ⟨fun pos pins st I => ?_⟩
  exact pk_nil.run pos pins st σ H Q I (k [] H [] Gr.refl .nil h)
theorem ek_cons {Φ : List Sv → Prop} {nm : Option Str} {kpos : Pos} {kws : List Keyword} (h : Ev S a ρ fun r => Ek S kws ρ fun l => Φ (r :: l)) : Ek S (⟨nm, a, kpos⟩ :: kws) ρ Φ := by
  intro X hX σ H hE Q k
  refine ⟨fun pos pins st I => ?_⟩
  refine (pk_cons pe_W pk_W).run pos pins st σ H Q I (h X hX σ H hE _ fun v H1 r g1 s1 h2 => ?_)
  exact h2 X hX σ H1 (hE.mono g1.n) _ fun vs H2 l g2 s2 h3 => k _ H2 _ (g1.trans g2) (.cons (s1.mono g2.n) s2) h3
/-- f(k = v, ..), keywords alone -/
structure KwFn (P : Program) (w : World) (K : PySem.W.Frag) (mg : Str → Option Value) (base : Heap) (x : Str) (k : Nat) (ps ks : List Str) (sp : Sp) : Prop where
  ex : ∃ f fd, mg x = some (.ref f) ∧ PySem.W.keepIn K (.ref f) = true ∧ (∀ (s : Shared) (ws : List Value), K.In s.heap → ws.length = ks.length → BindsTo s fd ⟨[], ks.zip ws⟩ (ps.zip ws)) ∧ FnOk P w K mg base CX0 k f fd ps sp
theorem ev_callk {α : Type} {k : Nat} {ps ks : List Str} {kws : List Keyword} {args : α → List Sv} {pre : α → Prop} {res : α → Sv → Prop} (G : KwFn S.P S.w S.K S.mg S.base x k ps ks (Pm S.K args pre res)) (hg : Glb S x)
    (h : Ek S kws ρ fun l => ∃ z : α, args z = l ∧ l.length = ks.length ∧ pre z ∧ ∀ r, res z r → Φ r) (hl : Nat.ble k S.lvl = true := by rfl) (hdb : (x == ("__debug__" : Str)) = false := by decide +kernel)
    (hall : ∀ env, (backToKw pos (keywordEach kws env)).all (·.1.isSome) = true := by intro _; rfl) (hks : ∀ env, (backToKw pos (keywordEach kws env)).filterMap (·.1) = ks := by intro _; rfl)
    (hpl : ∀ env, ((backTo pos (starEach [] env)).any (·.1) || (backToKw pos (keywordEach kws env)).any (·.1.isNone)) = false := by intro _; rfl) : Ev S (.Call (.Name x p) [] kws pos) ρ Φ := by
  intro X hX σ H hE Q k'
  obtain ⟨f, fd, hm, hk, hb, F⟩ := G.ex
  have F' : FnOk X.prog X.w X.K X.mg X.base CX0 k f fd ps (Pm S.K args pre res) := by rw [hX.P, hX.w, hX.K, hX.mg, hX.base]; exact F
  refine ⟨fun pins st I => ?_⟩
  refine wpAny_Call_Name_kw (ld_glob I (hX.gl hg) (by rw [hX.mg]; exact hm) ?_ hdb)
  refine PySem.W.callWith_KW0 (h₀ := X.base) I.ok.mod.kin (by rw [hX.K]; exact hk) (hall _) ?_ (hpl _)
  refine thn (pk_W.run pos pins st σ H (fun vs H1 => ∃ l, Gr S.s H H1 ∧ SatL S.K S.s H1 vs l ∧ ∃ z : α, args z = l ∧ l.length = ks.length ∧ pre z ∧ ∀ r, res z r → Φ r) I (h X hX σ H hE _ fun vs H1 l g1 s1 q => ⟨l, g1, s1, q⟩)) fun ws s2 ⟨vs, H1, I2, rz, l, g1, s1, z, e1, e2, h1, h2⟩ => ⟨I2.kIn, ?_⟩
  subst e1
  rw [hks]
  have hw : ws.length = ks.length := by rw [← rz.length, s1.length, e2]
  refine wpAny_call (codeAny_mono (F'.run X.A X.stack s2 H1 ⟨[], ks.zip ws⟩ ws vs Q E0 (hX.room.mono (Nat.le_of_ble_eq_true hl)) I2.env0 (hb s2 ws (by rw [← hX.K]; exact I2.kIn) hw) rz ?_) fun r s' hq => ?_)
  · exact ⟨S.s, z, (hE.mono g1.n).spr, h1, s1, fun v H2 r g2 s2 h3 => k' v H2 r (g1.trans g2) s2 (h2 r h3)⟩
  · cases r with
    | error e => exact (show False from hq).elim
    | ok fl =>
      cases fl with
      | ret u => exact I2.after hq
      | next => exact False.elim hq
      | brk => exact False.elim hq
      | cont => exact False.elim hq
end
end K39
end
section
set_option Elab.async false
set_option linter.all false
set_option maxRecDepth 100000
set_option maxHeartbeats 4000000
/-! T4: statements by specs. -/
namespace K39
open PySem PySem.Spec PyProof.Rows L2
abbrev Ro := List (Option Sv)
structure EnS (K : PySem.W.Frag) (s : Option Addr) (B : Hp) (σ : L2.St) (H : Hp) (ρ : Ro) : Prop where
  en : En K s σ H ρ
  gr : Gr s B H
  own : ∀ (i : Nat) (l : List Sv) (p : Addr), ρ[i]? = some (some (.own l)) → σ[i]? = some (some (.ref p)) → B p = none ∧ s ≠ some p
  sep : ∀ (i j : Nat) (l : List Sv) (p : Addr) (r : Sv), i ≠ j → ρ[i]? = some (some (.own l)) → σ[i]? = some (some (.ref p)) → ρ[j]? = some (some r) → r.isL = true → σ[j]? ≠ some (some (.ref p))
def noOwn (ρ : Ro) : Prop := ∀ (i : Nat) (l : List Sv), ρ[i]? ≠ some (some (.own l))
def noOwnB (ρ : Ro) : Bool := ρ.all fun o => match o with
  | some r => !r.isO
  | none => true
theorem noOwn_of {ρ : Ro} (h : noOwnB ρ = true) : noOwn ρ := fun i l e => by
  have q := List.all_eq_true.mp h _ (List.mem_of_getElem? e)
  cases q
def Tk (H H' : Hp) : Prop := ∀ b xs, H b = some (.tup xs) → H' b = some (.tup xs)
section
variable {K : PySem.W.Frag} {s : Option Addr} {B H H' : Hp} {σ : L2.St} {ρ : Ro}
theorem Tk.refl : Tk H H := fun _ _ h => h
theorem Tk.trans {H2 : Hp} (a : Tk H H') (b : Tk H' H2) : Tk H H2 := fun c xs h => b c xs (a c xs h)
theorem Gr.tk (g : Gr s H H') : Tk H H' := g.tups
theorem EnS.mono (h : EnS K s B σ H ρ) (g : Gr s H H') : EnS K s B σ H' ρ := ⟨h.en.mono g.n, h.gr.trans g, h.own, h.sep⟩
theorem EnS.weak {ρ' : Ro} (h : EnS K s B σ H ρ) (hl : ρ'.length = ρ.length) (w : ∀ (i : Nat) (r : Sv), ρ'[i]? = some (some r) → ρ[i]? = some (some r)) : EnS K s B σ H ρ' :=
  ⟨⟨h.en.len.trans hl.symm, fun i r e => h.en.at_ i r (w i r e), h.en.spr⟩, h.gr, fun i l p e => h.own i l p (w i _ e), fun i j l p r n e1 e2 e3 => h.sep i j l p r n (w i _ e1) e2 (w j _ e3)⟩
theorem get_set {α : Type} {l : List (Option α)} {i j : Nat} {v w : α} (h : (l.set i (some v))[j]? = some (some w)) : (i = j ∧ v = w ∧ i < l.length) ∨ (i ≠ j ∧ l[j]? = some (some w)) := by
  by_cases e : i = j
  · subst e
    by_cases hi : i < l.length
    · rw [List.getElem?_set_self hi] at h
      exact .inl ⟨rfl, Option.some.inj (Option.some.inj h), hi⟩
    · rw [List.getElem?_eq_none (by rw [List.length_set]; omega)] at h
      cases h
  · rw [List.getElem?_set_ne e] at h
    exact .inr ⟨e, h⟩
/-- a slot takes a value that is no list; or any but an own one where no own list is -/
theorem EnS.set {i : Nat} {v : V} {r : Sv} (h : EnS K s B σ H ρ) (hv : Sat K s H v r) (hr : r.isL = false ∨ (r.isO = false ∧ noOwn ρ)) : EnS K s B (σ.set i (some v)) H (ρ.set i (some r)) := by
  have nO : ∀ l, r ≠ .own l := fun l e => by
    subst e
    rcases hr with z | ⟨z, _⟩ <;> cases z
  refine ⟨En.sets (is := [i]) h.en (.cons hv .nil), h.gr, fun j l p e1 e2 => ?_, fun j k l p r' n e1 e2 e3 e4 e5 => ?_⟩
  · rcases get_set e1 with ⟨_, z, _⟩ | ⟨z, e1⟩
    · exact absurd z (nO l)
    · rw [List.getElem?_set_ne z] at e2
      exact h.own j l p e1 e2
  · rcases get_set e1 with ⟨_, z, _⟩ | ⟨z, e1⟩
    · exact absurd z (nO l)
    · rw [List.getElem?_set_ne z] at e2
      rcases get_set e3 with ⟨y, y2, _⟩ | ⟨y, e3⟩
      · rcases hr with q | ⟨_, q⟩
        · rw [y2, e4] at q
          cases q
        · exact q j l e1
      · rw [List.getElem?_set_ne y] at e5
        exact h.sep j k l p r' n e1 e2 e3 e4 e5
/-- a slot takes a new list of ours -/
theorem EnS.setO {i : Nat} {p : Addr} {l : List Sv} (h : EnS K s B σ H ρ) (hv : Sat K s H (.ref p) (.own l)) (hB : B p = none) (hf : ∀ (j : Nat) (r : Sv), j ≠ i → ρ[j]? = some (some r) → r.isL = true → σ[j]? ≠ some (some (.ref p))) : EnS K s B (σ.set i (some (.ref p))) H (ρ.set i (some (.own l))) := by
  have hs : s ≠ some p := by
    cases hv with
    | own _ n _ => exact n
  refine ⟨En.sets (is := [i]) h.en (.cons hv .nil), h.gr, fun j l p' e1 e2 => ?_, fun j k l' p' r' n e1 e2 e3 e4 e5 => ?_⟩
  · rcases get_set e1 with ⟨z, _, hi⟩ | ⟨z, e1⟩
    · subst z
      rw [List.getElem?_set_self (by rw [h.en.len]; exact hi)] at e2
      cases e2
      exact ⟨hB, hs⟩
    · rw [List.getElem?_set_ne z] at e2
      exact h.own j l p' e1 e2
  · rcases get_set e1 with ⟨z, _, hi⟩ | ⟨z, e1⟩
    · subst z
      rw [List.getElem?_set_self (by rw [h.en.len]; exact hi)] at e2
      cases e2
      rcases get_set e3 with ⟨y, _, _⟩ | ⟨y, e3⟩
      · exact n y
      · rw [List.getElem?_set_ne y] at e5
        exact hf k r' (Ne.symm n) e3 e4 e5
    · rw [List.getElem?_set_ne z] at e2
      rcases get_set e3 with ⟨y, y2, hi⟩ | ⟨y, e3⟩
      · subst y
        rw [List.getElem?_set_self (by rw [h.en.len]; exact hi)] at e5
        cases e5
        exact hf j _ (Ne.symm z) e1 rfl e2
      · rw [List.getElem?_set_ne y] at e5
        exact h.sep j k l' p' r' n e1 e2 e3 e4 e5
/-- several slots -/
theorem EnS.sets : ∀ {is : List Nat} {vs : List V} {l : List Sv} {σ : L2.St} {ρ : Ro}, EnS K s B σ H ρ → SatL K s H vs l → (∀ r ∈ l, r.isL = false) → EnS K s B (K39.sets σ is vs) H (K39.sets ρ is l)
  | [], _, _, _, _, h, _, _ => h
  | _ :: _, _, _, _, _, h, .nil, _ => h
  | i :: is, v :: vs, r :: l, σ, ρ, h, .cons hv hl, hr => EnS.sets (is := is) (h.set hv (.inl (hr r List.mem_cons_self))) hl fun z hz => hr z (List.mem_cons_of_mem _ hz)
end

/-! ### statements -/
def Ws (S : Sc) (ts : List Stmt) (ρ : Ro) (N : Ro → Prop) (R : Sv → Prop) : Prop :=
  ∀ X, Is X S → ∀ (B : Hp) (σ : L2.St) (H : Hp), EnS S.K S.s B σ H ρ → ∀ D : Ends,
    (∀ σ' H' ρ', EnS S.K S.s B σ' H' ρ' → Tk H H' → N ρ' → D.nx σ' H') → (∀ v H' r, Gr S.s B H' → Sat S.K S.s H' v r → R r → D.rt v H') → WSs X ts D σ H
section
variable {S : Sc} {ρ : Ro} {N : Ro → Prop} {R : Sv → Prop} {a b c e : Expr} {es : List Expr} {pos p p2 : Pos} {x : Str} {rest body orelse : List Stmt}
theorem ws_nil (h : N ρ) : Ws S [] ρ N R := by
  intro X hX B σ H hE D kN kR
  exact WSs.of pss_nil (kN σ H ρ hE Tk.refl h)
theorem ws_ret (h : Ev S a ρ R) : Ws S (.Return (some a) pos :: rest) ρ N R := by
  intro X hX B σ H hE D kN kR
  refine WSs.of (pss_cons (ps_ret pe_W) pss_W) ?_
  exact h X hX σ H hE.en _ fun v H' r g s q => kR v H' r (hE.gr.trans g) s q
/-- x = e -/
theorem ws_set (i : Nat) (hN : S.N[i]? = some x) (ht : Sto S x) (h : Ev S a ρ fun r => (r.isL = false ∨ (r.isO = false ∧ noOwn ρ)) ∧ Ws S rest (ρ.set i (some r)) N R) (hs : ∀ l t env, swapsWith a t l env = pure false := by intro _ _ _; rfl) : Ws S (.Assign [.Name x p] a pos :: rest) ρ N R := by
  intro X hX B σ H hE D kN kR
  refine WSs.of (pss_cons (ps_set (i := i) hX.nd (by rw [hX.N]; exact hN) (hX.loc ht) pe_W (hs _ _ _) (hX.sto ht)) pss_W) ?_
  refine h X hX σ H hE.en _ fun v H' r g s ⟨q1, q2⟩ => ?_
  exact q2 X hX B _ H' ((hE.mono g).set s q1) D (fun σ' H2 ρ' e t n => kN σ' H2 ρ' e (g.tk.trans t) n) kR
/-- x = [] -/
theorem ws_new (i : Nat) (hN : S.N[i]? = some x) (ht : Sto S x) (h : Ws S rest (ρ.set i (some (.own []))) N R) : Ws S (.Assign [.Name x p] (.List [] p2) pos :: rest) ρ N R := by
  intro X hX B σ H hE D kN kR
  refine WSs.of (pss_cons (ps_set (i := i) hX.nd (by rw [hX.N]; exact hN) (hX.loc ht) (pe_lst pa_nil) (by rfl) (hX.sto ht)) pss_W) ?_
  refine ⟨Nat.zero_le _, fun q hq => ?_⟩
  have g : Gr S.s H (upd H q (.lst [])) := Gr.new hq
  have hB : B q = none := by
    cases e : B q with
    | none => rfl
    | some o =>
      have z := hE.gr.keep q o e (hE.en.new hq)
      rw [hq] at z
      cases z
  refine h X hX B _ _ ((hE.mono g).setO (.own upd_same (hE.en.new hq) .nil) hB fun j r nj e1 e2 e3 => ?_) D (fun σ' H2 ρ' e t n => kN σ' H2 ρ' e (g.tk.trans t) n) kR
  obtain ⟨v, e4, h4⟩ := hE.en.at_ j r e1
  rw [e3] at e4
  cases e4
  cases h4 with
  | lst z _ _ => rw [hq] at z; cases z
  | own z _ _ => rw [hq] at z; cases z
  | _ => cases e2
/-- a, b, .. = e, a tuple -/
theorem ws_tup {is : List Nat} {k0 : Nat} (hn : Nms S es is) (h : Ev S a ρ fun r => ∃ l, r.parts = some l ∧ l.length = is.length ∧ (∀ z ∈ l, z.isL = false) ∧ Ws S rest (sets ρ is l) N R)
    (hs : ∀ l env, swapsWithSole [.Tuple es k0 p] a l env = pure false := by intros; rfl) (hw : ∀ env, swappedStores [.Tuple es k0 p] a env = pure none := by intro _; rfl) : Ws S (.Assign [.Tuple es k0 p] a pos :: rest) ρ N R := by
  intro X hX B σ H hE D kN kR
  refine WSs.of (pss_cons (ps_asg pe_W (hn.pg hX) (hs _ _) (hw _) (by rfl)) pss_W) ?_
  refine h X hX σ H hE.en _ fun v H' r g s ⟨l, q1, q2, q3, q4⟩ => ?_
  obtain ⟨u, vs, e1, h1, h2⟩ := s.parts q1
  have e2 : vs.length = is.length := by rw [h2.length]; exact q2
  refine ⟨u, vs, e1, by rw [hX.K]; exact h1.sq, e2, e2, ?_⟩
  exact q4 X hX B _ H' ((hE.mono g).sets h2 q3) D (fun σ' H2 ρ' e t n => kN σ' H2 ρ' e (g.tk.trans t) n) kR
/-- if -/
theorem ws_if (h : Et S c ρ fun t => if t = true then Ws S body ρ (fun ρ' => Ws S rest ρ' N R) R else Ws S orelse ρ (fun ρ' => Ws S rest ρ' N R) R) : Ws S (.If c body orelse pos :: rest) ρ N R := by
  intro X hX B σ H hE D kN kR
  refine WSs.of (pss_cons (ps_if pt_W pss_W pss_W) pss_W) ?_
  refine h X hX σ H hE.en _ fun t H' g q => ?_
  cases t with
  | true => exact q X hX B σ H' (hE.mono g) _ (fun σ' H2 ρ' e t n => n X hX B σ' H2 e D (fun σ3 H3 ρ3 e3 t3 n3 => kN σ3 H3 ρ3 e3 ((g.tk.trans t).trans t3) n3) kR) kR
  | false => exact q X hX B σ H' (hE.mono g) _ (fun σ' H2 ρ' e t n => n X hX B σ' H2 e D (fun σ3 H3 ρ3 e3 t3 n3 => kN σ3 H3 ρ3 e3 ((g.tk.trans t).trans t3) n3) kR) kR
/-- x.append(e) -/
theorem ws_app (i : Nat) {l : List Sv} {ap : Pos} (hN : S.N[i]? = some x) (hv : Sees S x) (hl : ρ[i]? = some (some (.own l))) (hf : Sv.flatL l = true) (hz : l.length ≤ 1000) (h : Ev S a ρ fun r => r.flat = true ∧ r.isL = false ∧ Ws S rest (ρ.set i (some (.own (l ++ [r])))) N R)
    (hfr : ∀ (j : Nat) (r : Sv), ρ[j]? = some (some r) → j ≠ i → r.flat = true ∨ ∃ m, (r = .lst m ∨ r = .own m) ∧ Sv.flatL m = true)
    (hd : (x == ("__debug__" : Str)) = false := by decide +kernel) (hcd : (x == ("__classdict__" : Str)) = false := by decide +kernel)
    (hs : ∀ env, starEach [a] env = (false, eval a env) :: starEach [] env := by intro _; rfl) (hsw : ∀ l env, swapsWith (.Call (.Attribute (.Name x p) "append" ap) [a] [] p2) none l env = pure false := by intros; rfl) (hline : (ap.endLine == p2.line) = true := by rfl) :
    Ws S (.Expr (.Call (.Attribute (.Name x p) "append" ap) [a] [] p2) pos :: rest) ρ N R := by
  intro X hX B σ H hE D kN kR
  refine WSs.of (pss_cons (ps_expr (pe_bm PySem.F.plainAttrs_list PySem.F.slot_list_append PySem.F.type_list_append mt_append (pe_var (i := i) (by rw [hX.N]; exact hN) (hX.vis hv) hd hcd) (pa_cons pe_W pa_nil (hs _)) (hfew := by rw [hs]; rfl) (hline := hline) (hs := hs _)) (hsw _ _)) pss_W) ?_
  obtain ⟨v, e1, h1⟩ := hE.en.at_ i _ hl
  cases h1 with
  | @own u vs _ hu ns hvs =>
    refine ⟨_, e1, .inl ⟨rfl, _, SqL.of hu⟩, ?_⟩
    refine h X hX σ H hE.en _ fun w H' r g s ⟨f1, f2, q⟩ => ?_
    have hu' := g.keep u _ hu ns
    have hlen := hvs.length
    refine ⟨u, vs, w, rfl, rfl, hu', by rw [sizeLine_eq]; omega, ?_⟩
    obtain ⟨p1, p3⟩ := Gr.put (ys := vs ++ [w]) hu' ns
    obtain ⟨oB, _⟩ := hE.own i l u hl e1
    have hE1 := hE.mono g
    have eσ : σ.set i (some (.ref u)) = σ := by
      refine List.ext_getElem? fun j => ?_
      by_cases hj : i = j
      · subst hj
        rw [List.getElem?_set_self (List.getElem?_eq_some_iff.mp e1).1, e1]
      · rw [List.getElem?_set_ne hj]
    -- the environment with the longer list
    have hnew : SatL S.K S.s (upd H' u (.lst (vs ++ [w]))) (vs ++ [w]) (l ++ [r]) := (SatL.keepF p1 p3 hf (hvs.mono g.n)).snoc (Sat.keepF p1 p3 f1 s)
    have put : EnS S.K S.s B σ (upd H' u (.lst (vs ++ [w]))) (ρ.set i (some (.own (l ++ [r])))) := by
      refine ⟨⟨by rw [List.length_set]; exact hE.en.len, fun j r' e => ?_, fun a ea => p3 a ea (hE1.en.spr a ea)⟩, ⟨fun b o hb n => ?_, fun b xs hb => p1 b xs (hE1.gr.tups b xs hb), fun a ea hsp => p3 a ea (hE1.gr.spr a ea hsp)⟩, fun j l' p' e2 e3 => ?_, fun j k l' p' r' n e2 e3 e4 e5 => ?_⟩
      · rcases get_set e with ⟨z, z2, _⟩ | ⟨z, e⟩
        · subst z z2
          exact ⟨_, e1, .own upd_same ns hnew⟩
        · obtain ⟨v', e4, h4⟩ := hE1.en.at_ j r' e
          refine ⟨v', e4, ?_⟩
          rcases hfr j r' e (Ne.symm z) with hfl | ⟨m, hm, hfl⟩
          · exact Sat.keepF p1 p3 hfl h4
          · have hne : v' ≠ .ref u := fun q => by
              subst q
              refine hE.sep i j l u r' z hl e1 e ?_ e4
              rcases hm with hm | hm <;> rw [hm] <;> rfl
            rcases hm with hm | hm
            · subst hm
              cases h4 with
              | lst z1 z2 z3 => exact .lst (by rw [upd_ne fun q => hne (by rw [q])]; exact z1) z2 (SatL.keepF p1 p3 hfl z3)
            · subst hm
              cases h4 with
              | own z1 z2 z3 => exact .own (by rw [upd_ne fun q => hne (by rw [q])]; exact z1) z2 (SatL.keepF p1 p3 hfl z3)
      · rw [upd_ne (ne_of_none hb oB)]
        exact hE1.gr.keep b o hb n
      · rcases get_set e2 with ⟨z, z2, _⟩ | ⟨z, e2⟩
        · subst z
          rw [e1] at e3
          cases e3
          exact ⟨oB, ns⟩
        · exact hE.own j l' p' e2 e3
      · have back : ∀ (j : Nat) (z : Sv), (ρ.set i (some (.own (l ++ [r]))))[j]? = some (some z) → ∃ r0, ρ[j]? = some (some r0) ∧ r0.isL = z.isL ∧ (z.isO = true → ∃ m, r0 = .own m) := fun j z e => by
          rcases get_set e with ⟨y, y2, _⟩ | ⟨y, e⟩
          · subst y y2
            exact ⟨_, hl, rfl, fun _ => ⟨_, rfl⟩⟩
          · exact ⟨z, e, rfl, fun f => by cases z <;> first | exact ⟨_, rfl⟩ | cases f⟩
        obtain ⟨r1, b1, _, b2⟩ := back j _ e2
        obtain ⟨m, b2⟩ := b2 rfl
        obtain ⟨r2, b3, b4, _⟩ := back k _ e4
        subst b2
        exact hE.sep j k m p' r2 n b1 e3 b3 (b4.trans e5)
    exact q X hX B σ _ put D (fun σ' H2 ρ' e t n => kN σ' H2 ρ' e ((g.tk.trans p1).trans t) n) kR
end
end K39
end
section
set_option Elab.async false
set_option linter.all false
set_option maxRecDepth 100000
set_option maxHeartbeats 4000000
/-! T5: displays with a fresh list, several stores, loops. -/
namespace K39
open PySem PySem.Spec PyProof.Rows L2
/-- at most one list, and that one new -/
structure Fresh (H : Hp) (vs : List V) (l : List Sv) : Prop where
  new : ∀ (i : Nat) (m : List Sv) (p : Addr), l[i]? = some (.own m) → vs[i]? = some (.ref p) → H p = none
  kind : ∀ r ∈ l, r.isL = true → r.isO = true
  one : ∀ (i j : Nat) (r r' : Sv), l[i]? = some r → l[j]? = some r' → r.isL = true → r'.isL = true → i = j
def Fr (S : Sc) (es : List Expr) (ρ : Ro) (Φ : List Sv → Prop) : Prop :=
  ∀ X, Is X S → ∀ (σ : L2.St) (H : Hp), En S.K S.s σ H ρ → ∀ Q : List V → Hp → Prop, (∀ vs H' l, Gr S.s H H' → SatL S.K S.s H' vs l → Fresh H vs l → Φ l → Q vs H') → WA X es σ H Q
section
variable {S : Sc} {ρ : Ro} {N : Ro → Prop} {R : Sv → Prop} {a b c e iter : Expr} {es : List Expr} {pos p p2 p3 pt : Pos} {x y z : Str} {rest body orelse : List Stmt} {k0 k2 : Nat}
theorem fr_nil {Φ : List Sv → Prop} (h : Φ []) : Fr S [] ρ Φ := by
  intro X hX σ H hE Q k
  exact WA.of pa_nil (k [] H [] Gr.refl .nil ⟨fun i m p e => (nomatch e), fun r h => (nomatch h), fun i j r r' e => (nomatch e)⟩ h)
theorem Fresh.cons {H H1 : Hp} {v : V} {r : Sv} {vs : List V} {l : List Sv} (hr : r.isL = false) (h : Fresh H1 vs l) (g : ∀ p, H1 p = none → H p = none) : Fresh H (v :: vs) (r :: l) := by
  refine ⟨fun i m p e1 e2 => ?_, fun z hz e => ?_, fun i j z z' e1 e2 q1 q2 => ?_⟩
  · cases i with
    | zero =>
      have e1 : some r = some (Sv.own m) := e1
      cases e1
      cases hr
    | succ i => exact g p (h.new i m p e1 e2)
  · rcases List.mem_cons.mp hz with hz | hz
    · subst hz
      rw [hr] at e
      cases e
    · exact h.kind z hz e
  · cases i with
    | zero =>
      have e1 : some r = some z := e1
      cases e1
      rw [hr] at q1
      cases q1
    | succ i =>
      cases j with
      | zero =>
        have e2 : some r = some z' := e2
        cases e2
        rw [hr] at q2
        cases q2
      | succ j => rw [h.one i j z z' e1 e2 q1 q2]
theorem Gr.none_of {s : Option Addr} {H H' : Hp} {p : Addr} (g : Gr s H H') (n : s ≠ some p) (h : H' p = none) : H p = none := by
  cases e : H p with
  | none => rfl
  | some o => rw [g.keep p o e n] at h; cases h
theorem fr_cons {Φ : List Sv → Prop} (h : Ev S a ρ fun r => r.isL = false ∧ Fr S es ρ fun l => Φ (r :: l)) (hs : ∀ env, starEach (a :: es) env = (false, eval a env) :: starEach es env := by intro _; rfl) : Fr S (a :: es) ρ Φ := by
  intro X hX σ H hE Q k
  refine WA.of (pa_cons pe_W pa_W (hs _)) (h X hX σ H hE _ fun v H1 r g1 s1 ⟨h1, h2⟩ => ?_)
  refine h2 X hX σ H1 (hE.mono g1.n) _ fun vs H2 l g2 s2 f h3 => k _ H2 _ (g1.trans g2) (.cons (s1.mono g2.n) s2) (f.cons h1 fun p e => ?_) h3
  have n : S.s ≠ some p := fun q => by
    obtain ⟨_, _, _, z, _⟩ := (hE.mono g1.n).spr p q
    rw [e] at z
    cases z
  exact g1.none_of n e
theorem fr_new {Φ : List Sv → Prop} (h : Fr S es ρ fun l => (∀ r ∈ l, r.isL = false) ∧ Φ (.own [] :: l)) (hs : ∀ env, starEach (.List [] p2 :: es) env = (false, eval (.List [] p2) env) :: starEach es env := by intro _; rfl) : Fr S (.List [] p2 :: es) ρ Φ := by
  intro X hX σ H hE Q k
  refine WA.of (pa_cons (pe_lst pa_nil) pa_W (hs _)) ⟨Nat.zero_le _, fun q hq => ?_⟩
  have g1 : Gr S.s H (upd H q (.lst [])) := Gr.new hq
  refine h X hX σ _ (hE.mono g1.n) _ fun vs H2 l g2 s2 f ⟨h1, h3⟩ => k _ H2 _ (g1.trans g2) (.cons (.own (g2.keep q _ upd_same (hE.new hq)) (hE.new hq) .nil) s2) ⟨fun i m p e1 e2 => ?_, fun z hz e => ?_, fun i j z z' e1 e2 q1 q2 => ?_⟩ h3
  · cases i with
    | zero =>
      have e2 : some (V.ref q) = some (V.ref p) := e2
      cases e2
      exact hq
    | succ i => cases h1 _ (List.mem_of_getElem? (show l[i]? = some (.own m) from e1))
  · rcases List.mem_cons.mp hz with hz | hz
    · subst hz
      rfl
    · rw [h1 z hz] at e
      cases e
  · cases i with
    | zero =>
      cases j with
      | zero => rfl
      | succ j =>
        rw [h1 _ (List.mem_of_getElem? (show l[j]? = some z' from e2))] at q2
        cases q2
    | succ i =>
      rw [h1 _ (List.mem_of_getElem? (show l[i]? = some z from e1))] at q1
      cases q1
/-- several slots, one of them may take a new list -/
theorem EnS.setsF {K : PySem.W.Frag} {s : Option Addr} {B H0 H : Hp} (hB : ∀ p, s ≠ some p → H0 p = none → B p = none) : ∀ {is : List Nat} {vs : List V} {l : List Sv} {σ : L2.St} {ρ : Ro}, EnS K s B σ H ρ → SatL K s H vs l → Fresh H0 vs l →
    (∀ (p : Addr), H0 p = none → ∀ (j : Nat) (r : Sv), ρ[j]? = some (some r) → r.isL = true → σ[j]? ≠ some (some (.ref p))) → EnS K s B (K39.sets σ is vs) H (K39.sets ρ is l)
  | [], _, _, _, _, h, _, _, _ => h
  | _ :: _, _, _, _, _, h, .nil, _, _ => h
  | i :: is, v :: vs, r :: l, σ, ρ, h, .cons hv hl, hf, hn => by
    have hf' : Fresh H0 vs l := ⟨fun j m p e1 e2 => hf.new (j + 1) m p e1 e2, fun z hz => hf.kind z (List.mem_cons_of_mem _ hz), fun j k z z' e1 e2 q1 q2 => Nat.succ.inj (hf.one (j + 1) (k + 1) z z' e1 e2 q1 q2)⟩
    by_cases hr : r.isL = false
    · refine EnS.setsF hB (is := is) (h.set hv (.inl hr)) hl hf' fun p hp j r' e1 e2 => ?_
      rcases get_set e1 with ⟨_, y, _⟩ | ⟨y, e1⟩
      · subst y
        rw [hr] at e2
        cases e2
      · rw [List.getElem?_set_ne y]
        exact hn p hp j r' e1 e2
    · have hr : r.isL = true := by simpa using hr
      have hz : ∀ z ∈ l, z.isL = false := fun z hz => by
        obtain ⟨j, hj, e⟩ := List.mem_iff_getElem.mp hz
        cases q : z.isL with
        | false => rfl
        | true => exact absurd (hf.one 0 (j + 1) r z rfl (by rw [← e]; exact List.getElem?_eq_getElem hj) hr q) (by omega)
      cases r with
      | own m =>
        cases hv with
        | @own p ws _ h1 h2 h3 =>
          have hp := hf.new 0 m p rfl rfl
          exact EnS.sets (is := is) (h.setO (.own h1 h2 h3) (hB p h2 hp) fun j r' _ e1 e2 => hn p hp j r' e1 e2) hl hz
      | lst m =>
        have := hf.kind (.lst m) List.mem_cons_self rfl
        cases this
      | _ => cases hr
theorem EnS.old {K : PySem.W.Frag} {s : Option Addr} {B H : Hp} {σ : L2.St} {ρ : Ro} (hE : EnS K s B σ H ρ) (p : Addr) (hp : H p = none) (j : Nat) (r : Sv) (e1 : ρ[j]? = some (some r)) (e2 : r.isL = true) : σ[j]? ≠ some (some (.ref p)) := fun e3 => by
  obtain ⟨v, e4, h4⟩ := hE.en.at_ j r e1
  rw [e3] at e4
  cases e4
  cases h4 with
  | lst z _ _ => rw [hp] at z; cases z
  | own z _ _ => rw [hp] at z; cases z
  | _ => cases e2
theorem EnS.setsN {K : PySem.W.Frag} {s : Option Addr} {B H H' : Hp} {σ : L2.St} {ρ : Ro} {is : List Nat} {vs : List V} {l : List Sv} (hE : EnS K s B σ H ρ) (g : Gr s H H') (h : SatL K s H' vs l) (f : Fresh H vs l) : EnS K s B (K39.sets σ is vs) H' (K39.sets ρ is l) :=
  EnS.setsF (H0 := H) (fun p n hp => hE.gr.none_of n hp) (hE.mono g) h f fun p hp j r e1 e2 => hE.old p hp j r e1 e2
def Lc (S : Sc) (x : Str) : Prop := S.names.lookup x = some .local
def Swp (S : Sc) (tg e : Expr) (ns : List Str) : Prop := ∀ env : Env, env.scope.kind = .function → env.scope.names = S.names → swappedStores [tg] e env = pure (some ns)
/-- x, y = a, b : local names -/
theorem ws_par2 (i j : Nat) {kt : Nat} (hi : S.N[i]? = some x) (hj : S.N[j]? = some y) (hij : i ≠ j) (hx : Lc S x) (hy : Lc S y) (h : Fr S [a, b] ρ fun l => l.length = 2 ∧ Ws S rest (sets ρ [i, j] l) N R)
    (hw : Swp S (.Tuple [.Name x p, .Name y p2] kt pt) (.Tuple [a, b] k2 p3) [x, y])
    (hs : ∀ l env, swapsWithSole [.Tuple [.Name x p, .Name y p2] kt pt] (.Tuple [a, b] k2 p3) l env = pure false := by intros; rfl) : Ws S (.Assign [.Tuple [.Name x p, .Name y p2] kt pt] (.Tuple [a, b] k2 p3) pos :: rest) ρ N R := by
  intro X hX B σ H hE D kN kR
  refine WSs.of (pss_cons (ps_par hX.calm hX.nd (i := i) (j := j) (by rw [hX.N]; exact hi) (by rw [hX.N]; exact hj) hij (by rw [hX.names]; exact hx) (by rw [hX.names]; exact hy) pa_W (hw _ hX.kind hX.names) (hs _ _)) pss_W) ?_
  refine h X hX σ H hE.en _ fun vs H' l g s f ⟨q1, q2⟩ => ?_
  match l, s, f, q1, q2 with
  | [r, r'], s, f, _, q2 =>
    obtain ⟨v, w, e, _, _⟩ := s.two
    subst e
    exact ⟨v, w, rfl, q2 X hX B _ H' (hE.setsN (is := [i, j]) g s f) D (fun σ' H2 ρ' e t n => kN σ' H2 ρ' e (g.tk.trans t) n) kR⟩
theorem SatL.three {K : PySem.W.Frag} {s : Option Addr} {H : Hp} {vs : List V} {r t u : Sv} (h : SatL K s H vs [r, t, u]) : ∃ v w o, vs = [v, w, o] := by
  cases h with
  | cons h1 h2 =>
    obtain ⟨v, w, e, _, _⟩ := h2.two
    exact ⟨_, v, w, by rw [e]⟩
theorem ws_par3 (i j l' : Nat) {p4 : Pos} {kt : Nat} (hi : S.N[i]? = some x) (hj : S.N[j]? = some y) (hl : S.N[l']? = some z) (hij : i ≠ j) (hil : i ≠ l') (hjl : j ≠ l') (hx : Lc S x) (hy : Lc S y) (hz : Lc S z) (h : Fr S [a, b, c] ρ fun l => l.length = 3 ∧ Ws S rest (sets ρ [i, j, l'] l) N R)
    (hw : Swp S (.Tuple [.Name x p, .Name y p2, .Name z p4] kt pt) (.Tuple [a, b, c] k2 p3) [x, y, z])
    (hs : ∀ l env, swapsWithSole [.Tuple [.Name x p, .Name y p2, .Name z p4] kt pt] (.Tuple [a, b, c] k2 p3) l env = pure false := by intros; rfl) : Ws S (.Assign [.Tuple [.Name x p, .Name y p2, .Name z p4] kt pt] (.Tuple [a, b, c] k2 p3) pos :: rest) ρ N R := by
  intro X hX B σ H hE D kN kR
  refine WSs.of (pss_cons (ps_par3 hX.calm hX.nd (i := i) (j := j) (l := l') (by rw [hX.N]; exact hi) (by rw [hX.N]; exact hj) (by rw [hX.N]; exact hl) hij hil hjl (by rw [hX.names]; exact hx) (by rw [hX.names]; exact hy) (by rw [hX.names]; exact hz) pa_W (hw _ hX.kind hX.names) (hs _ _)) pss_W) ?_
  refine h X hX σ H hE.en _ fun vs H' l g s f ⟨q1, q2⟩ => ?_
  match l, s, f, q1, q2 with
  | [r, r', r2], s, f, _, q2 =>
    obtain ⟨v, w, o, e⟩ := s.three
    subst e
    exact ⟨v, w, o, rfl, q2 X hX B _ H' (hE.setsN (is := [i, j, l']) g s f) D (fun σ' H2 ρ' e t n => kN σ' H2 ρ' e (g.tk.trans t) n) kR⟩
/-- a display of other lengths: a tuple, then the stores -/
theorem ws_parN {is : List Nat} {ts : List Expr} {kt : Nat} (hn : Nms S ts is) (h : Fr S es ρ fun l => l.length = is.length ∧ l.length ≤ 100 ∧ Ws S rest (sets ρ is l) N R)
    (hs : ∀ l env, swapsWithSole [.Tuple ts kt p] (.Tuple es k2 p2) l env = pure false := by intros; rfl) (hw : ∀ env : Env, env.scope.kind = .function → env.scope.names = S.names → swappedStores [.Tuple ts kt p] (.Tuple es k2 p2) env = pure none) : Ws S (.Assign [.Tuple ts kt p] (.Tuple es k2 p2) pos :: rest) ρ N R := by
  intro X hX B σ H hE D kN kR
  refine WSs.of (pss_cons (ps_asg (pe_tup pa_W) (hn.pg hX) (hs _ _) (hw _ hX.kind hX.names) (by rfl)) pss_W) ?_
  refine h X hX σ H hE.en _ fun vs H1 l g1 s f ⟨q1, q2, q4⟩ => ⟨by rw [s.length, sizeLine_eq]; omega, fun u hu => ?_⟩
  have g2 : Gr S.s H1 (upd H1 u (.tup vs)) := Gr.new hu
  have e2 : vs.length = is.length := by rw [s.length]; exact q1
  refine ⟨u, vs, rfl, SqT.of upd_same, e2, e2, ?_⟩
  exact q4 X hX B _ _ (hE.setsN (g1.trans g2) (s.mono g2.n) f) D (fun σ' H2 ρ' e t n => kN σ' H2 ρ' e ((g1.trans g2).tk.trans t) n) kR
/-! ### loops -/
theorem ws_forT {tg : Expr} {is : List Nat} {bt : Bool} (ht : Tgt S tg is bt) (h : Ev S iter ρ fun r => ∃ src, r.parts = some src ∧ (∀ z ∈ src, z.flat = true) ∧ ∃ I : Nat → Ro → Prop, I 0 ρ ∧
      (∀ (i : Nat) (z : Sv) (ρ' : Ro), src[i]? = some z → I i ρ' → ∃ l, tv bt z = some l ∧ l.length = is.length ∧ (∀ y ∈ l, y.isL = false) ∧ Ws S body (sets ρ' is l) (I (i + 1)) R) ∧ ∀ ρ', I src.length ρ' → Ws S rest ρ' N R)
    (hfs : ∀ env x, foldedSetIterable iter env x = pure x := by intro _ _; rfl) : Ws S (.For tg iter body [] pos :: rest) ρ N R := by
  intro X hX B σ H hE D kN kR
  refine WSs.of (pss_cons (ps_for (by rw [hX.xe]; exact PassesOwn.never) hX.calm (pi_tup pe_W) (ht.pg hX) pss_W (hfs _)) pss_W) ?_
  refine h X hX σ H hE.en _ fun v H1 r g1 s1 ⟨src, e1, e2, I, i0, i1, i2⟩ => ?_
  obtain ⟨u, vs, rfl, hq, hl⟩ := s1.parts e1
  refine ⟨u, rfl, ⟨vs, by rw [hX.K]; exact hq.sq⟩, ?_⟩
  refine for_tup (K := X.K) (a := u) (xs := vs) (fun i σ' H' => ∃ ρ', EnS S.K S.s B σ' H' ρ' ∧ Tk H1 H' ∧ I i ρ') ⟨ρ, hE.mono g1, Tk.refl, i0⟩ (fun i σ' H' _ ⟨ρ', _, t, _⟩ => ?_) ?_ ?_
  · rw [hX.K]
    exact (show Tq S.K H' u vs from hq.imp (t _ _) id).sq
  · rintro i y σ' H' hy ⟨ρ', hE', t, hI⟩
    obtain ⟨r', er, sr⟩ := hl.get' hy
    obtain ⟨l, f1, f2, f3, f4⟩ := i1 i r' ρ' er hI
    have sr' : Sat S.K S.s H' y r' := Sat.keepF t (fun a e _ => hE'.en.spr a e) (e2 _ (List.mem_of_getElem? er)) sr
    refine gT_of sr' f1 f2 fun ws hw => ?_
    exact f4 X hX B _ H' (hE'.sets hw f3) _ (fun σ2 H2 ρ2 e t2 n => ⟨ρ2, e, t.trans t2, n⟩) kR
  · rintro σ' H' ⟨ρ', hE', t, hI⟩
    rw [hl.length] at hI
    exact i2 ρ' hI X hX B σ' H' hE' D (fun σ2 H2 ρ2 e t2 n => kN σ2 H2 ρ2 e ((g1.tk.trans t).trans t2) n) kR
theorem ws_forL {tg : Expr} {is : List Nat} {bt : Bool} (ht : Tgt S tg is bt) (hno : noOwn ρ) (h : Ev S iter ρ fun r => ∃ src, r = .lst src ∧ ∃ I : Nat → Ro → Prop, I 0 ρ ∧
      (∀ (i : Nat) (z : Sv) (ρ' : Ro), src[i]? = some z → I i ρ' → ∃ l, tv bt z = some l ∧ l.length = is.length ∧ (∀ y ∈ l, y.isL = false) ∧ Ws S body (sets ρ' is l) (I (i + 1)) R) ∧ ∀ ρ', I src.length ρ' → Ws S rest ρ' N R)
    (hfs : ∀ env x, foldedSetIterable iter env x = pure x := by intro _ _; rfl) : Ws S (.For tg iter body [] pos :: rest) ρ N R := by
  intro X hX B σ H hE D kN kR
  refine WSs.of (pss_cons (ps_for (by rw [hX.xe]; exact PassesOwn.never) hX.calm (pi_list pe_W) (ht.pg hX) pss_W (hfs _)) pss_W) ?_
  refine h X hX σ H hE.en _ fun v H1 r g1 s1 ⟨src, e1, I, i0, i1, i2⟩ => ?_
  subst e1
  have hE1 := hE.mono g1
  cases s1 with
  | @lst u vs _ hu ns hl =>
    refine ⟨u, rfl, ⟨vs, SqL.of hu⟩, ?_⟩
    have hB : EnS S.K S.s H1 σ H1 ρ := ⟨hE1.en, Gr.refl, fun i l p e => absurd e (hno i l), fun i j l p r n e => absurd e (hno i l)⟩
    have back : ∀ {σ' : L2.St} {H' : Hp} {ρ' : Ro}, EnS S.K S.s H1 σ' H' ρ' → EnS S.K S.s B σ' H' ρ' := fun e =>
      ⟨e.en, hE1.gr.trans e.gr, fun i l p e1 e2 => let ⟨q1, q2⟩ := e.own i l p e1 e2; ⟨hE1.gr.none_of q2 q1, q2⟩, e.sep⟩
    refine for_list (K := X.K) (a := u) (xs := vs) (fun i σ' H' => ∃ ρ', EnS S.K S.s H1 σ' H' ρ' ∧ Tk H1 H' ∧ I i ρ') ⟨ρ, hB, Tk.refl, i0⟩ (fun i σ' H' _ ⟨ρ', e, t, _⟩ => SqL.of (e.gr.keep u _ hu ns)) ?_ ?_
    · rintro i y σ' H' hy ⟨ρ', hE', t, hI⟩
      obtain ⟨r', er, sr⟩ := hl.get' hy
      obtain ⟨l, f1, f2, f3, f4⟩ := i1 i r' ρ' er hI
      refine gT_of (sr.mono hE'.gr.n) f1 f2 fun ws hw => ?_
      exact f4 X hX H1 _ H' (hE'.sets hw f3) _ (fun σ2 H2 ρ2 e t2 n => ⟨ρ2, e, t.trans t2, n⟩) fun v H2 r g s q => kR v H2 r (hE1.gr.trans g) s q
    · rintro σ' H' ⟨ρ', hE', t, hI⟩
      rw [hl.length] at hI
      exact i2 ρ' hI X hX B σ' H' (back hE') D (fun σ2 H2 ρ2 e t2 n => kN σ2 H2 ρ2 e ((g1.tk.trans t).trans t2) n) kR
theorem ws_forR1 (k : Nat) (hg : Glb S "range") (hm : S.mg "range" = none) (hN : S.N[k]? = some x) (ht : Sto S x) (h : Ev S a ρ fun r => ∃ n : Nat, r = .int (n : Int) ∧ n < 1000000 ∧ ∃ I : Nat → Ro → Prop, I 0 ρ ∧
      (∀ (i : Nat) (ρ' : Ro), i < n → I i ρ' → Ws S body (ρ'.set k (some (.int (i : Int)))) (I (i + 1)) R) ∧ ∀ ρ', I n ρ' → Ws S rest ρ' N R)
    (hs : ∀ env, starEach [a] env = [(false, eval a env)] := by intro _; rfl)
    (hfs : ∀ env x, foldedSetIterable (.Call (.Name "range" p2) [a] [] p3) env x = pure x := by intro _ _; rfl) : Ws S (.For (.Name x p) (.Call (.Name "range" p2) [a] [] p3) body [] pos :: rest) ρ N R := by
  intro X hX B σ H hE D kN kR
  have hX' : Tgt S (.Name x p) [k] false := .name hN ht
  refine WSs.of (pss_cons (ps_for (by rw [hX.xe]; exact PassesOwn.never) hX.calm (pi_range1 (hX.gl hg) (by rw [hX.mg]; exact hm) pa_W (hs _)) (hX'.pg hX) pss_W (hfs _)) pss_W) ?_
  refine ea_one (Φ := fun l => ∃ r, l = [r] ∧ ∃ n : Nat, r = .int (n : Int) ∧ n < 1000000 ∧ ∃ I : Nat → Ro → Prop, I 0 ρ ∧
      (∀ (i : Nat) (ρ' : Ro), i < n → I i ρ' → Ws S body (ρ'.set k (some (.int (i : Int)))) (I (i + 1)) R) ∧ ∀ ρ', I n ρ' → Ws S rest ρ' N R) (h.imp fun r q => ⟨r, rfl, q⟩) (by intro env; rw [hs]; rfl) X hX σ H hE.en _ fun vs H1 l g1 s1 ⟨r, e1, n, e2, hn, I, i0, i1, i2⟩ => ?_
  subst e1 e2
  obtain ⟨v, rfl, s2⟩ := s1.one
  cases s2
  refine ⟨n, rfl, by omega, by omega, ?_⟩
  refine for_range (lo := 0) (fun i σ' H' => ∃ ρ', EnS S.K S.s B σ' H' ρ' ∧ Tk H1 H' ∧ I i ρ') ⟨ρ, hE.mono g1, Tk.refl, i0⟩ ?_ ?_
  · rintro i σ' H' hi ⟨ρ', hE', t, hI⟩
    have hi : i < n := by simpa using hi
    have e : ((0 : Int) + (i : Int)) = (i : Int) := by omega
    rw [e]
    refine gT_of (s := S.s) (Sat.int (K := S.K) (s := S.s) (H := H') (i : Int)) (b := false) rfl rfl fun ws hw => ?_
    exact i1 i ρ' hi hI X hX B _ H' (hE'.sets (is := [k]) hw (by simp [Sv.isL])) _ (fun σ2 H2 ρ2 e t2 n => ⟨ρ2, e, t.trans t2, n⟩) kR
  · rintro σ' H' ⟨ρ', hE', t, hI⟩
    have hI : I n ρ' := by simpa using hI
    exact i2 ρ' hI X hX B σ' H' hE' D (fun σ2 H2 ρ2 e t2 n => kN σ2 H2 ρ2 e ((g1.tk.trans t).trans t2) n) kR
/-- for x in range(a, b), from nought on -/
theorem ws_forR2 (k : Nat) (hg : Glb S "range") (hm : S.mg "range" = none) (hN : S.N[k]? = some x) (ht : Sto S x) (h : Ev S a ρ fun r => ∃ m : Nat, r = .int (m : Int) ∧ m < 1000000 ∧ Ev S b ρ fun r => ∃ n : Nat, r = .int (n : Int) ∧ n < 1000000 ∧ ∃ I : Nat → Ro → Prop, I 0 ρ ∧
      (∀ (i : Nat) (ρ' : Ro), i < n - m → I i ρ' → Ws S body (ρ'.set k (some (.int ((m + i : Nat) : Int)))) (I (i + 1)) R) ∧ ∀ ρ', I (n - m) ρ' → Ws S rest ρ' N R)
    (hs : ∀ env, starEach [a, b] env = [(false, eval a env), (false, eval b env)] := by intro _; rfl) (hs2 : ∀ env, starEach [b] env = [(false, eval b env)] := by intro _; rfl)
    (hfs : ∀ env x, foldedSetIterable (.Call (.Name "range" p2) [a, b] [] p3) env x = pure x := by intro _ _; rfl) : Ws S (.For (.Name x p) (.Call (.Name "range" p2) [a, b] [] p3) body [] pos :: rest) ρ N R := by
  intro X hX B σ H hE D kN kR
  have hX' : Tgt S (.Name x p) [k] false := .name hN ht
  refine WSs.of (pss_cons (ps_for (by rw [hX.xe]; exact PassesOwn.never) hX.calm (pi_range2 (hX.gl hg) (by rw [hX.mg]; exact hm) pa_W (hs _) (hs2 _)) (hX'.pg hX) pss_W (hfs _)) pss_W) ?_
  refine ea_cons (Φ := fun l => ∃ m n : Nat, l = [.int (m : Int), .int (n : Int)] ∧ m < 1000000 ∧ n < 1000000 ∧ ∃ I : Nat → Ro → Prop, I 0 ρ ∧
      (∀ (i : Nat) (ρ' : Ro), i < n - m → I i ρ' → Ws S body (ρ'.set k (some (.int ((m + i : Nat) : Int)))) (I (i + 1)) R) ∧ ∀ ρ', I (n - m) ρ' → Ws S rest ρ' N R)
      (h.imp fun r ⟨m, e, hm, q⟩ => ea_one (q.imp fun r' ⟨n, e', hn, q⟩ => ⟨m, n, by rw [e, e'], hm, hn, q⟩) (by intro env; rw [hs2]; rfl)) (by intro env; rw [hs, hs2]) X hX σ H hE.en _ fun vs H1 l g1 s1 ⟨m, n, e1, hm, hn, I, i0, i1, i2⟩ => ?_
  subst e1
  obtain ⟨v, w, rfl, s1, s2⟩ := s1.two
  cases s1
  cases s2
  refine ⟨m, n, rfl, by omega, ?_⟩
  have en : ((n : Int) - (m : Int)).toNat = n - m := by omega
  rw [en]
  refine for_range (fun i σ' H' => ∃ ρ', EnS S.K S.s B σ' H' ρ' ∧ Tk H1 H' ∧ I i ρ') ⟨ρ, hE.mono g1, Tk.refl, i0⟩ ?_ ?_
  · rintro i σ' H' hi ⟨ρ', hE', t, hI⟩
    have e : ((m : Int) + (i : Int)) = ((m + i : Nat) : Int) := by omega
    rw [e]
    refine gT_of (s := S.s) (Sat.int (K := S.K) (s := S.s) (H := H') ((m + i : Nat) : Int)) (b := false) rfl rfl fun ws hw => ?_
    exact i1 i ρ' hi hI X hX B _ H' (hE'.sets (is := [k]) hw (by simp [Sv.isL])) _ (fun σ2 H2 ρ2 e t2 n => ⟨ρ2, e, t.trans t2, n⟩) kR
  · rintro σ' H' ⟨ρ', hE', t, hI⟩
    exact i2 ρ' hI X hX B σ' H' hE' D (fun σ2 H2 ρ2 e t2 n => kN σ2 H2 ρ2 e ((g1.tk.trans t).trans t2) n) kR
/-- while, by a measure -/
theorem ws_while (I : Nat → Ro → Prop) (m0 : Nat) (h0 : I m0 ρ) (h : ∀ (m : Nat) (ρ' : Ro), I m ρ' → Et S c ρ' fun t => if t = true then Ws S body ρ' (fun ρ2 => ∃ m' < m, I m' ρ2) R else Ws S rest ρ' N R) : Ws S (.While c body [] pos :: rest) ρ N R := by
  intro X hX B σ H hE D kN kR
  refine WSs.of (pss_cons (ps_while (by rw [hX.xe]; exact PassesOwn.never) pt_W pss_W) pss_W) ?_
  refine ⟨fun m σ' H' => ∃ ρ', EnS S.K S.s B σ' H' ρ' ∧ Tk H H' ∧ I m ρ', ⟨m0, ρ, hE, Tk.refl, h0⟩, ?_⟩
  rintro m σ' H' ⟨ρ', hE', t, hI⟩
  refine h m ρ' hI X hX σ' H' hE'.en _ fun b H1 g1 q => ?_
  cases b with
  | true =>
    rw [if_pos rfl] at q ⊢
    refine ⟨fun σ2 H2 => ∃ m' < m, ∃ ρ2, EnS S.K S.s B σ2 H2 ρ2 ∧ Tk H H2 ∧ I m' ρ2, fun σ2 H2 ⟨m', h1, h2⟩ => ⟨m', h1, h2⟩, ?_⟩
    exact q X hX B σ' H1 (hE'.mono g1) _ (fun σ2 H2 ρ2 e t2 ⟨m', h1, h2⟩ => ⟨m', h1, ρ2, e, (t.trans g1.tk).trans t2, h2⟩) kR
  | false =>
    rw [if_neg Bool.false_ne_true] at q ⊢
    exact q X hX B σ' H1 (hE'.mono g1) D (fun σ2 H2 ρ2 e t2 n => kN σ2 H2 ρ2 e ((t.trans g1.tk).trans t2) n) kR
end
end K39
end
section
set_option Elab.async false
set_option linter.all false
set_option maxRecDepth 100000
set_option maxHeartbeats 4000000
/-! T6: the module's facts, from a body to a def's promise. -/
namespace K39
open PySem PySem.Spec PyProof.Rows L2
theorem memF (i : Nat) {f : He.Fa} (h : fa[i]? = some f := by rfl) : f ∈ fa := List.mem_of_getElem? h
theorem memN (i : Nat) {f : He.DefD} (h : fn[i]? = some f := by rfl) : f ∈ fn := List.mem_of_getElem? h
/-- what the module holds -/
structure Md (K : PySem.W.Frag) (mg : Str → Option Value) : Prop where
  c : He.SaysD fa fn K
  gl : ∀ x, He.Fa.glo x ∈ fa → mg x = some (.ref (He.ga K x))
  fr : ∀ x, He.Fa.free x ∈ fa → mg x = none
  zero : ∃ u, mg "ZERO" = some (.ref u) ∧ KT K u [.int 0, .int 1]
  one : ∃ u, mg "ONE" = some (.ref u) ∧ KT K u [.int 1, .int 1]
  plates : ∃ t, mg "MOST_PLATES" = some (.int 60 t)
  feeds : ∃ t, mg "MOST_FEEDS" = some (.int 4 t)
  gcd : mg "gcd" = some (.builtin "math.gcd")
theorem Md.of {K : PySem.W.Frag} {h : Heap} {mg : Str → Option Value} (X : K.In h) (G : h.Ns mainGlobals mg) (c : He.SaysD fa fn K) (ex : exK K = true) : Md K mg := by
  obtain ⟨e1, e3⟩ := He.ba (show ((He.tupB K "ZERO" [.int 0, .int 1] && He.tupB K "ONE" [.int 1, .int 1]) && _) = true from ex)
  obtain ⟨e1, e2⟩ := He.ba e1
  have gl : ∀ x, He.Fa.glo x ∈ fa → mg x = some (.ref (He.ga K x)) := fun x hx => He.glo_ok X G (c.facts hx)
  refine ⟨c, gl, fun x hx => He.free_ok X G (c.facts hx), ⟨_, gl "ZERO" (memF 94), ?_⟩, ⟨_, gl "ONE" (memF 95), ?_⟩, He.int_ok X G (c.fact 96 rfl), He.int_ok X G (c.fact 97 rfl), ?_⟩
  · exact He.tupB_ok e1 (fun _ => none)
  · exact He.tupB_ok e2 (fun _ => none)
  · cases q : PySem.W.nsIn K mainGlobals "gcd" with
    | none => rw [q] at e3; cases e3
    | some o =>
      rw [q] at e3
      cases o with
      | none => cases e3
      | some v =>
        cases v with
        | builtin b =>
          have e : b = "math.gcd" := of_decide_eq_true e3
          rw [← e]
          exact PySem.W.mg_of X G q
        | _ => cases e3
section
variable {P : Program} {w : World} {K : PySem.W.Frag} {mg : Str → Option Value} {base : Heap}
/-- the static context of a def -/
abbrev sc (P : Program) (w : World) (K : PySem.W.Frag) (mg : Str → Option Value) (base : Heap) (d : He.DefD) (N : List Str) (k : Nat) (s : Option Addr) : Sc := ⟨P, w, K, mg, base, N, d.scope.names, k, s, true, false, none⟩
def ro (N : List Str) (l : List Sv) : Ro := l.map some ++ List.replicate (N.length - l.length) none
theorem SatL.flat_len {K : PySem.W.Frag} {s : Option Addr} {H : Hp} {vs : List V} {l : List Sv} (h : SatL K s H vs l) : vs.length = l.length := h.length
theorem en_start {s : Option Addr} {H : Hp} {N : List Str} {vs : List V} {l : List Sv} (h : SatL K s H vs l) (hs : ∀ a, s = some a → Spr H a) : En K s (L2.start N vs) H (ro N l) := by
  have hl := h.length
  refine ⟨?_, fun i r e => ?_, hs⟩
  · unfold L2.start ro
    simp only [List.length_append, List.length_map, List.length_replicate, hl]
  · unfold ro at e
    by_cases hi : i < l.length
    · rw [List.getElem?_append_left (by simpa using hi), List.getElem?_map] at e
      cases q : l[i]? with
      | none => rw [q] at e; cases e
      | some r' =>
        rw [q] at e
        cases e
        obtain ⟨v, e1, h1⟩ := h.get q
        refine ⟨v, ?_, h1⟩
        unfold L2.start
        rw [List.getElem?_append_left (by rw [List.length_map]; omega), List.getElem?_map, e1] <;> rfl
    · rw [List.getElem?_append_right (by simpa using hi), List.getElem?_replicate] at e
      split at e <;> cases e
def noO (l : List Sv) : Prop := ∀ r ∈ l, r.isO = false
theorem ens_start {s : Option Addr} {H : Hp} {N : List Str} {vs : List V} {l : List Sv} (h : SatL K s H vs l) (hs : ∀ a, s = some a → Spr H a) (ho : noO l) : EnS K s H (L2.start N vs) H (ro N l) := by
  have no : ∀ (i : Nat) (m : List Sv), (ro N l)[i]? ≠ some (some (.own m)) := fun i m e => by
    unfold ro at e
    by_cases hi : i < l.length
    · rw [List.getElem?_append_left (by simpa using hi), List.getElem?_map] at e
      cases q : l[i]? with
      | none => rw [q] at e; cases e
      | some r' =>
        rw [q] at e
        cases e
        cases ho _ (List.mem_of_getElem? q)
    · rw [List.getElem?_append_right (by simpa using hi), List.getElem?_replicate] at e
      split at e <;> cases e
  exact ⟨en_start h hs, Gr.refl, fun i m p e => absurd e (no i m), fun i j m p r n e => absurd e (no i m)⟩
structure Sig (d : He.DefD) (x : Str) (N ps : List Str) : Prop where
  mem : d ∈ fn
  at_ : d.at_ = (x, none)
  glo : He.Fa.glo x ∈ fa
  dfl : d.dfl = []
  kwd : d.kwd = []
  scp : FnScope N ps d.scope
  bind : ∀ (kV doc pm : Value) (an : Option Addr) (cdv ct : Value) (us : List Value), us.length = ps.length → bindArgs (PySem.W.fnOf d.name d.qual d.params d.body d.scope .none kV doc pm an cdv ct) ⟨us, []⟩ = pure (ps.zip us)
theorem Sig.funD {d : He.DefD} {x : Str} {N ps : List Str} (M : Md K mg) (g : Sig d x N ps) : ∃ fd, FunD K d.name d.qual d.params d.body d.scope [] [] (He.ga K x) fd := by
  obtain ⟨fd, F⟩ := M.c.defs g.mem
  have e1 : d.dvs K = [] := by unfold He.DefD.dvs; rw [g.dfl] <;> rfl
  have e2 : d.kws K = [] := by unfold He.DefD.kws; rw [g.kwd] <;> rfl
  rw [e1, e2] at F
  have e3 : He.fAd K d.at_ = He.ga K x := by rw [g.at_] <;> rfl
  rw [e3] at F
  exact ⟨fd, F⟩
theorem ws_fnok {d : He.DefD} {x : Str} {N ps : List Str} {fd : FuncData} {α : Type} {args : α → List Sv} {pre : α → Prop} {res : α → Sv → Prop} {k : Nat} (F : FunD K d.name d.qual d.params d.body d.scope [] [] (He.ga K x) fd) (g : Sig d x N ps) (hl : ∀ z, (args z).length = ps.length) (ho : ∀ z, pre z → noO (args z))
    (body : ∀ (s : Option Addr) (z : α), pre z → Ws (sc P w K mg base d N k s) d.body (ro N (args z)) (fun _ => res z .non) (res z)) : FnOk P w K mg base CX0 (k + 1) (He.ga K x) fd ps (Pm K args pre res) := by
  refine F.ok g.scp (fun vs H Q E h => ?_) (fun cdv A outer s H vs Q E hr h => ?_)
  · obtain ⟨s, z, _, _, h1, _⟩ := h
    rw [h1.length, hl]
  · obtain ⟨s', z, h0, hp, h1, h2⟩ := h
    refine ⟨_, PSs.nox pss_W, ?_⟩
    exact body s' z hp _ ⟨rfl, rfl, rfl, rfl, rfl, rfl, rfl, g.scp.kind, hr, rfl, g.scp.nd, rfl, (fun _ _ => rfl), (fun z => by cases z), fun _ _ _ z => by cases z⟩ H _ H (ens_start h1 h0 (ho z hp)) _ (fun σ' H' ρ' e _ n => h2 _ _ _ e.gr .non n) (fun v H' r g s q => h2 _ _ _ g s q)
theorem mk {d : He.DefD} {x : Str} {N ps : List Str} {α : Type} {args : α → List Sv} {pre : α → Prop} {res : α → Sv → Prop} {k : Nat} (M : Md K mg) (g : Sig d x N ps) (hl : ∀ z, (args z).length = ps.length) (ho : ∀ z, pre z → noO (args z))
    (body : ∀ (s : Option Addr) (z : α), pre z → Ws (sc P w K mg base d N k s) d.body (ro N (args z)) (fun _ => res z .non) (res z)) : Fn P w K mg base x (k + 1) ps (Pm K args pre res) := by
  obtain ⟨fd, F⟩ := g.funD M
  exact ⟨_, fd, M.gl x g.glo, F.kp, F.bindsN g.bind, ws_fnok F g hl ho body⟩
end
end K39
end
section
set_option Elab.async false
set_option linter.all false
set_option exponentiation.threshold 10000
/-! Q0: fractions, gcds, sizes. -/
namespace K39
open PySem PySem.Spec L2
theorem den_pos (r : Rat) : (0 : Int) < (r.den : Int) := Int.natCast_pos.mpr (Nat.pos_of_ne_zero r.den_nz)
theorem den_ne (r : Rat) : (r.den : Int) ≠ 0 := Int.ne_of_gt (den_pos r)
theorem denQ (r : Rat) : (r.den : Rat) ≠ 0 := by
  intro h
  exact r.den_nz (Rat.natCast_eq_zero_iff.mp h)
theorem num_eq (r : Rat) : (r.num : Rat) = r * (r.den : Rat) := by
  have h : Rat.divInt r.num r.den = r := Rat.num_divInt_den r
  rw [Rat.divInt_eq_div] at h
  have h2 : (r.num : Rat) / ((r.den : Int) : Rat) * ((r.den : Int) : Rat) = r * ((r.den : Int) : Rat) := by rw [h]
  rw [Rat.div_mul_cancel (by rw [Rat.intCast_natCast]; exact denQ r)] at h2
  rw [h2, Rat.intCast_natCast]
theorem qadd (a b : Rat) : Rat.divInt (a.num * b.den + b.num * a.den) ((a.den : Int) * (b.den : Int)) = a + b := by
  rw [Rat.add_def', ← Rat.divInt_ofNat, Int.natCast_mul]
theorem qsub (a b : Rat) : Rat.divInt (a.num * b.den - b.num * a.den) ((a.den : Int) * (b.den : Int)) = a - b := by
  rw [Rat.sub_def', ← Rat.divInt_ofNat, Int.natCast_mul]
theorem qmul (a b : Rat) : Rat.divInt (a.num * b.num) ((a.den : Int) * (b.den : Int)) = a * b := by
  rw [Rat.mul_def', ← Rat.divInt_ofNat, Int.natCast_mul]
theorem qdiv (a b : Rat) : Rat.divInt (a.num * b.den) ((a.den : Int) * b.num) = a / b := by
  rw [Rat.div_def, Rat.inv_def]
  have h := Rat.divInt_mul_divInt a.num (b.den : Int) (d₁ := (a.den : Int)) (d₂ := b.num)
  rw [Rat.num_divInt_den] at h
  exact h.symm
theorem natAbs_gcd (t l : Int) : Int.gcd l t = Nat.gcd t.natAbs l.natAbs := by
  rw [Int.gcd_comm] <;> rfl
theorem fnum {t l : Int} (hl : 0 < l) : t / ((Nat.gcd t.natAbs l.natAbs : Nat) : Int) = (Rat.divInt t l).num := by
  rw [Rat.num_divInt, Int.sign_eq_one_of_pos hl, Int.one_mul, natAbs_gcd]
theorem fden {t l : Int} (hl : 0 < l) : l / ((Nat.gcd t.natAbs l.natAbs : Nat) : Int) = ((Rat.divInt t l).den : Int) := by
  rw [Rat.den_divInt, if_neg (by omega), natAbs_gcd]
  have e : l = ((l.natAbs : Nat) : Int) := by omega
  conv => lhs; lhs; rw [e]
  exact (Int.natCast_ediv ..).symm
/-- sizes -/
def Bz (n : Nat) (r : Rat) : Prop := r.num.natAbs < 2 ^ n ∧ r.den < 2 ^ n
def Gk (t l : Int) : Prop := l ≠ 0 ∧ Nat.gcd t.natAbs l.natAbs < 2 ^ 8999
theorem p2 {m n : Nat} (h : m ≤ n) : 2 ^ m ≤ 2 ^ n := Nat.pow_le_pow_right (by decide) h
theorem Bz.mono {m n : Nat} {r : Rat} (h : Bz m r) (l : m ≤ n) : Bz n r := ⟨Nat.lt_of_lt_of_le h.1 (p2 l), Nat.lt_of_lt_of_le h.2 (p2 l)⟩
theorem mul_lt_p {a b m n : Nat} (h : a < 2 ^ m) (h' : b < 2 ^ n) : a * b < 2 ^ (m + n) := by
  rw [Nat.pow_add]
  exact Nat.mul_lt_mul'' h h'
theorem abs_mul_lt {a b : Int} {m n : Nat} (h : a.natAbs < 2 ^ m) (h' : b.natAbs < 2 ^ n) : (a * b).natAbs < 2 ^ (m + n) := by
  rw [Int.natAbs_mul]
  exact mul_lt_p h h'
theorem abs_add_lt {a b : Int} {m : Nat} (h : a.natAbs < 2 ^ m) (h' : b.natAbs < 2 ^ m) : (a + b).natAbs < 2 ^ (m + 1) := by
  rw [Nat.pow_succ]
  omega
theorem abs_sub_lt {a b : Int} {m : Nat} (h : a.natAbs < 2 ^ m) (h' : b.natAbs < 2 ^ m) : (a - b).natAbs < 2 ^ (m + 1) := by
  rw [Nat.pow_succ]
  omega
theorem bz_div {t l : Int} {n : Nat} (h1 : t.natAbs < 2 ^ n) (h2 : l.natAbs < 2 ^ n) (h3 : 1 < 2 ^ n) : Bz n (Rat.divInt t l) := by
  refine ⟨?_, ?_⟩
  · rw [Rat.num_divInt]
    refine Nat.lt_of_le_of_lt ?_ h1
    have hd : ((Int.gcd l t : Nat) : Int) ∣ l.sign * t := Int.dvd_trans (Int.gcd_dvd_right ..) (Int.dvd_mul_left ..)
    rw [Int.natAbs_ediv_of_dvd hd]
    refine Nat.le_trans (Nat.div_le_self _ _) ?_
    rw [Int.natAbs_mul]
    have : l.sign.natAbs ≤ 1 := by rw [Int.natAbs_sign]; split <;> omega
    exact Nat.le_trans (Nat.mul_le_mul_right _ this) (by omega)
  · rw [Rat.den_divInt]
    split
    · exact h3
    · exact Nat.lt_of_le_of_lt (Nat.div_le_self _ _) h2
theorem pge (n : Nat) : 1 ≤ 2 ^ n := Nat.one_le_two_pow
theorem Bz.add {m n : Nat} {a b : Rat} (h : Bz m a) (h' : Bz n b) : Bz (m + n + 1) (a + b) := by
  rw [← qadd]
  refine bz_div (abs_add_lt (abs_mul_lt h.1 (by simpa using h'.2)) ?_) ?_ (Nat.one_lt_two_pow (by omega))
  · rw [Nat.add_comm]; exact abs_mul_lt h'.1 (by simpa using h.2)
  · refine Nat.lt_of_lt_of_le (abs_mul_lt (m := m) (n := n) (by simpa using h.2) (by simpa using h'.2)) (p2 (by omega))
theorem Bz.sub {m n : Nat} {a b : Rat} (h : Bz m a) (h' : Bz n b) : Bz (m + n + 1) (a - b) := by
  rw [← qsub]
  refine bz_div (abs_sub_lt (abs_mul_lt h.1 (by simpa using h'.2)) ?_) ?_ (Nat.one_lt_two_pow (by omega))
  · rw [Nat.add_comm]; exact abs_mul_lt h'.1 (by simpa using h.2)
  · refine Nat.lt_of_lt_of_le (abs_mul_lt (m := m) (n := n) (by simpa using h.2) (by simpa using h'.2)) (p2 (by omega))
theorem Bz.pos {m : Nat} {a : Rat} (h : Bz m a) : 1 < 2 ^ m := Nat.lt_of_le_of_lt (Nat.pos_of_ne_zero a.den_nz) h.2
theorem Bz.mul {m n : Nat} {a b : Rat} (h : Bz m a) (h' : Bz n b) : Bz (m + n) (a * b) := by
  rw [← qmul]
  refine bz_div (abs_mul_lt h.1 h'.1) (abs_mul_lt (by simpa using h.2) (by simpa using h'.2)) ?_
  exact Nat.lt_of_lt_of_le h.pos (p2 (by omega))
theorem Bz.div {m n : Nat} {a b : Rat} (h : Bz m a) (h' : Bz n b) : Bz (m + n) (a / b) := by
  rw [← qdiv]
  refine bz_div (abs_mul_lt h.1 (by simpa using h'.2)) (abs_mul_lt (by simpa using h.2) h'.1) ?_
  exact Nat.lt_of_lt_of_le h.pos (p2 (by omega))
/-! ### gcds are small -/
theorem den_divInt_mul {t l : Int} (hl : l ≠ 0) : (Rat.divInt t l).den * Nat.gcd t.natAbs l.natAbs = l.natAbs := by
  rw [Rat.den_divInt, if_neg hl, natAbs_gcd]
  exact Nat.div_mul_cancel (Nat.gcd_dvd_right ..)
theorem den_add_dvd (a b : Rat) : (a + b).den ∣ a.den * b.den := by
  have h := den_divInt_mul (t := a.num * b.den + b.num * a.den) (l := (a.den : Int) * (b.den : Int)) (Int.mul_ne_zero (den_ne a) (den_ne b))
  rw [qadd, Int.natAbs_mul, Int.natAbs_natCast, Int.natAbs_natCast] at h
  exact ⟨_, h.symm⟩
theorem den_sub_dvd (a b : Rat) : (a - b).den ∣ a.den * b.den := by
  have h := den_divInt_mul (t := a.num * b.den - b.num * a.den) (l := (a.den : Int) * (b.den : Int)) (Int.mul_ne_zero (den_ne a) (den_ne b))
  rw [qsub, Int.natAbs_mul, Int.natAbs_natCast, Int.natAbs_natCast] at h
  exact ⟨_, h.symm⟩
theorem den_mul_dvd (a b : Rat) : (a * b).den ∣ a.den * b.den := by
  have h := den_divInt_mul (t := a.num * b.num) (l := (a.den : Int) * (b.den : Int)) (Int.mul_ne_zero (den_ne a) (den_ne b))
  rw [qmul, Int.natAbs_mul, Int.natAbs_mul, Int.natAbs_natCast, Int.natAbs_natCast] at h
  exact ⟨_, h.symm⟩
/-- c.den * G = d1 * d2, d1 divides c.den * e: G divides d2 * e -/
theorem g_core {c d1 d2 e G : Nat} (h0 : d1 ≠ 0) (h1 : c * G = d1 * d2) (h2 : d1 ∣ c * e) : G ∣ d2 * e := by
  obtain ⟨k, hk⟩ := h2
  refine ⟨k, Nat.eq_of_mul_eq_mul_left (Nat.pos_of_ne_zero h0) ?_⟩
  calc d1 * (d2 * e) = (d1 * d2) * e := by rw [Nat.mul_assoc]
    _ = c * G * e := by rw [h1]
    _ = G * (c * e) := by rw [Nat.mul_comm c G, Nat.mul_assoc]
    _ = G * (d1 * k) := by rw [hk]
    _ = d1 * (G * k) := by rw [Nat.mul_left_comm]
theorem gk_of {t l : Int} {d e m : Nat} (hl : l ≠ 0) (h : Nat.gcd t.natAbs l.natAbs ∣ d * e) (hd : d < 2 ^ m) (he : e < 2 ^ m) (p : 0 < d * e) (hm : m ≤ 4490) : Gk t l :=
  ⟨hl, Nat.lt_of_le_of_lt (Nat.le_of_dvd p h) (Nat.lt_of_lt_of_le (mul_lt_p hd he) (p2 (by omega)))⟩
theorem dpos (r : Rat) : 0 < r.den := Nat.pos_of_ne_zero r.den_nz
theorem gk_add2 {m : Nat} {a b : Rat} (h : Bz m b) (hm : m ≤ 4490) : Gk (a.num * b.den + b.num * a.den) ((a.den : Int) * (b.den : Int)) := by
  have hl := Int.mul_ne_zero (den_ne a) (den_ne b)
  refine gk_of hl ?_ h.2 h.2 (Nat.mul_pos (dpos b) (dpos b)) hm
  have q := den_divInt_mul (t := a.num * b.den + b.num * a.den) hl
  rw [qadd, Int.natAbs_mul, Int.natAbs_natCast, Int.natAbs_natCast] at q
  refine g_core a.den_nz (by rw [Int.natAbs_mul, Int.natAbs_natCast, Int.natAbs_natCast]; exact q) ?_
  have := den_sub_dvd (a + b) b
  rwa [Rat.add_sub_cancel] at this
theorem gk_add1 {m : Nat} {a b : Rat} (h : Bz m a) (hm : m ≤ 4490) : Gk (a.num * b.den + b.num * a.den) ((a.den : Int) * (b.den : Int)) := by
  have q := gk_add2 (a := b) (b := a) h hm
  rw [Int.add_comm, Int.mul_comm (a.den : Int)]
  exact q
theorem gk_sub2 {m : Nat} {a b : Rat} (h : Bz m b) (hm : m ≤ 4490) : Gk (a.num * b.den - b.num * a.den) ((a.den : Int) * (b.den : Int)) := by
  have hl := Int.mul_ne_zero (den_ne a) (den_ne b)
  refine gk_of hl ?_ h.2 h.2 (Nat.mul_pos (dpos b) (dpos b)) hm
  have q := den_divInt_mul (t := a.num * b.den - b.num * a.den) hl
  rw [qsub, Int.natAbs_mul, Int.natAbs_natCast, Int.natAbs_natCast] at q
  refine g_core a.den_nz (by rw [Int.natAbs_mul, Int.natAbs_natCast, Int.natAbs_natCast]; exact q) ?_
  have := den_add_dvd (a - b) b
  rwa [Rat.sub_add_cancel] at this
theorem gk_sub1 {m : Nat} {a b : Rat} (h : Bz m a) (hm : m ≤ 4490) : Gk (a.num * b.den - b.num * a.den) ((a.den : Int) * (b.den : Int)) := by
  have q := gk_sub2 (a := b) (b := a) h hm
  unfold Gk at q ⊢
  have e : (a.num * b.den - b.num * a.den).natAbs = (b.num * a.den - a.num * b.den).natAbs := by omega
  rw [e, Int.mul_comm (a.den : Int)]
  exact q
theorem den_inv_dvd (a : Rat) : (a⁻¹).den ∣ (if a.num = 0 then 1 else a.num.natAbs) := by rw [Rat.den_inv]; exact ⟨1, by omega⟩
/-- one factor small and not nought, or both small -/
theorem gk_mul1 {m : Nat} {a b : Rat} (h : Bz m a) (hm : m ≤ 4490) (ha : a ≠ 0) : Gk (a.num * b.num) ((a.den : Int) * (b.den : Int)) := by
  have hl := Int.mul_ne_zero (den_ne a) (den_ne b)
  have hn : a.num ≠ 0 := fun e => ha (Rat.num_eq_zero.mp e)
  refine gk_of (d := a.den) (e := a.num.natAbs) hl ?_ h.2 h.1 (Nat.mul_pos (dpos a) (by omega)) hm
  have q := den_divInt_mul (t := a.num * b.num) hl
  rw [qmul, Int.natAbs_mul, Int.natAbs_mul, Int.natAbs_natCast, Int.natAbs_natCast] at q
  refine g_core b.den_nz (by rw [Int.natAbs_mul, Int.natAbs_mul, Int.natAbs_natCast, Int.natAbs_natCast, q, Nat.mul_comm]) ?_
  have e1 : a * b * a⁻¹ = b := by rw [Rat.mul_comm a b, Rat.mul_assoc, Rat.mul_inv_cancel a ha, Rat.mul_one]
  have := den_mul_dvd (a * b) a⁻¹
  rw [e1, Rat.den_inv, if_neg hn] at this
  exact this
theorem gk_mul2 {m : Nat} {a b : Rat} (h : Bz m b) (hm : m ≤ 4490) (hb : b ≠ 0) : Gk (a.num * b.num) ((a.den : Int) * (b.den : Int)) := by
  have q := gk_mul1 (a := b) (b := a) h hm hb
  rw [Int.mul_comm a.num, Int.mul_comm (a.den : Int)]
  exact q
theorem gk_mul {m n : Nat} {a b : Rat} (h : Bz m a) (h' : Bz n b) (hm : m + n ≤ 8990) : Gk (a.num * b.num) ((a.den : Int) * (b.den : Int)) := by
  have hl := Int.mul_ne_zero (den_ne a) (den_ne b)
  refine ⟨hl, Nat.lt_of_le_of_lt (Nat.le_of_dvd (Int.natAbs_pos.mpr hl) (Nat.gcd_dvd_right ..)) (Nat.lt_of_lt_of_le ?_ (p2 (show m + n ≤ 8999 by omega)))⟩
  exact abs_mul_lt (by simpa using h.2) (by simpa using h'.2)
theorem gk_div2 {m : Nat} {a b : Rat} (h : Bz m b) (hm : m ≤ 4490) (hb : b ≠ 0) : Gk (a.num * b.den) ((a.den : Int) * b.num) := by
  have hn : b.num ≠ 0 := fun e => hb (Rat.num_eq_zero.mp e)
  have hl := Int.mul_ne_zero (den_ne a) hn
  refine gk_of (d := b.num.natAbs) (e := b.den) hl ?_ h.1 h.2 (Nat.mul_pos (by omega) (dpos b)) hm
  have q := den_divInt_mul (t := a.num * b.den) hl
  rw [qdiv] at q
  rw [Int.natAbs_mul (a.den : Int), Int.natAbs_natCast] at q
  refine g_core a.den_nz (by rw [Int.natAbs_mul (a.den : Int), Int.natAbs_natCast]; exact q) ?_
  have := den_mul_dvd (a / b) b
  rwa [Rat.div_mul_cancel hb] at this
theorem gk_div {m n : Nat} {a b : Rat} (h : Bz m a) (h' : Bz n b) (hm : m + n ≤ 8990) (hb : b ≠ 0) : Gk (a.num * b.den) ((a.den : Int) * b.num) := by
  have hn : b.num ≠ 0 := fun e => hb (Rat.num_eq_zero.mp e)
  have hl := Int.mul_ne_zero (den_ne a) hn
  refine ⟨hl, Nat.lt_of_le_of_lt (Nat.le_of_dvd (Int.natAbs_pos.mpr hl) (Nat.gcd_dvd_right ..)) (Nat.lt_of_lt_of_le ?_ (p2 (show m + n ≤ 8999 by omega)))⟩
  exact abs_mul_lt (by simpa using h.2) h'.1
end K39
end
section
set_option Elab.async false
set_option linter.all false
set_option maxRecDepth 100000
set_option maxHeartbeats 4000000
namespace K39
open PySem PySem.Spec PyProof.Rows L2
theorem ite_dec {p : Prop} [Decidable p] {A B : Prop} (h1 : p → A) (h2 : ¬p → B) : if decide p = true then A else B := by
  by_cases h : p
  · rw [if_pos (decide_eq_true h)]; exact h1 h
  · rw [if_neg (by simpa using h)]; exact h2 h
theorem cmul_of {x y : Int} {m n : Nat} (h : x.natAbs < 2 ^ m) (h' : y.natAbs < 2 ^ n) (l : m + n ≤ 900000) : CMulW x y := by
  have b : ∀ {x : Int} {m : Nat}, x.natAbs < 2 ^ m → x.natAbs.log2 ≤ m := fun {x m} h => by
    by_cases e : x.natAbs = 0
    · rw [e]; exact Nat.zero_le _
    · have := (Nat.log2_lt e).mpr h
      omega
  unfold CMulW
  have := b h
  have := b h'
  omega
theorem cdiv_of {i j : Int} {m : Nat} (h0 : 0 < j) (h : j.natAbs < 2 ^ m) (l : m ≤ 9000) : CDivW i j := by
  refine ⟨h0, ?_⟩
  have := (Nat.log2_lt (show j.natAbs ≠ 0 by omega)).mpr h
  omega
section
variable {P : Program} {w : World} {K : PySem.W.Frag} {mg : Str → Option Value} {base : Heap}
theorem sg11 : Sig d11 "divisor_of" ["numbers", "found", "number"] ["numbers"] := ⟨memN 3, rfl, memF 3, rfl, rfl, ⟨rfl, rfl, rfl, by decide +kernel, rfl, by decide +kernel, by decide +kernel⟩, fun _ _ _ _ _ _ us hl => match us, hl with | [_], _ => rfl⟩
theorem noO1 {a : Sv} (h : a.isO = false) : noO [a] := fun r hr => by
  rw [List.mem_singleton.mp hr]; exact h
theorem Sv.parts_rd {x : Sv} {l : List Sv} (h : x.parts = some l) : x.rd = x := by cases x <;> first | rfl | cases h
theorem Sv.parts_o {x : Sv} {l : List Sv} (h : x.parts = some l) : x.isO = false := by cases x <;> first | rfl | cases h
theorem f11 (M : Md K mg) : Fn P w K mg base "divisor_of" 1 ["numbers"] (Pm K (α := Sv × Int × Int) (fun | (a, b, e) => [a]) (fun | (a, b, e) => a.parts = some [.int b, .int e]) (fun | (a, b, e) => fun r => r = .int ((Nat.gcd b.natAbs e.natAbs : Nat) : Int))) := by
  refine mk M sg11 (fun _ => rfl) (fun z hz => noO1 (Sv.parts_o hz)) fun s ⟨x, t, l⟩ hp => ?_
  have hp : x.parts = some [.int t, .int l] := hp
  refine ws_set 1 rfl (.inl rfl) (ev_int ⟨.inl rfl, ?_⟩)
  refine ws_forT (is := [2]) (bt := false) (.name rfl (.inl rfl)) (ev_var 0 rfl (.inl rfl) rfl ?_)
  refine ⟨[.int t, .int l], by rw [show (x, t, l).1.rd = x from Sv.parts_rd hp]; exact hp, by simp [Sv.flat], fun i ρ' => ∃ y, ρ' = [some x, some (.int ((Nat.gcd (if 0 < i then t.natAbs else 0) (if 1 < i then l.natAbs else 0) : Nat) : Int)), y], ⟨none, by simp [ro]⟩, fun i z ρ' hz ⟨y, hρ⟩ => ?_, fun ρ' ⟨y, hρ⟩ => ?_⟩
  · subst hρ
    refine ⟨_, rfl, rfl, ?_, ?_⟩
    · match i, hz with
      | 0, hz => cases hz; simp [Sv.isL]
      | 1, hz => cases hz; simp [Sv.isL]
    · match i, hz with
      | 0, hz =>
        cases hz
        refine ws_set 1 rfl (.inl rfl) (ev_gcd rfl M.gcd (ev_var 1 rfl (.inl rfl) rfl ⟨_, rfl, ev_var 2 rfl (.inl rfl) rfl ⟨_, rfl, .inl rfl, ws_nil ⟨some (.int t), ?_⟩⟩⟩))
        simp [sets]
      | 1, hz =>
        cases hz
        refine ws_set 1 rfl (.inl rfl) (ev_gcd rfl M.gcd (ev_var 1 rfl (.inl rfl) rfl ⟨_, rfl, ev_var 2 rfl (.inl rfl) rfl ⟨_, rfl, .inl rfl, ws_nil ⟨some (.int l), ?_⟩⟩⟩))
        simp [sets]
  · subst hρ
    refine ws_ret (ev_var 1 rfl (.inl rfl) rfl ?_)
    simp [Sv.rd]
theorem sg12 : Sig d12 "lowest" ["numbers", "part", "number"] ["numbers"] := ⟨memN 4, rfl, memF 4, rfl, rfl, ⟨rfl, rfl, rfl, by decide +kernel, rfl, by decide +kernel, by decide +kernel⟩, fun _ _ _ _ _ _ us hl => match us, hl with | [_], _ => rfl⟩
theorem f12 (M : Md K mg) : Fn P w K mg base "lowest" 2 ["numbers"] (Pm K (α := Int × Int) (fun | (a, b) => [.tup [.int a, .int b]]) (fun | (a, b) => 0 < b ∧ Gk a b) (fun | (a, b) => fun r => r = .q (Rat.divInt a b))) := by
  refine mk M sg12 (fun _ => rfl) (fun z hz => noO1 rfl) fun s ⟨t, l⟩ ⟨hl, hg⟩ => ?_
  have hl : 0 < l := hl
  have hg : Gk t l := hg
  have gp : 0 < Nat.gcd t.natAbs l.natAbs := Nat.gcd_pos_of_pos_right _ (by omega)
  refine ws_set 1 rfl (.inr ⟨rfl, rfl⟩) (ev_callf (f11 M) rfl (ea_one (ev_var 0 rfl (.inl rfl) rfl ⟨(.tup [.int t, .int l], t, l), rfl, rfl, .inl rfl, ?_⟩)))
  refine ws_ret (ev_if (et_eq (ev_var 1 rfl (.inr (.inl rfl)) rfl ⟨_, rfl, ev_int ⟨_, rfl, ite_dec (fun h => absurd (Int.natCast_eq_zero.mp h) (Nat.ne_of_gt gp)) fun _ => ?_⟩⟩)))
  refine ev_tupleq rfl (M.fr _ (memF 103)) (ev_lc (own := [("number", 2)]) (is := [2]) (bt := false) rfl rfl (.name rfl (.inl rfl)) (ev_var 0 rfl (.inl rfl) rfl ?_))
  refine ⟨[.int t, .int l], [.int (t / ((Nat.gcd t.natAbs l.natAbs : Nat) : Int)), .int (l / ((Nat.gcd t.natAbs l.natAbs : Nat) : Int))], rfl, rfl, by simp, by simp [Sv.flat], fun i r o h1 h2 => ?_, ⟨Rat.divInt t l, by rw [fnum hl, fden hl], rfl⟩⟩
  have gz : (((Nat.gcd t.natAbs l.natAbs : Nat) : Int)).natAbs < 2 ^ 8999 := by rw [Int.natAbs_natCast]; exact hg.2
  match i, h1, h2 with
  | 0, h1, h2 =>
    cases h1
    cases h2
    exact ⟨_, rfl, rfl, ev_div (ev_var 2 rfl (.inl rfl) rfl ⟨_, rfl, ev_var 1 rfl (.inr (.inl rfl)) rfl ⟨_, rfl, cdiv_of (Int.natCast_pos.mpr gp) gz (by omega), rfl⟩⟩)⟩
  | 1, h1, h2 =>
    cases h1
    cases h2
    exact ⟨_, rfl, rfl, ev_div (ev_var 2 rfl (.inl rfl) rfl ⟨_, rfl, ev_var 1 rfl (.inr (.inl rfl)) rfl ⟨_, rfl, cdiv_of (Int.natCast_pos.mpr gp) gz (by omega), rfl⟩⟩)⟩
end
/-! helpers -/
section
variable {S : Sc} {ρ : Ro} {N : Ro → Prop} {R : Sv → Prop} {Φ : Sv → Prop} {e : Expr} {pos : Pos} {rest : List Stmt}
theorem ev_zero (M : Md S.K S.mg) (hg : Glb S "ZERO") (h : Φ (.q 0)) : Ev S (.Name "ZERO" pos) ρ Φ := by
  obtain ⟨u, h1, h2⟩ := M.zero
  exact ev_gq hg h1 h2 h
theorem ev_one (M : Md S.K S.mg) (hg : Glb S "ONE") (h : Φ (.q 1)) : Ev S (.Name "ONE" pos) ρ Φ := by
  obtain ⟨u, h1, h2⟩ := M.one
  exact ev_gq hg h1 h2 h
theorem ws_exp (h : Ev S e ρ fun _ => Ws S rest ρ N R) (hs : ∀ l env, swapsWith e none l env = pure false := by intros; rfl) : Ws S (.Expr e pos :: rest) ρ N R := by
  intro X hX B σ H hE D kN kR
  refine WSs.of (pss_cons (ps_expr pe_W (hs _ _)) pss_W) ?_
  refine h X hX σ H hE.en _ fun v H' r g s q => ?_
  exact q X hX B _ H' (hE.mono g) D (fun σ' H2 ρ' e t n => kN σ' H2 ρ' e (g.tk.trans t) n) kR
end
theorem ite_ndec {p : Prop} [Decidable p] {A B : Prop} (h1 : ¬p → A) (h2 : p → B) : if (!decide p) = true then A else B := by
  by_cases h : p
  · rw [if_neg (by simpa using h)]; exact h2 h
  · rw [if_pos (by simpa using h)]; exact h1 h
theorem ite_bl {b : Bool} {A B : Prop} (h1 : b = true → A) (h2 : b = false → B) : if b = true then A else B := by
  cases b
  · exact h2 rfl
  · exact h1 rfl
theorem ite_t {A B : Prop} (h : A) : if true = true then A else B := h
theorem ite_f {A B : Prop} (h : B) : if false = true then A else B := by rw [if_neg Bool.false_ne_true]; exact h
theorem Bz.n {m : Nat} {r : Rat} (h : Bz m r) : r.num.natAbs < 2 ^ m := h.1
theorem Bz.d {m : Nat} {r : Rat} (h : Bz m r) : ((r.den : Int)).natAbs < 2 ^ m := by rw [Int.natAbs_natCast]; exact h.2
def Sa (a b : Rat) : Prop := ∃ m n, Bz m a ∧ Bz n b ∧ m + n ≤ 400000 ∧ (m ≤ 4490 ∨ n ≤ 4490)
def St (a b : Rat) : Prop := ∃ m n, Bz m a ∧ Bz n b ∧ m + n ≤ 400000 ∧ (m + n ≤ 8990 ∨ (m ≤ 4490 ∧ a ≠ 0) ∨ (n ≤ 4490 ∧ b ≠ 0))
def So (a b : Rat) : Prop := b ≠ 0 ∧ ∃ m n, Bz m a ∧ Bz n b ∧ m + n ≤ 400000 ∧ (m + n ≤ 8990 ∨ n ≤ 4490)
def Sb (a b : Rat) : Prop := ∃ m n, Bz m a ∧ Bz n b ∧ m + n ≤ 800000
theorem Sa.add {a b : Rat} (h : Sa a b) : Gk (a.num * b.den + b.num * a.den) ((a.den : Int) * (b.den : Int)) := by
  obtain ⟨m, n, h1, h2, _, h | h⟩ := h
  · exact gk_add1 h1 h
  · exact gk_add2 h2 h
theorem Sa.sub {a b : Rat} (h : Sa a b) : Gk (a.num * b.den - b.num * a.den) ((a.den : Int) * (b.den : Int)) := by
  obtain ⟨m, n, h1, h2, _, h | h⟩ := h
  · exact gk_sub1 h1 h
  · exact gk_sub2 h2 h
theorem St.mul {a b : Rat} (h : St a b) : Gk (a.num * b.num) ((a.den : Int) * (b.den : Int)) := by
  obtain ⟨m, n, h1, h2, _, h | ⟨h, h'⟩ | ⟨h, h'⟩⟩ := h
  · exact gk_mul h1 h2 h
  · exact gk_mul1 h1 h h'
  · exact gk_mul2 h2 h h'
theorem So.div {a b : Rat} (h : So a b) : Gk (a.num * b.den) ((a.den : Int) * b.num) := by
  obtain ⟨h0, m, n, h1, h2, _, h | h⟩ := h
  · exact gk_div h1 h2 h h0
  · exact gk_div2 h2 h h0
theorem noO2 {a b : Sv} (h : a.isO = false) (h' : b.isO = false) : noO [a, b] := fun r hr => by
  rcases List.mem_cons.mp hr with e | e
  · rw [e]; exact h
  · exact noO1 h' r e
theorem Gk.neg {t l : Int} (h : Gk t l) : Gk (-t) (-l) := ⟨by have := h.1; omega, by rw [Int.natAbs_neg, Int.natAbs_neg]; exact h.2⟩
end K39
end
section
set_option Elab.async false
set_option linter.all false
set_option maxRecDepth 100000
set_option maxHeartbeats 4000000
namespace K39
open PySem PySem.Spec PyProof.Rows L2
section
variable {P : Program} {w : World} {K : PySem.W.Frag} {mg : Str → Option Value} {base : Heap}
theorem sg17 : Sig d17 "ratio" ["top", "low"] ["top", "low"] := ⟨memN 6, rfl, memF 6, rfl, rfl, ⟨rfl, rfl, rfl, by decide +kernel, rfl, by decide +kernel, by decide +kernel⟩, fun _ _ _ _ _ _ us hl => match us, hl with | [_, _], _ => rfl⟩
theorem f17 (M : Md K mg) : Fn P w K mg base "ratio" 3 ["top", "low"] (Pm K (α := Int × Int) (fun | (a, b) => [.int a, .int b]) (fun | (a, b) => Gk a b) (fun | (a, b) => fun r => r = .q (Rat.divInt a b))) := by
  refine mk M sg17 (fun _ => rfl) (fun z hz => noO2 rfl rfl) fun s ⟨t, l⟩ hg => ?_
  have hg : Gk t l := hg
  refine (ws_ret (ev_if (et_gt (ev_var 1 rfl (.inl rfl) rfl ⟨_, rfl, (ev_int ⟨_, rfl, (ite_dec (fun h1 => (ev_callf (f12 M) rfl (ea_cons (ev_tup (ea_cons (ev_var 0 rfl (.inl rfl) rfl (ea_cons (ev_var 1 rfl (.inl rfl) rfl (ea_nil ⟨by simp [sizeLine_eq], (ea_nil ⟨(_, _), rfl, ?_, ?_⟩)⟩))))))))) (fun h1 => (ev_callf (f12 M) rfl (ea_cons (ev_tup (ea_cons (ev_neg (ev_var 0 rfl (.inl rfl) rfl ⟨_, rfl, (ea_cons (ev_neg (ev_var 1 rfl (.inl rfl) rfl ⟨_, rfl, (ea_nil ⟨by simp [sizeLine_eq], (ea_nil ⟨(_, _), rfl, ?_, ?_⟩)⟩)⟩)))⟩))))))))⟩)⟩))))
  · exact ⟨h1, hg⟩
  · rfl
  · exact ⟨by have := hg.1; show 0 < -l; omega, hg.neg⟩
  · exact congrArg Sv.q (Rat.neg_divInt_neg t l)
theorem sg18 : Sig d18 "plus" ["one", "two"] ["one", "two"] := ⟨memN 7, rfl, memF 7, rfl, rfl, ⟨rfl, rfl, rfl, by decide +kernel, rfl, by decide +kernel, by decide +kernel⟩, fun _ _ _ _ _ _ us hl => match us, hl with | [_, _], _ => rfl⟩
theorem f18 (M : Md K mg) : Fn P w K mg base "plus" 4 ["one", "two"] (Pm K (α := Rat × Rat) (fun | (a, b) => [.q a, .q b]) (fun | (a, b) => Sa a b) (fun | (a, b) => fun r => r = .q (a + b))) := by
  refine mk M sg18 (fun _ => rfl) (fun z hz => noO2 rfl rfl) fun s ⟨a, b⟩ hg => ?_
  have hg : Sa a b := hg
  obtain ⟨m, n, ha, hb, hm, _⟩ := id hg
  exact (ws_ret (ev_callf (f17 M) rfl (ea_cons (ev_add (ev_mul (ev_ix (fun _ _ => rfl) (ev_var 0 rfl (.inl rfl) rfl (ev_int ⟨_, _, rfl, rfl, ⟨_, rfl, (ev_ix (fun _ _ => rfl) (ev_var 1 rfl (.inl rfl) rfl (ev_int ⟨_, _, rfl, rfl, ⟨_, rfl, cmul_of (m := m) (n := n) ha.n hb.d (by omega), ⟨_, rfl, (ev_mul (ev_ix (fun _ _ => rfl) (ev_var 1 rfl (.inl rfl) rfl (ev_int ⟨_, _, rfl, rfl, ⟨_, rfl, (ev_ix (fun _ _ => rfl) (ev_var 0 rfl (.inl rfl) rfl (ev_int ⟨_, _, rfl, rfl, ⟨_, rfl, cmul_of (m := n) (n := m) hb.n ha.d (by omega), ⟨_, rfl, (ea_cons (ev_mul (ev_ix (fun _ _ => rfl) (ev_var 0 rfl (.inl rfl) rfl (ev_int ⟨_, _, rfl, rfl, ⟨_, rfl, (ev_ix (fun _ _ => rfl) (ev_var 1 rfl (.inl rfl) rfl (ev_int ⟨_, _, rfl, rfl, ⟨_, rfl, cmul_of (m := m) (n := n) ha.d hb.d (by omega), (ea_nil ⟨(_, _), rfl, hg.add, congrArg Sv.q (qadd a b)⟩)⟩⟩)))⟩⟩)))))⟩⟩⟩)))⟩⟩))))⟩⟩⟩)))⟩⟩))))))))
theorem sg19 : Sig d19 "minus" ["one", "two"] ["one", "two"] := ⟨memN 8, rfl, memF 8, rfl, rfl, ⟨rfl, rfl, rfl, by decide +kernel, rfl, by decide +kernel, by decide +kernel⟩, fun _ _ _ _ _ _ us hl => match us, hl with | [_, _], _ => rfl⟩
theorem f19 (M : Md K mg) : Fn P w K mg base "minus" 4 ["one", "two"] (Pm K (α := Rat × Rat) (fun | (a, b) => [.q a, .q b]) (fun | (a, b) => Sa a b) (fun | (a, b) => fun r => r = .q (a - b))) := by
  refine mk M sg19 (fun _ => rfl) (fun z hz => noO2 rfl rfl) fun s ⟨a, b⟩ hg => ?_
  have hg : Sa a b := hg
  obtain ⟨m, n, ha, hb, hm, _⟩ := id hg
  exact (ws_ret (ev_callf (f17 M) rfl (ea_cons (ev_sub (ev_mul (ev_ix (fun _ _ => rfl) (ev_var 0 rfl (.inl rfl) rfl (ev_int ⟨_, _, rfl, rfl, ⟨_, rfl, (ev_ix (fun _ _ => rfl) (ev_var 1 rfl (.inl rfl) rfl (ev_int ⟨_, _, rfl, rfl, ⟨_, rfl, cmul_of (m := m) (n := n) ha.n hb.d (by omega), ⟨_, rfl, (ev_mul (ev_ix (fun _ _ => rfl) (ev_var 1 rfl (.inl rfl) rfl (ev_int ⟨_, _, rfl, rfl, ⟨_, rfl, (ev_ix (fun _ _ => rfl) (ev_var 0 rfl (.inl rfl) rfl (ev_int ⟨_, _, rfl, rfl, ⟨_, rfl, cmul_of (m := n) (n := m) hb.n ha.d (by omega), ⟨_, rfl, (ea_cons (ev_mul (ev_ix (fun _ _ => rfl) (ev_var 0 rfl (.inl rfl) rfl (ev_int ⟨_, _, rfl, rfl, ⟨_, rfl, (ev_ix (fun _ _ => rfl) (ev_var 1 rfl (.inl rfl) rfl (ev_int ⟨_, _, rfl, rfl, ⟨_, rfl, cmul_of (m := m) (n := n) ha.d hb.d (by omega), (ea_nil ⟨(_, _), rfl, hg.sub, congrArg Sv.q (qsub a b)⟩)⟩⟩)))⟩⟩)))))⟩⟩⟩)))⟩⟩))))⟩⟩⟩)))⟩⟩))))))))
theorem sg20 : Sig d20 "times" ["one", "two"] ["one", "two"] := ⟨memN 9, rfl, memF 9, rfl, rfl, ⟨rfl, rfl, rfl, by decide +kernel, rfl, by decide +kernel, by decide +kernel⟩, fun _ _ _ _ _ _ us hl => match us, hl with | [_, _], _ => rfl⟩
theorem f20 (M : Md K mg) : Fn P w K mg base "times" 4 ["one", "two"] (Pm K (α := Rat × Rat) (fun | (a, b) => [.q a, .q b]) (fun | (a, b) => St a b) (fun | (a, b) => fun r => r = .q (a * b))) := by
  refine mk M sg20 (fun _ => rfl) (fun z hz => noO2 rfl rfl) fun s ⟨a, b⟩ hg => ?_
  have hg : St a b := hg
  obtain ⟨m, n, ha, hb, hm, _⟩ := id hg
  exact (ws_ret (ev_callf (f17 M) rfl (ea_cons (ev_mul (ev_ix (fun _ _ => rfl) (ev_var 0 rfl (.inl rfl) rfl (ev_int ⟨_, _, rfl, rfl, ⟨_, rfl, (ev_ix (fun _ _ => rfl) (ev_var 1 rfl (.inl rfl) rfl (ev_int ⟨_, _, rfl, rfl, ⟨_, rfl, cmul_of (m := m) (n := n) ha.n hb.n (by omega), (ea_cons (ev_mul (ev_ix (fun _ _ => rfl) (ev_var 0 rfl (.inl rfl) rfl (ev_int ⟨_, _, rfl, rfl, ⟨_, rfl, (ev_ix (fun _ _ => rfl) (ev_var 1 rfl (.inl rfl) rfl (ev_int ⟨_, _, rfl, rfl, ⟨_, rfl, cmul_of (m := m) (n := n) ha.d hb.d (by omega), (ea_nil ⟨(_, _), rfl, hg.mul, congrArg Sv.q (qmul a b)⟩)⟩⟩)))⟩⟩)))))⟩⟩)))⟩⟩)))))))
theorem sg21 : Sig d21 "over" ["one", "two"] ["one", "two"] := ⟨memN 10, rfl, memF 10, rfl, rfl, ⟨rfl, rfl, rfl, by decide +kernel, rfl, by decide +kernel, by decide +kernel⟩, fun _ _ _ _ _ _ us hl => match us, hl with | [_, _], _ => rfl⟩
theorem f21 (M : Md K mg) : Fn P w K mg base "over" 4 ["one", "two"] (Pm K (α := Rat × Rat) (fun | (a, b) => [.q a, .q b]) (fun | (a, b) => So a b) (fun | (a, b) => fun r => r = .q (a / b))) := by
  refine mk M sg21 (fun _ => rfl) (fun z hz => noO2 rfl rfl) fun s ⟨a, b⟩ hg => ?_
  have hg : So a b := hg
  obtain ⟨_, m, n, ha, hb, hm, _⟩ := id hg
  exact (ws_ret (ev_callf (f17 M) rfl (ea_cons (ev_mul (ev_ix (fun _ _ => rfl) (ev_var 0 rfl (.inl rfl) rfl (ev_int ⟨_, _, rfl, rfl, ⟨_, rfl, (ev_ix (fun _ _ => rfl) (ev_var 1 rfl (.inl rfl) rfl (ev_int ⟨_, _, rfl, rfl, ⟨_, rfl, cmul_of (m := m) (n := n) ha.n hb.d (by omega), (ea_cons (ev_mul (ev_ix (fun _ _ => rfl) (ev_var 0 rfl (.inl rfl) rfl (ev_int ⟨_, _, rfl, rfl, ⟨_, rfl, (ev_ix (fun _ _ => rfl) (ev_var 1 rfl (.inl rfl) rfl (ev_int ⟨_, _, rfl, rfl, ⟨_, rfl, cmul_of (m := m) (n := n) ha.d hb.n (by omega), (ea_nil ⟨(_, _), rfl, hg.div, congrArg Sv.q (qdiv a b)⟩)⟩⟩)))⟩⟩)))))⟩⟩)))⟩⟩)))))))
theorem sg23 : Sig d23 "is_below" ["one", "two"] ["one", "two"] := ⟨memN 12, rfl, memF 12, rfl, rfl, ⟨rfl, rfl, rfl, by decide +kernel, rfl, by decide +kernel, by decide +kernel⟩, fun _ _ _ _ _ _ us hl => match us, hl with | [_, _], _ => rfl⟩
theorem f23 (M : Md K mg) : Fn P w K mg base "is_below" 1 ["one", "two"] (Pm K (α := Rat × Rat) (fun | (a, b) => [.q a, .q b]) (fun | (a, b) => Sb a b) (fun | (a, b) => fun r => r = .bl (decide (a < b)))) := by
  refine mk M sg23 (fun _ => rfl) (fun z hz => noO2 rfl rfl) fun s ⟨a, b⟩ hg => ?_
  obtain ⟨m, n, ha, hb, hm⟩ := hg
  exact (ws_ret (ev_lt (ev_mul (ev_ix (fun _ _ => rfl) (ev_var 0 rfl (.inl rfl) rfl (ev_int ⟨_, _, rfl, rfl, ⟨_, rfl, (ev_ix (fun _ _ => rfl) (ev_var 1 rfl (.inl rfl) rfl (ev_int ⟨_, _, rfl, rfl, ⟨_, rfl, cmul_of (m := m) (n := n) ha.n hb.d (by omega), ⟨_, rfl, (ev_mul (ev_ix (fun _ _ => rfl) (ev_var 1 rfl (.inl rfl) rfl (ev_int ⟨_, _, rfl, rfl, ⟨_, rfl, (ev_ix (fun _ _ => rfl) (ev_var 0 rfl (.inl rfl) rfl (ev_int ⟨_, _, rfl, rfl, ⟨_, rfl, cmul_of (m := n) (n := m) hb.n ha.d (by omega), ⟨_, rfl, congrArg Sv.bl (decide_eq_decide.mpr (Rat.lt_iff a b).symm)⟩⟩⟩)))⟩⟩))))⟩⟩⟩)))⟩⟩))))))
end
end K39
end
section
set_option Elab.async false
set_option linter.all false
set_option maxRecDepth 100000
set_option maxHeartbeats 4000000
namespace K39
open PySem PySem.Spec PyProof.Rows L2
def sd (a b : Rat) : Int := if b < a then 1 else if a < b then -1 else 0
section
variable {P : Program} {w : World} {K : PySem.W.Frag} {mg : Str → Option Value} {base : Heap}
theorem sg74 : Sig d74 "_law_gcd" ["_law_one", "_law_two"] ["_law_one", "_law_two"] := ⟨memN 53, rfl, memF 53, rfl, rfl, ⟨rfl, rfl, rfl, by decide +kernel, rfl, by decide +kernel, by decide +kernel⟩, fun _ _ _ _ _ _ us hl => match us, hl with | [_, _], _ => rfl⟩
theorem f74 (M : Md K mg) : Fn P w K mg base "_law_gcd" 1 ["_law_one", "_law_two"] (Pm K (α := Int × Int) (fun | (a, b) => [.int a, .int b]) (fun | (a, b) => True) (fun | (a, b) => fun r => r = .int ((Nat.gcd a.natAbs b.natAbs : Nat) : Int))) := by
  refine mk M sg74 (fun _ => rfl) (fun z hz => noO2 rfl rfl) fun s ⟨a, b⟩ _ => ?_
  refine (ws_par2 0 1 rfl rfl (by decide) rfl rfl (fr_cons (ev_abs rfl (M.fr _ (memF 107)) (ev_var 0 rfl (.inl rfl) rfl ⟨_, rfl, ⟨rfl, (fr_cons (ev_abs rfl (M.fr _ (memF 107)) (ev_var 1 rfl (.inl rfl) rfl ⟨_, rfl, ⟨rfl, (fr_nil ⟨rfl, ?_⟩)⟩⟩)))⟩⟩))) (fun env hk hn => by unfold swappedStores Env.blockKind Env.kindOf; rw [hk, hn]; rfl))
  refine ws_while (fun m ρ' => ∃ x y : Nat, ρ' = [some (.int (x : Int)), some (.int (y : Int))] ∧ Nat.gcd x y = Nat.gcd a.natAbs b.natAbs ∧ m = y) b.natAbs ⟨a.natAbs, b.natAbs, rfl, rfl, rfl⟩ ?_
  rintro m ρ' ⟨x, y, rfl, hg, rfl⟩
  refine (et_gt (ev_var 1 rfl (.inl rfl) rfl ⟨_, rfl, (ev_int ⟨_, rfl, ?_⟩)⟩))
  refine ite_dec (fun h => ?_) (fun h => ?_)
  · refine (ws_par2 0 1 rfl rfl (by decide) rfl rfl (fr_cons (ev_var 1 rfl (.inl rfl) rfl ⟨rfl, (fr_cons (ev_mod (ev_toint rfl (M.fr _ (memF 101)) (ev_var 0 rfl (.inl rfl) rfl ⟨_, rfl, ⟨_, rfl, (ev_var 1 rfl (.inl rfl) rfl ⟨_, rfl, ?_, ⟨rfl, (fr_nil ⟨rfl, (ws_nil ?_)⟩)⟩⟩)⟩⟩))))⟩)) (fun env hk hn => by unfold swappedStores Env.blockKind Env.kindOf; rw [hk, hn]; rfl))
    · omega
    · exact ⟨x % m, Nat.mod_lt _ (by omega), m, x % m, rfl, by rw [← hg, Nat.gcd_comm m, ← Nat.gcd_rec, Nat.gcd_comm], rfl⟩
  · have e : m = 0 := by omega
    subst e
    refine (ws_ret (ev_var 0 rfl (.inl rfl) rfl ?_))
    show Sv.int (x : Int) = .int ((Nat.gcd a.natAbs b.natAbs : Nat) : Int)
    rw [← hg, Nat.gcd_zero_right]
theorem sg75 : Sig d75 "_law_frac" ["_law_n", "_law_m", "_law_deep"] ["_law_n", "_law_m"] := ⟨memN 54, rfl, memF 54, rfl, rfl, ⟨rfl, rfl, rfl, by decide +kernel, rfl, by decide +kernel, by decide +kernel⟩, fun _ _ _ _ _ _ us hl => match us, hl with | [_, _], _ => rfl⟩
theorem f75 (M : Md K mg) : Fn P w K mg base "_law_frac" 2 ["_law_n", "_law_m"] (Pm K (α := Int × Int) (fun | (a, b) => [.int a, .int b]) (fun | (a, b) => Gk a b) (fun | (a, b) => fun r => r = .q (Rat.divInt a b))) := by
  refine mk M sg75 (fun _ => rfl) (fun z hz => noO2 rfl rfl) fun s ⟨t, l⟩ hg => ?_
  have hg : Gk t l := hg
  have core : ∀ t l : Int, Gk t l → 0 < l → ∀ (x : Sv) (N : Ro → Prop), x = .q (Rat.divInt t l) → Ws (sc P w K mg base d75 ["_law_n", "_law_m", "_law_deep"] 1 s) (d75.body.drop 1) [some (.int t), some (.int l), none] N (fun r => r = x) := fun t l hg hl x N hx => by
    have gp : 0 < Nat.gcd t.natAbs l.natAbs := Nat.gcd_pos_of_pos_right _ (by omega)
    have gz : (((Nat.gcd t.natAbs l.natAbs : Nat) : Int)).natAbs < 2 ^ 8999 := by rw [Int.natAbs_natCast]; exact hg.2
    show Ws _ (_ :: _) _ _ _
    exact (ws_set 2 rfl (.inl rfl) (ev_callf (f74 M) rfl (ea_cons (ev_var 0 rfl (.inl rfl) rfl (ea_cons (ev_var 1 rfl (.inl rfl) rfl (ea_nil ⟨(_, _), rfl, trivial, ⟨.inl rfl, (ws_ret (ev_tupq (ea_cons (ev_div (ev_var 0 rfl (.inl rfl) rfl ⟨_, rfl, (ev_var 2 rfl (.inl rfl) rfl ⟨_, rfl, cdiv_of (Int.natCast_pos.mpr gp) gz (by omega), (ea_cons (ev_div (ev_var 1 rfl (.inl rfl) rfl ⟨_, rfl, (ev_var 2 rfl (.inl rfl) rfl ⟨_, rfl, cdiv_of (Int.natCast_pos.mpr gp) gz (by omega), (ea_nil ⟨Rat.divInt t l, by rw [fnum hl, fden hl], hx.symm⟩)⟩)⟩)))⟩)⟩)))))⟩⟩)))))))
  refine (ws_if (et_lt (ev_var 1 rfl (.inl rfl) rfl ⟨_, rfl, (ev_int ⟨_, rfl, (ite_dec (fun h1 => (ws_par2 0 1 rfl rfl (by decide) rfl rfl (fr_cons (ev_sub (ev_int ⟨_, rfl, (ev_var 0 rfl (.inl rfl) rfl ⟨_, rfl, ⟨rfl, (fr_cons (ev_sub (ev_int ⟨_, rfl, (ev_var 1 rfl (.inl rfl) rfl ⟨_, rfl, ⟨rfl, (fr_nil ⟨rfl, (ws_nil ?_)⟩)⟩⟩)⟩)))⟩⟩)⟩))) (fun env hk hn => by unfold swappedStores Env.blockKind Env.kindOf; rw [hk, hn]; rfl))) (fun h1 => (ws_nil ?_)))⟩)⟩)))
  · exact core (0 - t) (0 - l) (by rw [Int.zero_sub, Int.zero_sub]; exact hg.neg) (by omega) _ _ (by rw [Int.zero_sub, Int.zero_sub, Rat.neg_divInt_neg])
  · exact core t l hg (by have := hg.1; omega) _ _ rfl
theorem sg76 : Sig d76 "_law_plus" ["_law_one", "_law_two"] ["_law_one", "_law_two"] := ⟨memN 55, rfl, memF 55, rfl, rfl, ⟨rfl, rfl, rfl, by decide +kernel, rfl, by decide +kernel, by decide +kernel⟩, fun _ _ _ _ _ _ us hl => match us, hl with | [_, _], _ => rfl⟩
theorem f76 (M : Md K mg) : Fn P w K mg base "_law_plus" 3 ["_law_one", "_law_two"] (Pm K (α := Rat × Rat) (fun | (a, b) => [.q a, .q b]) (fun | (a, b) => Sa a b) (fun | (a, b) => fun r => r = .q (a + b))) := by
  refine mk M sg76 (fun _ => rfl) (fun z hz => noO2 rfl rfl) fun s ⟨a, b⟩ hg => ?_
  have hg : Sa a b := hg
  obtain ⟨m, n, ha, hb, hm, _⟩ := id hg
  exact (ws_ret (ev_callf (f75 M) rfl (ea_cons (ev_add (ev_mul (ev_ix (fun _ _ => rfl) (ev_var 0 rfl (.inl rfl) rfl (ev_int ⟨_, _, rfl, rfl, ⟨_, rfl, (ev_ix (fun _ _ => rfl) (ev_var 1 rfl (.inl rfl) rfl (ev_int ⟨_, _, rfl, rfl, ⟨_, rfl, cmul_of (m := m) (n := n) ha.n hb.d (by omega), ⟨_, rfl, (ev_mul (ev_ix (fun _ _ => rfl) (ev_var 1 rfl (.inl rfl) rfl (ev_int ⟨_, _, rfl, rfl, ⟨_, rfl, (ev_ix (fun _ _ => rfl) (ev_var 0 rfl (.inl rfl) rfl (ev_int ⟨_, _, rfl, rfl, ⟨_, rfl, cmul_of (m := n) (n := m) hb.n ha.d (by omega), ⟨_, rfl, (ea_cons (ev_mul (ev_ix (fun _ _ => rfl) (ev_var 0 rfl (.inl rfl) rfl (ev_int ⟨_, _, rfl, rfl, ⟨_, rfl, (ev_ix (fun _ _ => rfl) (ev_var 1 rfl (.inl rfl) rfl (ev_int ⟨_, _, rfl, rfl, ⟨_, rfl, cmul_of (m := m) (n := n) ha.d hb.d (by omega), (ea_nil ⟨(_, _), rfl, hg.add, congrArg Sv.q (qadd a b)⟩)⟩⟩)))⟩⟩)))))⟩⟩⟩)))⟩⟩))))⟩⟩⟩)))⟩⟩))))))))
theorem sg77 : Sig d77 "_law_less" ["_law_one", "_law_two"] ["_law_one", "_law_two"] := ⟨memN 56, rfl, memF 56, rfl, rfl, ⟨rfl, rfl, rfl, by decide +kernel, rfl, by decide +kernel, by decide +kernel⟩, fun _ _ _ _ _ _ us hl => match us, hl with | [_, _], _ => rfl⟩
theorem f77 (M : Md K mg) : Fn P w K mg base "_law_less" 3 ["_law_one", "_law_two"] (Pm K (α := Rat × Rat) (fun | (a, b) => [.q a, .q b]) (fun | (a, b) => Sa a b) (fun | (a, b) => fun r => r = .q (a - b))) := by
  refine mk M sg77 (fun _ => rfl) (fun z hz => noO2 rfl rfl) fun s ⟨a, b⟩ hg => ?_
  have hg : Sa a b := hg
  obtain ⟨m, n, ha, hb, hm, _⟩ := id hg
  exact (ws_ret (ev_callf (f75 M) rfl (ea_cons (ev_sub (ev_mul (ev_ix (fun _ _ => rfl) (ev_var 0 rfl (.inl rfl) rfl (ev_int ⟨_, _, rfl, rfl, ⟨_, rfl, (ev_ix (fun _ _ => rfl) (ev_var 1 rfl (.inl rfl) rfl (ev_int ⟨_, _, rfl, rfl, ⟨_, rfl, cmul_of (m := m) (n := n) ha.n hb.d (by omega), ⟨_, rfl, (ev_mul (ev_ix (fun _ _ => rfl) (ev_var 1 rfl (.inl rfl) rfl (ev_int ⟨_, _, rfl, rfl, ⟨_, rfl, (ev_ix (fun _ _ => rfl) (ev_var 0 rfl (.inl rfl) rfl (ev_int ⟨_, _, rfl, rfl, ⟨_, rfl, cmul_of (m := n) (n := m) hb.n ha.d (by omega), ⟨_, rfl, (ea_cons (ev_mul (ev_ix (fun _ _ => rfl) (ev_var 0 rfl (.inl rfl) rfl (ev_int ⟨_, _, rfl, rfl, ⟨_, rfl, (ev_ix (fun _ _ => rfl) (ev_var 1 rfl (.inl rfl) rfl (ev_int ⟨_, _, rfl, rfl, ⟨_, rfl, cmul_of (m := m) (n := n) ha.d hb.d (by omega), (ea_nil ⟨(_, _), rfl, hg.sub, congrArg Sv.q (qsub a b)⟩)⟩⟩)))⟩⟩)))))⟩⟩⟩)))⟩⟩))))⟩⟩⟩)))⟩⟩))))))))
theorem sg78 : Sig d78 "_law_times" ["_law_one", "_law_two"] ["_law_one", "_law_two"] := ⟨memN 57, rfl, memF 57, rfl, rfl, ⟨rfl, rfl, rfl, by decide +kernel, rfl, by decide +kernel, by decide +kernel⟩, fun _ _ _ _ _ _ us hl => match us, hl with | [_, _], _ => rfl⟩
theorem f78 (M : Md K mg) : Fn P w K mg base "_law_times" 3 ["_law_one", "_law_two"] (Pm K (α := Rat × Rat) (fun | (a, b) => [.q a, .q b]) (fun | (a, b) => St a b) (fun | (a, b) => fun r => r = .q (a * b))) := by
  refine mk M sg78 (fun _ => rfl) (fun z hz => noO2 rfl rfl) fun s ⟨a, b⟩ hg => ?_
  have hg : St a b := hg
  obtain ⟨m, n, ha, hb, hm, _⟩ := id hg
  exact (ws_ret (ev_callf (f75 M) rfl (ea_cons (ev_mul (ev_ix (fun _ _ => rfl) (ev_var 0 rfl (.inl rfl) rfl (ev_int ⟨_, _, rfl, rfl, ⟨_, rfl, (ev_ix (fun _ _ => rfl) (ev_var 1 rfl (.inl rfl) rfl (ev_int ⟨_, _, rfl, rfl, ⟨_, rfl, cmul_of (m := m) (n := n) ha.n hb.n (by omega), (ea_cons (ev_mul (ev_ix (fun _ _ => rfl) (ev_var 0 rfl (.inl rfl) rfl (ev_int ⟨_, _, rfl, rfl, ⟨_, rfl, (ev_ix (fun _ _ => rfl) (ev_var 1 rfl (.inl rfl) rfl (ev_int ⟨_, _, rfl, rfl, ⟨_, rfl, cmul_of (m := m) (n := n) ha.d hb.d (by omega), (ea_nil ⟨(_, _), rfl, hg.mul, congrArg Sv.q (qmul a b)⟩)⟩⟩)))⟩⟩)))))⟩⟩)))⟩⟩)))))))
theorem sg79 : Sig d79 "_law_over" ["_law_one", "_law_two"] ["_law_one", "_law_two"] := ⟨memN 58, rfl, memF 58, rfl, rfl, ⟨rfl, rfl, rfl, by decide +kernel, rfl, by decide +kernel, by decide +kernel⟩, fun _ _ _ _ _ _ us hl => match us, hl with | [_, _], _ => rfl⟩
theorem f79 (M : Md K mg) : Fn P w K mg base "_law_over" 3 ["_law_one", "_law_two"] (Pm K (α := Rat × Rat) (fun | (a, b) => [.q a, .q b]) (fun | (a, b) => So a b) (fun | (a, b) => fun r => r = .q (a / b))) := by
  refine mk M sg79 (fun _ => rfl) (fun z hz => noO2 rfl rfl) fun s ⟨a, b⟩ hg => ?_
  have hg : So a b := hg
  obtain ⟨_, m, n, ha, hb, hm, _⟩ := id hg
  exact (ws_ret (ev_callf (f75 M) rfl (ea_cons (ev_mul (ev_ix (fun _ _ => rfl) (ev_var 0 rfl (.inl rfl) rfl (ev_int ⟨_, _, rfl, rfl, ⟨_, rfl, (ev_ix (fun _ _ => rfl) (ev_var 1 rfl (.inl rfl) rfl (ev_int ⟨_, _, rfl, rfl, ⟨_, rfl, cmul_of (m := m) (n := n) ha.n hb.d (by omega), (ea_cons (ev_mul (ev_ix (fun _ _ => rfl) (ev_var 0 rfl (.inl rfl) rfl (ev_int ⟨_, _, rfl, rfl, ⟨_, rfl, (ev_ix (fun _ _ => rfl) (ev_var 1 rfl (.inl rfl) rfl (ev_int ⟨_, _, rfl, rfl, ⟨_, rfl, cmul_of (m := m) (n := n) ha.d hb.n (by omega), (ea_nil ⟨(_, _), rfl, hg.div, congrArg Sv.q (qdiv a b)⟩)⟩⟩)))⟩⟩)))))⟩⟩)))⟩⟩)))))))
theorem sg80 : Sig d80 "_law_side" ["_law_one", "_law_two", "_law_gap"] ["_law_one", "_law_two"] := ⟨memN 59, rfl, memF 59, rfl, rfl, ⟨rfl, rfl, rfl, by decide +kernel, rfl, by decide +kernel, by decide +kernel⟩, fun _ _ _ _ _ _ us hl => match us, hl with | [_, _], _ => rfl⟩
theorem f80 (M : Md K mg) : Fn P w K mg base "_law_side" 1 ["_law_one", "_law_two"] (Pm K (α := Rat × Rat) (fun | (a, b) => [.q a, .q b]) (fun | (a, b) => Sb a b) (fun | (a, b) => fun r => r = .int (sd a b))) := by
  refine mk M sg80 (fun _ => rfl) (fun z hz => noO2 rfl rfl) fun s ⟨a, b⟩ hg => ?_
  obtain ⟨m, n, ha, hb, hm⟩ := hg
  have l1 := Rat.lt_iff b a
  have l2 := Rat.lt_iff a b
  refine (ws_set 2 rfl (.inl rfl) (ev_sub (ev_mul (ev_ix (fun _ _ => rfl) (ev_var 0 rfl (.inl rfl) rfl (ev_int ⟨_, _, rfl, rfl, ⟨_, rfl, (ev_ix (fun _ _ => rfl) (ev_var 1 rfl (.inl rfl) rfl (ev_int ⟨_, _, rfl, rfl, ⟨_, rfl, cmul_of (m := m) (n := n) ha.n hb.d (by omega), ⟨_, rfl, (ev_mul (ev_ix (fun _ _ => rfl) (ev_var 1 rfl (.inl rfl) rfl (ev_int ⟨_, _, rfl, rfl, ⟨_, rfl, (ev_ix (fun _ _ => rfl) (ev_var 0 rfl (.inl rfl) rfl (ev_int ⟨_, _, rfl, rfl, ⟨_, rfl, cmul_of (m := n) (n := m) hb.n ha.d (by omega), ⟨_, rfl, ⟨.inl rfl, (ws_ret (ev_if (et_gt (ev_var 2 rfl (.inl rfl) rfl ⟨_, rfl, (ev_int ⟨_, rfl, (ite_dec (fun h1 => (ev_int ?_)) (fun h1 => (ev_if (et_lt (ev_var 2 rfl (.inl rfl) rfl ⟨_, rfl, (ev_int ⟨_, rfl, (ite_dec (fun h2 => (ev_neg (ev_int ⟨_, rfl, ?_⟩))) (fun h2 => (ev_int ?_)))⟩)⟩)))))⟩)⟩))))⟩⟩⟩⟩)))⟩⟩))))⟩⟩⟩)))⟩⟩))))))
  · have e : b < a := l1.mpr (by omega)
    show Sv.int 1 = .int (sd a b)
    rw [sd, if_pos e]
  · have e : ¬ b < a := fun e => by have := l1.mp e; omega
    have e2 : a < b := l2.mpr (by omega)
    show Sv.int (-1) = .int (sd a b)
    rw [sd, if_neg e, if_pos e2]
  · have e : ¬ b < a := fun e => by have := l1.mp e; omega
    have e2 : ¬ a < b := fun e => by have := l2.mp e; omega
    show Sv.int 0 = .int (sd a b)
    rw [sd, if_neg e, if_neg e2]
end
end K39
end
section
set_option Elab.async false
set_option linter.all false
set_option exponentiation.threshold 10000
/-! Q1: columns, lines, walks as plain functions; their sizes. -/
namespace K39
def tot (l : List Rat) : Rat := l.foldl (· + ·) 0
abbrev Fd := Rat × Rat × Rat
structure Col where
  a : Rat
  fs : List Fd
  top : Rat
  foot : Rat
def amt (fs : List Fd) : Rat := tot (fs.map fun f => f.1)
def lgt (fs : List Fd) : Rat := tot (fs.map fun f => f.1 * f.2.1)
def wet (fs : List Fd) : Rat := tot (fs.map fun f => f.1 * f.2.2)
def dry (fs : List Fd) : Rat := amt fs - wet fs
def Col.D (c : Col) : Rat := (lgt c.fs - c.foot * amt c.fs) / (c.top - c.foot)
abbrev Sec := Rat × Rat × Rat × Rat
def sec (c : Col) (R : Rat) (k : Nat) : Sec := (c.a, (R + 1) * c.D - dry (c.fs.take k), R * c.D + wet (c.fs.take k), c.D * c.top - lgt (c.fs.take k))
def secs (c : Col) (R : Rat) : List Sec := (List.range (c.fs.length + 1)).map (sec c R)
def ht (s : Sec) (x : Rat) : Rat := (s.2.2.1 * x + s.2.2.2) / s.2.1
def vap (a x : Rat) : Rat := a * x / (1 + (a - 1) * x)
def liq (a y : Rat) : Rat := y / (a - (a - 1) * y)
theorem tot_nil : tot [] = 0 := rfl
theorem tot_snoc (l : List Rat) (x : Rat) : tot (l ++ [x]) = tot l + x := by unfold tot; rw [List.foldl_append] <;> rfl
theorem tot_take {l : List Rat} {i : Nat} {x : Rat} (h : l[i]? = some x) : tot (l.take (i + 1)) = tot (l.take i) + x := by
  rw [List.take_succ, h]
  exact tot_snoc _ _
theorem bz0 : Bz 1 0 := ⟨by decide, by decide⟩
theorem bz1 : Bz 1 1 := ⟨by decide, by decide⟩
theorem Bz.tot {b : Nat} : ∀ {l : List Rat} {m : Nat} {s : Rat}, Bz m s → (∀ r ∈ l, Bz b r) → Bz (m + l.length * (b + 1)) (l.foldl (· + ·) s)
  | [], m, s, h, _ => h.mono (by omega)
  | r :: l, m, s, h, hl => by
    have h1 := h.add (hl r List.mem_cons_self)
    have h2 := Bz.tot h1 fun z hz => hl z (List.mem_cons_of_mem _ hz)
    refine h2.mono ?_
    rw [List.length_cons, Nat.succ_mul]
    omega
theorem bz_tot {b : Nat} {l : List Rat} (h : ∀ r ∈ l, Bz b r) : Bz (1 + l.length * (b + 1)) (K39.tot l) := Bz.tot bz0 h
/-- a feed's and a column's sizes -/
structure Fok (f : Fd) : Prop where
  a : Bz 4 f.1
  s : Bz 15 f.2.1
  q : Bz 3 f.2.2
structure Fso (fs : List Fd) : Prop where
  len : fs.length ≤ 3
  ok : ∀ f ∈ fs, Fok f
theorem Fso.take {fs : List Fd} (h : Fso fs) (k : Nat) : Fso (fs.take k) := ⟨Nat.le_trans (by rw [List.length_take]; omega) h.len, fun f hf => h.ok f (List.mem_of_mem_take hf)⟩
theorem Fso.amt {fs : List Fd} (h : Fso fs) : Bz 16 (K39.amt fs) := by
  refine (bz_tot (b := 4) ?_).mono ?_
  · intro r hr
    obtain ⟨f, hf, rfl⟩ := List.mem_map.mp hr
    exact (h.ok f hf).a
  · rw [List.length_map]; have := h.len; omega
theorem Fso.lgt {fs : List Fd} (h : Fso fs) : Bz 61 (K39.lgt fs) := by
  refine (bz_tot (b := 19) ?_).mono ?_
  · intro r hr
    obtain ⟨f, hf, rfl⟩ := List.mem_map.mp hr
    exact (h.ok f hf).a.mul (h.ok f hf).s
  · rw [List.length_map]; have := h.len; omega
theorem Fso.wet {fs : List Fd} (h : Fso fs) : Bz 25 (K39.wet fs) := by
  refine (bz_tot (b := 7) ?_).mono ?_
  · intro r hr
    obtain ⟨f, hf, rfl⟩ := List.mem_map.mp hr
    exact (h.ok f hf).a.mul (h.ok f hf).q
  · rw [List.length_map]; have := h.len; omega
theorem Fso.dry {fs : List Fd} (h : Fso fs) : Bz 42 (K39.dry fs) := h.amt.sub h.wet
/-- a sound column -/
structure Cok (c : Col) : Prop where
  fso : Fso c.fs
  ne : c.fs ≠ []
  a1 : 1 < c.a
  ba : Bz 6 c.a
  btop : Bz 10 c.top
  bfoot : Bz 28 c.foot
  f0 : 0 < c.foot
  ft : c.foot < c.top
  t1 : c.top < 1
  feed : ∀ f ∈ c.fs, 0 < f.1 ∧ c.foot < f.2.1 ∧ f.2.1 < c.top ∧ 0 ≤ f.2.2 ∧ f.2.2 ≤ 1
theorem sub_ne {a b : Rat} (h : a < b) : b - a ≠ 0 := by
  intro e
  grind
section
variable {c : Col}
theorem Cok.tf (h : Cok c) : Bz 39 (c.top - c.foot) := h.btop.sub h.bfoot
theorem Cok.bD (h : Cok c) : Bz 145 c.D := ((h.fso.lgt.sub (h.bfoot.mul h.fso.amt)).div h.tf).mono (by omega)
structure Rok (R : Rat) : Prop where
  pos : 0 < R
  b : Bz 600 R
structure Sok (s : Sec) : Prop where
  a1 : 1 < s.1
  ba : Bz 6 s.1
  bu : Bz 790 s.2.1
  u0 : 0 < s.2.1
  bd : Bz 771 s.2.2.1
  bn : Bz 217 s.2.2.2
  d0 : 0 < s.2.2.1
theorem Cok.sec (h : Cok c) {R : Rat} (r : Rok R) (k : Nat) (hu : 0 < (K39.sec c R k).2.1) (hd : 0 < (K39.sec c R k).2.2.1) : Sok (K39.sec c R k) :=
  ⟨h.a1, h.ba, (((r.b.add bz1).mul h.bD).sub (h.fso.take k).dry).mono (by omega), hu, ((r.b.mul h.bD).add (h.fso.take k).wet).mono (by omega), ((h.bD.mul h.btop).sub (h.fso.take k).lgt).mono (by omega), hd⟩
end
theorem p2pos (n : Nat) : 0 < 2 ^ n := Nat.pow_pos (by decide)
/-! ### vapour and liquid as written -/
theorem div_same {x y k : Rat} (hk : k ≠ 0) (hy : y ≠ 0) : (x * k) / (y * k) = x / y := by
  have hyk : y * k ≠ 0 := fun e => by rcases Rat.mul_eq_zero.mp e with e | e; exact hy e; exact hk e
  grind
theorem qvap (a x : Rat) (ha : 1 < a) (hx : 0 ≤ x) : Rat.divInt (a.num * x.num) ((a.den : Int) * x.den + (a.num - a.den) * x.num) = vap a x := by
  rw [Rat.divInt_eq_div]
  have e1 : ((a.num * x.num : Int) : Rat) = (a * x) * ((a.den : Rat) * (x.den : Rat)) := by
    rw [Rat.intCast_mul, num_eq a, num_eq x]; grind
  have e2 : (((a.den : Int) * x.den + (a.num - a.den) * x.num : Int) : Rat) = (1 + (a - 1) * x) * ((a.den : Rat) * (x.den : Rat)) := by
    rw [Rat.intCast_add, Rat.intCast_mul, Rat.intCast_mul, Rat.intCast_sub, Rat.intCast_natCast, Rat.intCast_natCast, num_eq a, num_eq x]; grind
  rw [e1, e2]
  have hk : (a.den : Rat) * (x.den : Rat) ≠ 0 := fun e => by rcases Rat.mul_eq_zero.mp e with e | e; exact denQ a e; exact denQ x e
  have h0 : 0 ≤ (a - 1) * x := Rat.mul_nonneg (by grind) hx
  exact div_same hk (by grind)
theorem qliq (a y : Rat) (ha : 1 < a) (h0 : 0 ≤ y) (h1 : y ≤ 1) : Rat.divInt ((a.den : Int) * y.num) (a.num * (y.den : Int) - (a.num - a.den) * y.num) = liq a y := by
  rw [Rat.divInt_eq_div]
  have e1 : (((a.den : Int) * y.num : Int) : Rat) = y * ((a.den : Rat) * (y.den : Rat)) := by
    rw [Rat.intCast_mul, Rat.intCast_natCast, num_eq y]; grind
  have e2 : ((a.num * (y.den : Int) - (a.num - a.den) * y.num : Int) : Rat) = (a - (a - 1) * y) * ((a.den : Rat) * (y.den : Rat)) := by
    rw [Rat.intCast_sub, Rat.intCast_mul, Rat.intCast_mul, Rat.intCast_sub, Rat.intCast_natCast, Rat.intCast_natCast, num_eq a, num_eq y]; grind
  rw [e1, e2]
  have hk : (a.den : Rat) * (y.den : Rat) ≠ 0 := fun e => by rcases Rat.mul_eq_zero.mp e with e | e; exact denQ a e; exact denQ y e
  have h2 : 0 ≤ (a - 1) * (1 - y) := Rat.mul_nonneg (by grind) (by grind)
  exact div_same hk (by grind)
/-- the denominators are above nought -/
theorem vden (a x : Rat) (ha : 1 < a) (hx : 0 ≤ x) : 0 < (a.den : Int) * x.den + (a.num - a.den) * x.num := by
  have h1 : (a.den : Int) < a.num := by have := (Rat.lt_iff 1 a).mp ha; simpa using this
  have h2 : 0 ≤ x.num := Rat.num_nonneg.mpr hx
  have h3 : 0 ≤ (a.num - a.den) * x.num := Int.mul_nonneg (by omega) h2
  have h4 : 0 < (a.den : Int) * x.den := Int.mul_pos (den_pos a) (den_pos x)
  omega
theorem lden (a y : Rat) (ha : 1 < a) (h0 : 0 ≤ y) (h1 : y ≤ 1) : 0 < a.num * (y.den : Int) - (a.num - a.den) * y.num := by
  have h1' : (a.den : Int) < a.num := by have := (Rat.lt_iff 1 a).mp ha; simpa using this
  have h2 : y.num ≤ (y.den : Int) := by have := (Rat.le_iff y 1).mp h1; simpa using this
  have h3 : 0 ≤ (a.num - a.den) * ((y.den : Int) - y.num) := Int.mul_nonneg (by omega) (by omega)
  have h4 : 0 < (a.den : Int) * y.den := Int.mul_pos (den_pos a) (den_pos y)
  rw [Int.mul_sub] at h3
  have h5 : (a.num - a.den) * (y.den : Int) = a.num * y.den - a.den * y.den := Int.sub_mul ..
  omega
/-- a gcd that divides both p q m and p q n, m and n without a common divisor -/
theorem gcd_small {G k : Nat} {x : Rat} (h1 : G ∣ k * x.den) (h2 : G ∣ k * x.num.natAbs) (hk : 0 < k) : G ≤ k := by
  have h := Nat.dvd_gcd h2 h1
  rw [Nat.gcd_mul_left, x.reduced, Nat.mul_one] at h
  exact Nat.le_of_dvd hk h
theorem int_dvd_nat {G : Nat} {z : Int} {k : Nat} (h : (G : Int) ∣ z) (e : z.natAbs = k) : G ∣ k := by
  rw [← e]
  exact Int.ofNat_dvd_left.mp h
theorem gk_vap {a x : Rat} {m : Nat} (ha : 1 < a) (hx : 0 ≤ x) (hm : Bz m a) (l : m ≤ 4000) : Gk (a.num * x.num) ((a.den : Int) * x.den + (a.num - a.den) * x.num) := by
  have hd := vden a x ha hx
  refine ⟨by omega, ?_⟩
  have g1 : ((Nat.gcd (a.num * x.num).natAbs ((a.den : Int) * x.den + (a.num - a.den) * x.num).natAbs : Nat) : Int) ∣ a.num * x.num := Int.ofNat_dvd_left.mpr (Nat.gcd_dvd_left ..)
  have g2 : ((Nat.gcd (a.num * x.num).natAbs ((a.den : Int) * x.den + (a.num - a.den) * x.num).natAbs : Nat) : Int) ∣ (a.den : Int) * x.den + (a.num - a.den) * x.num := Int.ofNat_dvd_left.mpr (Nat.gcd_dvd_right ..)
  generalize Nat.gcd (a.num * x.num).natAbs ((a.den : Int) * x.den + (a.num - a.den) * x.num).natAbs = G at g1 g2 ⊢
  have d1 : (G : Int) ∣ a.num * a.den * x.den := by
    have e : a.num * a.den * x.den = a.num * ((a.den : Int) * x.den + (a.num - a.den) * x.num) - (a.num - a.den) * (a.num * x.num) := by grind
    rw [e]
    exact Int.dvd_sub (Int.dvd_mul_of_dvd_right g2) (Int.dvd_mul_of_dvd_right g1)
  have d2 : (G : Int) ∣ a.num * a.den * x.num := by
    have e : a.num * a.den * x.num = (a.den : Int) * (a.num * x.num) := by grind
    rw [e]
    exact Int.dvd_mul_of_dvd_right g1
  have hnum : 0 < a.num.natAbs := by
    have h1' : (a.den : Int) < a.num := by have := (Rat.lt_iff 1 a).mp ha; simpa using this
    have := den_pos a
    omega
  refine Nat.lt_of_le_of_lt (gcd_small (x := x) (k := a.num.natAbs * a.den) (int_dvd_nat d1 ?_) (int_dvd_nat d2 ?_) (Nat.mul_pos hnum (dpos a))) (Nat.lt_of_lt_of_le (mul_lt_p hm.1 hm.2) (p2 (by omega)))
  · rw [Int.natAbs_mul, Int.natAbs_mul, Int.natAbs_natCast, Int.natAbs_natCast]
  · rw [Int.natAbs_mul, Int.natAbs_mul, Int.natAbs_natCast]
theorem gk_liq {a y : Rat} {m : Nat} (ha : 1 < a) (h0 : 0 ≤ y) (h1 : y ≤ 1) (hm : Bz m a) (l : m ≤ 4000) : Gk ((a.den : Int) * y.num) (a.num * (y.den : Int) - (a.num - a.den) * y.num) := by
  have hd := lden a y ha h0 h1
  refine ⟨by omega, ?_⟩
  have g1 : ((Nat.gcd ((a.den : Int) * y.num).natAbs (a.num * (y.den : Int) - (a.num - a.den) * y.num).natAbs : Nat) : Int) ∣ (a.den : Int) * y.num := Int.ofNat_dvd_left.mpr (Nat.gcd_dvd_left ..)
  have g2 : ((Nat.gcd ((a.den : Int) * y.num).natAbs (a.num * (y.den : Int) - (a.num - a.den) * y.num).natAbs : Nat) : Int) ∣ a.num * (y.den : Int) - (a.num - a.den) * y.num := Int.ofNat_dvd_left.mpr (Nat.gcd_dvd_right ..)
  generalize Nat.gcd ((a.den : Int) * y.num).natAbs (a.num * (y.den : Int) - (a.num - a.den) * y.num).natAbs = G at g1 g2 ⊢
  have d1 : (G : Int) ∣ a.num * a.den * y.den := by
    have e : a.num * a.den * y.den = (a.den : Int) * (a.num * (y.den : Int) - (a.num - a.den) * y.num) + (a.num - a.den) * ((a.den : Int) * y.num) := by grind
    rw [e]
    exact Int.dvd_add (Int.dvd_mul_of_dvd_right g2) (Int.dvd_mul_of_dvd_right g1)
  have d2 : (G : Int) ∣ a.num * a.den * y.num := by
    have e : a.num * a.den * y.num = a.num * ((a.den : Int) * y.num) := by grind
    rw [e]
    exact Int.dvd_mul_of_dvd_right g1
  have hnum : 0 < a.num.natAbs := by
    have h1' : (a.den : Int) < a.num := by have := (Rat.lt_iff 1 a).mp ha; simpa using this
    have := den_pos a
    omega
  refine Nat.lt_of_le_of_lt (gcd_small (x := y) (k := a.num.natAbs * a.den) (int_dvd_nat d1 ?_) (int_dvd_nat d2 ?_) (Nat.mul_pos hnum (dpos a))) (Nat.lt_of_lt_of_le (mul_lt_p hm.1 hm.2) (p2 (by omega)))
  · rw [Int.natAbs_mul, Int.natAbs_mul, Int.natAbs_natCast, Int.natAbs_natCast]
  · rw [Int.natAbs_mul, Int.natAbs_mul, Int.natAbs_natCast]
theorem Bz.vap {m n : Nat} {a x : Rat} (h : Bz m a) (h' : Bz n x) (ha : 1 < a) (hx : 0 ≤ x) : Bz (m + n + 2) (K39.vap a x) := by
  rw [← qvap a x ha hx]
  have h1 : (a.num - a.den).natAbs < 2 ^ (m + 1) := abs_sub_lt h.1 (by simpa using h.2)
  refine bz_div (Nat.lt_of_lt_of_le (abs_mul_lt h.1 h'.1) (p2 (by omega))) ?_ (Nat.one_lt_two_pow (by omega))
  refine abs_add_lt (m := m + n + 1) (Nat.lt_of_lt_of_le (abs_mul_lt (m := m) (n := n) (by simpa using h.2) (by simpa using h'.2)) (p2 (by omega))) ?_
  exact Nat.lt_of_lt_of_le (abs_mul_lt h1 h'.1) (p2 (by omega))
theorem Bz.liq {m n : Nat} {a x : Rat} (h : Bz m a) (h' : Bz n x) (ha : 1 < a) (h0 : 0 ≤ x) (h1 : x ≤ 1) : Bz (m + n + 2) (K39.liq a x) := by
  rw [← qliq a x ha h0 h1]
  have h1 : (a.num - a.den).natAbs < 2 ^ (m + 1) := abs_sub_lt h.1 (by simpa using h.2)
  refine bz_div (Nat.lt_of_lt_of_le (abs_mul_lt (m := m) (n := n) (by simpa using h.2) h'.1) (p2 (by omega))) ?_ (Nat.one_lt_two_pow (by omega))
  refine abs_sub_lt (m := m + n + 1) (Nat.lt_of_lt_of_le (abs_mul_lt (m := m) (n := n) h.1 (by simpa using h'.2)) (p2 (by omega))) ?_
  exact Nat.lt_of_lt_of_le (abs_mul_lt h1 h'.1) (p2 (by omega))
end K39
end
section
set_option Elab.async false
set_option linter.all false
/-! Q2: the envelope and the walks as plain functions. -/
namespace K39
def lowG (f : Nat → Rat) : Nat → Nat × Rat
  | 0 => (0, f 0)
  | k + 1 => if f (k + 1) < (lowG f k).2 then (k + 1, f (k + 1)) else lowG f k
def nxt (cr : Nat → Nat → Rat) (u : Nat) : Nat → Nat
  | 0 => u + 1
  | j + 1 => if cr u (u + 2 + j) < cr u (nxt cr u j) then nxt cr u j else u + 2 + j
def kkF (cr : Nat → Nat → Rat) (last : Nat) : Nat → Nat → List (Nat × Nat)
  | 0, _ => []
  | f + 1, u => if u < last then (u, nxt cr u (last - u - 1)) :: kkF cr last f (nxt cr u (last - u - 1)) else []
theorem nxt_lt (cr : Nat → Nat → Rat) (u : Nat) : ∀ j, u + 1 ≤ nxt cr u j ∧ nxt cr u j ≤ u + 1 + j
  | 0 => ⟨Nat.le_refl _, Nat.le_refl _⟩
  | j + 1 => by
    have := nxt_lt cr u j
    unfold nxt
    split <;> omega
abbrev sAt (ss : List Sec) (i : Nat) : Sec := ss.getD i (1, 1, 1, 1)
def crs (s l : Sec) : Rat := (s.2.2.2 / s.2.1 - l.2.2.2 / l.2.1) / (l.2.2.1 / l.2.1 - s.2.2.1 / s.2.1)
abbrev Kink := Nat × Nat × Rat × Rat
def mkK (ss : List Sec) (p : Nat × Nat) : Kink := (p.1, p.2, crs (sAt ss p.1) (sAt ss p.2), ht (sAt ss p.1) (crs (sAt ss p.1) (sAt ss p.2)))
def crI (ss : List Sec) (u l : Nat) : Rat := crs (sAt ss u) (sAt ss l)
def kinks (ss : List Sec) : List Kink := (kkF (crI ss) (ss.length - 1) (ss.length - 1) 0).map (mkK ss)
def slp (s : Sec) : Rat := s.2.2.1 / s.2.1
structure SS (ss : List Sec) : Prop where
  ok : ∀ s ∈ ss, Sok s
  ne : 0 < ss.length
  few : ss.length ≤ 4
  up : ∀ i j, i < j → j < ss.length → slp (sAt ss i) < slp (sAt ss j)
theorem SS.at_ {ss : List Sec} (h : SS ss) {i : Nat} (hi : i < ss.length) : Sok (sAt ss i) := by
  refine h.ok _ ?_
  rw [sAt, List.getD_eq_getElem?_getD, List.getElem?_eq_getElem hi]
  exact List.getElem_mem hi
theorem SS.bx {ss : List Sec} (h : SS ss) {i j : Nat} (hi : i < ss.length) (hj : j < ss.length) : Bz 5140 (crI ss i j) := by
  have a := h.at_ hi
  have b := h.at_ hj
  exact (((a.bn.div a.bu).sub (b.bn.div b.bu)).div ((b.bd.div b.bu).sub (a.bd.div a.bu))).mono (by omega)
theorem bht {s : Sec} {x : Rat} {n : Nat} (h : Sok s) (hx : Bz n x) : Bz (1779 + n) (ht s x) := (((h.bd.mul hx).add h.bn).div h.bu).mono (by omega)
/-- the lowest line at x -/
def low (c : Col) (R x : Rat) : Nat × Rat := lowG (fun i => ht (sAt (secs c R) i) x) ((secs c R).length - 1)
def rowsF (c : Col) (R : Rat) : Nat → Rat → List (Nat × Rat)
  | 0, _ => []
  | f + 1, x => if c.foot < x then ((low c R x).1, liq c.a (low c R x).2) :: rowsF c R f (liq c.a (low c R x).2) else []
def itl (a x : Rat) : Nat → Rat
  | 0 => x
  | k + 1 => liq a (itl a x k)
end K39
end
section
set_option Elab.async false
set_option linter.all false
set_option maxRecDepth 100000
set_option maxHeartbeats 4000000
namespace K39
open PySem PySem.Spec PyProof.Rows L2
def fdS (f : Fd) : Sv := .tup [.q f.1, .q f.2.1, .q f.2.2]
def secS (s : Sec) : Sv := .tup [.q s.1, .q s.2.1, .q s.2.2.1, .q s.2.2.2]
def Col.sv (c : Col) : Sv := .tup [.q c.a, .tup (c.fs.map fdS), .q c.top, .q c.foot]
theorem flatL_map {α : Type} (g : α → Sv) (h : ∀ x, (g x).flat = true) (l : List α) : Sv.flatL (l.map g) = true := flatL_of fun r hr => by
  obtain ⟨x, _, rfl⟩ := List.mem_map.mp hr
  exact h x
theorem flat_fds (l : List Fd) : Sv.flatL (l.map fdS) = true := flatL_map _ (fun _ => rfl) l
theorem flat_secs (l : List Sec) : Sv.flatL (l.map secS) = true := flatL_map _ (fun _ => rfl) l
theorem flat_qs (l : List Rat) : Sv.flatL (l.map Sv.q) = true := flatL_map _ (fun _ => rfl) l
def Sv.fl : Sv → Bool
  | .lst m => Sv.flatL m
  | .own m => Sv.flatL m
  | r => r.flat
def okO : Option Sv → Bool
  | none => true
  | some r => r.fl
theorem okO_s {r : Sv} : okO (some r) = r.fl := rfl
theorem hfr_of {ρ : Ro} {i : Nat} (h : ρ.all okO = true) : ∀ (j : Nat) (r : Sv), ρ[j]? = some (some r) → j ≠ i → r.flat = true ∨ ∃ m, (r = .lst m ∨ r = .own m) ∧ Sv.flatL m = true := fun j r e _ => by
  have q : r.fl = true := List.all_eq_true.mp h _ (List.mem_of_getElem? e)
  cases r with
  | lst m => exact .inr ⟨m, .inl rfl, q⟩
  | own m => exact .inr ⟨m, .inr rfl, q⟩
  | _ => exact .inl q
section
variable {S : Sc} {ρ : Ro} {N : Ro → Prop} {R : Sv → Prop} {Φ : Sv → Prop} {pos : Pos} {rest : List Stmt}
theorem ev_lcm {elt tg iter : Expr} {scope : Scope} {own : List (Str × Nat)} {is : List Nat} {bt : Bool} {α : Type} (xs : List α) (g o : α → Sv) (hb : blkN S.N S.names scope own = true) (ho : own.map (·.2) = is) (ht : Tgt (S.blk scope.names) tg is bt)
    (h : Ev S iter ρ fun r => r.parts = some (xs.map g) ∧ xs.length ≤ 1000 ∧ (∀ x ∈ xs, (o x).flat = true) ∧
      (∀ x ∈ xs, ∃ l, tv bt (g x) = some l ∧ l.length = is.length ∧ Ev (S.blk scope.names) elt (sets (wipeR ρ is) is l) fun z => z = o x) ∧ Φ (.lst (xs.map o)))
    (hfs : ∀ env x, foldedSetIterable iter env x = pure x := by intro _ _; rfl) : Ev S (.ListComp elt [⟨tg, iter, [], 0⟩] scope pos) ρ Φ := by
  refine ev_lc hb ho ht (h.imp fun r ⟨h1, h2, h3, h4, h5⟩ => ⟨_, _, h1, by simp, by simpa using h2, fun z hz => ?_, fun i r' z e1 e2 => ?_, h5⟩) hfs
  · obtain ⟨x, hx, rfl⟩ := List.mem_map.mp hz
    exact h3 x hx
  · rw [List.getElem?_map] at e1 e2
    cases q : xs[i]? with
    | none => rw [q] at e1; cases e1
    | some x =>
      rw [q] at e1 e2
      cases e1
      cases e2
      exact h4 x (List.mem_of_getElem? q)
end
def Sx (a x : Rat) : Prop := 1 < a ∧ ∃ m n, Bz m a ∧ Bz n x ∧ m ≤ 60 ∧ n ≤ 300000
section
variable {P : Program} {w : World} {K : PySem.W.Frag} {mg : Str → Option Value} {base : Heap}
theorem sg25 : Sig d25 "vapour" ["volatility", "share", "p", "q", "n", "m"] ["volatility", "share"] := ⟨memN 13, rfl, memF 13, rfl, rfl, ⟨rfl, rfl, rfl, by decide +kernel, rfl, by decide +kernel, by decide +kernel⟩, fun _ _ _ _ _ _ us hl => match us, hl with | [_, _], _ => rfl⟩
theorem f25 (M : Md K mg) : Fn P w K mg base "vapour" 4 ["volatility", "share"] (Pm K (α := Rat × Rat) (fun | (a, b) => [.q a, .q b]) (fun | (a, b) => Sx a b ∧ 0 ≤ b) (fun | (a, b) => fun r => r = .q (vap a b))) := by
  refine mk M sg25 (fun _ => rfl) (fun z hz => noO2 rfl rfl) fun s ⟨a, b⟩ hg => ?_
  obtain ⟨⟨ha1, m, n, ha, hb, hm, hn⟩, h0⟩ := (show Sx a b ∧ 0 ≤ b from hg)
  have hd : (a.num - a.den).natAbs < 2 ^ (m + 1) := abs_sub_lt ha.n ha.d
  refine (ws_tup (is := [2, 3]) (.cons rfl (.inl rfl) (.cons rfl (.inl rfl) .nil)) (ev_var 0 rfl (.inl rfl) rfl ⟨_, rfl, rfl, by simp [Sv.isL], ?_⟩))
  refine (ws_tup (is := [4, 5]) (.cons rfl (.inl rfl) (.cons rfl (.inl rfl) .nil)) (ev_var 1 rfl (.inl rfl) rfl ⟨_, rfl, rfl, by simp [Sv.isL], ?_⟩))
  exact (ws_ret (ev_callf (f17 M) rfl (ea_cons (ev_mul (ev_var 2 rfl (.inl rfl) rfl ⟨_, rfl, (ev_var 4 rfl (.inl rfl) rfl ⟨_, rfl, cmul_of (m := m) (n := n) ha.n hb.n (by omega), (ea_cons (ev_add (ev_mul (ev_var 3 rfl (.inl rfl) rfl ⟨_, rfl, (ev_var 5 rfl (.inl rfl) rfl ⟨_, rfl, cmul_of (m := m) (n := n) ha.d hb.d (by omega), ⟨_, rfl, (ev_mul (ev_sub (ev_var 2 rfl (.inl rfl) rfl ⟨_, rfl, (ev_var 3 rfl (.inl rfl) rfl ⟨_, rfl, ⟨_, rfl, (ev_var 4 rfl (.inl rfl) rfl ⟨_, rfl, cmul_of (m := m + 1) (n := n) hd hb.n (by omega), ⟨_, rfl, (ea_nil ⟨(_, _), rfl, gk_vap ha1 h0 ha (by omega), congrArg Sv.q (qvap a b ha1 h0)⟩)⟩⟩)⟩⟩)⟩)))⟩⟩)⟩))))⟩)⟩)))))
theorem sg26 : Sig d26 "liquid" ["volatility", "share", "p", "q", "n", "m"] ["volatility", "share"] := ⟨memN 14, rfl, memF 14, rfl, rfl, ⟨rfl, rfl, rfl, by decide +kernel, rfl, by decide +kernel, by decide +kernel⟩, fun _ _ _ _ _ _ us hl => match us, hl with | [_, _], _ => rfl⟩
theorem f26 (M : Md K mg) : Fn P w K mg base "liquid" 4 ["volatility", "share"] (Pm K (α := Rat × Rat) (fun | (a, b) => [.q a, .q b]) (fun | (a, b) => Sx a b ∧ 0 ≤ b ∧ b ≤ 1) (fun | (a, b) => fun r => r = .q (liq a b))) := by
  refine mk M sg26 (fun _ => rfl) (fun z hz => noO2 rfl rfl) fun s ⟨a, b⟩ hg => ?_
  obtain ⟨⟨ha1, m, n, ha, hb, hm, hn⟩, h0, h1⟩ := (show Sx a b ∧ 0 ≤ b ∧ b ≤ 1 from hg)
  have hd : (a.num - a.den).natAbs < 2 ^ (m + 1) := abs_sub_lt ha.n ha.d
  refine (ws_tup (is := [2, 3]) (.cons rfl (.inl rfl) (.cons rfl (.inl rfl) .nil)) (ev_var 0 rfl (.inl rfl) rfl ⟨_, rfl, rfl, by simp [Sv.isL], ?_⟩))
  refine (ws_tup (is := [4, 5]) (.cons rfl (.inl rfl) (.cons rfl (.inl rfl) .nil)) (ev_var 1 rfl (.inl rfl) rfl ⟨_, rfl, rfl, by simp [Sv.isL], ?_⟩))
  exact (ws_ret (ev_callf (f17 M) rfl (ea_cons (ev_mul (ev_var 3 rfl (.inl rfl) rfl ⟨_, rfl, (ev_var 4 rfl (.inl rfl) rfl ⟨_, rfl, cmul_of (m := m) (n := n) ha.d hb.n (by omega), (ea_cons (ev_sub (ev_mul (ev_var 2 rfl (.inl rfl) rfl ⟨_, rfl, (ev_var 5 rfl (.inl rfl) rfl ⟨_, rfl, cmul_of (m := m) (n := n) ha.n hb.d (by omega), ⟨_, rfl, (ev_mul (ev_sub (ev_var 2 rfl (.inl rfl) rfl ⟨_, rfl, (ev_var 3 rfl (.inl rfl) rfl ⟨_, rfl, ⟨_, rfl, (ev_var 4 rfl (.inl rfl) rfl ⟨_, rfl, cmul_of (m := m + 1) (n := n) hd hb.n (by omega), ⟨_, rfl, (ea_nil ⟨(_, _), rfl, gk_liq ha1 h0 h1 ha (by omega), congrArg Sv.q (qliq a b ha1 h0 h1)⟩)⟩⟩)⟩⟩)⟩)))⟩⟩)⟩))))⟩)⟩)))))
theorem sg27 : Sig d27 "height_of" ["section", "share", "volatility", "up", "down", "net"] ["section", "share"] := ⟨memN 15, rfl, memF 15, rfl, rfl, ⟨rfl, rfl, rfl, by decide +kernel, rfl, by decide +kernel, by decide +kernel⟩, fun _ _ _ _ _ _ us hl => match us, hl with | [_, _], _ => rfl⟩
theorem f27 (M : Md K mg) : Fn P w K mg base "height_of" 5 ["section", "share"] (Pm K (α := Sec × Rat) (fun | (a, b) => [secS a, .q b]) (fun | (a, b) => Sok a ∧ ∃ n, Bz n b ∧ n ≤ 250000) (fun | (a, b) => fun r => r = .q (ht a b))) := by
  refine mk M sg27 (fun _ => rfl) (fun z hz => noO2 rfl rfl) fun s ⟨s', x⟩ hg => ?_
  obtain ⟨k, n, hx, hn⟩ := (show Sok s' ∧ ∃ n, Bz n x ∧ n ≤ 250000 from hg)
  have b1 := k.bd.mul hx
  have b2 := b1.add k.bn
  have p1 : St s'.2.2.1 x := ⟨771, n, k.bd, hx, by omega, .inr (.inl ⟨by omega, Rat.ne_of_gt k.d0⟩)⟩
  have p3 : Sa (s'.2.2.1 * x) s'.2.2.2 := ⟨_, _, b1, k.bn, by omega, .inr (by omega)⟩
  have p4 : So (s'.2.2.1 * x + s'.2.2.2) s'.2.1 := ⟨Rat.ne_of_gt k.u0, _, _, b2, k.bu, by omega, .inr (by omega)⟩
  refine (ws_tup (is := [2, 3, 4, 5]) (.cons rfl (.inl rfl) (.cons rfl (.inl rfl) (.cons rfl (.inl rfl) (.cons rfl (.inl rfl) .nil)))) (ev_var 0 rfl (.inl rfl) rfl ⟨_, rfl, rfl, by simp [Sv.isL], ?_⟩))
  exact (ws_ret (ev_callf (f21 M) rfl (ea_cons (ev_callf (f18 M) rfl (ea_cons (ev_callf (f20 M) rfl (ea_cons (ev_var 4 rfl (.inl rfl) rfl (ea_cons (ev_var 1 rfl (.inl rfl) rfl (ea_nil ⟨(_, _), rfl, p1, (ea_cons (ev_var 5 rfl (.inl rfl) rfl (ea_nil ⟨(_, _), rfl, p3, (ea_cons (ev_var 3 rfl (.inl rfl) rfl (ea_nil ⟨(_, _), rfl, p4, by rfl⟩)))⟩)))⟩)))))))))))
theorem sg44 : Sig d44 "slope_of" ["section"] ["section"] := ⟨memN 29, rfl, memF 29, rfl, rfl, ⟨rfl, rfl, rfl, by decide +kernel, rfl, by decide +kernel, by decide +kernel⟩, fun _ _ _ _ _ _ us hl => match us, hl with | [_], _ => rfl⟩
theorem f44 (M : Md K mg) : Fn P w K mg base "slope_of" 5 ["section"] (Pm K (fun z : Sec => [secS z]) (fun z => Sok z) (fun z r => r = .q (z.2.2.1 / z.2.1))) := by
  refine mk M sg44 (fun _ => rfl) (fun z hz => noO1 rfl) fun s z k => ?_
  have k : Sok z := k
  have p1 : So z.2.2.1 z.2.1 := ⟨Rat.ne_of_gt k.u0, _, _, k.bd, k.bu, by omega, .inr (by omega)⟩
  exact (ws_ret (ev_callf (f21 M) rfl (ea_cons (ev_ix (fun _ _ => rfl) (ev_var 0 rfl (.inl rfl) rfl (ev_int ⟨_, _, rfl, rfl, (ea_cons (ev_ix (fun _ _ => rfl) (ev_var 0 rfl (.inl rfl) rfl (ev_int ⟨_, _, rfl, rfl, (ea_nil ⟨(_, _), rfl, p1, rfl⟩)⟩))))⟩))))))
theorem sg45 : Sig d45 "crossing" ["section", "lower", "apart", "share"] ["section", "lower"] := ⟨memN 30, rfl, memF 30, rfl, rfl, ⟨rfl, rfl, rfl, by decide +kernel, rfl, by decide +kernel, by decide +kernel⟩, fun _ _ _ _ _ _ us hl => match us, hl with | [_, _], _ => rfl⟩
theorem f45 (M : Md K mg) : Fn P w K mg base "crossing" 6 ["section", "lower"] (Pm K (α := Sec × Sec) (fun | (a, b) => [secS a, secS b]) (fun | (a, b) => Sok a ∧ Sok b ∧ a.2.2.1 / a.2.1 < b.2.2.1 / b.2.1) (fun | (a, b) => fun r => r = .tup [.q (crs a b), .q (ht a (crs a b))])) := by
  refine mk M sg45 (fun _ => rfl) (fun z hz => noO2 rfl rfl) fun s ⟨u, l⟩ hg => ?_
  obtain ⟨ku, kl, hs⟩ := (show Sok u ∧ Sok l ∧ u.2.2.1 / u.2.1 < l.2.2.1 / l.2.1 from hg)
  have n1 := ku.bn.div ku.bu
  have n2 := kl.bn.div kl.bu
  have s1 := ku.bd.div ku.bu
  have s2 := kl.bd.div kl.bu
  have e1 := n1.sub n2
  have e2 := s2.sub s1
  have e3 := e1.div e2
  have p1 : So u.2.2.2 u.2.1 := ⟨Rat.ne_of_gt ku.u0, _, _, ku.bn, ku.bu, by omega, .inr (by omega)⟩
  have p3 : So l.2.2.2 l.2.1 := ⟨Rat.ne_of_gt kl.u0, _, _, kl.bn, kl.bu, by omega, .inr (by omega)⟩
  have p4 : Sa (u.2.2.2 / u.2.1) (l.2.2.2 / l.2.1) := ⟨_, _, n1, n2, by omega, .inl (by omega)⟩
  have p5 : Sa (l.2.2.1 / l.2.1) (u.2.2.1 / u.2.1) := ⟨_, _, s2, s1, by omega, .inl (by omega)⟩
  have p6 : So (u.2.2.2 / u.2.1 - l.2.2.2 / l.2.1) (l.2.2.1 / l.2.1 - u.2.2.1 / u.2.1) := ⟨sub_ne hs, _, _, e1, e2, by omega, .inl (by omega)⟩
  have p7 : Sok u ∧ ∃ n, Bz n (crs u l) ∧ n ≤ 250000 := ⟨ku, _, e3, by omega⟩
  refine (ws_set 2 rfl (.inl rfl) (ev_callf (f19 M) rfl (ea_cons (ev_callf (f21 M) rfl (ea_cons (ev_ix (fun _ _ => rfl) (ev_var 0 rfl (.inl rfl) rfl (ev_int ⟨_, _, rfl, rfl, (ea_cons (ev_ix (fun _ _ => rfl) (ev_var 0 rfl (.inl rfl) rfl (ev_int ⟨_, _, rfl, rfl, (ea_nil ⟨(_, _), rfl, p1, (ea_cons (ev_callf (f21 M) rfl (ea_cons (ev_ix (fun _ _ => rfl) (ev_var 1 rfl (.inl rfl) rfl (ev_int ⟨_, _, rfl, rfl, (ea_cons (ev_ix (fun _ _ => rfl) (ev_var 1 rfl (.inl rfl) rfl (ev_int ⟨_, _, rfl, rfl, (ea_nil ⟨(_, _), rfl, p3, (ea_nil ⟨(_, _), rfl, p4, ⟨.inl rfl, ?_⟩⟩)⟩)⟩))))⟩))))))⟩)⟩))))⟩))))))))
  refine (ws_set 3 rfl (.inl rfl) (ev_callf (f21 M) rfl (ea_cons (ev_var 2 rfl (.inl rfl) rfl (ea_cons (ev_callf (f19 M) rfl (ea_cons (ev_callf (f44 M) rfl (ea_cons (ev_var 1 rfl (.inl rfl) rfl (ea_nil ⟨_, rfl, kl, (ea_cons (ev_callf (f44 M) rfl (ea_cons (ev_var 0 rfl (.inl rfl) rfl (ea_nil ⟨_, rfl, ku, (ea_nil ⟨(_, _), rfl, p5, (ea_nil ⟨(_, _), rfl, p6, ⟨.inl rfl, ?_⟩⟩)⟩)⟩)))))⟩)))))))))))
  exact (ws_ret (ev_tup (ea_cons (ev_var 3 rfl (.inl rfl) rfl (ea_cons (ev_callf (f27 M) rfl (ea_cons (ev_var 0 rfl (.inl rfl) rfl (ea_cons (ev_var 3 rfl (.inl rfl) rfl (ea_nil ⟨(_, _), rfl, p7, (ea_nil ⟨by simp [sizeLine_eq], rfl⟩)⟩)))))))))))
end
end K39
end
section
set_option Elab.async false
set_option linter.all false
set_option maxRecDepth 100000
set_option maxHeartbeats 4000000
namespace K39
open PySem PySem.Spec PyProof.Rows L2
def Tk4 (l : List Rat) : Prop := l.length ≤ 4 ∧ ∀ r ∈ l, Bz 800 r
theorem Tk4.step {l : List Rat} (h : Tk4 l) {i : Nat} {x : Rat} (e : l[i]? = some x) : Sa (tot (l.take i)) x := by
  have b := bz_tot (b := 800) (l := l.take i) fun r hr => h.2 r (List.mem_of_mem_take hr)
  have hl : (l.take i).length ≤ 4 := Nat.le_trans (by rw [List.length_take]; omega) h.1
  have b2 : Bz 3205 (tot (l.take i)) := b.mono (by omega)
  exact ⟨_, _, b2, h.2 x (List.mem_of_getElem? e), by omega, .inl (by omega)⟩
section
variable {P : Program} {w : World} {K : PySem.W.Frag} {mg : Str → Option Value} {base : Heap}
theorem sg22 : Sig d22 "total" ["fractions", "found", "each"] ["fractions"] := ⟨memN 11, rfl, memF 11, rfl, rfl, ⟨rfl, rfl, rfl, by decide +kernel, rfl, by decide +kernel, by decide +kernel⟩, fun _ _ _ _ _ _ us hl => match us, hl with | [_], _ => rfl⟩
theorem f22 (M : Md K mg) : Fn P w K mg base "total" 5 ["fractions"] (Pm K (fun l : List Rat => [.lst (l.map .q)]) Tk4 (fun l r => r = .q (tot l))) := by
  refine mk M sg22 (fun _ => rfl) (fun z hz => noO1 rfl) fun s l hg => ?_
  refine (ws_set 1 rfl (.inl rfl) (ev_zero M rfl ⟨.inl rfl, ?_⟩))
  refine ws_forL (is := [2]) (bt := false) (.name rfl (.inl rfl)) (noOwn_of rfl) (ev_var 0 rfl (.inl rfl) rfl ?_)
  refine ⟨l.map .q, rfl, fun i ρ' => ∃ y, ρ' = [some (.lst (l.map .q)), some (.q (tot (l.take i))), y], ⟨_, rfl⟩, fun i z ρ' hz ⟨y, hρ⟩ => ?_, fun ρ' ⟨y, hρ⟩ => ?_⟩
  · subst hρ
    rw [List.getElem?_map] at hz
    cases q : l[i]? with
    | none => rw [q] at hz; cases hz
    | some x =>
      rw [q] at hz
      cases hz
      refine ⟨_, rfl, rfl, by simp [Sv.isL], ?_⟩
      have p := Tk4.step hg q
      refine (ws_set 1 rfl (.inl rfl) (ev_callf (f18 M) rfl (ea_cons (ev_var 1 rfl (.inl rfl) rfl (ea_cons (ev_var 2 rfl (.inl rfl) rfl (ea_nil ⟨(_, _), rfl, p, ⟨.inl rfl, ?_⟩⟩)))))))
      refine (ws_nil ?_)
      exact ⟨some (.q x), by rw [tot_take q]; rfl⟩
  · subst hρ
    rw [List.length_map, List.take_length]
    exact (ws_ret (ev_var 1 rfl (.inl rfl) rfl rfl))
theorem sg81 : Sig d81 "_law_sum" ["_law_some", "_law_found", "_law_each"] ["_law_some"] := ⟨memN 60, rfl, memF 60, rfl, rfl, ⟨rfl, rfl, rfl, by decide +kernel, rfl, by decide +kernel, by decide +kernel⟩, fun _ _ _ _ _ _ us hl => match us, hl with | [_], _ => rfl⟩
theorem f81 (M : Md K mg) : Fn P w K mg base "_law_sum" 4 ["_law_some"] (Pm K (fun l : List Rat => [.lst (l.map .q)]) Tk4 (fun l r => r = .q (tot l))) := by
  refine mk M sg81 (fun _ => rfl) (fun z hz => noO1 rfl) fun s l hg => ?_
  refine (ws_set 1 rfl (.inl rfl) (ev_tupq (ea_cons (ev_int (ea_cons (ev_int (ea_nil ⟨(0 : Rat), rfl, ⟨.inl rfl, ?_⟩⟩)))))))
  refine ws_forL (is := [2]) (bt := false) (.name rfl (.inl rfl)) (noOwn_of rfl) (ev_var 0 rfl (.inl rfl) rfl ?_)
  refine ⟨l.map .q, rfl, fun i ρ' => ∃ y, ρ' = [some (.lst (l.map .q)), some (.q (tot (l.take i))), y], ⟨_, rfl⟩, fun i z ρ' hz ⟨y, hρ⟩ => ?_, fun ρ' ⟨y, hρ⟩ => ?_⟩
  · subst hρ
    rw [List.getElem?_map] at hz
    cases q : l[i]? with
    | none => rw [q] at hz; cases hz
    | some x =>
      rw [q] at hz
      cases hz
      refine ⟨_, rfl, rfl, by simp [Sv.isL], ?_⟩
      have p := Tk4.step hg q
      refine (ws_set 1 rfl (.inl rfl) (ev_callf (f76 M) rfl (ea_cons (ev_var 1 rfl (.inl rfl) rfl (ea_cons (ev_var 2 rfl (.inl rfl) rfl (ea_nil ⟨(_, _), rfl, p, ⟨.inl rfl, ?_⟩⟩)))))))
      refine (ws_nil ?_)
      exact ⟨some (.q x), by rw [tot_take q]; rfl⟩
  · subst hρ
    rw [List.length_map, List.take_length]
    exact (ws_ret (ev_var 1 rfl (.inl rfl) rfl rfl))
theorem sg37 : Sig d37 "amount_of" ["feeds", "amount", "share", "part"] ["feeds"] := ⟨memN 22, rfl, memF 22, rfl, rfl, ⟨rfl, rfl, rfl, by decide +kernel, rfl, by decide +kernel, by decide +kernel⟩, fun _ _ _ _ _ _ us hl => match us, hl with | [_], _ => rfl⟩
theorem f37 (M : Md K mg) : Fn P w K mg base "amount_of" 6 ["feeds"] (Pm K (fun fs : List Fd => [.tup (fs.map fdS)]) Fso (fun fs r => r = .q (amt fs))) := by
  refine mk M sg37 (fun _ => rfl) (fun z hz => noO1 rfl) fun s fs hg => ?_
  refine ws_ret (ev_callf (f22 M) rfl (ea_one (ev_lcm fs fdS (fun f => .q f.1) (own := [("amount", 1), ("share", 2), ("part", 3)]) (is := [1, 2, 3]) (bt := true) rfl rfl (.tup (.cons rfl (.inl rfl) (.cons rfl (.inl rfl) (.cons rfl (.inl rfl) .nil)))) (ev_var 0 rfl (.inl rfl) rfl ⟨rfl, ?_, fun _ _ => rfl, fun f hf => ⟨_, rfl, rfl, ?_⟩, fs.map (fun f => f.1), ?_, ?_, rfl⟩))))
  · have := hg.len; omega
  · exact (ev_var 1 rfl (.inl rfl) rfl rfl)
  · rw [List.map_map]; rfl
  · exact ⟨by rw [List.length_map]; have := hg.len; omega, fun r hr => by
      obtain ⟨f, hf, rfl⟩ := List.mem_map.mp hr
      exact (hg.ok f hf).a.mono (by omega)⟩
theorem sg38 : Sig d38 "light_of" ["feeds", "amount", "share", "part"] ["feeds"] := ⟨memN 23, rfl, memF 23, rfl, rfl, ⟨rfl, rfl, rfl, by decide +kernel, rfl, by decide +kernel, by decide +kernel⟩, fun _ _ _ _ _ _ us hl => match us, hl with | [_], _ => rfl⟩
theorem f38 (M : Md K mg) : Fn P w K mg base "light_of" 6 ["feeds"] (Pm K (fun fs : List Fd => [.tup (fs.map fdS)]) Fso (fun fs r => r = .q (lgt fs))) := by
  refine mk M sg38 (fun _ => rfl) (fun z hz => noO1 rfl) fun s fs hg => ?_
  refine ws_ret (ev_callf (f22 M) rfl (ea_one (ev_lcm fs fdS (fun f => .q (f.1 * f.2.1)) (own := [("amount", 1), ("share", 2), ("part", 3)]) (is := [1, 2, 3]) (bt := true) rfl rfl (.tup (.cons rfl (.inl rfl) (.cons rfl (.inl rfl) (.cons rfl (.inl rfl) .nil)))) (ev_var 0 rfl (.inl rfl) rfl ⟨rfl, ?_, fun _ _ => rfl, fun f hf => ⟨_, rfl, rfl, ?_⟩, fs.map (fun f => f.1 * f.2.1), ?_, ?_, rfl⟩))))
  · have := hg.len; omega
  · have p : St f.1 f.2.1 := ⟨_, _, (hg.ok f hf).a, (hg.ok f hf).s, by omega, .inl (by omega)⟩
    exact (ev_callf (f20 M) rfl (ea_cons (ev_var 1 rfl (.inl rfl) rfl (ea_cons (ev_var 2 rfl (.inl rfl) rfl (ea_nil ⟨(_, _), rfl, p, rfl⟩))))))
  · rw [List.map_map]; rfl
  · exact ⟨by rw [List.length_map]; have := hg.len; omega, fun r hr => by
      obtain ⟨f, hf, rfl⟩ := List.mem_map.mp hr
      exact ((hg.ok f hf).a.mul (hg.ok f hf).s).mono (by omega)⟩
theorem sg39 : Sig d39 "wet_of" ["feeds", "amount", "share", "part"] ["feeds"] := ⟨memN 24, rfl, memF 24, rfl, rfl, ⟨rfl, rfl, rfl, by decide +kernel, rfl, by decide +kernel, by decide +kernel⟩, fun _ _ _ _ _ _ us hl => match us, hl with | [_], _ => rfl⟩
theorem f39 (M : Md K mg) : Fn P w K mg base "wet_of" 6 ["feeds"] (Pm K (fun fs : List Fd => [.tup (fs.map fdS)]) Fso (fun fs r => r = .q (wet fs))) := by
  refine mk M sg39 (fun _ => rfl) (fun z hz => noO1 rfl) fun s fs hg => ?_
  refine ws_ret (ev_callf (f22 M) rfl (ea_one (ev_lcm fs fdS (fun f => .q (f.1 * f.2.2)) (own := [("amount", 1), ("share", 2), ("part", 3)]) (is := [1, 2, 3]) (bt := true) rfl rfl (.tup (.cons rfl (.inl rfl) (.cons rfl (.inl rfl) (.cons rfl (.inl rfl) .nil)))) (ev_var 0 rfl (.inl rfl) rfl ⟨rfl, ?_, fun _ _ => rfl, fun f hf => ⟨_, rfl, rfl, ?_⟩, fs.map (fun f => f.1 * f.2.2), ?_, ?_, rfl⟩))))
  · have := hg.len; omega
  · have p : St f.1 f.2.2 := ⟨_, _, (hg.ok f hf).a, (hg.ok f hf).q, by omega, .inl (by omega)⟩
    exact (ev_callf (f20 M) rfl (ea_cons (ev_var 1 rfl (.inl rfl) rfl (ea_cons (ev_var 3 rfl (.inl rfl) rfl (ea_nil ⟨(_, _), rfl, p, rfl⟩))))))
  · rw [List.map_map]; rfl
  · exact ⟨by rw [List.length_map]; have := hg.len; omega, fun r hr => by
      obtain ⟨f, hf, rfl⟩ := List.mem_map.mp hr
      exact ((hg.ok f hf).a.mul (hg.ok f hf).q).mono (by omega)⟩
theorem sg40 : Sig d40 "dry_of" ["feeds"] ["feeds"] := ⟨memN 25, rfl, memF 25, rfl, rfl, ⟨rfl, rfl, rfl, by decide +kernel, rfl, by decide +kernel, by decide +kernel⟩, fun _ _ _ _ _ _ us hl => match us, hl with | [_], _ => rfl⟩
theorem f40 (M : Md K mg) : Fn P w K mg base "dry_of" 7 ["feeds"] (Pm K (fun fs : List Fd => [.tup (fs.map fdS)]) Fso (fun fs r => r = .q (dry fs))) := by
  refine mk M sg40 (fun _ => rfl) (fun z hz => noO1 rfl) fun s fs hg => ?_
  have p : Sa (amt fs) (wet fs) := ⟨_, _, hg.amt, hg.wet, by omega, .inl (by omega)⟩
  exact (ws_ret (ev_callf (f19 M) rfl (ea_cons (ev_callf (f37 M) rfl (ea_cons (ev_var 0 rfl (.inl rfl) rfl (ea_nil ⟨_, rfl, hg, (ea_cons (ev_callf (f39 M) rfl (ea_cons (ev_var 0 rfl (.inl rfl) rfl (ea_nil ⟨_, rfl, hg, (ea_nil ⟨(_, _), rfl, p, rfl⟩)⟩)))))⟩)))))))
end
end K39
end
section
set_option Elab.async false
set_option linter.all false
set_option maxRecDepth 100000
set_option maxHeartbeats 4000000
namespace K39
open PySem PySem.Spec PyProof.Rows L2
def rise (fs : List Fd) (D R : Rat) : Rat := (R + 1) * D - dry fs
def Ris (fs : List Fd) (D R : Rat) : Prop := Fso fs ∧ Bz 145 D ∧ Bz 600 R
theorem noOl {l : List Sv} (h : l.all (fun r => !r.isO) = true) : noO l := fun r hr => by
  have := List.all_eq_true.mp h r hr
  simpa using this
theorem num_pos {r : Rat} : 0 < r.num ↔ 0 < r := by
  have := Rat.lt_iff 0 r
  simpa using this.symm
section
variable {P : Program} {w : World} {K : PySem.W.Frag} {mg : Str → Option Value} {base : Heap}
theorem sg41 : Sig d41 "rising" ["feeds", "drawn", "reflux"] ["feeds", "drawn", "reflux"] := ⟨memN 26, rfl, memF 26, rfl, rfl, ⟨rfl, rfl, rfl, by decide +kernel, rfl, by decide +kernel, by decide +kernel⟩, fun _ _ _ _ _ _ us hl => match us, hl with | [_, _, _], _ => rfl⟩
theorem f41 (M : Md K mg) : Fn P w K mg base "rising" 8 ["feeds", "drawn", "reflux"] (Pm K (α := List Fd × Rat × Rat) (fun | (fs, D, R) => [.tup (fs.map fdS), .q D, .q R]) (fun | (fs, D, R) => Ris fs D R) (fun | (fs, D, R) => fun r => r = .q (rise fs D R))) := by
  refine mk M sg41 (fun _ => rfl) (fun z hz => noOl rfl) fun s ⟨fs, D, R⟩ hg => ?_
  obtain ⟨hf, hD, hR⟩ := (show Ris fs D R from hg)
  have b1 := hR.add bz1
  have b2 := b1.mul hD
  have p1 : Sa R 1 := ⟨_, _, hR, bz1, by omega, .inr (by omega)⟩
  have p3 : St (R + 1) D := ⟨_, _, b1, hD, by omega, .inl (by omega)⟩
  have p4 : Sa ((R + 1) * D) (dry fs) := ⟨_, _, b2, hf.dry, by omega, .inr (by omega)⟩
  exact (ws_ret (ev_callf (f19 M) rfl (ea_cons (ev_callf (f20 M) rfl (ea_cons (ev_callf (f18 M) rfl (ea_cons (ev_var 2 rfl (.inl rfl) rfl (ea_cons (ev_one M rfl (ea_nil ⟨(_, _), rfl, p1, (ea_cons (ev_var 1 rfl (.inl rfl) rfl (ea_nil ⟨(_, _), rfl, p3, (ea_cons (ev_callf (f40 M) rfl (ea_cons (ev_var 0 rfl (.inl rfl) rfl (ea_nil ⟨_, rfl, hf, (ea_nil ⟨(_, _), rfl, p4, rfl⟩)⟩)))))⟩)))⟩)))))))))))
theorem sg42 : Sig d42 "flows" ["feeds", "drawn", "reflux"] ["feeds", "drawn", "reflux"] := ⟨memN 27, rfl, memF 27, rfl, rfl, ⟨rfl, rfl, rfl, by decide +kernel, rfl, by decide +kernel, by decide +kernel⟩, fun _ _ _ _ _ _ us hl => match us, hl with | [_, _, _], _ => rfl⟩
theorem f42 (M : Md K mg) : Fn P w K mg base "flows" 9 ["feeds", "drawn", "reflux"] (Pm K (α := List Fd × Rat × Rat) (fun | (fs, D, R) => [.tup (fs.map fdS), .q D, .q R]) (fun | (fs, D, R) => Ris fs D R) (fun | (fs, D, R) => fun r => r = .bl (decide (0 < rise fs D R)))) := by
  refine mk M sg42 (fun _ => rfl) (fun z hz => noOl rfl) fun s ⟨fs, D, R⟩ hg => ?_
  exact (ws_ret (ev_gt (ev_ix (fun _ _ => rfl) (ev_callf (f41 M) rfl (ea_cons (ev_var 0 rfl (.inl rfl) rfl (ea_cons (ev_var 1 rfl (.inl rfl) rfl (ea_cons (ev_var 2 rfl (.inl rfl) rfl (ea_nil ⟨(_, _, _), rfl, hg, (ev_int ⟨_, _, rfl, rfl, ⟨_, rfl, (ev_int ⟨_, rfl, congrArg Sv.bl (decide_eq_decide.mpr num_pos)⟩)⟩⟩)⟩)))))))))))
theorem sg43 : Sig d43 "sections_by" ["volatility", "feeds", "drawn", "reflux", "top", "found", "many", "above", "down", "net"] ["volatility", "feeds", "drawn", "reflux", "top"] := ⟨memN 28, rfl, memF 28, rfl, rfl, ⟨rfl, rfl, rfl, by decide +kernel, rfl, by decide +kernel, by decide +kernel⟩, fun _ _ _ _ _ _ us hl => match us, hl with | [_, _, _, _, _], _ => rfl⟩
theorem f43 (M : Md K mg) : Fn P w K mg base "sections_by" 9 ["volatility", "feeds", "drawn", "reflux", "top"] (Pm K (α := Col × Rat) (fun | (c, R) => [.q c.a, .tup (c.fs.map fdS), .q c.D, .q R, .q c.top]) (fun | (c, R) => Cok c ∧ Bz 600 R) (fun | (c, R) => fun r => r = .tup ((secs c R).map secS))) := by
  refine mk M sg43 (fun _ => rfl) (fun z hz => noOl rfl) fun s ⟨c, R⟩ hg => ?_
  obtain ⟨hc, hR⟩ := (show Cok c ∧ Bz 600 R from hg)
  refine (ws_new 5 rfl (.inl rfl) ?_)
  refine ws_forR1 6 rfl (M.fr _ (memF 106)) rfl (.inl rfl) (ev_add (ev_len rfl (M.fr _ (memF 104)) (ev_var 1 rfl (.inl rfl) rfl ⟨_, rfl, ⟨_, rfl, (ev_int ⟨_, rfl, ?_⟩)⟩⟩)))
  have h3 := hc.fso.len
  refine ⟨c.fs.length + 1, by simp, by omega, fun i ρ' => ∃ L y1 y2 y3 y4, ρ' = [some (.q c.a), some (.tup (c.fs.map fdS)), some (.q c.D), some (.q R), some (.q c.top), some (.own L), y1, y2, y3, y4] ∧ L = ((List.range i).map (sec c R)).map secS, ⟨_, _, _, _, _, rfl, rfl⟩, fun i ρ' hi ⟨L, y1, y2, y3, y4, hρ, hL⟩ => ?_, fun ρ' ⟨L, y1, y2, y3, y4, hρ, hL⟩ => ?_⟩
  · subst hρ hL
    refine (ws_set 7 rfl (.inl rfl) (ev_to (ev_var 1 rfl (.inl rfl) rfl ⟨_, rfl, rfl, (ev_var 6 rfl (.inl rfl) rfl ⟨_, rfl, ⟨.inl rfl, ?_⟩⟩)⟩)))
    rw [← List.map_take]
    have hf := hc.fso.take i
    have b1 := hR.mul hc.bD
    have b2 := hc.bD.mul hc.btop
    have p1 : St R c.D := ⟨_, _, hR, hc.bD, by omega, .inl (by omega)⟩
    have p2 : Sa (R * c.D) (wet (c.fs.take i)) := ⟨_, _, b1, hf.wet, by omega, .inl (by omega)⟩
    have p3 : St c.D c.top := ⟨_, _, hc.bD, hc.btop, by omega, .inl (by omega)⟩
    have p4 : Sa (c.D * c.top) (lgt (c.fs.take i)) := ⟨_, _, b2, hf.lgt, by omega, .inl (by omega)⟩
    have p5 : Ris (c.fs.take i) c.D R := ⟨hf, hc.bD, hR⟩
    refine (ws_set 8 rfl (.inl rfl) (ev_callf (f18 M) rfl (ea_cons (ev_callf (f20 M) rfl (ea_cons (ev_var 3 rfl (.inl rfl) rfl (ea_cons (ev_var 2 rfl (.inl rfl) rfl (ea_nil ⟨(_, _), rfl, p1, (ea_cons (ev_callf (f39 M) rfl (ea_cons (ev_var 7 rfl (.inl rfl) rfl (ea_nil ⟨_, rfl, hf, (ea_nil ⟨(_, _), rfl, p2, ⟨.inl rfl, ?_⟩⟩)⟩)))))⟩)))))))))
    refine (ws_set 9 rfl (.inl rfl) (ev_callf (f19 M) rfl (ea_cons (ev_callf (f20 M) rfl (ea_cons (ev_var 2 rfl (.inl rfl) rfl (ea_cons (ev_var 4 rfl (.inl rfl) rfl (ea_nil ⟨(_, _), rfl, p3, (ea_cons (ev_callf (f38 M) rfl (ea_cons (ev_var 7 rfl (.inl rfl) rfl (ea_nil ⟨_, rfl, hf, (ea_nil ⟨(_, _), rfl, p4, ⟨.inl rfl, ?_⟩⟩)⟩)))))⟩)))))))))
    refine (ws_app 5 rfl (.inl rfl) rfl (flat_secs _) (by simp; omega) (ev_tup (ea_cons (ev_var 0 rfl (.inl rfl) rfl (ea_cons (ev_callf (f41 M) rfl (ea_cons (ev_var 7 rfl (.inl rfl) rfl (ea_cons (ev_var 2 rfl (.inl rfl) rfl (ea_cons (ev_var 3 rfl (.inl rfl) rfl (ea_nil ⟨(_, _, _), rfl, p5, (ea_cons (ev_var 8 rfl (.inl rfl) rfl (ea_cons (ev_var 9 rfl (.inl rfl) rfl (ea_nil ⟨by simp [sizeLine_eq], ⟨rfl, rfl, ?_⟩⟩)))))⟩)))))))))))) (hfr_of (by simp [okO_s, Sv.fl, Sv.flat, Sv.flatL, flat_fds, flat_secs, -List.map_map, -List.map_take])))
    refine (ws_nil ?_)
    exact ⟨_, _, _, _, _, rfl, by rw [List.range_succ, List.map_append, List.map_append]; rfl⟩
  · subst hρ hL
    exact (ws_ret (ev_tuple rfl (M.fr _ (memF 103)) (ev_var 5 rfl (.inl rfl) rfl (.inl ⟨_, rfl, rfl⟩))))
theorem sg51 : Sig d51 "products_of" ["column", "volatility", "feeds", "top", "foot", "amount", "drawn"] ["column"] := ⟨memN 35, rfl, memF 35, rfl, rfl, ⟨rfl, rfl, rfl, by decide +kernel, rfl, by decide +kernel, by decide +kernel⟩, fun _ _ _ _ _ _ us hl => match us, hl with | [_], _ => rfl⟩
theorem f51 (M : Md K mg) : Fn P w K mg base "products_of" 7 ["column"] (Pm K (fun c : Col => [c.sv]) Cok (fun c r => r = .tup [.q c.D, .q (amt c.fs - c.D)])) := by
  refine mk M sg51 (fun _ => rfl) (fun z hz => noO1 rfl) fun s c hc => ?_
  have hf := hc.fso
  have b1 := hc.bfoot.mul hf.amt
  have b2 := hf.lgt.sub b1
  have p1 : St c.foot (amt c.fs) := ⟨_, _, hc.bfoot, hf.amt, by omega, .inl (by omega)⟩
  have p2 : Sa (lgt c.fs) (c.foot * amt c.fs) := ⟨_, _, hf.lgt, b1, by omega, .inl (by omega)⟩
  have p3 : Sa c.top c.foot := ⟨_, _, hc.btop, hc.bfoot, by omega, .inl (by omega)⟩
  have p4 : So (lgt c.fs - c.foot * amt c.fs) (c.top - c.foot) := ⟨sub_ne hc.ft, _, _, b2, hc.tf, by omega, .inl (by omega)⟩
  have p5 : Sa (amt c.fs) c.D := ⟨_, _, hf.amt, hc.bD, by omega, .inl (by omega)⟩
  refine (ws_tup (is := [1, 2, 3, 4]) (.cons rfl (.inl rfl) (.cons rfl (.inl rfl) (.cons rfl (.inl rfl) (.cons rfl (.inl rfl) .nil)))) (ev_var 0 rfl (.inl rfl) rfl ⟨_, rfl, rfl, by simp [Sv.isL], ?_⟩))
  refine (ws_set 5 rfl (.inl rfl) (ev_callf (f37 M) rfl (ea_cons (ev_var 2 rfl (.inl rfl) rfl (ea_nil ⟨_, rfl, hf, ⟨.inl rfl, ?_⟩⟩)))))
  refine (ws_set 6 rfl (.inl rfl) (ev_callf (f21 M) rfl (ea_cons (ev_callf (f19 M) rfl (ea_cons (ev_callf (f38 M) rfl (ea_cons (ev_var 2 rfl (.inl rfl) rfl (ea_nil ⟨_, rfl, hf, (ea_cons (ev_callf (f20 M) rfl (ea_cons (ev_var 4 rfl (.inl rfl) rfl (ea_cons (ev_var 5 rfl (.inl rfl) rfl (ea_nil ⟨(_, _), rfl, p1, (ea_nil ⟨(_, _), rfl, p2, (ea_cons (ev_callf (f19 M) rfl (ea_cons (ev_var 3 rfl (.inl rfl) rfl (ea_cons (ev_var 4 rfl (.inl rfl) rfl (ea_nil ⟨(_, _), rfl, p3, (ea_nil ⟨(_, _), rfl, p4, ⟨.inl rfl, ?_⟩⟩)⟩)))))))⟩)⟩)))))))⟩)))))))))
  exact (ws_ret (ev_tup (ea_cons (ev_var 6 rfl (.inl rfl) rfl (ea_cons (ev_callf (f19 M) rfl (ea_cons (ev_var 5 rfl (.inl rfl) rfl (ea_cons (ev_var 6 rfl (.inl rfl) rfl (ea_nil ⟨(_, _), rfl, p5, (ea_nil ⟨by simp [sizeLine_eq], rfl⟩)⟩)))))))))))
theorem sg52 : Sig d52 "sections_of" ["column", "reflux", "volatility", "feeds", "top", "foot", "drawn"] ["column", "reflux"] := ⟨memN 36, rfl, memF 36, rfl, rfl, ⟨rfl, rfl, rfl, by decide +kernel, rfl, by decide +kernel, by decide +kernel⟩, fun _ _ _ _ _ _ us hl => match us, hl with | [_, _], _ => rfl⟩
theorem f52 (M : Md K mg) : Fn P w K mg base "sections_of" 10 ["column", "reflux"] (Pm K (α := Col × Rat) (fun | (c, R) => [c.sv, .q R]) (fun | (c, R) => Cok c ∧ Bz 600 R) (fun | (c, R) => fun r => r = if 0 < rise c.fs c.D R then .tup ((secs c R).map secS) else .non)) := by
  refine mk M sg52 (fun _ => rfl) (fun z hz => noO2 rfl rfl) fun s ⟨c, R⟩ hg => ?_
  obtain ⟨hc, hR⟩ := (show Cok c ∧ Bz 600 R from hg)
  have p1 : Ris c.fs c.D R := ⟨hc.fso, hc.bD, hR⟩
  refine (ws_tup (is := [2, 3, 4, 5]) (.cons rfl (.inl rfl) (.cons rfl (.inl rfl) (.cons rfl (.inl rfl) (.cons rfl (.inl rfl) .nil)))) (ev_var 0 rfl (.inl rfl) rfl ⟨_, rfl, rfl, by simp [Sv.isL], ?_⟩))
  refine (ws_set 6 rfl (.inl rfl) (ev_ix (fun _ _ => rfl) (ev_callf (f51 M) rfl (ea_cons (ev_var 0 rfl (.inl rfl) rfl (ea_nil ⟨_, rfl, hc, (ev_int ⟨_, _, rfl, rfl, ⟨.inl rfl, ?_⟩⟩)⟩))))))
  refine (ws_ret (ev_if (et_val (fun _ _ => rfl) (ev_callf (f42 M) rfl (ea_cons (ev_var 3 rfl (.inl rfl) rfl (ea_cons (ev_var 6 rfl (.inl rfl) rfl (ea_cons (ev_var 1 rfl (.inl rfl) rfl (ea_nil ⟨(_, _, _), rfl, p1, ⟨_, rfl, (ite_dec (fun h1 => (ev_callf (f43 M) rfl (ea_cons (ev_var 2 rfl (.inl rfl) rfl (ea_cons (ev_var 3 rfl (.inl rfl) rfl (ea_cons (ev_var 6 rfl (.inl rfl) rfl (ea_cons (ev_var 1 rfl (.inl rfl) rfl (ea_cons (ev_var 4 rfl (.inl rfl) rfl (ea_nil ⟨(c, R), rfl, ⟨hc, hR⟩, ?_⟩))))))))))))) (fun h1 => (ev_non ?_)))⟩⟩)))))))))))
  · exact (if_pos h1).symm
  · exact (if_neg h1).symm
end
end K39
end
section
set_option Elab.async false
set_option linter.all false
set_option maxRecDepth 100000
set_option maxHeartbeats 4000000
namespace K39
open PySem PySem.Spec PyProof.Rows L2
def kS (k : Kink) : Sv := .tup [.int (k.1 : Int), .int (k.2.1 : Int), .q k.2.2.1, .q k.2.2.2]
theorem flat_ks (l : List Kink) : Sv.flatL (l.map kS) = true := flatL_map _ (fun _ => rfl) l
theorem item_map {α : Type} (g : α → Sv) (d : α) {l : List α} {i : Nat} (h : i < l.length) : (Sv.tup (l.map g)).item (i : Int) = some (g (l.getD i d)) := by
  show atI (l.map g) (i : Int) = _
  unfold L2.atI ixN
  rw [if_pos (by omega), if_pos (by rw [List.length_map]; omega)]
  show (l.map g)[((i : Int)).toNat]? = _
  rw [Int.toNat_natCast, List.getElem?_map, List.getElem?_eq_getElem h, List.getD_eq_getElem?_getD, List.getElem?_eq_getElem h] <;> rfl
theorem item_sec {ss : List Sec} {i : Nat} (h : i < ss.length) : (Sv.tup (ss.map secS)).item (i : Int) = some (secS (sAt ss i)) := item_map secS _ h
section
variable {P : Program} {w : World} {K : PySem.W.Frag} {mg : Str → Option Value} {base : Heap}
theorem sg54 : Sig d54 "lowest_at" ["sections", "share", "best", "height", "index", "other"] ["sections", "share"] := ⟨memN 37, rfl, memF 37, rfl, rfl, ⟨rfl, rfl, rfl, by decide +kernel, rfl, by decide +kernel, by decide +kernel⟩, fun _ _ _ _ _ _ us hl => match us, hl with | [_, _], _ => rfl⟩
theorem f54 (M : Md K mg) : Fn P w K mg base "lowest_at" 6 ["sections", "share"] (Pm K (α := List Sec × Rat) (fun | (ss, x) => [.tup (ss.map secS), .q x]) (fun | (ss, x) => SS ss ∧ ∃ n, Bz n x ∧ n ≤ 240000) (fun | (ss, x) => fun r => r = .tup [.int ((lowG (fun i => ht (sAt ss i) x) (ss.length - 1)).1 : Int), .q (lowG (fun i => ht (sAt ss i) x) (ss.length - 1)).2])) := by
  refine mk M sg54 (fun _ => rfl) (fun z hz => noO2 rfl rfl) fun s ⟨ss, x⟩ hg => ?_
  obtain ⟨h, n, hx, hn⟩ := (show SS ss ∧ ∃ n, Bz n x ∧ n ≤ 240000 from hg)
  have hne := h.ne
  have hfew := h.few
  have it0 : (Sv.tup (ss.map secS)).item 0 = some (secS (sAt ss 0)) := item_sec (i := 0) hne
  have p0 : Sok (sAt ss 0) ∧ ∃ n, Bz n x ∧ n ≤ 250000 := ⟨h.at_ hne, n, hx, by omega⟩
  refine (ws_par2 2 3 rfl rfl (by decide) rfl rfl (fr_cons (ev_int ⟨rfl, (fr_cons (ev_callf (f27 M) rfl (ea_cons (ev_ix (fun _ _ => rfl) (ev_var 0 rfl (.inl rfl) rfl (ev_int ⟨_, _, rfl, it0, (ea_cons (ev_var 1 rfl (.inl rfl) rfl (ea_nil ⟨(_, _), rfl, p0, ⟨rfl, (fr_nil ⟨rfl, ?_⟩)⟩⟩)))⟩))))))⟩)) (fun env hk hn => by unfold swappedStores Env.blockKind Env.kindOf; rw [hk, hn]; rfl))
  refine ws_forR2 4 rfl (M.fr _ (memF 106)) rfl (.inl rfl) (ev_int ?_)
  refine ⟨1, rfl, by omega, (ev_len rfl (M.fr _ (memF 104)) (ev_var 0 rfl (.inl rfl) rfl ⟨_, rfl, ?_⟩))⟩
  refine ⟨ss.length, by simp, by omega, fun i ρ' => ∃ (p : Nat × Rat) (y1 y2 : Option Sv), ρ' = [some (.tup (ss.map secS)), some (.q x), some (.int (p.1 : Int)), some (.q p.2), y1, y2] ∧ p = lowG (fun i => ht (sAt ss i) x) i, ⟨(0, ht (sAt ss 0) x), _, _, rfl, rfl⟩, fun i ρ' hi ⟨p, y1, y2, hρ, hp⟩ => ?_, fun ρ' ⟨p, y1, y2, hρ, hp⟩ => ?_⟩
  · subst hρ
    have hi2 : 1 + i < ss.length := by omega
    have it := item_sec hi2
    have hxx : Sok (sAt ss (1 + i)) ∧ ∃ n, Bz n x ∧ n ≤ 250000 := ⟨h.at_ hi2, n, hx, by omega⟩
    have bp : ∀ j, j < ss.length → Bz (1779 + n) (lowG (fun i => ht (sAt ss i) x) j).2 := fun j => by
      induction j with
      | zero => intro hj; exact bht (h.at_ hj) hx
      | succ j ih =>
        intro hj
        unfold lowG
        split
        · exact bht (h.at_ hj) hx
        · exact ih (by omega)
    have q : Sb (ht (sAt ss (1 + i)) x) p.2 := ⟨_, _, bht (h.at_ hi2) hx, by rw [hp]; exact bp i (by omega), by omega⟩
    refine (ws_set 5 rfl (.inl rfl) (ev_callf (f27 M) rfl (ea_cons (ev_ix (fun _ _ => rfl) (ev_var 0 rfl (.inl rfl) rfl (ev_var 4 rfl (.inl rfl) rfl ⟨_, _, rfl, it, (ea_cons (ev_var 1 rfl (.inl rfl) rfl (ea_nil ⟨(_, _), rfl, hxx, ⟨.inl rfl, ?_⟩⟩)))⟩))))))
    refine (ws_if (et_val (fun _ _ => rfl) (ev_callf (f23 M) rfl (ea_cons (ev_var 5 rfl (.inl rfl) rfl (ea_cons (ev_var 3 rfl (.inl rfl) rfl (ea_nil ⟨(_, _), rfl, q, ⟨_, rfl, (ite_dec (fun h1 => (ws_par2 2 3 rfl rfl (by decide) rfl rfl (fr_cons (ev_var 4 rfl (.inl rfl) rfl ⟨rfl, (fr_cons (ev_var 5 rfl (.inl rfl) rfl ⟨rfl, (fr_nil ⟨rfl, (ws_nil (ws_nil ?_))⟩)⟩))⟩)) (fun env hk hn => by unfold swappedStores Env.blockKind Env.kindOf; rw [hk, hn]; rfl))) (fun h1 => (ws_nil (ws_nil ?_))))⟩⟩))))))))
    · refine ⟨(1 + i, ht (sAt ss (1 + i)) x), _, _, rfl, ?_⟩
      have h1 : ht (sAt ss (1 + i)) x < p.2 := h1
      rw [lowG, ← hp, Nat.add_comm i 1, if_pos h1]
    · refine ⟨p, _, _, rfl, ?_⟩
      have h1 : ¬ ht (sAt ss (1 + i)) x < p.2 := h1
      rw [lowG, ← hp, Nat.add_comm i 1, if_neg h1]
  · subst hρ hp
    exact (ws_ret (ev_tup (ea_cons (ev_var 2 rfl (.inl rfl) rfl (ea_cons (ev_var 3 rfl (.inl rfl) rfl (ea_nil ⟨by simp [sizeLine_eq], rfl⟩)))))))
theorem sg56 : Sig d56 "is_free" ["volatility", "kink"] ["volatility", "kink"] := ⟨memN 39, rfl, memF 39, rfl, rfl, ⟨rfl, rfl, rfl, by decide +kernel, rfl, by decide +kernel, by decide +kernel⟩, fun _ _ _ _ _ _ us hl => match us, hl with | [_, _], _ => rfl⟩
theorem f56 (M : Md K mg) : Fn P w K mg base "is_free" 5 ["volatility", "kink"] (Pm K (α := Rat × Kink) (fun | (a, k) => [.q a, kS k]) (fun | (a, k) => (Sx a k.2.2.1 ∧ 0 ≤ k.2.2.1) ∧ Sb k.2.2.2 (vap a k.2.2.1)) (fun | (a, k) => fun r => r = .bl (decide (k.2.2.2 < vap a k.2.2.1)))) := by
  refine mk M sg56 (fun _ => rfl) (fun z hz => noO2 rfl rfl) fun s ⟨a, k⟩ hg => ?_
  obtain ⟨h1, h2⟩ := (show (Sx a k.2.2.1 ∧ 0 ≤ k.2.2.1) ∧ Sb k.2.2.2 (vap a k.2.2.1) from hg)
  exact (ws_ret (ev_callf (f23 M) rfl (ea_cons (ev_ix (fun _ _ => rfl) (ev_var 1 rfl (.inl rfl) rfl (ev_int ⟨_, _, rfl, rfl, (ea_cons (ev_callf (f25 M) rfl (ea_cons (ev_var 0 rfl (.inl rfl) rfl (ea_cons (ev_ix (fun _ _ => rfl) (ev_var 1 rfl (.inl rfl) rfl (ev_int ⟨_, _, rfl, rfl, (ea_nil ⟨(_, _), rfl, h1, (ea_nil ⟨(_, _), rfl, h2, rfl⟩)⟩)⟩))))))))⟩))))))
theorem sg55 : Sig d55 "kinks_of" ["sections", "found", "upper", "lower", "best", "index", "place"] ["sections"] := ⟨memN 38, rfl, memF 38, rfl, rfl, ⟨rfl, rfl, rfl, by decide +kernel, rfl, by decide +kernel, by decide +kernel⟩, fun _ _ _ _ _ _ us hl => match us, hl with | [_], _ => rfl⟩
theorem f55 (M : Md K mg) : Fn P w K mg base "kinks_of" 7 ["sections"] (Pm K (fun ss : List Sec => [.tup (ss.map secS)]) SS (fun ss r => r = .tup ((kinks ss).map kS))) := by
  refine mk M sg55 (fun _ => rfl) (fun z hz => noO1 rfl) fun s ss h => ?_
  have hne := h.ne
  have hfew := h.few
  refine (ws_par2 1 2 rfl rfl (by decide) rfl rfl (fr_new (fr_cons (ev_int ⟨rfl, (fr_nil ⟨by simp [Sv.isL], ⟨rfl, ?_⟩⟩)⟩))) (fun env hk hn => by unfold swappedStores Env.blockKind Env.kindOf; rw [hk, hn]; rfl))
  refine ws_while (fun m ρ' => ∃ (L : List (Nat × Nat)) (f u : Nat) (y1 y2 y3 y4 : Option Sv), ρ' = [some (.tup (ss.map secS)), some (.own ((L.map (mkK ss)).map kS)), some (.int (u : Int)), y1, y2, y3, y4] ∧ u < ss.length ∧ ss.length - 1 ≤ u + f ∧ L ++ kkF (crI ss) (ss.length - 1) f u = kkF (crI ss) (ss.length - 1) (ss.length - 1) 0 ∧ L.length ≤ u ∧ m = ss.length - u ∧ okO y3 = true ∧ okO y4 = true) ss.length ⟨[], ss.length - 1, 0, none, none, none, none, rfl, hne, by omega, rfl, Nat.le_refl _, rfl, rfl, rfl⟩ ?_
  rintro m ρ' ⟨L, f, u, y1, y2, y3, y4, rfl, hu, hf, hL, hLl, rfl, hy3, hy4⟩
  refine (et_lt (ev_var 2 rfl (.inl rfl) rfl ⟨_, rfl, (ev_sub (ev_len rfl (M.fr _ (memF 104)) (ev_var 0 rfl (.inl rfl) rfl ⟨_, rfl, ⟨_, rfl, (ev_int ⟨_, rfl, ⟨_, rfl, ?_⟩⟩)⟩⟩)))⟩))
  rw [List.length_map]
  refine ite_dec (fun hlt => ?_) (fun hge => ?_)
  · have hlt : u + 1 < ss.length := by omega
    have itu := item_sec hu
    have itl : (Sv.tup (ss.map secS)).item ((u : Int) + 1) = some (secS (sAt ss (u + 1))) := item_sec hlt
    have p : Sok (sAt ss u) ∧ Sok (sAt ss (u + 1)) ∧ slp (sAt ss u) < slp (sAt ss (u + 1)) := ⟨h.at_ hu, h.at_ hlt, h.up u (u + 1) (by omega) hlt⟩
    refine (ws_par2 3 4 rfl rfl (by decide) rfl rfl (fr_cons (ev_add (ev_var 2 rfl (.inl rfl) rfl ⟨_, rfl, (ev_int ⟨_, rfl, ⟨rfl, (fr_cons (ev_callf (f45 M) rfl (ea_cons (ev_ix (fun _ _ => rfl) (ev_var 0 rfl (.inl rfl) rfl (ev_var 2 rfl (.inl rfl) rfl ⟨_, _, rfl, itu, (ea_cons (ev_ix (fun _ _ => rfl) (ev_var 0 rfl (.inl rfl) rfl (ev_add (ev_var 2 rfl (.inl rfl) rfl ⟨_, rfl, (ev_int ⟨_, rfl, ⟨_, _, rfl, itl, (ea_nil ⟨(_, _), rfl, p, ⟨rfl, (fr_nil ⟨rfl, ?_⟩)⟩⟩)⟩⟩)⟩)))))⟩))))))⟩⟩)⟩))) (fun env hk hn => by unfold swappedStores Env.blockKind Env.kindOf; rw [hk, hn]; rfl))
    refine ws_forR2 5 rfl (M.fr _ (memF 106)) rfl (.inl rfl) (ev_add (ev_var 2 rfl (.inl rfl) rfl ⟨_, rfl, (ev_int ⟨_, rfl, ?_⟩)⟩))
    refine ⟨u + 2, rfl, by omega, (ev_len rfl (M.fr _ (memF 104)) (ev_var 0 rfl (.inl rfl) rfl ⟨_, rfl, ?_⟩))⟩
    refine ⟨ss.length, by simp, by omega, fun i ρ' => ∃ (l : Nat) (y3 y4 : Option Sv), ρ' = [some (.tup (ss.map secS)), some (.own ((L.map (mkK ss)).map kS)), some (.int (u : Int)), some (.int (l : Int)), some (.tup [.q (crI ss u l), .q (ht (sAt ss u) (crI ss u l))]), y3, y4] ∧ l = nxt (crI ss) u i ∧ okO y3 = true ∧ okO y4 = true, ⟨u + 1, _, _, rfl, rfl, hy3, hy4⟩, fun i ρ' hi ⟨l, y3, y4, hρ, hl, hy3, hy4⟩ => ?_, fun ρ' ⟨l, y3, y4, hρ, hl, hy3, hy4⟩ => ?_⟩
    · subst hρ
      have hi2 : u + 2 + i < ss.length := by omega
      have it2 := item_sec hi2
      have p2 : Sok (sAt ss u) ∧ Sok (sAt ss (u + 2 + i)) ∧ slp (sAt ss u) < slp (sAt ss (u + 2 + i)) := ⟨h.at_ hu, h.at_ hi2, h.up u _ (by omega) hi2⟩
      have hl2 := nxt_lt (crI ss) u i
      have p3 : Sb (crI ss u (u + 2 + i)) (crI ss u l) := ⟨_, _, h.bx hu hi2, h.bx hu (by omega), by omega⟩
      refine (ws_set 6 rfl (.inl rfl) (ev_callf (f45 M) rfl (ea_cons (ev_ix (fun _ _ => rfl) (ev_var 0 rfl (.inl rfl) rfl (ev_var 2 rfl (.inl rfl) rfl ⟨_, _, rfl, itu, (ea_cons (ev_ix (fun _ _ => rfl) (ev_var 0 rfl (.inl rfl) rfl (ev_var 5 rfl (.inl rfl) rfl ⟨_, _, rfl, it2, (ea_nil ⟨(_, _), rfl, p2, ⟨.inl rfl, ?_⟩⟩)⟩))))⟩))))))
      refine (ws_if (et_not (et_val (fun _ _ => rfl) (ev_callf (f23 M) rfl (ea_cons (ev_ix (fun _ _ => rfl) (ev_var 6 rfl (.inl rfl) rfl (ev_int ⟨_, _, rfl, rfl, (ea_cons (ev_ix (fun _ _ => rfl) (ev_var 4 rfl (.inl rfl) rfl (ev_int ⟨_, _, rfl, rfl, (ea_nil ⟨(_, _), rfl, p3, ⟨_, rfl, (ite_ndec (fun h1 => (ws_par2 3 4 rfl rfl (by decide) rfl rfl (fr_cons (ev_var 5 rfl (.inl rfl) rfl ⟨rfl, (fr_cons (ev_var 6 rfl (.inl rfl) rfl ⟨rfl, (fr_nil ⟨rfl, (ws_nil (ws_nil ?_))⟩)⟩))⟩)) (fun env hk hn => by unfold swappedStores Env.blockKind Env.kindOf; rw [hk, hn]; rfl))) (fun h1 => (ws_nil (ws_nil ?_))))⟩⟩)⟩))))⟩))))))))
      · exact ⟨u + 2 + i, _, _, rfl, by have h1 : ¬ crI ss u (u + 2 + i) < crI ss u l := h1; rw [nxt, ← hl, if_neg h1], rfl, rfl⟩
      · exact ⟨l, _, _, rfl, by have h1 : crI ss u (u + 2 + i) < crI ss u l := h1; rw [nxt, ← hl, if_pos h1], rfl, rfl⟩
    · subst hρ
      have hl2 := nxt_lt (crI ss) u (ss.length - (u + 2))
      refine (ws_app 1 rfl (.inl rfl) rfl (flat_ks _) (by simp; omega) (ev_tup (ea_cons (ev_var 2 rfl (.inl rfl) rfl (ea_cons (ev_var 3 rfl (.inl rfl) rfl (ea_cons (ev_ix (fun _ _ => rfl) (ev_var 4 rfl (.inl rfl) rfl (ev_int ⟨_, _, rfl, rfl, (ea_cons (ev_ix (fun _ _ => rfl) (ev_var 4 rfl (.inl rfl) rfl (ev_int ⟨_, _, rfl, rfl, (ea_nil ⟨by simp [sizeLine_eq], ⟨rfl, rfl, ?_⟩⟩)⟩))))⟩))))))))) (hfr_of (by simp [okO_s, hy3, hy4, Sv.fl, Sv.flat, Sv.flatL, flat_secs, flat_ks, -List.map_map])))
      refine (ws_set 2 rfl (.inl rfl) (ev_var 3 rfl (.inl rfl) rfl ⟨.inl rfl, ?_⟩))
      refine (ws_nil ?_)
      cases f with
      | zero => omega
      | succ f =>
        have e : ss.length - 1 - u - 1 = ss.length - (u + 2) := by omega
        rw [kkF, if_pos (by omega), e, ← hl] at hL
        refine ⟨ss.length - l, by omega, L ++ [(u, l)], f, l, some (.int (l : Int)), some (.tup [.q (crI ss u l), .q (ht (sAt ss u) (crI ss u l))]), y3, y4, ?_, by omega, by omega, ?_, ?_, rfl, hy3, hy4⟩
        · rw [List.map_append, List.map_append]; rfl
        · rw [← hL, List.append_assoc]; rfl
        · rw [List.length_append, List.length_singleton]; omega
  · have hge : ¬ u + 1 < ss.length := by omega
    have e : kkF (crI ss) (ss.length - 1) f u = [] := by
      cases f with
      | zero => rfl
      | succ f => rw [kkF, if_neg (by omega)]
    rw [e, List.append_nil] at hL
    refine (ws_ret (ev_tuple rfl (M.fr _ (memF 103)) (ev_var 1 rfl (.inl rfl) rfl (.inl ⟨_, rfl, ?_⟩))))
    rw [hL]
    rfl
theorem sg57 : Sig d57 "parts_with" ["column", "sections", "kink"] ["column", "sections"] := ⟨memN 40, rfl, memF 40, rfl, rfl, ⟨rfl, rfl, rfl, by decide +kernel, rfl, by decide +kernel, by decide +kernel⟩, fun _ _ _ _ _ _ us hl => match us, hl with | [_, _], _ => rfl⟩
theorem f57 (M : Md K mg) : Fn P w K mg base "parts_with" 8 ["column", "sections"] (Pm K (α := Col × List Sec) (fun | (c, ss) => [c.sv, .tup (ss.map secS)]) (fun | (c, ss) => SS ss ∧ ∀ k ∈ kinks ss, (Sx c.a k.2.2.1 ∧ 0 ≤ k.2.2.1) ∧ Sb k.2.2.2 (vap c.a k.2.2.1)) (fun | (c, ss) => fun r => r = .bl (((kinks ss).map fun k => decide (k.2.2.2 < vap c.a k.2.2.1)).all id))) := by
  refine mk M sg57 (fun _ => rfl) (fun z hz => noO2 rfl rfl) fun s ⟨c, ss⟩ hg => ?_
  obtain ⟨h, hk⟩ := (show SS ss ∧ ∀ k ∈ kinks ss, (Sx c.a k.2.2.1 ∧ 0 ≤ k.2.2.1) ∧ Sb k.2.2.2 (vap c.a k.2.2.1) from hg)
  refine ws_ret (ev_all rfl (M.fr _ (memF 105)) (ev_lcm (kinks ss) kS (fun k => .bl (decide (k.2.2.2 < vap c.a k.2.2.1))) (own := [("kink", 2)]) (is := [2]) (bt := false) rfl rfl (.name rfl (.inl rfl)) (ev_callf (f55 M) rfl (ea_one (ev_var 1 rfl (.inl rfl) rfl ⟨ss, rfl, h, rfl, ?_, fun _ _ => rfl, fun k hk' => ⟨_, rfl, rfl, ?_⟩, (kinks ss).map (fun k => decide (k.2.2.2 < vap c.a k.2.2.1)), ?_, rfl⟩)))))
  · have : ∀ f u, (kkF (crI ss) (ss.length - 1) f u).length ≤ f := fun f => by
      induction f with
      | zero => intro u; exact Nat.le_refl _
      | succ f ih =>
        intro u
        rw [kkF]
        split
        · rw [List.length_cons]; have := ih (nxt (crI ss) u (ss.length - 1 - u - 1)); omega
        · exact Nat.zero_le _
    unfold kinks
    rw [List.length_map]
    have := this (ss.length - 1) 0
    have := h.few
    omega
  · have p := hk k hk'
    exact (ev_callf (f56 M) rfl (ea_cons (ev_ix (fun _ _ => rfl) (ev_var 0 rfl (.inr (.inl rfl)) rfl (ev_int ⟨_, _, rfl, rfl, (ea_cons (ev_var 2 rfl (.inl rfl) rfl (ea_nil ⟨(_, _), rfl, p, rfl⟩)))⟩)))))
  · rw [List.map_map]; rfl
end
end K39
end
section
set_option Elab.async false
set_option linter.all false
set_option maxRecDepth 100000
set_option maxHeartbeats 4000000
namespace K39
open PySem PySem.Spec PyProof.Rows L2
theorem op_neI (X : Cx) : OpR X (compareOp .NotEq) (rI0 fun i j => .bl (!decide (i = j))) := by
  intro pins s σ H x y v u Q I rx ry ⟨i, j, e1, e2, q⟩
  subst e1 e2
  refine op_ne pins s σ H _ _ v u Q I rx ry ⟨rfl, ?_⟩
  rw [show decide (V.int i = V.int j) = decide (i = j) from by rw [dec_int]; exact Bool.beq_eq_decide_eq i j]
  exact q
section
variable {S : Sc} {ρ : Ro} {N : Ro → Prop} {R : Sv → Prop} {Φ : Sv → Prop} {Ψ : Bool → Prop} {a b : Expr} {pos : Pos} {rest : List Stmt}
theorem ev_ne (h : Ev S a ρ fun x => ∃ m, x = .int m ∧ Ev S b ρ fun y => ∃ n, y = .int n ∧ Φ (.bl (!decide (m = n)))) : Ev S (.Compare a [.NotEq] [b] pos) ρ Φ := ev_cmp (fun X => op_neI X) (nomark _) h
theorem et_ne (h : Ev S a ρ fun x => ∃ m, x = .int m ∧ Ev S b ρ fun y => ∃ n, y = .int n ∧ Ψ (!decide (m = n))) : Et S (.Compare a [.NotEq] [b] pos) ρ Ψ := et_cmp (fun X => op_neI X) (nomark _) h
end
theorem Fn.weak {P : Program} {w : World} {K : PySem.W.Frag} {mg : Str → Option Value} {base : Heap} {x : Str} {k : Nat} {ps : List Str} {α β : Type} {args : α → List Sv} {pre : α → Prop} {res : α → Sv → Prop} {args' : β → List Sv} {pre' : β → Prop} {res' : β → Sv → Prop} (g : β → α)
    (F : Fn P w K mg base x k ps (Pm K args pre res)) (h : ∀ z, pre' z → pre (g z) ∧ args' z = args (g z) ∧ ∀ r, res (g z) r → res' z r) : Fn P w K mg base x k ps (Pm K args' pre' res') := by
  obtain ⟨f, fd, h1, h2, h3, h4⟩ := F.ex
  refine ⟨f, fd, h1, h2, h3, h4.imp fun vs H Q E ⟨s, z, q0, q1, q2, q3⟩ => ?_⟩
  obtain ⟨p1, p2, p3⟩ := h z q1
  exact ⟨s, g z, q0, p1, p2 ▸ q2, fun v H' r gr sa hr => q3 v H' r gr sa (p3 r hr)⟩
section
variable {P : Program} {w : World} {K : PySem.W.Frag} {mg : Str → Option Value} {base : Heap}
theorem sg8 : Sig d8 "is_whole" ["value"] ["value"] := ⟨memN 0, rfl, memF 0, rfl, rfl, ⟨rfl, rfl, rfl, by decide +kernel, rfl, by decide +kernel, by decide +kernel⟩, fun _ _ _ _ _ _ us hl => match us, hl with | [_], _ => rfl⟩
theorem f8 (M : Md K mg) : Fn P w K mg base "is_whole" 1 ["value"] (Pm K (fun i : Int => [.int i]) (fun _ => True) (fun i r => r = .bl true)) := by
  refine mk M sg8 (fun _ => rfl) (fun z hz => noO1 rfl) fun s i _ => ?_
  exact (ws_ret (ev_and (ev_isi (T' := "int") (T := "int") rfl (M.fr _ (memF 100)) rfl (M.fr _ (memF 101)) (by decide +kernel) (r := true) (fun _ => rfl) (ev_var 0 rfl (.inl rfl) rfl ⟨rfl, ⟨_, rfl, (ite_t (ev_and1 (ev_not (ev_isi (T' := "int") (T := "bool") rfl (M.fr _ (memF 100)) rfl (M.fr _ (memF 102)) (by decide +kernel) (r := false) (fun _ => rfl) (ev_var 0 rfl (.inl rfl) rfl ⟨rfl, ⟨_, rfl, rfl⟩⟩)))))⟩⟩))))
theorem sg9 : Sig d9 "is_between" ["value", "low", "high"] ["value", "low", "high"] := ⟨memN 1, rfl, memF 1, rfl, rfl, ⟨rfl, rfl, rfl, by decide +kernel, rfl, by decide +kernel, by decide +kernel⟩, fun _ _ _ _ _ _ us hl => match us, hl with | [_, _, _], _ => rfl⟩
theorem f9 (M : Md K mg) : Fn P w K mg base "is_between" 2 ["value", "low", "high"] (Pm K (α := Int × Int × Int) (fun | (i, a, b) => [.int i, .int a, .int b]) (fun | (i, a, b) => a ≤ i ∧ i ≤ b) (fun | (i, a, b) => fun r => r = .bl true)) := by
  refine mk M sg9 (fun _ => rfl) (fun z hz => noOl rfl) fun s ⟨i, a, b⟩ hg => ?_
  obtain ⟨g1, g2⟩ := (show a ≤ i ∧ i ≤ b from hg)
  refine (ws_ret (ev_and (ev_callf (f8 M) rfl (ea_cons (ev_var 0 rfl (.inl rfl) rfl (ea_nil ⟨_, rfl, trivial, ⟨_, rfl, (ite_t (ev_and (ev_le (ev_var 1 rfl (.inl rfl) rfl ⟨_, rfl, (ev_var 0 rfl (.inl rfl) rfl ⟨_, rfl, ⟨_, rfl, (ite_dec (fun h1 => (ev_and1 (ev_le (ev_var 0 rfl (.inl rfl) rfl ⟨_, rfl, (ev_var 2 rfl (.inl rfl) rfl ⟨_, rfl, congrArg Sv.bl (decide_eq_true g2)⟩)⟩)))) (fun h1 => ?_))⟩⟩)⟩))))⟩⟩))))))
  exact absurd g1 h1
theorem sg10 : Sig d10 "are_wholes" ["value", "many", "each"] ["value", "many"] := ⟨memN 2, rfl, memF 2, rfl, rfl, ⟨rfl, rfl, rfl, by decide +kernel, rfl, by decide +kernel, by decide +kernel⟩, fun _ _ _ _ _ _ us hl => match us, hl with | [_, _], _ => rfl⟩
theorem f10 (M : Md K mg) : Fn P w K mg base "are_wholes" 2 ["value", "many"] (Pm K (fun r : Rat => [.q r, .int 2]) (fun _ => True) (fun _ r => r = .bl true)) := by
  refine mk M sg10 (fun _ => rfl) (fun z hz => noO2 rfl rfl) fun s r _ => ?_
  refine (ws_ret (ev_and (ev_isi (T' := "tuple") (T := "tuple") rfl (M.fr _ (memF 100)) rfl (M.fr _ (memF 103)) (by decide +kernel) (r := true) (fun _ => rfl) (ev_var 0 rfl (.inl rfl) rfl ⟨rfl, ⟨_, rfl, (ite_t (ev_and (ev_eq (ev_len rfl (M.fr _ (memF 104)) (ev_var 0 rfl (.inl rfl) rfl ⟨_, rfl, ⟨_, rfl, (ev_var 1 rfl (.inl rfl) rfl ⟨_, rfl, ⟨_, rfl, (ite_dec (fun h1 => (ev_and1 (ev_all rfl (M.fr _ (memF 105)) (ev_lc (own := [("each", 2)]) (is := [2]) (bt := false) rfl rfl (.name rfl (.inl rfl)) (ev_var 0 rfl (.inl rfl) rfl ?_))))) (fun h1 => ?_))⟩⟩)⟩⟩)))))⟩⟩))))
  · refine ⟨[.int r.num, .int (r.den : Int)], [.bl true, .bl true], rfl, rfl, by simp, by simp [Sv.flat], fun i r o h1 h2 => ?_, [true, true], rfl, rfl⟩
    match i, h1, h2 with
    | 0, h1, h2 =>
      cases h1
      cases h2
      exact ⟨_, rfl, rfl, (ev_callf (f8 M) rfl (ea_cons (ev_var 2 rfl (.inl rfl) rfl (ea_nil ⟨_, rfl, trivial, rfl⟩))))⟩
    | 1, h1, h2 =>
      cases h1
      cases h2
      exact ⟨_, rfl, rfl, (ev_callf (f8 M) rfl (ea_cons (ev_var 2 rfl (.inl rfl) rfl (ea_nil ⟨_, rfl, trivial, rfl⟩))))⟩
  · exact absurd rfl h1
theorem sg16 : Sig d16 "is_ratio" ["value"] ["value"] := ⟨memN 5, rfl, memF 5, rfl, rfl, ⟨rfl, rfl, rfl, by decide +kernel, rfl, by decide +kernel, by decide +kernel⟩, fun _ _ _ _ _ _ us hl => match us, hl with | [_], _ => rfl⟩
theorem f16 (M : Md K mg) : Fn P w K mg base "is_ratio" 3 ["value"] (Pm K (fun r : Rat => [.q r]) (fun _ => True) (fun _ r => r = .bl true)) := by
  refine mk M sg16 (fun _ => rfl) (fun z hz => noO1 rfl) fun s r _ => ?_
  have p : (Sv.q r).parts = some [.int r.num, .int (r.den : Int)] := rfl
  refine (ws_ret (ev_and (ev_callf (f10 M) rfl (ea_cons (ev_var 0 rfl (.inl rfl) rfl (ea_cons (ev_int (ea_nil ⟨_, rfl, trivial, ⟨_, rfl, (ite_t (ev_and (ev_gt (ev_ix (fun _ _ => rfl) (ev_var 0 rfl (.inl rfl) rfl (ev_int ⟨_, _, rfl, rfl, ⟨_, rfl, (ev_int ⟨_, rfl, ⟨_, rfl, (ite_dec (fun h1 => (ev_and1 (ev_eq (ev_callf (f11 M) rfl (ea_cons (ev_var 0 rfl (.inl rfl) rfl (ea_nil ⟨(_, _, _), rfl, p, ⟨_, rfl, (ev_int ⟨_, rfl, ?_⟩)⟩⟩))))))) (fun h1 => ?_))⟩⟩)⟩⟩))))))⟩⟩))))))))
  · exact congrArg Sv.bl (decide_eq_true (by rw [Int.natAbs_natCast, r.reduced]; rfl))
  · exact absurd (den_pos r) h1
theorem sg29 : Sig d29 "is_share" ["value"] ["value"] := ⟨memN 16, rfl, memF 16, rfl, rfl, ⟨rfl, rfl, rfl, by decide +kernel, rfl, by decide +kernel, by decide +kernel⟩, fun _ _ _ _ _ _ us hl => match us, hl with | [_], _ => rfl⟩
theorem f29 (M : Md K mg) : Fn P w K mg base "is_share" 4 ["value"] (Pm K (fun r : Rat => [.q r]) (fun r => 0 ≤ r ∧ r ≤ 1) (fun _ r => r = .bl true)) := by
  refine mk M sg29 (fun _ => rfl) (fun z hz => noO1 rfl) fun s r ⟨g1, g2⟩ => ?_
  have e1 : 0 ≤ r.num := Rat.num_nonneg.mpr g1
  have e2 : r.num ≤ (r.den : Int) := by have := (Rat.le_iff r 1).mp g2; simpa using this
  refine (ws_ret (ev_and (ev_callf (f16 M) rfl (ea_cons (ev_var 0 rfl (.inl rfl) rfl (ea_nil ⟨_, rfl, trivial, ⟨_, rfl, (ite_t (ev_and (ev_le (ev_int ⟨_, rfl, (ev_ix (fun _ _ => rfl) (ev_var 0 rfl (.inl rfl) rfl (ev_int ⟨_, _, rfl, rfl, ⟨_, rfl, ⟨_, rfl, (ite_dec (fun h1 => (ev_and1 (ev_le (ev_ix (fun _ _ => rfl) (ev_var 0 rfl (.inl rfl) rfl (ev_int ⟨_, _, rfl, rfl, ⟨_, rfl, (ev_ix (fun _ _ => rfl) (ev_var 0 rfl (.inl rfl) rfl (ev_int ⟨_, _, rfl, rfl, ⟨_, rfl, congrArg Sv.bl (decide_eq_true e2)⟩⟩)))⟩⟩)))))) (fun h1 => ?_))⟩⟩⟩)))⟩))))⟩⟩))))))
  exact absurd e1 h1
theorem sg30 : Sig d30 "is_inner" ["value"] ["value"] := ⟨memN 17, rfl, memF 17, rfl, rfl, ⟨rfl, rfl, rfl, by decide +kernel, rfl, by decide +kernel, by decide +kernel⟩, fun _ _ _ _ _ _ us hl => match us, hl with | [_], _ => rfl⟩
theorem f30 (M : Md K mg) : Fn P w K mg base "is_inner" 4 ["value"] (Pm K (fun r : Rat => [.q r]) (fun r => 0 < r ∧ r < 1) (fun _ r => r = .bl true)) := by
  refine mk M sg30 (fun _ => rfl) (fun z hz => noO1 rfl) fun s r ⟨g1, g2⟩ => ?_
  have e1 : 0 < r.num := num_pos.mpr g1
  have e2 : r.num < (r.den : Int) := by have := (Rat.lt_iff r 1).mp g2; simpa using this
  refine (ws_ret (ev_and (ev_callf (f16 M) rfl (ea_cons (ev_var 0 rfl (.inl rfl) rfl (ea_nil ⟨_, rfl, trivial, ⟨_, rfl, (ite_t (ev_and (ev_lt (ev_int ⟨_, rfl, (ev_ix (fun _ _ => rfl) (ev_var 0 rfl (.inl rfl) rfl (ev_int ⟨_, _, rfl, rfl, ⟨_, rfl, ⟨_, rfl, (ite_dec (fun h1 => (ev_and1 (ev_lt (ev_ix (fun _ _ => rfl) (ev_var 0 rfl (.inl rfl) rfl (ev_int ⟨_, _, rfl, rfl, ⟨_, rfl, (ev_ix (fun _ _ => rfl) (ev_var 0 rfl (.inl rfl) rfl (ev_int ⟨_, _, rfl, rfl, ⟨_, rfl, congrArg Sv.bl (decide_eq_true e2)⟩⟩)))⟩⟩)))))) (fun h1 => ?_))⟩⟩⟩)))⟩))))⟩⟩))))))
  exact absurd e1 h1
theorem sg31 : Sig d31 "is_amount" ["value"] ["value"] := ⟨memN 18, rfl, memF 18, rfl, rfl, ⟨rfl, rfl, rfl, by decide +kernel, rfl, by decide +kernel, by decide +kernel⟩, fun _ _ _ _ _ _ us hl => match us, hl with | [_], _ => rfl⟩
theorem f31 (M : Md K mg) : Fn P w K mg base "is_amount" 4 ["value"] (Pm K (fun r : Rat => [.q r]) (fun r => 0 < r) (fun _ r => r = .bl true)) := by
  refine mk M sg31 (fun _ => rfl) (fun z hz => noO1 rfl) fun s r g1 => ?_
  exact (ws_ret (ev_and (ev_callf (f16 M) rfl (ea_cons (ev_var 0 rfl (.inl rfl) rfl (ea_nil ⟨_, rfl, trivial, ⟨_, rfl, (ite_t (ev_and1 (ev_gt (ev_ix (fun _ _ => rfl) (ev_var 0 rfl (.inl rfl) rfl (ev_int ⟨_, _, rfl, rfl, ⟨_, rfl, (ev_int ⟨_, rfl, congrArg Sv.bl (decide_eq_true (num_pos.mpr g1))⟩)⟩⟩))))))⟩⟩))))))
theorem sg32 : Sig d32 "is_volatility" ["value"] ["value"] := ⟨memN 19, rfl, memF 19, rfl, rfl, ⟨rfl, rfl, rfl, by decide +kernel, rfl, by decide +kernel, by decide +kernel⟩, fun _ _ _ _ _ _ us hl => match us, hl with | [_], _ => rfl⟩
theorem f32 (M : Md K mg) : Fn P w K mg base "is_volatility" 4 ["value"] (Pm K (fun r : Rat => [.q r]) (fun r => 1 < r) (fun _ r => r = .bl true)) := by
  refine mk M sg32 (fun _ => rfl) (fun z hz => noO1 rfl) fun s r g1 => ?_
  have e2 : (r.den : Int) < r.num := by have := (Rat.lt_iff 1 r).mp g1; simpa using this
  exact (ws_ret (ev_and (ev_callf (f16 M) rfl (ea_cons (ev_var 0 rfl (.inl rfl) rfl (ea_nil ⟨_, rfl, trivial, ⟨_, rfl, (ite_t (ev_and1 (ev_gt (ev_ix (fun _ _ => rfl) (ev_var 0 rfl (.inl rfl) rfl (ev_int ⟨_, _, rfl, rfl, ⟨_, rfl, (ev_ix (fun _ _ => rfl) (ev_var 0 rfl (.inl rfl) rfl (ev_int ⟨_, _, rfl, rfl, ⟨_, rfl, congrArg Sv.bl (decide_eq_true e2)⟩⟩)))⟩⟩))))))⟩⟩))))))
def Fgood (f : Fd) : Prop := 0 < f.1 ∧ (0 ≤ f.2.1 ∧ f.2.1 ≤ 1) ∧ 0 ≤ f.2.2 ∧ f.2.2 ≤ 1
theorem sg35 : Sig d35 "is_feed" ["value"] ["value"] := ⟨memN 20, rfl, memF 20, rfl, rfl, ⟨rfl, rfl, rfl, by decide +kernel, rfl, by decide +kernel, by decide +kernel⟩, fun _ _ _ _ _ _ us hl => match us, hl with | [_], _ => rfl⟩
theorem f35 (M : Md K mg) : Fn P w K mg base "is_feed" 5 ["value"] (Pm K (fun f : Fd => [fdS f]) Fgood (fun _ r => r = .bl true)) := by
  refine mk M sg35 (fun _ => rfl) (fun z hz => noO1 rfl) fun s f ⟨g1, g2, g3⟩ => ?_
  refine (ws_if (et_w (ew_or (et_not (et_val (fun _ _ => rfl) (ev_isi (T' := "tuple") (T := "tuple") rfl (M.fr _ (memF 100)) rfl (M.fr _ (memF 103)) (by decide +kernel) (r := true) (fun _ => rfl) (ev_var 0 rfl (.inl rfl) rfl ⟨rfl, ⟨_, rfl, (ite_f (ew_or1 (et_ne (ev_len rfl (M.fr _ (memF 104)) (ev_var 0 rfl (.inl rfl) rfl ⟨_, rfl, ⟨_, rfl, (ev_int ⟨_, rfl, (ite_ndec (fun h1 => ?_) (fun h1 => (ws_nil (ws_ret (ev_and (ev_callf (f31 M) rfl (ea_cons (ev_ix (fun _ _ => rfl) (ev_var 0 rfl (.inl rfl) rfl (ev_int ⟨_, _, rfl, rfl, (ea_nil ⟨_, rfl, g1, ⟨_, rfl, (ite_t (ev_and (ev_callf (f29 M) rfl (ea_cons (ev_ix (fun _ _ => rfl) (ev_var 0 rfl (.inl rfl) rfl (ev_int ⟨_, _, rfl, rfl, (ea_nil ⟨_, rfl, g2, ⟨_, rfl, (ite_t (ev_and1 (ev_callf (f29 M) rfl (ea_cons (ev_ix (fun _ _ => rfl) (ev_var 0 rfl (.inl rfl) rfl (ev_int ⟨_, _, rfl, rfl, (ea_nil ⟨_, rfl, g3, rfl⟩)⟩)))))))⟩⟩)⟩)))))))⟩⟩)⟩))))))))))⟩)⟩⟩)))))⟩⟩)))))))
  exact absurd rfl h1
theorem sg36 : Sig d36 "are_feeds" ["value", "each"] ["value"] := ⟨memN 21, rfl, memF 21, rfl, rfl, ⟨rfl, rfl, rfl, by decide +kernel, rfl, by decide +kernel, by decide +kernel⟩, fun _ _ _ _ _ _ us hl => match us, hl with | [_], _ => rfl⟩
theorem f36 (M : Md K mg) : Fn P w K mg base "are_feeds" 6 ["value"] (Pm K (fun fs : List Fd => [.tup (fs.map fdS)]) (fun fs => 0 < fs.length ∧ fs.length ≤ 4 ∧ ∀ f ∈ fs, Fgood f) (fun _ r => r = .bl true)) := by
  refine mk M sg36 (fun _ => rfl) (fun z hz => noO1 rfl) fun s fs ⟨g1, g2, g3⟩ => ?_
  refine (ws_if (et_w (ew_or (et_not (et_val (fun _ _ => rfl) (ev_isi (T' := "tuple") (T := "tuple") rfl (M.fr _ (memF 100)) rfl (M.fr _ (memF 103)) (by decide +kernel) (r := true) (fun _ => rfl) (ev_var 0 rfl (.inl rfl) rfl ⟨rfl, ⟨_, rfl, (ite_f (ew_or (et_eq (ev_len rfl (M.fr _ (memF 104)) (ev_var 0 rfl (.inl rfl) rfl ⟨_, rfl, ⟨_, rfl, (ev_int ⟨_, rfl, (ite_dec (fun h1 => ?_) (fun h1 => (ew_or1 (et_gt (ev_len rfl (M.fr _ (memF 104)) (ev_var 0 rfl (.inl rfl) rfl ⟨_, rfl, ⟨_, rfl, (ev_gi rfl M.feeds ⟨_, rfl, (ite_dec (fun h2 => ?_) (fun h2 => (ws_nil ?_)))⟩)⟩⟩))))))⟩)⟩⟩)))))⟩⟩)))))))
  · rw [List.length_map] at h1; omega
  · rw [List.length_map] at h2; omega
  · refine ws_ret (ev_all rfl (M.fr _ (memF 105)) (ev_lcm fs fdS (fun _ => .bl true) (own := [("each", 1)]) (is := [1]) (bt := false) rfl rfl (.name rfl (.inl rfl)) (ev_var 0 rfl (.inl rfl) rfl ⟨rfl, by omega, fun _ _ => rfl, fun f hf => ⟨_, rfl, rfl, ?_⟩, fs.map (fun _ => true), ?_, ?_⟩)))
    · have p := g3 f hf
      exact (ev_callf (f35 M) rfl (ea_cons (ev_var 1 rfl (.inl rfl) rfl (ea_nil ⟨_, rfl, p, rfl⟩))))
    · rw [List.map_map]; rfl
    · show Sv.bl _ = .bl true
      simp
theorem Cok.fgood {c : Col} (h : Cok c) : ∀ f ∈ c.fs, Fgood f := fun f hf => by
  obtain ⟨h1, h2, h3, h4, h5⟩ := h.feed f hf
  have := h.f0
  have := h.t1
  exact ⟨h1, ⟨by grind, by grind⟩, h4, h5⟩
theorem sg47 : Sig d47 "is_column" ["value", "volatility", "feeds", "top", "foot", "feed"] ["value"] := ⟨memN 31, rfl, memF 31, rfl, rfl, ⟨rfl, rfl, rfl, by decide +kernel, rfl, by decide +kernel, by decide +kernel⟩, fun _ _ _ _ _ _ us hl => match us, hl with | [_], _ => rfl⟩
theorem f47 (M : Md K mg) : Fn P w K mg base "is_column" 7 ["value"] (Pm K (fun c : Col => [c.sv]) Cok (fun _ r => r = .bl true)) := by
  refine mk M sg47 (fun _ => rfl) (fun z hz => noO1 rfl) fun s c hc => ?_
  have f0 := hc.f0
  have ft := hc.ft
  have t1 := hc.t1
  have hl := hc.fso.len
  have hz : 0 < c.fs.length := List.length_pos_iff.mpr hc.ne
  have p2 : 0 < c.fs.length ∧ c.fs.length ≤ 4 ∧ ∀ f ∈ c.fs, Fgood f := ⟨hz, by omega, hc.fgood⟩
  have p3 : 0 < c.top ∧ c.top < 1 := ⟨by grind, t1⟩
  have p4 : 0 < c.foot ∧ c.foot < 1 := ⟨f0, by grind⟩
  have p5 : Sb c.foot c.top := ⟨_, _, hc.bfoot, hc.btop, by omega⟩
  refine (ws_if (et_w (ew_or (et_not (et_val (fun _ _ => rfl) (ev_isi (T' := "tuple") (T := "tuple") rfl (M.fr _ (memF 100)) rfl (M.fr _ (memF 103)) (by decide +kernel) (r := true) (fun _ => rfl) (ev_var 0 rfl (.inl rfl) rfl ⟨rfl, ⟨_, rfl, (ite_f (ew_or1 (et_ne (ev_len rfl (M.fr _ (memF 104)) (ev_var 0 rfl (.inl rfl) rfl ⟨_, rfl, ⟨_, rfl, (ev_int ⟨_, rfl, (ite_ndec (fun h1 => ?_) (fun h1 => (ws_nil ?_)))⟩)⟩⟩)))))⟩⟩)))))))
  · exact absurd rfl h1
  · refine (ws_tup (is := [1, 2, 3, 4]) (.cons rfl (.inl rfl) (.cons rfl (.inl rfl) (.cons rfl (.inr ⟨rfl, rfl⟩) (.cons rfl (.inr ⟨rfl, rfl⟩) .nil)))) (ev_var 0 rfl (.inl rfl) rfl ⟨_, rfl, rfl, by simp [Sv.isL], (ws_if (et_w (ew_or (et_not (et_val (fun _ _ => rfl) (ev_callf (f32 M) rfl (ea_cons (ev_var 1 rfl (.inl rfl) rfl (ea_nil ⟨_, rfl, hc.a1, ⟨_, rfl, (ite_f (ew_or (et_not (et_val (fun _ _ => rfl) (ev_callf (f36 M) rfl (ea_cons (ev_var 2 rfl (.inl rfl) rfl (ea_nil ⟨_, rfl, p2, ⟨_, rfl, (ite_f (ew_or (et_not (et_val (fun _ _ => rfl) (ev_callf (f30 M) rfl (ea_cons (ev_var 3 rfl (.inr (.inl rfl)) rfl (ea_nil ⟨_, rfl, p3, ⟨_, rfl, (ite_f (ew_or1 (et_not (et_val (fun _ _ => rfl) (ev_callf (f30 M) rfl (ea_cons (ev_var 4 rfl (.inr (.inl rfl)) rfl (ea_nil ⟨_, rfl, p4, ⟨_, rfl, (ite_f (ws_nil (ws_ret (ev_and (ev_callf (f23 M) rfl (ea_cons (ev_var 4 rfl (.inr (.inl rfl)) rfl (ea_cons (ev_var 3 rfl (.inr (.inl rfl)) rfl (ea_nil ⟨(_, _), rfl, p5, ⟨_, rfl, (ite_dec (fun h1 => (ev_and1 (ev_all rfl (M.fr _ (memF 105)) (ev_lcm (c.fs) (fdS) (fun _ => .bl true) (own := [("feed", 5)]) (is := [5]) (bt := false) rfl rfl (.name rfl (.inl rfl)) (ev_var 2 rfl (.inl rfl) rfl ⟨rfl, (by omega), (fun _ _ => rfl), fun x2 hx2 => ⟨_, rfl, rfl, (ev_and (ev_callf (f23 M) rfl (ea_cons (ev_var 4 rfl (.inr (.inl rfl)) rfl (ea_cons (ev_ix (fun _ _ => rfl) (ev_var 5 rfl (.inl rfl) rfl (ev_int ⟨_, _, rfl, rfl, (ea_nil ⟨(_, _), rfl, ⟨_, _, hc.bfoot, (hc.fso.ok _ hx2).s, by omega⟩, ⟨_, rfl, (ite_dec (fun h3 => (ev_and1 (ev_callf (f23 M) rfl (ea_cons (ev_ix (fun _ _ => rfl) (ev_var 5 rfl (.inl rfl) rfl (ev_int ⟨_, _, rfl, rfl, (ea_cons (ev_var 3 rfl (.inr (.inl rfl)) rfl (ea_nil ⟨(_, _), rfl, ⟨_, _, (hc.fso.ok _ hx2).s, hc.btop, by omega⟩, ?_⟩)))⟩))))))) (fun h3 => ?_))⟩⟩)⟩))))))))⟩, ⟨c.fs.map (fun _ => true), by rw [List.map_map]; rfl, ?_⟩⟩))))) (fun h1 => ?_))⟩⟩))))))))))⟩⟩))))))))⟩⟩))))))))⟩⟩))))))))⟩⟩)))))))))⟩))
    · exact congrArg Sv.bl (decide_eq_true (hc.feed _ hx2).2.2.1)
    · exact absurd (hc.feed _ hx2).2.1 h3
    · exact congrArg Sv.bl (by simp)
    · exact absurd ft h1
end
end K39
end
section
set_option Elab.async false
set_option linter.all false
set_option maxRecDepth 100000
set_option maxHeartbeats 4000000
namespace K39
open PySem PySem.Spec PyProof.Rows L2
section
variable {S : Sc} {ρ : Ro} {Φ : Sv → Prop} {a b : Expr} {pos : Pos}
theorem dpq {K : PySem.W.Frag} {s : Option Addr} {H : Hp} {v : V} {r : Rat} (h : Sat K s H v (.q r)) : Dp K H v (.tuple [.int r.num, .int (r.den : Int)]) := by
  cases h with
  | q ht => exact .tup ht.sq (.cons (.int _) (.cons (.int _) .nil))
theorem eqvq (r t : Rat) : PyData.eqv (.tuple [.int r.num, .int (r.den : Int)]) (.tuple [.int t.num, .int (t.den : Int)]) = decide (r = t) := by
  rw [Bool.eq_iff_iff]
  simp [PyData.eqv, PyData.eqvAll]
  constructor
  · rintro ⟨h1, h2⟩
    exact Rat.ext h1 (by omega)
  · rintro rfl
    exact ⟨rfl, rfl⟩
/-- two fractions, written as pairs, compared -/
theorem ev_eqq (h : Ev S a ρ fun x => ∃ r : Rat, x = .q r ∧ Ev S b ρ fun y => ∃ t : Rat, y = .q t ∧ Φ (.bl (decide (r = t)))) : Ev S (.Compare a [.Eq] [b] pos) ρ Φ := by
  intro X hX σ H hE Q k
  refine WE.of (pe_cmpR (op_eqD hX.room.units) pe_W pe_W (nomark _)) (h X hX σ H hE _ fun v H1 r g1 s1 ⟨m, e, h2⟩ => ?_)
  subst e
  refine h2 X hX σ H1 (hE.mono g1.n) _ fun v2 H2 r2 g2 s2 ⟨n, e, h3⟩ => ?_
  subst e
  refine ⟨_, _, by rw [hX.K]; exact dpq (s1.mono g2.n), by rw [hX.K]; exact dpq s2, rfl, rfl, ?_⟩
  rw [eqvq]
  exact k _ H2 _ (g1.trans g2) (.bl _) h3
theorem et_neq {Ψ : Bool → Prop} (h : Ev S a ρ fun x => ∃ r : Rat, x = .q r ∧ Ev S b ρ fun y => ∃ t : Rat, y = .q t ∧ Ψ (!decide (r = t))) : Et S (.Compare a [.NotEq] [b] pos) ρ Ψ := by
  intro X hX σ H hE Q k
  refine WT.of (pt_cmpR (op_neD hX.room.units) pe_W pe_W (nomark _)) (h X hX σ H hE _ fun v H1 r g1 s1 ⟨m, e, h2⟩ => ?_)
  subst e
  refine h2 X hX σ H1 (hE.mono g1.n) _ fun v2 H2 r2 g2 s2 ⟨n, e, h3⟩ => ?_
  subst e
  refine ⟨_, _, by rw [hX.K]; exact dpq (s1.mono g2.n), by rw [hX.K]; exact dpq s2, rfl, rfl, ?_⟩
  rw [eqvq]
  exact ⟨_, rfl, k _ H2 (g1.trans g2) h3⟩
end
theorem item_last {α : Type} (g : α → Sv) (d : α) {l : List α} (h : 0 < l.length) : (Sv.tup (l.map g)).item (-1) = some (g (l.getD (l.length - 1) d)) := by
  show atI (l.map g) (-1 : Int) = _
  unfold L2.atI ixN
  rw [if_neg (by omega), if_pos (by rw [List.length_map]; omega)]
  show (l.map g)[((-1 : Int) + ((l.map g).length : Int)).toNat]? = _
  have e : ((-1 : Int) + ((l.map g).length : Int)).toNat = l.length - 1 := by rw [List.length_map]; omega
  rw [e, List.getElem?_map, List.getElem?_eq_getElem (by omega), List.getD_eq_getElem?_getD, List.getElem?_eq_getElem (by omega)] <;> rfl
theorem liq_rng {a x : Rat} (ha : 1 < a) (h0 : 0 < x) (h1 : x ≤ 1) : 0 < liq a x ∧ liq a x ≤ 1 := by
  have h2 : 0 ≤ (a - 1) * (1 - x) := Rat.mul_nonneg (by grind) (by grind)
  have hd : 0 < a - (a - 1) * x := by grind
  unfold liq
  refine ⟨(Rat.lt_div_iff hd).mpr (by grind), ?_⟩
  have : ¬ 1 < x / (a - (a - 1) * x) := fun h => by
    have := (Rat.lt_div_iff hd).mp h
    have h3 : 0 ≤ a * (1 - x) := Rat.mul_nonneg (by grind) (by grind)
    grind
  grind
theorem itl_rng {a x : Rat} (ha : 1 < a) (h0 : 0 < x) (h1 : x ≤ 1) : ∀ k, 0 < itl a x k ∧ itl a x k ≤ 1
  | 0 => ⟨h0, h1⟩
  | k + 1 => let ⟨q1, q2⟩ := itl_rng ha h0 h1 k; liq_rng ha q1 q2
theorem itl_bz {a x : Rat} {m n : Nat} (ha : 1 < a) (h0 : 0 < x) (h1 : x ≤ 1) (b1 : Bz m a) (b2 : Bz n x) : ∀ k, Bz (n + k * (m + 2)) (itl a x k)
  | 0 => b2.mono (by omega)
  | k + 1 => by
    obtain ⟨q1, q2⟩ := itl_rng ha h0 h1 k
    exact (b1.liq (itl_bz ha h0 h1 b1 b2 k) ha (Rat.le_of_lt q1) q2).mono (by rw [Nat.succ_mul]; omega)
section
variable {P : Program} {w : World} {K : PySem.W.Frag} {mg : Str → Option Value} {base : Heap}
theorem sg48 : Sig d48 "check_column" ["value"] ["value"] := ⟨memN 32, rfl, memF 32, rfl, rfl, ⟨rfl, rfl, rfl, by decide +kernel, rfl, by decide +kernel, by decide +kernel⟩, fun _ _ _ _ _ _ us hl => match us, hl with | [_], _ => rfl⟩
theorem f48 (M : Md K mg) : Fn P w K mg base "check_column" 8 ["value"] (Pm K (fun c : Col => [c.sv]) Cok (fun _ r => r = .non)) := by
  refine mk M sg48 (fun _ => rfl) (fun z hz => noO1 rfl) fun s c hc => ?_
  exact (ws_if (et_not (et_val (fun _ _ => rfl) (ev_callf (f47 M) rfl (ea_cons (ev_var 0 rfl (.inl rfl) rfl (ea_nil ⟨_, rfl, hc, ⟨_, rfl, (ite_f (ws_nil (ws_nil rfl)))⟩⟩)))))))
theorem sg49 : Sig d49 "check_reflux" ["value"] ["value"] := ⟨memN 33, rfl, memF 33, rfl, rfl, ⟨rfl, rfl, rfl, by decide +kernel, rfl, by decide +kernel, by decide +kernel⟩, fun _ _ _ _ _ _ us hl => match us, hl with | [_], _ => rfl⟩
theorem f49 (M : Md K mg) : Fn P w K mg base "check_reflux" 5 ["value"] (Pm K (fun r : Rat => [.q r]) (fun r => 0 < r) (fun _ r => r = .non)) := by
  refine mk M sg49 (fun _ => rfl) (fun z hz => noO1 rfl) fun s r hr => ?_
  exact (ws_if (et_not (et_val (fun _ _ => rfl) (ev_callf (f31 M) rfl (ea_cons (ev_var 0 rfl (.inl rfl) rfl (ea_nil ⟨_, rfl, hr, ⟨_, rfl, (ite_f (ws_nil (ws_nil rfl)))⟩⟩)))))))
theorem sg50 : Sig d50 "check_both" ["column", "reflux"] ["column", "reflux"] := ⟨memN 34, rfl, memF 34, rfl, rfl, ⟨rfl, rfl, rfl, by decide +kernel, rfl, by decide +kernel, by decide +kernel⟩, fun _ _ _ _ _ _ us hl => match us, hl with | [_, _], _ => rfl⟩
theorem f50 (M : Md K mg) : Fn P w K mg base "check_both" 9 ["column", "reflux"] (Pm K (α := Col × Rat) (fun | (c, r) => [c.sv, .q r]) (fun | (c, r) => Cok c ∧ 0 < r) (fun | (c, r) => fun r => r = .non)) := by
  refine mk M sg50 (fun _ => rfl) (fun z hz => noO2 rfl rfl) fun s ⟨c, r⟩ hg => ?_
  obtain ⟨hc, hr⟩ := (show Cok c ∧ 0 < r from hg)
  exact (ws_exp (ev_callf (f48 M) rfl (ea_cons (ev_var 0 rfl (.inl rfl) rfl (ea_nil ⟨_, rfl, hc, (ws_exp (ev_callf (f49 M) rfl (ea_cons (ev_var 1 rfl (.inl rfl) rfl (ea_nil ⟨_, rfl, hr, (ws_nil rfl)⟩)))))⟩)))))
theorem sg68 : Sig d68 "check_number" ["value", "most"] ["value", "most"] := ⟨memN 48, rfl, memF 48, rfl, rfl, ⟨rfl, rfl, rfl, by decide +kernel, rfl, by decide +kernel, by decide +kernel⟩, fun _ _ _ _ _ _ us hl => match us, hl with | [_, _], _ => rfl⟩
theorem f68 (M : Md K mg) : Fn P w K mg base "check_number" 3 ["value", "most"] (Pm K (α := Int × Int) (fun | (i, m) => [.int i, .int m]) (fun | (i, m) => 1 ≤ i ∧ i ≤ m) (fun | (i, m) => fun r => r = .non)) := by
  refine mk M sg68 (fun _ => rfl) (fun z hz => noO2 rfl rfl) fun s ⟨i, m⟩ hg => ?_
  have hg : 1 ≤ i ∧ i ≤ m := hg
  exact (ws_if (et_not (et_val (fun _ _ => rfl) (ev_callf (f9 M) rfl (ea_cons (ev_var 0 rfl (.inl rfl) rfl (ea_cons (ev_int (ea_cons (ev_var 1 rfl (.inl rfl) rfl (ea_nil ⟨(_, _, _), rfl, hg, ⟨_, rfl, (ite_f (ws_nil (ws_nil rfl)))⟩⟩)))))))))))
def fullL (c : Col) (n : Nat) : List Rat := (List.range n).map fun k => itl c.a c.top (k + 1)
theorem sg62 : Sig d62 "full_shares" ["column", "most", "share", "found", "_"] ["column", "most"] := ⟨memN 43, rfl, memF 43, rfl, rfl, ⟨rfl, rfl, rfl, by decide +kernel, rfl, by decide +kernel, by decide +kernel⟩, fun _ _ _ _ _ _ us hl => match us, hl with | [_, _], _ => rfl⟩
theorem f62 (M : Md K mg) : Fn P w K mg base "full_shares" 5 ["column", "most"] (Pm K (α := Col × Nat) (fun | (c, n) => [c.sv, .int (n : Int)]) (fun | (c, n) => Cok c ∧ n ≤ 60) (fun | (c, n) => fun r => r = .tup ((fullL c n).map .q))) := by
  refine mk M sg62 (fun _ => rfl) (fun z hz => noO2 rfl rfl) fun s ⟨c, n⟩ hg => ?_
  obtain ⟨hc, hn⟩ := (show Cok c ∧ n ≤ 60 from hg)
  have t0 : 0 < c.top := by have := hc.f0; have := hc.ft; grind
  have t1 : c.top ≤ 1 := Rat.le_of_lt hc.t1
  refine (ws_par2 2 3 rfl rfl (by decide) rfl rfl (fr_cons (ev_ix (fun _ _ => rfl) (ev_var 0 rfl (.inl rfl) rfl (ev_int ⟨_, _, rfl, rfl, ⟨rfl, (fr_new (fr_nil ⟨by simp [Sv.isL], ⟨rfl, ?_⟩⟩))⟩⟩)))) (fun env hk hn => by unfold swappedStores Env.blockKind Env.kindOf; rw [hk, hn]; rfl))
  refine ws_forR1 4 rfl (M.fr _ (memF 106)) rfl (.inl rfl) (ev_var 1 rfl (.inl rfl) rfl ?_)
  refine ⟨n, rfl, by omega, fun i ρ' => ∃ L y, ρ' = [some c.sv, some (.int (n : Int)), some (.q (itl c.a c.top i)), some (.own L), y] ∧ L = (fullL c i).map .q ∧ okO y = true, ⟨_, _, rfl, rfl, rfl⟩, fun i ρ' hi ⟨L, y, hρ, hL, hy⟩ => ?_, fun ρ' ⟨L, y, hρ, hL, hy⟩ => ?_⟩
  · subst hρ hL
    obtain ⟨q1, q2⟩ := itl_rng hc.a1 t0 t1 i
    have b := itl_bz hc.a1 t0 t1 hc.ba hc.btop i
    have p : Sx c.a (itl c.a c.top i) ∧ 0 ≤ itl c.a c.top i ∧ itl c.a c.top i ≤ 1 := ⟨⟨hc.a1, _, _, hc.ba, b, by omega, by omega⟩, Rat.le_of_lt q1, q2⟩
    refine (ws_set 2 rfl (.inl rfl) (ev_callf (f26 M) rfl (ea_cons (ev_ix (fun _ _ => rfl) (ev_var 0 rfl (.inl rfl) rfl (ev_int ⟨_, _, rfl, rfl, (ea_cons (ev_var 2 rfl (.inl rfl) rfl (ea_nil ⟨(_, _), rfl, p, ⟨.inl rfl, ?_⟩⟩)))⟩))))))
    refine (ws_app 3 rfl (.inl rfl) rfl (flat_qs _) (by unfold fullL; simp; omega) (ev_var 2 rfl (.inl rfl) rfl ⟨rfl, rfl, ?_⟩) (hfr_of (by simp [okO_s, hy, Sv.fl, Sv.flat, Sv.flatL, Col.sv, flat_fds, flat_qs, -List.map_map])))
    refine (ws_nil ?_)
    exact ⟨_, _, rfl, by unfold fullL; rw [List.range_succ, List.map_append, List.map_append]; rfl, rfl⟩
  · subst hρ hL
    exact (ws_ret (ev_tuple rfl (M.fr _ (memF 103)) (ev_var 3 rfl (.inl rfl) rfl (.inl ⟨_, rfl, rfl⟩))))
theorem sg69 : Sig d69 "ever_within" ["column", "plates", "last"] ["column", "plates"] := ⟨memN 49, rfl, memF 49, rfl, rfl, ⟨rfl, rfl, rfl, by decide +kernel, rfl, by decide +kernel, by decide +kernel⟩, fun _ _ _ _ _ _ us hl => match us, hl with | [_, _], _ => rfl⟩
theorem f69 (M : Md K mg) : Fn P w K mg base "ever_within" 9 ["column", "plates"] (Pm K (α := Col × Nat) (fun | (c, n) => [c.sv, .int (n : Int)]) (fun | (c, n) => Cok c ∧ 1 ≤ n ∧ n ≤ 60) (fun | (c, n) => fun r => r = .bl (decide (itl c.a c.top n < c.foot ∨ (n = 1 ∧ itl c.a c.top n = c.foot))))) := by
  refine mk M sg69 (fun _ => rfl) (fun z hz => noO2 rfl rfl) fun s ⟨c, n⟩ hg => ?_
  obtain ⟨hc, h1n, hn⟩ := (show Cok c ∧ 1 ≤ n ∧ n ≤ 60 from hg)
  have t0 : 0 < c.top := by have := hc.f0; have := hc.ft; grind
  have p1 : (1 : Int) ≤ (n : Int) ∧ (n : Int) ≤ 60 := by omega
  have p2 : Cok c ∧ n ≤ 60 := ⟨hc, hn⟩
  have it : (Sv.tup ((fullL c n).map Sv.q)).item (-1) = some (.q (itl c.a c.top n)) := by
    rw [item_last Sv.q 0 (by unfold fullL; rw [List.length_map, List.length_range]; omega)]
    refine congrArg (fun z => some (Sv.q z)) ?_
    unfold fullL
    rw [List.length_map, List.length_range, List.getD_eq_getElem?_getD, List.getElem?_map, List.getElem?_range (by omega)]
    show itl c.a c.top (n - 1 + 1) = _
    rw [Nat.sub_add_cancel h1n]
  have b := itl_bz hc.a1 t0 (Rat.le_of_lt hc.t1) hc.ba hc.btop n
  have p3 : Sb (itl c.a c.top n) c.foot := ⟨_, _, b, hc.bfoot, by omega⟩
  refine (ws_exp (ev_callf (f48 M) rfl (ea_cons (ev_var 0 rfl (.inl rfl) rfl (ea_nil ⟨_, rfl, hc, ?_⟩)))))
  refine (ws_exp (ev_callf (f68 M) rfl (ea_cons (ev_var 1 rfl (.inl rfl) rfl (ea_cons (ev_gi rfl M.plates (ea_nil ⟨(_, _), rfl, p1, ?_⟩)))))))
  refine (ws_set 2 rfl (.inl rfl) (ev_ix (fun _ _ => rfl) (ev_callf (f62 M) rfl (ea_cons (ev_var 0 rfl (.inl rfl) rfl (ea_cons (ev_var 1 rfl (.inl rfl) rfl (ea_nil ⟨(_, _), rfl, p2, (ev_neg (ev_int ⟨_, rfl, ⟨_, _, rfl, it, ⟨.inl rfl, ?_⟩⟩⟩))⟩))))))))
  refine (ws_ret (ev_or (ev_callf (f23 M) rfl (ea_cons (ev_var 2 rfl (.inl rfl) rfl (ea_cons (ev_ix (fun _ _ => rfl) (ev_var 0 rfl (.inl rfl) rfl (ev_int ⟨_, _, rfl, rfl, (ea_nil ⟨(_, _), rfl, p3, ⟨_, rfl, (ite_dec (fun h1 => ?_) (fun h1 => (ev_or1 (ev_and (ev_eq (ev_var 1 rfl (.inl rfl) rfl ⟨_, rfl, (ev_int ⟨_, rfl, ⟨_, rfl, (ite_dec (fun h2 => (ev_and1 (ev_eqq (ev_var 2 rfl (.inl rfl) rfl ⟨_, rfl, (ev_ix (fun _ _ => rfl) (ev_var 0 rfl (.inl rfl) rfl (ev_int ⟨_, _, rfl, rfl, ⟨_, rfl, ?_⟩⟩)))⟩)))) (fun h2 => ?_))⟩⟩)⟩))))))⟩⟩)⟩)))))))))
  · exact congrArg Sv.bl (decide_eq_true (.inl h1)).symm
  · exact congrArg Sv.bl (decide_eq_decide.mpr ⟨fun e => .inr ⟨by omega, e⟩, fun e => e.elim (fun q => absurd q h1) (fun q => q.2)⟩)
  · exact congrArg Sv.bl (decide_eq_false (fun e => e.elim h1 (fun q => h2 (by have := q.1; omega)))).symm
end
end K39
end
section
set_option Elab.async false
set_option linter.all false
set_option maxRecDepth 100000
set_option maxHeartbeats 4000000
namespace K39
open PySem PySem.Spec PyProof.Rows L2
structure Wok (c : Col) (R : Rat) : Prop where
  co : Cok c
  r : Rok R
  ss : SS (secs c R)
  up : 0 < rise c.fs c.D R
  rng : ∀ x, c.foot < x → x ≤ c.top → x ≤ (low c R x).2 ∧ (low c R x).2 ≤ c.top
def rowS (p : Nat × Rat) : Sv := .tup [.int (p.1 : Int), .q p.2]
theorem flat_rows (l : List (Nat × Rat)) : Sv.flatL (l.map rowS) = true := flatL_map _ (fun _ => rfl) l
theorem bz_low {ss : List Sec} (h : SS ss) {x : Rat} {n : Nat} (hx : Bz n x) : ∀ j, j < ss.length → Bz (1779 + n) (lowG (fun i => ht (sAt ss i) x) j).2 := fun j => by
  induction j with
  | zero => intro hj; exact bht (h.at_ hj) hx
  | succ j ih =>
    intro hj
    unfold lowG
    split
    · exact bht (h.at_ hj) hx
    · exact ih (by omega)
theorem liq_le {a x : Rat} (ha : 1 < a) (h0 : 0 ≤ x) (h1 : x ≤ 1) : liq a x ≤ x := by
  have h2 : 0 ≤ (a - 1) * (1 - x) := Rat.mul_nonneg (by grind) (by grind)
  have hd : 0 < a - (a - 1) * x := by grind
  have h3 : 0 ≤ x * ((a - 1) * (1 - x)) := Rat.mul_nonneg h0 h2
  unfold liq
  have : ¬ x < x / (a - (a - 1) * x) := fun h => by
    have := (Rat.lt_div_iff hd).mp h
    grind
  grind
structure Bok (c : Col) (R : Rat) : Prop where
  w : Wok c R
  kx : ∀ k ∈ kinks (secs c R), 0 ≤ k.2.2.1 ∧ k.2.2.2 < vap c.a k.2.2.1
  fin : ¬ c.foot < ((rowsF c R 60 c.top).getD ((rowsF c R 60 c.top).length - 1) (0, 0)).2
theorem kkF_in {cr : Nat → Nat → Rat} {last : Nat} : ∀ {f u : Nat} {p : Nat × Nat}, p ∈ kkF cr last f u → p.1 < last ∧ p.2 ≤ last ∧ p.1 < p.2
  | 0, _, _, h => by cases h
  | f + 1, u, p, h => by
    rw [kkF] at h
    split at h
    · rename_i hu
      rcases List.mem_cons.mp h with h | h
      · subst h
        have := nxt_lt cr u (last - u - 1)
        refine ⟨hu, ?_, ?_⟩ <;> simp only <;> omega
      · exact kkF_in h
    · cases h
theorem kink_bz {ss : List Sec} (h : SS ss) {k : Kink} (hk : k ∈ kinks ss) : Bz 5140 k.2.2.1 ∧ Bz 6919 k.2.2.2 := by
  obtain ⟨p, hp, rfl⟩ := List.mem_map.mp hk
  obtain ⟨h1, h2, _⟩ := kkF_in hp
  have b := h.bx (i := p.1) (j := p.2) (by omega) (by omega)
  exact ⟨b, bht (h.at_ (by omega)) b⟩
theorem kk1 {c : Col} {R : Rat} (h : Bok c R) {k : Kink} (hk : k ∈ kinks (secs c R)) : (Sx c.a k.2.2.1 ∧ 0 ≤ k.2.2.1) ∧ Sb k.2.2.2 (vap c.a k.2.2.1) := by
  obtain ⟨b1, b2⟩ := kink_bz h.w.ss hk
  obtain ⟨k1, k2⟩ := h.kx k hk
  exact ⟨⟨⟨h.w.co.a1, _, _, h.w.co.ba, b1, by omega, by omega⟩, k1⟩, _, _, b2, h.w.co.ba.vap b1 h.w.co.a1 k1, by omega⟩
theorem kk2 {c : Col} {R : Rat} {r : Sv} (h : Bok c R) (e : r = .bl (((kinks (secs c R)).map fun k => decide (k.2.2.2 < vap c.a k.2.2.1)).all id)) : r = .bl true := by
  rw [e]
  refine congrArg Sv.bl ?_
  rw [List.all_eq_true]
  intro b hb
  obtain ⟨k, hk, rfl⟩ := List.mem_map.mp hb
  exact decide_eq_true (h.kx k hk).2
section
variable {P : Program} {w : World} {K : PySem.W.Frag} {mg : Str → Option Value} {base : Heap}
theorem sg60 : Sig d60 "best_rows" ["column", "sections", "most", "share", "found", "index", "height"] ["column", "sections", "most"] := ⟨memN 41, rfl, memF 41, rfl, rfl, ⟨rfl, rfl, rfl, by decide +kernel, rfl, by decide +kernel, by decide +kernel⟩, fun _ _ _ _ _ _ us hl => match us, hl with | [_, _, _], _ => rfl⟩
theorem f60 (M : Md K mg) : Fn P w K mg base "best_rows" 7 ["column", "sections", "most"] (Pm K (α := Col × Rat) (fun | (c, R) => [c.sv, .tup ((secs c R).map secS), .int 60]) (fun | (c, R) => Wok c R) (fun | (c, R) => fun r => r = .tup ((rowsF c R 60 c.top).map rowS))) := by
  refine mk M sg60 (fun _ => rfl) (fun z hz => noOl rfl) fun s ⟨c, R⟩ hg => ?_
  have h : Wok c R := hg
  have f0 := h.co.f0
  have ft := h.co.ft
  have t1 := h.co.t1
  have hn := h.ss.ne
  refine (ws_par2 3 4 rfl rfl (by decide) rfl rfl (fr_cons (ev_ix (fun _ _ => rfl) (ev_var 0 rfl (.inl rfl) rfl (ev_int ⟨_, _, rfl, rfl, ⟨rfl, (fr_new (fr_nil ⟨by simp [Sv.isL], ⟨rfl, ?_⟩⟩))⟩⟩)))) (fun env hk hn => by unfold swappedStores Env.blockKind Env.kindOf; rw [hk, hn]; rfl))
  refine ws_while (fun m ρ' => ∃ (L : List (Nat × Rat)) (x : Rat) (y1 y2 : Option Sv), ρ' = [some c.sv, some (.tup ((secs c R).map secS)), some (.int 60), some (.q x), some (.own (L.map rowS)), y1, y2] ∧ L ++ rowsF c R (60 - L.length) x = rowsF c R 60 c.top ∧ L.length ≤ 60 ∧ m = 60 - L.length ∧ (0 < x ∧ x ≤ c.top) ∧ Bz (10 + L.length * 1800) x ∧ okO y1 = true ∧ okO y2 = true) 60 ⟨[], c.top, none, none, rfl, rfl, by decide, rfl, ⟨by grind, by grind⟩, h.co.btop, rfl, rfl⟩ ?_
  rintro m ρ' ⟨L, x, y1, y2, rfl, hL, hl, rfl, ⟨x0, xt⟩, bx, hy1, hy2⟩
  have p1 : Sb c.foot x := ⟨_, _, h.co.bfoot, bx, by omega⟩
  have stop : ¬ c.foot < x ∨ ¬ L.length < 60 → rowsF c R (60 - L.length) x = [] := fun q => by
    cases e : 60 - L.length with
    | zero => rfl
    | succ f =>
      rw [rowsF, if_neg]
      rcases q with q | q
      · exact q
      · omega
  refine (et_w (ew_and (et_val (fun _ _ => rfl) (ev_callf (f23 M) rfl (ea_cons (ev_ix (fun _ _ => rfl) (ev_var 0 rfl (.inl rfl) rfl (ev_int ⟨_, _, rfl, rfl, (ea_cons (ev_var 3 rfl (.inl rfl) rfl (ea_nil ⟨(_, _), rfl, p1, ⟨_, rfl, (ite_dec (fun h1 => (ew_and1 (et_lt (ev_len rfl (M.fr _ (memF 104)) (ev_var 4 rfl (.inl rfl) rfl ⟨_, rfl, ⟨_, rfl, (ev_var 2 rfl (.inl rfl) rfl ⟨_, rfl, ?_⟩)⟩⟩))))) (fun h1 => ?_))⟩⟩)))⟩))))))))
  · have h1 : c.foot < x := h1
    refine ite_dec (fun hlt => ?_) (fun hge => ?_)
    · have hlt : L.length < 60 := by rw [List.length_map] at hlt; omega
      obtain ⟨r1, r2⟩ := h.rng x h1 xt
      have p2 : SS (secs c R) ∧ ∃ n, Bz n x ∧ n ≤ 240000 := ⟨h.ss, _, bx, by omega⟩
      have bh : Bz (1779 + (10 + L.length * 1800)) (low c R x).2 := bz_low h.ss bx _ (by omega)
      have p3 : Sx c.a (low c R x).2 ∧ 0 ≤ (low c R x).2 ∧ (low c R x).2 ≤ 1 := ⟨⟨h.co.a1, _, _, h.co.ba, bh, by omega, by omega⟩, by grind, by grind⟩
      refine (ws_tup (is := [5, 6]) (.cons rfl (.inl rfl) (.cons rfl (.inl rfl) .nil)) (ev_callf (f54 M) rfl (ea_cons (ev_var 1 rfl (.inl rfl) rfl (ea_cons (ev_var 3 rfl (.inl rfl) rfl (ea_nil ⟨(_, _), rfl, p2, ⟨_, rfl, rfl, by simp [Sv.isL], ?_⟩⟩)))))))
      refine (ws_set 3 rfl (.inl rfl) (ev_callf (f26 M) rfl (ea_cons (ev_ix (fun _ _ => rfl) (ev_var 0 rfl (.inl rfl) rfl (ev_int ⟨_, _, rfl, rfl, (ea_cons (ev_var 6 rfl (.inl rfl) rfl (ea_nil ⟨(_, _), rfl, p3, ⟨.inl rfl, ?_⟩⟩)))⟩))))))
      refine (ws_app 4 rfl (.inl rfl) rfl (flat_rows _) (by rw [List.length_map]; omega) (ev_tup (ea_cons (ev_var 5 rfl (.inl rfl) rfl (ea_cons (ev_var 3 rfl (.inl rfl) rfl (ea_nil ⟨by simp [sizeLine_eq], ⟨rfl, rfl, ?_⟩⟩)))))) (hfr_of (by simp [okO_s, hy1, hy2, Sv.fl, Sv.flat, Sv.flatL, K39.sets, Col.sv, flat_fds, flat_rows, flat_secs, -List.map_map])))
      refine (ws_nil ?_)
      have e : 60 - L.length = (60 - (L.length + 1)) + 1 := by omega
      rw [e, rowsF, if_pos h1] at hL
      have lr := liq_rng h.co.a1 (x := (low c R x).2) (by grind) p3.2.2
      have ll := liq_le h.co.a1 p3.2.1 p3.2.2
      refine ⟨60 - (L.length + 1), by omega, L ++ [((low c R x).1, liq c.a (low c R x).2)], liq c.a (low c R x).2, some (.int ((low c R x).1 : Int)), some (.q (low c R x).2), ?_, ?_, ?_, ?_, ⟨lr.1, by grind⟩, ?_, rfl, rfl⟩
      · rw [List.map_append]; rfl
      · rw [List.length_append, List.append_assoc]; exact hL
      · rw [List.length_append]; exact hlt
      · rw [List.length_append]; rfl
      · refine (h.co.ba.liq bh h.co.a1 p3.2.1 p3.2.2).mono ?_
        rw [List.length_append, List.length_singleton, Nat.succ_mul]
        omega
    · have hge : ¬ L.length < 60 := by rw [List.length_map] at hge; omega
      rw [stop (.inr hge), List.append_nil] at hL
      refine (ws_ret (ev_tuple rfl (M.fr _ (memF 103)) (ev_var 4 rfl (.inl rfl) rfl (.inl ⟨_, rfl, ?_⟩))))
      rw [hL]
  · have h1 : ¬ c.foot < x := h1
    refine ite_f ?_
    rw [stop (.inl h1), List.append_nil] at hL
    refine (ws_ret (ev_tuple rfl (M.fr _ (memF 103)) (ev_var 4 rfl (.inl rfl) rfl (.inl ⟨_, rfl, ?_⟩))))
    rw [hL]
theorem sg61 : Sig d61 "best_of" ["column", "reflux", "sections", "rows"] ["column", "reflux"] := ⟨memN 42, rfl, memF 42, rfl, rfl, ⟨rfl, rfl, rfl, by decide +kernel, rfl, by decide +kernel, by decide +kernel⟩, fun _ _ _ _ _ _ us hl => match us, hl with | [_, _], _ => rfl⟩
theorem f61 (M : Md K mg) : Fn P w K mg base "best_of" 11 ["column", "reflux"] (Pm K (α := Col × Rat) (fun | (c, R) => [c.sv, .q R]) (fun | (c, R) => Bok c R) (fun | (c, R) => fun r => r = .tup ((rowsF c R 60 c.top).map rowS))) := by
  refine mk M sg61 (fun _ => rfl) (fun z hz => noO2 rfl rfl) fun s ⟨c, R⟩ hg => ?_
  have h : Bok c R := hg
  have hc := h.w.co
  have f52 : ∀ {P : Program} {w : World} {K : PySem.W.Frag} {mg : Str → Option Value} {base : Heap} (M : Md K mg), Fn P w K mg base "sections_of" 10 ["column", "reflux"] (Pm K (α := Col × Rat) (fun | (c, R) => [c.sv, .q R]) (fun | (c, R) => Wok c R) (fun | (c, R) => fun r => r = .tup ((secs c R).map secS))) := fun M =>
    Fn.weak (fun z => z) (f52 M) fun z h => by
      obtain ⟨c, R⟩ := z
      have h : Wok c R := h
      refine ⟨⟨h.co, h.r.b⟩, rfl, fun r e => ?_⟩
      have e : r = if 0 < rise c.fs c.D R then .tup ((secs c R).map secS) else .non := e
      rw [e, if_pos h.up]
  have f57 : ∀ {P : Program} {w : World} {K : PySem.W.Frag} {mg : Str → Option Value} {base : Heap} (M : Md K mg), Fn P w K mg base "parts_with" 8 ["column", "sections"] (Pm K (α := Col × Rat) (fun | (c, R) => [c.sv, .tup ((secs c R).map secS)]) (fun | (c, R) => Bok c R) (fun | (c, R) => fun r => r = .bl true)) := fun M =>
    Fn.weak (fun z => (z.1, secs z.1 z.2)) (f57 M) fun z h => by
      obtain ⟨c, R⟩ := z
      have h : Bok c R := h
      refine ⟨⟨h.w.ss, fun k hk => ?_⟩, rfl, fun r e => ?_⟩
      · exact kk1 h hk
      · exact kk2 h e
  have hrow : 0 < (rowsF c R 60 c.top).length := by
    rw [rowsF, if_pos hc.ft]
    exact Nat.succ_pos _
  have it := item_last rowS (0, 0) hrow
  have bfin : ∀ f n x, c.foot < x → x ≤ c.top → Bz n x → ∀ p ∈ rowsF c R f x, Bz (n + 1800 * f) p.2 := fun f => by
    induction f with
    | zero => intro n x _ _ _ p hp; cases hp
    | succ f ih =>
      intro n x hx xt bx p hp
      rw [rowsF, if_pos hx] at hp
      obtain ⟨r1, r2⟩ := h.w.rng x hx xt
      have f0 := hc.f0
      have t1 := hc.t1
      have bh : Bz (1779 + n) (low c R x).2 := bz_low h.w.ss bx _ (by have := h.w.ss.ne; omega)
      have bl := (hc.ba.liq bh hc.a1 (by grind) (by grind))
      have ll := liq_le hc.a1 (x := (low c R x).2) (by grind) (by grind)
      rcases List.mem_cons.mp hp with hp | hp
      · subst hp
        exact bl.mono (by omega)
      · by_cases hx2 : c.foot < liq c.a (low c R x).2
        · exact (ih _ _ hx2 (by grind) bl p hp).mono (by omega)
        · cases f with
          | zero => cases hp
          | succ f => rw [rowsF, if_neg hx2] at hp; cases hp
  have bl := bfin 60 10 c.top hc.ft (by grind) hc.btop ((rowsF c R 60 c.top).getD ((rowsF c R 60 c.top).length - 1) (0, 0)) (by
    rw [List.getD_eq_getElem?_getD, List.getElem?_eq_getElem (by omega)]
    exact List.getElem_mem _)
  have p4 : Sb c.foot ((rowsF c R 60 c.top).getD ((rowsF c R 60 c.top).length - 1) (0, 0)).2 := ⟨_, _, hc.bfoot, bl, by omega⟩
  refine (ws_set 2 rfl (.inl rfl) (ev_callf (f52 M) rfl (ea_cons (ev_var 0 rfl (.inl rfl) rfl (ea_cons (ev_var 1 rfl (.inl rfl) rfl (ea_nil ⟨(_, _), rfl, h.w, ⟨.inl rfl, ?_⟩⟩)))))))
  refine (ws_if (et_w (ew_or (et_isN (ev_var 2 rfl (.inl rfl) rfl (ite_f (ew_or1 (et_not (et_val (fun _ _ => rfl) (ev_callf (f57 M) rfl (ea_cons (ev_var 0 rfl (.inl rfl) rfl (ea_cons (ev_var 2 rfl (.inl rfl) rfl (ea_nil ⟨(_, _), rfl, h, ⟨_, rfl, (ite_f (ws_nil (ws_set 3 rfl (.inl rfl) (ev_callf (f60 M) rfl (ea_cons (ev_var 0 rfl (.inl rfl) rfl (ea_cons (ev_var 2 rfl (.inl rfl) rfl (ea_cons (ev_gi rfl M.plates (ea_nil ⟨(c, R), rfl, h.w, ⟨.inl rfl, (ws_if (et_val (fun _ _ => rfl) (ev_callf (f23 M) rfl (ea_cons (ev_ix (fun _ _ => rfl) (ev_var 0 rfl (.inl rfl) rfl (ev_int ⟨_, _, rfl, rfl, (ea_cons (ev_ix (fun _ _ => rfl) (ev_ix (fun _ _ => rfl) (ev_var 3 rfl (.inl rfl) rfl (ev_neg (ev_int ⟨_, rfl, ⟨_, _, rfl, it, (ev_int ⟨_, _, rfl, rfl, (ea_nil ⟨(_, _), rfl, p4, ⟨_, rfl, (ite_dec (fun h1 => ?_) (fun h1 => (ws_nil (ws_ret (ev_var 3 rfl (.inl rfl) rfl rfl)))))⟩⟩)⟩)⟩⟩))))))⟩)))))))⟩⟩)))))))))))⟩⟩)))))))))))))))
  exact absurd h1 h.fin
theorem sg63 : Sig d63 "best_walk" ["column", "reflux"] ["column", "reflux"] := ⟨memN 44, rfl, memF 44, rfl, rfl, ⟨rfl, rfl, rfl, by decide +kernel, rfl, by decide +kernel, by decide +kernel⟩, fun _ _ _ _ _ _ us hl => match us, hl with | [_, _], _ => rfl⟩
theorem f63 (M : Md K mg) : Fn P w K mg base "best_walk" 12 ["column", "reflux"] (Pm K (α := Col × Rat) (fun | (c, R) => [c.sv, .q R]) (fun | (c, R) => Bok c R) (fun | (c, R) => fun r => r = .tup ((rowsF c R 60 c.top).map rowS))) := by
  refine mk M sg63 (fun _ => rfl) (fun z hz => noO2 rfl rfl) fun s ⟨c, R⟩ hg => ?_
  have h : Bok c R := hg
  exact (ws_exp (ev_callf (f50 M) rfl (ea_cons (ev_var 0 rfl (.inl rfl) rfl (ea_cons (ev_var 1 rfl (.inl rfl) rfl (ea_nil ⟨(_, _), rfl, ⟨h.w.co, h.w.r.pos⟩, (ws_ret (ev_callf (f61 M) rfl (ea_cons (ev_var 0 rfl (.inl rfl) rfl (ea_cons (ev_var 1 rfl (.inl rfl) rfl (ea_nil ⟨(_, _), rfl, h, rfl⟩)))))))⟩)))))))
theorem sg64 : Sig d64 "fewest_plates" ["column", "reflux", "rows"] ["column", "reflux"] := ⟨memN 45, rfl, memF 45, rfl, rfl, ⟨rfl, rfl, rfl, by decide +kernel, rfl, by decide +kernel, by decide +kernel⟩, fun _ _ _ _ _ _ us hl => match us, hl with | [_, _], _ => rfl⟩
theorem f64 (M : Md K mg) : Fn P w K mg base "fewest_plates" 12 ["column", "reflux"] (Pm K (α := Col × Rat) (fun | (c, R) => [c.sv, .q R]) (fun | (c, R) => Bok c R) (fun | (c, R) => fun r => r = .int ((rowsF c R 60 c.top).length : Int))) := by
  refine mk M sg64 (fun _ => rfl) (fun z hz => noO2 rfl rfl) fun s ⟨c, R⟩ hg => ?_
  have h : Bok c R := hg
  exact (ws_exp (ev_callf (f50 M) rfl (ea_cons (ev_var 0 rfl (.inl rfl) rfl (ea_cons (ev_var 1 rfl (.inl rfl) rfl (ea_nil ⟨(_, _), rfl, ⟨h.w.co, h.w.r.pos⟩, (ws_set 2 rfl (.inl rfl) (ev_callf (f61 M) rfl (ea_cons (ev_var 0 rfl (.inl rfl) rfl (ea_cons (ev_var 1 rfl (.inl rfl) rfl (ea_nil ⟨(_, _), rfl, h, ⟨.inl rfl, (ws_ret (ev_if (et_isN (ev_var 2 rfl (.inl rfl) rfl (ite_f (ev_len rfl (M.fr _ (memF 104)) (ev_var 2 rfl (.inl rfl) rfl ⟨_, rfl, by rw [List.length_map]⟩)))))))⟩⟩)))))))⟩)))))))
end
end K39
end
section
set_option Elab.async false
set_option linter.all false
/-! Q3: the plain law of lines, the envelope, kinks. -/
namespace K39
theorem foldl_add (l : List Rat) : ∀ s : Rat, l.foldl (· + ·) s = s + tot l := by
  induction l with
  | nil => intro s; show s = s + 0; grind
  | cons x l ih =>
    intro s
    show l.foldl (· + ·) (s + x) = s + l.foldl (· + ·) (0 + x)
    rw [ih, ih (0 + x)]
    grind
theorem tot_cons (x : Rat) (l : List Rat) : tot (x :: l) = x + tot l := by
  show l.foldl (· + ·) (0 + x) = _
  rw [foldl_add]; grind
theorem tot_app (l m : List Rat) : tot (l ++ m) = tot l + tot m := by
  unfold tot; rw [List.foldl_append, foldl_add]; rfl
/-- sums over feeds: A (s - x) -/
def mom (fs : List Fd) (x : Rat) : Rat := lgt fs - x * amt fs
theorem mom_nil (x : Rat) : mom [] x = 0 := by
  show (0 : Rat) - x * 0 = 0; grind
theorem mom_cons (f : Fd) (fs : List Fd) (x : Rat) : mom (f :: fs) x = f.1 * (f.2.1 - x) + mom fs x := by
  unfold mom lgt amt
  rw [List.map_cons, List.map_cons, tot_cons, tot_cons]; grind
theorem mom_app (l m : List Fd) (x : Rat) : mom (l ++ m) x = mom l x + mom m x := by
  unfold mom lgt amt
  rw [List.map_append, List.map_append, tot_app, tot_app]; grind
theorem mom_nonneg {fs : List Fd} {x : Rat} (h : ∀ f ∈ fs, 0 ≤ f.1 ∧ x ≤ f.2.1) : 0 ≤ mom fs x := by
  induction fs with
  | nil => rw [mom_nil]; exact Rat.le_refl
  | cons f fs ih =>
    rw [mom_cons]
    obtain ⟨h1, h2⟩ := h f List.mem_cons_self
    exact Rat.add_nonneg (Rat.mul_nonneg h1 (by grind)) (ih fun g hg => h g (List.mem_cons_of_mem _ hg))
theorem mom_pos {fs : List Fd} {x : Rat} (hne : fs ≠ []) (h : ∀ f ∈ fs, 0 < f.1 ∧ x < f.2.1) : 0 < mom fs x := by
  cases fs with
  | nil => exact absurd rfl hne
  | cons f fs =>
    rw [mom_cons]
    obtain ⟨h1, h2⟩ := h f List.mem_cons_self
    have p1 : 0 < f.1 * (f.2.1 - x) := Rat.mul_pos h1 (by grind)
    have p2 : 0 ≤ mom fs x := mom_nonneg fun g hg => let ⟨a, b⟩ := h g (List.mem_cons_of_mem _ hg); ⟨Rat.le_of_lt a, Rat.le_of_lt b⟩
    grind
theorem mom_neg {fs : List Fd} {x : Rat} (hne : fs ≠ []) (h : ∀ f ∈ fs, 0 < f.1 ∧ f.2.1 < x) : mom fs x < 0 := by
  induction fs with
  | nil => exact absurd rfl hne
  | cons f fs ih =>
    rw [mom_cons]
    obtain ⟨h1, h2⟩ := h f List.mem_cons_self
    have p1 : 0 < f.1 * (x - f.2.1) := Rat.mul_pos h1 (by grind)
    by_cases e : fs = []
    · subst e; rw [mom_nil]; grind
    · have := ih e fun g hg => h g (List.mem_cons_of_mem _ hg)
      grind
theorem wet_cons (f : Fd) (fs : List Fd) : wet (f :: fs) = f.1 * f.2.2 + wet fs := by unfold wet; rw [List.map_cons, tot_cons]
theorem amt_cons (f : Fd) (fs : List Fd) : amt (f :: fs) = f.1 + amt fs := by unfold amt; rw [List.map_cons, tot_cons]
theorem dry_nil : dry [] = 0 := by show (0 : Rat) - 0 = 0; grind
theorem wet_nil : wet [] = 0 := rfl
theorem dry_cons (f : Fd) (fs : List Fd) : dry (f :: fs) = f.1 * (1 - f.2.2) + dry fs := by unfold dry; rw [amt_cons, wet_cons]; grind
theorem wet_app (l m : List Fd) : wet (l ++ m) = wet l + wet m := by unfold wet; rw [List.map_append, tot_app]
theorem amt_app (l m : List Fd) : amt (l ++ m) = amt l + amt m := by unfold amt; rw [List.map_append, tot_app]
theorem lgt_app (l m : List Fd) : lgt (l ++ m) = lgt l + lgt m := by unfold lgt; rw [List.map_append, tot_app]
theorem dry_app (l m : List Fd) : dry (l ++ m) = dry l + dry m := by unfold dry; rw [amt_app, wet_app]; grind
def Fq (fs : List Fd) : Prop := ∀ f ∈ fs, 0 < f.1 ∧ 0 ≤ f.2.2 ∧ f.2.2 ≤ 1
theorem wet_nonneg {fs : List Fd} (h : Fq fs) : 0 ≤ wet fs := by
  induction fs with
  | nil => exact Rat.le_refl
  | cons f fs ih =>
    rw [wet_cons]
    obtain ⟨h1, h2, _⟩ := h f List.mem_cons_self
    exact Rat.add_nonneg (Rat.mul_nonneg (Rat.le_of_lt h1) h2) (ih fun g hg => h g (List.mem_cons_of_mem _ hg))
theorem dry_nonneg {fs : List Fd} (h : Fq fs) : 0 ≤ dry fs := by
  induction fs with
  | nil => rw [dry_nil]; exact Rat.le_refl
  | cons f fs ih =>
    rw [dry_cons]
    obtain ⟨h1, _, h2⟩ := h f List.mem_cons_self
    exact Rat.add_nonneg (Rat.mul_nonneg (Rat.le_of_lt h1) (by grind)) (ih fun g hg => h g (List.mem_cons_of_mem _ hg))
theorem Cok.fq {c : Col} (h : Cok c) : Fq c.fs := fun f hf => let ⟨h1, _, _, h4, h5⟩ := h.feed f hf; ⟨h1, h4, h5⟩
theorem Fq.take {fs : List Fd} (h : Fq fs) (k : Nat) : Fq (fs.take k) := fun f hf => h f (List.mem_of_mem_take hf)
theorem Fq.drop {fs : List Fd} (h : Fq fs) (k : Nat) : Fq (fs.drop k) := fun f hf => h f (List.mem_of_mem_drop hf)
section
variable {c : Col} {R : Rat}
theorem Cok.D_eq (h : Cok c) : c.D * (c.top - c.foot) = mom c.fs c.foot := by
  unfold Col.D mom
  exact Rat.div_mul_cancel (sub_ne h.ft)
theorem Cok.D_pos (h : Cok c) : 0 < c.D := by
  have hp := mom_pos (x := c.foot) h.ne fun f hf => let ⟨h1, h2, _⟩ := h.feed f hf; ⟨h1, h2⟩
  rw [← h.D_eq] at hp
  have ht : 0 < c.top - c.foot := by have := h.ft; grind
  exact (Rat.mul_pos_iff_of_pos_right ht).mp hp
/-- the rise of a line over the diagonal, times its vapour -/
def rho (c : Col) (k : Nat) (x : Rat) : Rat := c.D * (c.top - x) - mom (c.fs.take k) x
theorem rho_lin (c : Col) (k : Nat) (x : Rat) : rho c k x = rho c k 0 + (amt (c.fs.take k) - c.D) * x := by
  unfold rho mom; grind
theorem Cok.rho_top (h : Cok c) (k : Nat) (hk : 0 < k) : 0 < rho c k c.top := by
  unfold rho
  have hne : c.fs.take k ≠ [] := by
    have := h.ne
    cases q : c.fs with
    | nil => exact absurd q this
    | cons f fs =>
      cases k with
      | zero => omega
      | succ k => simp
  have := mom_neg (x := c.top) hne fun f hf => let ⟨h1, _, h3, _⟩ := h.feed f (List.mem_of_mem_take hf); ⟨h1, h3⟩
  grind
theorem rho_top0 (c : Col) : rho c 0 c.top = 0 := by
  unfold rho
  rw [List.take_zero, mom_nil]; grind
theorem Cok.rho_foot (h : Cok c) (k : Nat) : rho c k c.foot = mom (c.fs.drop k) c.foot := by
  unfold rho
  have e : mom c.fs c.foot = mom (c.fs.take k) c.foot + mom (c.fs.drop k) c.foot := by rw [← mom_app, List.take_append_drop]
  have := h.D_eq
  grind
theorem Cok.rho_foot_pos (h : Cok c) (k : Nat) (hk : k < c.fs.length) : 0 < rho c k c.foot := by
  rw [h.rho_foot]
  refine mom_pos (fun e => ?_) fun f hf => let ⟨h1, h2, _⟩ := h.feed f (List.mem_of_mem_drop hf); ⟨h1, h2⟩
  have := congrArg List.length e
  rw [List.length_drop] at this
  simp at this
  omega
theorem Cok.rho_foot_nonneg (h : Cok c) (k : Nat) : 0 ≤ rho c k c.foot := by
  rw [h.rho_foot]
  exact mom_nonneg fun f hf => let ⟨h1, h2, _⟩ := h.feed f (List.mem_of_mem_drop hf); ⟨Rat.le_of_lt h1, Rat.le_of_lt h2⟩
theorem Cok.rho_foot_last (h : Cok c) : rho c c.fs.length c.foot = 0 := by
  rw [h.rho_foot, List.drop_length, mom_nil]
theorem Cok.rho_top_nonneg (h : Cok c) (k : Nat) : 0 ≤ rho c k c.top := by
  cases k with
  | zero => rw [rho_top0]; exact Rat.le_refl
  | succ k => exact Rat.le_of_lt (h.rho_top _ (Nat.succ_pos k))
/-- inside, the rise is above nought -/
theorem Cok.rho_in (h : Cok c) (k : Nat) {x : Rat} (h1 : c.foot < x) (h2 : x < c.top) : 0 < rho c k x := by
  have e : (c.top - c.foot) * rho c k x = (x - c.foot) * rho c k c.top + (c.top - x) * rho c k c.foot := by
    rw [rho_lin c k x, rho_lin c k c.top, rho_lin c k c.foot]; grind
  have ht : 0 < c.top - c.foot := by have := h.ft; grind
  refine (Rat.mul_pos_iff_of_pos_left ht).mp ?_
  rw [e]
  have a1 : 0 < x - c.foot := by grind
  have a2 : 0 < c.top - x := by grind
  cases k with
  | zero =>
    have p := Rat.mul_pos a2 (h.rho_foot_pos 0 (List.length_pos_iff.mpr h.ne))
    have q := Rat.mul_nonneg (Rat.le_of_lt a1) (h.rho_top_nonneg 0)
    grind
  | succ k =>
    have p := Rat.mul_pos a1 (h.rho_top (k + 1) (Nat.succ_pos k))
    have q := Rat.mul_nonneg (Rat.le_of_lt a2) (h.rho_foot_nonneg (k + 1))
    grind
/-- the floor: reflux above it, all lines flow -/
def Stm (c : Col) (R : Rat) : Prop := 0 < R ∧ 0 < (R + 1) * c.D - dry c.fs
theorem Stm.u (h : Cok c) (s : Stm c R) (k : Nat) : 0 < (sec c R k).2.1 := by
  show 0 < (R + 1) * c.D - dry (c.fs.take k)
  have e : dry c.fs = dry (c.fs.take k) + dry (c.fs.drop k) := by rw [← dry_app, List.take_append_drop]
  have := dry_nonneg (h.fq.drop k)
  have := s.2
  grind
theorem Stm.d (h : Cok c) (s : Stm c R) (k : Nat) : 0 < (sec c R k).2.2.1 := by
  show 0 < R * c.D + wet (c.fs.take k)
  have := wet_nonneg (h.fq.take k)
  have := Rat.mul_pos s.1 h.D_pos
  grind
theorem ht_eq (h : Cok c) (s : Stm c R) (k : Nat) (x : Rat) : ht (sec c R k) x = x + rho c k x / (sec c R k).2.1 := by
  have hu := Stm.u h s k
  unfold ht
  have e : (sec c R k).2.2.1 * x + (sec c R k).2.2.2 = (sec c R k).2.1 * x + rho c k x := by
    show (R * c.D + wet (c.fs.take k)) * x + (c.D * c.top - lgt (c.fs.take k)) = ((R + 1) * c.D - dry (c.fs.take k)) * x + (c.D * (c.top - x) - (lgt (c.fs.take k) - x * amt (c.fs.take k)))
    unfold dry; grind
  rw [e]
  grind
theorem div_pos' {a b : Rat} (ha : 0 < a) (hb : 0 < b) : 0 < a / b := (Rat.lt_div_iff hb).mpr (by grind)
theorem div_nonneg' {a b : Rat} (ha : 0 ≤ a) (hb : 0 < b) : 0 ≤ a / b := by
  rcases Rat.le_iff_lt_or_eq.mp ha with h | h
  · exact Rat.le_of_lt (div_pos' h hb)
  · rw [← h]; grind
theorem sec_slope (h : Cok c) (s : Stm c R) {k : Nat} (hk : k < c.fs.length) : slp (sec c R k) < slp (sec c R (k + 1)) := by
  have u1 := Stm.u h s k
  have u2 := Stm.u h s (k + 1)
  have d1 := Stm.d h s k
  unfold slp
  refine (Rat.div_lt_iff u1).mpr ?_
  have e : (sec c R (k + 1)).2.2.1 / (sec c R (k + 1)).2.1 * (sec c R k).2.1 = ((sec c R (k + 1)).2.2.1 * (sec c R k).2.1) / (sec c R (k + 1)).2.1 := by grind
  rw [e]
  refine (Rat.lt_div_iff u2).mpr ?_
  have t : c.fs.take (k + 1) = c.fs.take k ++ [c.fs[k]] := by rw [List.take_succ, List.getElem?_eq_getElem hk]; rfl
  obtain ⟨a0, q0, q1⟩ := h.fq c.fs[k] (List.getElem_mem hk)
  generalize c.fs[k] = f at *
  have w : wet [f] = f.1 * f.2.2 := by rw [wet_cons, wet_nil]; grind
  have dd : dry [f] = f.1 * (1 - f.2.2) := by rw [dry_cons, dry_nil]; grind
  have ed : (sec c R (k + 1)).2.2.1 = (sec c R k).2.2.1 + f.1 * f.2.2 := by
    show R * c.D + wet (c.fs.take (k + 1)) = R * c.D + wet (c.fs.take k) + f.1 * f.2.2
    rw [t, wet_app, w]; grind
  have eu : (sec c R (k + 1)).2.1 = (sec c R k).2.1 - f.1 * (1 - f.2.2) := by
    show (R + 1) * c.D - dry (c.fs.take (k + 1)) = (R + 1) * c.D - dry (c.fs.take k) - f.1 * (1 - f.2.2)
    rw [t, dry_app, dd]; grind
  rw [ed, eu]
  generalize (sec c R k).2.2.1 = d at *
  generalize (sec c R k).2.1 = u at *
  have p1 : 0 ≤ f.1 * f.2.2 * u := Rat.mul_nonneg (Rat.mul_nonneg (Rat.le_of_lt a0) q0) (Rat.le_of_lt u1)
  have p2 : 0 ≤ f.1 * (1 - f.2.2) * d := Rat.mul_nonneg (Rat.mul_nonneg (Rat.le_of_lt a0) (by grind)) (Rat.le_of_lt d1)
  have p3 : 0 < f.1 * f.2.2 * u + f.1 * (1 - f.2.2) * d := by
    by_cases z : f.2.2 = 0
    · rw [z]
      have := Rat.mul_pos a0 d1
      grind
    · have q2 : 0 < f.2.2 := by grind
      have := Rat.mul_pos (Rat.mul_pos a0 q2) u1
      grind
  grind
theorem sec_slopes (h : Cok c) (s : Stm c R) : ∀ (j i : Nat), i < j → j ≤ c.fs.length → slp (sec c R i) < slp (sec c R j)
  | 0, i, hij, _ => by omega
  | j + 1, i, hij, hj => by
    have q := sec_slope h s (k := j) (by omega)
    by_cases e : i = j
    · subst e; exact q
    · have := sec_slopes h s j i (by omega) (by omega)
      grind
theorem secs_len (c : Col) (R : Rat) : (secs c R).length = c.fs.length + 1 := by unfold secs; rw [List.length_map, List.length_range]
theorem sAt_secs {i : Nat} (hi : i ≤ c.fs.length) : sAt (secs c R) i = sec c R i := by
  unfold secs
  rw [sAt, List.getD_eq_getElem?_getD, List.getElem?_map, List.getElem?_range (by omega)]
  rfl
theorem ss_of (h : Cok c) (r : Bz 600 R) (s : Stm c R) : SS (secs c R) := by
  refine ⟨fun t ht => ?_, by rw [secs_len]; omega, by rw [secs_len]; have := h.fso.len; omega, fun i j hij hj => ?_⟩
  · unfold secs at ht
    obtain ⟨k, _, rfl⟩ := List.mem_map.mp ht
    exact h.sec ⟨s.1, r⟩ k (Stm.u h s k) (Stm.d h s k)
  · rw [secs_len] at hj
    rw [sAt_secs (by omega), sAt_secs (by omega)]
    exact sec_slopes h s j i hij (by omega)
/-! ### the lowest line -/
theorem lowG_le (f : Nat → Rat) : ∀ n k, k ≤ n → (lowG f n).2 ≤ f k
  | 0, k, h => by
    have : k = 0 := by omega
    subst this
    exact Rat.le_refl
  | n + 1, k, h => by
    unfold lowG
    split
    · rename_i q
      by_cases e : k = n + 1
      · subst e; exact Rat.le_refl
      · have := lowG_le f n k (by omega)
        grind
    · rename_i q
      by_cases e : k = n + 1
      · subst e; grind
      · exact lowG_le f n k (by omega)
theorem lowG_in (f : Nat → Rat) : ∀ n, (lowG f n).1 ≤ n ∧ (lowG f n).2 = f (lowG f n).1
  | 0 => ⟨Nat.le_refl _, rfl⟩
  | n + 1 => by
    unfold lowG
    split
    · exact ⟨Nat.le_refl _, rfl⟩
    · have := lowG_in f n
      exact ⟨by omega, this.2⟩
theorem low_le (c : Col) (R x : Rat) (k : Nat) (hk : k ≤ c.fs.length) : (low c R x).2 ≤ ht (sec c R k) x := by
  have q := lowG_le (fun i => ht (sAt (secs c R) i) x) ((secs c R).length - 1) k (by rw [secs_len]; omega)
  rw [sAt_secs hk] at q
  exact q
theorem low_in (c : Col) (R x : Rat) : ∃ k, k ≤ c.fs.length ∧ (low c R x).2 = ht (sec c R k) x := by
  have e : (secs c R).length - 1 = c.fs.length := by rw [secs_len]; omega
  obtain ⟨h1, h2⟩ := lowG_in (fun i => ht (sAt (secs c R) i) x) c.fs.length
  refine ⟨_, h1, ?_⟩
  show (lowG (fun i => ht (sAt (secs c R) i) x) ((secs c R).length - 1)).2 = _
  rw [e, h2, sAt_secs h1]
theorem low_gt (h : Cok c) (s : Stm c R) {x : Rat} (h1 : c.foot < x) (h2 : x < c.top) : x < (low c R x).2 := by
  obtain ⟨k, _, e⟩ := low_in c R x
  rw [e, ht_eq h s]
  have := div_pos' (h.rho_in k h1 h2) (Stm.u h s k)
  grind
theorem low_0 (h : Cok c) (s : Stm c R) (x : Rat) : ht (sec c R 0) x = x + (c.top - x) / (R + 1) := by
  rw [ht_eq h s]
  have e1 : rho c 0 x = c.D * (c.top - x) := by unfold rho; rw [List.take_zero, mom_nil]; grind
  have e2 : (sec c R 0).2.1 = (R + 1) * c.D := by show (R + 1) * c.D - dry (c.fs.take 0) = _; rw [List.take_zero, dry_nil]; grind
  rw [e1, e2]
  have := h.D_pos
  have hR := s.1
  have e3 : c.D * (c.top - x) / ((R + 1) * c.D) = (c.top - x) / (R + 1) := by
    rw [Rat.mul_comm c.D]
    exact div_same (by grind) (by grind)
  rw [e3]
theorem low_top (h : Cok c) (s : Stm c R) : (low c R c.top).2 = c.top := by
  obtain ⟨k, _, e⟩ := low_in c R c.top
  have q := low_le c R c.top 0 (Nat.zero_le _)
  rw [low_0 h s] at q
  have z : (c.top - c.top) / (R + 1) = 0 := by grind
  rw [z] at q
  have p := div_nonneg' (h.rho_top_nonneg k) (Stm.u h s k)
  rw [ht_eq h s] at e
  grind
theorem low_rng (h : Cok c) (s : Stm c R) {x : Rat} (h1 : c.foot < x) (h2 : x ≤ c.top) : x ≤ (low c R x).2 ∧ (low c R x).2 ≤ c.top := by
  rcases Rat.le_iff_lt_or_eq.mp h2 with h3 | h3
  · refine ⟨Rat.le_of_lt (low_gt h s h1 h3), ?_⟩
    have q := low_le c R x 0 (Nat.zero_le _)
    rw [low_0 h s] at q
    have hR := s.1
    have p : (c.top - x) / (R + 1) ≤ c.top - x := by
      have : ¬ c.top - x < (c.top - x) / (R + 1) := fun z => by
        have := (Rat.lt_div_iff (show 0 < R + 1 by grind)).mp z
        have := Rat.mul_pos hR (show 0 < c.top - x by grind)
        grind
      grind
    grind
  · rw [h3, low_top h s]
    exact ⟨Rat.le_refl, Rat.le_refl⟩
end
end K39
end
section
set_option Elab.async false
set_option linter.all false
/-! Q4: kinks lie inside; walks compared. -/
namespace K39
theorem ht_gap {s l : Sec} (u1 : 0 < s.2.1) (u2 : 0 < l.2.1) (hs : slp s < slp l) (x : Rat) : ht l x - ht s x = (slp l - slp s) * (x - crs s l) := by
  have e1 : ∀ t : Sec, 0 < t.2.1 → ht t x = slp t * x + t.2.2.2 / t.2.1 := fun t h => by unfold ht slp; grind
  rw [e1 s u1, e1 l u2]
  have hne : slp l - slp s ≠ 0 := by grind
  have e2 : (slp l - slp s) * crs s l = s.2.2.2 / s.2.1 - l.2.2.2 / l.2.1 := by
    unfold crs
    show (slp l - slp s) * ((s.2.2.2 / s.2.1 - l.2.2.2 / l.2.1) / (slp l - slp s)) = _
    rw [Rat.mul_comm]
    exact Rat.div_mul_cancel hne
  grind
theorem nxt_max (cr : Nat → Nat → Rat) (u : Nat) : ∀ t j, u < j → j ≤ u + 1 + t → cr u j ≤ cr u (nxt cr u t)
  | 0, j, h1, h2 => by
    have : j = u + 1 := by omega
    subst this
    exact Rat.le_refl
  | t + 1, j, h1, h2 => by
    unfold nxt
    split
    · rename_i q
      by_cases e : j = u + 2 + t
      · subst e; exact Rat.le_of_lt q
      · exact nxt_max cr u t j h1 (by omega)
    · rename_i q
      by_cases e : j = u + 2 + t
      · subst e; exact Rat.le_refl
      · have := nxt_max cr u t j h1 (by omega)
        grind
section
variable {c : Col} {R : Rat}
theorem gapI (h : Cok c) (s : Stm c R) {i j : Nat} (hij : i < j) (hj : j ≤ c.fs.length) (x : Rat) : slp (sec c R i) < slp (sec c R j) ∧ ht (sec c R j) x - ht (sec c R i) x = (slp (sec c R j) - slp (sec c R i)) * (x - crI (secs c R) i j) := by
  have q := sec_slopes h s j i hij hj
  refine ⟨q, ?_⟩
  unfold crI
  rw [sAt_secs (by omega), sAt_secs hj]
  exact ht_gap (Stm.u h s i) (Stm.u h s j) q x
theorem kkF_rng (h : Cok c) (s : Stm c R) : ∀ (f u : Nat), (∀ l, u < l → l ≤ c.fs.length → crI (secs c R) u l < c.top) → ∀ p ∈ kkF (crI (secs c R)) c.fs.length f u, c.foot < crI (secs c R) p.1 p.2 ∧ crI (secs c R) p.1 p.2 < c.top
  | 0, u, _, p, hp => by cases hp
  | f + 1, u, hu, p, hp => by
    rw [kkF] at hp
    split at hp
    · rename_i hlt
      have nb := nxt_lt (crI (secs c R)) u (c.fs.length - u - 1)
      have mx := nxt_max (crI (secs c R)) u (c.fs.length - u - 1)
      generalize nxt (crI (secs c R)) u (c.fs.length - u - 1) = l at *
      rcases List.mem_cons.mp hp with hp | hp
      · subst hp
        refine ⟨?_, hu l (by omega) (by omega)⟩
        have m := mx c.fs.length hlt (by omega)
        obtain ⟨g1, g2⟩ := gapI h s hlt (Nat.le_refl _) c.foot
        have b := div_pos' (h.rho_foot_pos u hlt) (Stm.u h s u)
        rw [ht_eq h s, ht_eq h s, h.rho_foot_last] at g2
        have z : (0 : Rat) / (sec c R c.fs.length).2.1 = 0 := by grind
        rw [z] at g2
        show c.foot < crI (secs c R) u l
        have w : ¬ crI (secs c R) u c.fs.length ≤ c.foot := fun q => by
          have := Rat.mul_nonneg (show 0 ≤ slp (sec c R c.fs.length) - slp (sec c R u) by grind) (show 0 ≤ c.foot - crI (secs c R) u c.fs.length by grind)
          grind
        grind
      · refine kkF_rng h s f l (fun j hj1 hj2 => ?_) p hp
        obtain ⟨g1, g2⟩ := gapI h s (i := u) (j := l) (by omega) (by omega) (crI (secs c R) u l)
        obtain ⟨g3, g4⟩ := gapI h s (i := u) (j := j) (by omega) hj2 (crI (secs c R) u l)
        obtain ⟨g5, g6⟩ := gapI h s hj1 hj2 (crI (secs c R) u l)
        have m := mx j (by omega) (by omega)
        have t := hu l (by omega) (by omega)
        have p1 := Rat.mul_nonneg (show 0 ≤ slp (sec c R j) - slp (sec c R u) by grind) (show 0 ≤ crI (secs c R) u l - crI (secs c R) u j by grind)
        have z : (slp (sec c R l) - slp (sec c R u)) * (crI (secs c R) u l - crI (secs c R) u l) = 0 := by grind
        have w : ¬ crI (secs c R) u l < crI (secs c R) l j := fun q => by
          have := Rat.mul_pos (show 0 < slp (sec c R j) - slp (sec c R l) by grind) (show 0 < crI (secs c R) l j - crI (secs c R) u l by grind)
          grind
        grind
    · cases hp
theorem kink_rng (h : Cok c) (s : Stm c R) {k : Kink} (hk : k ∈ kinks (secs c R)) : (c.foot < k.2.2.1 ∧ k.2.2.1 < c.top) ∧ ∃ u, u ≤ c.fs.length ∧ k.2.2.2 = ht (sec c R u) k.2.2.1 := by
  unfold kinks at hk
  obtain ⟨p, hp, rfl⟩ := List.mem_map.mp hk
  have e : (secs c R).length - 1 = c.fs.length := by rw [secs_len]; omega
  rw [e] at hp
  have hb : p.1 ≤ c.fs.length := by
    have : ∀ {cr : Nat → Nat → Rat} {last : Nat} {f u : Nat} {p : Nat × Nat}, p ∈ kkF cr last f u → p.1 < last := fun {cr last f} => by
      induction f with
      | zero => intro u p h; cases h
      | succ f ih =>
        intro u p h
        rw [kkF] at h
        split at h
        · rename_i hu
          rcases List.mem_cons.mp h with h | h
          · subst h; exact hu
          · exact ih h
        · cases h
    exact Nat.le_of_lt (this hp)
  refine ⟨kkF_rng h s _ 0 (fun l h1 h2 => ?_) p hp, p.1, hb, ?_⟩
  · obtain ⟨g1, g2⟩ := gapI h s h1 h2 c.top
    have b := div_pos' (h.rho_top l h1) (Stm.u h s l)
    rw [ht_eq h s, ht_eq h s, rho_top0] at g2
    have z : (0 : Rat) / (sec c R 0).2.1 = 0 := by grind
    rw [z] at g2
    have w : ¬ c.top ≤ crI (secs c R) 0 l := fun q => by
      have := Rat.mul_nonneg (show 0 ≤ slp (sec c R l) - slp (sec c R 0) by grind) (show 0 ≤ crI (secs c R) 0 l - c.top by grind)
      grind
    grind
  · exact congrArg (fun t => ht t (crs (sAt (secs c R) p.1) (sAt (secs c R) p.2))) (sAt_secs hb)
end
/-! ### liquid -/
theorem liq_den {a x : Rat} (ha : 1 < a) (h1 : x ≤ 1) : 0 < a - (a - 1) * x := by
  have := Rat.mul_nonneg (show 0 ≤ a - 1 by grind) (show 0 ≤ 1 - x by grind)
  grind
theorem liq_lt {a x : Rat} (ha : 1 < a) (h0 : 0 < x) (h1 : x < 1) : liq a x < x := by
  have hd := liq_den ha (Rat.le_of_lt h1)
  unfold liq
  refine (Rat.div_lt_iff hd).mpr ?_
  have := Rat.mul_pos h0 (Rat.mul_pos (show 0 < a - 1 by grind) (show 0 < 1 - x by grind))
  grind
theorem liq_mono {a x y : Rat} (ha : 1 < a) (h0 : 0 ≤ x) (hxy : x < y) (h1 : y ≤ 1) : liq a x < liq a y := by
  have d1 := liq_den (x := x) ha (by grind)
  have d2 := liq_den ha h1
  unfold liq
  refine (Rat.div_lt_iff d1).mpr ?_
  have e : y / (a - (a - 1) * y) * (a - (a - 1) * x) = y * (a - (a - 1) * x) / (a - (a - 1) * y) := by grind
  rw [e]
  refine (Rat.lt_div_iff d2).mpr ?_
  have := Rat.mul_pos (show 0 < a by grind) (show 0 < y - x by grind)
  grind
theorem liq_pos {a x : Rat} (ha : 1 < a) (h0 : 0 < x) (h1 : x ≤ 1) : 0 < liq a x := div_pos' h0 (liq_den ha h1)
def fL (c : Col) : Nat → Rat → List Rat
  | 0, _ => []
  | f + 1, y => if c.foot < y then liq c.a y :: fL c f (liq c.a y) else []
section
variable {c : Col} {R : Rat}
/-- the full walk lies under the other -/
theorem rows_cmp (h : Cok c) (s : Stm c R) : ∀ (f : Nat) (x y : Rat), 0 < y → y ≤ x → x < c.top → ∀ (i : Nat) (q : Rat), (fL c f y)[i]? = some q → ∃ r, (rowsF c R f x)[i]? = some r ∧ q < r.2
  | 0, x, y, _, _, _, i, q, e => by cases e
  | f + 1, x, y, hy, hyx, hx, i, q, e => by
    have t1 := h.t1
    unfold fL at e
    split at e
    · rename_i hf
      have hfx : c.foot < x := by grind
      have lg := low_gt h s hfx hx
      have lr := (low_rng h s hfx (Rat.le_of_lt hx)).2
      rw [rowsF, if_pos hfx]
      have m1 : liq c.a y < liq c.a (low c R x).2 := liq_mono h.a1 (Rat.le_of_lt hy) (by grind) (by grind)
      cases i with
      | zero =>
        have e : some (liq c.a y) = some q := e
        cases e
        exact ⟨_, rfl, m1⟩
      | succ i =>
        refine rows_cmp h s f _ _ (liq_pos h.a1 hy (by grind)) (Rat.le_of_lt m1) ?_ i q e
        have := liq_lt h.a1 (x := (low c R x).2) (by grind) (by grind)
        grind
    · cases e
theorem rows_top (h : Cok c) (s : Stm c R) (f : Nat) : rowsF c R (f + 1) c.top = ((low c R c.top).1, liq c.a c.top) :: rowsF c R f (liq c.a c.top) := by
  rw [rowsF, if_pos h.ft, low_top h s]
theorem fL_top (h : Cok c) (f : Nat) : fL c (f + 1) c.top = liq c.a c.top :: fL c f (liq c.a c.top) := by
  rw [fL, if_pos h.ft]
theorem top0 (h : Cok c) : 0 < c.top := by have := h.f0; have := h.ft; grind
theorem rows_full (h : Cok c) (s : Stm c R) (f i : Nat) {q : Rat} (hi : 0 < i) (e : (fL c f c.top)[i]? = some q) : ∃ r, (rowsF c R f c.top)[i]? = some r ∧ q < r.2 := by
  cases f with
  | zero => cases e
  | succ f =>
    rw [fL_top h] at e
    rw [rows_top h s]
    cases i with
    | zero => omega
    | succ i =>
      have t0 := top0 h
      have t1 := h.t1
      exact rows_cmp h s f _ _ (liq_pos h.a1 t0 (Rat.le_of_lt t1)) Rat.le_refl (liq_lt h.a1 t0 t1) i q e
theorem rows_len (h : Cok c) (s : Stm c R) (f : Nat) : (fL c f c.top).length ≤ (rowsF c R f c.top).length := by
  refine Nat.not_lt.mp fun hlt => ?_
  by_cases h0 : (rowsF c R f c.top).length = 0
  · cases f with
    | zero => simp [fL] at hlt
    | succ f => rw [rows_top h s] at h0; cases h0
  · obtain ⟨r, e, _⟩ := rows_full h s f (rowsF c R f c.top).length (by omega) (List.getElem?_eq_getElem hlt)
    rw [List.getElem?_eq_none (Nat.le_refl _)] at e
    cases e
/-- ended early: more fuel changes nothing, and the last lies at or under the foot -/
theorem rows_end (c : Col) (R : Rat) : ∀ (f g : Nat) (x : Rat), (rowsF c R f x).length < f → f ≤ g → rowsF c R g x = rowsF c R f x ∧ (∀ p, (rowsF c R f x).getLast? = some p → ¬ c.foot < p.2) ∧ ((rowsF c R f x) = [] → ¬ c.foot < x)
  | 0, g, x, hl, _ => by omega
  | f + 1, 0, x, _, hg => by omega
  | f + 1, g + 1, x, hl, hg => by
    by_cases hx : c.foot < x
    · have e1 : rowsF c R (f + 1) x = ((low c R x).1, liq c.a (low c R x).2) :: rowsF c R f (liq c.a (low c R x).2) := by rw [rowsF, if_pos hx]
      have e2 : rowsF c R (g + 1) x = ((low c R x).1, liq c.a (low c R x).2) :: rowsF c R g (liq c.a (low c R x).2) := by rw [rowsF, if_pos hx]
      rw [e1, List.length_cons] at hl
      obtain ⟨q1, q2, q3⟩ := rows_end c R f g (liq c.a (low c R x).2) (by omega) (by omega)
      rw [e1, e2, q1]
      refine ⟨rfl, fun p hp => ?_, fun z => by cases z⟩
      cases hL : rowsF c R f (liq c.a (low c R x).2) with
      | nil =>
        rw [hL] at hp
        cases hp
        exact q3 hL
      | cons p' l =>
        rw [hL, List.getLast?_cons_cons] at hp
        exact q2 p (by rw [hL]; exact hp)
    · have e1 : rowsF c R (f + 1) x = [] := by rw [rowsF, if_neg hx]
      have e2 : rowsF c R (g + 1) x = [] := by rw [rowsF, if_neg hx]
      rw [e1, e2]
      exact ⟨rfl, ⟨fun p hp => by simp at hp, fun _ => hx⟩⟩
/-- its items -/
theorem fL_at (c : Col) : ∀ (f : Nat) (y : Rat) (i : Nat) (q : Rat), (fL c f y)[i]? = some q → q = itl c.a y (i + 1)
  | 0, y, i, q, e => by cases e
  | f + 1, y, i, q, e => by
    unfold fL at e
    split at e
    · cases i with
      | zero =>
        have e : some (liq c.a y) = some q := e
        cases e
        rfl
      | succ i =>
        have := fL_at c f _ i q e
        rw [this]
        have sh : ∀ k, itl c.a (liq c.a y) k = itl c.a y (k + 1) := fun k => by
          induction k with
          | zero => rfl
          | succ k ih => show liq c.a (itl c.a (liq c.a y) k) = liq c.a (itl c.a y (k + 1)); rw [ih]
        exact sh (i + 1)
    · cases e
/-- how many shares the full walk has, of 61 at most -/
structure Fm (c : Col) (m : Nat) : Prop where
  lo : 1 ≤ m
  hi : m ≤ 61
  up : ∀ k, k < m → c.foot < itl c.a c.top k
  dn : m < 61 → itl c.a c.top m ≤ c.foot
theorem fL_fm : ∀ (f : Nat) (y : Rat), ∃ m, m ≤ f ∧ fL c f y = (List.range m).map (fun k => itl c.a y (k + 1)) ∧ (∀ k, k < m → c.foot < itl c.a y k) ∧ (m < f → itl c.a y m ≤ c.foot)
  | 0, y => ⟨0, Nat.le_refl _, rfl, fun k hk => by omega, fun hk => by omega⟩
  | f + 1, y => by
    by_cases hy : c.foot < y
    · obtain ⟨m, h1, h2, h3, h4⟩ := fL_fm f (liq c.a y)
      have sh : ∀ k, itl c.a (liq c.a y) k = itl c.a y (k + 1) := fun k => by
        induction k with
        | zero => rfl
        | succ k ih => show liq c.a (itl c.a (liq c.a y) k) = liq c.a (itl c.a y (k + 1)); rw [ih]
      refine ⟨m + 1, by omega, ?_, fun k hk => ?_, fun hk => ?_⟩
      · rw [fL, if_pos hy, h2, List.range_succ_eq_map, List.map_cons, List.map_map]
        exact congrArg (List.cons _) (List.map_congr_left fun k _ => sh (k + 1))
      · cases k with
        | zero => exact hy
        | succ k => rw [← sh]; exact h3 k (by omega)
      · rw [← sh]; exact h4 (by omega)
    · refine ⟨0, by omega, by rw [fL, if_neg hy]; rfl, fun k hk => by omega, fun _ => by show y ≤ c.foot; grind⟩
theorem fm_ex (h : Cok c) : ∃ m, Fm c m ∧ fL c 61 c.top = (List.range m).map (fun k => itl c.a c.top (k + 1)) := by
  obtain ⟨m, h1, h2, h3, h4⟩ := fL_fm (c := c) 61 c.top
  refine ⟨m, ⟨?_, h1, h3, h4⟩, h2⟩
  cases m with
  | zero =>
    have := h4 (by omega)
    have := h.ft
    exact absurd (show c.foot < itl c.a c.top 0 from h.ft) (by grind)
  | succ m => omega
/-- the full walk falls -/
theorem F_rng (h : Cok c) : ∀ k, 0 < itl c.a c.top k ∧ itl c.a c.top k ≤ c.top
  | 0 => ⟨top0 h, Rat.le_refl⟩
  | k + 1 => by
    obtain ⟨q1, q2⟩ := F_rng h k
    have t1 := h.t1
    have := liq_lt h.a1 q1 (by grind)
    exact ⟨liq_pos h.a1 q1 (by grind), by show liq c.a _ ≤ _; grind⟩
theorem F_lt (h : Cok c) (k : Nat) : itl c.a c.top (k + 1) < itl c.a c.top k := by
  obtain ⟨q1, q2⟩ := F_rng h k
  have t1 := h.t1
  exact liq_lt h.a1 q1 (by grind)
theorem F_anti (h : Cok c) : ∀ (j i : Nat), i < j → itl c.a c.top j < itl c.a c.top i
  | 0, i, hij => by omega
  | j + 1, i, hij => by
    have := F_lt h j
    by_cases e : i = j
    · subst e; exact this
    · have := F_anti h j i (by omega)
      grind
def lst (c : Col) (m : Nat) : Nat := if m = 1 ∨ itl c.a c.top m < c.foot then m else m + 1
/-- ever_within's table -/
theorem ever_iff (h : Cok c) {m n : Nat} (hm : Fm c m) (h60 : m ≤ 60) (hn : 1 ≤ n) : (itl c.a c.top n < c.foot ∨ (n = 1 ∧ itl c.a c.top n = c.foot)) ↔ lst c m ≤ n := by
  have dn := hm.dn (by omega)
  unfold lst
  rcases Nat.lt_trichotomy n m with hlt | heq | hgt
  · have up := hm.up n hlt
    have nm : ¬ (if m = 1 ∨ itl c.a c.top m < c.foot then m else m + 1) ≤ n := by split <;> omega
    refine ⟨fun e => absurd up (by rcases e with e | ⟨_, e⟩ <;> grind), fun e => absurd e nm⟩
  · subst heq
    by_cases h1 : n = 1
    · rw [if_pos (.inl h1)]
      refine ⟨fun _ => Nat.le_refl _, fun _ => ?_⟩
      rcases Rat.le_iff_lt_or_eq.mp dn with q | q
      · exact .inl q
      · exact .inr ⟨h1, q⟩
    · by_cases h2 : itl c.a c.top n < c.foot
      · rw [if_pos (.inr h2)]
        exact ⟨fun _ => Nat.le_refl _, fun _ => .inl h2⟩
      · rw [if_neg (by rintro (q | q); exact h1 q; exact h2 q)]
        exact ⟨fun e => by rcases e with e | ⟨e, _⟩; exact absurd e h2; exact absurd e h1, fun e => by omega⟩
  · have := F_anti h n m hgt
    refine ⟨fun _ => by split <;> omega, fun _ => .inl (by grind)⟩
/-- a finished walk has at least so many plates -/
theorem rows_least (h : Cok c) (s : Stm c R) {m f : Nat} (hm : Fm c m) (hf : f ≤ 61) (he : (rowsF c R f c.top).length < f) : m ≤ (rowsF c R f c.top).length ∧ lst c m ≤ (rowsF c R f c.top).length := by
  have key : ∀ k, k < m → k < f → k < (rowsF c R f c.top).length := fun k hk hkf => by
    obtain ⟨m', h1, h2, h3, h4⟩ := fL_fm (c := c) f c.top
    have hl : (fL c f c.top).length = m' := by rw [h2, List.length_map, List.length_range]
    have := rows_len h s f
    by_cases q : k < m'
    · omega
    · have d := h4 (by omega)
      have u := hm.up m' (by omega)
      exact absurd u (by grind)
  have hmf : m ≤ f := by
    refine Nat.not_lt.mp fun q => ?_
    have := key (rowsF c R f c.top).length (by omega) he
    omega
  have l1 : m ≤ (rowsF c R f c.top).length := by
    have := key (m - 1) (by have := hm.lo; omega) (by have := hm.lo; omega)
    omega
  refine ⟨l1, ?_⟩
  unfold lst
  split
  · exact l1
  · rename_i hn
    have hn1 : m ≠ 1 := fun e => hn (.inl e)
    have hn2 : ¬ itl c.a c.top m < c.foot := fun e => hn (.inr e)
    refine Nat.not_lt.mp fun q => ?_
    have hlen : (rowsF c R f c.top).length = m := by omega
    have e : (fL c f c.top)[m - 1]? = some (itl c.a c.top m) := by
      obtain ⟨m', h1, h2, h3, h4⟩ := fL_fm (c := c) f c.top
      have : m ≤ m' := by
        refine Nat.not_lt.mp fun z => ?_
        have zf : m' < f := Nat.lt_of_lt_of_le z hmf
        have d := h4 zf
        have u := hm.up m' z
        exact absurd u (by grind)
      have lo := hm.lo
      have e2 : m - 1 + 1 = m := by omega
      rw [h2, List.getElem?_map, List.getElem?_range (by omega)]
      show some (itl c.a c.top (m - 1 + 1)) = _
      rw [e2]
    obtain ⟨r, er, hr⟩ := rows_full h s f (m - 1) (by have := hm.lo; omega) e
    have ed := (rows_end c R f f c.top he (Nat.le_refl _)).2.1 r (by
      rw [List.getLast?_eq_getElem?, hlen]; exact er)
    grind
end
end K39
end
section
set_option Elab.async false
set_option linter.all false
set_option exponentiation.threshold 10000
/-! Q5: a great reflux. -/
namespace K39
def big : Rat := ((10 ^ 60 : Nat) : Rat)
theorem big_bz : Bz 600 big := ⟨show (10 ^ 60 : Nat) < 2 ^ 600 by decide +kernel, show 1 < 2 ^ 600 by decide +kernel⟩
theorem big_gt : (803469022129495137770981046170581301261101496891396417650688 : Rat) < big := by
  unfold big
  rw [show (803469022129495137770981046170581301261101496891396417650688 : Rat) = ((803469022129495137770981046170581301261101496891396417650688 : Nat) : Rat) from rfl]
  exact Rat.natCast_lt_natCast.mpr (by decide +kernel)
theorem npos {r : Rat} (h : 0 < r) : 0 < r.num := by
  have := (Rat.lt_iff 0 r).mp h
  simpa using this
/-- a fraction above nought is not small -/
theorem pos_ge {r : Rat} {n : Nat} (h : 0 < r) (b : Bz n r) : 1 ≤ r * ((2 ^ n : Nat) : Rat) := by
  have e1 : 0 < r.num := npos h
  have e2 := num_eq r
  have e4 : (r.den : Rat) ≤ ((2 ^ n : Nat) : Rat) := Rat.natCast_le_natCast.mpr (Nat.le_of_lt b.2)
  have e5 : ((1 : Int) : Rat) ≤ (r.num : Rat) := Rat.intCast_le_intCast.mpr (by omega)
  have e6 := Rat.mul_le_mul_of_nonneg_left e4 (Rat.le_of_lt h)
  rw [show ((1 : Int) : Rat) = 1 from rfl] at e5
  grind
theorem lt_pow {r : Rat} {n : Nat} (b : Bz n r) : r < ((2 ^ n : Nat) : Rat) := by
  refine (Rat.lt_iff _ _).mpr ?_
  show r.num * (1 : Nat) < ((2 ^ n : Nat) : Int) * r.den
  have h1 := b.1
  have h2 := dpos r
  have h3 : 2 ^ n ≤ 2 ^ n * r.den := Nat.le_mul_of_pos_right _ h2
  have h4 : ((2 ^ n : Nat) : Int) * r.den = ((2 ^ n * r.den : Nat) : Int) := by push_cast; rfl
  rw [h4]
  omega
section
variable {c : Col}
theorem amt_nonneg : ∀ {fs : List Fd}, (∀ f ∈ fs, 0 < f.1) → 0 ≤ amt fs
  | [], _ => by show (0 : Rat) ≤ 0; grind
  | f :: fs, h => by
    rw [amt_cons]
    have := amt_nonneg fun g hg => h g (List.mem_cons_of_mem _ hg)
    have := h f List.mem_cons_self
    grind
theorem mom_le {fs : List Fd} {x : Rat} (h0 : 0 ≤ x) (h1 : x ≤ 1) (h : ∀ f ∈ fs, 0 < f.1 ∧ 0 ≤ f.2.1 ∧ f.2.1 ≤ 1) : -(amt fs) ≤ mom fs x ∧ mom fs x ≤ amt fs := by
  induction fs with
  | nil => rw [mom_nil]; show -(0 : Rat) ≤ 0 ∧ (0 : Rat) ≤ 0; grind
  | cons f fs ih =>
    rw [mom_cons, amt_cons]
    obtain ⟨q1, q2, q3⟩ := h f List.mem_cons_self
    have := ih fun g hg => h g (List.mem_cons_of_mem _ hg)
    have p1 := Rat.mul_nonneg (Rat.le_of_lt q1) (show 0 ≤ 1 - (f.2.1 - x) by grind)
    have p2 := Rat.mul_nonneg (Rat.le_of_lt q1) (show 0 ≤ 1 + (f.2.1 - x) by grind)
    grind
theorem Cok.D_lo (h : Cok c) : 1 ≤ c.D * 81129638414606681695789005144064 := by
  have e := h.D_eq
  have dp := h.D_pos
  have b : Bz 106 (mom c.fs c.foot) := (h.fso.lgt.sub (h.bfoot.mul h.fso.amt)).mono (by omega)
  have g := pos_ge (by rw [← e]; exact Rat.mul_pos dp (by have := h.ft; grind)) b
  have t : c.top - c.foot ≤ 1 := by have := h.t1; have := h.f0; grind
  have m := Rat.mul_le_mul_of_nonneg_left t (Rat.le_of_lt dp)
  rw [show ((2 ^ 106 : Nat) : Rat) = 81129638414606681695789005144064 from rfl] at g
  grind
theorem Cok.D_hi (h : Cok c) : c.D ≤ amt c.fs := by
  have e := h.D_eq
  have q : ∀ {fs : List Fd}, (∀ f ∈ fs, 0 < f.1 ∧ f.2.1 < c.top) → mom fs c.foot ≤ amt fs * (c.top - c.foot) := fun {fs} hf => by
    induction fs with
    | nil => rw [mom_nil]; show (0 : Rat) ≤ 0 * _; grind
    | cons f fs ih =>
      rw [mom_cons, amt_cons]
      obtain ⟨q1, q2⟩ := hf f List.mem_cons_self
      have := ih fun g hg => hf g (List.mem_cons_of_mem _ hg)
      have p1 := Rat.mul_pos q1 (show 0 < c.top - f.2.1 by grind)
      grind
  have m := q fun f hf => let ⟨h1, _, h3, _⟩ := h.feed f hf; ⟨h1, h3⟩
  refine Rat.not_lt.mp fun hlt => ?_
  have := Rat.mul_pos (show 0 < c.D - amt c.fs by grind) (show 0 < c.top - c.foot by have := h.ft; grind)
  grind
theorem big_str (h : Cok c) : Stm c big := by
  have g := big_gt
  refine ⟨by grind, ?_⟩
  have d := h.D_lo
  have dp := h.D_pos
  have w := lt_pow h.fso.dry
  rw [show ((2 ^ 42 : Nat) : Rat) = 4398046511104 from rfl] at w
  have m := Rat.mul_pos dp (show 0 < big - 803469022129495137770981046170581301261101496891396417650688 by grind)
  grind
theorem big_flo (h : Cok c) : (if 0 < dry c.fs / c.D - 1 then dry c.fs / c.D - 1 else 0) < big := by
  have g := big_gt
  have s := big_str h
  split
  · have e : dry c.fs / c.D < big + 1 := (Rat.div_lt_iff h.D_pos).mpr (by have := s.2; grind)
    grind
  · grind
theorem rho_le (h : Cok c) (k : Nat) {x : Rat} (h1 : c.foot < x) (h2 : x < c.top) : rho c k x ≤ 131072 := by
  unfold rho
  have am := lt_pow h.fso.amt
  have at_ := lt_pow (h.fso.take k).amt
  rw [show ((2 ^ 16 : Nat) : Rat) = 65536 from rfl] at am at_
  have m := (mom_le (fs := c.fs.take k) (x := x) (by have := h.f0; grind) (by have := h.t1; grind) fun f hf => by
    obtain ⟨q1, q2, q3, _⟩ := h.feed f (List.mem_of_mem_take hf)
    have := h.f0; have := h.t1
    exact ⟨q1, by grind, by grind⟩).1
  have d := h.D_hi
  have p := Rat.mul_nonneg (Rat.le_of_lt h.D_pos) (show 0 ≤ 1 - (c.top - x) by have := h.f0; have := h.t1; grind)
  grind
theorem up_ge (h : Cok c) (k : Nat) : 4951760157141521099596496896 ≤ (sec c big k).2.1 := by
  show _ ≤ (big + 1) * c.D - dry (c.fs.take k)
  have g := big_gt
  have d := h.D_lo
  have dp := h.D_pos
  have w := lt_pow (h.fso.take k).dry
  rw [show ((2 ^ 42 : Nat) : Rat) = 4398046511104 from rfl] at w
  have m := Rat.mul_pos dp (show 0 < big - 803469022129495137770981046170581301261101496891396417650688 by grind)
  grind
theorem vap_gap (h : Cok c) {x : Rat} (h1 : c.foot < x) (h2 : x < c.top) : 1 ≤ (vap c.a x - x) * 18014398509481984 := by
  have a1 := h.a1
  have g1 := pos_ge (show 0 < c.a - 1 by grind) (h.ba.sub bz1)
  have g2 := pos_ge h.f0 h.bfoot
  have g3 := pos_ge (show 0 < 1 - c.top by have := h.t1; grind) (bz1.sub h.btop)
  have g4 := lt_pow h.ba
  rw [show ((2 ^ (6 + 1 + 1) : Nat) : Rat) = 256 from rfl] at g1
  rw [show ((2 ^ 28 : Nat) : Rat) = 268435456 from rfl] at g2
  rw [show ((2 ^ (1 + 10 + 1) : Nat) : Rat) = 4096 from rfl] at g3
  rw [show ((2 ^ 6 : Nat) : Rat) = 64 from rfl] at g4
  have x0 : 0 < x := by have := h.f0; grind
  have dp : 0 < 1 + (c.a - 1) * x := by have := Rat.mul_pos (show 0 < c.a - 1 by grind) x0; grind
  have e : (vap c.a x - x) * (1 + (c.a - 1) * x) = (c.a - 1) * x * (1 - x) := by unfold vap; grind
  -- the product is at least 2^-48
  have q1 : 1 ≤ (c.a - 1) * 256 := g1
  have q2 : 1 ≤ x * 268435456 := by grind
  have q3 : 1 ≤ (1 - x) * 4096 := by grind
  have p12 := Rat.mul_nonneg (show 0 ≤ (c.a - 1) * 256 - 1 by grind) (show 0 ≤ x * 268435456 by grind)
  have p12' : 1 ≤ (c.a - 1) * x * 68719476736 := by grind
  have p123 := Rat.mul_nonneg (show 0 ≤ (c.a - 1) * x * 68719476736 - 1 by grind) (show 0 ≤ (1 - x) * 4096 by grind)
  have p : 1 ≤ (c.a - 1) * x * (1 - x) * 281474976710656 := by grind
  have dl : 1 + (c.a - 1) * x ≤ 64 := by
    have := Rat.mul_nonneg (show 0 ≤ c.a - 1 by grind) (show 0 ≤ 1 - x by have := h.t1; grind)
    grind
  have vp : 0 < vap c.a x - x := by
    refine Rat.not_le.mp fun hle => ?_
    have := Rat.mul_nonneg (show 0 ≤ x - vap c.a x by grind) (Rat.le_of_lt dp)
    grind
  have := Rat.mul_nonneg (Rat.le_of_lt vp) (show 0 ≤ 64 - (1 + (c.a - 1) * x) by grind)
  grind
theorem big_kinks (h : Cok c) : ∀ k ∈ kinks (secs c big), k.2.2.2 < vap c.a k.2.2.1 := fun k hk => by
  obtain ⟨⟨h1, h2⟩, u, hu, e⟩ := kink_rng h (big_str h) hk
  rw [e, ht_eq h (big_str h)]
  have g := vap_gap h h1 h2
  have r := rho_le h u h1 h2
  have uu := up_ge h u
  have up : 0 < (sec c big u).2.1 := Stm.u h (big_str h) u
  have q : rho c u k.2.2.1 / (sec c big u).2.1 < 1 / 18014398509481984 := (Rat.div_lt_iff up).mpr (by grind)
  grind
def dl : Rat := 1 / 803469022129495137770981046170581301261101496891396417650688
theorem dl0 : 0 ≤ dl := by unfold dl; grind
def Ee : Nat → Rat → Rat
  | 0, e => e
  | t + 1, e => Ee t (64 * (e + dl))
theorem liq_lip {a y z : Rat} (ha : 1 < a) (h64 : a ≤ 64) (h0 : 0 < z) (hzy : z ≤ y) (h1 : y ≤ 1) : liq a y ≤ liq a z + 64 * (y - z) := by
  have dy := liq_den ha h1
  have dz := liq_den ha (show z ≤ 1 by grind)
  have e1 : liq a y * (a - (a - 1) * y) = y := by unfold liq; grind
  have e2 : liq a z * (a - (a - 1) * z) = z := by unfold liq; grind
  -- the denominators are at least one
  have gy : 1 ≤ a - (a - 1) * y := by
    have := Rat.mul_nonneg (show 0 ≤ a - 1 by grind) (show 0 ≤ 1 - y by grind)
    grind
  have gz : 1 ≤ a - (a - 1) * z := by
    have := Rat.mul_nonneg (show 0 ≤ a - 1 by grind) (show 0 ≤ 1 - z by grind)
    grind
  have e3 : (liq a y - liq a z) * ((a - (a - 1) * y) * (a - (a - 1) * z)) = a * (y - z) := by
    have : liq a y = y / (a - (a - 1) * y) := rfl
    have : liq a z = z / (a - (a - 1) * z) := rfl
    grind
  refine Rat.not_lt.mp fun q => ?_
  have p1 := Rat.mul_nonneg (show 0 ≤ (a - (a - 1) * y) - 1 by grind) (show 0 ≤ a - (a - 1) * z by grind)
  have p0 : 1 ≤ (a - (a - 1) * y) * (a - (a - 1) * z) := by grind
  have p2 := Rat.mul_nonneg (show 0 ≤ liq a y - liq a z by have := Rat.mul_nonneg (show (0 : Rat) ≤ 64 by grind) (show 0 ≤ y - z by grind); grind) (show 0 ≤ (a - (a - 1) * y) * (a - (a - 1) * z) - 1 by grind)
  have p3 := Rat.mul_nonneg (show 0 ≤ 64 - a by grind) (show 0 ≤ y - z by grind)
  grind
theorem rows_up (h : Cok c) : ∀ (t f : Nat) (x z e : Rat), 0 < z → z ≤ 1 → x ≤ c.top → 0 ≤ e → x ≤ z + e → itl c.a z t + Ee t e ≤ c.foot → (rowsF c big f x).length ≤ t
  | t, 0, x, z, e, _, _, _, _, _, _ => Nat.zero_le _
  | 0, f + 1, x, z, e, h0, h1, h2, h3, h4, h5 => by
    have h5 : z + e ≤ c.foot := h5
    rw [rowsF, if_neg (by grind)]
    exact Nat.le_refl _
  | t + 1, f + 1, x, z, e, h0, h1, h2, h3, h4, h5 => by
    rw [rowsF]
    split
    · rename_i hx
      have s := big_str h
      obtain ⟨l1, l2⟩ := low_rng h s hx h2
      have l3 := low_le c big x 0 (Nat.zero_le _)
      rw [low_0 h s] at l3
      have hb := big_gt
      have l4 : (c.top - x) / (big + 1) ≤ dl := by
        have q : (c.top - x) / (big + 1) < dl := (Rat.div_lt_iff (by grind)).mpr (by unfold dl; have := h.t1; have := h.f0; grind)
        grind
      have t1 := h.t1
      have a1 := h.a1
      have a64 := lt_pow h.ba
      rw [show ((2 ^ 6 : Nat) : Rat) = 64 from rfl] at a64
      have y0 : 0 < (low c big x).2 := by have := h.f0; grind
      have lq := liq_lt a1 y0 (by grind)
      have sh : ∀ k, itl c.a (liq c.a z) k = itl c.a z (k + 1) := fun k => by
        induction k with
        | zero => rfl
        | succ k ih => show liq c.a (itl c.a (liq c.a z) k) = liq c.a (itl c.a z (k + 1)); rw [ih]
      have z0 := liq_pos a1 h0 h1
      refine Nat.succ_le_succ (rows_up h t f _ (liq c.a z) (64 * (e + dl)) z0 ?_ (by grind) (by have := dl0; grind) ?_ (by rw [sh]; exact h5))
      · by_cases z1 : z < 1
        · have := liq_lt a1 h0 z1; grind
        · have : z = 1 := by grind
          subst this
          unfold liq
          grind
      · by_cases yz : z ≤ (low c big x).2
        · have := liq_lip a1 (by grind) h0 yz (by grind)
          grind
        · have := liq_mono a1 (by grind) (show (low c big x).2 < z by grind) h1
          have := dl0
          grind
    · exact Nat.zero_le _
theorem itl_bq (h : Cok c) : ∀ k, Bz (10 + k * 8) (itl c.a c.top k)
  | 0 => h.btop
  | k + 1 => by
    obtain ⟨q1, q2⟩ := F_rng h k
    have := h.t1
    exact (h.ba.liq (itl_bq h k) h.a1 (by grind) (by grind)).mono (by omega)
theorem big_rows (h : Cok c) {m : Nat} (hm : Fm c m) (h5 : m ≤ 5) : (rowsF c big 21 c.top).length = lst c m := by
  have s := big_str h
  have dn := hm.dn (by omega)
  have t0 := top0 h
  have t1 := h.t1
  -- the upper bound
  have up : ∀ f, (rowsF c big (f + 1) c.top).length ≤ lst c m := fun f => by
    obtain ⟨t, ht, h6⟩ : ∃ t, lst c m = t + 1 ∧ t ≤ 5 := by
      have := hm.lo
      unfold lst
      split
      · exact ⟨m - 1, by omega, by omega⟩
      · exact ⟨m, rfl, by omega⟩
    rw [ht, rows_top h s, List.length_cons]
    have z0 := liq_pos h.a1 t0 (Rat.le_of_lt t1)
    have zl := liq_lt h.a1 t0 t1
    refine Nat.succ_le_succ (rows_up h t f _ (liq c.a c.top) 0 z0 (by grind) (by grind) (by grind) (by grind) ?_)
    have sh : ∀ k, itl c.a (liq c.a c.top) k = itl c.a c.top (k + 1) := fun k => by
      induction k with
      | zero => rfl
      | succ k ih => show liq c.a (itl c.a (liq c.a c.top) k) = liq c.a (itl c.a c.top (k + 1)); rw [ih]
    rw [sh]
    have st : t = 0 ∧ itl c.a c.top (t + 1) ≤ c.foot ∨ itl c.a c.top (t + 1) < c.foot := by
      unfold lst at ht
      split at ht
      · rename_i q
        rcases q with q | q
        · subst q
          have : t = 0 := by omega
          subst this
          exact .inl ⟨rfl, dn⟩
        · rw [← ht]; exact .inr q
      · have e : m = t := by omega
        subst e
        exact .inr (by have := F_lt h m; grind)
    rcases st with ⟨st, q⟩ | q
    · subst st
      show _ + (0 : Rat) ≤ _
      grind
    · have b := itl_bq h (t + 1)
      have g := pos_ge (show 0 < c.foot - itl c.a c.top (t + 1) by grind) (h.bfoot.sub (b.mono (show 10 + (t + 1) * 8 ≤ 58 by omega)))
      rw [show ((2 ^ (28 + 58 + 1) : Nat) : Rat) = 154742504910672534362390528 from rfl] at g
      have el : Ee t 0 ≤ 1 / 154742504910672534362390528 := by
        match t, h6 with
        | 0, _ => show (0 : Rat) ≤ _; grind
        | 1, _ => show 64 * ((0 : Rat) + dl) ≤ _; unfold dl; grind
        | 2, _ => show 64 * (64 * ((0 : Rat) + dl) + dl) ≤ _; unfold dl; grind
        | 3, _ => show 64 * (64 * (64 * ((0 : Rat) + dl) + dl) + dl) ≤ _; unfold dl; grind
        | 4, _ => show 64 * (64 * (64 * (64 * ((0 : Rat) + dl) + dl) + dl) + dl) ≤ _; unfold dl; grind
        | 5, _ => show 64 * (64 * (64 * (64 * (64 * ((0 : Rat) + dl) + dl) + dl) + dl) + dl) ≤ _; unfold dl; grind
      grind
  have l6 : lst c m ≤ 6 := by unfold lst; split <;> omega
  have u : (rowsF c big 21 c.top).length ≤ lst c m := up 20
  exact Nat.le_antisymm u (rows_least h s hm (by omega) (by omega)).2
end
end K39
end
section
set_option Elab.async false
set_option linter.all false
set_option maxRecDepth 100000
set_option maxHeartbeats 4000000
namespace K39
open PySem PySem.Spec PyProof.Rows L2
section
variable {S : Sc} {ρ : Ro} {N : Ro → Prop} {R : Sv → Prop} {es : List Expr} {pos p p2 : Pos} {x : Str} {rest : List Stmt}
/-- x = [e, ..], to be appended to -/
theorem ws_newL (i : Nat) (hN : S.N[i]? = some x) (ht : Sto S x) (h : Ea S es ρ fun l => (l.length ≤ 1000 ∧ ∀ r ∈ l, r.isL = false) ∧ Ws S rest (ρ.set i (some (.own l))) N R) (hs : ∀ l t env, swapsWith (.List es p2) t l env = pure false := by intro _ _ _; rfl) : Ws S (.Assign [.Name x p] (.List es p2) pos :: rest) ρ N R := by
  intro X hX B σ H hE D kN kR
  refine WSs.of (pss_cons (ps_set (i := i) hX.nd (by rw [hX.N]; exact hN) (hX.loc ht) (pe_lst pa_W) (hs _ _ _) (hX.sto ht)) pss_W) ?_
  refine h X hX σ H hE.en _ fun vs H1 l g1 s1 ⟨⟨hl, _⟩, q⟩ => ⟨by rw [s1.length, sizeLine_eq]; omega, fun u hu => ?_⟩
  have hE1 := hE.mono g1
  have nu : S.s ≠ some u := hE1.en.new hu
  have g2 : Gr S.s H1 (upd H1 u (.lst vs)) := Gr.new hu
  refine q X hX B _ _ ((hE1.mono g2).setO (.own upd_same nu (s1.mono g2.n)) (hE1.gr.none_of nu hu) fun j r nj e1 e2 => hE1.old u hu j r e1 e2) D (fun σ' H2 ρ' e t n => kN σ' H2 ρ' e ((g1.trans g2).tk.trans t) n) kR
end
theorem dry2_eq (fs : List Fd) : tot (fs.map fun f => f.1 * (1 - f.2.2)) = dry fs := by
  induction fs with
  | nil => rw [dry_nil]; rfl
  | cons f fs ih => rw [List.map_cons, tot_cons, ih, dry_cons]
theorem sd_pos {a b : Rat} : 0 < sd a b ↔ b < a := by
  unfold sd
  split
  · rename_i h; exact ⟨fun _ => h, fun _ => by decide⟩
  · rename_i h
    split <;> exact ⟨fun q => by omega, fun q => absurd q h⟩
theorem sd_neg {a b : Rat} : sd a b < 0 ↔ a < b := by
  unfold sd
  split
  · rename_i h; exact ⟨fun q => by omega, fun q => by grind⟩
  · rename_i h
    split
    · rename_i h2; exact ⟨fun _ => h2, fun _ => by decide⟩
    · rename_i h2; exact ⟨fun q => by omega, fun q => absurd q h2⟩
theorem sd_nonneg {a b : Rat} : 0 ≤ sd a b ↔ b ≤ a := by
  have := sd_neg (a := a) (b := b)
  constructor
  · intro h
    have : ¬ a < b := fun q => by have := this.mpr q; omega
    grind
  · intro h
    have : ¬ sd a b < 0 := fun q => by have := this.mp q; grind
    omega
def flo (c : Col) : Rat := if 0 < dry c.fs / c.D - 1 then dry c.fs / c.D - 1 else 0
theorem flo_str {c : Col} {R : Rat} (h : Cok c) (hf : flo c < R) : Stm c R := by
  unfold flo at hf
  have hD := h.D_pos
  have e : dry c.fs / c.D * c.D = dry c.fs := Rat.div_mul_cancel (by grind)
  by_cases q : 0 < dry c.fs / c.D - 1
  · rw [if_pos q] at hf
    refine ⟨by grind, ?_⟩
    have := Rat.mul_pos (show 0 < R + 1 - dry c.fs / c.D by grind) hD
    grind
  · rw [if_neg q] at hf
    refine ⟨hf, ?_⟩
    have := Rat.mul_pos (show 0 < R + 1 - dry c.fs / c.D by grind) hD
    grind
theorem bsec {c : Col} {R : Rat} (h : Cok c) (r : Bz 600 R) (k : Nat) : Bz 790 (sec c R k).2.1 ∧ Bz 771 (sec c R k).2.2.1 ∧ Bz 217 (sec c R k).2.2.2 :=
  ⟨(((r.add bz1).mul h.bD).sub (h.fso.take k).dry).mono (by omega), ((r.mul h.bD).add (h.fso.take k).wet).mono (by omega), ((h.bD.mul h.btop).sub (h.fso.take k).lgt).mono (by omega)⟩
theorem sec_step {c : Col} {R : Rat} {i : Nat} {f : Fd} (e : c.fs[i]? = some f) : sec c R (i + 1) = (c.a, (sec c R i).2.1 - f.1 * (1 - f.2.2), (sec c R i).2.2.1 + f.1 * f.2.2, (sec c R i).2.2.2 - f.1 * f.2.1) := by
  have t : c.fs.take (i + 1) = c.fs.take i ++ [f] := by rw [List.take_succ, e]; rfl
  have w : wet [f] = f.1 * f.2.2 := by rw [wet_cons, wet_nil]; grind
  have d : dry [f] = f.1 * (1 - f.2.2) := by rw [dry_cons, dry_nil]; grind
  have l : lgt [f] = f.1 * f.2.1 := by unfold lgt; rw [List.map_cons, tot_cons]; show _ + (0 : Rat) = _; grind
  unfold sec
  rw [t, wet_app, dry_app, lgt_app, w, d, l]
  refine Prod.ext rfl (Prod.ext ?_ (Prod.ext ?_ ?_)) <;> simp only <;> grind
theorem sec_0 (c : Col) (R : Rat) : sec c R 0 = (c.a, (R + 1) * c.D, R * c.D, c.D * c.top) := by
  unfold sec
  rw [List.take_zero, dry_nil, wet_nil]
  refine Prod.ext rfl (Prod.ext ?_ (Prod.ext ?_ ?_)) <;> simp only
  · grind
  · grind
  · show c.D * c.top - (0 : Rat) = _; grind
section
variable {P : Program} {w : World} {K : PySem.W.Frag} {mg : Str → Option Value} {base : Heap}
theorem sg85 : Sig d85 "_law_under" ["_law_volat", "_law_y"] ["_law_volat", "_law_y"] := ⟨memN 64, rfl, memF 64, rfl, rfl, ⟨rfl, rfl, rfl, by decide +kernel, rfl, by decide +kernel, by decide +kernel⟩, fun _ _ _ _ _ _ us hl => match us, hl with | [_, _], _ => rfl⟩
theorem f85 (M : Md K mg) : Fn P w K mg base "_law_under" 3 ["_law_volat", "_law_y"] (Pm K (α := Rat × Rat) (fun | (a, b) => [.q a, .q b]) (fun | (a, b) => Sx a b ∧ 0 ≤ b ∧ b ≤ 1) (fun | (a, b) => fun r => r = .q (liq a b))) := by
  refine mk M sg85 (fun _ => rfl) (fun z hz => noO2 rfl rfl) fun s ⟨a, b⟩ hg => ?_
  obtain ⟨⟨ha1, m, n, ha, hb, hm, hn⟩, h0, h1⟩ := (show Sx a b ∧ 0 ≤ b ∧ b ≤ 1 from hg)
  have hd : (a.num - a.den).natAbs < 2 ^ (m + 1) := abs_sub_lt ha.n ha.d
  have g : Gk (b.num * (a.den : Int)) (a.num * (b.den : Int) - (a.num - a.den) * b.num) := by rw [Int.mul_comm b.num]; exact gk_liq ha1 h0 h1 ha (by omega)
  have q : Rat.divInt (b.num * (a.den : Int)) (a.num * (b.den : Int) - (a.num - a.den) * b.num) = liq a b := by rw [Int.mul_comm b.num]; exact qliq a b ha1 h0 h1
  exact (ws_ret (ev_callf (f75 M) rfl (ea_cons (ev_mul (ev_ix (fun _ _ => rfl) (ev_var 1 rfl (.inl rfl) rfl (ev_int ⟨_, _, rfl, rfl, ⟨_, rfl, (ev_ix (fun _ _ => rfl) (ev_var 0 rfl (.inl rfl) rfl (ev_int ⟨_, _, rfl, rfl, ⟨_, rfl, cmul_of (m := n) (n := m) hb.n ha.d (by omega), (ea_cons (ev_sub (ev_mul (ev_ix (fun _ _ => rfl) (ev_var 0 rfl (.inl rfl) rfl (ev_int ⟨_, _, rfl, rfl, ⟨_, rfl, (ev_ix (fun _ _ => rfl) (ev_var 1 rfl (.inl rfl) rfl (ev_int ⟨_, _, rfl, rfl, ⟨_, rfl, cmul_of (m := m) (n := n) ha.n hb.d (by omega), ⟨_, rfl, (ev_mul (ev_sub (ev_ix (fun _ _ => rfl) (ev_var 0 rfl (.inl rfl) rfl (ev_int ⟨_, _, rfl, rfl, ⟨_, rfl, (ev_ix (fun _ _ => rfl) (ev_var 0 rfl (.inl rfl) rfl (ev_int ⟨_, _, rfl, rfl, ⟨_, rfl, ⟨_, rfl, (ev_ix (fun _ _ => rfl) (ev_var 1 rfl (.inl rfl) rfl (ev_int ⟨_, _, rfl, rfl, ⟨_, rfl, cmul_of (m := m + 1) (n := n) hd hb.n (by omega), ⟨_, rfl, (ea_nil ⟨(_, _), rfl, g, congrArg Sv.q q⟩)⟩⟩⟩)))⟩⟩⟩)))⟩⟩)))))⟩⟩⟩)))⟩⟩))))))⟩⟩)))⟩⟩)))))))
theorem sg86 : Sig d86 "_law_vapour" ["_law_volat", "_law_x"] ["_law_volat", "_law_x"] := ⟨memN 65, rfl, memF 65, rfl, rfl, ⟨rfl, rfl, rfl, by decide +kernel, rfl, by decide +kernel, by decide +kernel⟩, fun _ _ _ _ _ _ us hl => match us, hl with | [_, _], _ => rfl⟩
theorem f86 (M : Md K mg) : Fn P w K mg base "_law_vapour" 3 ["_law_volat", "_law_x"] (Pm K (α := Rat × Rat) (fun | (a, b) => [.q a, .q b]) (fun | (a, b) => Sx a b ∧ 0 ≤ b) (fun | (a, b) => fun r => r = .q (vap a b))) := by
  refine mk M sg86 (fun _ => rfl) (fun z hz => noO2 rfl rfl) fun s ⟨a, b⟩ hg => ?_
  obtain ⟨⟨ha1, m, n, ha, hb, hm, hn⟩, h0⟩ := (show Sx a b ∧ 0 ≤ b from hg)
  have hd : (a.num - a.den).natAbs < 2 ^ (m + 1) := abs_sub_lt ha.n ha.d
  exact (ws_ret (ev_callf (f75 M) rfl (ea_cons (ev_mul (ev_ix (fun _ _ => rfl) (ev_var 0 rfl (.inl rfl) rfl (ev_int ⟨_, _, rfl, rfl, ⟨_, rfl, (ev_ix (fun _ _ => rfl) (ev_var 1 rfl (.inl rfl) rfl (ev_int ⟨_, _, rfl, rfl, ⟨_, rfl, cmul_of (m := m) (n := n) ha.n hb.n (by omega), (ea_cons (ev_add (ev_mul (ev_ix (fun _ _ => rfl) (ev_var 0 rfl (.inl rfl) rfl (ev_int ⟨_, _, rfl, rfl, ⟨_, rfl, (ev_ix (fun _ _ => rfl) (ev_var 1 rfl (.inl rfl) rfl (ev_int ⟨_, _, rfl, rfl, ⟨_, rfl, cmul_of (m := m) (n := n) ha.d hb.d (by omega), ⟨_, rfl, (ev_mul (ev_sub (ev_ix (fun _ _ => rfl) (ev_var 0 rfl (.inl rfl) rfl (ev_int ⟨_, _, rfl, rfl, ⟨_, rfl, (ev_ix (fun _ _ => rfl) (ev_var 0 rfl (.inl rfl) rfl (ev_int ⟨_, _, rfl, rfl, ⟨_, rfl, ⟨_, rfl, (ev_ix (fun _ _ => rfl) (ev_var 1 rfl (.inl rfl) rfl (ev_int ⟨_, _, rfl, rfl, ⟨_, rfl, cmul_of (m := m + 1) (n := n) hd hb.n (by omega), ⟨_, rfl, (ea_nil ⟨(_, _), rfl, gk_vap ha1 h0 ha (by omega), congrArg Sv.q (qvap a b ha1 h0)⟩)⟩⟩⟩)))⟩⟩⟩)))⟩⟩)))))⟩⟩⟩)))⟩⟩))))))⟩⟩)))⟩⟩)))))))
theorem sg87 : Sig d87 "_law_height" ["_law_flow", "_law_x"] ["_law_flow", "_law_x"] := ⟨memN 66, rfl, memF 66, rfl, rfl, ⟨rfl, rfl, rfl, by decide +kernel, rfl, by decide +kernel, by decide +kernel⟩, fun _ _ _ _ _ _ us hl => match us, hl with | [_, _], _ => rfl⟩
theorem f87 (M : Md K mg) : Fn P w K mg base "_law_height" 4 ["_law_flow", "_law_x"] (Pm K (α := Sec × Rat) (fun | (a, b) => [secS a, .q b]) (fun | (a, b) => Sok a ∧ ∃ n, Bz n b ∧ n ≤ 250000) (fun | (a, b) => fun r => r = .q (ht a b))) := by
  refine mk M sg87 (fun _ => rfl) (fun z hz => noO2 rfl rfl) fun s ⟨s', x⟩ hg => ?_
  obtain ⟨k, n, hx, hn⟩ := (show Sok s' ∧ ∃ n, Bz n x ∧ n ≤ 250000 from hg)
  have b1 := k.bd.mul hx
  have b2 := b1.add k.bn
  have p1 : St s'.2.2.1 x := ⟨771, n, k.bd, hx, by omega, .inr (.inl ⟨by omega, Rat.ne_of_gt k.d0⟩)⟩
  have p3 : Sa (s'.2.2.1 * x) s'.2.2.2 := ⟨_, _, b1, k.bn, by omega, .inr (by omega)⟩
  have p4 : So (s'.2.2.1 * x + s'.2.2.2) s'.2.1 := ⟨Rat.ne_of_gt k.u0, _, _, b2, k.bu, by omega, .inr (by omega)⟩
  exact (ws_ret (ev_callf (f79 M) rfl (ea_cons (ev_callf (f76 M) rfl (ea_cons (ev_callf (f78 M) rfl (ea_cons (ev_ix (fun _ _ => rfl) (ev_var 0 rfl (.inl rfl) rfl (ev_int ⟨_, _, rfl, rfl, (ea_cons (ev_var 1 rfl (.inl rfl) rfl (ea_nil ⟨(_, _), rfl, p1, (ea_cons (ev_ix (fun _ _ => rfl) (ev_var 0 rfl (.inl rfl) rfl (ev_int ⟨_, _, rfl, rfl, (ea_nil ⟨(_, _), rfl, p3, (ea_cons (ev_ix (fun _ _ => rfl) (ev_var 0 rfl (.inl rfl) rfl (ev_int ⟨_, _, rfl, rfl, (ea_nil ⟨(_, _), rfl, p4, by rfl⟩)⟩))))⟩)⟩))))⟩)))⟩))))))))))
theorem sg83 : Sig d83 "_law_drip" ["_law_lots", "_law_made_here", "_law_dry", "_law_each"] ["_law_lots", "_law_made_here"] := ⟨memN 62, rfl, memF 62, rfl, rfl, ⟨rfl, rfl, rfl, by decide +kernel, rfl, by decide +kernel, by decide +kernel⟩, fun _ _ _ _ _ _ us hl => match us, hl with | [_, _], _ => rfl⟩
theorem f83 (M : Md K mg) : Fn P w K mg base "_law_drip" 5 ["_law_lots", "_law_made_here"] (Pm K (α := List Fd × Rat) (fun | (fs, D) => [.tup (fs.map fdS), .q D]) (fun | (fs, D) => Fso fs ∧ Bz 145 D ∧ D ≠ 0) (fun | (fs, D) => fun r => r = .q (dry fs / D - 1))) := by
  refine mk M sg83 (fun _ => rfl) (fun z hz => noO2 rfl rfl) fun s ⟨fs, D⟩ hg => ?_
  obtain ⟨hf, bD, hD⟩ := (show Fso fs ∧ Bz 145 D ∧ D ≠ 0 from hg)
  have q1 : ∀ f ∈ fs, Sa 1 f.2.2 := fun f h => ⟨_, _, bz1, (hf.ok f h).q, by omega, .inl (by omega)⟩
  have q2 : ∀ f ∈ fs, St f.1 (1 - f.2.2) := fun f h => ⟨_, _, (hf.ok f h).a, bz1.sub (hf.ok f h).q, by omega, .inl (by omega)⟩
  have q3 : Tk4 (fs.map fun f => f.1 * (1 - f.2.2)) := ⟨by rw [List.length_map]; have := hf.len; omega, fun r hr => by
    obtain ⟨f, h, rfl⟩ := List.mem_map.mp hr
    exact ((hf.ok f h).a.mul (bz1.sub (hf.ok f h).q)).mono (by omega)⟩
  have b := hf.dry.div bD
  have q4 : So (tot (fs.map fun f => f.1 * (1 - f.2.2))) D := by rw [dry2_eq]; exact ⟨hD, _, _, hf.dry, bD, by omega, .inl (by omega)⟩
  have q5 : Sa (tot (fs.map fun f => f.1 * (1 - f.2.2)) / D) 1 := by rw [dry2_eq]; exact ⟨_, _, b, bz1, by omega, .inl (by omega)⟩
  refine (ws_set 2 rfl (.inl rfl) (ev_callf (f81 M) rfl (ea_cons (ev_lcm (fs) (fdS) (fun f => .q (f.1 * (1 - f.2.2))) (own := [("_law_each", 3)]) (is := [3]) (bt := false) rfl rfl (.name rfl (.inl rfl)) (ev_var 0 rfl (.inl rfl) rfl ⟨rfl, (by have := hf.len; omega), (fun _ _ => rfl), fun x1 hx1 => ⟨_, rfl, rfl, (ev_callf (f78 M) rfl (ea_cons (ev_ix (fun _ _ => rfl) (ev_var 3 rfl (.inl rfl) rfl (ev_int ⟨_, _, rfl, rfl, (ea_cons (ev_callf (f77 M) rfl (ea_cons (ev_tupq (ea_cons (ev_int (ea_cons (ev_int (ea_nil ⟨(1 : Rat), rfl, (ea_cons (ev_ix (fun _ _ => rfl) (ev_var 3 rfl (.inl rfl) rfl (ev_int ⟨_, _, rfl, rfl, (ea_nil ⟨(_, _), rfl, q1 _ hx1, (ea_nil ⟨(_, _), rfl, q2 _ hx1, rfl⟩)⟩)⟩))))⟩)))))))))⟩)))))⟩, (ea_nil ⟨fs.map (fun f => f.1 * (1 - f.2.2)), by rw [List.map_map]; rfl, q3, ⟨.inl rfl, ?_⟩⟩)⟩)))))
  refine (ws_ret (ev_callf (f77 M) rfl (ea_cons (ev_callf (f79 M) rfl (ea_cons (ev_var 2 rfl (.inl rfl) rfl (ea_cons (ev_var 1 rfl (.inl rfl) rfl (ea_nil ⟨(_, _), rfl, q4, (ea_cons (ev_tupq (ea_cons (ev_int (ea_cons (ev_int (ea_nil ⟨(1 : Rat), rfl, (ea_nil ⟨(_, _), rfl, q5, ?_⟩)⟩)))))))⟩)))))))))
  exact congrArg (fun z => Sv.q (z / D - 1)) (dry2_eq fs)
theorem sg89 : Sig d89 "_law_made" ["_law_wish_here", "_law_volat", "_law_lots", "_law_top2", "_law_foot", "_law_all2", "_law_light", "_law_made_here", "_law_each"] ["_law_wish_here"] := ⟨memN 68, rfl, memF 68, rfl, rfl, ⟨rfl, rfl, rfl, by decide +kernel, rfl, by decide +kernel, by decide +kernel⟩, fun _ _ _ _ _ _ us hl => match us, hl with | [_], _ => rfl⟩
theorem f89 (M : Md K mg) : Fn P w K mg base "_law_made" 5 ["_law_wish_here"] (Pm K (fun c : Col => [c.sv]) Cok (fun c r => r = .tup [.q c.D, .q (amt c.fs - c.D)])) := by
  refine mk M sg89 (fun _ => rfl) (fun z hz => noO1 rfl) fun s c hc => ?_
  have hf := hc.fso
  have hl := hf.len
  have b1 := hc.bfoot.mul hf.amt
  have b2 := hf.lgt.sub b1
  have q1 : ∀ f ∈ c.fs, St f.1 f.2.1 := fun f h => ⟨_, _, (hf.ok f h).a, (hf.ok f h).s, by omega, .inl (by omega)⟩
  have t1 : Tk4 (c.fs.map fun f => f.1) := ⟨by rw [List.length_map]; omega, fun r hr => by
    obtain ⟨f, h, rfl⟩ := List.mem_map.mp hr
    exact (hf.ok f h).a.mono (by omega)⟩
  have t2 : Tk4 (c.fs.map fun f => f.1 * f.2.1) := ⟨by rw [List.length_map]; omega, fun r hr => by
    obtain ⟨f, h, rfl⟩ := List.mem_map.mp hr
    exact ((hf.ok f h).a.mul (hf.ok f h).s).mono (by omega)⟩
  have p1 : St c.foot (amt c.fs) := ⟨_, _, hc.bfoot, hf.amt, by omega, .inl (by omega)⟩
  have p2 : Sa (lgt c.fs) (c.foot * amt c.fs) := ⟨_, _, hf.lgt, b1, by omega, .inl (by omega)⟩
  have p3 : Sa c.top c.foot := ⟨_, _, hc.btop, hc.bfoot, by omega, .inl (by omega)⟩
  have p4 : So (lgt c.fs - c.foot * amt c.fs) (c.top - c.foot) := ⟨sub_ne hc.ft, _, _, b2, hc.tf, by omega, .inl (by omega)⟩
  have p5 : Sa (amt c.fs) c.D := ⟨_, _, hf.amt, hc.bD, by omega, .inl (by omega)⟩
  refine (ws_tup (is := [1, 2, 3, 4]) (.cons rfl (.inl rfl) (.cons rfl (.inl rfl) (.cons rfl (.inl rfl) (.cons rfl (.inl rfl) .nil)))) (ev_var 0 rfl (.inl rfl) rfl ⟨_, rfl, rfl, by simp [Sv.isL], ?_⟩))
  refine (ws_set 5 rfl (.inl rfl) (ev_callf (f81 M) rfl (ea_cons (ev_lcm (c.fs) (fdS) (fun f => .q f.1) (own := [("_law_each", 8)]) (is := [8]) (bt := false) rfl rfl (.name rfl (.inl rfl)) (ev_var 2 rfl (.inl rfl) rfl ⟨rfl, (by omega), (fun _ _ => rfl), fun x1 hx1 => ⟨_, rfl, rfl, (ev_ix (fun _ _ => rfl) (ev_var 8 rfl (.inl rfl) rfl (ev_int ⟨_, _, rfl, rfl, rfl⟩)))⟩, (ea_nil ⟨c.fs.map (fun f => f.1), by rw [List.map_map]; rfl, t1, ⟨.inl rfl, ?_⟩⟩)⟩)))))
  refine (ws_set 6 rfl (.inl rfl) (ev_callf (f81 M) rfl (ea_cons (ev_lcm (c.fs) (fdS) (fun f => .q (f.1 * f.2.1)) (own := [("_law_each", 8)]) (is := [8]) (bt := false) rfl rfl (.name rfl (.inl rfl)) (ev_var 2 rfl (.inl rfl) rfl ⟨rfl, (by omega), (fun _ _ => rfl), fun x2 hx2 => ⟨_, rfl, rfl, (ev_callf (f78 M) rfl (ea_cons (ev_ix (fun _ _ => rfl) (ev_var 8 rfl (.inl rfl) rfl (ev_int ⟨_, _, rfl, rfl, (ea_cons (ev_ix (fun _ _ => rfl) (ev_var 8 rfl (.inl rfl) rfl (ev_int ⟨_, _, rfl, rfl, (ea_nil ⟨(_, _), rfl, q1 _ hx2, rfl⟩)⟩))))⟩)))))⟩, (ea_nil ⟨c.fs.map (fun f => f.1 * f.2.1), by rw [List.map_map]; rfl, t2, ⟨.inl rfl, ?_⟩⟩)⟩)))))
  refine (ws_set 7 rfl (.inl rfl) (ev_callf (f79 M) rfl (ea_cons (ev_callf (f77 M) rfl (ea_cons (ev_var 6 rfl (.inl rfl) rfl (ea_cons (ev_callf (f78 M) rfl (ea_cons (ev_var 4 rfl (.inl rfl) rfl (ea_cons (ev_var 5 rfl (.inl rfl) rfl (ea_nil ⟨(_, _), rfl, p1, (ea_nil ⟨(_, _), rfl, p2, (ea_cons (ev_callf (f77 M) rfl (ea_cons (ev_var 3 rfl (.inl rfl) rfl (ea_cons (ev_var 4 rfl (.inl rfl) rfl (ea_nil ⟨(_, _), rfl, p3, (ea_nil ⟨(_, _), rfl, p4, ⟨.inl rfl, ?_⟩⟩)⟩)))))))⟩)⟩)))))))))))))
  exact (ws_ret (ev_tup (ea_cons (ev_var 7 rfl (.inl rfl) rfl (ea_cons (ev_callf (f77 M) rfl (ea_cons (ev_var 5 rfl (.inl rfl) rfl (ea_cons (ev_var 7 rfl (.inl rfl) rfl (ea_nil ⟨(_, _), rfl, p5, (ea_nil ⟨by simp [sizeLine_eq], rfl⟩)⟩)))))))))))
end
end K39
end
section
set_option Elab.async false
set_option linter.all false
set_option maxRecDepth 100000
set_option maxHeartbeats 4000000
namespace K39
open PySem PySem.Spec PyProof.Rows L2
theorem flo_bz {c : Col} (h : Cok c) : Bz 190 (flo c) := by
  unfold flo
  split
  · exact ((h.fso.dry.div h.bD).sub bz1).mono (by omega)
  · exact bz0.mono (by omega)
def Parts (c : Col) (R : Rat) : Prop := flo c < R ∧ ∀ k ∈ kinks (secs c R), k.2.2.2 < vap c.a k.2.2.1
theorem crs_law {s l : Sec} (u1 : 0 < s.2.1) (u2 : 0 < l.2.1) (hs : slp s < slp l) : (l.2.2.2 * s.2.1 - s.2.2.2 * l.2.1) / (s.2.2.1 * l.2.1 - l.2.2.1 * s.2.1) = crs s l ∧ s.2.2.1 * l.2.1 - l.2.2.1 * s.2.1 ≠ 0 := by
  unfold slp at hs
  have hk : s.2.1 * l.2.1 ≠ 0 := Rat.ne_of_gt (Rat.mul_pos u1 u2)
  have hd : l.2.2.1 / l.2.1 - s.2.2.1 / s.2.1 ≠ 0 := by grind
  have e1 : (s.2.2.2 / s.2.1 - l.2.2.2 / l.2.1) * (s.2.1 * l.2.1) = s.2.2.2 * l.2.1 - l.2.2.2 * s.2.1 := by grind
  have e2 : (l.2.2.1 / l.2.1 - s.2.2.1 / s.2.1) * (s.2.1 * l.2.1) = l.2.2.1 * s.2.1 - s.2.2.1 * l.2.1 := by grind
  have hz : l.2.2.1 * s.2.1 - s.2.2.1 * l.2.1 ≠ 0 := by
    rw [← e2]
    exact fun z => by rcases Rat.mul_eq_zero.mp z with z | z; exact hd z; exact hk z
  refine ⟨?_, by grind⟩
  have q := div_same (x := s.2.2.2 / s.2.1 - l.2.2.2 / l.2.1) hk hd
  unfold crs
  rw [← q, e1, e2]
  have q2 := div_same (x := s.2.2.2 * l.2.1 - l.2.2.2 * s.2.1) (y := l.2.2.1 * s.2.1 - s.2.2.1 * l.2.1) (k := -1) (by decide) hz
  rw [← q2]
  have e3 : (s.2.2.2 * l.2.1 - l.2.2.2 * s.2.1) * -1 = l.2.2.2 * s.2.1 - s.2.2.2 * l.2.1 := by grind
  have e4 : (l.2.2.1 * s.2.1 - s.2.2.1 * l.2.1) * -1 = s.2.2.1 * l.2.1 - l.2.2.1 * s.2.1 := by grind
  rw [e3, e4]
theorem mom_take {fs : List Fd} {i : Nat} {f : Fd} (e : fs[i]? = some f) (x : Rat) : mom (fs.take (i + 1)) x = mom (fs.take i) x + f.1 * (f.2.1 - x) := by
  have t : fs.take (i + 1) = fs.take i ++ [f] := by rw [List.take_succ, e]; rfl
  rw [t, mom_app, mom_cons, mom_nil]; grind
theorem vap_gt {a x : Rat} (ha : 1 < a) (h0 : 0 < x) (h1 : x < 1) : x < vap a x := by
  have p := Rat.mul_nonneg (show 0 ≤ a - 1 by grind) (Rat.le_of_lt h0)
  unfold vap
  refine (Rat.lt_div_iff (by grind)).mpr ?_
  have := Rat.mul_pos (Rat.mul_pos (show 0 < a - 1 by grind) h0) (show 0 < 1 - x by grind)
  grind
theorem item_fd {fs : List Fd} {i : Nat} (h : i < fs.length) : (Sv.tup (fs.map fdS)).item (i : Int) = some (fdS (fs.getD i (0, 0, 0))) := item_map fdS _ h
section
variable {P : Program} {w : World} {K : PySem.W.Frag} {mg : Str → Option Value} {base : Heap}
theorem sg90 : Sig d90 "_law_floor" ["_law_wish_here", "_law_floor2"] ["_law_wish_here"] := ⟨memN 69, rfl, memF 69, rfl, rfl, ⟨rfl, rfl, rfl, by decide +kernel, rfl, by decide +kernel, by decide +kernel⟩, fun _ _ _ _ _ _ us hl => match us, hl with | [_], _ => rfl⟩
theorem f90 (M : Md K mg) : Fn P w K mg base "_law_floor" 6 ["_law_wish_here"] (Pm K (fun c : Col => [c.sv]) Cok (fun c r => r = .q (flo c))) := by
  refine mk M sg90 (fun _ => rfl) (fun z hz => noO1 rfl) fun s c hc => ?_
  have p1 : Fso c.fs ∧ Bz 145 c.D ∧ c.D ≠ 0 := ⟨hc.fso, hc.bD, Rat.ne_of_gt hc.D_pos⟩
  refine (ws_set 1 rfl (.inl rfl) (ev_callf (f83 M) rfl (ea_cons (ev_ix (fun _ _ => rfl) (ev_var 0 rfl (.inl rfl) rfl (ev_int ⟨_, _, rfl, rfl, (ea_cons (ev_ix (fun _ _ => rfl) (ev_callf (f89 M) rfl (ea_cons (ev_var 0 rfl (.inl rfl) rfl (ea_nil ⟨_, rfl, hc, (ev_int ⟨_, _, rfl, rfl, (ea_nil ⟨(_, _), rfl, p1, ⟨.inl rfl, ?_⟩⟩)⟩)⟩))))))⟩))))))
  refine (ws_ret (ev_if (et_gt (ev_ix (fun _ _ => rfl) (ev_var 1 rfl (.inl rfl) rfl (ev_int ⟨_, _, rfl, rfl, ⟨_, rfl, (ev_int ⟨_, rfl, (ite_dec (fun h1 => (ev_var 1 rfl (.inl rfl) rfl ?_)) (fun h1 => (ev_tupq (ea_cons (ev_int (ea_cons (ev_int (ea_nil ⟨(0 : Rat), rfl, ?_⟩))))))))⟩)⟩⟩))))))
  · show Sv.q _ = .q (flo c)
    unfold flo
    rw [if_pos (num_pos.mp h1)]
  · show Sv.q _ = .q (flo c)
    unfold flo
    rw [if_neg fun q => h1 (num_pos.mpr q)]
theorem sg84 : Sig d84 "_law_flows" ["_law_still", "_law_goal", "_law_volat", "_law_lots", "_law_made_here", "_law_back", "_law_counts", "_law_up", "_law_down", "_law_net", "_law_found", "_law_size_here", "_law_rich", "_law_wet"] ["_law_still", "_law_goal"] := ⟨memN 63, rfl, memF 63, rfl, rfl, ⟨rfl, rfl, rfl, by decide +kernel, rfl, by decide +kernel, by decide +kernel⟩, fun _ _ _ _ _ _ us hl => match us, hl with | [_, _], _ => rfl⟩
theorem f84 (M : Md K mg) : Fn P w K mg base "_law_flows" 4 ["_law_still", "_law_goal"] (Pm K (α := Col × Rat) (fun | (c, R) => [.tup [.q c.a, .tup (c.fs.map fdS), .q c.D, .q R, .tup []], .q c.top]) (fun | (c, R) => Cok c ∧ Bz 600 R) (fun | (c, R) => fun r => r = .tup ((secs c R).map secS))) := by
  refine mk M sg84 (fun _ => rfl) (fun z hz => noO2 rfl rfl) fun s ⟨c, R⟩ hg => ?_
  obtain ⟨hc, hR⟩ := (show Cok c ∧ Bz 600 R from hg)
  have hl := hc.fso.len
  have p1 : Sa R 1 := ⟨_, _, hR, bz1, by omega, .inr (by omega)⟩
  have p2 : St (R + 1) c.D := ⟨_, _, hR.add bz1, hc.bD, by omega, .inl (by omega)⟩
  have p3 : St R c.D := ⟨_, _, hR, hc.bD, by omega, .inl (by omega)⟩
  have p4 : St c.D c.top := ⟨_, _, hc.bD, hc.btop, by omega, .inl (by omega)⟩
  refine (ws_tup (is := [2, 3, 4, 5, 6]) (.cons rfl (.inl rfl) (.cons rfl (.inl rfl) (.cons rfl (.inl rfl) (.cons rfl (.inl rfl) (.cons rfl (.inl rfl) .nil))))) (ev_var 0 rfl (.inl rfl) rfl ⟨_, rfl, rfl, by simp [Sv.isL], ?_⟩))
  refine (ws_par3 7 8 9 rfl rfl rfl (by decide) (by decide) (by decide) rfl rfl rfl (fr_cons (ev_callf (f78 M) rfl (ea_cons (ev_callf (f76 M) rfl (ea_cons (ev_var 5 rfl (.inl rfl) rfl (ea_cons (ev_tupq (ea_cons (ev_int (ea_cons (ev_int (ea_nil ⟨(1 : Rat), rfl, (ea_nil ⟨(_, _), rfl, p1, (ea_cons (ev_var 4 rfl (.inl rfl) rfl (ea_nil ⟨(_, _), rfl, p2, ⟨rfl, (fr_cons (ev_callf (f78 M) rfl (ea_cons (ev_var 5 rfl (.inl rfl) rfl (ea_cons (ev_var 4 rfl (.inl rfl) rfl (ea_nil ⟨(_, _), rfl, p3, ⟨rfl, (fr_cons (ev_callf (f78 M) rfl (ea_cons (ev_var 4 rfl (.inl rfl) rfl (ea_cons (ev_var 1 rfl (.inl rfl) rfl (ea_nil ⟨(_, _), rfl, p4, ⟨rfl, (fr_nil ⟨rfl, ?_⟩)⟩⟩)))))))⟩⟩)))))))⟩⟩)))⟩)⟩))))))))))))) (fun env hk hn => by unfold swappedStores Env.blockKind Env.kindOf; rw [hk, hn]; rfl))
  refine (ws_newL 10 rfl (.inl rfl) (ea_cons (ev_tup (ea_cons (ev_var 2 rfl (.inl rfl) rfl (ea_cons (ev_var 7 rfl (.inl rfl) rfl (ea_cons (ev_var 8 rfl (.inl rfl) rfl (ea_cons (ev_var 9 rfl (.inl rfl) rfl (ea_nil ⟨by simp [sizeLine_eq], (ea_nil ⟨by simp [Sv.isL], ?_⟩)⟩))))))))))))
  refine ws_forT (is := [11, 12, 13]) (bt := true) (.tup (.cons rfl (.inl rfl) (.cons rfl (.inl rfl) (.cons rfl (.inl rfl) .nil)))) (ev_var 3 rfl (.inl rfl) rfl ?_)
  refine ⟨c.fs.map fdS, rfl, of_flatL (flat_fds _), fun i ρ' => ∃ L y1 y2 y3, ρ' = [some (.tup [.q c.a, .tup (c.fs.map fdS), .q c.D, .q R, .tup []]), some (.q c.top), some (.q c.a), some (.tup (c.fs.map fdS)), some (.q c.D), some (.q R), some (.tup []), some (.q (sec c R i).2.1), some (.q (sec c R i).2.2.1), some (.q (sec c R i).2.2.2), some (.own L), y1, y2, y3] ∧ L = ((List.range (i + 1)).map (sec c R)).map secS ∧ okO y1 = true ∧ okO y2 = true ∧ okO y3 = true, ⟨_, none, none, none, ?_, rfl, rfl, rfl, rfl⟩, fun i z ρ' hz ⟨L, y1, y2, y3, hρ, hL, hy1, hy2, hy3⟩ => ?_, fun ρ' ⟨L, y1, y2, y3, hρ, hL, hy1, hy2, hy3⟩ => ?_⟩
  · rw [sec_0]
    show _ = [_, _, _, _, _, _, _, _, _, _, some (Sv.own [secS (sec c R 0)]), _, _, _]
    rw [sec_0]
    rfl
  · subst hρ hL
    rw [List.getElem?_map] at hz
    cases e : c.fs[i]? with
    | none => rw [e] at hz; cases hz
    | some f =>
      rw [e] at hz
      cases hz
      refine ⟨_, rfl, rfl, by simp [Sv.isL], ?_⟩
      have hi : i < c.fs.length := (List.getElem?_eq_some_iff.mp e).1
      have hf := hc.fso.ok f (List.mem_of_getElem? e)
      obtain ⟨b1, b2, b3⟩ := bsec hc hR i
      have q0 := bz1.sub hf.q
      have q1 : Sa 1 f.2.2 := ⟨_, _, bz1, hf.q, by omega, .inl (by omega)⟩
      have q2 : St f.1 (1 - f.2.2) := ⟨_, _, hf.a, q0, by omega, .inl (by omega)⟩
      have q3 : Sa (sec c R i).2.1 (f.1 * (1 - f.2.2)) := ⟨_, _, b1, hf.a.mul q0, by omega, .inl (by omega)⟩
      have q4 : St f.1 f.2.2 := ⟨_, _, hf.a, hf.q, by omega, .inl (by omega)⟩
      have q5 : Sa (sec c R i).2.2.1 (f.1 * f.2.2) := ⟨_, _, b2, hf.a.mul hf.q, by omega, .inl (by omega)⟩
      have q6 : St f.1 f.2.1 := ⟨_, _, hf.a, hf.s, by omega, .inl (by omega)⟩
      have q7 : Sa (sec c R i).2.2.2 (f.1 * f.2.1) := ⟨_, _, b3, hf.a.mul hf.s, by omega, .inl (by omega)⟩
      refine (ws_set 7 rfl (.inl rfl) (ev_callf (f77 M) rfl (ea_cons (ev_var 7 rfl (.inl rfl) rfl (ea_cons (ev_callf (f78 M) rfl (ea_cons (ev_var 11 rfl (.inl rfl) rfl (ea_cons (ev_callf (f77 M) rfl (ea_cons (ev_tupq (ea_cons (ev_int (ea_cons (ev_int (ea_nil ⟨(1 : Rat), rfl, (ea_cons (ev_var 13 rfl (.inl rfl) rfl (ea_nil ⟨(_, _), rfl, q1, (ea_nil ⟨(_, _), rfl, q2, (ea_nil ⟨(_, _), rfl, q3, ⟨.inl rfl, ?_⟩⟩)⟩)⟩)))⟩)))))))))))))))))
      refine (ws_set 8 rfl (.inl rfl) (ev_callf (f76 M) rfl (ea_cons (ev_var 8 rfl (.inl rfl) rfl (ea_cons (ev_callf (f78 M) rfl (ea_cons (ev_var 11 rfl (.inl rfl) rfl (ea_cons (ev_var 13 rfl (.inl rfl) rfl (ea_nil ⟨(_, _), rfl, q4, (ea_nil ⟨(_, _), rfl, q5, ⟨.inl rfl, ?_⟩⟩)⟩)))))))))))
      refine (ws_set 9 rfl (.inl rfl) (ev_callf (f77 M) rfl (ea_cons (ev_var 9 rfl (.inl rfl) rfl (ea_cons (ev_callf (f78 M) rfl (ea_cons (ev_var 11 rfl (.inl rfl) rfl (ea_cons (ev_var 12 rfl (.inl rfl) rfl (ea_nil ⟨(_, _), rfl, q6, (ea_nil ⟨(_, _), rfl, q7, ⟨.inl rfl, ?_⟩⟩)⟩)))))))))))
      refine (ws_app 10 rfl (.inl rfl) rfl (flat_secs _) (by simp; omega) (ev_tup (ea_cons (ev_var 2 rfl (.inl rfl) rfl (ea_cons (ev_var 7 rfl (.inl rfl) rfl (ea_cons (ev_var 8 rfl (.inl rfl) rfl (ea_cons (ev_var 9 rfl (.inl rfl) rfl (ea_nil ⟨by simp [sizeLine_eq], ⟨rfl, rfl, ?_⟩⟩)))))))))) (hfr_of (by simp [okO_s, Sv.fl, Sv.flat, Sv.flatL, K39.sets, flat_fds, flat_secs, -List.map_map])))
      refine (ws_nil ?_)
      refine ⟨((List.range (i + 1)).map (sec c R)).map secS ++ [secS (sec c R (i + 1))], some (.q f.1), some (.q f.2.1), some (.q f.2.2), ?_, ?_, rfl, rfl, rfl⟩
      · rw [sec_step e]; rfl
      · rw [List.range_succ (n := i + 1), List.map_append, List.map_append]; rfl
  · subst hρ hL
    rw [List.length_map]
    exact (ws_ret (ev_tuple rfl (M.fr _ (memF 103)) (ev_var 10 rfl (.inl rfl) rfl (.inl ⟨_, rfl, rfl⟩))))
theorem sg91 : Sig d91 "_law_lines" ["_law_wish_here", "_law_back"] ["_law_wish_here", "_law_back"] := ⟨memN 70, rfl, memF 70, rfl, rfl, ⟨rfl, rfl, rfl, by decide +kernel, rfl, by decide +kernel, by decide +kernel⟩, fun _ _ _ _ _ _ us hl => match us, hl with | [_, _], _ => rfl⟩
theorem f91 (M : Md K mg) : Fn P w K mg base "_law_lines" 6 ["_law_wish_here", "_law_back"] (Pm K (α := Col × Rat) (fun | (c, R) => [c.sv, .q R]) (fun | (c, R) => Cok c ∧ Bz 600 R) (fun | (c, R) => fun r => r = .tup ((secs c R).map secS))) := by
  refine mk M sg91 (fun _ => rfl) (fun z hz => noO2 rfl rfl) fun s ⟨c, R⟩ hg => ?_
  have hg : Cok c ∧ Bz 600 R := hg
  exact (ws_ret (ev_callf (f84 M) rfl (ea_cons (ev_tup (ea_cons (ev_ix (fun _ _ => rfl) (ev_var 0 rfl (.inl rfl) rfl (ev_int ⟨_, _, rfl, rfl, (ea_cons (ev_ix (fun _ _ => rfl) (ev_var 0 rfl (.inl rfl) rfl (ev_int ⟨_, _, rfl, rfl, (ea_cons (ev_ix (fun _ _ => rfl) (ev_callf (f89 M) rfl (ea_cons (ev_var 0 rfl (.inl rfl) rfl (ea_nil ⟨_, rfl, hg.1, (ev_int ⟨_, _, rfl, rfl, (ea_cons (ev_var 1 rfl (.inl rfl) rfl (ea_cons (ev_tup (ea_nil ⟨by simp [sizeLine_eq], (ea_nil ⟨by simp [sizeLine_eq], (ea_cons (ev_ix (fun _ _ => rfl) (ev_var 0 rfl (.inl rfl) rfl (ev_int ⟨_, _, rfl, rfl, (ea_nil ⟨(c, R), rfl, hg, rfl⟩)⟩))))⟩)⟩)))))⟩)⟩))))))⟩))))⟩))))))))
theorem sg92 : Sig d92 "_law_streams" ["_law_wish_here", "_law_back"] ["_law_wish_here", "_law_back"] := ⟨memN 71, rfl, memF 71, rfl, rfl, ⟨rfl, rfl, rfl, by decide +kernel, rfl, by decide +kernel, by decide +kernel⟩, fun _ _ _ _ _ _ us hl => match us, hl with | [_, _], _ => rfl⟩
theorem f92 (M : Md K mg) : Fn P w K mg base "_law_streams" 7 ["_law_wish_here", "_law_back"] (Pm K (α := Col × Rat) (fun | (c, R) => [c.sv, .q R]) (fun | (c, R) => Cok c ∧ Bz 600 R) (fun | (c, R) => fun r => r = .bl (decide (flo c < R)))) := by
  refine mk M sg92 (fun _ => rfl) (fun z hz => noO2 rfl rfl) fun s ⟨c, R⟩ hg => ?_
  have hg : Cok c ∧ Bz 600 R := hg
  have p : Sb R (flo c) := ⟨_, _, hg.2, flo_bz hg.1, by omega⟩
  exact (ws_ret (ev_gt (ev_callf (f80 M) rfl (ea_cons (ev_var 1 rfl (.inl rfl) rfl (ea_cons (ev_callf (f90 M) rfl (ea_cons (ev_var 0 rfl (.inl rfl) rfl (ea_nil ⟨_, rfl, hg.1, (ea_nil ⟨(_, _), rfl, p, ⟨_, rfl, (ev_int ⟨_, rfl, congrArg Sv.bl (decide_eq_decide.mpr sd_pos)⟩)⟩⟩)⟩))))))))))
theorem sg95 : Sig d95 "_law_rise" ["_law_wish_here", "_law_at", "_law_x", "_law_found", "_law_each"] ["_law_wish_here", "_law_at", "_law_x"] := ⟨memN 74, rfl, memF 74, rfl, rfl, ⟨rfl, rfl, rfl, by decide +kernel, rfl, by decide +kernel, by decide +kernel⟩, fun _ _ _ _ _ _ us hl => match us, hl with | [_, _, _], _ => rfl⟩
theorem f95 (M : Md K mg) : Fn P w K mg base "_law_rise" 6 ["_law_wish_here", "_law_at", "_law_x"] (Pm K (α := Col × Nat × Rat) (fun | (c, k, x) => [c.sv, .int (k : Int), .q x]) (fun | (c, k, x) => Cok c ∧ Bz 28 x) (fun | (c, k, x) => fun r => r = .q (rho c k x))) := by
  refine mk M sg95 (fun _ => rfl) (fun z hz => noOl rfl) fun s ⟨c, k, x⟩ hg => ?_
  obtain ⟨hc, hx⟩ := (show Cok c ∧ Bz 28 x from hg)
  have hl := hc.fso.len
  have b1 := hc.btop.sub hx
  have p1 : Sa c.top x := ⟨_, _, hc.btop, hx, by omega, .inl (by omega)⟩
  have p2 : St c.D (c.top - x) := ⟨_, _, hc.bD, b1, by omega, .inl (by omega)⟩
  refine (ws_set 3 rfl (.inl rfl) (ev_callf (f78 M) rfl (ea_cons (ev_ix (fun _ _ => rfl) (ev_callf (f89 M) rfl (ea_cons (ev_var 0 rfl (.inl rfl) rfl (ea_nil ⟨_, rfl, hc, (ev_int ⟨_, _, rfl, rfl, (ea_cons (ev_callf (f77 M) rfl (ea_cons (ev_ix (fun _ _ => rfl) (ev_var 0 rfl (.inl rfl) rfl (ev_int ⟨_, _, rfl, rfl, (ea_cons (ev_var 2 rfl (.inl rfl) rfl (ea_nil ⟨(_, _), rfl, p1, (ea_nil ⟨(_, _), rfl, p2, ⟨.inl rfl, ?_⟩⟩)⟩)))⟩))))))⟩)⟩))))))))
  refine ws_forT (is := [4]) (bt := false) (.name rfl (.inl rfl)) (ev_to (ev_ix (fun _ _ => rfl) (ev_var 0 rfl (.inl rfl) rfl (ev_int ⟨_, _, rfl, rfl, ⟨_, rfl, rfl, (ev_var 1 rfl (.inl rfl) rfl ⟨_, rfl, ?_⟩)⟩⟩))))
  refine ⟨(c.fs.take k).map fdS, by rw [List.map_take]; rfl, of_flatL (flat_fds _), fun i ρ' => ∃ y v, ρ' = [some c.sv, some (.int (k : Int)), some (.q x), some (.q v), y] ∧ v = c.D * (c.top - x) - mom ((c.fs.take k).take i) x ∧ Bz (184 + i * 49) v, ⟨none, c.D * (c.top - x), rfl, by rw [List.take_zero, mom_nil]; grind, (hc.bD.mul b1).mono (by omega)⟩, fun i z ρ' hz ⟨y, v, hρ, hv, hb⟩ => ?_, fun ρ' ⟨y, v, hρ, hv, hb⟩ => ?_⟩
  · subst hρ
    rw [List.getElem?_map] at hz
    cases e : (c.fs.take k)[i]? with
    | none => rw [e] at hz; cases hz
    | some f =>
      rw [e] at hz
      cases hz
      refine ⟨_, rfl, rfl, by simp [Sv.isL, fdS], ?_⟩
      have hi : i < (c.fs.take k).length := (List.getElem?_eq_some_iff.mp e).1
      have hi3 : i < 3 := by have := (hc.fso.take k).len; omega
      have hf := (hc.fso.take k).ok f (List.mem_of_getElem? e)
      have q0 := hf.s.sub hx
      have q1 : Sa f.2.1 x := ⟨_, _, hf.s, hx, by omega, .inl (by omega)⟩
      have q2 : St f.1 (f.2.1 - x) := ⟨_, _, hf.a, q0, by omega, .inl (by omega)⟩
      have q3 : Sa v (f.1 * (f.2.1 - x)) := ⟨_, _, hb, hf.a.mul q0, by omega, .inl (by omega)⟩
      refine (ws_set 3 rfl (.inl rfl) (ev_callf (f77 M) rfl (ea_cons (ev_var 3 rfl (.inl rfl) rfl (ea_cons (ev_callf (f78 M) rfl (ea_cons (ev_ix (fun _ _ => rfl) (ev_var 4 rfl (.inl rfl) rfl (ev_int ⟨_, _, rfl, rfl, (ea_cons (ev_callf (f77 M) rfl (ea_cons (ev_ix (fun _ _ => rfl) (ev_var 4 rfl (.inl rfl) rfl (ev_int ⟨_, _, rfl, rfl, (ea_cons (ev_var 2 rfl (.inl rfl) rfl (ea_nil ⟨(_, _), rfl, q1, (ea_nil ⟨(_, _), rfl, q2, (ea_nil ⟨(_, _), rfl, q3, ⟨.inl rfl, ?_⟩⟩)⟩)⟩)))⟩))))))⟩))))))))))
      refine (ws_nil ?_)
      refine ⟨some (fdS f), v - f.1 * (f.2.1 - x), rfl, ?_, (hb.sub (hf.a.mul q0)).mono (by omega)⟩
      rw [mom_take e, hv]; grind
  · subst hρ hv
    rw [List.length_map, List.take_length]
    exact (ws_ret (ev_var 3 rfl (.inl rfl) rfl rfl))
end
end K39
end
section
set_option Elab.async false
set_option linter.all false
set_option maxRecDepth 100000
set_option maxHeartbeats 4000000
namespace K39
open PySem PySem.Spec PyProof.Rows L2
theorem mom_bz {fs : List Fd} {x : Rat} (h : Fso fs) (hx : Bz 28 x) : Bz 148 (mom fs x) := by
  have e : ∀ {fs : List Fd}, Fso fs → Bz (1 + fs.length * 49) (mom fs x) := fun {fs} h => by
    have e : mom fs x = tot (fs.map fun f => f.1 * (f.2.1 - x)) := by
      clear h
      induction fs with
      | nil => exact mom_nil x
      | cons f fs ih => rw [mom_cons, List.map_cons, tot_cons, ih]
    rw [e]
    have := bz_tot (b := 48) (l := fs.map fun f => f.1 * (f.2.1 - x)) fun r hr => by
      obtain ⟨f, hf, rfl⟩ := List.mem_map.mp hr
      exact ((h.ok f hf).a.mul ((h.ok f hf).s.sub hx)).mono (by omega)
    rw [List.length_map] at this
    exact this
  exact (e h).mono (by have := h.len; omega)
theorem rho_bz {c : Col} {x : Rat} (hc : Cok c) (hx : Bz 28 x) (k : Nat) : Bz 333 (rho c k x) := ((hc.bD.mul (hc.btop.sub hx)).sub (mom_bz (hc.fso.take k) hx)).mono (by omega)
section
variable {P : Program} {w : World} {K : PySem.W.Frag} {mg : Str → Option Value} {base : Heap}
theorem sg96 : Sig d96 "_law_sure" ["_law_wish_here", "_law_volat", "_law_lots", "_law_top2", "_law_foot", "_law_high2", "_law_dry", "_law_at", "_law_x", "_law_up", "_law_one", "_law_two", "_law_gap", "_law_each"] ["_law_wish_here"] := ⟨memN 75, rfl, memF 75, rfl, rfl, ⟨rfl, rfl, rfl, by decide +kernel, rfl, by decide +kernel, by decide +kernel⟩, fun _ _ _ _ _ _ us hl => match us, hl with | [_], _ => rfl⟩
theorem f96 (M : Md K mg) : Fn P w K mg base "_law_sure" 7 ["_law_wish_here"] (Pm K (fun c : Col => [c.sv]) Cok (fun _ r => ∃ t, r = .q t ∧ Bz 586 t)) := by
  refine mk M sg96 (fun _ => rfl) (fun z hz => noO1 rfl) fun s c hc => ?_
  have hf := hc.fso
  have hl := hf.len
  have t0 := top0 hc
  have f0 := hc.f0
  have ft := hc.ft
  have t1 := hc.t1
  have q1 : ∀ f ∈ c.fs, Sa 1 f.2.2 := fun f h => ⟨_, _, bz1, (hf.ok f h).q, by omega, .inl (by omega)⟩
  have q2 : ∀ f ∈ c.fs, St f.1 (1 - f.2.2) := fun f h => ⟨_, _, (hf.ok f h).a, bz1.sub (hf.ok f h).q, by omega, .inl (by omega)⟩
  have q3 : Tk4 (c.fs.map fun f => f.1 * (1 - f.2.2)) := ⟨by rw [List.length_map]; omega, fun r hr => by
    obtain ⟨f, h, rfl⟩ := List.mem_map.mp hr
    exact ((hf.ok f h).a.mul (bz1.sub (hf.ok f h).q)).mono (by omega)⟩
  refine (ws_tup (is := [1, 2, 3, 4]) (.cons rfl (.inl rfl) (.cons rfl (.inl rfl) (.cons rfl (.inl rfl) (.cons rfl (.inl rfl) .nil)))) (ev_var 0 rfl (.inl rfl) rfl ⟨_, rfl, rfl, by simp [Sv.isL], ?_⟩))
  refine (ws_par2 5 6 rfl rfl (by decide) rfl rfl (fr_cons (ev_tupq (ea_cons (ev_int (ea_cons (ev_int (ea_nil ⟨(0 : Rat), rfl, ⟨rfl, (fr_cons (ev_callf (f81 M) rfl (ea_cons (ev_lcm (c.fs) (fdS) (fun f => .q (f.1 * (1 - f.2.2))) (own := [("_law_each", 13)]) (is := [13]) (bt := false) rfl rfl (.name rfl (.inl rfl)) (ev_var 2 rfl (.inl rfl) rfl ⟨rfl, (by omega), (fun _ _ => rfl), fun x1 hx1 => ⟨_, rfl, rfl, (ev_callf (f78 M) rfl (ea_cons (ev_ix (fun _ _ => rfl) (ev_var 13 rfl (.inl rfl) rfl (ev_int ⟨_, _, rfl, rfl, (ea_cons (ev_callf (f77 M) rfl (ea_cons (ev_tupq (ea_cons (ev_int (ea_cons (ev_int (ea_nil ⟨(1 : Rat), rfl, (ea_cons (ev_ix (fun _ _ => rfl) (ev_var 13 rfl (.inl rfl) rfl (ev_int ⟨_, _, rfl, rfl, (ea_nil ⟨(_, _), rfl, q1 _ hx1, (ea_nil ⟨(_, _), rfl, q2 _ hx1, rfl⟩)⟩)⟩))))⟩)))))))))⟩)))))⟩, (ea_nil ⟨c.fs.map (fun f => f.1 * (1 - f.2.2)), by rw [List.map_map]; rfl, q3, ⟨rfl, (fr_nil ⟨rfl, ?_⟩)⟩⟩)⟩)))))⟩⟩))))))) (fun env hk hn => by unfold swappedStores Env.blockKind Env.kindOf; rw [hk, hn]; rfl))
  rw [dry2_eq]
  refine ws_forR1 7 rfl (M.fr _ (memF 106)) rfl (.inl rfl) (ev_add (ev_len rfl (M.fr _ (memF 104)) (ev_var 2 rfl (.inl rfl) rfl ⟨_, rfl, ⟨_, rfl, (ev_int ⟨_, rfl, ?_⟩)⟩⟩)))
  rw [List.length_map]
  have vb : ∀ x, Bz 28 x → 0 < x → x < 1 → (Sx c.a x ∧ 0 ≤ x) ∧ Sa (vap c.a x) x ∧ Bz 65 (vap c.a x - x) ∧ vap c.a x - x ≠ 0 := fun x hx x0 x1 => by
    have b := hc.ba.vap hx hc.a1 (Rat.le_of_lt x0)
    refine ⟨⟨⟨hc.a1, _, _, hc.ba, hx, by omega, by omega⟩, Rat.le_of_lt x0⟩, ⟨_, _, b, hx, by omega, .inl (by omega)⟩, (b.sub hx).mono (by omega), ?_⟩
    exact sub_ne (vap_gt hc.a1 x0 x1)
  have btop27 : Bz 28 c.top := hc.btop.mono (by omega)
  refine ⟨c.fs.length + 1, by simp, by omega, fun i ρ' => ∃ (h : Rat) (y1 y2 y3 : Option Sv), ρ' = [some c.sv, some (.q c.a), some (.tup (c.fs.map fdS)), some (.q c.top), some (.q c.foot), some (.q h), some (.q (dry c.fs)), y1, y2, y3, none, none, none, none] ∧ Bz 333 h ∧ noOwnB [y2, y3] = true, ⟨0, none, none, none, rfl, bz0.mono (by omega), rfl⟩, fun i ρ' hi ⟨h, y1, y2, y3, hρ, hb, hn⟩ => ?_, fun ρ' ⟨h, y1, y2, y3, hρ, hb, hn⟩ => ?_⟩
  · subst hρ
    refine ws_forL (is := [8]) (bt := false) (.name rfl (.inl rfl)) (noOwn_of (by simpa [noOwnB, Sv.isO, Col.sv] using hn)) (ev_lst (ea_cons (ev_var 3 rfl (.inl rfl) rfl (ea_cons (ev_var 4 rfl (.inl rfl) rfl (ea_nil ⟨by simp [sizeLine_eq], ⟨_, rfl, ?_⟩⟩))))))
    refine ⟨fun j ρ' => ∃ (h : Rat) (y2 y3 : Option Sv), ρ' = [some c.sv, some (.q c.a), some (.tup (c.fs.map fdS)), some (.q c.top), some (.q c.foot), some (.q h), some (.q (dry c.fs)), some (.int (i : Int)), y2, y3, none, none, none, none] ∧ Bz 333 h ∧ noOwnB [y2, y3] = true, ⟨h, y2, y3, rfl, hb, hn⟩, fun j z ρ' hz ⟨h, y2, y3, hρ, hb, hn⟩ => ?_, fun ρ' ⟨h, y2, y3, hρ, hb, hn⟩ => ?_⟩
    · subst hρ
      obtain ⟨x, rfl, hx⟩ : ∃ x, z = .q x ∧ Bz 28 x := by
        match j, hz with
        | 0, hz => cases hz; exact ⟨_, rfl, btop27⟩
        | 1, hz => cases hz; exact ⟨_, rfl, hc.bfoot⟩
      refine ⟨_, rfl, rfl, by simp [Sv.isL], ?_⟩
      have r1 : Cok c ∧ Bz 28 x := ⟨hc, hx⟩
      have rb : Bz 333 (rho c i x) := rho_bz hc hx i
      have r2 : Sb (rho c i x) h := ⟨_, _, rb, hb, by omega⟩
      refine (ws_set 9 rfl (.inl rfl) (ev_callf (f95 M) rfl (ea_cons (ev_var 0 rfl (.inl rfl) rfl (ea_cons (ev_var 7 rfl (.inl rfl) rfl (ea_cons (ev_var 8 rfl (.inl rfl) rfl (ea_nil ⟨(_, _, _), rfl, r1, ⟨.inl rfl, (ws_set 5 rfl (.inl rfl) (ev_if (et_gt (ev_callf (f80 M) rfl (ea_cons (ev_var 9 rfl (.inl rfl) rfl (ea_cons (ev_var 5 rfl (.inl rfl) rfl (ea_nil ⟨(_, _), rfl, r2, ⟨_, rfl, (ev_int ⟨_, rfl, (ite_dec (fun h1 => (ev_var 9 rfl (.inl rfl) rfl ⟨.inl rfl, (ws_nil ?_)⟩)) (fun h1 => (ev_var 5 rfl (.inl rfl) rfl ⟨.inl rfl, (ws_nil ?_)⟩)))⟩)⟩⟩)))))))))⟩⟩)))))))))
      · exact ⟨rho c i x, some (.q x), some (.q (rho c i x)), rfl, rb, rfl⟩
      · exact ⟨h, some (.q x), some (.q (rho c i x)), rfl, hb, rfl⟩
    · subst hρ
      exact ws_nil ⟨h, some (.int (i : Int)), y2, y3, rfl, hb, hn⟩
  · subst hρ
    obtain ⟨v1, v2, v3, v4⟩ := vb c.top btop27 t0 t1
    obtain ⟨w1, w2, w3, w4⟩ := vb c.foot hc.bfoot f0 (by grind)
    have s1 : Sb (vap c.a c.top - c.top) (vap c.a c.foot - c.foot) := ⟨_, _, v3, w3, by omega⟩
    have bdry := hf.dry
    refine (ws_par2 10 11 rfl rfl (by decide) rfl rfl (fr_cons (ev_callf (f77 M) rfl (ea_cons (ev_callf (f86 M) rfl (ea_cons (ev_var 1 rfl (.inl rfl) rfl (ea_cons (ev_var 3 rfl (.inl rfl) rfl (ea_nil ⟨(_, _), rfl, v1, (ea_cons (ev_var 3 rfl (.inl rfl) rfl (ea_nil ⟨(_, _), rfl, v2, ⟨rfl, (fr_cons (ev_callf (f77 M) rfl (ea_cons (ev_callf (f86 M) rfl (ea_cons (ev_var 1 rfl (.inl rfl) rfl (ea_cons (ev_var 4 rfl (.inl rfl) rfl (ea_nil ⟨(_, _), rfl, w1, (ea_cons (ev_var 4 rfl (.inl rfl) rfl (ea_nil ⟨(_, _), rfl, w2, ⟨rfl, (fr_nil ⟨rfl, ?_⟩)⟩⟩)))⟩)))))))))⟩⟩)))⟩))))))))) (fun env hk hn => by unfold swappedStores Env.blockKind Env.kindOf; rw [hk, hn]; rfl))
    have fin : ∀ g : Rat, Bz 65 g → g ≠ 0 → So h g ∧ Sa (h / g) (dry c.fs) ∧ So (h / g + dry c.fs) c.D ∧ Bz 586 ((h / g + dry c.fs) / c.D) := fun g bg ng => by
      have b1 := hb.div bg
      have b2 := b1.add bdry
      exact ⟨⟨ng, _, _, hb, bg, by omega, .inl (by omega)⟩, ⟨_, _, b1, bdry, by omega, .inl (by omega)⟩, ⟨Rat.ne_of_gt hc.D_pos, _, _, b2, hc.bD, by omega, .inl (by omega)⟩, (b2.div hc.bD).mono (by omega)⟩
    obtain ⟨x1, x2, x3, x4⟩ := fin _ v3 v4
    obtain ⟨z1, z2, z3, z4⟩ := fin _ w3 w4
    refine (ws_set 12 rfl (.inl rfl) (ev_if (et_lt (ev_callf (f80 M) rfl (ea_cons (ev_var 10 rfl (.inl rfl) rfl (ea_cons (ev_var 11 rfl (.inl rfl) rfl (ea_nil ⟨(_, _), rfl, s1, ⟨_, rfl, (ev_int ⟨_, rfl, (ite_dec (fun h1 => (ev_var 10 rfl (.inl rfl) rfl ⟨.inl rfl, ?_⟩)) (fun h1 => (ev_var 11 rfl (.inl rfl) rfl ⟨.inl rfl, ?_⟩)))⟩)⟩⟩)))))))))
    · exact (ws_ret (ev_callf (f79 M) rfl (ea_cons (ev_callf (f76 M) rfl (ea_cons (ev_callf (f79 M) rfl (ea_cons (ev_var 5 rfl (.inl rfl) rfl (ea_cons (ev_var 12 rfl (.inl rfl) rfl (ea_nil ⟨(_, _), rfl, x1, (ea_cons (ev_var 6 rfl (.inl rfl) rfl (ea_nil ⟨(_, _), rfl, x2, (ea_cons (ev_ix (fun _ _ => rfl) (ev_callf (f89 M) rfl (ea_cons (ev_var 0 rfl (.inl rfl) rfl (ea_nil ⟨_, rfl, hc, (ev_int ⟨_, _, rfl, rfl, (ea_nil ⟨(_, _), rfl, x3, ⟨_, rfl, x4⟩⟩)⟩)⟩))))))⟩)))⟩)))))))))))
    · exact (ws_ret (ev_callf (f79 M) rfl (ea_cons (ev_callf (f76 M) rfl (ea_cons (ev_callf (f79 M) rfl (ea_cons (ev_var 5 rfl (.inl rfl) rfl (ea_cons (ev_var 12 rfl (.inl rfl) rfl (ea_nil ⟨(_, _), rfl, z1, (ea_cons (ev_var 6 rfl (.inl rfl) rfl (ea_nil ⟨(_, _), rfl, z2, (ea_cons (ev_ix (fun _ _ => rfl) (ev_callf (f89 M) rfl (ea_cons (ev_var 0 rfl (.inl rfl) rfl (ea_nil ⟨_, rfl, hc, (ev_int ⟨_, _, rfl, rfl, (ea_nil ⟨(_, _), rfl, z3, ⟨_, rfl, z4⟩⟩)⟩)⟩))))))⟩)))⟩)))))))))))
end
end K39
end
section
set_option Elab.async false
set_option linter.all false
set_option maxRecDepth 100000
set_option maxHeartbeats 4000000
namespace K39
open PySem PySem.Spec PyProof.Rows L2
theorem kkF_done {cr : Nat → Nat → Rat} {last u : Nat} (h : ¬ u < last) : ∀ f, kkF cr last f u = []
  | 0 => rfl
  | f + 1 => by rw [kkF, if_neg h]
section
variable {P : Program} {w : World} {K : PySem.W.Frag} {mg : Str → Option Value} {base : Heap}
theorem sg93 : Sig d93 "_law_bends" ["_law_flows_here", "_law_found", "_law_at", "_law_last", "_law_turn", "_law_best", "_law_one", "_law_each", "_law_two", "_law_gap", "_law_x"] ["_law_flows_here"] := ⟨memN 72, rfl, memF 72, rfl, rfl, ⟨rfl, rfl, rfl, by decide +kernel, rfl, by decide +kernel, by decide +kernel⟩, fun _ _ _ _ _ _ us hl => match us, hl with | [_], _ => rfl⟩
theorem f93 (M : Md K mg) : Fn P w K mg base "_law_bends" 5 ["_law_flows_here"] (Pm K (fun ss : List Sec => [.tup (ss.map secS)]) SS (fun ss r => r = .tup ((kinks ss).map kS))) := by
  refine mk M sg93 (fun _ => rfl) (fun z hz => noO1 rfl) fun s ss h => ?_
  have hne := h.ne
  have hfew := h.few
  refine (ws_par3 1 2 3 rfl rfl rfl (by decide) (by decide) (by decide) rfl rfl rfl (fr_new (fr_cons (ev_int ⟨rfl, (fr_cons (ev_sub (ev_len rfl (M.fr _ (memF 104)) (ev_var 0 rfl (.inl rfl) rfl ⟨_, rfl, ⟨_, rfl, (ev_int ⟨_, rfl, ⟨rfl, (fr_nil ⟨by simp [Sv.isL], ⟨rfl, ?_⟩⟩)⟩⟩)⟩⟩))))⟩))) (fun env hk hn => by unfold swappedStores Env.blockKind Env.kindOf; rw [hk, hn]; rfl))
  rw [List.length_map]
  have el : ((ss.length : Int) - 1) = ((ss.length - 1 : Nat) : Int) := by omega
  rw [el]
  refine ws_forR1 4 rfl (M.fr _ (memF 106)) rfl (.inl rfl) (ev_var 3 rfl (.inl rfl) rfl ?_)
  refine ⟨ss.length - 1, rfl, by omega, fun i ρ' => ∃ (L : List (Nat × Nat)) (u : Nat) (y1 y2 y3 y4 y5 y6 y7 : Option Sv), ρ' = [some (.tup (ss.map secS)), some (.own ((L.map (mkK ss)).map kS)), some (.int (u : Int)), some (.int ((ss.length - 1 : Nat) : Int)), y1, y2, y3, y4, y5, y6, y7] ∧ u < ss.length ∧ L ++ kkF (crI ss) (ss.length - 1) (ss.length - 1 - i) u = kkF (crI ss) (ss.length - 1) (ss.length - 1) 0 ∧ L.length ≤ i ∧ [y1, y2, y3, y4, y5, y6, y7].all okO = true, ⟨[], 0, none, none, none, none, none, none, none, rfl, hne, rfl, Nat.le_refl _, rfl⟩, fun i ρ' hi ⟨L, u, y1, y2, y3, y4, y5, y6, y7, hρ, hu, hL, hl, hy⟩ => ?_, fun ρ' ⟨L, u, y1, y2, y3, y4, y5, y6, y7, hρ, hu, hL, hl, hy⟩ => ?_⟩
  · subst hρ
    simp only [List.all_cons, List.all_nil, Bool.and_true, Bool.and_eq_true] at hy
    obtain ⟨hy1, hy2, hy3, hy4, hy5, hy6, hy7⟩ := hy
    refine ws_if (et_lt (ev_var 2 rfl (.inl rfl) rfl ⟨_, rfl, (ev_var 3 rfl (.inl rfl) rfl ⟨_, rfl, (ite_dec (fun hlt => ?_) (fun hge => ?_))⟩)⟩))
    · have hlt : u < ss.length - 1 := by omega
      have itu := item_sec hu
      refine (ws_par2 5 6 rfl rfl (by decide) rfl rfl (fr_cons (ev_non ⟨rfl, (fr_cons (ev_ix (fun _ _ => rfl) (ev_var 0 rfl (.inl rfl) rfl (ev_var 2 rfl (.inl rfl) rfl ⟨_, _, rfl, itu, ⟨rfl, (fr_nil ⟨rfl, ?_⟩)⟩⟩))))⟩)) (fun env hk hn => by unfold swappedStores Env.blockKind Env.kindOf; rw [hk, hn]; rfl))
      refine ws_forR2 7 rfl (M.fr _ (memF 106)) rfl (.inl rfl) (ev_add (ev_var 2 rfl (.inl rfl) rfl ⟨_, rfl, (ev_int ⟨_, rfl, ?_⟩)⟩))
      refine ⟨u + 1, rfl, by omega, (ev_add (ev_var 3 rfl (.inl rfl) rfl ⟨_, rfl, (ev_int ⟨_, rfl, ?_⟩)⟩))⟩
      have e2 : ((ss.length - 1 : Nat) : Int) + 1 = ((ss.length : Nat) : Int) := by omega
      refine ⟨ss.length, congrArg Sv.int e2, by omega, fun j ρ' => ∃ (l : Nat) (b y4 y5 y6 y7 : Option Sv), ρ' = [some (.tup (ss.map secS)), some (.own ((L.map (mkK ss)).map kS)), some (.int (u : Int)), some (.int ((ss.length - 1 : Nat) : Int)), some (.int (i : Int)), b, some (secS (sAt ss u)), y4, y5, y6, y7] ∧ ((j = 0 ∧ b = some .non) ∨ (0 < j ∧ b = some (.tup [.q (crI ss u l), .int (l : Int)]) ∧ l = nxt (crI ss) u (j - 1))) ∧ [y4, y5, y6, y7].all okO = true, ⟨0, some .non, y4, y5, y6, y7, rfl, .inl ⟨rfl, rfl⟩, by simp [hy4, hy5, hy6, hy7]⟩, fun j ρ' hj ⟨l, b, y4, y5, y6, y7, hρ, hb, hy⟩ => ?_, fun ρ' ⟨l, b, y4, y5, y6, y7, hρ, hb, hy⟩ => ?_⟩
      · subst hρ
        have hj2 : u + 1 + j < ss.length := by omega
        have it2 := item_sec hj2
        have ku := h.at_ hu
        have kl := h.at_ hj2
        have hs := h.up u (u + 1 + j) (by omega) hj2
        obtain ⟨ce, cn⟩ := crs_law ku.u0 kl.u0 hs
        have g1 := ku.bd.mul kl.bu
        have g2 := kl.bd.mul ku.bu
        have g3 := kl.bn.mul ku.bu
        have g4 := ku.bn.mul kl.bu
        have p1 : St (sAt ss u).2.2.1 (sAt ss (u + 1 + j)).2.1 := ⟨_, _, ku.bd, kl.bu, by omega, .inl (by omega)⟩
        have p2 : St (sAt ss (u + 1 + j)).2.2.1 (sAt ss u).2.1 := ⟨_, _, kl.bd, ku.bu, by omega, .inl (by omega)⟩
        have p3 : Sa ((sAt ss u).2.2.1 * (sAt ss (u + 1 + j)).2.1) ((sAt ss (u + 1 + j)).2.2.1 * (sAt ss u).2.1) := ⟨_, _, g1, g2, by omega, .inl (by omega)⟩
        have p4 : St (sAt ss (u + 1 + j)).2.2.2 (sAt ss u).2.1 := ⟨_, _, kl.bn, ku.bu, by omega, .inl (by omega)⟩
        have p5 : St (sAt ss u).2.2.2 (sAt ss (u + 1 + j)).2.1 := ⟨_, _, ku.bn, kl.bu, by omega, .inl (by omega)⟩
        have p6 : Sa ((sAt ss (u + 1 + j)).2.2.2 * (sAt ss u).2.1) ((sAt ss u).2.2.2 * (sAt ss (u + 1 + j)).2.1) := ⟨_, _, g3, g4, by omega, .inl (by omega)⟩
        have p7 : So ((sAt ss (u + 1 + j)).2.2.2 * (sAt ss u).2.1 - (sAt ss u).2.2.2 * (sAt ss (u + 1 + j)).2.1) ((sAt ss u).2.2.1 * (sAt ss (u + 1 + j)).2.1 - (sAt ss (u + 1 + j)).2.2.1 * (sAt ss u).2.1) := ⟨cn, _, _, g3.sub g4, g1.sub g2, by omega, .inl (by omega)⟩
        refine (ws_set 8 rfl (.inl rfl) (ev_ix (fun _ _ => rfl) (ev_var 0 rfl (.inl rfl) rfl (ev_var 7 rfl (.inl rfl) rfl ⟨_, _, rfl, it2, ⟨.inl rfl, ?_⟩⟩))))
        refine (ws_set 9 rfl (.inl rfl) (ev_callf (f77 M) rfl (ea_cons (ev_callf (f78 M) rfl (ea_cons (ev_ix (fun _ _ => rfl) (ev_var 6 rfl (.inl rfl) rfl (ev_int ⟨_, _, rfl, rfl, (ea_cons (ev_ix (fun _ _ => rfl) (ev_var 8 rfl (.inl rfl) rfl (ev_int ⟨_, _, rfl, rfl, (ea_nil ⟨(_, _), rfl, p1, (ea_cons (ev_callf (f78 M) rfl (ea_cons (ev_ix (fun _ _ => rfl) (ev_var 8 rfl (.inl rfl) rfl (ev_int ⟨_, _, rfl, rfl, (ea_cons (ev_ix (fun _ _ => rfl) (ev_var 6 rfl (.inl rfl) rfl (ev_int ⟨_, _, rfl, rfl, (ea_nil ⟨(_, _), rfl, p2, (ea_nil ⟨(_, _), rfl, p3, ⟨.inl rfl, ?_⟩⟩)⟩)⟩))))⟩))))))⟩)⟩))))⟩))))))))
        refine ws_set 10 rfl (.inl rfl) (Ev.imp (Φ := fun r => r = .q (crI ss u (u + 1 + j))) ?_ fun r hr => ?_)
        · exact (ev_callf (f79 M) rfl (ea_cons (ev_callf (f77 M) rfl (ea_cons (ev_callf (f78 M) rfl (ea_cons (ev_ix (fun _ _ => rfl) (ev_var 8 rfl (.inl rfl) rfl (ev_int ⟨_, _, rfl, rfl, (ea_cons (ev_ix (fun _ _ => rfl) (ev_var 6 rfl (.inl rfl) rfl (ev_int ⟨_, _, rfl, rfl, (ea_nil ⟨(_, _), rfl, p4, (ea_cons (ev_callf (f78 M) rfl (ea_cons (ev_ix (fun _ _ => rfl) (ev_var 6 rfl (.inl rfl) rfl (ev_int ⟨_, _, rfl, rfl, (ea_cons (ev_ix (fun _ _ => rfl) (ev_var 8 rfl (.inl rfl) rfl (ev_int ⟨_, _, rfl, rfl, (ea_nil ⟨(_, _), rfl, p5, (ea_nil ⟨(_, _), rfl, p6, (ea_cons (ev_var 9 rfl (.inl rfl) rfl (ea_nil ⟨(_, _), rfl, p7, (congrArg Sv.q ce)⟩)))⟩)⟩)⟩))))⟩))))))⟩)⟩))))⟩)))))))))
        subst hr
        refine ⟨.inl rfl, ?_⟩
        rcases hb with ⟨rfl, rfl⟩ | ⟨hj0, rfl, hl⟩
        · refine (ws_if (et_w (ew_or (et_isN (ev_var 5 rfl (.inl rfl) rfl (ite_t (ite_t (ws_set 5 rfl (.inl rfl) (ev_tup (ea_cons (ev_var 10 rfl (.inl rfl) rfl (ea_cons (ev_var 7 rfl (.inl rfl) rfl (ea_nil ⟨by simp [sizeLine_eq], ⟨.inl rfl, (ws_nil (ws_nil ?_))⟩⟩))))))))))))))
          exact ⟨u + 1, _, _, _, _, _, rfl, .inr ⟨by omega, rfl, rfl⟩, rfl⟩
        · have hlb := nxt_lt (crI ss) u (j - 1)
          have p8 : Sb (crI ss u (u + 1 + j)) (crI ss u l) := ⟨_, _, h.bx hu hj2, h.bx hu (by omega), by omega⟩
          have ej : u + 2 + (j - 1) = u + 1 + j := by omega
          refine (ws_if (et_w (ew_or (et_isN (ev_var 5 rfl (.inl rfl) rfl (ite_f (ew_or1 (et_ge (ev_callf (f80 M) rfl (ea_cons (ev_var 10 rfl (.inl rfl) rfl (ea_cons (ev_ix (fun _ _ => rfl) (ev_var 5 rfl (.inl rfl) rfl (ev_int ⟨_, _, rfl, rfl, (ea_nil ⟨(_, _), rfl, p8, ⟨_, rfl, (ev_int ⟨_, rfl, (ite_dec (fun h1 => (ws_set 5 rfl (.inl rfl) (ev_tup (ea_cons (ev_var 10 rfl (.inl rfl) rfl (ea_cons (ev_var 7 rfl (.inl rfl) rfl (ea_nil ⟨by simp [sizeLine_eq], ⟨.inl rfl, (ws_nil (ws_nil ?_))⟩⟩)))))))) (fun h1 => (ws_nil (ws_nil ?_))))⟩)⟩⟩)⟩)))))))))))))))
          · have h1 : crI ss u l ≤ crI ss u (u + 1 + j) := sd_nonneg.mp h1
            refine ⟨u + 1 + j, _, _, _, _, _, rfl, .inr ⟨by omega, rfl, ?_⟩, rfl⟩
            have e3 : j = (j - 1) + 1 := by omega
            show _ = nxt (crI ss) u j
            rw [e3, nxt, ← hl, ej, if_neg (by grind)]
            omega
          · have h1 : ¬ crI ss u l ≤ crI ss u (u + 1 + j) := fun q => h1 (sd_nonneg.mpr q)
            refine ⟨l, _, _, _, _, _, rfl, .inr ⟨by omega, rfl, ?_⟩, rfl⟩
            have e3 : j = (j - 1) + 1 := by omega
            show _ = nxt (crI ss) u j
            rw [e3, nxt, ← hl, ej, if_pos (by grind)]
      · subst hρ
        rcases hb with ⟨q, _⟩ | ⟨hj0, rfl, hl⟩
        · omega
        simp only [List.all_cons, List.all_nil, Bool.and_true, Bool.and_eq_true] at hy
        obtain ⟨hy4, hy5, hy6, hy7⟩ := hy
        have e4 : ss.length - (u + 1) - 1 = ss.length - 1 - u - 1 := by omega
        rw [e4] at hl
        have hlb := nxt_lt (crI ss) u (ss.length - 1 - u - 1)
        have ph : Sok (sAt ss u) ∧ ∃ n, Bz n (crI ss u l) ∧ n ≤ 250000 := ⟨h.at_ hu, _, h.bx hu (by omega), by omega⟩
        refine (ws_app 1 rfl (.inl rfl) rfl (flat_ks _) (by simp; omega) (ev_tup (ea_cons (ev_var 2 rfl (.inl rfl) rfl (ea_cons (ev_ix (fun _ _ => rfl) (ev_var 5 rfl (.inl rfl) rfl (ev_int ⟨_, _, rfl, rfl, (ea_cons (ev_ix (fun _ _ => rfl) (ev_var 5 rfl (.inl rfl) rfl (ev_int ⟨_, _, rfl, rfl, (ea_cons (ev_callf (f87 M) rfl (ea_cons (ev_var 6 rfl (.inl rfl) rfl (ea_cons (ev_ix (fun _ _ => rfl) (ev_var 5 rfl (.inl rfl) rfl (ev_int ⟨_, _, rfl, rfl, (ea_nil ⟨(_, _), rfl, ph, (ea_nil ⟨by simp [sizeLine_eq], ⟨rfl, rfl, ?_⟩⟩)⟩)⟩))))))))⟩))))⟩))))))) (hfr_of (by simp [okO_s, hy4, hy5, hy6, hy7, Sv.fl, Sv.flat, Sv.flatL, secS, flat_secs, flat_ks, -List.map_map])))
        refine (ws_set 2 rfl (.inl rfl) (ev_ix (fun _ _ => rfl) (ev_var 5 rfl (.inl rfl) rfl (ev_int ⟨_, _, rfl, rfl, ⟨.inl rfl, ?_⟩⟩))))
        refine (ws_nil ?_)
        refine ws_nil ?_
        refine ⟨L ++ [(u, l)], l, some (.int (i : Int)), some (.tup [.q (crI ss u l), .int (l : Int)]), some (secS (sAt ss u)), y4, y5, y6, y7, ?_, by omega, ?_, ?_, by simp [okO_s, hy4, hy5, hy6, hy7, Sv.fl, Sv.flat, Sv.flatL, secS]⟩
        · rw [List.map_append, List.map_append]; rfl
        · have e5 : ss.length - 1 - i = (ss.length - 1 - (i + 1)) + 1 := by omega
          rw [e5, kkF, if_pos hlt, ← hl] at hL
          rw [← hL, List.append_assoc]; rfl
        · rw [List.length_append, List.length_singleton]; omega
    · have hge : ¬ u < ss.length - 1 := by omega
      rw [kkF_done hge, List.append_nil] at hL
      refine ws_nil (ws_nil ⟨L, u, some (.int (i : Int)), y2, y3, y4, y5, y6, y7, rfl, hu, ?_, by omega, ?_⟩)
      · rw [kkF_done hge, List.append_nil]; exact hL
      · simp [okO_s, hy2, hy3, hy4, hy5, hy6, hy7, Sv.fl, Sv.flat]
  · subst hρ
    rw [Nat.sub_self, kkF, List.append_nil] at hL
    refine (ws_ret (ev_tuple rfl (M.fr _ (memF 103)) (ev_var 1 rfl (.inl rfl) rfl (.inl ⟨_, rfl, ?_⟩))))
    rw [hL]
    rfl
end
end K39
end
section
set_option Elab.async false
set_option linter.all false
set_option exponentiation.threshold 10000
set_option maxRecDepth 100000
set_option maxHeartbeats 4000000
namespace K39
open PySem PySem.Spec PyProof.Rows L2
def whT (s : Sec) : Int := s.2.1.num * s.2.2.1.den * s.2.2.2.den
def whU (s : Sec) : Int := s.2.2.1.num * s.2.1.den * s.2.2.2.den
def whW (s : Sec) : Int := s.2.2.2.num * s.2.1.den * s.2.2.1.den
def whG (s : Sec) : Int := ((Nat.gcd ((Nat.gcd (whT s).natAbs (whU s).natAbs : Nat) : Int).natAbs (whW s).natAbs : Nat) : Int)
def whV (s : Sec) : Int := whT s / whG s
def whL (s : Sec) : Int := whU s / whG s
def whN (s : Sec) : Int := whW s / whG s
def wS (s : Sec) : Sv := .tup [.int s.1.num, .int (s.1.den : Int), .int (whV s), .int (whL s), .int (whN s)]
structure Whp (s : Sec) : Prop where
  g0 : 0 < whG s
  gb : (whG s).natAbs < 2 ^ 1778
  v0 : 0 < whV s
  bv : (whV s).natAbs < 2 ^ 1778
  bl : (whL s).natAbs < 2 ^ 1778
  bn : (whN s).natAbs < 2 ^ 1778
  ev : (whV s : Rat) * s.2.2.1 = (whL s : Rat) * s.2.1
  en : (whV s : Rat) * s.2.2.2 = (whN s : Rat) * s.2.1
theorem dv {a g : Int} (h : g ∣ a) : a / g * g = a := Int.ediv_mul_cancel h
theorem whp {s : Sec} (k : Sok s) : Whp s := by
  have bT : (whT s).natAbs < 2 ^ 1778 := abs_mul_lt (m := 1561) (n := 217) (abs_mul_lt (m := 790) (n := 771) k.bu.n k.bd.d) k.bn.d
  have bU : (whU s).natAbs < 2 ^ 1778 := abs_mul_lt (m := 1561) (n := 217) (abs_mul_lt (m := 771) (n := 790) k.bd.n k.bu.d) k.bn.d
  have bW : (whW s).natAbs < 2 ^ 1778 := abs_mul_lt (m := 1007) (n := 771) (abs_mul_lt (m := 217) (n := 790) k.bn.n k.bu.d) k.bd.d
  have T0 : 0 < whT s := Int.mul_pos (Int.mul_pos (num_pos.mpr k.u0) (den_pos _)) (den_pos _)
  have gT : whG s ∣ whT s := by
    unfold whG
    rw [Int.natAbs_natCast]
    exact Int.ofNat_dvd_left.mpr (Nat.dvd_trans (Nat.gcd_dvd_left ..) (Nat.gcd_dvd_left ..))
  have gU : whG s ∣ whU s := by
    unfold whG
    rw [Int.natAbs_natCast]
    exact Int.ofNat_dvd_left.mpr (Nat.dvd_trans (Nat.gcd_dvd_left ..) (Nat.gcd_dvd_right ..))
  have gW : whG s ∣ whW s := by
    unfold whG
    exact Int.ofNat_dvd_left.mpr (Nat.gcd_dvd_right ..)
  have g0 : 0 < whG s := by
    rcases Int.lt_trichotomy (whG s) 0 with h | h | h
    · have : 0 ≤ whG s := by unfold whG; omega
      omega
    · rw [h] at gT
      have := Int.zero_dvd.mp gT
      omega
    · exact h
  have eT := dv gT
  have eU := dv gU
  have eW := dv gW
  have small : ∀ a b : Int, a / whG s * whG s = a → a.natAbs < 2 ^ 1778 → (a / whG s).natAbs < 2 ^ 1778 := fun a _ e h => by
    refine Nat.lt_of_le_of_lt ?_ h
    have e2 := congrArg Int.natAbs e
    rw [Int.natAbs_mul] at e2
    rw [← e2]
    exact Nat.le_mul_of_pos_right _ (by omega)
  have v0 : 0 < whV s := by
    unfold whV
    rcases Int.lt_or_le 0 (whT s / whG s) with h | h
    · exact h
    · have := Int.mul_le_mul_of_nonneg_right h (Int.le_of_lt g0)
      rw [eT, Int.zero_mul] at this
      omega
  have c1 : (whV s : Rat) * (whG s : Rat) = (whT s : Rat) := by rw [← Rat.intCast_mul]; exact congrArg _ eT
  have c2 : (whL s : Rat) * (whG s : Rat) = (whU s : Rat) := by rw [← Rat.intCast_mul]; exact congrArg _ eU
  have c3 : (whN s : Rat) * (whG s : Rat) = (whW s : Rat) := by rw [← Rat.intCast_mul]; exact congrArg _ eW
  have d1 : (whT s : Rat) = s.2.1 * ((s.2.1.den : Rat) * (s.2.2.1.den : Rat) * (s.2.2.2.den : Rat)) := by
    unfold whT; rw [Rat.intCast_mul, Rat.intCast_mul, Rat.intCast_natCast, Rat.intCast_natCast, num_eq s.2.1]; grind
  have d2 : (whU s : Rat) = s.2.2.1 * ((s.2.1.den : Rat) * (s.2.2.1.den : Rat) * (s.2.2.2.den : Rat)) := by
    unfold whU; rw [Rat.intCast_mul, Rat.intCast_mul, Rat.intCast_natCast, Rat.intCast_natCast, num_eq s.2.2.1]; grind
  have d3 : (whW s : Rat) = s.2.2.2 * ((s.2.1.den : Rat) * (s.2.2.1.den : Rat) * (s.2.2.2.den : Rat)) := by
    unfold whW; rw [Rat.intCast_mul, Rat.intCast_mul, Rat.intCast_natCast, Rat.intCast_natCast, num_eq s.2.2.2]; grind
  have gq : (whG s : Rat) ≠ 0 := fun e => by have := Rat.intCast_eq_zero_iff.mp e; omega
  have canc : ∀ x y : Rat, x * (whG s : Rat) = y * (whG s : Rat) → x = y := fun x y e => by grind
  refine ⟨g0, ?_, v0, small _ 0 eT bT, small _ 0 eU bU, small _ 0 eW bW, canc _ _ (by grind), canc _ _ (by grind)⟩
  refine Nat.lt_of_le_of_lt (Nat.le_of_dvd (by omega) (Int.natAbs_dvd_natAbs.mpr gT)) bT
structure Nx (a : Rat) (v l n p q : Int) (B : Nat) : Prop where
  ba : Bz 6 a
  bv : v.natAbs < 2 ^ 1778
  bl : l.natAbs < 2 ^ 1778
  bn : n.natAbs < 2 ^ 1778
  bp : p.natAbs < 2 ^ B
  bq : q.natAbs < 2 ^ B
  B : B ≤ 100000
  h0 : 0 < l * p + n * q
  h1 : l * p + n * q < v * q
section
variable {P : Program} {w : World} {K : PySem.W.Frag} {mg : Str → Option Value} {base : Heap}
theorem sg94 : Sig d94 "_law_parts" ["_law_wish_here", "_law_back", "_law_one", "_law_two", "_law_x", "_law_y"] ["_law_wish_here", "_law_back"] := ⟨memN 73, rfl, memF 73, rfl, rfl, ⟨rfl, rfl, rfl, by decide +kernel, rfl, by decide +kernel, by decide +kernel⟩, fun _ _ _ _ _ _ us hl => match us, hl with | [_, _], _ => rfl⟩
theorem f94 (M : Md K mg) : Fn P w K mg base "_law_parts" 8 ["_law_wish_here", "_law_back"] (Pm K (α := Col × Rat) (fun | (c, R) => [c.sv, .q R]) (fun | (c, R) => Cok c ∧ Bz 600 R) (fun | (c, R) => fun r => ∃ b, r = .bl b ∧ (b = true ↔ Parts c R))) := by
  refine mk M sg94 (fun _ => rfl) (fun z hz => noO2 rfl rfl) fun s ⟨c, R⟩ hg => ?_
  have hg : Cok c ∧ Bz 600 R := hg
  obtain ⟨hc, hR⟩ := hg
  refine (ws_if (et_not (et_val (fun _ _ => rfl) (ev_callf (f92 M) rfl (ea_cons (ev_var 0 rfl (.inl rfl) rfl (ea_cons (ev_var 1 rfl (.inl rfl) rfl (ea_nil ⟨(_, _), rfl, hg, ⟨_, rfl, (ite_ndec (fun h1 => (ws_ret (ev_bl ?_))) (fun h1 => (ws_nil ?_)))⟩⟩)))))))))
  · exact ⟨false, rfl, ⟨fun q => (by cases q), fun q => absurd q.1 h1⟩⟩
  · have h1 : flo c < R := h1
    have hs := flo_str hc h1
    have hss := ss_of hc hR hs
    refine ws_forT (is := [2, 3, 4, 5]) (bt := true) (.tup (.cons rfl (.inl rfl) (.cons rfl (.inl rfl) (.cons rfl (.inl rfl) (.cons rfl (.inl rfl) .nil))))) (ev_callf (f93 M) rfl (ea_cons (ev_callf (f91 M) rfl (ea_cons (ev_var 0 rfl (.inl rfl) rfl (ea_cons (ev_var 1 rfl (.inl rfl) rfl (ea_nil ⟨(_, _), rfl, hg, (ea_nil ⟨_, rfl, hss, ?_⟩)⟩))))))))
    refine ⟨(kinks (secs c R)).map kS, rfl, of_flatL (flat_ks _), fun i ρ' => ∃ y1 y2 y3 y4, ρ' = [some c.sv, some (.q R), y1, y2, y3, y4] ∧ ∀ k ∈ (kinks (secs c R)).take i, k.2.2.2 < vap c.a k.2.2.1, ⟨none, none, none, none, rfl, fun k hk => by simp at hk⟩, fun i z ρ' hz ⟨y1, y2, y3, y4, hρ, hk⟩ => ?_, fun ρ' ⟨y1, y2, y3, y4, hρ, hk⟩ => ?_⟩
    · subst hρ
      rw [List.getElem?_map] at hz
      cases e : (kinks (secs c R))[i]? with
      | none => rw [e] at hz; cases hz
      | some k =>
        rw [e] at hz
        cases hz
        refine ⟨_, rfl, rfl, by simp [Sv.isL], ?_⟩
        have hkm := List.mem_of_getElem? e
        obtain ⟨b1, b2⟩ := kink_bz hss hkm
        obtain ⟨⟨r1, r2⟩, _⟩ := kink_rng hc hs hkm
        have x0 : 0 ≤ k.2.2.1 := by have := hc.f0; grind
        have p1 : Sx c.a k.2.2.1 ∧ 0 ≤ k.2.2.1 := ⟨⟨hc.a1, _, _, hc.ba, b1, by omega, by omega⟩, x0⟩
        have p2 : Sb k.2.2.2 (vap c.a k.2.2.1) := ⟨_, _, b2, hc.ba.vap b1 hc.a1 x0, by omega⟩
        refine (ws_if (et_ge (ev_callf (f80 M) rfl (ea_cons (ev_var 5 rfl (.inl rfl) rfl (ea_cons (ev_callf (f86 M) rfl (ea_cons (ev_ix (fun _ _ => rfl) (ev_var 0 rfl (.inl rfl) rfl (ev_int ⟨_, _, rfl, rfl, (ea_cons (ev_var 4 rfl (.inl rfl) rfl (ea_nil ⟨(_, _), rfl, p1, (ea_nil ⟨(_, _), rfl, p2, ⟨_, rfl, (ev_int ⟨_, rfl, (ite_dec (fun h1 => (ws_ret (ev_bl ?_))) (fun h1 => (ws_nil (ws_nil ?_))))⟩)⟩⟩)⟩)))⟩)))))))))))
        · have h2 : vap c.a k.2.2.1 ≤ k.2.2.2 := sd_nonneg.mp h1
          exact ⟨false, rfl, ⟨fun q => (by cases q), fun q => by have := q.2 k hkm; grind⟩⟩
        · have h2 : ¬ vap c.a k.2.2.1 ≤ k.2.2.2 := fun q => h1 (sd_nonneg.mpr q)
          refine ⟨some (.int (k.1 : Int)), some (.int (k.2.1 : Int)), some (.q k.2.2.1), some (.q k.2.2.2), rfl, fun k' hk' => ?_⟩
          rw [List.take_succ, e] at hk'
          rcases List.mem_append.mp hk' with q | q
          · exact hk k' q
          · have q : k' ∈ [k] := q
            rw [List.mem_singleton.mp q]
            grind
    · subst hρ
      rw [List.length_map, List.take_length] at hk
      exact (ws_ret (ev_bl ⟨true, rfl, ⟨fun _ => ⟨h1, hk⟩, fun _ => rfl⟩⟩))
theorem sg102 : Sig d102 "_law_whole" ["_law_flow", "_law_volat", "_law_up", "_law_down", "_law_net", "_law_v", "_law_l", "_law_n", "_law_deep"] ["_law_flow"] := ⟨memN 81, rfl, memF 81, rfl, rfl, ⟨rfl, rfl, rfl, by decide +kernel, rfl, by decide +kernel, by decide +kernel⟩, fun _ _ _ _ _ _ us hl => match us, hl with | [_], _ => rfl⟩
theorem f102 (M : Md K mg) : Fn P w K mg base "_law_whole" 2 ["_law_flow"] (Pm K (fun s : Sec => [secS s]) Sok (fun s r => r = wS s)) := by
  refine mk M sg102 (fun _ => rfl) (fun z hz => noO1 rfl) fun s' s k => ?_
  have k : Sok s := k
  have W := whp k
  have c1 := cmul_of (m := 790) (n := 771) k.bu.n k.bd.d (by omega)
  have c2 := cmul_of (m := 1561) (n := 217) (abs_mul_lt (m := 790) (n := 771) k.bu.n k.bd.d) k.bn.d (by omega)
  have c3 := cmul_of (m := 771) (n := 790) k.bd.n k.bu.d (by omega)
  have c4 := cmul_of (m := 1561) (n := 217) (abs_mul_lt (m := 771) (n := 790) k.bd.n k.bu.d) k.bn.d (by omega)
  have c5 := cmul_of (m := 217) (n := 790) k.bn.n k.bu.d (by omega)
  have c6 := cmul_of (m := 1007) (n := 771) (abs_mul_lt (m := 217) (n := 790) k.bn.n k.bu.d) k.bd.d (by omega)
  have dd : ∀ a, CDivW a (whG s) := fun a => cdiv_of W.g0 W.gb (by omega)
  refine (ws_tup (is := [1, 2, 3, 4]) (.cons rfl (.inl rfl) (.cons rfl (.inl rfl) (.cons rfl (.inl rfl) (.cons rfl (.inl rfl) .nil)))) (ev_var 0 rfl (.inl rfl) rfl ⟨_, rfl, rfl, by simp [Sv.isL], ?_⟩))
  refine (ws_par3 5 6 7 rfl rfl rfl (by decide) (by decide) (by decide) rfl rfl rfl (fr_cons (ev_mul (ev_mul (ev_ix (fun _ _ => rfl) (ev_var 2 rfl (.inl rfl) rfl (ev_int ⟨_, _, rfl, rfl, ⟨_, rfl, (ev_ix (fun _ _ => rfl) (ev_var 3 rfl (.inl rfl) rfl (ev_int ⟨_, _, rfl, rfl, ⟨_, rfl, c1, ⟨_, rfl, (ev_ix (fun _ _ => rfl) (ev_var 4 rfl (.inl rfl) rfl (ev_int ⟨_, _, rfl, rfl, ⟨_, rfl, c2, ⟨rfl, (fr_cons (ev_mul (ev_mul (ev_ix (fun _ _ => rfl) (ev_var 3 rfl (.inl rfl) rfl (ev_int ⟨_, _, rfl, rfl, ⟨_, rfl, (ev_ix (fun _ _ => rfl) (ev_var 2 rfl (.inl rfl) rfl (ev_int ⟨_, _, rfl, rfl, ⟨_, rfl, c3, ⟨_, rfl, (ev_ix (fun _ _ => rfl) (ev_var 4 rfl (.inl rfl) rfl (ev_int ⟨_, _, rfl, rfl, ⟨_, rfl, c4, ⟨rfl, (fr_cons (ev_mul (ev_mul (ev_ix (fun _ _ => rfl) (ev_var 4 rfl (.inl rfl) rfl (ev_int ⟨_, _, rfl, rfl, ⟨_, rfl, (ev_ix (fun _ _ => rfl) (ev_var 2 rfl (.inl rfl) rfl (ev_int ⟨_, _, rfl, rfl, ⟨_, rfl, c5, ⟨_, rfl, (ev_ix (fun _ _ => rfl) (ev_var 3 rfl (.inl rfl) rfl (ev_int ⟨_, _, rfl, rfl, ⟨_, rfl, c6, ⟨rfl, (fr_nil ⟨rfl, ?_⟩)⟩⟩⟩)))⟩⟩⟩)))⟩⟩))))))⟩⟩⟩)))⟩⟩⟩)))⟩⟩))))))⟩⟩⟩)))⟩⟩⟩)))⟩⟩)))))) (fun env hk hn => by unfold swappedStores Env.blockKind Env.kindOf; rw [hk, hn]; rfl))
  refine (ws_set 8 rfl (.inl rfl) (ev_callf (f74 M) rfl (ea_cons (ev_callf (f74 M) rfl (ea_cons (ev_var 5 rfl (.inl rfl) rfl (ea_cons (ev_var 6 rfl (.inl rfl) rfl (ea_nil ⟨(_, _), rfl, trivial, (ea_cons (ev_var 7 rfl (.inl rfl) rfl (ea_nil ⟨(_, _), rfl, trivial, ⟨.inl rfl, ?_⟩⟩)))⟩)))))))))
  exact (ws_ret (ev_tup (ea_cons (ev_ix (fun _ _ => rfl) (ev_var 1 rfl (.inl rfl) rfl (ev_int ⟨_, _, rfl, rfl, (ea_cons (ev_ix (fun _ _ => rfl) (ev_var 1 rfl (.inl rfl) rfl (ev_int ⟨_, _, rfl, rfl, (ea_cons (ev_div (ev_var 5 rfl (.inl rfl) rfl ⟨_, rfl, (ev_var 8 rfl (.inl rfl) rfl ⟨_, rfl, dd _, (ea_cons (ev_div (ev_var 6 rfl (.inl rfl) rfl ⟨_, rfl, (ev_var 8 rfl (.inl rfl) rfl ⟨_, rfl, dd _, (ea_cons (ev_div (ev_var 7 rfl (.inl rfl) rfl ⟨_, rfl, (ev_var 8 rfl (.inl rfl) rfl ⟨_, rfl, dd _, (ea_nil ⟨by simp [sizeLine_eq], rfl⟩)⟩)⟩)))⟩)⟩)))⟩)⟩)))⟩))))⟩))))))
theorem sg103 : Sig d103 "_law_next" ["_law_whole_here", "_law_p", "_law_q", "_law_u", "_law_w", "_law_v", "_law_l", "_law_n", "_law_high", "_law_wide"] ["_law_whole_here", "_law_p", "_law_q"] := ⟨memN 82, rfl, memF 82, rfl, rfl, ⟨rfl, rfl, rfl, by decide +kernel, rfl, by decide +kernel, by decide +kernel⟩, fun _ _ _ _ _ _ us hl => match us, hl with | [_, _, _], _ => rfl⟩
theorem f103 (M : Md K mg) : Fn P w K mg base "_law_next" 1 ["_law_whole_here", "_law_p", "_law_q"] (Pm K (α := Rat × Int × Int × Int × Int × Int) (fun | (a, v, l, n, p, q) => [.tup [.int a.num, .int (a.den : Int), .int v, .int l, .int n], .int p, .int q]) (fun | (a, v, l, n, p, q) => ∃ B, Nx a v l n p q B) (fun | (a, v, l, n, p, q) => fun r => r = .tup [.int ((a.den : Int) * (l * p + n * q)), .int (a.num * (v * q) - (a.num - a.den) * (l * p + n * q))])) := by
  refine mk M sg103 (fun _ => rfl) (fun z hz => noOl rfl) fun s' ⟨a, v, l, n, p, q⟩ hg => ?_
  obtain ⟨B, h⟩ := (show ∃ B, Nx a v l n p q B from hg)
  have hB := h.B
  have bh : (l * p + n * q).natAbs < 2 ^ (1778 + B + 1) := abs_add_lt (abs_mul_lt h.bl h.bp) (abs_mul_lt h.bn h.bq)
  have bw : (v * q).natAbs < 2 ^ (1778 + B) := abs_mul_lt h.bv h.bq
  have bd : (a.num - a.den).natAbs < 2 ^ (6 + 1) := abs_sub_lt h.ba.n h.ba.d
  have c1 := cmul_of (m := 1778) (n := B) h.bl h.bp (by omega)
  have c2 := cmul_of (m := 1778) (n := B) h.bn h.bq (by omega)
  have c3 := cmul_of (m := 1778) (n := B) h.bv h.bq (by omega)
  have c4 := cmul_of (m := 6) (n := 1778 + B + 1) h.ba.d bh (by omega)
  have c5 := cmul_of (m := 6) (n := 1778 + B) h.ba.n bw (by omega)
  have c6 := cmul_of (m := 6 + 1) (n := 1778 + B + 1) bd bh (by omega)
  refine (ws_tup (is := [3, 4, 5, 6, 7]) (.cons rfl (.inl rfl) (.cons rfl (.inl rfl) (.cons rfl (.inl rfl) (.cons rfl (.inl rfl) (.cons rfl (.inl rfl) .nil))))) (ev_var 0 rfl (.inl rfl) rfl ⟨_, rfl, rfl, by simp [Sv.isL], (ws_par2 8 9 rfl rfl (by decide) rfl rfl (fr_cons (ev_add (ev_mul (ev_var 6 rfl (.inl rfl) rfl ⟨_, rfl, (ev_var 1 rfl (.inl rfl) rfl ⟨_, rfl, c1, ⟨_, rfl, (ev_mul (ev_var 7 rfl (.inl rfl) rfl ⟨_, rfl, (ev_var 2 rfl (.inl rfl) rfl ⟨_, rfl, c2, ⟨_, rfl, ⟨rfl, (fr_cons (ev_mul (ev_var 5 rfl (.inl rfl) rfl ⟨_, rfl, (ev_var 2 rfl (.inl rfl) rfl ⟨_, rfl, c3, ⟨rfl, (fr_nil ⟨rfl, (ws_if (et_le (ev_var 8 rfl (.inl rfl) rfl ⟨_, rfl, (ev_int ⟨_, rfl, (ite_dec (fun h1 => ?_) (fun h1 => (ws_nil (ws_ret (ev_if (et_ge (ev_var 8 rfl (.inl rfl) rfl ⟨_, rfl, (ev_var 9 rfl (.inl rfl) rfl ⟨_, rfl, (ite_dec (fun h2 => ?_) (fun h2 => (ev_tup (ea_cons (ev_mul (ev_var 4 rfl (.inl rfl) rfl ⟨_, rfl, (ev_var 8 rfl (.inl rfl) rfl ⟨_, rfl, c4, (ea_cons (ev_sub (ev_mul (ev_var 3 rfl (.inl rfl) rfl ⟨_, rfl, (ev_var 9 rfl (.inl rfl) rfl ⟨_, rfl, c5, ⟨_, rfl, (ev_mul (ev_sub (ev_var 3 rfl (.inl rfl) rfl ⟨_, rfl, (ev_var 4 rfl (.inl rfl) rfl ⟨_, rfl, ⟨_, rfl, (ev_var 8 rfl (.inl rfl) rfl ⟨_, rfl, c6, ⟨_, rfl, (ea_nil ⟨by simp [sizeLine_eq], rfl⟩)⟩⟩)⟩⟩)⟩)))⟩⟩)⟩))))⟩)⟩))))))⟩)⟩)))))))⟩)⟩)))⟩)⟩⟩)⟩)))⟩⟩⟩)⟩))⟩⟩)⟩)))) (fun env hk hn => by unfold swappedStores Env.blockKind Env.kindOf; rw [hk, hn]; rfl))⟩))
  · have := h.h0; exact absurd h1 (by omega)
  · have := h.h1; exact absurd h2 (by omega)
end
end K39
end
section
set_option Elab.async false
set_option linter.all false
set_option exponentiation.threshold 10000
set_option maxRecDepth 100000
set_option maxHeartbeats 4000000
namespace K39
open PySem PySem.Spec PyProof.Rows L2
section
variable {S : Sc} {ρ : Ro} {N : Ro → Prop} {R : Sv → Prop} {Φ : Sv → Prop} {pos spos py : Pos} {rest : List Stmt} {y : Str}
/-- name = [.. for .. in a tuple], on one line -/
theorem ws_setlc (i : Nat) {elt tg iter : Expr} {scope : Scope} {own : List (Str × Nat)} {is : List Nat} {bt : Bool} {α : Type} (xs : List α) (g o : α → Sv) (hy : S.N[i]? = some y) (hyl : Lc S y) (hline : (py.line == pos.line) = true) (hany : (scope.names.any fun (n, k) => n == y && (k == .local || k == .cell)) = false)
    (hb : blkN S.N S.names scope own = true) (ho : own.map (·.2) = is) (ht : Tgt (S.blk scope.names) tg is bt) (hno : noOwn ρ)
    (h : Ev S iter ρ fun r => r.parts = some (xs.map g) ∧ xs.length ≤ 1000 ∧ (∀ x ∈ xs, (o x).flat = true) ∧
      (∀ x ∈ xs, ∃ l, tv bt (g x) = some l ∧ l.length = is.length ∧ Ev (S.blk scope.names) elt (sets (wipeR ρ is) is l) fun z => z = o x) ∧ Ws S rest (ρ.set i (some (.lst (xs.map o)))) N R)
    (hfs : ∀ env x, foldedSetIterable iter env x = pure x := by intro _ _; rfl) : Ws S (.Assign [.Name y py] (.ListComp elt [⟨tg, iter, [], 0⟩] scope pos) spos :: rest) ρ N R := by
  intro X hX B σ H hE D kN kR
  have ok : BlkOk X.N X.env.scope scope own := blkOk_by (by rw [blkN_eq S.names hX.names, hX.N]; exact hb)
  have hyl' : X.env.scope.names.lookup y = some .local := by rw [hX.names]; exact hyl
  have hP : PS X (.Assign [.Name y py] (.ListComp elt [⟨tg, iter, [], 0⟩] scope pos) spos) (tAsg (tLc (iTup X.K (WE X iter)) (gT S.K bt is) tYes (fun σ H Q => ∀ X', Is X' (S.blk scope.names) → WE X' elt σ H Q) (own.map (·.2))) (gName i)) :=
    ps_setLc hX.calm hX.nd (by rw [hX.N]; exact hy) hyl' (sw_true hX.kind hyl' hline hany) (pi_tup pe_W) ok (fun s H C cl fp => ht.pg (hX.blk ok s H C cl fp)) (fun _ _ _ _ _ => pts_nil)
      (fun s H C cl fp => ⟨fun pins st σ H' Q I q => (q _ (hX.blk ok s H C cl fp)).run pins st I⟩) (hfs _)
  refine WSs.of (pss_cons hP pss_W) ?_
  show tLc (iTup X.K (WE X iter)) (gT S.K bt is) tYes (fun σ H Q => ∀ X', Is X' (S.blk scope.names) → WE X' elt σ H Q) (own.map (·.2)) σ H (fun x H1 => gName i x σ H1 (WSs X rest D))
  rw [ho]
  refine h X hX σ H hE.en _ fun v H1 r g1 s1 ⟨e1, e3, e4, e5, e6⟩ => ?_
  obtain ⟨u, vs, rfl, hq, hl⟩ := s1.parts e1
  have hE1 := hE.en.mono g1.n
  refine ⟨u, rfl, ⟨vs, by rw [hX.K]; exact hq.sq⟩, fun D0 hD => ?_⟩
  have nD : S.s ≠ some D0 := hE1.new hD
  have hos : (xs.map o).length = (xs.map g).length := by rw [List.length_map, List.length_map]
  have hvl := hl.length
  refine lc_tup (K := X.K) (a := u) (xs := vs) (g := gT S.K bt is) (tt := tYes) (te := fun σ H Q => ∀ X', Is X' (S.blk scope.names) → WE X' elt σ H Q) (vs := is) (σ := σ) (D := D0) (Qd := fun H' => gName i (.ref D0) σ H' (WSs X rest D)) (fun i H' => Gr S.s H1 H' ∧ ∃ acc, H' D0 = some (.lst acc) ∧ SatL S.K S.s H' acc ((xs.map o).take i)) ⟨Gr.new hD, [], upd_same, .nil⟩
    (fun i H' _ ⟨g, _⟩ => by rw [hX.K]; exact (hq.mono g.n).sq) ?_ ?_
  · rintro j y' H' hy' ⟨g', acc, hacc, sacc⟩
    obtain ⟨r', er, sr⟩ := hl.get' hy'
    rw [List.getElem?_map] at er
    cases ex : xs[j]? with
    | none => rw [ex] at er; cases er
    | some x =>
      rw [ex] at er
      cases er
      have hj : j < xs.length := (List.getElem?_eq_some_iff.mp ex).1
      obtain ⟨l, f1, f2, f3⟩ := e5 x (List.mem_of_getElem? ex)
      refine gT_of (sr.mono g'.n) f1 f2 fun ws hw => ⟨wipe_sets, ?_⟩
      show ∀ X', Is X' (S.blk scope.names) → WE X' elt _ H' _
      intro X' hX'
      refine f3 X' hX' _ H' (En.sets ((hE1.mono g'.n).wipe is) hw) _ fun z H4 o' g4 s4 e => ?_
      subst e
      have hD4 : H4 D0 = some (.lst acc) := g4.keep D0 _ hacc nD
      obtain ⟨p1, p2⟩ := Gr.put (ys := acc ++ [z]) hD4 nD
      have hacl : acc.length = j := by
        rw [sacc.length, List.length_take, List.length_map]
        omega
      refine ⟨acc, hD4, ?_, ⟨fun b ob hb n => ?_, fun b zs hb => ?_, fun a ea hs => ?_⟩, acc ++ [z], upd_same, ?_⟩
      · rw [hacl, sizeLine_eq]
        omega
      · rw [upd_ne (ne_of_none hb hD)]
        exact g4.keep b ob (g'.keep b ob hb n) n
      · rw [upd_ne (ne_of_none hb hD)]
        exact g4.tups b zs (g'.tups b zs hb)
      · exact p2 a ea (g4.spr a ea (g'.spr a ea hs))
      · rw [List.take_succ, List.getElem?_map, ex]
        refine (SatL.keepF p1 p2 (flatL_of fun r hr => ?_) (sacc.mono g4.n)).snoc (Sat.keepF p1 p2 (e4 _ (List.mem_of_getElem? ex)) s4)
        obtain ⟨x', hx', rfl⟩ := List.mem_map.mp (List.mem_of_mem_take hr)
        exact e4 x' hx'
  · rintro H' ⟨g', acc, hacc, sacc⟩
    rw [List.take_of_length_le (by rw [hos, hvl]; exact Nat.le_refl _)] at sacc
    exact e6 X hX B _ H' ((hE.mono (g1.trans g')).set (.lst hacc nD sacc) (.inr ⟨rfl, hno⟩)) D (fun σ' H2 ρ' e t n => kN σ' H2 ρ' e ((g1.trans g').tk.trans t) n) kR
end
theorem flat_ws (l : List Sec) : Sv.flatL (l.map wS) = true := flatL_map _ (fun _ => rfl) l
theorem item_w {ss : List Sec} {i : Nat} (h : i < ss.length) : (Sv.lst (ss.map wS)).item (i : Int) = some (wS (sAt ss i)) := by
  show atI (ss.map wS) (i : Int) = _
  exact item_map wS (1, 1, 1, 1) h
theorem fm_unique {c : Col} {m n : Nat} (hm : Fm c m) (hn : Fm c n) : m = n := by
  rcases Nat.lt_trichotomy m n with h | h | h
  · have := hm.dn (by have := hn.hi; omega)
    have := hn.up m h
    grind
  · exact h
  · have := hn.dn (by have := hm.hi; omega)
    have := hm.up n h
    grind
section
variable {P : Program} {w : World} {K : PySem.W.Frag} {mg : Str → Option Value} {base : Heap}
theorem sg106 : Sig d106 "_law_full" ["_law_wish_here", "_law_found", "_law_x", "_law_turn"] ["_law_wish_here"] := ⟨memN 85, rfl, memF 85, rfl, rfl, ⟨rfl, rfl, rfl, by decide +kernel, rfl, by decide +kernel, by decide +kernel⟩, fun _ _ _ _ _ _ us hl => match us, hl with | [_], _ => rfl⟩
theorem f106 (M : Md K mg) : Fn P w K mg base "_law_full" 4 ["_law_wish_here"] (Pm K (fun c : Col => [c.sv]) Cok (fun c r => ∃ m, Fm c m ∧ r = .tup ((fullL c m).map .q))) := by
  refine mk M sg106 (fun _ => rfl) (fun z hz => noO1 rfl) fun s c hc => ?_
  have t0 := top0 hc
  have t1 : c.top ≤ 1 := Rat.le_of_lt hc.t1
  obtain ⟨m, hm, _⟩ := fm_ex hc
  refine (ws_par2 1 2 rfl rfl (by decide) rfl rfl (fr_new (fr_cons (ev_ix (fun _ _ => rfl) (ev_var 0 rfl (.inl rfl) rfl (ev_int ⟨_, _, rfl, rfl, ⟨rfl, (fr_nil ⟨by simp [Sv.isL], ⟨rfl, ?_⟩⟩)⟩⟩))))) (fun env hk hn => by unfold swappedStores Env.blockKind Env.kindOf; rw [hk, hn]; rfl))
  refine ws_forR1 3 rfl (M.fr _ (memF 106)) rfl (.inl rfl) (ev_int ?_)
  refine ⟨61, rfl, by omega, fun i ρ' => ∃ L k y, ρ' = [some c.sv, some (.own L), some (.q (itl c.a c.top k)), y] ∧ L = (fullL c k).map .q ∧ k ≤ i ∧ (k < i → k = m) ∧ k ≤ m, ⟨_, 0, none, rfl, rfl, Nat.le_refl _, fun h => by omega, Nat.zero_le _⟩, fun i ρ' hi ⟨L, k, y, hρ, hL, hk1, hk2, hk3⟩ => ?_, fun ρ' ⟨L, k, y, hρ, hL, hk1, hk2, hk3⟩ => ?_⟩
  · subst hρ hL
    obtain ⟨q1, q2⟩ := itl_rng hc.a1 t0 t1 k
    have b := itl_bz hc.a1 t0 t1 hc.ba hc.btop k
    have p0 : Sb (itl c.a c.top k) c.foot := ⟨_, _, b, hc.bfoot, by omega⟩
    have p : Sx c.a (itl c.a c.top k) ∧ 0 ≤ itl c.a c.top k ∧ itl c.a c.top k ≤ 1 := ⟨⟨hc.a1, _, _, hc.ba, b, by omega, by omega⟩, Rat.le_of_lt q1, q2⟩
    refine (ws_if (et_gt (ev_callf (f80 M) rfl (ea_cons (ev_var 2 rfl (.inl rfl) rfl (ea_cons (ev_ix (fun _ _ => rfl) (ev_var 0 rfl (.inl rfl) rfl (ev_int ⟨_, _, rfl, rfl, (ea_nil ⟨(_, _), rfl, p0, ⟨_, rfl, (ev_int ⟨_, rfl, (ite_dec (fun h1 => (ws_set 2 rfl (.inl rfl) (ev_callf (f85 M) rfl (ea_cons (ev_ix (fun _ _ => rfl) (ev_var 0 rfl (.inl rfl) rfl (ev_int ⟨_, _, rfl, rfl, (ea_cons (ev_var 2 rfl (.inl rfl) rfl (ea_nil ⟨(_, _), rfl, p, ⟨.inl rfl, (ws_app 1 rfl (.inl rfl) rfl (flat_qs _) (by unfold fullL; simp; omega) (ev_var 2 rfl (.inl rfl) rfl ⟨rfl, rfl, (ws_nil (ws_nil ?_))⟩) (hfr_of (by simp [okO_s, Sv.fl, Sv.flat, Sv.flatL, Col.sv, flat_fds, flat_qs, -List.map_map])))⟩⟩)))⟩))))))) (fun h1 => (ws_nil (ws_nil ?_))))⟩)⟩⟩)⟩)))))))))
    · have h1 : c.foot < itl c.a c.top k := sd_pos.mp h1
      have km : k < m := by
        refine Nat.not_le.mp fun h => ?_
        have e : k = m := by omega
        subst e
        have := hm.dn (by omega)
        grind
      refine ⟨_, k + 1, some (.int (i : Int)), rfl, ?_, by omega, fun h => ?_, by omega⟩
      · unfold fullL; rw [List.range_succ, List.map_append, List.map_append]; rfl
      · have := hk2 (by omega); omega
    · have h1 : ¬ c.foot < itl c.a c.top k := fun q => h1 (sd_pos.mpr q)
      have km : k = m := by
        refine Nat.le_antisymm hk3 (Nat.not_lt.mp fun h => h1 (hm.up k h))
      exact ⟨_, k, some (.int (i : Int)), rfl, rfl, by omega, fun _ => km, hk3⟩
  · subst hρ hL
    have km : k = m := by
      by_cases h : k < 61
      · exact hk2 h
      · have := hm.hi; omega
    subst km
    exact (ws_ret (ev_tuple rfl (M.fr _ (memF 103)) (ev_var 1 rfl (.inl rfl) rfl (.inl ⟨_, rfl, ⟨k, hm, rfl⟩⟩))))
theorem item_full {c : Col} {m i : Nat} (h : i < m) : (Sv.tup ((fullL c m).map .q)).item (i : Int) = some (.q (itl c.a c.top (i + 1))) := by
  rw [item_map Sv.q 0 (by unfold fullL; rw [List.length_map, List.length_range]; exact h)]
  refine congrArg (fun z => some (Sv.q z)) ?_
  unfold fullL
  rw [List.getD_eq_getElem?_getD, List.getElem?_map, List.getElem?_range h]
  rfl
theorem full_len (c : Col) (m : Nat) : (fullL c m).length = m := by unfold fullL; rw [List.length_map, List.length_range]
theorem sg107 : Sig d107 "_law_least" ["_law_wish_here", "_law_full_here"] ["_law_wish_here", "_law_full_here"] := ⟨memN 86, rfl, memF 86, rfl, rfl, ⟨rfl, rfl, rfl, by decide +kernel, rfl, by decide +kernel, by decide +kernel⟩, fun _ _ _ _ _ _ us hl => match us, hl with | [_, _], _ => rfl⟩
theorem f107 (M : Md K mg) : Fn P w K mg base "_law_least" 2 ["_law_wish_here", "_law_full_here"] (Pm K (α := Col × Nat) (fun | (c, m) => [c.sv, .tup ((fullL c m).map .q)]) (fun | (c, m) => Cok c ∧ Fm c m) (fun | (c, m) => fun r => r = .int (lst c m : Int))) := by
  refine mk M sg107 (fun _ => rfl) (fun z hz => noO2 rfl rfl) fun s ⟨c, m⟩ hg => ?_
  obtain ⟨hc, hm⟩ := (show Cok c ∧ Fm c m from hg)
  have lo := hm.lo
  have hi := hm.hi
  have el : (((fullL c m).map Sv.q).length : Int) = (m : Int) := by rw [List.length_map, full_len]
  have b := itl_bz hc.a1 (top0 hc) (Rat.le_of_lt hc.t1) hc.ba hc.btop m
  have p : Sb (itl c.a c.top m) c.foot := ⟨_, _, b, hc.bfoot, by omega⟩
  have it : (Sv.tup ((fullL c m).map .q)).item ((((fullL c m).map Sv.q).length : Int) - 1) = some (.q (itl c.a c.top m)) := by
    have e : (((fullL c m).map Sv.q).length : Int) - 1 = ((m - 1 : Nat) : Int) := by rw [el]; omega
    rw [e, item_full (by omega), Nat.sub_add_cancel lo]
  refine (ws_ret (ev_if (et_w (ew_or (et_eq (ev_len rfl (M.fr _ (memF 104)) (ev_var 1 rfl (.inl rfl) rfl ⟨_, rfl, ⟨_, rfl, (ev_int ⟨_, rfl, (ite_dec (fun h1 => (ite_t (ev_len rfl (M.fr _ (memF 104)) (ev_var 1 rfl (.inl rfl) rfl ⟨_, rfl, ?_⟩)))) (fun h1 => (ew_or1 (et_lt (ev_callf (f80 M) rfl (ea_cons (ev_ix (fun _ _ => rfl) (ev_var 1 rfl (.inl rfl) rfl (ev_sub (ev_len rfl (M.fr _ (memF 104)) (ev_var 1 rfl (.inl rfl) rfl ⟨_, rfl, ⟨_, rfl, (ev_int ⟨_, rfl, ⟨_, _, rfl, it, (ea_cons (ev_ix (fun _ _ => rfl) (ev_var 0 rfl (.inl rfl) rfl (ev_int ⟨_, _, rfl, rfl, (ea_nil ⟨(_, _), rfl, p, ⟨_, rfl, (ev_int ⟨_, rfl, (ite_dec (fun h2 => (ev_len rfl (M.fr _ (memF 104)) (ev_var 1 rfl (.inl rfl) rfl ⟨_, rfl, ?_⟩))) (fun h2 => (ev_add (ev_len rfl (M.fr _ (memF 104)) (ev_var 1 rfl (.inl rfl) rfl ⟨_, rfl, ⟨_, rfl, (ev_int ⟨_, rfl, ?_⟩)⟩⟩)))))⟩)⟩⟩)⟩))))⟩⟩)⟩⟩)))))))))))⟩)⟩⟩)))))))
  · have h1 : m = 1 := by omega
    show Sv.int _ = .int _
    rw [lst, if_pos (.inl h1), el]
  · have h2 : itl c.a c.top m < c.foot := sd_neg.mp h2
    show Sv.int _ = .int _
    rw [lst, if_pos (.inr h2), el]
  · have h2 : ¬ itl c.a c.top m < c.foot := fun q => h2 (sd_neg.mpr q)
    show Sv.int _ = .int _
    rw [lst, if_neg (by rintro (q | q); exact h1 (by omega); exact h2 q), el]
    rfl
end
end K39
end
section
set_option Elab.async false
set_option linter.all false
set_option exponentiation.threshold 10000
set_option maxRecDepth 100000
set_option maxHeartbeats 4000000
namespace K39
open PySem PySem.Spec PyProof.Rows L2
theorem okO_n : okO none = true := rfl
theorem flatL_snoc (l : List Sv) (r : Sv) (h : Sv.flatL l = true) (hr : r.flat = true) : Sv.flatL (l ++ [r]) = true := flatL_of fun z hz => by
  rcases List.mem_append.mp hz with q | q
  · exact of_flatL h z q
  · rw [List.mem_singleton.mp q]; exact hr
theorem iq {a b : Int} : (a : Rat) < (b : Rat) ↔ a < b := Rat.intCast_lt_intCast
/-- a line's height by its whole numbers -/
theorem wht {s : Sec} (k : Sok s) {p q : Int} {x : Rat} (e : (p : Rat) = x * (q : Rat)) : ((whL s * p + whN s * q : Int) : Rat) = ht s x * ((whV s : Rat) * (q : Rat)) := by
  have W := whp k
  have u0 := k.u0
  have h1 := W.ev
  have h2 := W.en
  rw [Rat.intCast_add, Rat.intCast_mul, Rat.intCast_mul, e]
  unfold ht
  have hu : s.2.1 ≠ 0 := Rat.ne_of_gt u0
  grind
theorem fast_lt {f x : Rat} {p q : Int} (hq : 0 < q) (e : (p : Rat) = x * (q : Rat)) : f.num * q < p * (f.den : Int) ↔ f < x := by
  rw [← iq, Rat.intCast_mul, Rat.intCast_mul, e, Rat.intCast_natCast, num_eq f]
  have hd : 0 < (f.den : Rat) := Rat.natCast_pos.mpr (dpos f)
  have hq' : 0 < (q : Rat) := Rat.intCast_pos.mpr hq
  have hk := Rat.mul_pos hd hq'
  have e1 : f * (f.den : Rat) * (q : Rat) = f * ((f.den : Rat) * (q : Rat)) := by grind
  have e2 : x * (q : Rat) * (f.den : Rat) = x * ((f.den : Rat) * (q : Rat)) := by grind
  rw [e1, e2]
  exact Rat.mul_lt_mul_right hk
theorem fast_cmp {s t : Sec} (ks : Sok s) (kt : Sok t) {p q : Int} {x : Rat} (hq : 0 < q) (e : (p : Rat) = x * (q : Rat)) : (whL t * p + whN t * q) * whV s < (whL s * p + whN s * q) * whV t ↔ ht t x < ht s x := by
  rw [← iq, Rat.intCast_mul, Rat.intCast_mul, wht ks e, wht kt e]
  have v1 : 0 < (whV s : Rat) := Rat.intCast_pos.mpr (whp ks).v0
  have v2 : 0 < (whV t : Rat) := Rat.intCast_pos.mpr (whp kt).v0
  have hq' : 0 < (q : Rat) := Rat.intCast_pos.mpr hq
  have hk := Rat.mul_pos (Rat.mul_pos v1 v2) hq'
  have e1 : ht t x * ((whV t : Rat) * (q : Rat)) * (whV s : Rat) = ht t x * ((whV s : Rat) * (whV t : Rat) * (q : Rat)) := by grind
  have e2 : ht s x * ((whV s : Rat) * (q : Rat)) * (whV t : Rat) = ht s x * ((whV s : Rat) * (whV t : Rat) * (q : Rat)) := by grind
  rw [e1, e2]
  exact Rat.mul_lt_mul_right hk
theorem fast_next {s : Sec} (k : Sok s) {p q : Int} {x : Rat} (hq : 0 < q) (e : (p : Rat) = x * (q : Rat)) (h0 : 0 < ht s x) (h1 : ht s x < 1) :
    (0 < whL s * p + whN s * q ∧ whL s * p + whN s * q < whV s * q) ∧
    0 < s.1.num * (whV s * q) - (s.1.num - s.1.den) * (whL s * p + whN s * q) ∧ (((s.1.den : Int) * (whL s * p + whN s * q) : Int) : Rat) = liq s.1 (ht s x) * ((s.1.num * (whV s * q) - (s.1.num - s.1.den) * (whL s * p + whN s * q) : Int) : Rat) := by
  have w := wht k e
  have v1 : 0 < (whV s : Rat) := Rat.intCast_pos.mpr (whp k).v0
  have hq' : 0 < (q : Rat) := Rat.intCast_pos.mpr hq
  have hk := Rat.mul_pos v1 hq'
  have g0 : 0 < whL s * p + whN s * q := by
    rw [← Rat.intCast_pos, w]
    exact Rat.mul_pos h0 hk
  have g1 : whL s * p + whN s * q < whV s * q := by
    rw [← iq, w, Rat.intCast_mul]
    have := (Rat.mul_lt_mul_right hk).mpr h1
    grind
  generalize whL s * p + whN s * q = H at *
  have ha := k.a1
  have hd : 0 < (s.1.den : Rat) := Rat.natCast_pos.mpr (dpos s.1)
  have hl := liq_den (x := ht s x) ha (Rat.le_of_lt h1)
  have eq1 : ((s.1.num * (whV s * q) - (s.1.num - s.1.den) * H : Int) : Rat) = (s.1.den : Rat) * ((whV s : Rat) * (q : Rat)) * (s.1 - (s.1 - 1) * ht s x) := by
    rw [Rat.intCast_sub, Rat.intCast_mul, Rat.intCast_mul, Rat.intCast_mul, Rat.intCast_sub, Rat.intCast_natCast, num_eq s.1, w]; grind
  refine ⟨⟨g0, g1⟩, ?_, ?_⟩
  · rw [← Rat.intCast_pos, eq1]
    exact Rat.mul_pos (Rat.mul_pos hd hk) hl
  · rw [eq1, Rat.intCast_mul, Rat.intCast_natCast, w]
    unfold liq
    have e2 : ht s x / (s.1 - (s.1 - 1) * ht s x) * (s.1 - (s.1 - 1) * ht s x) = ht s x := Rat.div_mul_cancel (Rat.ne_of_gt hl)
    grind
section
variable {P : Program} {w : World} {K : PySem.W.Frag} {mg : Str → Option Value} {base : Heap}
theorem sg104 : Sig d104 "_law_fast" ["_law_wish_here", "_law_back", "_law_top", "_law_wholes", "_law_found", "_law_p", "_law_q", "_law_foot", "_law_turn", "_law_at", "_law_low2", "_law_wide", "_law_each", "_law_high", "_law_flow"] ["_law_wish_here", "_law_back", "_law_top"] := ⟨memN 83, rfl, memF 83, rfl, rfl, ⟨rfl, rfl, rfl, by decide +kernel, rfl, by decide +kernel, by decide +kernel⟩, fun _ _ _ _ _ _ us hl => match us, hl with | [_, _, _], _ => rfl⟩
theorem f104 (M : Md K mg) : Fn P w K mg base "_law_fast" 7 ["_law_wish_here", "_law_back", "_law_top"] (Pm K (α := Col × Rat) (fun | (c, R) => [c.sv, .q R, .int 20]) (fun | (c, R) => Wok c R) (fun | (c, R) => fun r => ∃ l, r = .lst l ∧ l.length = (rowsF c R 21 c.top).length)) := by
  refine mk M sg104 (fun _ => rfl) (fun z hz => noOl rfl) fun s ⟨c, R⟩ hg => ?_
  have h : Wok c R := hg
  have hc := h.co
  have f0 := hc.f0
  have ft := hc.ft
  have t1 := hc.t1
  have hss := h.ss
  have hne := hss.ne
  have hfew := hss.few
  have p0 : Cok c ∧ Bz 600 R := ⟨hc, h.r.b⟩
  refine ws_setlc 3 (secs c R) secS wS rfl rfl rfl rfl (own := [("_law_flow", 14)]) (is := [14]) (bt := false) rfl rfl (.name rfl (.inl rfl)) (noOwn_of rfl) (ev_callf (f91 M) rfl (ea_cons (ev_var 0 rfl (.inl rfl) rfl (ea_cons (ev_var 1 rfl (.inl rfl) rfl (ea_nil ⟨(_, _), rfl, p0, ⟨rfl, by omega, fun _ _ => rfl, fun x hx => ⟨_, rfl, rfl, ?_⟩, ?_⟩⟩))))))
  · have kx := hss.ok x hx
    exact (ev_callf (f102 M) rfl (ea_cons (ev_var 14 rfl (.inl rfl) rfl (ea_nil ⟨_, rfl, kx, rfl⟩))))
  refine (ws_parN (is := [4, 5, 6, 7]) (.cons rfl (.inl rfl) (.cons rfl (.inl rfl) (.cons rfl (.inl rfl) (.cons rfl (.inl rfl) .nil)))) (fr_new (fr_cons (ev_ix (fun _ _ => rfl) (ev_ix (fun _ _ => rfl) (ev_var 0 rfl (.inl rfl) rfl (ev_int ⟨_, _, rfl, rfl, (ev_int ⟨_, _, rfl, rfl, ⟨rfl, (fr_cons (ev_ix (fun _ _ => rfl) (ev_ix (fun _ _ => rfl) (ev_var 0 rfl (.inl rfl) rfl (ev_int ⟨_, _, rfl, rfl, (ev_int ⟨_, _, rfl, rfl, ⟨rfl, (fr_cons (ev_ix (fun _ _ => rfl) (ev_var 0 rfl (.inl rfl) rfl (ev_int ⟨_, _, rfl, rfl, ⟨rfl, (fr_nil ⟨by simp [Sv.isL], ⟨rfl, by simp, ?_⟩⟩)⟩⟩))))⟩⟩)⟩)))))⟩⟩)⟩)))))) (hw := (fun env hk hn => by unfold swappedStores Env.blockKind Env.kindOf; rw [hk, hn]; rfl)))
  refine ws_forR1 8 rfl (M.fr _ (memF 106)) rfl (.inl rfl) (ev_add (ev_var 2 rfl (.inl rfl) rfl ⟨_, rfl, (ev_int ⟨_, rfl, ?_⟩)⟩))
  refine ⟨21, rfl, by omega, fun i ρ' => ∃ (L : List Sv) (p q : Int) (x : Rat) (y8 y9 y10 y11 y12 y13 : Option Sv), ρ' = [some c.sv, some (.q R), some (.int 20), some (.lst ((secs c R).map wS)), some (.own L), some (.int p), some (.int q), some (.q c.foot), y8, y9, y10, y11, y12, y13, none] ∧ (Sv.flatL L = true ∧ L.length + (rowsF c R (21 - i) x).length = (rowsF c R 21 c.top).length ∧ L.length ≤ i) ∧ (0 < q ∧ (p : Rat) = x * (q : Rat) ∧ p.natAbs < 2 ^ (10 + 1800 * i) ∧ q.natAbs < 2 ^ (10 + 1800 * i)) ∧ (0 < x ∧ x ≤ c.top) ∧ [y8, y9, y10, y11, y12, y13].all okO = true, ⟨[], c.top.num, (c.top.den : Int), c.top, none, none, none, none, none, none, rfl, ⟨rfl, Nat.zero_add _, Nat.zero_le _⟩, ⟨den_pos _, by rw [Rat.intCast_natCast]; exact num_eq c.top, hc.btop.n, hc.btop.d⟩, ⟨by grind, Rat.le_refl⟩, rfl⟩, fun i ρ' hi ⟨L, p, q, x, y8, y9, y10, y11, y12, y13, hρ, ⟨hF, hL, hLl⟩, ⟨hq, hp, bp, bq⟩, ⟨x0, xt⟩, hy⟩ => ?_, fun ρ' ⟨L, p, q, x, y8, y9, y10, y11, y12, y13, hρ, ⟨hF, hL, hLl⟩, ⟨hq, hp, bp, bq⟩, ⟨x0, xt⟩, hy⟩ => ?_⟩
  · subst hρ
    simp only [List.all_cons, List.all_nil, Bool.and_true, Bool.and_eq_true] at hy
    obtain ⟨hy8, hy9, hy10, hy11, hy12, hy13⟩ := hy
    have z1 := cmul_of (m := 10 + 1800 * i) (n := 28) bp hc.bfoot.d (by omega)
    have z2 := cmul_of (m := 28) (n := 10 + 1800 * i) hc.bfoot.n bq (by omega)
    refine ws_if (et_gt (ev_mul (ev_var 5 rfl (.inl rfl) rfl ⟨_, rfl, (ev_ix (fun _ _ => rfl) (ev_var 7 rfl (.inl rfl) rfl (ev_int ⟨_, _, rfl, rfl, ⟨_, rfl, z1, ⟨_, rfl, (ev_mul (ev_ix (fun _ _ => rfl) (ev_var 7 rfl (.inl rfl) rfl (ev_int ⟨_, _, rfl, rfl, ⟨_, rfl, (ev_var 6 rfl (.inl rfl) rfl ⟨_, rfl, z2, ⟨_, rfl, (ite_dec (fun hlt => ?_) (fun hge => ?_))⟩⟩)⟩⟩))))⟩⟩⟩)))⟩)))
    · have hx : c.foot < x := (fast_lt hq hp).mp hlt
      obtain ⟨r1, r2⟩ := h.rng x hx xt
      have it0 : (Sv.lst ((secs c R).map wS)).item 0 = some (wS (sAt (secs c R) 0)) := item_w (i := 0) hne
      have cm : ∀ k, k < (secs c R).length → CMulW (whL (sAt (secs c R) k)) p ∧ CMulW (whN (sAt (secs c R) k)) q ∧ (whL (sAt (secs c R) k) * p + whN (sAt (secs c R) k) * q).natAbs < 2 ^ (1778 + (10 + 1800 * i) + 1) := fun k hk => by
        have W := whp (hss.at_ hk)
        exact ⟨cmul_of (m := 1778) (n := 10 + 1800 * i) W.bl bp (by omega), cmul_of (m := 1778) (n := 10 + 1800 * i) W.bn bq (by omega), abs_add_lt (abs_mul_lt W.bl bp) (abs_mul_lt W.bn bq)⟩
      obtain ⟨m1, m2, _⟩ := cm 0 hne
      refine (ws_par3 9 10 11 rfl rfl rfl (by decide) (by decide) (by decide) rfl rfl rfl (fr_cons (ev_int ⟨rfl, (fr_cons (ev_add (ev_mul (ev_ix (fun _ _ => rfl) (ev_ix (fun _ _ => rfl) (ev_var 3 rfl (.inl rfl) rfl (ev_int ⟨_, _, rfl, it0, (ev_int ⟨_, _, rfl, rfl, ⟨_, rfl, (ev_var 5 rfl (.inl rfl) rfl ⟨_, rfl, m1, ⟨_, rfl, (ev_mul (ev_ix (fun _ _ => rfl) (ev_ix (fun _ _ => rfl) (ev_var 3 rfl (.inl rfl) rfl (ev_int ⟨_, _, rfl, it0, (ev_int ⟨_, _, rfl, rfl, ⟨_, rfl, (ev_var 6 rfl (.inl rfl) rfl ⟨_, rfl, m2, ⟨_, rfl, ⟨rfl, (fr_cons (ev_ix (fun _ _ => rfl) (ev_ix (fun _ _ => rfl) (ev_var 3 rfl (.inl rfl) rfl (ev_int ⟨_, _, rfl, it0, (ev_int ⟨_, _, rfl, rfl, ⟨rfl, (fr_nil ⟨rfl, ?_⟩)⟩⟩)⟩)))))⟩⟩⟩)⟩⟩)⟩)))))⟩⟩)⟩⟩)⟩)))))))⟩)) (fun env hk hn => by unfold swappedStores Env.blockKind Env.kindOf; rw [hk, hn]; rfl))
      refine ws_forR2 12 rfl (M.fr _ (memF 106)) rfl (.inl rfl) (ev_int ?_)
      refine ⟨1, rfl, by omega, (ev_len rfl (M.fr _ (memF 104)) (ev_var 3 rfl (.inl rfl) rfl ⟨_, rfl, ?_⟩))⟩
      refine ⟨(secs c R).length, by rw [List.length_map], by omega, fun j ρ' => ∃ (k : Nat) (y12 y13 : Option Sv), ρ' = [some c.sv, some (.q R), some (.int 20), some (.lst ((secs c R).map wS)), some (.own L), some (.int p), some (.int q), some (.q c.foot), some (.int (i : Int)), some (.int (k : Int)), some (.int (whL (sAt (secs c R) k) * p + whN (sAt (secs c R) k) * q)), some (.int (whV (sAt (secs c R) k))), y12, y13, none] ∧ lowG (fun i => ht (sAt (secs c R) i) x) j = (k, ht (sAt (secs c R) k) x) ∧ k ≤ j ∧ okO y12 = true ∧ okO y13 = true, ⟨0, y12, y13, rfl, rfl, Nat.le_refl _, hy12, hy13⟩, fun j ρ' hj ⟨k, y12, y13, hρ, hk, hkj, hy12, hy13⟩ => ?_, fun ρ' ⟨k, y12, y13, hρ, hk, hkj, hy12, hy13⟩ => ?_⟩
      · subst hρ
        have hj2 : 1 + j < (secs c R).length := by omega
        have hk2 : k < (secs c R).length := by omega
        have it2 := item_w hj2
        obtain ⟨m1, m2, b1⟩ := cm (1 + j) hj2
        obtain ⟨_, _, b2⟩ := cm k hk2
        have n1 := cmul_of b1 (whp (hss.at_ hk2)).bv (by omega)
        have n2 := cmul_of b2 (whp (hss.at_ hj2)).bv (by omega)
        refine (ws_set 13 rfl (.inl rfl) (ev_add (ev_mul (ev_ix (fun _ _ => rfl) (ev_ix (fun _ _ => rfl) (ev_var 3 rfl (.inl rfl) rfl (ev_var 12 rfl (.inl rfl) rfl ⟨_, _, rfl, it2, (ev_int ⟨_, _, rfl, rfl, ⟨_, rfl, (ev_var 5 rfl (.inl rfl) rfl ⟨_, rfl, m1, ⟨_, rfl, (ev_mul (ev_ix (fun _ _ => rfl) (ev_ix (fun _ _ => rfl) (ev_var 3 rfl (.inl rfl) rfl (ev_var 12 rfl (.inl rfl) rfl ⟨_, _, rfl, it2, (ev_int ⟨_, _, rfl, rfl, ⟨_, rfl, (ev_var 6 rfl (.inl rfl) rfl ⟨_, rfl, m2, ⟨_, rfl, ⟨.inl rfl, (ws_if (et_lt (ev_mul (ev_var 13 rfl (.inl rfl) rfl ⟨_, rfl, (ev_var 11 rfl (.inl rfl) rfl ⟨_, rfl, n1, ⟨_, rfl, (ev_mul (ev_var 10 rfl (.inl rfl) rfl ⟨_, rfl, (ev_ix (fun _ _ => rfl) (ev_ix (fun _ _ => rfl) (ev_var 3 rfl (.inl rfl) rfl (ev_var 12 rfl (.inl rfl) rfl ⟨_, _, rfl, it2, (ev_int ⟨_, _, rfl, rfl, ⟨_, rfl, n2, ⟨_, rfl, (ite_dec (fun h1 => (ws_par3 9 10 11 rfl rfl rfl (by decide) (by decide) (by decide) rfl rfl rfl (fr_cons (ev_var 12 rfl (.inl rfl) rfl ⟨rfl, (fr_cons (ev_var 13 rfl (.inl rfl) rfl ⟨rfl, (fr_cons (ev_ix (fun _ _ => rfl) (ev_ix (fun _ _ => rfl) (ev_var 3 rfl (.inl rfl) rfl (ev_var 12 rfl (.inl rfl) rfl ⟨_, _, rfl, it2, (ev_int ⟨_, _, rfl, rfl, ⟨rfl, (fr_nil ⟨rfl, (ws_nil (ws_nil ?_))⟩)⟩⟩)⟩)))))⟩))⟩)) (fun env hk hn => by unfold swappedStores Env.blockKind Env.kindOf; rw [hk, hn]; rfl))) (fun h1 => (ws_nil (ws_nil ?_))))⟩⟩⟩)⟩))))⟩))⟩⟩)⟩))))⟩⟩⟩)⟩⟩)⟩)))))⟩⟩)⟩⟩)⟩)))))))
        · have h1 := (fast_cmp (hss.at_ hk2) (hss.at_ hj2) hq hp).mp h1
          refine ⟨1 + j, _, _, rfl, ?_, by omega, rfl, rfl⟩
          rw [lowG, hk, Nat.add_comm j 1, if_pos h1]
        · have h1 : ¬ _ := fun z => h1 ((fast_cmp (hss.at_ hk2) (hss.at_ hj2) hq hp).mpr z)
          refine ⟨k, _, _, rfl, ?_, by omega, rfl, rfl⟩
          rw [lowG, hk, Nat.add_comm j 1, if_neg h1]
      · subst hρ
        have hk2 : k < (secs c R).length := by omega
        have itk := item_w hk2
        have kk := hss.at_ hk2
        have W := whp kk
        have elow : low c R x = (k, ht (sAt (secs c R) k) x) := hk
        rw [elow] at r1 r2
        have ea : (sAt (secs c R) k).1 = c.a := by
          rw [sAt_secs (by rw [secs_len] at hk2; omega)]; rfl
        obtain ⟨⟨g0, g1⟩, g2, g3⟩ := fast_next kk hq hp (show 0 < ht (sAt (secs c R) k) x by grind) (show ht (sAt (secs c R) k) x < 1 by grind)
        have nx : ∃ B, Nx (sAt (secs c R) k).1 (whV (sAt (secs c R) k)) (whL (sAt (secs c R) k)) (whN (sAt (secs c R) k)) p q B := ⟨_, kk.ba, W.bv, W.bl, W.bn, bp, bq, by omega, g0, g1⟩
        refine (ws_tup (is := [5, 6]) (.cons rfl (.inl rfl) (.cons rfl (.inl rfl) .nil)) (ev_callf (f103 M) rfl (ea_cons (ev_ix (fun _ _ => rfl) (ev_var 3 rfl (.inl rfl) rfl (ev_var 9 rfl (.inl rfl) rfl ⟨_, _, rfl, itk, (ea_cons (ev_var 5 rfl (.inl rfl) rfl (ea_cons (ev_var 6 rfl (.inl rfl) rfl (ea_nil ⟨((sAt (secs c R) k).1, whV (sAt (secs c R) k), whL (sAt (secs c R) k), whN (sAt (secs c R) k), p, q), rfl, nx, ⟨_, rfl, rfl, by simp [Sv.isL], ?_⟩⟩)))))⟩))))))
        refine (ws_app 4 rfl (.inl rfl) rfl hF (by omega) (ev_tup (ea_cons (ev_var 9 rfl (.inl rfl) rfl (ea_cons (ev_var 5 rfl (.inl rfl) rfl (ea_cons (ev_var 6 rfl (.inl rfl) rfl (ea_nil ⟨by simp [sizeLine_eq], ⟨rfl, rfl, ?_⟩⟩)))))))) (hfr_of (by simp [okO_s, okO_n, hy12, hy13, Sv.fl, Sv.flat, Sv.flatL, K39.sets, Col.sv, flat_fds, flat_ws, hF, -List.map_map])))
        refine (ws_nil ?_)
        refine ws_nil ?_
        have lr := liq_rng hc.a1 (x := ht (sAt (secs c R) k) x) (by grind) (by grind)
        have ll := liq_le hc.a1 (x := ht (sAt (secs c R) k) x) (by grind) (by grind)
        obtain ⟨_, _, bh⟩ := cm k hk2
        have bw : (whV (sAt (secs c R) k) * q).natAbs < 2 ^ (1778 + (10 + 1800 * i)) := abs_mul_lt W.bv bq
        have bd : ((sAt (secs c R) k).1.num - (sAt (secs c R) k).1.den).natAbs < 2 ^ (6 + 1) := abs_sub_lt kk.ba.n kk.ba.d
        have el : liq (sAt (secs c R) k).1 (ht (sAt (secs c R) k) x) = liq c.a (ht (sAt (secs c R) k) x) := by rw [ea]
        rw [el] at g3
        have bp2 := abs_mul_lt (m := 6) kk.ba.d bh
        have bq2 := abs_sub_lt (m := 1786 + (10 + 1800 * i)) (Nat.lt_of_lt_of_le (abs_mul_lt (m := 6) kk.ba.n bw) (p2 (by omega))) (Nat.lt_of_lt_of_le (abs_mul_lt bd bh) (p2 (by omega)))
        refine ⟨_, _, _, liq c.a (ht (sAt (secs c R) k) x), some (.int (i : Int)), _, _, _, _, _, rfl, ⟨flatL_snoc _ _ hF rfl, ?_, ?_⟩, ⟨g2, g3, Nat.lt_of_lt_of_le bp2 (p2 (by omega)), Nat.lt_of_lt_of_le bq2 (p2 (by omega))⟩, ⟨lr.1, by grind⟩, ?_⟩
        · have e : 21 - i = (21 - (i + 1)) + 1 := by omega
          rw [e, rowsF, if_pos hx, elow, List.length_cons] at hL
          have hL : L.length + ((rowsF c R (21 - (i + 1)) (liq c.a (ht (sAt (secs c R) k) x))).length + 1) = (rowsF c R 21 c.top).length := hL
          rw [List.length_append, List.length_singleton]
          omega
        · rw [List.length_append, List.length_singleton]
          omega
        · simp [okO_s, hy12, hy13, Sv.fl, Sv.flat]
    · have hge : ¬ c.foot < x := fun z => hge ((fast_lt hq hp).mpr z)
      refine ws_nil (ws_nil ⟨L, p, q, x, some (.int (i : Int)), y9, y10, y11, y12, y13, rfl, ⟨hF, ?_, by omega⟩, ⟨hq, hp, Nat.lt_of_lt_of_le bp (p2 (by omega)), Nat.lt_of_lt_of_le bq (p2 (by omega))⟩, ⟨x0, xt⟩, ?_⟩)
      · have none : ∀ f, rowsF c R f x = [] := fun f => by
          cases f with
          | zero => rfl
          | succ f => rw [rowsF, if_neg hge]
        rw [none] at hL ⊢
        exact hL
      · simp [okO_s, hy9, hy10, hy11, hy12, hy13, Sv.fl, Sv.flat]
  · subst hρ
    exact (ws_ret (ev_var 4 rfl (.inl rfl) rfl ⟨L, rfl, hL⟩))
theorem sg105 : Sig d105 "_law_count" ["_law_wish_here", "_law_back", "_law_top"] ["_law_wish_here", "_law_back", "_law_top"] := ⟨memN 84, rfl, memF 84, rfl, rfl, ⟨rfl, rfl, rfl, by decide +kernel, rfl, by decide +kernel, by decide +kernel⟩, fun _ _ _ _ _ _ us hl => match us, hl with | [_, _, _], _ => rfl⟩
theorem f105 (M : Md K mg) : Fn P w K mg base "_law_count" 8 ["_law_wish_here", "_law_back", "_law_top"] (Pm K (α := Col × Rat) (fun | (c, R) => [c.sv, .q R, .int 20]) (fun | (c, R) => Wok c R) (fun | (c, R) => fun r => r = .int ((rowsF c R 21 c.top).length : Int))) := by
  refine mk M sg105 (fun _ => rfl) (fun z hz => noOl rfl) fun s ⟨c, R⟩ hg => ?_
  have hg : Wok c R := hg
  exact (ws_ret (ev_len rfl (M.fr _ (memF 104)) (ev_call (f104 M) rfl (ea_cons (ev_var 0 rfl (.inl rfl) rfl (ea_cons (ev_var 1 rfl (.inl rfl) rfl (ea_cons (ev_var 2 rfl (.inl rfl) rfl (ea_nil ⟨(c, R), rfl, hg, fun | _, ⟨l1, rfl, hl1⟩ => ⟨_, rfl, by rw [hl1]⟩⟩))))))))))
end
end K39
end
section
set_option Elab.async false
set_option linter.all false
set_option exponentiation.threshold 10000
set_option maxRecDepth 100000
set_option maxHeartbeats 4000000
namespace K39
open PySem PySem.Spec PyProof.Rows L2
/-- the spring is written -/
theorem Gr.sput {s : Option Addr} {H : Hp} {a : Addr} {x y z : Int} (e : s = some a) (h : ∃ o, H a = some (.lst o)) (hy : 0 ≤ y ∧ y < 2147483648) : Gr s H (upd H a (.lst [.int x, .int y, .int z])) := by
  refine ⟨fun b o hb n => ?_, fun b xs hb => ?_, fun b eb _ => ?_⟩
  · have : b ≠ a := fun q => n (by rw [e, q])
    rw [upd_ne this]; exact hb
  · obtain ⟨o, ho⟩ := h
    have : b ≠ a := fun q => by rw [q, ho] at hb; cases hb
    rw [upd_ne this]; exact hb
  · have : b = a := by rw [e] at eb; cases eb; rfl
    subst this
    exact ⟨x, y, z, upd_same, hy⟩
def spI (k : Int) (x y z : Int) : Int := if k = 0 then x else if k = 1 then y else z
def spS (k n x y z : Int) : List V := if k = 0 then [.int n, .int y, .int z] else if k = 1 then [.int x, .int n, .int z] else [.int x, .int y, .int n]
def Kk (k : Int) : Prop := k = 0 ∨ k = 1 ∨ k = 2
section
variable {S : Sc} {ρ : Ro} {N : Ro → Prop} {R : Sv → Prop} {Φ : Sv → Prop} {a b e : Expr} {pos p p2 p3 p4 : Pos} {x y : Str} {rest : List Stmt} {k : Int} {j : Nat}
theorem Sat.spr_at {K : PySem.W.Frag} {s : Option Addr} {H : Hp} {v : V} (h : Sat K s H v .spr) : ∃ u, v = .ref u ∧ s = some u ∧ Spr H u := by
  cases h with
  | spr e h => exact ⟨_, rfl, e, h⟩
theorem ev_sp (i : Nat) (hN : S.N[i]? = some x) (hv : Sees S x) (hr : ρ[i]? = some (some .spr)) (hk : Kk k) (h : ∀ n : Int, (k = 1 → 0 ≤ n ∧ n < 2147483648) → Φ (.int n))
    (hd : (x == ("__debug__" : Str)) = false := by decide +kernel) (hcd : (x == ("__classdict__" : Str)) = false := by decide +kernel) : Ev S (.Subscript (.Name x p) (.Constant (.int k) j p2) pos) ρ Φ := by
  intro X hX σ H hE Q kk
  obtain ⟨v, e1, h1⟩ := hE.at_ i _ hr
  obtain ⟨u, rfl, es, x', y', z', hu, hy⟩ := h1.spr_at
  refine WE.of (pe_ix ix_seq (pe_var (i := i) (by rw [hX.N]; exact hN) (hX.vis hv) hd hcd) pe_int (fun _ _ => rfl)) ⟨_, e1, ?_⟩
  rcases hk with rfl | rfl | rfl
  · exact .inl ⟨_, _, _, _, rfl, rfl, SqL.of hu, rfl, kk _ H _ Gr.refl (.int _) (h x' (fun z => by omega))⟩
  · exact .inl ⟨_, _, _, _, rfl, rfl, SqL.of hu, rfl, kk _ H _ Gr.refl (.int _) (h y' (fun _ => hy))⟩
  · exact .inl ⟨_, _, _, _, rfl, rfl, SqL.of hu, rfl, kk _ H _ Gr.refl (.int _) (h z' (fun z => by omega))⟩
theorem sp_set {K : PySem.W.Frag} {s : Option Addr} {H : Hp} {u : Addr} (es : s = some u) (hs : Spr H u) (hk : Kk k) (n : Int) (hn : k = 1 → 0 ≤ n ∧ n < 2147483648) : ∃ ys, rSetL (.ref u) (.int k) (.int n) H (fun H' => H' = upd H u (.lst ys)) ∧ Gr s H (upd H u (.lst ys)) := by
  obtain ⟨x', y', z', hu, hy⟩ := hs
  rcases hk with rfl | rfl | rfl
  · exact ⟨_, ⟨u, _, 0, 0, rfl, rfl, hu, rfl, rfl⟩, Gr.sput (x := n) (z := z') es ⟨_, hu⟩ hy⟩
  · exact ⟨_, ⟨u, _, 1, 1, rfl, rfl, hu, rfl, rfl⟩, Gr.sput (x := x') (z := z') es ⟨_, hu⟩ (hn rfl)⟩
  · exact ⟨_, ⟨u, _, 2, 2, rfl, rfl, hu, rfl, rfl⟩, Gr.sput (x := x') (z := n) es ⟨_, hu⟩ hy⟩
theorem rSetL_imp {o i v : V} {H : Hp} {Q Q' : Hp → Prop} (h : rSetL o i v H Q) (m : ∀ H', Q H' → Q' H') : rSetL o i v H Q' := by
  obtain ⟨p, xs, k, j, h1, h2, h3, h4, h5⟩ := h
  exact ⟨p, xs, k, j, h1, h2, h3, h4, m _ h5⟩
/-- spring[k] = e -/
theorem ws_sps (i : Nat) (hN : S.N[i]? = some x) (hv : Sees S x) (hr : ρ[i]? = some (some .spr)) (hk : Kk k) (h : Ev S e ρ fun r => ∃ n, r = .int n ∧ (k = 1 → 0 ≤ n ∧ n < 2147483648) ∧ Ws S rest ρ N R)
    (hd : (x == ("__debug__" : Str)) = false := by decide +kernel) (hcd : (x == ("__classdict__" : Str)) = false := by decide +kernel)
    (hs : ∀ l env, swapsWithSole [.Subscript (.Name x p) (.Constant (.int k) j p2) p3] e l env = pure false := by intros; rfl) (hw : ∀ env, swappedStores [.Subscript (.Name x p) (.Constant (.int k) j p2) p3] e env = pure none := by intro _; rfl) :
    Ws S (.Assign [.Subscript (.Name x p) (.Constant (.int k) j p2) p3] e pos :: rest) ρ N R := by
  intro X hX B σ H hE D kN kR
  refine WSs.of (pss_cons (ps_asg pe_W (pg_sub (pe_var (i := i) (by rw [hX.N]; exact hN) (hX.vis hv) hd hcd) pe_int set_list) (hs _ _) (hw _) (by rfl)) pss_W) ?_
  refine h X hX σ H hE.en _ fun v H1 r g1 s1 ⟨n, er, hn, h2⟩ => ?_
  subst er
  cases s1
  have hE1 := hE.mono g1
  obtain ⟨v, e1, h1⟩ := hE1.en.at_ i _ hr
  obtain ⟨u, rfl, es, hsp⟩ := h1.spr_at
  obtain ⟨ys, q1, g2⟩ := sp_set (K := S.K) es hsp hk n hn
  refine ⟨_, e1, rSetL_imp q1 fun H' eH => ?_⟩
  subst eH
  exact h2 X hX B σ _ (hE1.mono g2) D (fun σ' H2 ρ' e t n => kN σ' H2 ρ' e ((g1.trans g2).tk.trans t) n) kR
/-- spring[k], y = e -/
theorem ws_spt (i l : Nat) {kt : Nat} (hN : S.N[i]? = some x) (hv : Sees S x) (hr : ρ[i]? = some (some .spr)) (hk : Kk k) (hN2 : S.N[l]? = some y) (ht : Sto S y)
    (h : Ev S e ρ fun r => ∃ n r', r.parts = some [.int n, r'] ∧ r'.isL = false ∧ (k = 1 → 0 ≤ n ∧ n < 2147483648) ∧ Ws S rest (ρ.set l (some r')) N R)
    (hd : (x == ("__debug__" : Str)) = false := by decide +kernel) (hcd : (x == ("__classdict__" : Str)) = false := by decide +kernel)
    (hs : ∀ l env, swapsWithSole [.Tuple [.Subscript (.Name x p) (.Constant (.int k) j p2) p3, .Name y p4] kt pos] e l env = pure false := by intros; rfl) (hw : ∀ env, swappedStores [.Tuple [.Subscript (.Name x p) (.Constant (.int k) j p2) p3, .Name y p4] kt pos] e env = pure none := by intro _; rfl) {pos2 : Pos} :
    Ws S (.Assign [.Tuple [.Subscript (.Name x p) (.Constant (.int k) j p2) p3, .Name y p4] kt pos] e pos2 :: rest) ρ N R := by
  intro X hX B σ H hE D kN kR
  have hg : PGs X [.Subscript (.Name x p) (.Constant (.int k) j p2) p3, .Name y p4] _ := pgs_cons (pg_sub (pe_var (i := i) (by rw [hX.N]; exact hN) (hX.vis hv) hd hcd) pe_int set_list) (pgs_cons (pg_name (i := l) hX.nd (by rw [hX.N]; exact hN2) (hX.loc ht) (hX.sto ht)) pgs_nil (by rfl)) (by rfl)
  refine WSs.of (pss_cons (ps_asg pe_W (pg_tup (n := 2) hX.calm hg rfl rfl) (hs _ _) (hw _) (by rfl)) pss_W) ?_
  refine h X hX σ H hE.en _ fun v H1 r g1 s1 ⟨n, r', er, hr', hn, h2⟩ => ?_
  obtain ⟨u0, vs, rfl, hq, hl⟩ := s1.parts er
  obtain ⟨v1, v2, rfl, s2, s3⟩ := hl.two
  cases s2
  have hE1 := hE.mono g1
  obtain ⟨v, e1, h1⟩ := hE1.en.at_ i _ hr
  obtain ⟨u, rfl, es, hsp⟩ := h1.spr_at
  obtain ⟨ys, q1, g2⟩ := sp_set (K := S.K) es hsp hk n hn
  refine ⟨u0, _, rfl, by rw [hX.K]; exact hq.sq, rfl, _, _, rfl, ⟨_, e1, rSetL_imp q1 fun H' eH => ?_⟩⟩
  subst eH
  refine ⟨_, _, rfl, rfl, ?_⟩
  exact h2 X hX B _ _ ((hE1.mono g2).set (s3.mono g2.n) (.inl hr')) D (fun σ' H2 ρ' e t n => kN σ' H2 ρ' e ((g1.trans g2).tk.trans t) n) kR
theorem ev_mulS (h : Ev S a ρ fun x => ∃ m, x = .int m ∧ Ev S b ρ fun y => ∃ n, y = .int n ∧ CMul m n ∧ Φ (.int (m * n))) : Ev S (.BinOp a .Mult b pos) ρ Φ := ev_bin (fun X => op_mul) h
end
section
variable {P : Program} {w : World} {K : PySem.W.Frag} {mg : Str → Option Value} {base : Heap}
theorem sg72 : Sig d72 "_law_dip" ["_law_spring_here", "_law_top", "_law_digit", "_law_factor2"] ["_law_spring_here", "_law_top"] := ⟨memN 51, rfl, memF 51, rfl, rfl, ⟨rfl, rfl, rfl, by decide +kernel, rfl, by decide +kernel, by decide +kernel⟩, fun _ _ _ _ _ _ us hl => match us, hl with | [_, _], _ => rfl⟩
theorem f72 (M : Md K mg) : Fn P w K mg base "_law_dip" 1 ["_law_spring_here", "_law_top"] (Pm K (fun t : Int => [.spr, .int t]) (fun t => 0 < t ∧ t < 1073741824) (fun t r => ∃ d, r = .int d ∧ 0 ≤ d ∧ d < t)) := by
  refine mk M sg72 (fun _ => rfl) (fun z hz => noO2 rfl rfl) fun s t ⟨t0, t1⟩ => ?_
  refine (ws_if (et_gt (ev_sp 0 rfl (.inl rfl) rfl (.inl rfl) fun n1 hn1 => ⟨_, rfl, (ev_int ⟨_, rfl, ?_⟩)⟩)))
  refine ite_dec (fun h1 => ?_) (fun h1 => ?_)
  · refine ws_spt 0 2 rfl (.inl rfl) rfl (.inl rfl) rfl (.inl rfl) ?_
    refine (ev_divmod rfl (M.fr _ (memF 110)) (ev_sp 0 rfl (.inl rfl) rfl (.inl rfl) fun n1 hn1 => ⟨_, rfl, (ev_var 1 rfl (.inl rfl) rfl ⟨_, rfl, ⟨t0, t1⟩, ⟨_, _, rfl, rfl, (fun h => absurd h (by decide)), ?_⟩⟩)⟩))
    exact (ws_ret (ev_var 2 rfl (.inl rfl) rfl ⟨_, rfl, Int.emod_nonneg _ (by omega), Int.emod_lt_of_pos _ t0⟩))
  · refine ws_nil ?_
    refine (ws_sps 0 rfl (.inl rfl) rfl (.inr (.inr rfl)) (ev_add (ev_sp 0 rfl (.inl rfl) rfl (.inr (.inr rfl)) fun n1 hn1 => ⟨_, rfl, (ev_int ⟨_, rfl, ⟨_, rfl, fun h => by omega, ?_⟩⟩)⟩)))
    refine (ws_set 3 rfl (.inl rfl) (ev_add (ev_int ⟨_, rfl, (ev_mulS (ev_int ⟨_, rfl, (ev_toint rfl (M.fr _ (memF 101)) (ev_sp 0 rfl (.inl rfl) rfl (.inr (.inr rfl)) fun n1 hn1 => ⟨_, rfl, ⟨_, rfl, .inl ⟨by decide, by decide⟩, ⟨_, rfl, ⟨.inl rfl, ?_⟩⟩⟩⟩))⟩))⟩)))
    refine (ws_sps 0 rfl (.inl rfl) rfl (.inr (.inl rfl)) (ev_mod (ev_toint rfl (M.fr _ (memF 101)) (ev_add (ev_add (ev_mulS (ev_sp 0 rfl (.inl rfl) rfl (.inr (.inl rfl)) fun n1 hn1 => ⟨_, rfl, (ev_var 3 rfl (.inl rfl) rfl ⟨_, rfl, .inl ⟨by have := hn1 rfl; omega, by have := hn1 rfl; omega⟩, ⟨_, rfl, (ev_mulS (ev_int ⟨_, rfl, (ev_sp 0 rfl (.inl rfl) rfl (.inr (.inr rfl)) fun n2 hn2 => ⟨_, rfl, .inl ⟨by decide, by decide⟩, ⟨_, rfl, ⟨_, rfl, (ev_int ⟨_, rfl, ⟨_, rfl, ⟨_, rfl, (ev_int ⟨_, rfl, by decide, ⟨_, rfl, (fun _ => ⟨Int.emod_nonneg _ (by decide), Int.lt_trans (Int.emod_lt_of_pos _ (by decide)) (by decide)⟩), ?_⟩⟩)⟩⟩⟩)⟩⟩⟩)⟩))⟩⟩)⟩)))))))
    exact (ws_ret (ev_mod (ev_toint rfl (M.fr _ (memF 101)) (ev_div (ev_sp 0 rfl (.inl rfl) rfl (.inr (.inl rfl)) fun n1 hn1 => ⟨_, rfl, (ev_int ⟨_, rfl, cdiv_of (m := 7) (by decide) (by decide) (by omega), ⟨_, rfl, ⟨_, rfl, (ev_var 1 rfl (.inl rfl) rfl ⟨_, rfl, t0, ⟨_, rfl, Int.emod_nonneg _ (by omega), Int.emod_lt_of_pos _ t0⟩⟩)⟩⟩⟩)⟩)))))
end
end K39
end
section
set_option Elab.async false
set_option linter.all false
set_option exponentiation.threshold 10000
set_option maxRecDepth 100000
set_option maxHeartbeats 4000000
namespace K39
open PySem PySem.Spec PyProof.Rows L2
theorem item_any {l : List Sv} {d : Int} (h : 0 ≤ d ∧ d < l.length) : ∃ r, (Sv.lst l).item d = some r ∧ r ∈ l := by
  have hd : d.toNat < l.length := by omega
  refine ⟨l[d.toNat], ?_, List.getElem_mem hd⟩
  show atI l d = _
  unfold L2.atI ixN
  rw [if_pos h.1, if_pos h.2]
  exact List.getElem?_eq_getElem hd
theorem fr_ok {a b : Int} {n : Nat} (ha : 0 < a) (hb : 0 < b) (h1 : a.natAbs < 2 ^ n) (h2 : b.natAbs < 2 ^ n) (hn : n ≤ 8000) : 0 < Rat.divInt a b ∧ Bz n (Rat.divInt a b) ∧ Gk a b := by
  refine ⟨?_, bz_div h1 h2 (by omega), by omega, ?_⟩
  · rw [Rat.divInt_eq_div]
    exact div_pos' (Rat.intCast_pos.mpr ha) (Rat.intCast_pos.mpr hb)
  · refine Nat.lt_of_le_of_lt (Nat.le_of_dvd (by omega) (Nat.gcd_dvd_right ..)) (Nat.lt_of_lt_of_le h2 (p2 (by omega)))
theorem tenth_ok {a b : Int} (ha : 0 < a) (hb : a < b) (h : b ≤ 10) : Gk a b ∧ 0 < Rat.divInt a b ∧ Rat.divInt a b < 1 ∧ (Rat.divInt a b).den ≤ 10 := by
  have f := fr_ok (a := a) (b := b) (n := 4) ha (by omega) (by omega) (by omega) (by omega)
  refine ⟨f.2.2, f.1, ?_, ?_⟩
  · rw [Rat.divInt_eq_div]
    refine (Rat.div_lt_iff (Rat.intCast_pos.mpr (by omega))).mpr ?_
    rw [Rat.one_mul]
    exact Rat.intCast_lt_intCast.mpr hb
  · rw [Rat.den_divInt, if_neg (by omega)]
    exact Nat.le_trans (Nat.div_le_self _ _) (by omega)
section
variable {P : Program} {w : World} {K : PySem.W.Frag} {mg : Str → Option Value} {base : Heap}
theorem sg73 : Sig d73 "_law_any" ["_law_spring_here", "_law_some"] ["_law_spring_here", "_law_some"] := ⟨memN 52, rfl, memF 52, rfl, rfl, ⟨rfl, rfl, rfl, by decide +kernel, rfl, by decide +kernel, by decide +kernel⟩, fun _ _ _ _ _ _ us hl => match us, hl with | [_, _], _ => rfl⟩
theorem f73 (M : Md K mg) : Fn P w K mg base "_law_any" 2 ["_law_spring_here", "_law_some"] (Pm K (fun l : List Sv => [.spr, .lst l]) (fun l => 0 < l.length ∧ l.length < 1000) (fun l r => r ∈ l)) := by
  refine mk M sg73 (fun _ => rfl) (fun z hz => noO2 rfl rfl) fun s l ⟨h0, h1⟩ => ?_
  exact (ws_ret (ev_ix (fun _ _ => rfl) (ev_var 1 rfl (.inl rfl) rfl (ev_call (f72 M) rfl (ea_cons (ev_var 0 rfl (.inl rfl) rfl (ea_cons (ev_len rfl (M.fr _ (memF 104)) (ev_var 1 rfl (.inl rfl) rfl ⟨_, rfl, (ea_nil ⟨_, rfl, ⟨by omega, by omega⟩, fun | _, ⟨d1, rfl, hd1⟩ => ⟨_, _, rfl, (item_any hd1).choose_spec.1, (item_any hd1).choose_spec.2⟩⟩)⟩)))))))))
theorem f73i {P : Program} {w : World} {K : PySem.W.Frag} {mg : Str → Option Value} {base : Heap} (M : Md K mg) : Fn P w K mg base "_law_any" 2 ["_law_spring_here", "_law_some"] (Pm K (fun l : List Int => [.spr, .lst (l.map .int)]) (fun l => 0 < l.length ∧ l.length < 1000) (fun l r => ∃ n, r = .int n ∧ n ∈ l)) :=
  Fn.weak (fun l : List Int => l.map Sv.int) (f73 M) fun l h => ⟨by rw [List.length_map]; exact h, rfl, fun r hr => by
    obtain ⟨n, hn, rfl⟩ := List.mem_map.mp (show r ∈ l.map Sv.int from hr)
    exact ⟨n, rfl, hn⟩⟩
theorem f73q {P : Program} {w : World} {K : PySem.W.Frag} {mg : Str → Option Value} {base : Heap} (M : Md K mg) : Fn P w K mg base "_law_any" 2 ["_law_spring_here", "_law_some"] (Pm K (fun l : List Rat => [.spr, .lst (l.map .q)]) (fun l => 0 < l.length ∧ l.length < 1000) (fun l r => ∃ n, r = .q n ∧ n ∈ l)) :=
  Fn.weak (fun l : List Rat => l.map Sv.q) (f73 M) fun l h => ⟨by rw [List.length_map]; exact h, rfl, fun r hr => by
    obtain ⟨n, hn, rfl⟩ := List.mem_map.mp (show r ∈ l.map Sv.q from hr)
    exact ⟨n, rfl, hn⟩⟩
theorem sg100 : Sig d100 "_law_size" ["_law_spring_here", "_law_top", "_law_under_here"] ["_law_spring_here"] := ⟨memN 79, rfl, memF 79, rfl, rfl, ⟨rfl, rfl, rfl, by decide +kernel, rfl, by decide +kernel, by decide +kernel⟩, fun _ _ _ _ _ _ us hl => match us, hl with | [_], _ => rfl⟩
theorem f100 (M : Md K mg) : Fn P w K mg base "_law_size" 3 ["_law_spring_here"] (Pm K (fun _ : Unit => [.spr]) (fun _ => True) (fun _ r => ∃ t, r = .q t ∧ 0 < t ∧ Bz 4 t)) := by
  refine mk M sg100 (fun _ => rfl) (fun z hz => noO1 rfl) fun s _ _ => ?_
  refine (ws_par2 1 2 rfl rfl (by decide) rfl rfl (fr_cons (ev_call (f73i M) rfl (ea_cons (ev_var 0 rfl (.inl rfl) rfl (ea_cons (ev_lst (ea_cons (ev_int (ea_cons (ev_int (ea_cons (ev_int (ea_cons (ev_int (ea_nil ⟨by simp [sizeLine_eq], (ea_nil ⟨[2, 3, 5, 9], rfl, ⟨by decide, by decide⟩, fun | _, ⟨n1, rfl, hn1⟩ => ⟨rfl, (fr_cons (ev_call (f73i M) rfl (ea_cons (ev_var 0 rfl (.inl rfl) rfl (ea_cons (ev_lst (ea_cons (ev_int (ea_cons (ev_int (ea_cons (ev_int (ea_cons (ev_int (ea_cons (ev_int (ea_nil ⟨by simp [sizeLine_eq], (ea_nil ⟨[1, 1, 1, 2, 3], rfl, ⟨by decide, by decide⟩, fun | _, ⟨n2, rfl, hn2⟩ => ⟨rfl, (fr_nil ⟨rfl, (ws_ret (ev_callf (f75 M) rfl (ea_cons (ev_add (ev_int ⟨_, rfl, (ev_call (f72 M) rfl (ea_cons (ev_var 0 rfl (.inl rfl) rfl (ea_cons (ev_var 1 rfl (.inl rfl) rfl (ea_nil ⟨_, rfl, by simp at hn1; omega, fun | _, ⟨d3, rfl, hd3⟩ => ⟨_, rfl, (ea_cons (ev_add (ev_int ⟨_, rfl, (ev_call (f72 M) rfl (ea_cons (ev_var 0 rfl (.inl rfl) rfl (ea_cons (ev_var 2 rfl (.inl rfl) rfl (ea_nil ⟨_, rfl, by simp at hn2; omega, fun | _, ⟨d4, rfl, hd4⟩ => ⟨_, rfl, (ea_nil ⟨(_, _), rfl, (fr_ok (n := 4) (by omega) (by omega) (by simp at hn1; omega) (by simp at hn2; omega) (by omega)).2.2, ⟨_, rfl, (fr_ok (n := 4) (by omega) (by omega) (by simp at hn1; omega) (by simp at hn2; omega) (by omega)).1, (fr_ok (n := 4) (by omega) (by omega) (by simp at hn1; omega) (by simp at hn2; omega) (by omega)).2.1⟩⟩)⟩⟩))))))⟩)))⟩⟩))))))⟩)))))⟩)⟩⟩)⟩)))))))))))))))))⟩⟩)⟩))))))))))))))) (fun env hk hn => by unfold swappedStores Env.blockKind Env.kindOf; rw [hk, hn]; rfl))
theorem sg82 : Sig d82 "_law_amount" ["_law_spring_here", "_law_top", "_law_under_here"] ["_law_spring_here"] := ⟨memN 61, rfl, memF 61, rfl, rfl, ⟨rfl, rfl, rfl, by decide +kernel, rfl, by decide +kernel, by decide +kernel⟩, fun _ _ _ _ _ _ us hl => match us, hl with | [_], _ => rfl⟩
theorem f82 (M : Md K mg) : Fn P w K mg base "_law_amount" 3 ["_law_spring_here"] (Pm K (fun _ : Unit => [.spr]) (fun _ => True) (fun _ r => ∃ t, r = .q t ∧ 0 < t ∧ Bz 9 t)) := by
  refine mk M sg82 (fun _ => rfl) (fun z hz => noO1 rfl) fun s _ _ => ?_
  refine (ws_par2 1 2 rfl rfl (by decide) rfl rfl (fr_cons (ev_call (f73i M) rfl (ea_cons (ev_var 0 rfl (.inl rfl) rfl (ea_cons (ev_lst (ea_cons (ev_int (ea_cons (ev_int (ea_cons (ev_int (ea_cons (ev_int (ea_cons (ev_int (ea_cons (ev_int (ea_cons (ev_int (ea_nil ⟨by simp [sizeLine_eq], (ea_nil ⟨[2, 3, 5, 9, 9, 30, 400], rfl, ⟨by decide, by decide⟩, fun | _, ⟨n1, rfl, hn1⟩ => ⟨rfl, (fr_cons (ev_call (f73i M) rfl (ea_cons (ev_var 0 rfl (.inl rfl) rfl (ea_cons (ev_lst (ea_cons (ev_int (ea_cons (ev_int (ea_cons (ev_int (ea_cons (ev_int (ea_cons (ev_int (ea_cons (ev_int (ea_nil ⟨by simp [sizeLine_eq], (ea_nil ⟨[1, 1, 2, 5, 9, 400], rfl, ⟨by decide, by decide⟩, fun | _, ⟨n2, rfl, hn2⟩ => ⟨rfl, (fr_nil ⟨rfl, (ws_ret (ev_callf (f75 M) rfl (ea_cons (ev_add (ev_int ⟨_, rfl, (ev_call (f72 M) rfl (ea_cons (ev_var 0 rfl (.inl rfl) rfl (ea_cons (ev_var 1 rfl (.inl rfl) rfl (ea_nil ⟨_, rfl, by simp at hn1; omega, fun | _, ⟨d3, rfl, hd3⟩ => ⟨_, rfl, (ea_cons (ev_add (ev_int ⟨_, rfl, (ev_call (f72 M) rfl (ea_cons (ev_var 0 rfl (.inl rfl) rfl (ea_cons (ev_var 2 rfl (.inl rfl) rfl (ea_nil ⟨_, rfl, by simp at hn2; omega, fun | _, ⟨d4, rfl, hd4⟩ => ⟨_, rfl, (ea_nil ⟨(_, _), rfl, (fr_ok (n := 9) (by omega) (by omega) (by simp at hn1; omega) (by simp at hn2; omega) (by omega)).2.2, ⟨_, rfl, (fr_ok (n := 9) (by omega) (by omega) (by simp at hn1; omega) (by simp at hn2; omega) (by omega)).1, (fr_ok (n := 9) (by omega) (by omega) (by simp at hn1; omega) (by simp at hn2; omega) (by omega)).2.1⟩⟩)⟩⟩))))))⟩)))⟩⟩))))))⟩)))))⟩)⟩⟩)⟩)))))))))))))))))))⟩⟩)⟩))))))))))))))))))))) (fun env hk hn => by unfold swappedStores Env.blockKind Env.kindOf; rw [hk, hn]; rfl))
theorem sg101 : Sig d101 "_law_tenth" ["_law_spring_here", "_law_under_here"] ["_law_spring_here"] := ⟨memN 80, rfl, memF 80, rfl, rfl, ⟨rfl, rfl, rfl, by decide +kernel, rfl, by decide +kernel, by decide +kernel⟩, fun _ _ _ _ _ _ us hl => match us, hl with | [_], _ => rfl⟩
theorem f101 (M : Md K mg) : Fn P w K mg base "_law_tenth" 3 ["_law_spring_here"] (Pm K (fun _ : Unit => [.spr]) (fun _ => True) (fun _ r => ∃ t : Rat, r = .q t ∧ 0 < t ∧ t < 1 ∧ t.den ≤ 10)) := by
  refine mk M sg101 (fun _ => rfl) (fun z hz => noO1 rfl) fun s _ _ => ?_
  refine (ws_set 1 rfl (.inl rfl) (ev_add (ev_int ⟨_, rfl, (ev_call (f72 M) rfl (ea_cons (ev_var 0 rfl (.inl rfl) rfl (ea_cons (ev_call (f73i M) rfl (ea_cons (ev_var 0 rfl (.inl rfl) rfl (ea_cons (ev_lst (ea_cons (ev_int (ea_cons (ev_int (ea_cons (ev_int (ea_cons (ev_int (ea_nil ⟨by simp [sizeLine_eq], (ea_nil ⟨[2, 4, 9, 9], rfl, ⟨by decide, by decide⟩, fun | _, ⟨n1, rfl, hn1⟩ => (ea_nil ⟨_, rfl, by simp at hn1; omega, fun | _, ⟨d2, rfl, hd2⟩ => ⟨_, rfl, ⟨.inl rfl, (ws_ret (ev_callf (f75 M) rfl (ea_cons (ev_add (ev_int ⟨_, rfl, (ev_call (f72 M) rfl (ea_cons (ev_var 0 rfl (.inl rfl) rfl (ea_cons (ev_sub (ev_var 1 rfl (.inl rfl) rfl ⟨_, rfl, (ev_int ⟨_, rfl, (ea_nil ⟨_, rfl, by simp at hn1; omega, fun | _, ⟨d3, rfl, hd3⟩ => ⟨_, rfl, (ea_cons (ev_var 1 rfl (.inl rfl) rfl (ea_nil ⟨(_, _), rfl, (tenth_ok (by omega) (by omega) (by simp at hn1; omega)).1, ⟨_, rfl, (tenth_ok (by omega) (by omega) (by simp at hn1; omega)).2⟩⟩)))⟩⟩)⟩)⟩))))))⟩)))))⟩⟩⟩)⟩)⟩))))))))))))))))))⟩)))
end
end K39
end
section
set_option Elab.async false
set_option linter.all false
set_option maxRecDepth 100000
set_option maxHeartbeats 4000000
/-! E1: displays of written fractions and ints, in one step. -/
namespace K39
open PySem PySem.Spec PyProof.Rows L2
section
variable {S : Sc} {ρ : Ro} {Φ : Sv → Prop} {pos : Pos}
/-- (n, m) written -/
theorem ev_pair {n m : Int} {j1 j2 k0 : Nat} {p1 p2 : Pos} (q : Rat) (h1 : q.num = n) (h2 : (q.den : Int) = m) (h : Φ (.q q)) : Ev S (.Tuple [.Constant (.int n) j1 p1, .Constant (.int m) j2 p2] k0 pos) ρ Φ := by
  subst h1 h2
  exact ev_tupq (ea_cons (ev_int (ea_cons (ev_int (ea_nil ⟨q, rfl, h⟩)))))
inductive PairsE : List Expr → List Rat → Prop
  | nil : PairsE [] []
  | cons {n m : Int} {j1 j2 k0 : Nat} {p1 p2 p3 : Pos} {es : List Expr} {qs : List Rat} {q : Rat} : q.num = n → (q.den : Int) = m → PairsE es qs → PairsE (.Tuple [.Constant (.int n) j1 p1, .Constant (.int m) j2 p2] k0 p3 :: es) (q :: qs)
theorem ea_pairs : ∀ {es : List Expr} {qs : List Rat}, PairsE es qs → ∀ {Φ : List Sv → Prop}, Φ (qs.map .q) → Ea S es ρ Φ
  | _, _, .nil, _, h => ea_nil h
  | _, _, .cons h1 h2 hp, _, h => ea_cons (ev_pair _ h1 h2 (ea_pairs hp (by simpa using h)))
theorem PairsE.len : ∀ {es : List Expr} {qs : List Rat}, PairsE es qs → es.length = qs.length
  | _, _, .nil => rfl
  | _, _, .cons _ _ hp => by rw [List.length_cons, List.length_cons, hp.len]
theorem ev_pairs {es : List Expr} (qs : List Rat) (hp : PairsE es qs) (h : Φ (.lst (qs.map .q))) (hz : qs.length ≤ 100 := by decide) : Ev S (.List es pos) ρ Φ :=
  ev_lst (ea_pairs hp ⟨by rw [List.length_map, sizeLine_eq]; omega, h⟩)
inductive IntsE : List Expr → List Int → Prop
  | nil : IntsE [] []
  | cons {n : Int} {j1 : Nat} {p1 : Pos} {es : List Expr} {qs : List Int} : IntsE es qs → IntsE (.Constant (.int n) j1 p1 :: es) (n :: qs)
theorem ea_ints : ∀ {es : List Expr} {qs : List Int}, IntsE es qs → ∀ {Φ : List Sv → Prop}, Φ (qs.map .int) → Ea S es ρ Φ
  | _, _, .nil, _, h => ea_nil h
  | _, _, .cons hp, _, h => ea_cons (ev_int (ea_ints hp (by simpa using h)))
theorem ev_ints {es : List Expr} (qs : List Int) (hp : IntsE es qs) (h : Φ (.lst (qs.map .int))) (hz : qs.length ≤ 100 := by decide) : Ev S (.List es pos) ρ Φ :=
  ev_lst (ea_ints hp ⟨by rw [List.length_map, sizeLine_eq]; omega, h⟩)
end
end K39
end
section
set_option Elab.async false
set_option linter.all false
set_option exponentiation.threshold 10000
set_option maxRecDepth 100000
set_option maxHeartbeats 4000000
namespace K39
open PySem PySem.Spec PyProof.Rows L2
def Tn (t : Rat) : Prop := 0 < t ∧ t < 1 ∧ t.den ≤ 10
theorem bz01 {r : Rat} {n N : Nat} (h0 : 0 < r) (h1 : r < 1) (hd : r.den ≤ N) (hN : N < 2 ^ n) : Bz n r := by
  have e1 : 0 < r.num := num_pos.mpr h0
  have e2 : r.num < (r.den : Int) := by have := (Rat.lt_iff r 1).mp h1; simpa using this
  exact ⟨by omega, by omega⟩
theorem Tn.bz {t : Rat} (h : Tn t) : Bz 4 t := bz01 h.1 h.2.1 h.2.2 (by decide)
theorem den_1sub (f : Rat) : (1 - f).den ≤ f.den := by
  have := den_sub_dvd 1 f
  exact Nat.le_of_dvd (dpos f) (by simpa using this)
theorem den_mul_le (a b : Rat) : (a * b).den ≤ a.den * b.den := Nat.le_of_dvd (Nat.mul_pos (dpos a) (dpos b)) (den_mul_dvd a b)
theorem den_add_le (a b : Rat) : (a + b).den ≤ a.den * b.den := Nat.le_of_dvd (Nat.mul_pos (dpos a) (dpos b)) (den_add_dvd a b)
/-- foot, top, rich -/
theorem mk_top {f t : Rat} (hf : Tn f) (ht : Tn t) : f < f + (1 - f) * t ∧ f + (1 - f) * t < 1 ∧ (f + (1 - f) * t).den ≤ 1000 := by
  have p1 := Rat.mul_pos (show 0 < 1 - f by have := hf.2.1; grind) ht.1
  have p2 := Rat.mul_pos (show 0 < 1 - f by have := hf.2.1; grind) (show 0 < 1 - t by have := ht.2.1; grind)
  refine ⟨by grind, by grind, Nat.le_trans (den_add_le _ _) ?_⟩
  refine Nat.le_trans (Nat.mul_le_mul hf.2.2 (Nat.le_trans (den_mul_le _ _) (Nat.mul_le_mul (Nat.le_trans (den_1sub f) hf.2.2) ht.2.2))) (by decide)
theorem mk_rich {f t u : Rat} (hf : Tn f) (ht : Tn t) (hu : Tn u) : let top := f + (1 - f) * t; f < f + (top - f) * u ∧ f + (top - f) * u < top ∧ (f + (top - f) * u).den ≤ 10000 := by
  intro top
  have e : top - f = (1 - f) * t := by show f + (1 - f) * t - f = _; grind
  have p0 := Rat.mul_pos (show 0 < 1 - f by have := hf.2.1; grind) ht.1
  have p1 := Rat.mul_pos p0 hu.1
  have p2 := Rat.mul_pos p0 (show 0 < 1 - u by have := hu.2.1; grind)
  rw [e]
  refine ⟨by grind, by show _ < f + (1 - f) * t; grind, Nat.le_trans (den_add_le _ _) ?_⟩
  refine Nat.le_trans (Nat.mul_le_mul hf.2.2 (Nat.le_trans (den_mul_le _ _) (Nat.mul_le_mul (Nat.le_trans (den_mul_le _ _) (Nat.mul_le_mul (Nat.le_trans (den_1sub f) hf.2.2) ht.2.2)) hu.2.2))) (by decide)
theorem cop1 {a : Int} {n : Nat} (h : a = n + 1) : a.natAbs.Coprime n := by
  subst h
  rw [show ((n : Int) + 1).natAbs = n + 1 from by omega]
  show Nat.gcd (n + 1) n = 1
  rw [Nat.gcd_comm, Nat.gcd_rec]
  cases n with
  | zero => rfl
  | succ n =>
    cases n with
    | zero => rfl
    | succ n =>
      rw [Nat.add_mod_left, Nat.mod_eq_of_lt (by omega), Nat.gcd_one_left]
/-- a fraction and one -/
def up1 (v : Rat) : Rat := ⟨v.num + v.den, v.den, v.den_nz, by
  have h : Nat.gcd v.num.natAbs v.den = 1 := v.reduced
  have h2 : Int.gcd (v.num + v.den) v.den = Int.gcd v.num v.den := by simp
  exact h2.trans h⟩
theorem up1_gt {v : Rat} (h : 0 < v) : 1 < up1 v := by
  refine (Rat.lt_iff _ _).mpr ?_
  have := num_pos.mpr h
  show 1 * (v.den : Int) < (v.num + v.den) * 1
  omega
theorem bzl {l : List Rat} (h : l.all (fun q => decide (q.num.natAbs < 16) && decide (q.den < 16)) = true) : ∀ q ∈ l, Bz 4 q := fun q hq => by
  have := List.all_eq_true.mp h q hq
  simp only [Bool.and_eq_true, decide_eq_true_eq] at this
  exact ⟨this.1, this.2⟩
def fq1_2 : Rat := ⟨1, 2, by decide, by decide⟩
def fq1_3 : Rat := ⟨1, 3, by decide, by decide⟩
def fq1_5 : Rat := ⟨1, 5, by decide, by decide⟩
def fq1_10 : Rat := ⟨1, 10, by decide, by decide⟩
def fq2_1 : Rat := ⟨2, 1, by decide, by decide⟩
def fq9_10 : Rat := ⟨9, 10, by decide, by decide⟩
def fq1_4 : Rat := ⟨1, 4, by decide, by decide⟩
def fq2_3 : Rat := ⟨2, 3, by decide, by decide⟩
abbrev qs3 : List Rat := [(1 : Rat), fq9_10, fq1_2]
abbrev qs6 : List Rat := [(1 : Rat), fq1_2, fq1_3, fq1_5, fq1_10, fq2_1]
structure Wsh (c : Col) : Prop where
  co : Cok c
  an : c.a.num ≤ 12
  td : c.top.den ≤ 1000
end K39
end
section
set_option Elab.async false
set_option linter.all false
set_option exponentiation.threshold 10000
set_option maxRecDepth 100000
set_option maxHeartbeats 4000000
namespace K39
open PySem PySem.Spec PyProof.Rows L2
theorem execs_app (rest : List Stmt) (env : Env) : ∀ l : List Stmt, execs (l ++ rest) env = (do match ← execs l env with
    | .next => execs rest env
    | f => pure f)
  | [] => by
    show execs rest env = (execs [] env >>= _)
    rw [show execs [] env = pure Flow.next from by rw [execs]]
    rw [pure_bind]
  | s :: l => by
    show execs (s :: (l ++ rest)) env = _
    rw [execs_cons, execs_cons, bind_assoc]
    refine congrArg _ (funext fun f => ?_)
    cases f with
    | next => exact execs_app rest env l
    | brk => exact (pure_bind _ _).symm
    | cont => exact (pure_bind _ _).symm
    | ret v => exact (pure_bind _ _).symm
theorem pss_app {X : Cx} {l rest : List Stmt} {t u : TS} (h1 : PSs X l t) (h2 : PSs X rest u) : PSs X (l ++ rest) (tSeq t u) := by
  refine ⟨fun pins s σ H D I h => ?_⟩
  rw [execs_app]
  refine wpAny_bind (thn (h1.run pins s σ H { D with nx := u D } I h) fun f s1 q => ?_)
  cases f with
  | next =>
    obtain ⟨σ1, H1, I1, q1⟩ := q
    exact h2.run pins s1 σ1 H1 D I1 q1
  | brk => exact wpAny_pure q
  | cont => exact wpAny_pure q
  | ret v => exact wpAny_pure q
section
variable {X : Cx} {C : Addr} {bmB : List Value} {B newId initId : String}
/-- X() -/
theorem pmk_own0 {x : Str} {p pos : Pos} (F : ExcBaseFacts B newId initId bmB) (q : PySem.W.excIn X.K C bmB newId = true) (gC : X.mg x = some (.ref C)) (kC : PySem.W.keepIn X.K (.ref C) = true) (r : Raises X (.ref C)) (hg : Gl X x)
    (hdb : (x == ("__debug__" : Str)) = false := by decide) : PMk X (.Call (.Name x p) [] [] pos) (fun _ H Q => Q (.ref C) none H) := by
  intro pins s σ H Q I h
  refine wpAny_Call_Name_kw (ld_glob I hg gC ?_ hdb)
  refine PySem.W.callWith_K0 I.kIn kC ?_
  show wpAny _ _ (call (.ref C) []) _ _ _
  obtain ⟨bm, N, nm, qn, bs, hdct, sn, sub, ab, col, dd, k0, k1, k2, k3, k5, mN, hC, hN, hni, T⟩ := exc_obj I.kIn q
  refine wpAny_call_exc_subT F T hC hN hni (fun h' e hm => ?_) (Nat.zero_le _)
  exact mk_of I hm r h (I.hok.gone hm.new)
end
/-- a promise with another end: TooMany -/
def PmX (K : PySem.W.Frag) {α : Type} (args : α → List Sv) (pre : α → Prop) (res : α → Sv → Prop) (exc : α → Prop) : Sp := fun vs H Q E =>
  ∃ (s : Option Addr) (x : α), (∀ a, s = some a → Spr H a) ∧ SatL K s H vs (args x) ∧ ((pre x ∧ ∀ v H' r, Gr s H H' → Sat K s H' v r → res x r → Q v H') ∨ (exc x ∧ ∀ H', Gr s H H' → E (.ref (He.ga K "TooMany")) none H'))
structure FnX (P : Program) (w : World) (K : PySem.W.Frag) (mg : Str → Option Value) (base : Heap) (x : Str) (k : Nat) (ps : List Str) (sp : Sp) : Prop where
  ex : ∃ f fd, mg x = some (.ref f) ∧ PySem.W.keepIn K (.ref f) = true ∧ Binds K fd ps [] ∧ FnOk P w K mg base (L2.CX P w) k f fd ps sp
section
variable {P : Program} {w : World} {K : PySem.W.Frag} {mg : Str → Option Value} {base : Heap}
theorem Md.exc (M : Md K mg) : mg "TooMany" = some (.ref (He.ga K "TooMany")) ∧ PySem.W.excIn K (He.ga K "TooMany") He.veBase "ValueError.__new__" = true ∧ PySem.W.keepIn K (.ref (He.ga K "TooMany")) = true ∧ PySem.W.subIn K (.ref (He.ga K "TooMany")) (.type "BaseException") = some true ∧
    PySem.W.typeIn K (.ref (He.ga K "TooMany")) = some (.type "type") ∧ PySem.W.exmOne K (.ref (He.ga K "TooMany")) (.ref (He.ga K "TooMany")) = some true :=
  let ⟨h1, h2, h3, h4⟩ := He.exc_ok (M.c.fact 98 rfl)
  ⟨M.gl _ (memF 93), h1, h2, h3, h4, He.exm_ok (M.c.fact 99 rfl)⟩
theorem sg65 : Sig d65 "full_reflux_walk" ["column", "shares", "many"] ["column"] := ⟨memN 46, rfl, memF 46, rfl, rfl, ⟨rfl, rfl, rfl, by decide +kernel, rfl, by decide +kernel, by decide +kernel⟩, fun _ _ _ _ _ _ us hl => match us, hl with | [_], _ => rfl⟩
theorem it_full {c : Col} {i : Nat} (h : i < 60) : (Sv.tup ((fullL c 60).map .q)).item ((1 + i : Nat) - 1 : Int) = some (.q (itl c.a c.top (i + 1))) := by
  have e : (((1 + i : Nat) : Int) - 1) = (i : Int) := by omega
  rw [e]; exact item_full h
/-- the walk up to the raise -/
theorem b65 (M : Md K mg) (s : Option Addr) (c : Col) (m : Nat) (hc : Cok c) (hm : Fm c m) : Ws (sc P w K mg base d65 ["column", "shares", "many"] 8 s) (d65.body.take 3) (ro ["column", "shares", "many"] [c.sv]) (fun _ => m = 61) (fun r => m ≤ 60 ∧ r = .tup ((fullL c m).map .q)) := by
  have t0 := top0 hc
  have t1 : c.top ≤ 1 := Rat.le_of_lt hc.t1
  have p2 : Cok c ∧ 60 ≤ 60 := ⟨hc, Nat.le_refl _⟩
  show Ws _ (_ :: _) _ _ _
  refine (ws_exp (ev_callf (f48 M) rfl (ea_cons (ev_var 0 rfl (.inl rfl) rfl (ea_nil ⟨_, rfl, hc, ?_⟩)))))
  refine (ws_set 1 rfl (.inl rfl) (ev_callf (f62 M) rfl (ea_cons (ev_var 0 rfl (.inl rfl) rfl (ea_cons (ev_gi rfl M.plates (ea_nil ⟨(c, 60), rfl, p2, ⟨.inl rfl, ?_⟩⟩)))))))
  refine ws_forR2 2 rfl (M.fr _ (memF 106)) rfl (.inl rfl) (ev_int ?_)
  refine ⟨1, rfl, by omega, (ev_add (ev_gi rfl M.plates ⟨_, rfl, (ev_int ⟨_, rfl, ?_⟩)⟩))⟩
  refine ⟨61, rfl, by omega, fun i ρ' => ∃ y, ρ' = [some c.sv, some (.tup ((fullL c 60).map .q)), y] ∧ i < m, ⟨none, rfl, hm.lo⟩, fun i ρ' hi ⟨y, hρ, him⟩ => ?_, fun ρ' ⟨y, hρ, him⟩ => ?_⟩
  · subst hρ
    have it := it_full (c := c) (i := i) (by omega)
    have b := itl_bz hc.a1 t0 t1 hc.ba hc.btop (i + 1)
    have p3 : Sb c.foot (itl c.a c.top (i + 1)) := ⟨_, _, hc.bfoot, b, by omega⟩
    refine (ws_if (et_not (et_val (fun _ _ => rfl) (ev_callf (f23 M) rfl (ea_cons (ev_ix (fun _ _ => rfl) (ev_var 0 rfl (.inl rfl) rfl (ev_int ⟨_, _, rfl, rfl, (ea_cons (ev_ix (fun _ _ => rfl) (ev_var 1 rfl (.inl rfl) rfl (ev_sub (ev_var 2 rfl (.inl rfl) rfl ⟨_, rfl, (ev_int ⟨_, rfl, ⟨_, _, rfl, it, (ea_nil ⟨(_, _), rfl, p3, ⟨_, rfl, (ite_ndec (fun h1 => (ws_ret (ev_to (ev_var 1 rfl (.inl rfl) rfl ⟨_, rfl, rfl, (ev_var 2 rfl (.inl rfl) rfl ⟨_, rfl, ?_⟩)⟩)))) (fun h1 => (ws_nil (ws_nil ?_))))⟩⟩)⟩⟩)⟩)))))⟩))))))))
    · have h1 : ¬ c.foot < itl c.a c.top (i + 1) := h1
      have e : m = 1 + i := by
        refine Nat.le_antisymm ?_ (by omega)
        refine Nat.not_lt.mp fun q => h1 (hm.up (i + 1) (by omega))
      refine ⟨by omega, ?_⟩
      rw [e]
      refine congrArg Sv.tup ?_
      rw [← List.map_take]
      refine congrArg (List.map Sv.q) ?_
      unfold fullL
      rw [← List.map_take, List.take_range, Nat.min_eq_left (by omega)]
    · have h1 : c.foot < itl c.a c.top (i + 1) := h1
      refine ⟨_, rfl, ?_⟩
      refine Nat.lt_of_le_of_ne (by omega) fun q => ?_
      have := hm.dn (by omega)
      rw [← q] at this
      grind
  · subst hρ
    refine ws_nil ?_
    have := hm.hi
    omega
theorem fx65 (M : Md K mg) : ∃ fd, FunD K d65.name d65.qual d65.params d65.body d65.scope [] [] (He.ga K "full_reflux_walk") fd ∧ FnOk P w K mg base (L2.CX P w) 9 (He.ga K "full_reflux_walk") fd ["column"] (PmX K (α := Col × Nat) (fun | (c, m) => [c.sv]) (fun | (c, m) => Cok c ∧ Fm c m ∧ m ≤ 60) (fun | (c, m) => fun r => r = .tup ((fullL c m).map .q)) (fun | (c, m) => Cok c ∧ Fm c m ∧ m = 61)) := by
  obtain ⟨fd, F⟩ := sg65.funD M
  refine ⟨fd, F, ?_⟩
  obtain ⟨e1, e2, e3, e4, e5, e6⟩ := M.exc
  refine F.ok (k := 8) sg65.scp (fun vs H Q E h => ?_) (fun cdv A outer s H vs Q E hr h => ?_)
  · obtain ⟨s, ⟨c, m⟩, _, h1, _⟩ := h
    exact h1.length
  · obtain ⟨s', ⟨c, m⟩, h0, h1, h2⟩ := h
    have hcm : Cok c ∧ Fm c m := by
      rcases h2 with ⟨p, _⟩ | ⟨p, _⟩
      · exact ⟨p.1, p.2.1⟩
      · exact ⟨p.1, p.2.1⟩
    have eb : d65.body = d65.body.take 3 ++ d65.body.drop 3 := (List.take_append_drop 3 _).symm
    refine ⟨_, by rw [eb]; exact pss_app (PSs.nox pss_W) (pss_one (ps_raise rfl (takes_of rfl rfl rfl rfl) (pmk_own0 PySem.F.excBase_ValueError e2 e1 e3 (raises_own e4 e5) (by rfl)))), ?_⟩
    refine b65 M s' c m hcm.1 hcm.2 _ ⟨rfl, rfl, rfl, rfl, rfl, rfl, rfl, sg65.scp.kind, hr, rfl, sg65.scp.nd, rfl, (fun _ _ => rfl), (fun z => by cases z), fun _ _ _ z => by cases z⟩ H _ H (ens_start h1 h0 (noO1 rfl)) _ (fun σ' H' ρ' e _ n => ?_) (fun v H' r g sa q => ?_)
    · rcases h2 with ⟨p, _⟩ | ⟨_, k⟩
      · have := p.2.2; omega
      · exact k H' e.gr
    · rcases h2 with ⟨p, k⟩ | ⟨p, _⟩
      · exact k v H' r g sa q.2
      · have := p.2.2; omega
end
end K39
end
section
set_option Elab.async false
set_option linter.all false
set_option exponentiation.threshold 10000
set_option maxRecDepth 100000
set_option maxHeartbeats 4000000
namespace K39
open PySem PySem.Spec PyProof.Rows L2
section
variable {P : Program} {w : World} {K : PySem.W.Frag} {mg : Str → Option Value} {base : Heap}
theorem sg97 : Sig d97 "_law_reflux" ["_law_spring_here", "_law_wish_here", "_law_floor2", "_law_way"] ["_law_spring_here", "_law_wish_here"] := ⟨memN 76, rfl, memF 76, rfl, rfl, ⟨rfl, rfl, rfl, by decide +kernel, rfl, by decide +kernel, by decide +kernel⟩, fun _ _ _ _ _ _ us hl => match us, hl with | [_, _], _ => rfl⟩
theorem f97 (M : Md K mg) : Fn P w K mg base "_law_reflux" 8 ["_law_spring_here", "_law_wish_here"] (Pm K (fun c : Col => [.spr, c.sv]) Cok (fun _ r => ∃ t, r = .q t ∧ Bz 600 t)) := by
  refine mk M sg97 (fun _ => rfl) (fun z hz => noO2 rfl rfl) fun s c hc => ?_
  have fb := flo_bz hc
  have c3 := bzl (l := qs3) (by decide)
  have c6 := bzl (l := qs6) (by decide)
  refine (ws_par2 2 3 rfl rfl (by decide) rfl rfl (fr_cons (ev_callf (f90 M) rfl (ea_cons (ev_var 1 rfl (.inl rfl) rfl (ea_nil ⟨_, rfl, hc, ⟨rfl, (fr_cons (ev_call (f72 M) rfl (ea_cons (ev_var 0 rfl (.inl rfl) rfl (ea_cons (ev_int (ea_nil ⟨_, rfl, ⟨by decide, by decide⟩, fun | _, ⟨d1, rfl, hd1⟩ => ⟨rfl, (fr_nil ⟨rfl, ?_⟩)⟩⟩)))))))⟩⟩))))) (fun env hk hn => by unfold swappedStores Env.blockKind Env.kindOf; rw [hk, hn]; rfl))
  refine (ws_if (et_w (ew_and (et_eq (ev_var 3 rfl (.inl rfl) rfl ⟨_, rfl, (ev_int ⟨_, rfl, (ite_dec (fun h1 => (ew_and1 (et_gt (ev_ix (fun _ _ => rfl) (ev_var 2 rfl (.inl rfl) rfl (ev_int ⟨_, _, rfl, rfl, ⟨_, rfl, (ev_int ⟨_, rfl, (ite_dec (fun h2 => (ws_ret (ev_callf (f78 M) rfl (ea_cons (ev_var 2 rfl (.inl rfl) rfl (ea_cons (ev_call (f73q M) rfl (ea_cons (ev_var 0 rfl (.inl rfl) rfl (ea_cons (ev_pairs [(1 : Rat), fq9_10, fq1_2] (.cons rfl rfl (.cons rfl rfl (.cons rfl rfl .nil))) (ea_nil ⟨qs3, rfl, ⟨by decide, by decide⟩, fun | _, ⟨q3, rfl, hq3⟩ => (ea_nil ⟨(_, _), rfl, ⟨_, _, fb, c3 _ hq3, by omega, .inl (by omega)⟩, ⟨_, rfl, (fb.mul (c3 _ hq3)).mono (by omega)⟩⟩)⟩)))))))))))) (fun h2 => (ws_nil ?_)))⟩)⟩⟩)))))) (fun h1 => (ite_f (ws_nil ?_))))⟩)⟩)))))
  · refine (ws_if (et_lt (ev_var 3 rfl (.inl rfl) rfl ⟨_, rfl, (ev_int ⟨_, rfl, (ite_dec (fun h1 => (ws_ret (ev_callf (f76 M) rfl (ea_cons (ev_var 2 rfl (.inl rfl) rfl (ea_cons (ev_call (f100 M) rfl (ea_cons (ev_var 0 rfl (.inl rfl) rfl (ea_nil ⟨(), rfl, trivial, fun | _, ⟨q2, rfl, hq2⟩ => (ea_nil ⟨(_, _), rfl, ⟨_, _, fb, hq2.2, by omega, .inl (by omega)⟩, ⟨_, rfl, (fb.add hq2.2).mono (by omega)⟩⟩)⟩)))))))))) (fun h1 => (ws_nil (ws_if (et_eq (ev_var 3 rfl (.inl rfl) rfl ⟨_, rfl, (ev_int ⟨_, rfl, (ite_dec (fun h3 => (ws_ret (ev_call (f100 M) rfl (ea_cons (ev_var 0 rfl (.inl rfl) rfl (ea_nil ⟨(), rfl, trivial, fun | _, ⟨q4, rfl, hq4⟩ => ⟨_, rfl, hq4.2.mono (by omega)⟩⟩)))))) (fun h3 => (ws_nil (ws_ret (ev_callf (f78 M) rfl (ea_cons (ev_call (f96 M) rfl (ea_cons (ev_var 1 rfl (.inl rfl) rfl (ea_nil ⟨_, rfl, hc, fun | _, ⟨q5, rfl, hq5⟩ => (ea_cons (ev_call (f73q M) rfl (ea_cons (ev_var 0 rfl (.inl rfl) rfl (ea_cons (ev_pairs [(1 : Rat), fq1_2, fq1_3, fq1_5, fq1_10, fq2_1] (.cons rfl rfl (.cons rfl rfl (.cons rfl rfl (.cons rfl rfl (.cons rfl rfl (.cons rfl rfl .nil)))))) (ea_nil ⟨qs6, rfl, ⟨by decide, by decide⟩, fun | _, ⟨q6, rfl, hq6⟩ => (ea_nil ⟨(_, _), rfl, ⟨_, _, hq5, c6 _ hq6, by omega, .inl (by omega)⟩, ⟨_, rfl, (hq5.mul (c6 _ hq6)).mono (by omega)⟩⟩)⟩)))))))⟩))))))))))⟩)⟩))))))⟩)⟩)))
  · refine (ws_if (et_lt (ev_var 3 rfl (.inl rfl) rfl ⟨_, rfl, (ev_int ⟨_, rfl, (ite_dec (fun h1 => (ws_ret (ev_callf (f76 M) rfl (ea_cons (ev_var 2 rfl (.inl rfl) rfl (ea_cons (ev_call (f100 M) rfl (ea_cons (ev_var 0 rfl (.inl rfl) rfl (ea_nil ⟨(), rfl, trivial, fun | _, ⟨q2, rfl, hq2⟩ => (ea_nil ⟨(_, _), rfl, ⟨_, _, fb, hq2.2, by omega, .inl (by omega)⟩, ⟨_, rfl, (fb.add hq2.2).mono (by omega)⟩⟩)⟩)))))))))) (fun h1 => (ws_nil (ws_if (et_eq (ev_var 3 rfl (.inl rfl) rfl ⟨_, rfl, (ev_int ⟨_, rfl, (ite_dec (fun h3 => (ws_ret (ev_call (f100 M) rfl (ea_cons (ev_var 0 rfl (.inl rfl) rfl (ea_nil ⟨(), rfl, trivial, fun | _, ⟨q4, rfl, hq4⟩ => ⟨_, rfl, hq4.2.mono (by omega)⟩⟩)))))) (fun h3 => (ws_nil (ws_ret (ev_callf (f78 M) rfl (ea_cons (ev_call (f96 M) rfl (ea_cons (ev_var 1 rfl (.inl rfl) rfl (ea_nil ⟨_, rfl, hc, fun | _, ⟨q5, rfl, hq5⟩ => (ea_cons (ev_call (f73q M) rfl (ea_cons (ev_var 0 rfl (.inl rfl) rfl (ea_cons (ev_pairs [(1 : Rat), fq1_2, fq1_3, fq1_5, fq1_10, fq2_1] (.cons rfl rfl (.cons rfl rfl (.cons rfl rfl (.cons rfl rfl (.cons rfl rfl (.cons rfl rfl .nil)))))) (ea_nil ⟨qs6, rfl, ⟨by decide, by decide⟩, fun | _, ⟨q6, rfl, hq6⟩ => (ea_nil ⟨(_, _), rfl, ⟨_, _, hq5, c6 _ hq6, by omega, .inl (by omega)⟩, ⟨_, rfl, (hq5.mul (c6 _ hq6)).mono (by omega)⟩⟩)⟩)))))))⟩))))))))))⟩)⟩))))))⟩)⟩)))
end
end K39
end
section
set_option Elab.async false
set_option linter.all false
set_option exponentiation.threshold 10000
set_option maxRecDepth 100000
set_option maxHeartbeats 4000000
namespace K39
open PySem PySem.Spec PyProof.Rows L2
def slowA (n : Nat) : Rat := ⟨(n : Int) + 11, n + 10, by omega, by
  have := cop1 (a := (n : Int) + 11) (n := n + 10) (by omega)
  exact this⟩
abbrev slowC (n : Nat) (d : Int) (q : Rat) : Col := ⟨slowA n, [(((1 + d : Int) : Rat), fq1_2, q)], fq9_10, fq1_10⟩
theorem slow_ok {n : Nat} {d : Int} {q : Rat} (hn : n < 12) (hd : 0 ≤ d ∧ d < 3) (hq : q ∈ [(0 : Rat), 1]) : Cok (slowC n d q) := by
  have hq2 : Bz 3 q ∧ 0 ≤ q ∧ q ≤ 1 := by
    rcases List.mem_cons.mp hq with h | h
    · subst h; exact ⟨⟨by decide, by decide⟩, by grind, by grind⟩
    · rw [List.mem_singleton.mp h]; exact ⟨⟨by decide, by decide⟩, by grind, by grind⟩
  have lt1 : (0 : Rat) < fq1_10 := (Rat.lt_iff _ _).mpr (by decide)
  have lt2 : fq1_10 < fq9_10 := (Rat.lt_iff _ _).mpr (by decide)
  have lt3 : fq9_10 < 1 := (Rat.lt_iff _ _).mpr (by decide)
  have lt4 : fq1_10 < fq1_2 := (Rat.lt_iff _ _).mpr (by decide)
  have lt5 : fq1_2 < fq9_10 := (Rat.lt_iff _ _).mpr (by decide)
  have bt : Bz 10 fq9_10 := ⟨by decide, by decide⟩
  have bf : Bz 28 fq1_10 := ⟨by decide, by decide⟩
  have bs : Bz 15 fq1_2 := ⟨by decide, by decide⟩
  have b1 : Bz 4 ((1 + d : Int) : Rat) := ⟨by show (1 + d).natAbs < 16; omega, by show 1 < 16; decide⟩
  have p1 : (0 : Rat) < ((1 + d : Int) : Rat) := Rat.intCast_pos.mpr (by omega)
  refine ⟨⟨by show 1 ≤ 3; omega, fun f hf => ?_⟩, by simp, ?_, ⟨by show ((n : Int) + 11).natAbs < 64; omega, by show n + 10 < 64; omega⟩, bt, bf, lt1, lt2, lt3, fun f hf => ?_⟩
  · rw [List.mem_singleton.mp hf]
    exact ⟨b1, bs, hq2.1⟩
  · refine (Rat.lt_iff _ _).mpr ?_
    show 1 * ((n + 10 : Nat) : Int) < ((n : Int) + 11) * 1
    omega
  · rw [List.mem_singleton.mp hf]
    exact ⟨p1, lt4, lt5, hq2.2⟩
theorem slow_eq (n : Nat) : [Sv.int (10 + (n : Int) + 1), Sv.int (10 + (n : Int))] = [Sv.int (slowA n).num, Sv.int ((slowA n).den : Int)] := by
  have h1 : 10 + (n : Int) + 1 = (slowA n).num := by show _ = (n : Int) + 11; omega
  have h2 : 10 + (n : Int) = ((slowA n).den : Int) := by show _ = ((n + 10 : Nat) : Int); omega
  rw [← h1, ← h2]
section
variable {P : Program} {w : World} {K : PySem.W.Frag} {mg : Str → Option Value} {base : Heap}
theorem sg98 : Sig d98 "_law_slow" ["_law_spring_here", "_law_steps", "_law_lots"] ["_law_spring_here"] := ⟨memN 77, rfl, memF 77, rfl, rfl, ⟨rfl, rfl, rfl, by decide +kernel, rfl, by decide +kernel, by decide +kernel⟩, fun _ _ _ _ _ _ us hl => match us, hl with | [_], _ => rfl⟩
theorem f98 (M : Md K mg) : Fn P w K mg base "_law_slow" 3 ["_law_spring_here"] (Pm K (fun _ : Unit => [.spr]) (fun _ => True) (fun _ r => ∃ c r', r = .tup [c.sv, r'] ∧ Cok c)) := by
  refine mk M sg98 (fun _ => rfl) (fun z hz => noO1 rfl) fun s _ _ => ?_
  refine (ws_set 1 rfl (.inl rfl) (ev_add (ev_int ⟨_, rfl, (ev_call (f72 M) rfl (ea_cons (ev_var 0 rfl (.inl rfl) rfl (ea_cons (ev_int (ea_nil ⟨_, rfl, ⟨by decide, by decide⟩, fun | _, ⟨d1, rfl, hd1⟩ => ⟨_, rfl, ⟨.inl rfl, ?_⟩⟩⟩))))))⟩)))
  obtain ⟨n, rfl⟩ : ∃ n : Nat, d1 = n := ⟨d1.toNat, by omega⟩
  refine (ws_set 2 rfl (.inl rfl) (ev_tup (ea_cons (ev_tup (ea_cons (ev_tupq (ea_cons (ev_add (ev_int ⟨_, rfl, (ev_call (f72 M) rfl (ea_cons (ev_var 0 rfl (.inl rfl) rfl (ea_cons (ev_int (ea_nil ⟨_, rfl, ⟨by decide, by decide⟩, fun | _, ⟨d1, rfl, hd1⟩ => ⟨_, rfl, (ea_cons (ev_int (ea_nil ⟨((1 + d1 : Int) : Rat), rfl, (ea_cons (ev_tupq (ea_cons (ev_int (ea_cons (ev_int (ea_nil ⟨fq1_2, rfl, (ea_cons (ev_call (f73q M) rfl (ea_cons (ev_var 0 rfl (.inl rfl) rfl (ea_cons (ev_pairs [(0 : Rat), (1 : Rat)] (.cons rfl rfl (.cons rfl rfl .nil)) (ea_nil ⟨_, rfl, ⟨by decide, by decide⟩, fun | _, ⟨q2, rfl, hq2⟩ => (ea_nil ⟨by simp [sizeLine_eq], (ea_nil ⟨by simp [sizeLine_eq], ⟨.inl rfl, ?_⟩⟩)⟩)⟩)))))))⟩)))))))⟩)))⟩⟩))))))⟩)))))))))
  rename_i hd2
  exact (ws_ret (ev_tup (ea_cons (ev_tup (ea_cons (ev_tupq (ea_cons (ev_add (ev_var 1 rfl (.inl rfl) rfl ⟨_, rfl, (ev_int ⟨_, rfl, (ea_cons (ev_var 1 rfl (.inl rfl) rfl (ea_nil ⟨slowA n, slow_eq n, (ea_cons (ev_var 2 rfl (.inl rfl) rfl (ea_cons (ev_tupq (ea_cons (ev_int (ea_cons (ev_int (ea_nil ⟨fq9_10, rfl, (ea_cons (ev_tupq (ea_cons (ev_int (ea_cons (ev_int (ea_nil ⟨fq1_10, rfl, (ea_nil ⟨by simp [sizeLine_eq], (ea_cons (ev_tupq (ea_cons (ev_mul (ev_int ⟨_, rfl, (ev_var 1 rfl (.inl rfl) rfl ⟨_, rfl, cmul_of (m := 5) (n := 5) (by omega) (by omega) (by omega), (ea_cons (ev_int (ea_nil ⟨((20 * (10 + (n : Int)) : Int) : Rat), rfl, (ea_nil ⟨by simp [sizeLine_eq], ⟨slowC _ _ _, _, rfl, slow_ok (by omega) ‹_› ‹_›⟩⟩)⟩)))⟩)⟩)))))⟩)⟩)))))))⟩)))))))))⟩)))⟩)⟩)))))))))
end
end K39
end
section
set_option Elab.async false
set_option linter.all false
set_option exponentiation.threshold 10000
set_option maxRecDepth 100000
set_option maxHeartbeats 4000000
namespace K39
open PySem PySem.Spec PyProof.Rows L2
theorem vol_ok {a b : Int} (ha : 1 ≤ a ∧ a ≤ 9) (hb : 1 ≤ b ∧ b ≤ 3) : Gk a b ∧ 0 < Rat.divInt a b ∧ (Rat.divInt a b).num ≤ 9 ∧ (Rat.divInt a b).den ≤ 3 := by
  have f := fr_ok (a := a) (b := b) (n := 4) (by omega) (by omega) (by omega) (by omega) (by omega)
  refine ⟨f.2.2, f.1, ?_, ?_⟩
  · rw [← fnum (by omega)]
    exact Int.le_trans (Int.ediv_le_self _ (by omega)) ha.2
  · rw [Rat.den_divInt, if_neg (by omega)]
    exact Nat.le_trans (Nat.div_le_self _ _) (by omega)
theorem up1_eq (v : Rat) : [Sv.int (v.num + (v.den : Int)), Sv.int (v.den : Int)] = [Sv.int (up1 v).num, Sv.int ((up1 v).den : Int)] := rfl
theorem snoc_fd (L : List Fd) (f : Fd) : L.map fdS ++ [fdS f] = (L ++ [f]).map fdS := by rw [List.map_append]; rfl
abbrev lqs : List Rat := [(0 : Rat), fq1_4, fq1_2, fq2_3, (1 : Rat), (1 : Rat)]
theorem lqs_ok : ∀ q ∈ lqs, Bz 3 q ∧ 0 ≤ q ∧ q ≤ 1 := fun q hq => by
  have h : lqs.all (fun q => decide (q.num.natAbs < 8) && (decide (q.den < 8) && (decide (0 ≤ q.num) && decide (q.num ≤ (q.den : Int))))) = true := by decide
  have := List.all_eq_true.mp h q hq
  simp only [Bool.and_eq_true, decide_eq_true_eq] at this
  refine ⟨⟨this.1, this.2.1⟩, Rat.num_nonneg.mp this.2.2.1, ?_⟩
  refine (Rat.le_iff _ _).mpr ?_
  have := this.2.2.2
  show q.num * 1 ≤ 1 * (q.den : Int)
  omega
/-- a feed of a wish -/
structure Wfd (foot top : Rat) (f : Fd) : Prop where
  ok : Fok f
  fe : 0 < f.1 ∧ foot < f.2.1 ∧ f.2.1 < top ∧ 0 ≤ f.2.2 ∧ f.2.2 ≤ 1
theorem wish_ok {v f t : Rat} {L : List Fd} (hv0 : 0 < v) (hvn : v.num ≤ 9) (hvd : v.den ≤ 3) (hf : Tn f) (ht : Tn t) (hl : 1 ≤ L.length ∧ L.length ≤ 3) (hL : ∀ z ∈ L, Wfd f (f + (1 - f) * t) z) : Wsh ⟨up1 v, L, f + (1 - f) * t, f⟩ := by
  obtain ⟨m1, m2, m3⟩ := mk_top hf ht
  have vn := num_pos.mpr hv0
  have ftop : (0 : Rat) < f + (1 - f) * t := by have := hf.1; grind
  refine ⟨⟨⟨hl.2, fun z hz => (hL z hz).ok⟩, ?_, up1_gt hv0, ⟨?_, ?_⟩, bz01 ftop m2 m3 (by decide), hf.bz.mono (by omega), hf.1, m1, m2, fun z hz => (hL z hz).fe⟩, ?_, m3⟩
  · intro e
    have e : L = [] := e
    rw [e] at hl
    exact absurd hl.1 (by decide)
  · show (v.num + v.den).natAbs < 64
    omega
  · show v.den < 64
    omega
  · show v.num + v.den ≤ 12
    omega
section
variable {P : Program} {w : World} {K : PySem.W.Frag} {mg : Str → Option Value} {base : Heap}
theorem sg88 : Sig d88 "_law_wish" ["_law_spring_here", "_law_count_here", "_law_wide", "_law_thin", "_law_volat", "_law_foot", "_law_top2", "_law_found", "_law_turn", "_law_size_here", "_law_rich"] ["_law_spring_here", "_law_count_here"] := ⟨memN 67, rfl, memF 67, rfl, rfl, ⟨rfl, rfl, rfl, by decide +kernel, rfl, by decide +kernel, by decide +kernel⟩, fun _ _ _ _ _ _ us hl => match us, hl with | [_, _], _ => rfl⟩
theorem f88 (M : Md K mg) : Fn P w K mg base "_law_wish" 4 ["_law_spring_here", "_law_count_here"] (Pm K (fun n : Nat => [.spr, .int (n : Int)]) (fun n => 1 ≤ n ∧ n ≤ 3) (fun _ r => ∃ c, r = Col.sv c ∧ Wsh c)) := by
  refine mk M sg88 (fun _ => rfl) (fun z hz => noO2 rfl rfl) fun s n hn => ?_
  refine (ws_par2 2 3 rfl rfl (by decide) rfl rfl (fr_cons (ev_call (f73i M) rfl (ea_cons (ev_var 0 rfl (.inl rfl) rfl (ea_cons (ev_ints [2, 3, 5, 9] (.cons (.cons (.cons (.cons .nil)))) (ea_nil ⟨_, rfl, ⟨by decide, by decide⟩, fun | _, ⟨n1, rfl, hn1⟩ => ⟨rfl, (fr_cons (ev_call (f73i M) rfl (ea_cons (ev_var 0 rfl (.inl rfl) rfl (ea_cons (ev_ints [1, 1, 2, 3] (.cons (.cons (.cons (.cons .nil)))) (ea_nil ⟨_, rfl, ⟨by decide, by decide⟩, fun | _, ⟨n2, rfl, hn2⟩ => ⟨rfl, (fr_nil ⟨rfl, ?_⟩)⟩⟩)))))))⟩⟩))))))) (fun env hk hn => by unfold swappedStores Env.blockKind Env.kindOf; rw [hk, hn]; rfl))
  have r1 : 2 ≤ n1 ∧ n1 ≤ 9 := by simp at hn1; omega
  have r2 : 1 ≤ n2 ∧ n2 ≤ 3 := by simp at hn2; omega
  clear hn1 hn2
  refine (ws_set 4 rfl (.inl rfl) (ev_callf (f75 M) rfl (ea_cons (ev_add (ev_int ⟨_, rfl, (ev_call (f72 M) rfl (ea_cons (ev_var 0 rfl (.inl rfl) rfl (ea_cons (ev_var 2 rfl (.inl rfl) rfl (ea_nil ⟨_, rfl, by omega, fun | _, ⟨d1, rfl, hd1⟩ => ⟨_, rfl, (ea_cons (ev_add (ev_int ⟨_, rfl, (ev_call (f72 M) rfl (ea_cons (ev_var 0 rfl (.inl rfl) rfl (ea_cons (ev_var 3 rfl (.inl rfl) rfl (ea_nil ⟨_, rfl, by omega, fun | _, ⟨d2, rfl, hd2⟩ => ⟨_, rfl, (ea_nil ⟨(_, _), rfl, (vol_ok (by omega) (by omega)).1, ⟨.inl rfl, ?_⟩⟩)⟩⟩))))))⟩)))⟩⟩))))))⟩)))))
  obtain ⟨_, v0, vn, vd⟩ := vol_ok (a := 1 + d1) (b := 1 + d2) (by omega) (by omega)
  revert v0 vn vd
  generalize Rat.divInt (1 + d1) (1 + d2) = v
  intro v0 vn vd
  refine (ws_set 5 rfl (.inl rfl) (ev_call (f101 M) rfl (ea_cons (ev_var 0 rfl (.inl rfl) rfl (ea_nil ⟨(), rfl, trivial, fun | _, ⟨q1, rfl, hq1⟩ => ⟨.inl rfl, ?_⟩⟩)))))
  revert hq1
  revert q1
  intro f hf
  have hf : Tn f := hf
  have bfo := hf.bz
  have s1 : Sa 1 f := ⟨_, _, bz1, bfo, by omega, .inl (by omega)⟩
  have b1f := bz1.sub bfo
  refine (ws_set 6 rfl (.inl rfl) (ev_callf (f76 M) rfl (ea_cons (ev_var 5 rfl (.inl rfl) rfl (ea_cons (ev_callf (f78 M) rfl (ea_cons (ev_callf (f77 M) rfl (ea_cons (ev_tupq (ea_cons (ev_int (ea_cons (ev_int (ea_nil ⟨(1 : Rat), rfl, (ea_cons (ev_var 5 rfl (.inl rfl) rfl (ea_nil ⟨(_, _), rfl, s1, (ea_cons (ev_call (f101 M) rfl (ea_cons (ev_var 0 rfl (.inl rfl) rfl (ea_nil ⟨(), rfl, trivial, fun | _, ⟨q1, rfl, hq1⟩ => (ea_nil ⟨(_, _), rfl, ⟨_, _, b1f, Tn.bz hq1, by omega, .inl (by omega)⟩, (ea_nil ⟨(_, _), rfl, ⟨_, _, bfo, b1f.mul (Tn.bz hq1), by omega, .inl (by omega)⟩, ⟨.inl rfl, ?_⟩⟩)⟩)⟩)))))⟩)))⟩)))))))))))))))
  revert hq1
  revert q1
  intro t ht
  have ht : Tn t := ht
  have btop := bfo.add (b1f.mul ht.bz)
  refine (ws_new 7 rfl (.inl rfl) ?_)
  refine ws_forR1 8 rfl (M.fr _ (memF 106)) rfl (.inl rfl) (ev_var 1 rfl (.inl rfl) rfl ?_)
  refine ⟨n, rfl, by omega, fun i ρ' => ∃ (L : List Fd) (y1 y2 y3 : Option Sv), ρ' = [some .spr, some (.int (n : Int)), some (.int n1), some (.int n2), some (.q v), some (.q f), some (.q (f + (1 - f) * t)), some (.own (L.map fdS)), y1, y2, y3] ∧ L.length = i ∧ (∀ z ∈ L, Wfd f (f + (1 - f) * t) z) ∧ [y1, y2, y3].all okO = true, ⟨[], none, none, none, rfl, rfl, (fun z hz => nomatch hz), rfl⟩, fun i ρ' hi ⟨L, y1, y2, y3, hρ, hL, hW, hy⟩ => ?_, fun ρ' ⟨L, y1, y2, y3, hρ, hL, hW, hy⟩ => ?_⟩
  · subst hρ
    have btf := btop.sub bfo
    have q2 : Sa (f + (1 - f) * t) f := ⟨_, _, btop, bfo, by omega, .inl (by omega)⟩
    refine (ws_set 9 rfl (.inl rfl) (ev_call (f100 M) rfl (ea_cons (ev_var 0 rfl (.inl rfl) rfl (ea_nil ⟨(), rfl, trivial, fun | _, ⟨q1, rfl, hq1⟩ => ⟨.inl rfl, ?_⟩⟩)))))
    revert hq1
    revert q1
    intro am ha
    refine (ws_set 10 rfl (.inl rfl) (ev_callf (f76 M) rfl (ea_cons (ev_var 5 rfl (.inl rfl) rfl (ea_cons (ev_callf (f78 M) rfl (ea_cons (ev_callf (f77 M) rfl (ea_cons (ev_var 6 rfl (.inl rfl) rfl (ea_cons (ev_var 5 rfl (.inl rfl) rfl (ea_nil ⟨(_, _), rfl, q2, (ea_cons (ev_call (f101 M) rfl (ea_cons (ev_var 0 rfl (.inl rfl) rfl (ea_nil ⟨(), rfl, trivial, fun | _, ⟨q1, rfl, hq1⟩ => (ea_nil ⟨(_, _), rfl, ⟨_, _, btf, Tn.bz hq1, by omega, .inl (by omega)⟩, (ea_nil ⟨(_, _), rfl, ⟨_, _, bfo, btf.mul (Tn.bz hq1), by omega, .inl (by omega)⟩, ⟨.inl rfl, ?_⟩⟩)⟩)⟩)))))⟩)))))))))))))
    revert hq1
    revert q1
    intro u hu
    obtain ⟨g1, g2, g3⟩ := mk_rich hf ht hu
    refine (ws_app 7 rfl (.inl rfl) rfl (flat_fds _) (by simp; omega) (ev_tup (ea_cons (ev_var 9 rfl (.inl rfl) rfl (ea_cons (ev_var 10 rfl (.inl rfl) rfl (ea_cons (ev_call (f73q M) rfl (ea_cons (ev_var 0 rfl (.inl rfl) rfl (ea_cons (ev_pairs [(0 : Rat), fq1_4, fq1_2, fq2_3, (1 : Rat), (1 : Rat)] (.cons rfl rfl (.cons rfl rfl (.cons rfl rfl (.cons rfl rfl (.cons rfl rfl (.cons rfl rfl .nil)))))) (ea_nil ⟨_, rfl, ⟨by decide, by decide⟩, fun | _, ⟨q1, rfl, hq1⟩ => (ea_nil ⟨by simp [sizeLine_eq], ⟨rfl, rfl, ?_⟩⟩)⟩)))))))))))) (hfr_of (by simp [okO_s, okO_n, Sv.fl, Sv.flat, Sv.flatL, flat_fds, -List.map_map])))
    have lq := lqs_ok _ hq1
    refine ws_nil ⟨L ++ [(am, f + (f + (1 - f) * t - f) * u, q1)], some (.int (i : Int)), some (.q am), some (.q (f + (f + (1 - f) * t - f) * u)), by rw [← snoc_fd]; rfl, by rw [List.length_append, hL]; rfl, fun z hz => ?_, ?_⟩
    · rcases List.mem_append.mp hz with hz | hz
      · exact hW z hz
      · rw [List.mem_singleton.mp hz]
        obtain ⟨m1, m2, m3⟩ := mk_top hf ht
        have := hf.1
        exact ⟨⟨ha.2, (bz01 (by show 0 < _; grind) (by grind) g3 (by decide)), lq.1⟩, ha.1, g1, g2, lq.2⟩
    · rfl
  · subst hρ
    have hfin := wish_ok v0 vn vd hf ht (L := L) (by omega) hW
    exact (ws_ret (ev_tup (ea_cons (ev_tupq (ea_cons (ev_add (ev_ix (fun _ _ => rfl) (ev_var 4 rfl (.inl rfl) rfl (ev_int ⟨_, _, rfl, rfl, ⟨_, rfl, (ev_ix (fun _ _ => rfl) (ev_var 4 rfl (.inl rfl) rfl (ev_int ⟨_, _, rfl, rfl, ⟨_, rfl, (ea_cons (ev_ix (fun _ _ => rfl) (ev_var 4 rfl (.inl rfl) rfl (ev_int ⟨_, _, rfl, rfl, (ea_nil ⟨up1 v, up1_eq v, (ea_cons (ev_tuple rfl (M.fr _ (memF 103)) (ev_var 7 rfl (.inl rfl) rfl (.inl ⟨_, rfl, (ea_cons (ev_var 6 rfl (.inl rfl) rfl (ea_cons (ev_var 5 rfl (.inl rfl) rfl (ea_nil ⟨by simp [sizeLine_eq], ⟨_, rfl, hfin⟩⟩)))))⟩))))⟩)⟩))))⟩⟩)))⟩⟩)))))))))
end
end K39
end
section
set_option Elab.async false
set_option linter.all false
set_option exponentiation.threshold 10000
set_option maxRecDepth 100000
set_option maxHeartbeats 4000000
namespace K39
open PySem PySem.Spec PyProof.Rows L2
def tenp : Int := 10 ^ (40 : Int).toNat
theorem tenp_pos : 0 < tenp := by decide +kernel
theorem tenp_bz : tenp.natAbs < 2 ^ 133 := by decide +kernel
theorem floor_lt {a b e d : Int} (hb : 0 < b) (hd : 0 < d) (h : a / b < e / d) : a * d < e * b := by
  have h1 : a < (a / b + 1) * b := Int.lt_ediv_add_one_mul_self a hb
  have h2 : e / d * d ≤ e := Int.ediv_mul_le e (Int.ne_of_gt hd)
  have h3 : (a / b + 1) * b ≤ e / d * b := Int.mul_le_mul_of_nonneg_right (by omega) (Int.le_of_lt hb)
  have h4 : a * d < e / d * b * d := Int.mul_lt_mul_of_pos_right (Int.lt_of_lt_of_le h1 h3) hd
  have h5 : e / d * d * b ≤ e * b := Int.mul_le_mul_of_nonneg_right h2 (Int.le_of_lt hb)
  rw [show e / d * b * d = e / d * d * b from by rw [Int.mul_assoc, Int.mul_comm b d, ← Int.mul_assoc]] at h4
  omega
theorem below_of {x s : Rat} (h : x.num * tenp / (x.den : Int) < s.num * tenp / (s.den : Int)) : x < s := by
  have := floor_lt (den_pos x) (den_pos s) h
  refine (Rat.lt_iff _ _).mpr ?_
  refine Int.lt_of_mul_lt_mul_right (a := tenp) ?_ (Int.le_of_lt tenp_pos)
  rw [show x.num * (s.den : Int) * tenp = x.num * tenp * (s.den : Int) from by rw [Int.mul_assoc, Int.mul_comm (s.den : Int), ← Int.mul_assoc], show s.num * (x.den : Int) * tenp = s.num * tenp * (x.den : Int) from by rw [Int.mul_assoc, Int.mul_comm (x.den : Int), ← Int.mul_assoc]]
  exact this
theorem liq_den_le {a y : Rat} {k : Nat} (ha : 1 < a) (h0 : 0 ≤ y) (h1 : y ≤ 1) (hk : a.num ≤ k) : (liq a y).den ≤ k * y.den := by
  have hl := lden a y ha h0 h1
  rw [← qliq a y ha h0 h1, Rat.den_divInt, if_neg (by omega)]
  refine Nat.le_trans (Nat.div_le_self _ _) ?_
  have hy : 0 ≤ y.num := Rat.num_nonneg.mpr h0
  have han : (a.den : Int) < a.num := by have := (Rat.lt_iff 1 a).mp ha; simpa using this
  have p := Int.mul_nonneg (show 0 ≤ a.num - a.den by omega) hy
  have q : a.num * (y.den : Int) ≤ (k : Int) * (y.den : Int) := Int.mul_le_mul_of_nonneg_right hk (Int.natCast_nonneg _)
  have e : ((k * y.den : Nat) : Int) = (k : Int) * (y.den : Int) := by push_cast; rfl
  omega
theorem itl_den {c : Col} (h : Wsh c) : ∀ k, (itl c.a c.top k).den ≤ 12 ^ k * 1000
  | 0 => by show c.top.den ≤ 1 * 1000; have := h.td; omega
  | k + 1 => by
    obtain ⟨q1, q2⟩ := F_rng h.co k
    have := h.co.t1
    refine Nat.le_trans (liq_den_le (k := 12) h.co.a1 (by grind) (by grind) (by have := h.an; omega)) ?_
    have := Nat.mul_le_mul_left 12 (itl_den h k)
    rw [Nat.pow_succ]
    have e : 12 ^ k * 12 * 1000 = 12 * (12 ^ k * 1000) := by rw [Nat.mul_comm (12 ^ k) 12, Nat.mul_assoc]
    omega
theorem edged_ok {c : Col} (h : Wsh c) {k : Nat} (h1 : 1 ≤ k) (h5 : k ≤ 5) (hf : ∀ f ∈ c.fs, itl c.a c.top k < f.2.1) : Cok ⟨c.a, c.fs, c.top, itl c.a c.top k⟩ := by
  obtain ⟨q1, q2⟩ := F_rng h.co k
  have lt : itl c.a c.top k < c.top := F_anti h.co k 0 (by omega)
  have t1 := h.co.t1
  have hd := itl_den h k
  have hk : 12 ^ k ≤ 12 ^ 5 := Nat.pow_le_pow_right (by decide) h5
  refine ⟨h.co.fso, h.co.ne, h.co.a1, h.co.ba, h.co.btop, bz01 (N := 12 ^ 5 * 1000) q1 (by grind) (by show (itl c.a c.top k).den ≤ _; have := Nat.mul_le_mul_right 1000 hk; omega) (by decide), q1, lt, t1, fun f hfm => ?_⟩
  obtain ⟨z1, z2, z3, z4⟩ := h.co.feed f hfm
  exact ⟨z1, hf f hfm, z3, z4⟩
section
variable {P : Program} {w : World} {K : PySem.W.Frag} {mg : Str → Option Value} {base : Heap}
theorem sg108 : Sig d108 "_law_edged" ["_law_spring_here", "_law_wish_here", "_law_x", "_law_least_here", "_law_turn", "_law_each"] ["_law_spring_here", "_law_wish_here"] := ⟨memN 87, rfl, memF 87, rfl, rfl, ⟨rfl, rfl, rfl, by decide +kernel, rfl, by decide +kernel, by decide +kernel⟩, fun _ _ _ _ _ _ us hl => match us, hl with | [_, _], _ => rfl⟩
theorem f108 (M : Md K mg) : Fn P w K mg base "_law_edged" 4 ["_law_spring_here", "_law_wish_here"] (Pm K (fun c : Col => [.spr, c.sv]) Wsh (fun _ r => ∃ c', r = Col.sv c' ∧ Cok c')) := by
  refine mk M sg108 (fun _ => rfl) (fun z hz => noO2 rfl rfl) fun s c hw => ?_
  have hc := hw.co
  have hl := hc.fso.len
  have hne : 0 < c.fs.length := List.length_pos_iff.mpr hc.ne
  have t0 := top0 hc
  have t1 := hc.t1
  have z1 : ∀ f ∈ c.fs, CMulW f.2.1.num tenp := fun f hf => cmul_of (hc.fso.ok f hf).s.n tenp_bz (by omega)
  have z2 : ∀ f ∈ c.fs, CDivW (f.2.1.num * tenp) f.2.1.den := fun f hf => cdiv_of (den_pos _) (hc.fso.ok f hf).s.d (by omega)
  have zp : CPow 10 40 := ⟨by decide, by decide +kernel⟩
  refine (ws_par2 2 3 rfl rfl (by decide) rfl rfl (fr_cons (ev_ix (fun _ _ => rfl) (ev_var 1 rfl (.inl rfl) rfl (ev_int ⟨_, _, rfl, rfl, ⟨rfl, (fr_cons (ev_min rfl (M.fr _ (memF 109)) (ev_lcm (c.fs) (fdS) (fun f => .int (f.2.1.num * tenp / (f.2.1.den : Int))) (own := [("_law_each", 5)]) (is := [5]) (bt := false) rfl rfl (.name rfl (.inl rfl)) (ev_ix (fun _ _ => rfl) (ev_var 1 rfl (.inl rfl) rfl (ev_int ⟨_, _, rfl, rfl, ⟨rfl, (by omega), (fun _ _ => rfl), fun x1 hx1 => ⟨_, rfl, rfl, (ev_div (ev_mul (ev_ix (fun _ _ => rfl) (ev_ix (fun _ _ => rfl) (ev_var 5 rfl (.inl rfl) rfl (ev_int ⟨_, _, rfl, rfl, (ev_int ⟨_, _, rfl, rfl, ⟨_, rfl, (ev_pow (ev_int ⟨_, rfl, (ev_int ⟨_, rfl, zp, ⟨_, rfl, z1 _ hx1, ⟨_, rfl, (ev_ix (fun _ _ => rfl) (ev_ix (fun _ _ => rfl) (ev_var 5 rfl (.inl rfl) rfl (ev_int ⟨_, _, rfl, rfl, (ev_int ⟨_, _, rfl, rfl, ⟨_, rfl, z2 _ hx1, rfl⟩⟩)⟩))))⟩⟩⟩)⟩))⟩⟩)⟩))))))⟩, ⟨c.fs.map (fun f => f.2.1.num * tenp / (f.2.1.den : Int)), by rw [List.map_map]; rfl, by rw [List.length_map]; exact hne, fun m2 hm2 hl2 => ⟨rfl, (fr_nil ⟨rfl, ?_⟩)⟩⟩⟩⟩))))))⟩⟩)))) (fun env hk hn => by unfold swappedStores Env.blockKind Env.kindOf; rw [hk, hn]; rfl))
  have m2m : ∀ f ∈ c.fs, m2 ≤ f.2.1.num * tenp / (f.2.1.den : Int) := fun f hf => hl2 _ (List.mem_map.mpr ⟨f, hf, rfl⟩)
  clear hm2 hl2
  refine ws_forR1 4 rfl (M.fr _ (memF 106)) rfl (.inl rfl) (ev_add (ev_int ⟨_, rfl, (ev_call (f72 M) rfl (ea_cons (ev_var 0 rfl (.inl rfl) rfl (ea_cons (ev_int (ea_nil ⟨_, rfl, ⟨by decide, by decide⟩, fun | _, ⟨d1, rfl, hd1⟩ => ⟨_, rfl, ?_⟩⟩))))))⟩))
  obtain ⟨n, rfl⟩ : ∃ n : Nat, d1 = n := ⟨d1.toNat, by omega⟩
  refine ⟨1 + n, by push_cast; rfl, by omega, fun i ρ' => ∃ y, ρ' = [some .spr, some c.sv, some (.q (itl c.a c.top i)), some (.int m2), y, none], ⟨none, rfl⟩, fun i ρ' hi ⟨y, hρ⟩ => ?_, fun ρ' ⟨y, hρ⟩ => ?_⟩
  · subst hρ
    have r := itl_rng hc.a1 t0 (Rat.le_of_lt t1) i
    have b := itl_bz hc.a1 t0 (Rat.le_of_lt t1) hc.ba hc.btop i
    have p1 : Sx c.a (itl c.a c.top i) ∧ 0 ≤ itl c.a c.top i ∧ itl c.a c.top i ≤ 1 := ⟨⟨hc.a1, _, _, hc.ba, b, by omega, by omega⟩, Rat.le_of_lt r.1, r.2⟩
    refine (ws_set 2 rfl (.inl rfl) (ev_callf (f85 M) rfl (ea_cons (ev_ix (fun _ _ => rfl) (ev_var 1 rfl (.inl rfl) rfl (ev_int ⟨_, _, rfl, rfl, (ea_cons (ev_var 2 rfl (.inl rfl) rfl (ea_nil ⟨(_, _), rfl, p1, ⟨.inl rfl, ?_⟩⟩)))⟩))))))
    refine (ws_nil ?_)
    exact ⟨_, rfl⟩
  · subst hρ
    have b := itl_bz hc.a1 t0 (Rat.le_of_lt t1) hc.ba hc.btop (1 + n)
    have y1 : CMulW (itl c.a c.top (1 + n)).num tenp := cmul_of b.n tenp_bz (by omega)
    have y2 : CDivW ((itl c.a c.top (1 + n)).num * tenp) (itl c.a c.top (1 + n)).den := cdiv_of (den_pos _) b.d (by omega)
    refine (ws_ret (ev_if (et_lt (ev_div (ev_mul (ev_ix (fun _ _ => rfl) (ev_var 2 rfl (.inl rfl) rfl (ev_int ⟨_, _, rfl, rfl, ⟨_, rfl, (ev_pow (ev_int ⟨_, rfl, (ev_int ⟨_, rfl, zp, ⟨_, rfl, y1, ⟨_, rfl, (ev_ix (fun _ _ => rfl) (ev_var 2 rfl (.inl rfl) rfl (ev_int ⟨_, _, rfl, rfl, ⟨_, rfl, y2, ⟨_, rfl, (ev_var 3 rfl (.inl rfl) rfl ⟨_, rfl, (ite_dec (fun h1 => (ev_cat (ev_to (ev_var 1 rfl (.inl rfl) rfl ⟨_, rfl, rfl, (ev_int ⟨3, rfl, ⟨_, rfl, (ev_tup (ea_cons (ev_var 2 rfl (.inl rfl) rfl (ea_nil ⟨by simp [sizeLine_eq], ⟨_, rfl, by simp, ?_⟩⟩))))⟩⟩)⟩)))) (fun h1 => (ev_var 1 rfl (.inl rfl) rfl ⟨c, rfl, hc⟩)))⟩)⟩⟩⟩)))⟩⟩⟩)⟩))⟩⟩))))))))
    exact ⟨_, rfl, edged_ok hw (k := 1 + n) (by omega) (by omega) fun f hf => below_of (Int.lt_of_lt_of_le h1 (m2m f hf))⟩
end
end K39
end
section
set_option Elab.async false
set_option linter.all false
set_option exponentiation.threshold 10000
set_option maxRecDepth 100000
set_option maxHeartbeats 4000000
namespace K39
open PySem PySem.Spec PyProof.Rows L2
section
variable {S : Sc} {ρ : Ro} {Φ : Sv → Prop} {a b : Expr} {pos p2 : Pos}
/-- xs[:n], xs the script -/
theorem ev_toL (h : Ev S a ρ fun x => ∃ ns, x = .scr ns ∧ Ev S b ρ fun y => ∃ n : Nat, y = .int (n : Int) ∧ Φ (.lst ((ns.take n).map .int))) : Ev S (.Subscript a (.Slice none (some b) none p2) pos) ρ Φ := by
  intro X hX σ H hE Q k
  refine WE.of (pe_slice sl_list pe_W po_none (po_some pe_W)) (h X hX σ H hE _ fun v H1 r g1 s1 ⟨ns, e2, h2⟩ => ?_)
  subst e2
  refine h2 X hX σ H1 (hE.mono g1.n) _ fun v2 H2 r2 g2 s2 ⟨n, e3, h3⟩ => ?_
  subst e3
  cases s2
  refine ⟨_, rfl, ?_⟩
  have s3 := s1.mono g2.n
  cases s3 with
  | @scr u _ hq _ =>
    have e5 : cutV (ns.map V.int) none (some (n : Int)) = (ns.take n).map V.int := by
      unfold cutV
      rw [sIx_some, HT.sIx_none, List.map_take]
      simp only [List.drop_zero, Nat.sub_zero]
      by_cases hn : n ≤ (ns.map V.int).length
      · rw [Nat.min_eq_left hn]
      · rw [Nat.min_eq_right (by omega), List.take_of_length_le (Nat.le_refl _), List.take_of_length_le (by omega)]
    refine ⟨u, _, rfl, by rw [hX.K]; exact hq, fun q hq2 => ?_⟩
    rw [e5]
    have g3 := Gr.new (s := S.s) (o := .lst ((ns.take n).map V.int)) hq2
    exact k _ _ _ ((g1.trans g2).trans g3) (.lst upd_same ((hE.mono (g1.trans g2).n).new hq2) (SatL.of_ints _)) h3
/-- xs + ys of lists -/
theorem ev_catL (h : Ev S a ρ fun x => ∃ l, x = .lst l ∧ Ev S b ρ fun y => ∃ m, y = .lst m ∧ l.length + m.length ≤ 1000 ∧ Φ (.lst (l ++ m))) : Ev S (.BinOp a .Add b pos) ρ Φ := by
  intro X hX σ H hE Q k
  refine WE.of (pe_op op_cat pe_W pe_W) (h X hX σ H hE _ fun v H1 r g1 s1 ⟨l, e1, h2⟩ => ?_)
  subst e1
  refine h2 X hX σ H1 (hE.mono g1.n) _ fun v2 H2 r2 g2 s2 ⟨m, e2, hz, h3⟩ => ?_
  subst e2
  have s3 := s1.mono g2.n
  cases s3 with
  | @lst u vs _ hu n1 hl =>
    cases s2 with
    | @lst u2 vs2 _ hu2 n2 hl2 =>
      refine ⟨u, u2, vs, vs2, rfl, rfl, hu, hu2, by rw [hl.length, hl2.length, sizeLine_eq]; omega, fun q hq => ?_⟩
      have g3 := Gr.new (s := S.s) (o := .lst (vs ++ vs2)) hq
      exact k _ _ _ ((g1.trans g2).trans g3) (.lst upd_same ((hE.mono (g1.trans g2).n).new hq) ((hl.app hl2).mono g3.n)) h3
end
theorem item_scr {ns : List Int} {t : Nat} (h : (t : Int) < ((ns.map Sv.int).length : Int)) : (Sv.scr ns).item (t : Int) = some (.int (ns.getD t 0)) := by
  rw [List.length_map] at h
  show atI (ns.map Sv.int) t = _
  unfold L2.atI ixN
  have h2 : t < ns.length := by omega
  rw [if_pos (by omega), if_pos (by simpa using h)]
  show (ns.map Sv.int)[((t : Int)).toNat]? = _
  rw [Int.toNat_natCast, List.getElem?_map, List.getElem?_eq_getElem h2, List.getD_eq_getElem?_getD, List.getElem?_eq_getElem h2]
  rfl
section
variable {P : Program} {w : World} {K : PySem.W.Frag} {mg : Str → Option Value} {base : Heap}
theorem sg71 : Sig d71 "_law_spring" ["_law_script", "_law_turn", "_law_own", "_law_mixed", "_law_each"] ["_law_script", "_law_turn"] := ⟨memN 50, rfl, memF 50, rfl, rfl, ⟨rfl, rfl, rfl, by decide +kernel, rfl, by decide +kernel, by decide +kernel⟩, fun _ _ _ _ _ _ us hl => match us, hl with | [_, _], _ => rfl⟩
theorem f71 (M : Md K mg) : Fn P w K mg base "_law_spring" 1 ["_law_script", "_law_turn"] (Pm K (α := List Int × Nat) (fun | (ns, t) => [.scr ns, .int (t : Int)]) (fun | (ns, t) => ns.length ≤ 63 ∧ t < 2) (fun | (ns, t) => fun r => ∃ x y z : Int, r = .lst [.int x, .int y, .int z] ∧ 0 ≤ y ∧ y < 2147483648)) := by
  refine mk M sg71 (fun _ => rfl) (fun z hz => noO2 rfl rfl) fun s ⟨ns, t⟩ ⟨hl, ht⟩ => ?_
  refine ws_set 2 rfl (.inl rfl) (Ev.imp (Φ := fun r => ∃ o, r = .int o) ?_ fun r ⟨o, ho⟩ => ?_)
  · refine (ev_if (et_lt (ev_var 1 rfl (.inl rfl) rfl ⟨_, rfl, (ev_len rfl (M.fr _ (memF 104)) (ev_var 0 rfl (.inl rfl) rfl ⟨_, rfl, ⟨_, rfl, (ite_dec (fun h1 => (ev_toint rfl (M.fr _ (memF 101)) (ev_ix (fun _ _ => rfl) (ev_var 0 rfl (.inl rfl) rfl (ev_var 1 rfl (.inl rfl) rfl ⟨_, _, rfl, item_scr h1, ⟨_, rfl, ⟨_, rfl⟩⟩⟩))))) (fun h1 => (ev_add (ev_add (ev_mulS (ev_int ⟨_, rfl, (ev_var 1 rfl (.inl rfl) rfl ⟨_, rfl, .inl ⟨by decide, by decide⟩, ⟨_, rfl, (ev_int ⟨_, rfl, ⟨_, rfl, (ev_mod (ev_toint rfl (M.fr _ (memF 101)) (ev_sum rfl (M.fr _ (memF 108)) (ev_toL (ev_var 0 rfl (.inl rfl) rfl ⟨_, rfl, (ev_int ⟨4, rfl, ⟨_, rfl, ⟨_, rfl, ⟨_, rfl, (ev_int ⟨_, rfl, by decide, ⟨_, rfl, ⟨_, rfl⟩⟩⟩)⟩⟩⟩⟩)⟩)))))⟩⟩)⟩⟩)⟩))))))⟩⟩))⟩)))
  subst ho
  refine ⟨.inl rfl, ?_⟩
  refine (ws_set 3 rfl (.inl rfl) (ev_add (ev_int ⟨_, rfl, (ev_mulS (ev_int ⟨_, rfl, (ev_var 1 rfl (.inl rfl) rfl ⟨_, rfl, .inl ⟨by decide, by decide⟩, ⟨_, rfl, ⟨.inl rfl, ?_⟩⟩⟩)⟩))⟩)))
  refine ws_forL (is := [4]) (bt := false) (.name rfl (.inl rfl)) (noOwn_of rfl) (ev_catL (ev_toL (ev_var 0 rfl (.inl rfl) rfl ⟨_, rfl, (ev_int ⟨5, rfl, ⟨_, rfl, (ev_lst (ea_cons (ev_var 2 rfl (.inl rfl) rfl (ea_nil ⟨by simp [sizeLine_eq], ⟨_, rfl, by simp; omega, ⟨_, rfl, ?_⟩⟩⟩))))⟩⟩)⟩)))
  refine ⟨fun i ρ' => ∃ m y, ρ' = [some (.scr ns), some (.int (t : Int)), some (.int o), some (.int m), y] ∧ 0 ≤ m ∧ m < 2147483648, ⟨_, none, rfl, by omega, by omega⟩, fun i z ρ' hz ⟨m, y, hρ, m0, m1⟩ => ?_, fun ρ' ⟨m, y, hρ, m0, m1⟩ => ?_⟩
  · subst hρ
    obtain ⟨e, rfl⟩ : ∃ e, z = .int e := by
      rcases List.mem_append.mp (List.mem_of_getElem? hz) with h | h
      · obtain ⟨e, _, rfl⟩ := List.mem_map.mp h
        exact ⟨e, rfl⟩
      · rw [List.mem_singleton.mp h]
        exact ⟨o, rfl⟩
    refine ⟨_, rfl, rfl, by simp [Sv.isL], ?_⟩
    refine (ws_set 3 rfl (.inl rfl) (ev_mod (ev_toint rfl (M.fr _ (memF 101)) (ev_add (ev_add (ev_mulS (ev_var 3 rfl (.inl rfl) rfl ⟨_, rfl, (ev_int ⟨_, rfl, .inr ⟨by decide, by decide⟩, ⟨_, rfl, (ev_mod (ev_toint rfl (M.fr _ (memF 101)) (ev_var 4 rfl (.inl rfl) rfl ⟨_, rfl, ⟨_, rfl, (ev_int ⟨_, rfl, by decide, ⟨_, rfl, ⟨_, rfl, (ev_int ⟨_, rfl, ⟨_, rfl, ⟨_, rfl, (ev_int ⟨_, rfl, by decide, ⟨.inl rfl, ?_⟩⟩)⟩⟩⟩)⟩⟩⟩)⟩⟩)))⟩⟩)⟩)))))))
    refine (ws_nil ?_)
    exact ⟨_, _, rfl, Int.emod_nonneg _ (by decide), Int.lt_trans (Int.emod_lt_of_pos _ (by decide)) (by decide)⟩
  · subst hρ
    have zp : CPow 10 18 := ⟨by decide, by decide +kernel⟩
    refine (ws_ret (ev_lst (ea_cons (ev_if (et_w (ew_or (et_lt (ev_var 2 rfl (.inl rfl) rfl ⟨_, rfl, (ev_int ⟨_, rfl, (ite_dec (fun h1 => (ite_t (ev_abs rfl (M.fr _ (memF 107)) (ev_var 2 rfl (.inl rfl) rfl ⟨_, rfl, (ea_cons (ev_var 3 rfl (.inl rfl) rfl (ea_cons (ev_int (ea_nil ⟨by simp [sizeLine_eq], ⟨_, _, _, rfl, m0, m1⟩⟩)))))⟩)))) (fun h1 => (ew_or1 (et_ge (ev_var 2 rfl (.inl rfl) rfl ⟨_, rfl, (ev_pow (ev_int ⟨_, rfl, (ev_int ⟨_, rfl, zp, ⟨_, rfl, (ite_dec (fun h2 => (ev_abs rfl (M.fr _ (memF 107)) (ev_var 2 rfl (.inl rfl) rfl ⟨_, rfl, (ea_cons (ev_var 3 rfl (.inl rfl) rfl (ea_cons (ev_int (ea_nil ⟨by simp [sizeLine_eq], ⟨_, _, _, rfl, m0, m1⟩⟩)))))⟩))) (fun h2 => (ev_int (ea_cons (ev_var 3 rfl (.inl rfl) rfl (ea_cons (ev_int (ea_nil ⟨by simp [sizeLine_eq], ⟨_, _, _, rfl, m0, m1⟩⟩))))))))⟩⟩)⟩))⟩)))))⟩)⟩))))))))
end
end K39
end
section
set_option Elab.async false
set_option linter.all false
set_option exponentiation.threshold 10000
set_option maxRecDepth 100000
set_option maxHeartbeats 4000000
namespace K39
open PySem PySem.Spec PyProof.Rows L2
section
variable {P : Program} {w : World} {K : PySem.W.Frag} {mg : Str → Option Value} {base : Heap}
/-- where nothing is let out -/
theorem fnok_nox {α : Type} {args : α → List Sv} {pre : α → Prop} {res : α → Sv → Prop} {exc : α → Prop} {k : Nat} {f : Addr} {fd : FuncData} {ps : List Str} (F : FnOk P w K mg base (L2.CX P w) k f fd ps (PmX K args pre res exc)) : FnOk P w K mg base CX0 k f fd ps (Pm K args pre res) := by
  have im : ∀ {vs : List V} {H : Hp} {Q : VK} {E : XK}, Pm K args pre res vs H Q E → PmX K args pre res exc vs H Q E0 := fun ⟨s, x, h0, h1, h2, h3⟩ => ⟨s, x, h0, h2, .inl ⟨h1, h3⟩⟩
  refine ⟨fun vs H Q E h => F.len vs H Q E0 (im h), fun A outer s H ar us vs Q E hr e0 hb hv h => ?_⟩
  refine codeAny_mono (F.run A outer s H ar us vs Q E0 hr e0 hb hv (im h)) fun r s' q => ?_
  cases r with
  | error e =>
    obtain ⟨_, _, _, _, _, _, _, _, _, _, _, _, z⟩ := q
    exact z.elim
  | ok fl =>
    cases fl with
    | ret u => exact q
    | next => exact q
    | brk => exact q
    | cont => exact q
theorem kw_binds {d : He.DefD} {x : Str} {N ps ks : List Str} {fd : FuncData} {f : Addr} (F : FunD K d.name d.qual d.params d.body d.scope [] [] f fd)
    (h : ∀ (kV doc pm : Value) (an : Option Addr) (cdv ct : Value) (us : List Value), us.length = ks.length → bindArgs (PySem.W.fnOf d.name d.qual d.params d.body d.scope .none kV doc pm an cdv ct) ⟨[], ks.zip us⟩ = pure (ps.zip us)) :
    ∀ (s : Shared) (ws : List Value), K.In s.heap → ws.length = ks.length → BindsTo s fd ⟨[], ks.zip ws⟩ (ps.zip ws) := by
  obtain ⟨oc, od, dV, kV, doc, pm, an, cdv, ct, osl, rfl, lk, hcd, hD, hK⟩ := F.ex
  intro s ws _ hl
  rcases hD with ⟨_, rfl⟩ | ⟨e, _⟩
  · exact BindsTo.of_looks fun M => PySem.W.Looks.of_pure (h kV doc pm an cdv ct ws hl)
  · exact absurd rfl e
theorem f65 (M : Md K mg) : Fn P w K mg base "full_reflux_walk" 9 ["column"] (Pm K (α := Col × Nat) (fun | (c, m) => [c.sv]) (fun | (c, m) => Cok c ∧ Fm c m ∧ m ≤ 60) (fun | (c, m) => fun r => r = .tup ((fullL c m).map .q))) := by
  obtain ⟨fd, F, G⟩ := fx65 (P := P) (w := w) (base := base) M
  exact ⟨_, fd, M.gl _ sg65.glo, F.kp, F.bindsN sg65.bind, fnok_nox G⟩
theorem fk65 (M : Md K mg) : KwFn P w K mg base "full_reflux_walk" 9 ["column"] ["column"] (Pm K (α := Col × Nat) (fun | (c, m) => [c.sv]) (fun | (c, m) => Cok c ∧ Fm c m ∧ m ≤ 60) (fun | (c, m) => fun r => r = .tup ((fullL c m).map .q))) := by
  obtain ⟨fd, F, G⟩ := fx65 (P := P) (w := w) (base := base) M
  exact ⟨_, fd, M.gl _ sg65.glo, F.kp, kw_binds (N := []) (x := "") F fun _ _ _ _ _ _ us hl => match us, hl with | [_], _ => rfl, fnok_nox G⟩
theorem b69 (M : Md K mg) (s : Option Addr) (c : Col) (n : Nat) (hg : Cok c ∧ 1 ≤ n ∧ n ≤ 60) : Ws (sc P w K mg base d69 ["column", "plates", "last"] 8 s) d69.body (ro ["column", "plates", "last"] [c.sv, .int (n : Int)]) (fun _ => Sv.non = .bl (decide (itl c.a c.top n < c.foot ∨ (n = 1 ∧ itl c.a c.top n = c.foot)))) (fun r => r = .bl (decide (itl c.a c.top n < c.foot ∨ (n = 1 ∧ itl c.a c.top n = c.foot)))) := by
  obtain ⟨hc, h1n, hn⟩ := (show Cok c ∧ 1 ≤ n ∧ n ≤ 60 from hg)
  have t0 : 0 < c.top := by have := hc.f0; have := hc.ft; grind
  have p1 : (1 : Int) ≤ (n : Int) ∧ (n : Int) ≤ 60 := by omega
  have p2 : Cok c ∧ n ≤ 60 := ⟨hc, hn⟩
  have it : (Sv.tup ((fullL c n).map Sv.q)).item (-1) = some (.q (itl c.a c.top n)) := by
    rw [item_last Sv.q 0 (by unfold fullL; rw [List.length_map, List.length_range]; omega)]
    refine congrArg (fun z => some (Sv.q z)) ?_
    unfold fullL
    rw [List.length_map, List.length_range, List.getD_eq_getElem?_getD, List.getElem?_map, List.getElem?_range (by omega)]
    show itl c.a c.top (n - 1 + 1) = _
    rw [Nat.sub_add_cancel h1n]
  have b := itl_bz hc.a1 t0 (Rat.le_of_lt hc.t1) hc.ba hc.btop n
  have p3 : Sb (itl c.a c.top n) c.foot := ⟨_, _, b, hc.bfoot, by omega⟩
  refine (ws_exp (ev_callf (f48 M) rfl (ea_cons (ev_var 0 rfl (.inl rfl) rfl (ea_nil ⟨_, rfl, hc, ?_⟩)))))
  refine (ws_exp (ev_callf (f68 M) rfl (ea_cons (ev_var 1 rfl (.inl rfl) rfl (ea_cons (ev_gi rfl M.plates (ea_nil ⟨(_, _), rfl, p1, ?_⟩)))))))
  refine (ws_set 2 rfl (.inl rfl) (ev_ix (fun _ _ => rfl) (ev_callf (f62 M) rfl (ea_cons (ev_var 0 rfl (.inl rfl) rfl (ea_cons (ev_var 1 rfl (.inl rfl) rfl (ea_nil ⟨(_, _), rfl, p2, (ev_neg (ev_int ⟨_, rfl, ⟨_, _, rfl, it, ⟨.inl rfl, ?_⟩⟩⟩))⟩))))))))
  refine (ws_ret (ev_or (ev_callf (f23 M) rfl (ea_cons (ev_var 2 rfl (.inl rfl) rfl (ea_cons (ev_ix (fun _ _ => rfl) (ev_var 0 rfl (.inl rfl) rfl (ev_int ⟨_, _, rfl, rfl, (ea_nil ⟨(_, _), rfl, p3, ⟨_, rfl, (ite_dec (fun h1 => ?_) (fun h1 => (ev_or1 (ev_and (ev_eq (ev_var 1 rfl (.inl rfl) rfl ⟨_, rfl, (ev_int ⟨_, rfl, ⟨_, rfl, (ite_dec (fun h2 => (ev_and1 (ev_eqq (ev_var 2 rfl (.inl rfl) rfl ⟨_, rfl, (ev_ix (fun _ _ => rfl) (ev_var 0 rfl (.inl rfl) rfl (ev_int ⟨_, _, rfl, rfl, ⟨_, rfl, ?_⟩⟩)))⟩)))) (fun h2 => ?_))⟩⟩)⟩))))))⟩⟩)⟩)))))))))
  · exact congrArg Sv.bl (decide_eq_true (.inl h1)).symm
  · exact congrArg Sv.bl (decide_eq_decide.mpr ⟨fun e => .inr ⟨by omega, e⟩, fun e => e.elim (fun q => absurd q h1) (fun q => q.2)⟩)
  · exact congrArg Sv.bl (decide_eq_false (fun e => e.elim h1 (fun q => h2 (by have := q.1; omega)))).symm
/-- the def's promise, by keywords -/
theorem mkKw {d : He.DefD} {x : Str} {N ps : List Str} {α : Type} {args : α → List Sv} {pre : α → Prop} {res : α → Sv → Prop} {k : Nat} (M : Md K mg) (g : Sig d x N ps) (hl : ∀ z, (args z).length = ps.length) (ho : ∀ z, pre z → noO (args z))
    (hk : ∀ (kV doc pm : Value) (an : Option Addr) (cdv ct : Value) (us : List Value), us.length = ps.length → bindArgs (PySem.W.fnOf d.name d.qual d.params d.body d.scope .none kV doc pm an cdv ct) ⟨[], ps.zip us⟩ = pure (ps.zip us))
    (body : ∀ (s : Option Addr) (z : α), pre z → Ws (sc P w K mg base d N k s) d.body (ro N (args z)) (fun _ => res z .non) (res z)) : KwFn P w K mg base x (k + 1) ps ps (Pm K args pre res) := by
  obtain ⟨fd, F⟩ := g.funD M
  exact ⟨_, fd, M.gl x g.glo, F.kp, kw_binds (N := []) (x := "") F hk, ws_fnok F g hl ho body⟩
theorem fk69 (M : Md K mg) : KwFn P w K mg base "ever_within" 9 ["column", "plates"] ["column", "plates"] (Pm K (α := Col × Nat) (fun | (c, n) => [c.sv, .int (n : Int)]) (fun | (c, n) => Cok c ∧ 1 ≤ n ∧ n ≤ 60) (fun | (c, n) => fun r => r = .bl (decide (itl c.a c.top n < c.foot ∨ (n = 1 ∧ itl c.a c.top n = c.foot))))) :=
  mkKw M sg69 (fun _ => rfl) (fun z hz => noO2 rfl rfl) (fun _ _ _ _ _ _ us hl => match us, hl with | [_, _], _ => rfl) fun s ⟨c, n⟩ hg => b69 M s c n hg
theorem sg66 : Sig d66 "full_reflux_plates" ["column"] ["column"] := ⟨memN 47, rfl, memF 47, rfl, rfl, ⟨rfl, rfl, rfl, by decide +kernel, rfl, by decide +kernel, by decide +kernel⟩, fun _ _ _ _ _ _ us hl => match us, hl with | [_], _ => rfl⟩
theorem fx66 (M : Md K mg) : ∃ fd, FunD K d66.name d66.qual d66.params d66.body d66.scope [] [] (He.ga K "full_reflux_plates") fd ∧ FnOk P w K mg base (L2.CX P w) 10 (He.ga K "full_reflux_plates") fd ["column"] (PmX K (α := Col × Nat) (fun | (c, m) => [c.sv]) (fun | (c, m) => Cok c ∧ Fm c m ∧ m ≤ 60) (fun | (c, m) => fun r => r = .int (m : Int)) (fun | (c, m) => Cok c ∧ Fm c m ∧ m = 61)) := by
  obtain ⟨fd, F⟩ := sg66.funD M
  obtain ⟨fd5, F5, G5⟩ := fx65 (P := P) (w := w) (base := base) M
  refine ⟨fd, F, ?_⟩
  refine F.ok (k := 9) sg66.scp (fun vs H Q E h => ?_) (fun cdv A outer s H vs Q E hr h => ?_)
  · obtain ⟨s, ⟨c, m⟩, _, h1, _⟩ := h
    exact h1.length
  · obtain ⟨s', ⟨c, m⟩, h0, h1, h2⟩ := h
    obtain ⟨v, rfl, hv⟩ := SatL.one h1
    refine ⟨_, pss_one (ps_ret (pe_callB call_len_seq (by rfl) (M.fr _ (memF 104)) PySem.boot_len (pa_cons (pe_call G5 (hr.mono (Nat.le_refl 9)) (by rfl) (M.gl _ sg65.glo) F5.kp (F5.bindsN sg65.bind) .nil (passes_call (takes_of rfl rfl rfl rfl) (fun _ _ _ _ h => h)) (pa_cons (pe_var (i := 0) (by rfl) (.inl (by rfl))) pa_nil)) pa_nil))), ?_⟩
    refine ⟨v, rfl, s', (c, m), h0, .cons hv .nil, ?_⟩
    rcases h2 with ⟨p, k⟩ | ⟨p, k⟩
    · refine .inl ⟨p, fun v' H' r g sa e => ?_⟩
      subst e
      obtain ⟨a, ws, rfl, q1, q2⟩ := Sat.seq sa rfl
      refine ⟨a, ws, rfl, q1, ?_⟩
      have e : ws.length = m := by rw [q2.length, List.length_map, full_len]
      rw [e]
      exact k _ H' _ g (.int _) rfl
    · exact .inr ⟨p, k⟩
theorem f66 (M : Md K mg) : Fn P w K mg base "full_reflux_plates" 10 ["column"] (Pm K (α := Col × Nat) (fun | (c, m) => [c.sv]) (fun | (c, m) => Cok c ∧ Fm c m ∧ m ≤ 60) (fun | (c, m) => fun r => r = .int (m : Int))) := by
  obtain ⟨fd, F, G⟩ := fx66 (P := P) (w := w) (base := base) M
  exact ⟨_, fd, M.gl _ sg66.glo, F.kp, F.bindsN sg66.bind, fnok_nox G⟩
theorem fk66 (M : Md K mg) : KwFn P w K mg base "full_reflux_plates" 10 ["column"] ["column"] (Pm K (α := Col × Nat) (fun | (c, m) => [c.sv]) (fun | (c, m) => Cok c ∧ Fm c m ∧ m ≤ 60) (fun | (c, m) => fun r => r = .int (m : Int))) := by
  obtain ⟨fd, F, G⟩ := fx66 (P := P) (w := w) (base := base) M
  exact ⟨_, fd, M.gl _ sg66.glo, F.kp, kw_binds (N := []) (x := "") F fun _ _ _ _ _ _ us hl => match us, hl with | [_], _ => rfl, fnok_nox G⟩
end
end K39
end
section
set_option Elab.async false
set_option linter.all false
set_option exponentiation.threshold 10000
set_option maxRecDepth 100000
set_option maxHeartbeats 4000000
namespace K39
open PySem PySem.Spec PyProof.Rows L2
/-! ### values as data -/
mutual
def Sv.pd : Sv → Option PyData
  | .non => some .none
  | .bl b => some (.bool b)
  | .int i => some (.int i)
  | .str x => some (.str x)
  | .q r => some (.tuple [.int r.num, .int (r.den : Int)])
  | .tup l => (Sv.pdL l).map .tuple
  | .lst l => (Sv.pdL l).map .list
  | _ => none
def Sv.pdL : List Sv → Option (List PyData)
  | [] => some []
  | r :: l => match Sv.pd r, Sv.pdL l with
    | some d, some ds => some (d :: ds)
    | _, _ => none
end
theorem pdL_cons {r : Sv} {l : List Sv} {ds : List PyData} (h : Sv.pdL (r :: l) = some ds) : ∃ d es, r.pd = some d ∧ Sv.pdL l = some es ∧ ds = d :: es := by
  rw [Sv.pdL] at h
  split at h
  · rename_i d es h1 h2
    cases h
    exact ⟨d, es, h1, h2, rfl⟩
  · cases h
mutual
theorem Sat.dp {K : PySem.W.Frag} {s : Option Addr} {H : Hp} : ∀ {v : V} {r : Sv} {d : PyData}, Sat K s H v r → r.pd = some d → Dp K H v d
  | _, _, _, .non, e => by cases e; exact .non
  | _, _, _, .bl b, e => by cases e; exact .bl b
  | _, _, _, .int i, e => by cases e; exact .int i
  | _, _, _, .str x, e => by cases e; exact .str x
  | _, .q r, _, .q h, e => by cases e; exact .tup h.sq (.cons (.int _) (.cons (.int _) .nil))
  | _, .tup l, _, .tup h hl, e => by
    obtain ⟨ds, e1, rfl⟩ := Option.map_eq_some_iff.mp (show (Sv.pdL l).map PyData.tuple = some _ from e)
    exact .tup h.sq (SatL.dp hl e1)
  | _, .lst l, _, .lst h _ hl, e => by
    obtain ⟨ds, e1, rfl⟩ := Option.map_eq_some_iff.mp (show (Sv.pdL l).map PyData.list = some _ from e)
    exact .lst (SqL.of h) (SatL.dp hl e1)
  | _, _, _, .own _ _ _, e => by cases e
  | _, _, _, .ref a, e => by cases e
  | _, _, _, .spr _ _, e => by cases e
  | _, _, _, .scr _ _, e => by cases e
theorem SatL.dp {K : PySem.W.Frag} {s : Option Addr} {H : Hp} : ∀ {vs : List V} {l : List Sv} {ds : List PyData}, SatL K s H vs l → Sv.pdL l = some ds → DpAll K H vs ds
  | _, _, _, .nil, e => by cases e; exact .nil
  | _, _, _, .cons h hl, e => by
    obtain ⟨d, es, e1, e2, rfl⟩ := pdL_cons e
    exact .cons (h.dp e1) (hl.dp e2)
end
section
variable {X : Cx}
theorem call_repr_bl : CallR X (.builtin "repr") (fun xs H Q => ∃ b : Bool, xs = [.bl b] ∧ Q (.str (if b then "True" else "False")) H) := by
  intro pins s σ H xs us Q I r ⟨b, e, q⟩
  subst e
  obtain ⟨u, rfl, hu⟩ := vals1 r
  cases hu
  exact PySem.P.repr_of_bool ⟨.str _, H, I.tok _, ⟨_, rfl⟩, q⟩
/-- repr of a list or a tuple of data -/
theorem call_repr_dp (hg : X.A.guards = some []) (hu : X.A.units + 64 < cLine) : CallR X (.builtin "repr") (fun xs H Q => ∃ a d, xs = [.ref a] ∧ Dp X.K H (.ref a) d ∧ d.showable = true ∧ d.hasDict = false ∧ d.depth ≤ 60 ∧ d.shown.length ≤ sizeLine ∧ Q (.str d.shown) H) := by
  intro pins s σ H xs us Q I r ⟨a, d, e, hd, h1, h2, h3, h4, q⟩
  subst e
  obtain ⟨u, rfl, hu'⟩ := vals1 r
  cases hu'
  obtain ⟨as, rd⟩ := hd.reads I d _ _ rfl
  exact repr_of_reads' rd h1 (PyData.noDict_hsm h2) hg (by omega) (fun _ _ e => e) (fun h' u tk hk => ⟨.str _, H, I.kept hk, ⟨_, rfl⟩, q⟩) h4
end
section
variable {S : Sc} {ρ : Ro} {N : Ro → Prop} {R : Sv → Prop} {Φ : Sv → Prop} {Ψ : Bool → Prop} {a b c : Expr} {pos p : Pos} {rest : List Stmt}
/-- repr(b) of a bool -/
theorem ev_reprB (hg : Glb S "repr") (hm : S.mg "repr" = none) (h : Ev S a ρ fun x => ∃ b : Bool, x = .bl b ∧ Φ (.str (if b then "True" else "False"))) (hs : ∀ env, starEach [a] env = (false, eval a env) :: starEach [] env := by intro _; rfl) : Ev S (.Call (.Name "repr" p) [a] [] pos) ρ Φ := by
  refine ev_blt (id := "repr") (fun X _ => call_repr_bl) hg hm (by decide +kernel) (Φa := fun l => ∃ b : Bool, l = [.bl b] ∧ Φ (.str (if b then "True" else "False"))) (ea_one (h.imp fun r ⟨b, e, q⟩ => ⟨b, by rw [e], q⟩) hs) ?_ (he := hs)
  rintro X hX σ vs H l Q hE s1 ⟨b, rfl, e2⟩ k
  obtain ⟨v, rfl, h1⟩ := s1.one
  cases h1
  exact ⟨b, rfl, k _ H _ Gr.refl (.str _) e2⟩
/-- repr of a list of data -/
theorem ev_reprD (gd : S.g = true) (hg : Glb S "repr") (hm : S.mg "repr" = none) (h : Ev S a ρ fun x => ∃ l ds, x = .lst l ∧ Sv.pdL l = some ds ∧ (PyData.list ds).showable = true ∧ (PyData.list ds).hasDict = false ∧ (PyData.list ds).depth ≤ 60 ∧ (PyData.list ds).shown.length ≤ sizeLine ∧ Φ (.str (PyData.list ds).shown)) (hs : ∀ env, starEach [a] env = (false, eval a env) :: starEach [] env := by intro _; rfl) : Ev S (.Call (.Name "repr" p) [a] [] pos) ρ Φ := by
  refine ev_blt (id := "repr") (fun X hX => call_repr_dp (hX.gd gd) hX.room.units) hg hm (by decide +kernel) (Φa := fun l0 => ∃ x l ds, l0 = [x] ∧ x = .lst l ∧ Sv.pdL l = some ds ∧ (PyData.list ds).showable = true ∧ (PyData.list ds).hasDict = false ∧ (PyData.list ds).depth ≤ 60 ∧ (PyData.list ds).shown.length ≤ sizeLine ∧ Φ (.str (PyData.list ds).shown)) (ea_one (h.imp fun r ⟨l, ds, q⟩ => ⟨r, l, ds, rfl, q⟩) hs) ?_ (he := hs)
  rintro X hX σ vs H l0 Q hE s1 ⟨x, l, ds, rfl, rfl, e1, q1, q2, q3, q4, e2⟩ k
  obtain ⟨v, rfl, h1⟩ := s1.one
  cases h1 with
  | @lst u ws _ ht hn hl => exact ⟨u, .list ds, rfl, by rw [hX.K]; exact .lst (SqL.of ht) (hl.dp e1), q1, q2, q3, q4, k _ H _ Gr.refl (.str _) e2⟩
theorem dec_str {x y : Str} : decide (V.str x = V.str y) = decide (x = y) := by
  by_cases h : x = y
  · subst h; simp
  · rw [decide_eq_false h, decide_eq_false fun e => h (by cases e; rfl)]
/-- texts compared -/
theorem et_neS (h : Ev S a ρ fun x => ∃ m : Str, x = .str m ∧ Ev S b ρ fun y => ∃ n : Str, y = .str n ∧ Ψ (!decide (m = n))) : Et S (.Compare a [.NotEq] [b] pos) ρ Ψ := by
  intro X hX σ H hE Q k
  refine WT.of (pt_cmpR op_ne pe_W pe_W (nomark _)) (h X hX σ H hE _ fun v H1 r g1 s1 ⟨m, e, h2⟩ => ?_)
  subst e
  cases s1
  refine h2 X hX σ H1 (hE.mono g1.n) _ fun v2 H2 r2 g2 s2 ⟨n, e, h3⟩ => ?_
  subst e
  cases s2
  refine ⟨rfl, ?_⟩
  rw [dec_str]
  exact ⟨_, rfl, k _ H2 (g1.trans g2) h3⟩
theorem ev_eqS (h : Ev S a ρ fun x => ∃ m : Str, x = .str m ∧ Ev S b ρ fun y => ∃ n : Str, y = .str n ∧ Φ (.bl (decide (m = n)))) : Ev S (.Compare a [.Eq] [b] pos) ρ Φ := by
  intro X hX σ H hE Q k
  refine WE.of (pe_cmpR op_eq pe_W pe_W (nomark _)) (h X hX σ H hE _ fun v H1 r g1 s1 ⟨m, e, h2⟩ => ?_)
  subst e
  cases s1
  refine h2 X hX σ H1 (hE.mono g1.n) _ fun v2 H2 r2 g2 s2 ⟨n, e, h3⟩ => ?_
  subst e
  cases s2
  refine ⟨rfl, ?_⟩
  rw [dec_str]
  exact k _ H2 _ (g1.trans g2) (.bl _) h3
/-- x is True, x is False -/
theorem ev_isB (h : Ev S a ρ fun x => ∃ m : Bool, x = .bl m ∧ Ev S b ρ fun y => ∃ n : Bool, y = .bl n ∧ Φ (.bl (decide (m = n)))) : Ev S (.Compare a [.Is] [b] pos) ρ Φ := by
  intro X hX σ H hE Q k
  refine WE.of (pe_cmpR op_is_bl pe_W pe_W (nomark _)) (h X hX σ H hE _ fun v H1 r g1 s1 ⟨m, e, h2⟩ => ?_)
  subst e
  cases s1
  refine h2 X hX σ H1 (hE.mono g1.n) _ fun v2 H2 r2 g2 s2 ⟨n, e, h3⟩ => ?_
  subst e
  cases s2
  exact ⟨m, n, rfl, rfl, k _ H2 _ (g1.trans g2) (.bl _) h3⟩
/-- a < b <= c of ints, as a test -/
theorem et_chain (h : Ev S a ρ fun x => ∃ m, x = .int m ∧ Ev S b ρ fun y => ∃ n, y = .int n ∧ if decide (m < n) = true then Ev S c ρ fun z => ∃ o, z = .int o ∧ Ψ (decide (n ≤ o)) else Ψ false) (hm : lastMarks [.Lt, .LtE] [b, c] = false := by rfl) : Et S (.Compare a [.Lt, .LtE] [b, c] pos) ρ Ψ := by
  intro X hX σ H hE Q k
  refine WT.of (pt_chain op_lt op_le pe_W pe_W pe_W hm) (h X hX σ H hE _ fun v H1 r g1 s1 ⟨m, e, h2⟩ => ?_)
  subst e
  cases s1
  refine h2 X hX σ H1 (hE.mono g1.n) _ fun v2 H2 r2 g2 s2 ⟨n, e, h3⟩ => ?_
  subst e
  cases s2
  refine ⟨m, n, rfl, rfl, decide (m < n), rfl, ?_⟩
  by_cases hmn : m < n
  · rw [decide_eq_true hmn] at h3 ⊢
    rw [if_pos rfl] at h3 ⊢
    refine h3 X hX σ H2 (hE.mono (g1.trans g2).n) _ fun v3 H3 r3 g3 s3 ⟨o, e, h4⟩ => ?_
    subst e
    cases s3
    exact ⟨n, o, rfl, rfl, _, rfl, k _ H3 ((g1.trans g2).trans g3) h4⟩
  · rw [decide_eq_false hmn] at h3 ⊢
    rw [if_neg Bool.false_ne_true] at h3 ⊢
    exact ⟨_, rfl, k _ H2 (g1.trans g2) h3⟩
end
/-- zip of two tuples, up to the shorter one's end -/
theorem zip_min {K : PySem.W.Frag} {a b : Addr} {xs ys : List V} {g : TG} {tb : TS} {D : Ends} {σ : L2.St} {H : Hp} (I : Nat → L2.St → Hp → Prop) (h0 : I 0 σ H) (hq : ∀ i σ H, I i σ H → SqT K H a xs ∧ SqT K H b ys)
    (turn : ∀ (i : Nat) (x y : V) (T : Addr) (σ : L2.St) (H : Hp), xs[i]? = some x → ys[i]? = some y → I i σ H → H T = none → g (.ref T) σ (upd H T (.tup [x, y])) fun σ2 H2 => tb { D with nx := I (i + 1), ct := I (i + 1), bk := D.nx } σ2 H2)
    (last : ∀ σ H, I (min xs.length ys.length) σ H → D.nx σ H) :
    ∃ W : Nat → Nat → L2.St → Hp → Prop, (∃ m, W 0 m σ H) ∧ ∀ i m σ H, W i m σ H →
      ((RZ.ItzT K a b).stop i H ∧ D.nx σ H) ∨ ((RZ.ItzT K a b).go i H ∧ ∃ N : L2.St → Hp → Prop, (∀ σ' H', N σ' H' → ∃ m', m' < m ∧ W (i + 1) m' σ' H') ∧ ∀ v H', (RZ.ItzT K a b).yld i H v H' → g v σ H' fun σ2 H2 => tb { D with nx := N, ct := N, bk := D.nx } σ2 H2) := by
  refine ⟨fun i m σ H => m = min xs.length ys.length - i ∧ i ≤ min xs.length ys.length ∧ I i σ H, ⟨_, rfl, Nat.zero_le _, h0⟩, fun i m σ H ⟨hm, hi, p⟩ => ?_⟩
  subst hm
  obtain ⟨qx, qy⟩ := hq i σ H p
  by_cases lt : i < min xs.length ys.length
  · have lx : i < xs.length := by omega
    have ly : i < ys.length := by omega
    refine .inr ⟨⟨xs, ys, xs[i], ys[i], qx, qy, List.getElem?_eq_getElem lx, List.getElem?_eq_getElem ly⟩, I (i + 1), fun σ' H' p' => ⟨_, by omega, rfl, lt, p'⟩, fun v H' ⟨T, x, y, e1, hT, e2, f1, f2⟩ => ?_⟩
    subst e1 e2
    exact turn i x y T σ H (f1 xs qx) (f2 ys qy) p hT
  · have e : i = min xs.length ys.length := by omega
    subst e
    refine .inl ⟨⟨xs, ys, qx, qy, ?_⟩, last σ H p⟩
    omega
section
variable {S : Sc} {ρ : Ro} {N : Ro → Prop} {R : Sv → Prop} {a b : Expr} {es : List Expr} {pos p p2 p3 : Pos} {rest body : List Stmt}
theorem ws_forZ {is : List Nat} {k0 : Nat} (hn : Nms S es is) (h2 : is.length = 2) (hg : Glb S "zip") (hm : S.mg "zip" = none) (h : Ev S a ρ fun r => ∃ l, r.parts = some l ∧ (∀ z ∈ l, z.flat = true) ∧ Ev S b ρ fun r' => ∃ m, r'.parts = some m ∧ (∀ z ∈ m, z.flat = true) ∧ ∃ I : Nat → Ro → Prop, I 0 ρ ∧
      (∀ (i : Nat) (x y : Sv) (ρ' : Ro), l[i]? = some x → m[i]? = some y → I i ρ' → x.isL = false ∧ y.isL = false ∧ Ws S body (sets ρ' is [x, y]) (I (i + 1)) R) ∧ ∀ ρ', I (min l.length m.length) ρ' → Ws S rest ρ' N R)
    (hs : ∀ env, starEach [a, b] env = (false, eval a env) :: starEach [b] env := by intro _; rfl) (hs2 : ∀ env, starEach [b] env = (false, eval b env) :: starEach [] env := by intro _; rfl) (hpl : ∀ env, (backTo p3 (starEach [b] env)).any (·.1) = false := by intro _; rfl)
    (hfs : ∀ env x, foldedSetIterable (.Call (.Name "zip" p2) [a, b] [] p3) env x = pure x := by intro _ _; rfl) : Ws S (.For (.Tuple es k0 p) (.Call (.Name "zip" p2) [a, b] [] p3) body [] pos :: rest) ρ N R := by
  intro X hX B σ H hE D kN kR
  refine WSs.of (pss_cons (ps_for (by rw [hX.xe]; exact PassesOwn.never) hX.calm (RZ.pi_zipA (hX.gl hg) (by rw [hX.mg]; exact hm) (pa_cons pe_W (pa_cons pe_W pa_nil (hs2 _)) (hs _)) (hs _) (hpl _)) (hn.pg hX) pss_W (hfs _)) pss_W) ?_
  refine h X hX σ H hE.en _ fun v H1 r g1 s1 ⟨l, e1, f1, h3⟩ => ?_
  refine h3 X hX σ H1 (hE.en.mono g1.n) _ fun v2 H2 r2 g2 s2 ⟨m, e2, f2, I, i0, i1, i2⟩ => ?_
  obtain ⟨u, vs, rfl, hq, hl⟩ := (s1.mono g2.n).parts e1
  obtain ⟨u2, vs2, rfl, hq2, hl2⟩ := s2.parts e2
  refine ⟨u, u2, vs, vs2, rfl, .inr ⟨by rw [hX.K]; exact hq.sq, by rw [hX.K]; exact hq2.sq, ?_⟩⟩
  have g12 := g1.trans g2
  refine zip_min (xs := vs) (ys := vs2) (fun i σ' H' => ∃ ρ', EnS S.K S.s B σ' H' ρ' ∧ Tk H2 H' ∧ I i ρ') ⟨ρ, hE.mono g12, Tk.refl, i0⟩ (fun i σ' H' ⟨ρ', _, t, _⟩ => ?_) ?_ ?_
  · rw [hX.K]
    exact ⟨(show Tq S.K H' u vs from hq.imp (t _ _) id).sq, (show Tq S.K H' u2 vs2 from hq2.imp (t _ _) id).sq⟩
  · rintro i x y T σ' H' hx hy ⟨ρ', hE', t, hI⟩ hT
    obtain ⟨rx, ex, sx⟩ := hl.get' hx
    obtain ⟨ry, ey, sy⟩ := hl2.get' hy
    obtain ⟨n1, n2, hb⟩ := i1 i rx ry ρ' ex ey hI
    have kf : ∀ {v : V} {r : Sv}, r.flat = true → Sat S.K S.s H2 v r → Sat S.K S.s H' v r := fun hf hs => Sat.keepF t (fun a e _ => hE'.en.spr a e) hf hs
    have g3 : Gr S.s H' (upd H' T (.tup [x, y])) := Gr.new hT
    have hE2 := (hE'.mono g3).sets (is := is) (.cons ((kf (f1 _ (List.mem_of_getElem? ex)) sx).mono g3.n) (.cons ((kf (f2 _ (List.mem_of_getElem? ey)) sy).mono g3.n) .nil)) (by
      intro z hz
      rcases List.mem_cons.mp hz with e | hz
      · rw [e]; exact n1
      · rw [List.mem_singleton.mp hz]; exact n2)
    refine ⟨T, [x, y], rfl, SqT.of upd_same, h2.symm, h2.symm, ?_⟩
    exact hb X hX B _ _ hE2 _ (fun σ2 H3 ρ2 e t2 n => ⟨ρ2, e, (t.trans g3.tk).trans t2, n⟩) kR
  · rintro σ' H' ⟨ρ', hE', t, hI⟩
    rw [hl.length, hl2.length] at hI
    exact i2 ρ' hI X hX B σ' H' hE' D (fun σ2 H3 ρ2 e t2 n => kN σ2 H3 ρ2 e ((g12.tk.trans t).trans t2) n) kR
end
end K39
end
section
set_option Elab.async false
set_option linter.all false
set_option exponentiation.threshold 10000
set_option maxRecDepth 100000
set_option maxHeartbeats 4000000
namespace K39
open PySem PySem.Spec PyProof.Rows L2
theorem ite_no {b : Bool} {A B : Prop} (h : b = false) (x : B) : if b = true then A else B := by rw [h, if_neg Bool.false_ne_true]; exact x
section
variable {P : Program} {w : World} {K : PySem.W.Frag} {mg : Str → Option Value} {base : Heap}
theorem sg109 : Sig d109 "_law_ever_right" ["_law_wish_here", "_law_full_here", "_law_least_here", "_law_count_here"] ["_law_wish_here", "_law_full_here"] := ⟨memN 88, rfl, memF 88, rfl, rfl, ⟨rfl, rfl, rfl, by decide +kernel, rfl, by decide +kernel, by decide +kernel⟩, fun _ _ _ _ _ _ us hl => match us, hl with | [_, _], _ => rfl⟩
theorem f109 (M : Md K mg) : Fn P w K mg base "_law_ever_right" 10 ["_law_wish_here", "_law_full_here"] (Pm K (α := Col × Nat) (fun | (c, m) => [c.sv, .tup ((fullL c m).map .q)]) (fun | (c, m) => Cok c ∧ Fm c m ∧ m ≤ 60) (fun | (c, m) => fun r => r = .bl true)) := by
  refine mk M sg109 (fun _ => rfl) (fun z hz => noO2 rfl rfl) fun s ⟨c, m⟩ hg => ?_
  obtain ⟨hc, hm, h60⟩ := (show Cok c ∧ Fm c m ∧ m ≤ 60 from hg)
  have p1 : Cok c ∧ Fm c m := ⟨hc, hm⟩
  refine (ws_set 2 rfl (.inl rfl) (ev_callf (f107 M) rfl (ea_cons (ev_var 0 rfl (.inl rfl) rfl (ea_cons (ev_var 1 rfl (.inl rfl) rfl (ea_nil ⟨(c, m), rfl, p1, ⟨.inl rfl, ?_⟩⟩)))))))
  refine ws_forL (is := [3]) (bt := false) (.name rfl (.inl rfl)) (noOwn_of rfl) (ev_lst (ea_cons (ev_int (ea_cons (ev_int (ea_cons (ev_sub (ev_var 2 rfl (.inl rfl) rfl ⟨_, rfl, (ev_int ⟨_, rfl, (ea_cons (ev_var 2 rfl (.inl rfl) rfl (ea_cons (ev_int (ea_nil ⟨by simp [sizeLine_eq], ⟨_, rfl, ?_⟩⟩)))))⟩)⟩))))))))
  refine ⟨fun i ρ' => ∃ y, ρ' = [some c.sv, some (.tup ((fullL c m).map .q)), some (.int (lst c m : Int)), y], ⟨none, rfl⟩, fun i z ρ' hz ⟨y, hρ⟩ => ?_, fun ρ' ⟨y, hρ⟩ => ?_⟩
  · subst hρ
    obtain ⟨n, rfl⟩ : ∃ n, z = .int n := by
      match i, hz with
      | 0, hz => cases hz; exact ⟨_, rfl⟩
      | 1, hz => cases hz; exact ⟨_, rfl⟩
      | 2, hz => cases hz; exact ⟨_, rfl⟩
      | 3, hz => cases hz; exact ⟨_, rfl⟩
      | 4, hz => cases hz; exact ⟨_, rfl⟩
    refine ⟨_, rfl, rfl, by simp [Sv.isL], ?_⟩
    refine (ws_if (et_w (ew_and (et_chain (ev_int ⟨_, rfl, (ev_var 3 rfl (.inl rfl) rfl ⟨_, rfl, (ite_dec (fun h1 => (ev_int ⟨_, rfl, (ite_dec (fun h2 => (ew_and1 (et_neS (ev_reprB rfl (M.fr _ (memF 111)) (ev_callf (f69 M) rfl (ea_cons (ev_var 0 rfl (.inl rfl) rfl (ea_cons (ev_var 3 rfl (.inl rfl) rfl (ea_nil ⟨(c, n.toNat), by show [c.sv, Sv.int ((n.toNat : Nat) : Int)] = _; rw [show ((n.toNat : Nat) : Int) = n from by omega]; rfl, ⟨hc, by omega, by omega⟩, ⟨_, rfl, ⟨_, rfl, (ev_reprB rfl (M.fr _ (memF 111)) (ev_ge (ev_var 3 rfl (.inl rfl) rfl ⟨_, rfl, (ev_var 2 rfl (.inl rfl) rfl ⟨_, rfl, ⟨_, rfl, ⟨_, rfl, ?_⟩⟩⟩)⟩)))⟩⟩⟩)))))))))) (fun h2 => (ite_f (ws_nil ?_))))⟩)) (fun h1 => (ite_f (ite_f (ws_nil ?_)))))⟩)⟩)))))
    · have key := ever_iff hc hm h60 (n := n.toNat) (by omega)
      have e1 : decide ((lst c m : Int) ≤ n) = decide (itl c.a c.top n.toNat < c.foot ∨ n.toNat = 1 ∧ itl c.a c.top n.toNat = c.foot) := decide_eq_decide.mpr ⟨fun q => key.mpr (by omega), fun q => by have := key.mp q; omega⟩
      refine ite_no ?_ (ws_nil (ws_nil ⟨_, rfl⟩))
      show (!decide ((if decide (itl c.a c.top n.toNat < c.foot ∨ n.toNat = 1 ∧ itl c.a c.top n.toNat = c.foot) = true then ("True" : Str) else "False") = (if decide ((lst c m : Int) ≤ n) = true then ("True" : Str) else "False"))) = false
      rw [e1]
      simp
    · exact ws_nil ⟨_, rfl⟩
    · exact ws_nil ⟨_, rfl⟩
  · subst hρ
    have key := ever_iff hc hm h60 (n := 60) (by omega)
    have e1 : decide ((lst c m : Int) ≤ 60) = decide (itl c.a c.top 60 < c.foot ∨ 60 = 1 ∧ itl c.a c.top 60 = c.foot) := decide_eq_decide.mpr ⟨fun q => key.mpr (by omega), fun q => by have := key.mp q; omega⟩
    refine (ws_ret (ev_eqS (ev_reprB rfl (M.fr _ (memF 111)) (ev_callk (fk69 M) rfl (ek_cons (ev_var 0 rfl (.inl rfl) rfl (ek_cons (ev_int (ek_nil ⟨(c, 60), rfl, rfl, ⟨hc, by omega, by omega⟩, fun | _, rfl => ⟨_, rfl, ⟨_, rfl, (ev_reprB rfl (M.fr _ (memF 111)) (ev_le (ev_var 2 rfl (.inl rfl) rfl ⟨_, rfl, (ev_int ⟨_, rfl, ⟨_, rfl, ⟨_, rfl, ?_⟩⟩⟩)⟩)))⟩⟩⟩)))))))))
    refine congrArg Sv.bl (decide_eq_true ?_)
    show (if decide (itl c.a c.top 60 < c.foot ∨ 60 = 1 ∧ itl c.a c.top 60 = c.foot) = true then ("True" : Str) else "False") = (if decide ((lst c m : Int) ≤ 60) = true then ("True" : Str) else "False")
    rw [e1]
end
end K39
end
section
set_option Elab.async false
set_option linter.all false
set_option exponentiation.threshold 10000
set_option maxRecDepth 100000
set_option maxHeartbeats 4000000
namespace K39
open PySem PySem.Spec PyProof.Rows L2
theorem ite_nbl {b : Bool} {A B : Prop} (h1 : b = false → A) (h2 : b = true → B) : if (!b) = true then A else B := by
  cases b
  · exact h1 rfl
  · exact h2 rfl
theorem wok_of {c : Col} {R : Rat} (hc : Cok c) (hR : Bz 600 R) (hf : flo c < R) : Wok c R := by
  have s := flo_str hc hf
  exact ⟨hc, ⟨s.1, hR⟩, ss_of hc hR s, s.2, fun x h1 h2 => low_rng hc s h1 h2⟩
theorem rows_cons {c : Col} {R : Rat} (hc : Cok c) (s : Stm c R) (f : Nat) : ∃ k t, rowsF c R (f + 1) c.top = (k, itl c.a c.top 1) :: t := ⟨_, _, rows_top hc s f⟩
theorem bok_of {c : Col} {R : Rat} (hc : Cok c) (hR : Bz 600 R) (hp : Parts c R) (hl : (rowsF c R 21 c.top).length ≤ 20) : Bok c R ∧ rowsF c R 60 c.top = rowsF c R 21 c.top := by
  have w := wok_of hc hR hp.1
  have s := flo_str hc hp.1
  obtain ⟨e1, e2, e3⟩ := rows_end c R 21 60 c.top (by omega) (by omega)
  refine ⟨⟨w, fun k hk => ⟨?_, hp.2 k hk⟩, ?_⟩, e1⟩
  · have := (kink_rng hc s hk).1.1
    have := hc.f0
    grind
  · rw [e1]
    cases q : (rowsF c R 21 c.top).getLast? with
    | none =>
      have := e3 (List.getLast?_eq_none_iff.mp q)
      exact absurd hc.ft this
    | some p =>
      have := e2 p q
      rw [List.getLast?_eq_getElem?] at q
      rw [List.getD_eq_getElem?_getD, q]
      exact this
theorem rows_bz {c : Col} {R : Rat} (w : Wok c R) : ∀ (f n : Nat) (x : Rat), Bz n x → x ≤ c.top → ∀ p ∈ rowsF c R f x, Bz (n + f * 1787) p.2
  | 0, _, _, _, _, p, hp => by cases hp
  | f + 1, n, x, hx, ht, p, hp => by
    rw [rowsF] at hp
    split at hp
    · rename_i h
      have b := bz_low w.ss hx ((secs c R).length - 1) (by have := w.ss.ne; omega)
      obtain ⟨r1, r2⟩ := w.rng x h ht
      have f0 := w.co.f0
      have t1 := w.co.t1
      have b2 := w.co.ba.liq b w.co.a1 (by show 0 ≤ (low c R x).2; grind) (by show (low c R x).2 ≤ 1; grind)
      have le := liq_le w.co.a1 (show 0 ≤ (low c R x).2 by grind) (show (low c R x).2 ≤ 1 by grind)
      rcases List.mem_cons.mp hp with e | hp
      · rw [e]
        exact b2.mono (by omega)
      · exact (rows_bz w f (6 + (1779 + n) + 2) _ b2 (by show liq c.a (low c R x).2 ≤ _; grind) p hp).mono (by omega)
    · cases hp
theorem fL_some {c : Col} {m : Nat} (hm : Fm c m) (h60 : m ≤ 60) {i : Nat} (hi : i < m) : (fL c 60 c.top)[i]? = some (itl c.a c.top (i + 1)) := by
  obtain ⟨m', h1, h2, h3, h4⟩ := fL_fm (c := c) 60 c.top
  have : m ≤ m' := by
    refine Nat.not_lt.mp fun q => ?_
    have d := h4 (by omega)
    have u := hm.up m' q
    grind
  rw [h2, List.getElem?_map, List.getElem?_range (by omega)]
  rfl
section
variable {P : Program} {w : World} {K : PySem.W.Frag} {mg : Str → Option Value} {base : Heap}
theorem sg110 : Sig d110 "_law_beside_right" ["_law_wish_here", "_law_back", "_law_full_here", "_law_walk", "_law_one", "_law_two"] ["_law_wish_here", "_law_back", "_law_full_here"] := ⟨memN 89, rfl, memF 89, rfl, rfl, ⟨rfl, rfl, rfl, by decide +kernel, rfl, by decide +kernel, by decide +kernel⟩, fun _ _ _ _ _ _ us hl => match us, hl with | [_, _, _], _ => rfl⟩
theorem f110 (M : Md K mg) : Fn P w K mg base "_law_beside_right" 13 ["_law_wish_here", "_law_back", "_law_full_here"] (Pm K (α := Col × Rat × Nat) (fun | (c, R, m) => [c.sv, .q R, .tup ((fullL c m).map .q)]) (fun | (c, R, m) => Cok c ∧ Bz 600 R ∧ Fm c m ∧ m ≤ 60) (fun | (c, R, m) => fun r => r = .bl true)) := by
  refine mk M sg110 (fun _ => rfl) (fun z hz => noOl rfl) fun s ⟨c, R, m⟩ hg => ?_
  obtain ⟨hc, hR, hm, h60⟩ := (show Cok c ∧ Bz 600 R ∧ Fm c m ∧ m ≤ 60 from hg)
  have p1 : Cok c ∧ Bz 600 R := ⟨hc, hR⟩
  have p2 : Cok c ∧ Fm c m := ⟨hc, hm⟩
  refine (ws_if (et_w (ew_or (et_not (et_val (fun _ _ => rfl) (ev_call (f94 M) rfl (ea_cons (ev_var 0 rfl (.inl rfl) rfl (ea_cons (ev_var 1 rfl (.inl rfl) rfl (ea_nil ⟨(c, R), rfl, p1, fun | _, ⟨b1, rfl, hb1⟩ => ⟨_, rfl, (ite_nbl (fun h2 => (ite_t (ws_ret (ev_bl rfl)))) (fun h2 => (ew_or1 (et_gt (ev_callf (f105 M) rfl (ea_cons (ev_var 0 rfl (.inl rfl) rfl (ea_cons (ev_var 1 rfl (.inl rfl) rfl (ea_cons (ev_int (ea_nil ⟨(c, R), rfl, (wok_of hc hR (hb1.mp h2).1), ⟨_, rfl, (ev_int ⟨_, rfl, (ite_dec (fun h3 => (ws_ret (ev_bl rfl))) (fun h3 => (ws_nil ?_)))⟩)⟩⟩))))))))))))⟩⟩)))))))))))
  have hp := hb1.mp h2
  have hl : (rowsF c R 21 c.top).length ≤ 20 := by
    have := (show ¬ (20 < ((rowsF c R 21 c.top).length : Int)) from by assumption)
    omega
  have st := flo_str hc hp.1
  obtain ⟨hB, eR⟩ := bok_of hc hR hp hl
  obtain ⟨l1, l2⟩ := rows_least hc st hm (by omega) (show (rowsF c R 21 c.top).length < 21 by omega)
  rw [← eR] at l1 l2
  obtain ⟨k0, t, eL⟩ := rows_cons hc st 59
  refine (ws_set 3 rfl (.inl rfl) (ev_callf (f63 M) rfl (ea_cons (ev_var 0 rfl (.inl rfl) rfl (ea_cons (ev_var 1 rfl (.inl rfl) rfl (ea_nil ⟨(c, R), rfl, hB, ⟨.inl rfl, ?_⟩⟩)))))))
  have lm := hm.lo
  have i0 : (Sv.tup ((rowsF c R 60 c.top).map rowS)).item 0 = some (rowS (k0, itl c.a c.top 1)) := by
    have q := item_map rowS (0, 0) (l := rowsF c R 60 c.top) (i := 0) (by omega)
    rw [eL] at q ⊢
    exact q
  have i1 : (Sv.tup ((fullL c m).map Sv.q)).item 0 = some (.q (itl c.a c.top 1)) := item_full (i := 0) (by omega)
  have hbz := rows_bz hB.w 60 10 c.top hc.btop Rat.le_refl
  have rl : ((fullL c m).map Sv.q).length = m := by rw [List.length_map, full_len]
  refine (ws_if (et_w (ew_or (et_lt (ev_len rfl (M.fr _ (memF 104)) (ev_var 3 rfl (.inl rfl) rfl ⟨_, rfl, ⟨_, rfl, (ev_len rfl (M.fr _ (memF 104)) (ev_var 2 rfl (.inl rfl) rfl ⟨_, rfl, ⟨_, rfl, (ite_dec (fun h1 => ?_) (fun h1 => (ew_or1 (et_neq (ev_ix (fun _ _ => rfl) (ev_ix (fun _ _ => rfl) (ev_var 3 rfl (.inl rfl) rfl (ev_int ⟨_, _, rfl, i0, (ev_int ⟨_, _, rfl, rfl, ⟨_, rfl, (ev_ix (fun _ _ => rfl) (ev_var 2 rfl (.inl rfl) rfl (ev_int ⟨_, _, rfl, i1, ⟨_, rfl, (ite_ndec (fun h2 => ?_) (fun h2 => (ws_nil ?_)))⟩⟩)))⟩⟩)⟩))))))))⟩⟩))⟩⟩))))))
  · have h4 : (((rowsF c R 60 c.top).map rowS).length : Int) < (((fullL c m).map Sv.q).length : Int) := h1
    rw [rl, List.length_map] at h4
    omega
  · exact absurd rfl h2
  refine ws_forZ (is := [4, 5]) (.cons rfl (.inl rfl) (.cons rfl (.inl rfl) .nil)) rfl rfl (M.fr _ (memF 112)) (ev_from (ev_var 3 rfl (.inl rfl) rfl ⟨_, rfl, (ev_int ⟨1, rfl, ?_⟩)⟩))
  have fl1 : ∀ z ∈ ((rowsF c R 60 c.top).map rowS).drop 1, z.flat = true := fun z hz => of_flatL (flat_rows _) z (List.mem_of_mem_drop hz)
  have fl2 : ∀ z ∈ ((fullL c m).map Sv.q).drop 1, z.flat = true := fun z hz => of_flatL (flat_qs _) z (List.mem_of_mem_drop hz)
  refine ⟨_, rfl, fl1, (ev_from (ev_var 2 rfl (.inl rfl) rfl ⟨_, rfl, (ev_int ⟨1, rfl, ⟨_, rfl, fl2, ?_⟩⟩)⟩))⟩
  refine ⟨fun i ρ' => ∃ y1 y2, ρ' = [some c.sv, some (.q R), some (.tup ((fullL c m).map .q)), some (.tup ((rowsF c R 60 c.top).map rowS)), y1, y2], ⟨none, none, rfl⟩, fun i x y ρ' hx hy ⟨y1, y2, hρ⟩ => ?_, fun ρ' ⟨y1, y2, hρ⟩ => ?_⟩
  · subst hρ
    have hy : (((fullL c m).map Sv.q).drop 1)[i]? = some y := hy
    have hx : (((rowsF c R 60 c.top).map rowS).drop 1)[i]? = some x := hx
    rw [List.getElem?_drop] at hx hy
    have hi : 1 + i < m := by
      have := (List.getElem?_eq_some_iff.mp hy).1
      rw [rl] at this
      exact this
    have ey : y = .q (itl c.a c.top (1 + i + 1)) := by
      have := item_full (c := c) hi
      have q : ((fullL c m).map Sv.q)[1 + i]? = some (.q (itl c.a c.top (1 + i + 1))) := by
        unfold fullL
        rw [List.map_map, List.getElem?_map, List.getElem?_range hi]
        rfl
      rw [q] at hy
      cases hy
      rfl
    obtain ⟨r, e1, e2⟩ := rows_full hc st 60 (1 + i) (by omega) (fL_some hm h60 hi)
    rw [List.getElem?_map, e1] at hx
    have ex : x = rowS r := by cases hx; rfl
    subst ex ey
    have b1 := hbz r (List.mem_of_getElem? e1)
    have b2 := itl_bz hc.a1 (top0 hc) (Rat.le_of_lt hc.t1) hc.ba hc.btop (1 + i + 1)
    have sb : Sb r.2 (itl c.a c.top (1 + i + 1)) := ⟨_, _, b1, b2, by omega⟩
    refine ⟨rfl, rfl, ?_⟩
    refine (ws_if (et_le (ev_callf (f80 M) rfl (ea_cons (ev_ix (fun _ _ => rfl) (ev_var 4 rfl (.inl rfl) rfl (ev_int ⟨_, _, rfl, rfl, (ea_cons (ev_var 5 rfl (.inl rfl) rfl (ea_nil ⟨(_, _), rfl, sb, ⟨_, rfl, (ev_int ⟨_, rfl, (ite_dec (fun h1 => ?_) (fun h1 => (ws_nil (ws_nil ?_))))⟩)⟩⟩)))⟩)))))))
    · exact absurd (sd_pos.mpr e2) (by have h1 : sd r.2 (itl c.a c.top (1 + i + 1)) ≤ 0 := h1; omega)
    · first
      | exact ⟨_, _, rfl⟩
      | exact ws_nil ⟨_, _, rfl⟩
  · subst hρ
    exact (ws_ret (ev_ge (ev_callf (f64 M) rfl (ea_cons (ev_var 0 rfl (.inl rfl) rfl (ea_cons (ev_var 1 rfl (.inl rfl) rfl (ea_nil ⟨(c, R), rfl, hB, ⟨_, rfl, (ev_callf (f107 M) rfl (ea_cons (ev_var 0 rfl (.inl rfl) rfl (ea_cons (ev_var 2 rfl (.inl rfl) rfl (ea_nil ⟨(c, m), rfl, p2, ⟨_, rfl, congrArg Sv.bl (decide_eq_true (by show (lst c m : Int) ≤ ((rowsF c R 60 c.top).length : Int); omega))⟩⟩))))))⟩⟩))))))))
end
end K39
end
section
set_option Elab.async false
set_option linter.all false
set_option exponentiation.threshold 10000
set_option maxRecDepth 100000
set_option maxHeartbeats 4000000
namespace K39
open PySem PySem.Spec PyProof.Rows L2
/-! ### tables of code objects beside the heap's growth -/
abbrev Tb := List (Addr × Str)
theorem tabs_gr {T : Tb} {s : Option Addr} {H H' : Hp} (h : LamX.Tabs T H) (hs : ∀ a, s = some a → Spr H a) (g : Gr s H H') : LamX.Tabs T H' := fun p hp => by
  obtain ⟨ps, e1, e2, e3⟩ := h p hp
  have no : ∀ {b : Addr} {o : HO}, H b = some o → (∀ xs, o ≠ .lst xs) → s ≠ some b := fun {b o} e n z => by
    obtain ⟨x, y, z', q, _⟩ := hs b z
    rw [e] at q
    cases q
    exact n _ rfl
  refine ⟨ps, g.keep _ _ e1 (no e1 fun _ z => nomatch z), e2, fun pos cv hc => ?_⟩
  obtain ⟨c, r1, r2⟩ := e3 pos cv hc
  exact ⟨c, r1, g.keep _ _ r2 (no r2 fun _ z => by unfold LamX.CodeO at z; cases z)⟩
theorem grN_ext {s : Option Addr} {H H' : Hp} (e : LamX.ExtN H H') : GrN s H H' :=
  ⟨fun b o h _ n => e b o h n, fun b xs h => e b _ h (fun _ z => nomatch z), fun a _ ⟨x, y, z, q, r⟩ => ⟨x, y, z, e _ _ q (fun _ w => nomatch w), r⟩⟩
/-! ### the law's try -/
def TCame (K : PySem.W.Frag) (CS : Addr) : (XK → Hp → VK → Prop) → Hp → VK → Prop := fun tl H Q =>
  tl (fun cls _ H' => ∃ b, PySem.W.exmOne K cls (.ref CS) = some b ∧ (b = true → Q (.str "more") H') ∧ (b = false → False)) H fun v H' => ∃ v', some (some v) = some (some v') ∧ Q v' H'
theorem sg99 : Sig d99 "_law_came" ["_law_act", "_law_told"] ["_law_act"] := ⟨memN 78, rfl, memF 78, rfl, rfl, ⟨rfl, rfl, rfl, by decide +kernel, rfl, by decide +kernel, by decide +kernel⟩, fun _ _ _ _ _ _ us hl => match us, hl with | [_], _ => rfl⟩
theorem came_gives {X : Cx} {q : Str} {g CS : Addr} {cdg : Value} (hm : X.mg "TooMany" = some (.ref CS)) : LamX.GivesTo X ["_law_act", "_law_told"] "_law_came" d99.scope g cdg d99.body "_law_act" q (TCame X.K CS) := by
  intro f c' s H Q tl act hc h
  have hgl : Gl (cxOf C8.CX0 X.prog X.w X.K X.mg X.base ["_law_act", "_law_told"] "_law_came" d99.scope g cdg X.A X.stack s H C8.E0).nox "TooMany" := by rfl
  have h0 : ∀ v, (L2.start ["_law_act", "_law_told"] [V.ref f]).set 1 (some v) = [some (V.ref f), some v] := fun v => rfl
  refine ⟨_, pss_cons (ps_try_only (X := (cxOf C8.CX0 X.prog X.w X.K X.mg X.base ["_law_act", "_law_told"] "_law_came" d99.scope g cdg X.A X.stack s H C8.E0).nox) (c := .ref CS)
      (tb := fun W D σ H => ∃ Ech : XK, (∀ cls d σ' H', Ech cls d H' → W cls d σ' H') ∧ σ[0]? = some (some (.ref f)) ∧ H c' = some (LamX.CodeO c' q) ∧ tl Ech H fun v H' => D.nx (σ.set 1 (some v)) H')
      (ts := fun _ _ _ D σ H => σ.length = 2 → D.nx (σ.set 1 (some (.str "more"))) H)
      rfl rfl ⟨hgl, by decide +kernel, .inl hm⟩ LamX.takes0 (fun W pn xe tk _ => ?_) (fun a oe cls d pn _ _ => ⟨fun pins s' σ H' D I h' => PSs.run (pss_one (ps_set (i := 1) sg99.scp.nd rfl (.inl rfl) pe_str (by rfl) (.inr rfl))) pins s' σ H' D I (h' I.len)⟩)) (pss_one (ps_ret (pe_var (i := 1) rfl (.inl rfl)))), ?_⟩
  · refine ⟨fun pins s' σ H' D I h' => ?_⟩
    obtain ⟨Ech, hW, h1, h2, h3⟩ := h'
    exact PSs.run (pss_one (ps_set (i := 1) sg99.scp.nd rfl (.inl rfl) (act W pn xe Ech _ _ tk hW) (by rfl) (.inr rfl))) pins s' σ H' D I ⟨h1, h2, h3⟩
  · refine ⟨fun cls _ H' => ∃ b, PySem.W.exmOne X.K cls (.ref CS) = some b ∧ (b = true → Q (.str "more") H') ∧ (b = false → False), fun cls d σ' H' ⟨b, e1, e2, e3⟩ => ⟨b, e1, fun hb a _ hl => ⟨_, List.getElem?_set_self (by omega), e2 hb⟩, fun hb => e3 hb⟩, rfl, hc, h⟩
end K39
end
section
set_option Elab.async false
set_option linter.all false
set_option exponentiation.threshold 10000
set_option maxRecDepth 100000
set_option maxHeartbeats 4000000
namespace K39
open PySem PySem.Spec PyProof.Rows L2
/-! ### expressions and blocks that may write a table of code objects -/
def EvN (S : Sc) (T : Tb) (e : Expr) (ρ : Ro) (Φ : Sv → Prop) : Prop :=
  ∀ X, Is X S → ∀ (σ : L2.St) (H : Hp), En S.K S.s σ H ρ → LamX.Tabs T H → ∀ Q : VK, (∀ v H' r, GrN S.s H H' → LamX.Tabs T H' → Sat S.K S.s H' v r → Φ r → Q v H') → WE X e σ H Q
def WsN (S : Sc) (T : Tb) (ts : List Stmt) (ρ : Ro) (R : Sv → Prop) : Prop :=
  ∀ X, Is X S → ∀ (σ : L2.St) (H : Hp), En S.K S.s σ H ρ → LamX.Tabs T H → ∀ D : Ends, (∀ v H' r, GrN S.s H H' → LamX.Tabs T H' → Sat S.K S.s H' v r → R r → D.rt v H') → WSs X ts D σ H
section
variable {S : Sc} {T : Tb} {ρ : Ro} {R : Sv → Prop} {Φ : Sv → Prop} {a b c e : Expr} {pos p p2 : Pos} {x : Str} {rest body : List Stmt}
theorem evn_ev (h : Ev S e ρ Φ) : EvN S T e ρ Φ := fun X hX σ H hE hT Q k => h X hX σ H hE Q fun v H' r g s q => k v H' r g.n (tabs_gr hT hE.spr g) s q
theorem wsn_ws (hno : noOwn ρ) (h : Ws S rest ρ (fun _ => False) R) : WsN S T rest ρ R := fun X hX σ H hE hT D k =>
  h X hX H σ H ⟨hE, Gr.refl, fun i l p e => absurd e (hno i l), fun i j l p r n e => absurd e (hno i l)⟩ D (fun _ _ _ _ _ z => z.elim) fun v H' r g s q => k v H' r g.n (tabs_gr hT hE.spr g) s q
theorem wsn_set (i : Nat) (hN : S.N[i]? = some x) (ht : Sto S x) (h : EvN S T a ρ fun r => WsN S T rest (ρ.set i (some r)) R) (hs : ∀ l t env, swapsWith a t l env = pure false := by intro _ _ _; rfl) : WsN S T (.Assign [.Name x p] a pos :: rest) ρ R := by
  intro X hX σ H hE hT D k
  refine WSs.of (pss_cons (ps_set (i := i) hX.nd (by rw [hX.N]; exact hN) (hX.loc ht) pe_W (hs _ _ _) (hX.sto ht)) pss_W) ?_
  refine h X hX σ H hE hT _ fun v H' r g t s q => ?_
  exact q X hX _ H' (En.sets (is := [i]) (hE.mono g) (.cons s .nil)) t D fun v2 H2 r2 g2 t2 s2 q2 => k v2 H2 r2 (g.trans g2) t2 s2 q2
theorem wsn_ret (h : EvN S T a ρ R) : WsN S T (.Return (some a) pos :: rest) ρ R := by
  intro X hX σ H hE hT D k
  refine WSs.of (pss_cons (ps_ret pe_W) pss_W) ?_
  exact h X hX σ H hE hT _ k
theorem wsn_if (h : Et S c ρ fun t => if t = true then WsN S T body ρ R else WsN S T rest ρ R) : WsN S T (.If c body [] pos :: rest) ρ R := by
  intro X hX σ H hE hT D k
  refine WSs.of (pss_cons (ps_if pt_W pss_W pss_nil) pss_W) ?_
  refine h X hX σ H hE _ fun t H' g q => ?_
  cases t with
  | true => exact q X hX σ H' (hE.mono g.n) (tabs_gr hT hE.spr g) _ fun v H2 r g2 t2 s2 q2 => k v H2 r (g.n.trans g2) t2 s2 q2
  | false => exact q X hX σ H' (hE.mono g.n) (tabs_gr hT hE.spr g) _ fun v H2 r g2 t2 s2 q2 => k v H2 r (g.n.trans g2) t2 s2 q2
/-- [a, b], the second item may write a table -/
theorem evn_lst2 (h : Ev S a ρ fun r => EvN S T b ρ fun r2 => Φ (.lst [r, r2])) (hs : ∀ env, starEach [a, b] env = (false, eval a env) :: starEach [b] env := by intro _; rfl) (hs2 : ∀ env, starEach [b] env = (false, eval b env) :: starEach [] env := by intro _; rfl) : EvN S T (.List [a, b] pos) ρ Φ := by
  intro X hX σ H hE hT Q k
  refine WE.of (pe_lst (pa_cons pe_W (pa_cons pe_W pa_nil (hs2 _)) (hs _))) (h X hX σ H hE _ fun v H1 r g1 s1 h2 => ?_)
  refine h2 X hX σ H1 (hE.mono g1.n) (tabs_gr hT hE.spr g1) _ fun v2 H2 r2 g2 t2 s2 h3 => ⟨by show 2 ≤ sizeLine; decide, fun q hq => ?_⟩
  have g3 : Gr S.s H2 (upd H2 q (.lst [v, v2])) := Gr.new hq
  have hE2 := hE.mono (g1.n.trans g2)
  exact k _ _ _ ((g1.n.trans g2).trans g3.n) (tabs_gr t2 hE2.spr g3) (.lst upd_same (hE2.new hq) (.cons ((s1.mono g2).mono g3.n) (.cons (s2.mono g3.n) .nil))) h3
/-! ### came(lambda: f(x)) -/
theorem evn_came {y : Str} {k : Nat} {f : Addr} {fd : FuncData} {α : Type} {args : α → List Sv} {pre : α → Prop} {res : α → Sv → Prop} {exc : α → Prop} {cc TT : Addr} {q : Str} {params : Arguments} {scope : Scope} {lpos p1 p3 : Pos} {r0 : Sv}
    (M : Md S.K S.mg) (hl : S.lam = some (cc, TT, q)) (hT : T = [(TT, q ++ "<lambda>")]) (hg : Glb S "_law_came")
    (hmy : S.mg y = some (.ref f)) (hky : PySem.W.keepIn S.K (.ref f) = true) (hby : Binds S.K fd ["column"] []) (F : FnOk S.P S.w S.K S.mg S.base (L2.CX S.P S.w) k f fd ["column"] (PmX S.K args pre res exc))
    (i : Nat) (hN : S.N[i]? = some x) (hx : scope.names.lookup x = some .free) (hy : scope.names.lookup y = some .globalImplicit) (hL : ∀ sc : Scope, sc.names = S.names → LamX.lamSB sc scope = true) (hlv : Nat.ble (k + 2) S.lvl = true)
    (hr : ρ[i]? = some (some r0)) (z : α) (hz : args z = [r0]) (h : (pre z ∧ ∀ r, res z r → Φ r) ∨ (exc z ∧ Φ (.str "more")))
    (hdef : ∀ env, defaultsOf params env = ([], []) := by intro _; rfl)
    (hbind : ∀ (q : Str) (cl : List (Str × Addr)) (pm cv ctv : Value), bindArgs (PySem.W.kla_fn "<lambda>" q params (.Call (.Name y p1) [.Name x p2] [] p3) scope cl pm cv ctv) ⟨[], []⟩ = pure [] := by intros; rfl)
    (hd1 : (x == ("__debug__" : Str)) = false := by decide +kernel) (hd2 : (x == ("__classdict__" : Str)) = false := by decide +kernel) (hd3 : (y == ("__debug__" : Str)) = false := by decide +kernel) :
    EvN S T (.Call (.Name "_law_came" p) [.Lambda params (.Call (.Name y p1) [.Name x p2] [] p3) scope lpos] [] pos) ρ Φ := by
  intro X hX σ H hE hT0 Q kk
  obtain ⟨e1, e2, e3, e4, e5, e6⟩ := M.exc
  obtain ⟨l1, l2, l3⟩ := hX.lm _ _ _ hl
  obtain ⟨fd9, F9⟩ := sg99.funD M
  have hb9 : Binds X.K fd9 ["_law_act"] [] := by rw [hX.K]; exact F9.bindsN sg99.bind
  have hkp := F9.kp
  obtain ⟨oc, od, dV, kV, doc, pm, an, cdv, ct, osl, rfl, lk, hcd, hD, hK⟩ := F9.ex
  have F' : FnOk X.prog X.w X.K X.mg X.base (L2.CX X.prog X.w) k f fd ["column"] (PmX S.K args pre res exc) := by rw [hX.P, hX.w, hX.K, hX.mg, hX.base]; exact F
  have hby' : Binds X.K fd ["column"] [] := by rw [hX.K]; exact hby
  have hq : X.env.qual ++ "<lambda>" = q ++ "<lambda>" := by rw [l2]
  have hP : PE X (.Call (.Name "_law_came" p) [.Lambda params (.Call (.Name y p1) [.Name x p2] [] p3) scope lpos] [] pos) (LamX.tLam T (TCame X.K (He.ga S.K "TooMany")) fun E => tCall (PmX S.K args pre res exc) [] E (tCons (tVar i) tNil)) :=
    LamX.pe_lamcall (k := k) (hX.gl hg) (by rw [hX.mg]; exact M.gl _ sg99.glo) (by rw [hX.K]; exact hkp) (by rw [hX.K]; exact lk) (by rw [hX.K]; exact hcd) hb9 sg99.scp rfl (.inl rfl)
      (came_gives (by rw [hX.mg]; exact e1)) l3 l1 (by rw [hq, hT]; exact List.mem_singleton.mpr rfl) (by rw [hq, hT]; intro z hz _; rw [List.mem_singleton.mp hz]) (hX.room.mono (Nat.le_of_ble_eq_true hlv)) (LamX.lamS_by (hL _ hX.names)) (hdef _) hbind
      (fun A outer s H E f' c' hr' => pe_call F' hr' hy (show X.mg y = _ by rw [hX.mg]; exact hmy) (show PySem.W.keepIn X.K _ = true by rw [hX.K]; exact hky) hby' .nil (passes_call (takes_of rfl rfl rfl rfl) (fun _ _ _ _ h => h)) (pa_cons (pe_var (i := i) (show X.N[i]? = some x by rw [hX.N]; exact hN) (.inr (.inr hx)) hd1 hd2) pa_nil) hd3)
  refine WE.of hP ⟨hT0, fun H1 eN T1 => ?_⟩
  have g1 : GrN S.s H H1 := grN_ext eN
  have hE1 := hE.mono g1
  obtain ⟨v, e7, h7⟩ := hE1.at_ i _ hr
  refine ⟨v, e7, S.s, z, hE1.spr, by rw [hz]; exact .cons h7 .nil, ?_⟩
  rcases h with ⟨hp, hq'⟩ | ⟨hp, hq'⟩
  · exact .inl ⟨hp, fun v' H' r g sa hr' => ⟨v', rfl, kk v' H' r (g1.trans g.n) (tabs_gr T1 hE1.spr g) sa (hq' r hr')⟩⟩
  · refine .inr ⟨hp, fun H' g => ⟨true, by rw [hX.K]; exact e6, fun _ => kk _ H' _ (g1.trans g.n) (tabs_gr T1 hE1.spr g) (.str _) hq', fun z => nomatch z⟩⟩
end
end K39
end
section
set_option Elab.async false
set_option linter.all false
set_option exponentiation.threshold 10000
set_option maxRecDepth 100000
set_option maxHeartbeats 4000000
namespace K39
open PySem PySem.Spec PyProof.Rows L2
def PmN (K : PySem.W.Frag) (T : Tb) {α : Type} (args : α → List Sv) (pre : α → Prop) (res : α → Sv → Prop) : Sp := fun vs H Q _ =>
  ∃ (s : Option Addr) (x : α), (∀ a, s = some a → Spr H a) ∧ LamX.Tabs T H ∧ pre x ∧ SatL K s H vs (args x) ∧ ∀ v H' r, GrN s H H' → LamX.Tabs T H' → Sat K s H' v r → res x r → Q v H'
/-- a def's promise where no repr is under way -/
structure FnG (P : Program) (w : World) (K : PySem.W.Frag) (mg : Str → Option Value) (base : Heap) (x : Str) (k : Nat) (ps : List Str) (sp : Sp) : Prop where
  ex : ∃ f fd, mg x = some (.ref f) ∧ PySem.W.keepIn K (.ref f) = true ∧ Binds K fd ps [] ∧ (∀ vs H Q E, sp vs H Q E → vs.length = ps.length) ∧ (∀ (s : Shared) (us : List Value), us.length = ps.length → BindsTo s fd ⟨us, []⟩ (ps.zip us)) ∧
    ∀ (A : Around) (outer : List Env) (s : Shared) (H : Hp) (ar : Args) (us : List Value) (vs : List V) (Q : VK) (E : XK), A.guards = some [] → Room k A → Env0 P w K mg base A outer s H → BindsTo s fd ar (ps.zip us) → Vals vs us → sp vs H Q E →
      codeAny (model P w) A (.call (.ref f) ar) (CR CX0 outer P w H s Q E) s
section
variable {P : Program} {w : World} {K : PySem.W.Frag} {mg : Str → Option Value} {base : Heap}
abbrev scG (P : Program) (w : World) (K : PySem.W.Frag) (mg : Str → Option Value) (base : Heap) (d : He.DefD) (N : List Str) (k : Nat) (s : Option Addr) (lam : Option (Addr × Addr × Str)) : Sc := ⟨P, w, K, mg, base, N, d.scope.names, k, s, true, true, lam⟩
theorem mkG {d : He.DefD} {x : Str} {N ps : List Str} {α : Type} {args : α → List Sv} {pre : α → Prop} {res : α → Sv → Prop} {k : Nat} {T : Tb} (lam : Option (Addr × Addr × Str)) (M : Md K mg) (g : Sig d x N ps) (hl : ∀ z, (args z).length = ps.length)
    (hlam : ∀ c TT q, lam = some (c, TT, q) → c = He.codeOf K (x, none) ∧ q = d.qual ++ ".<locals>." ∧ LamX.TabB base mg c TT)
    (body : ∀ (s : Option Addr) (z : α), pre z → WsN (scG P w K mg base d N k s lam) T d.body (ro N (args z)) (res z)) : FnG P w K mg base x (k + 1) ps (PmN K T args pre res) := by
  obtain ⟨fd, F⟩ := g.funD M
  have hb := F.bindsN g.bind
  have hkp := F.kp
  have hba := F.bindsA g.bind
  have len : ∀ vs H Q E, PmN K T args pre res vs H Q E → vs.length = ps.length := fun vs H Q E ⟨s, z, _, _, _, h, _⟩ => by rw [h.length, hl]
  obtain ⟨oc, od, dV, kV, doc, pm, an, cdv, ct, osl, rfl, lk, hcd, hD, hK⟩ := F.ex
  refine ⟨_, _, M.gl x g.glo, hkp, hb, len, hba, fun A outer s H ar us vs Q E hgd hr e0 hbt hv h => ?_⟩
  refine LamX.run_ofS lk hcd g.scp hr e0 hbt hv (len _ _ _ _ h) fun hr' => ?_
  obtain ⟨s', z, h0, h1, hp, h2, h3⟩ := h
  obtain ⟨c', hc'⟩ := He.codeIn_ref hcd
  have eC : He.codeOf K (x, none) = c' := He.codeOf_eq (p := (x, none)) lk hc'
  refine ⟨_, PSs.nox pss_W, ?_⟩
  exact body s' z hp _ ⟨rfl, rfl, rfl, rfl, rfl, rfl, rfl, g.scp.kind, hr', rfl, g.scp.nd, rfl, (fun _ _ => rfl), (fun _ => hgd), fun c TT q e => by
    obtain ⟨q1, q2, q3⟩ := hlam c TT q e
    refine ⟨?_, q2.symm, q3⟩
    show cdv = .ref c
    rw [hc', q1, eC]⟩ _ H (en_start h2 h0) h1 _ fun v H' r g t sa q => h3 v H' r g t sa q
end
section
variable {S : Sc} {T : Tb} {ρ : Ro} {Φ : Sv → Prop} {e : Expr} {es : List Expr} {pos p : Pos} {x : Str}
/-- a call, from its arguments' reading -/
theorem callG_we {k : Nat} {ps : List Str} {sp : Sp} {X : Cx} {σ : L2.St} {H : Hp} {Q : VK} (G : FnG S.P S.w S.K S.mg S.base x k ps sp) (hX : Is X S) (hg : Glb S x) (gd : S.g = true) (h : WA X (e :: es) σ H fun vs H1 => sp vs H1 Q E0) (hl : Nat.ble k S.lvl = true) (hdb : (x == ("__debug__" : Str)) = false)
    (he : ∀ env, starEach (e :: es) env = (false, eval e env) :: starEach es env) (hpl : ∀ env, (backTo pos (starEach es env)).any (·.1) = false) : WE X (.Call (.Name x p) (e :: es) [] pos) σ H Q := by
  obtain ⟨f, fd, hm, hk, hb, len, _, F⟩ := G.ex
  refine ⟨fun pins st I => ?_⟩
  refine wpAny_Call_Name_kw (ld_glob I (hX.gl hg) (by rw [hX.mg]; exact hm) ?_ hdb)
  refine PySem.W.callWith_K (h₀ := X.base) I.ok.mod.kin (by rw [hX.K]; exact hk) (thn (pa_W.run pos pins st σ H (fun vs H1 => sp vs H1 Q E0) I h) fun us s1 ⟨vs, H1, I1, r, q⟩ => ⟨I1.kIn, ?_⟩) (he _) (hpl _)
  have lu : us.length = ps.length := by rw [← r.length]; exact len _ _ _ _ q
  have b := hb s1 us (by rw [← hX.K]; exact I1.kIn) (by rw [List.append_nil]; exact lu)
  rw [List.append_nil] at b
  have e0 : Env0 S.P S.w S.K S.mg S.base X.A X.stack s1 H1 := by rw [← hX.P, ← hX.w, ← hX.K, ← hX.mg, ← hX.base]; exact I1.env0
  have run := F X.A X.stack s1 H1 ⟨us, []⟩ us vs Q E0 (hX.gd gd) (hX.room.mono (Nat.le_of_ble_eq_true hl)) e0 b r q
  rw [← hX.P, ← hX.w] at run
  refine wpAny_call (codeAny_mono run fun r s' hq => ?_)
  cases r with
  | error e => exact (show False from hq).elim
  | ok fl =>
    cases fl with
    | ret u => exact I1.after hq
    | next => exact False.elim hq
    | brk => exact False.elim hq
    | cont => exact False.elim hq
theorem evn_callG {α : Type} {k : Nat} {ps : List Str} {args : α → List Sv} {pre : α → Prop} {res : α → Sv → Prop} (G : FnG S.P S.w S.K S.mg S.base x k ps (PmN S.K T args pre res)) (hg : Glb S x) (gd : S.g = true)
    (h : Ea S (e :: es) ρ fun l => ∃ z : α, args z = l ∧ pre z ∧ ∀ r, res z r → Φ r) (hl : Nat.ble k S.lvl = true := by rfl) (hdb : (x == ("__debug__" : Str)) = false := by decide +kernel)
    (he : ∀ env, starEach (e :: es) env = (false, eval e env) :: starEach es env := by intro _; rfl) (hpl : ∀ env, (backTo pos (starEach es env)).any (·.1) = false := by intro _; rfl) : EvN S T (.Call (.Name x p) (e :: es) [] pos) ρ Φ := by
  intro X hX σ H hE hT Q kk
  refine callG_we G hX hg gd (h X hX σ H hE _ fun vs H1 l g1 s1 ⟨z, q1, q2, q3⟩ => ?_) hl hdb he hpl
  subst q1
  exact ⟨S.s, z, (hE.mono g1.n).spr, tabs_gr hT hE.spr g1, q2, s1, fun v H2 r g2 t2 s2 h3 => kk v H2 r (g1.n.trans g2) t2 s2 (q3 r h3)⟩
end
end K39
end
section
set_option Elab.async false
set_option linter.all false
set_option exponentiation.threshold 10000
set_option maxRecDepth 100000
set_option maxHeartbeats 4000000
/-! T40: what is shown of the told things. -/
namespace K39
open PySem PySem.Spec PyProof.Rows L2
def qD (r : Rat) : PyData := .tuple [.int r.num, .int (r.den : Int)]
def dT (c : Col) (m : Nat) : List PyData := [.tuple ((fullL c m).map qD), .int (m : Int)]
theorem pdL_qs : ∀ l : List Rat, Sv.pdL (l.map .q) = some (l.map qD)
  | [] => rfl
  | r :: l => by
    rw [List.map_cons, List.map_cons, Sv.pdL, pdL_qs l]
    rfl
theorem pd_told {c : Col} {m : Nat} {n : Int} (h : n = m) : Sv.pdL [.tup ((fullL c m).map .q), .int n] = some (dT c m) := by
  subst h
  have e : Sv.pd (.tup ((fullL c m).map .q)) = some (.tuple ((fullL c m).map qD)) := by
    rw [Sv.pd, pdL_qs]
    rfl
  rw [Sv.pdL, e]
  rfl
theorem len_nat {c : Col} {m : Nat} : ((((fullL c m).map Sv.q).length : Nat) : Int) = m := by rw [List.length_map, full_len]
/-- small ints -/
def Sm (i : Int) : Prop := i.natAbs.log2 < 1920
theorem sm_of {i : Int} {n : Nat} (h : i.natAbs < 2 ^ n) (hn : n ≤ 1900) : Sm i := by
  unfold Sm
  by_cases e : i.natAbs = 0
  · rw [e]; decide
  · have := (Nat.log2_lt e).mpr h
    omega
theorem int_len {i : Int} (h : Sm i) : (PyData.int i).shown.length ≤ 1921 := int_text_len_1921 h
theorem tuple_len (ds : List PyData) : (PyData.tuple ds).shown.length ≤ piled (PyData.shownAll ds) + 2 := by
  rw [PyData.shown]
  exact fmt_text _
theorem q_len {r : Rat} (h1 : Sm r.num) (h2 : Sm (r.den : Int)) : (qD r).shown.length ≤ 3848 := by
  refine Nat.le_trans (tuple_len _) ?_
  have a := int_len h1
  have b := int_len h2
  rw [PyData.shownAll, PyData.shownAll, PyData.shownAll, piled_cons, piled_cons, piled_nil]
  omega
theorem qs_len : ∀ l : List Rat, (∀ r ∈ l, Sm r.num ∧ Sm (r.den : Int)) → piled (PyData.shownAll (l.map qD)) ≤ l.length * 3850
  | [], _ => Nat.zero_le _
  | r :: l, h => by
    have a := q_len (h r List.mem_cons_self).1 (h r List.mem_cons_self).2
    have b := qs_len l fun z hz => h z (List.mem_cons_of_mem _ hz)
    rw [List.map_cons, PyData.shownAll, piled_cons, List.length_cons, Nat.succ_mul]
    omega
theorem list2_len (a b : PyData) : (PyData.list [a, b]).shown.length ≤ a.shown.length + b.shown.length + 10 := by
  have e0 : (("[" : Str)).length = 1 := rfl
  have e1 : (("]" : Str)).length = 1 := rfl
  have e2 : (((if (0 : Nat) > 0 then ", " else "" : String)) : Str).length ≤ 2 := by decide +kernel
  have e3 : (((if (0 + 1 : Nat) > 0 then ", " else "" : String)) : Str).length ≤ 2 := by decide +kernel
  rw [PyData.shown, PyData.shownAll, PyData.shownAll, PyData.shownAll]
  unfold listText
  rw [textFrom, textFrom, textFrom]
  simp only [strLen_append]
  omega
theorem sh_qs : ∀ l : List Rat, (∀ r ∈ l, Sm r.num ∧ Sm (r.den : Int)) → PyData.showableAll (l.map qD) = true
  | [], _ => rfl
  | r :: l, h => by
    have ⟨a, b⟩ := h r List.mem_cons_self
    have ih := sh_qs l fun z hz => h z (List.mem_cons_of_mem _ hz)
    rw [List.map_cons, PyData.showableAll, ih, qD, PyData.showable, PyData.showableAll, PyData.showableAll, PyData.showableAll, PyData.showable, PyData.showable]
    rw [decide_eq_true (show r.num.natAbs.log2 < 1920 from a), decide_eq_true (show ((r.den : Int)).natAbs.log2 < 1920 from b)]
    rfl
theorem hd_qs : ∀ l : List Rat, PyData.hasDictAll (l.map qD) = false
  | [] => rfl
  | r :: l => by
    rw [List.map_cons, PyData.hasDictAll, hd_qs l]
    rfl
theorem dp_qs : ∀ l : List Rat, PyData.depthAll (l.map qD) ≤ 1
  | [] => Nat.zero_le _
  | r :: l => by
    have := dp_qs l
    have e : (qD r).depth = 1 := rfl
    rw [List.map_cons, PyData.depthAll, e]
    omega
structure Shown (ds : List PyData) : Prop where
  s : (PyData.list ds).showable = true
  d : (PyData.list ds).hasDict = false
  h : (PyData.list ds).depth ≤ 60
  l : (PyData.list ds).shown.length ≤ sizeLine
theorem shown_told {c : Col} {m : Nat} (hc : Cok c) (h60 : m ≤ 60) : Shown (dT c m) := by
  have sm : ∀ r ∈ fullL c m, Sm r.num ∧ Sm (r.den : Int) := fun r hr => by
    obtain ⟨k, hk, rfl⟩ := List.mem_map.mp (show r ∈ (List.range m).map fun k => itl c.a c.top (k + 1) from hr)
    have hk := List.mem_range.mp hk
    have b := itl_bz hc.a1 (top0 hc) (Rat.le_of_lt hc.t1) hc.ba hc.btop (k + 1)
    exact ⟨sm_of b.n (by omega), sm_of b.d (by omega)⟩
  have mm : Sm (m : Int) := sm_of (n := 6) (by rw [Int.natAbs_natCast]; omega) (by omega)
  refine ⟨?_, ?_, ?_, ?_⟩
  · unfold dT
    rw [PyData.showable, PyData.showableAll, PyData.showableAll, PyData.showableAll, PyData.showable, PyData.showable, sh_qs _ sm, decide_eq_true (show ((m : Int)).natAbs.log2 < 1920 from mm)]
    rfl
  · unfold dT
    rw [PyData.hasDict, PyData.hasDictAll, PyData.hasDictAll, PyData.hasDictAll, PyData.hasDict, PyData.hasDict, hd_qs]
    rfl
  · unfold dT
    have := dp_qs (fullL c m)
    rw [PyData.depth, PyData.depthAll, PyData.depthAll, PyData.depthAll, PyData.depth, PyData.depth]
    omega
  · refine Nat.le_trans (list2_len _ _) ?_
    have a := tuple_len ((fullL c m).map qD)
    have b := qs_len _ sm
    have d := int_len mm
    rw [full_len] at b
    have e : m * 3850 ≤ 60 * 3850 := Nat.mul_le_mul_right _ h60
    rw [sizeLine_eq]
    omega
abbrev dM : List PyData := [.str "more", .str "more"]
theorem shown_more : Shown dM := ⟨rfl, rfl, by decide, by decide +kernel⟩
theorem big_pair : [Sv.int (10 ^ (60 : Int).toNat), Sv.int 1] = [Sv.int big.num, Sv.int (big.den : Int)] := by
  have e : (10 ^ (60 : Int).toNat : Int) = big.num := by
    show _ = ((10 ^ 60 : Nat) : Int)
    rw [Int.natCast_pow]
    rfl
  rw [e]
  rfl
theorem big_bok {c : Col} {m : Nat} (hc : Cok c) (hm : Fm c m) (h5 : m ≤ 5) : Bok c big ∧ (rowsF c big 60 c.top).length = lst c m := by
  have e := big_rows hc hm h5
  have l6 : lst c m ≤ 6 := by unfold lst; split <;> omega
  obtain ⟨b, e2⟩ := bok_of hc big_bz ⟨big_flo hc, big_kinks hc⟩ (by omega)
  exact ⟨b, by rw [e2, e]⟩
end K39
end
section
set_option Elab.async false
set_option linter.all false
set_option exponentiation.threshold 10000
set_option maxRecDepth 100000
set_option maxHeartbeats 4000000
namespace K39
open PySem PySem.Spec PyProof.Rows L2
abbrev oC (K : PySem.W.Frag) : Addr := (He.cT K ("_law_one_right", none)).1
abbrev oP (K : PySem.W.Frag) : Addr := (He.cT K ("_law_one_right", none)).2
abbrev oQ : Str := ("_law_one_right" : Str) ++ ".<locals>."
abbrev oT (K : PySem.W.Frag) : Tb := [(oP K, oQ ++ "<lambda>")]
abbrev oL (K : PySem.W.Frag) : Option (Addr × Addr × Str) := some (oC K, oP K, oQ)
theorem lamS_eq {names : List (Str × NameKind)} {scope : Scope} (h : LamX.lamSB ⟨.function, names, false, false, []⟩ scope = true) : ∀ sc : Scope, sc.names = names → LamX.lamSB sc scope = true := fun sc e => by
  unfold LamX.lamSB at h ⊢
  rw [e]
  exact h
section
variable {P : Program} {w : World} {K : PySem.W.Frag} {mg : Str → Option Value} {base : Heap}
theorem sg111 : Sig d111 "_law_one_right" ["_law_spring_here", "_law_wish_here", "_law_full_here", "_law_one", "_law_told", "_law_back"] ["_law_spring_here", "_law_wish_here"] := ⟨memN 90, rfl, memF 90, rfl, rfl, ⟨rfl, rfl, rfl, by decide +kernel, rfl, by decide +kernel, by decide +kernel⟩, fun _ _ _ _ _ _ us hl => match us, hl with | [_, _], _ => rfl⟩
abbrev oS (P : Program) (w : World) (K : PySem.W.Frag) (mg : Str → Option Value) (base : Heap) (s : Option Addr) : Sc := scG P w K mg base d111 ["_law_spring_here", "_law_wish_here", "_law_full_here", "_law_one", "_law_told", "_law_back"] 13 s (oL K)
theorem r61 (M : Md K mg) (s : Option Addr) (c : Col) (m : Nat) (hc : Cok c) (hm : Fm c m) (h61 : m = 61) : Ws (oS P w K mg base s) (d111.body.drop 3) [some .spr, some c.sv, some (.tup ((fullL c m).map .q)), some (.str "more"), some (.lst [.str "more", .str "more"]), none] (fun _ => False) (fun r => r = .bl true) := by
  show Ws _ (_ :: _) _ _ _
  have up := hm.up 60 (by omega)
  have e : decide (itl c.a c.top 60 < c.foot ∨ (60 = 1 ∧ itl c.a c.top 60 = c.foot)) = false := decide_eq_false fun q => by
    rcases q with q | q
    · grind
    · exact absurd q.1 (by decide)
  have pm : Sv.pdL [.str "more", .str "more"] = some dM := rfl
  refine (ws_if (et_gt (ev_len rfl (M.fr _ (memF 104)) (ev_var 2 rfl (.inl rfl) rfl ⟨_, rfl, ⟨_, rfl, (ev_int ⟨_, rfl, (ite_dec (fun h1 => (ws_ret (ev_and (ev_eqS (ev_reprD rfl rfl (M.fr _ (memF 111)) (ev_var 4 rfl (.inl rfl) rfl ⟨_, _, rfl, pm, shown_more.s, shown_more.d, shown_more.h, shown_more.l, ⟨_, rfl, (ev_reprD rfl rfl (M.fr _ (memF 111)) (ev_lst (ea_cons (ev_str (ea_cons (ev_str (ea_nil ⟨by simp [sizeLine_eq], ⟨_, _, rfl, pm, shown_more.s, shown_more.d, shown_more.h, shown_more.l, ⟨_, rfl, ⟨_, rfl, (ite_dec (fun h2 => (ev_and1 (ev_isB (ev_callf (f69 M) rfl (ea_cons (ev_var 1 rfl (.inr (.inl rfl)) rfl (ea_cons (ev_int (ea_nil ⟨(c, 60), rfl, ⟨hc, by omega, by omega⟩, ⟨_, rfl, (ev_bl ⟨_, rfl, ?_⟩)⟩⟩))))))))) (fun h2 => ?_))⟩⟩⟩⟩)))))))⟩⟩)))))) (fun h1 => ?_))⟩)⟩⟩))))
  · exact congrArg Sv.bl (decide_eq_true e)
  · exact absurd rfl h2
  · have l := len_nat (c := c) (m := m)
    have h1 : ¬ (60 < ((((fullL c m).map Sv.q).length : Nat) : Int)) := by assumption
    omega
theorem r60 (M : Md K mg) (s : Option Addr) (c : Col) (m : Nat) (hc : Cok c) (hm : Fm c m) (h60 : m ≤ 60) : Ws (oS P w K mg base s) (d111.body.drop 3) [some .spr, some c.sv, some (.tup ((fullL c m).map .q)), some (.tup ((fullL c m).map .q)), some (.lst [.tup ((fullL c m).map .q), .int (m : Int)]), none] (fun _ => False) (fun r => r = .bl true) := by
  show Ws _ (_ :: _) _ _ _
  have l := len_nat (c := c) (m := m)
  have sh := shown_told hc h60
  have pa : Sv.pdL [.tup ((fullL c m).map .q), .int (m : Int)] = some (dT c m) := pd_told rfl
  have pb : Sv.pdL [.tup ((fullL c m).map .q), .int ((((fullL c m).map Sv.q).length : Nat) : Int)] = some (dT c m) := pd_told l
  have p1 : Cok c ∧ Fm c m ∧ m ≤ 60 := ⟨hc, hm, h60⟩
  refine (ws_if (et_gt (ev_len rfl (M.fr _ (memF 104)) (ev_var 2 rfl (.inl rfl) rfl ⟨_, rfl, ⟨_, rfl, (ev_int ⟨_, rfl, (ite_dec (fun h1 => ?_) (fun h1 => (ws_nil ?_)))⟩)⟩⟩))))
  · have h1 : 60 < ((((fullL c m).map Sv.q).length : Nat) : Int) := h1
    omega
  refine (ws_if (et_w (ew_or (et_neS (ev_reprD rfl rfl (M.fr _ (memF 111)) (ev_var 4 rfl (.inl rfl) rfl ⟨_, _, rfl, pa, sh.s, sh.d, sh.h, sh.l, ⟨_, rfl, (ev_reprD rfl rfl (M.fr _ (memF 111)) (ev_lst (ea_cons (ev_var 2 rfl (.inl rfl) rfl (ea_cons (ev_len rfl (M.fr _ (memF 104)) (ev_var 2 rfl (.inl rfl) rfl ⟨_, rfl, (ea_nil ⟨by simp [sizeLine_eq], ⟨_, _, rfl, pb, sh.s, sh.d, sh.h, sh.l, ⟨_, rfl, (ite_ndec (fun h1 => ?_) (fun h1 => (ew_or1 (et_not (et_val (fun _ _ => rfl) (ev_callf (f109 M) rfl (ea_cons (ev_var 1 rfl (.inr (.inl rfl)) rfl (ea_cons (ev_var 2 rfl (.inl rfl) rfl (ea_nil ⟨(c, m), rfl, p1, ⟨_, rfl, (ite_f (ws_nil ?_))⟩⟩)))))))))))⟩⟩⟩)⟩)))))))⟩⟩))))))
  · exact absurd rfl h1
  refine (ws_if (et_neS (ev_reprD rfl rfl (M.fr _ (memF 111)) (ev_lst (ea_cons (ev_callk (fk65 M) rfl (ek_cons (ev_var 1 rfl (.inr (.inl rfl)) rfl (ek_nil ⟨(c, m), rfl, rfl, p1, fun | _, rfl => (ea_cons (ev_callk (fk66 M) rfl (ek_cons (ev_var 1 rfl (.inr (.inl rfl)) rfl (ek_nil ⟨(c, m), rfl, rfl, p1, fun | _, rfl => (ea_nil ⟨by simp [sizeLine_eq], ⟨_, _, rfl, pa, sh.s, sh.d, sh.h, sh.l, ⟨_, rfl, (ev_reprD rfl rfl (M.fr _ (memF 111)) (ev_lst (ea_cons (ev_var 2 rfl (.inl rfl) rfl (ea_cons (ev_len rfl (M.fr _ (memF 104)) (ev_var 2 rfl (.inl rfl) rfl ⟨_, rfl, (ea_nil ⟨by simp [sizeLine_eq], ⟨_, _, rfl, pb, sh.s, sh.d, sh.h, sh.l, ⟨_, rfl, (ite_ndec (fun h1 => ?_) (fun h1 => (ws_nil ?_)))⟩⟩⟩)⟩)))))))⟩⟩⟩)⟩)))))⟩)))))))))
  · exact absurd rfl h1
  refine ws_forL (is := [5]) (bt := false) (.name rfl (.inl rfl)) (noOwn_of rfl) (ev_lst (ea_cons (ev_call (f97 M) rfl (ea_cons (ev_var 0 rfl (.inl rfl) rfl (ea_cons (ev_var 1 rfl (.inr (.inl rfl)) rfl (ea_nil ⟨_, rfl, hc, fun | _, ⟨q1, rfl, hq1⟩ => (ea_cons (ev_callf (f76 M) rfl (ea_cons (ev_call (f96 M) rfl (ea_cons (ev_var 1 rfl (.inr (.inl rfl)) rfl (ea_nil ⟨_, rfl, hc, fun | _, ⟨q2, rfl, hq2⟩ => (ea_cons (ev_call (f82 M) rfl (ea_cons (ev_var 0 rfl (.inl rfl) rfl (ea_nil ⟨(), rfl, trivial, fun | _, ⟨q3, rfl, hq3⟩ => (ea_nil ⟨(_, _), rfl, ⟨_, _, hq2, hq3.2, by omega, .inl (by omega)⟩, (ea_nil ⟨by simp [sizeLine_eq], ⟨_, rfl, ?_⟩⟩)⟩)⟩)))))⟩)))))))⟩))))))))
  refine ⟨fun i ρ' => ∃ y, ρ' = [some .spr, some c.sv, some (.tup ((fullL c m).map .q)), some (.tup ((fullL c m).map .q)), some (.lst [.tup ((fullL c m).map .q), .int (m : Int)]), y], ⟨none, rfl⟩, fun i z ρ' hz ⟨y, hρ⟩ => ?_, fun ρ' ⟨y, hρ⟩ => ?_⟩
  · subst hρ
    obtain ⟨t, rfl, ht⟩ : ∃ t, z = .q t ∧ Bz 600 t := by
      match i, hz with
      | 0, hz => cases hz; exact ⟨_, rfl, hq1⟩
      | 1, hz => cases hz; exact ⟨_, rfl, (hq2.add hq3.2).mono (by omega)⟩
    have p2 : Cok c ∧ Bz 600 t ∧ Fm c m ∧ m ≤ 60 := ⟨hc, ht, hm, h60⟩
    refine ⟨_, rfl, rfl, by simp [Sv.isL], ?_⟩
    refine (ws_if (et_not (et_val (fun _ _ => rfl) (ev_callf (f110 M) rfl (ea_cons (ev_var 1 rfl (.inr (.inl rfl)) rfl (ea_cons (ev_var 5 rfl (.inl rfl) rfl (ea_cons (ev_var 2 rfl (.inl rfl) rfl (ea_nil ⟨(c, _, m), rfl, p2, ⟨_, rfl, (ite_f (ws_nil (ws_nil ?_)))⟩⟩)))))))))))
    first
      | exact ⟨_, rfl⟩
      | exact ws_nil ⟨_, rfl⟩
  · subst hρ
    have p3 : Cok c ∧ Fm c m := ⟨hc, hm⟩
    refine (ws_if (et_w (ew_or (et_gt (ev_len rfl (M.fr _ (memF 104)) (ev_var 2 rfl (.inl rfl) rfl ⟨_, rfl, ⟨_, rfl, (ev_int ⟨_, rfl, (ite_dec (fun h1 => (ite_t (ws_ret (ev_bl rfl)))) (fun h1 => (ew_or1 (et_eq (ev_call (f72 M) rfl (ea_cons (ev_var 0 rfl (.inl rfl) rfl (ea_cons (ev_int (ea_nil ⟨_, rfl, ⟨by decide, by decide⟩, fun | _, ⟨d2, rfl, hd2⟩ => ⟨_, rfl, (ev_int ⟨_, rfl, (ite_dec (fun h3 => (ws_ret (ev_bl rfl))) (fun h3 => (ws_nil ?_)))⟩)⟩⟩))))))))))⟩)⟩⟩))))))
    have h5 : m ≤ 5 := by
      have h1 : ¬ (5 < ((((fullL c m).map Sv.q).length : Nat) : Int)) := h1
      omega
    obtain ⟨hB, eB⟩ := big_bok hc hm h5
    have zp : CPow 10 60 := ⟨by decide, by decide +kernel⟩
    exact (ws_ret (ev_eq (ev_callf (f64 M) rfl (ea_cons (ev_var 1 rfl (.inr (.inl rfl)) rfl (ea_cons (ev_tupq (ea_cons (ev_pow (ev_int ⟨_, rfl, (ev_int ⟨_, rfl, zp, (ea_cons (ev_int (ea_nil ⟨big, big_pair, (ea_nil ⟨(c, big), rfl, hB, ⟨_, rfl, (ev_callf (f107 M) rfl (ea_cons (ev_var 1 rfl (.inr (.inl rfl)) rfl (ea_cons (ev_var 2 rfl (.inl rfl) rfl (ea_nil ⟨(c, m), rfl, p3, ⟨_, rfl, congrArg Sv.bl (decide_eq_true (by show ((rowsF c big 60 c.top).length : Int) = (lst c m : Int); omega))⟩⟩))))))⟩⟩)⟩)))⟩)⟩))))))))))
end
end K39
end
section
set_option Elab.async false
set_option linter.all false
set_option exponentiation.threshold 10000
set_option maxRecDepth 100000
set_option maxHeartbeats 4000000
namespace K39
open PySem PySem.Spec PyProof.Rows L2
theorem in13 {n : Int} (h : n ∈ [(1 : Int), 1, 2, 2, 3]) : 1 ≤ n ∧ n ≤ 3 := by
  simp at h
  omega
theorem nat13 {n : Int} (h : n ∈ [(1 : Int), 1, 2, 2, 3]) : [Sv.spr, Sv.int ((n.toNat : Nat) : Int)] = [Sv.spr, Sv.int n] := by
  have := in13 h
  rw [show ((n.toNat : Nat) : Int) = n from by omega]
section
variable {P : Program} {w : World} {K : PySem.W.Frag} {mg : Str → Option Value} {base : Heap}
theorem b111 (M : Md K mg) (s : Option Addr) (c : Col) (hc : Cok c) : WsN (oS P w K mg base s) (oT K) d111.body (ro ["_law_spring_here", "_law_wish_here", "_law_full_here", "_law_one", "_law_told", "_law_back"] [.spr, c.sv]) (fun r => r = .bl true) := by
  show WsN _ _ (_ :: _) _ _
  refine wsn_set 2 rfl (.inl rfl) (evn_ev (ev_call (f106 M) rfl (ea_cons (ev_var 1 rfl (.inr (.inl rfl)) rfl (ea_nil ⟨_, rfl, hc, fun | _, ⟨m1, hm1, rfl⟩ => ?_⟩)))))
  obtain ⟨fd5, F5, G5⟩ := fx65 (P := P) (w := w) (base := base) M
  obtain ⟨fd6, F6, G6⟩ := fx66 (P := P) (w := w) (base := base) M
  have k5 := F5.kp
  have k6 := F6.kp
  have b5 := F5.bindsN sg65.bind
  have b6 := F6.bindsN sg66.bind
  by_cases h60 : m1 ≤ 60
  · refine wsn_set 3 rfl (.inl rfl) (evn_came M rfl rfl rfl (M.gl _ sg65.glo) k5 b5 G5 1 rfl rfl rfl (lamS_eq (by rfl)) rfl rfl (c, m1) rfl (.inl ⟨⟨hc, hm1, h60⟩, fun r hr => ?_⟩))
    cases hr
    refine wsn_set 4 rfl (.inl rfl) (evn_lst2 (ev_var 3 rfl (.inl rfl) rfl (evn_came M rfl rfl rfl (M.gl _ sg66.glo) k6 b6 G6 1 rfl rfl rfl (lamS_eq (by rfl)) rfl rfl (c, m1) rfl (.inl ⟨⟨hc, hm1, h60⟩, fun r hr => ?_⟩))))
    cases hr
    exact wsn_ws (noOwn_of rfl) (r60 M s c m1 hc hm1 h60)
  · have h61 : m1 = 61 := by have := hm1.hi; omega
    refine wsn_set 3 rfl (.inl rfl) (evn_came M rfl rfl rfl (M.gl _ sg65.glo) k5 b5 G5 1 rfl rfl rfl (lamS_eq (by rfl)) rfl rfl (c, m1) rfl (.inr ⟨⟨hc, hm1, h61⟩, ?_⟩))
    refine wsn_set 4 rfl (.inl rfl) (evn_lst2 (ev_var 3 rfl (.inl rfl) rfl (evn_came M rfl rfl rfl (M.gl _ sg66.glo) k6 b6 G6 1 rfl rfl rfl (lamS_eq (by rfl)) rfl rfl (c, m1) rfl (.inr ⟨⟨hc, hm1, h61⟩, ?_⟩))))
    exact wsn_ws (noOwn_of rfl) (r61 M s c m1 hc hm1 h61)
theorem f111 (M : Md K mg) (TB : LamX.TabB base mg (oC K) (oP K)) : FnG P w K mg base "_law_one_right" 14 ["_law_spring_here", "_law_wish_here"] (PmN K (oT K) (fun c : Col => [.spr, c.sv]) Cok (fun _ r => r = .bl true)) :=
  mkG (oL K) M sg111 (fun _ => rfl) (fun c TT q e => by cases e; exact ⟨rfl, rfl, TB⟩) fun s c hc => b111 M s c hc
theorem sg112 : Sig d112 "_law_right" ["_law_spring_here", "_law_wish_here"] ["_law_spring_here"] := ⟨memN 91, rfl, memF 91, rfl, rfl, ⟨rfl, rfl, rfl, by decide +kernel, rfl, by decide +kernel, by decide +kernel⟩, fun _ _ _ _ _ _ us hl => match us, hl with | [_], _ => rfl⟩
theorem f112 (M : Md K mg) (TB : LamX.TabB base mg (oC K) (oP K)) : FnG P w K mg base "_law_right" 15 ["_law_spring_here"] (PmN K (oT K) (fun _ : Unit => [.spr]) (fun _ => True) (fun _ r => r = .bl true)) := by
  refine mkG none M sg112 (fun _ => rfl) (fun c TT q e => nomatch e) fun s _ _ => ?_
  show WsN _ _ (_ :: _) _ _
  refine wsn_if (et_eq (ev_call (f72 M) rfl (ea_cons (ev_var 0 rfl (.inl rfl) rfl (ea_cons (ev_int (ea_nil ⟨_, rfl, ⟨by decide, by decide⟩, fun | _, ⟨d1, rfl, hd1⟩ => ⟨_, rfl, (ev_int ⟨_, rfl, (ite_dec (fun h1 => ?_) (fun h1 => ?_))⟩)⟩⟩)))))))
  · exact wsn_ret (evn_callG (f111 M TB) rfl rfl (ea_cons (ev_var 0 rfl (.inl rfl) rfl (ea_cons (ev_ix (fun _ _ => rfl) (ev_call (f98 M) rfl (ea_cons (ev_var 0 rfl (.inl rfl) rfl (ea_nil ⟨(), rfl, trivial, fun | _, ⟨c1, r1, rfl, hc1⟩ => (ev_int ⟨_, _, rfl, rfl, (ea_nil ⟨_, rfl, hc1, fun _ h => h⟩)⟩)⟩)))))))))
  · refine wsn_set 1 rfl (.inl rfl) (evn_ev (ev_call (f88 M) rfl (ea_cons (ev_var 0 rfl (.inl rfl) rfl (ea_cons (ev_call (f73i M) rfl (ea_cons (ev_var 0 rfl (.inl rfl) rfl (ea_cons (ev_ints [1, 1, 2, 2, 3] (.cons (.cons (.cons (.cons (.cons .nil))))) (ea_nil ⟨_, rfl, ⟨by decide, by decide⟩, fun | _, ⟨n1, rfl, hn1⟩ => (ea_nil ⟨n1.toNat, nat13 hn1, (by have := in13 hn1; omega), fun | _, ⟨c2, rfl, hw2⟩ => ?_⟩)⟩)))))))))))
    exact wsn_ret (evn_callG (f111 M TB) rfl rfl (ea_cons (ev_var 0 rfl (.inl rfl) rfl (ea_cons (ev_if (et_eq (ev_call (f72 M) rfl (ea_cons (ev_var 0 rfl (.inl rfl) rfl (ea_cons (ev_int (ea_nil ⟨_, rfl, ⟨by decide, by decide⟩, fun | _, ⟨d1, rfl, hd1⟩ => ⟨_, rfl, (ev_int ⟨_, rfl, (ite_dec (fun h2 => (ev_call (f108 M) rfl (ea_cons (ev_var 0 rfl (.inl rfl) rfl (ea_cons (ev_var 1 rfl (.inl rfl) rfl (ea_nil ⟨_, rfl, hw2, fun | _, ⟨c3, rfl, hc3⟩ => (ea_nil ⟨_, rfl, (by first | exact hc3 | exact hw2.co), fun _ h => h⟩)⟩))))))) (fun h2 => (ev_var 1 rfl (.inl rfl) rfl (ea_nil ⟨_, rfl, (by first | exact hc3 | exact hw2.co), fun _ h => h⟩))))⟩)⟩⟩))))))))))))
end
end K39
end
section
set_option Elab.async false
set_option linter.all false
set_option exponentiation.threshold 10000
set_option maxRecDepth 100000
set_option maxHeartbeats 4000000
namespace K39
open PySem PySem.Spec PyProof.Rows L2
/-- the script, in any heap: an object that no def writes -/
def Scr (K : PySem.W.Frag) (H : Hp) (a : Addr) (ns : List Int) : Prop := (∃ o, H a = some (.frz o (.lst (ns.map V.int)))) ∨ SqL K (fun _ => none) a (ns.map V.int)
section
variable {K : PySem.W.Frag} {H H' : Hp} {a : Addr} {ns : List Int}
theorem Scr.sq (h : Scr K H a ns) : SqL K H a (ns.map V.int) := by
  rcases h with h | h
  · exact .inl (.inr h)
  · rcases h with (h | ⟨o, h⟩) | h
    · cases h
    · cases h
    · exact .inr h
theorem Scr.go {s : Option Addr} (h : Scr K H a ns) (g : GrN s H H') (n : ∀ o u, H a = some (.frz o u) → s ≠ some a) : Scr K H' a ns := by
  rcases h with ⟨o, h⟩ | h
  · exact .inl ⟨o, g.keep _ _ h (n _ _ h) fun _ z => nomatch z⟩
  · exact .inr h
end
section
variable {P : Program} {w : World} {K : PySem.W.Frag} {mg : Str → Option Value} {base : Heap}
theorem sg113 : Sig d113 "law" ["_law_script", "_law_turn"] ["_law_script"] := ⟨memN 92, rfl, memF 92, rfl, rfl, ⟨rfl, rfl, rfl, by decide +kernel, rfl, by decide +kernel, by decide +kernel⟩, fun _ _ _ _ _ _ us hl => match us, hl with | [_], _ => rfl⟩
abbrev lS (P : Program) (w : World) (K : PySem.W.Frag) (mg : Str → Option Value) (base : Heap) : Sc := scG P w K mg base d113 ["_law_script", "_law_turn"] 15 none none
/-- right(spring(script, turn)) -/
theorem turn_ok (M : Md K mg) (TB : LamX.TabB base mg (oC K) (oP K)) {X : Cx} (hX : Is X (lS P w K mg base)) {a : Addr} {ns : List Int} (hl : ns.length ≤ 63) {i : Nat} (hi : i < 2) {H : Hp} (hs : Scr K H a ns) (hT : LamX.Tabs (oT K) H) {Q : VK} (k : ∀ H', Scr K H' a ns → LamX.Tabs (oT K) H' → Q (.bl true) H') {p1 p2 p3 p4 p5 p6 : Pos} :
    WE X (.Call (.Name "_law_right" p1) [.Call (.Name "_law_spring" p2) [.Name "_law_script" p3, .Name "_law_turn" p4] [] p5] [] p6) [some (.ref a), some (.int (i : Int))] H Q := by
  have hE : En K none [some (V.ref a), some (V.int (i : Int))] H [some (.scr ns), some (.int (i : Int))] := by
    refine ⟨rfl, fun j r e => ?_, fun _ z => by cases z⟩
    match j, e with
    | 0, e => cases e; exact ⟨_, rfl, .scr hs.sq (fun z => by cases z)⟩
    | 1, e => cases e; exact ⟨_, rfl, .int _⟩
  have ha : Ev (lS P w K mg base) (.Call (.Name "_law_spring" p2) [.Name "_law_script" p3, .Name "_law_turn" p4] [] p5) [some (.scr ns), some (.int (i : Int))] (fun r => ∃ x y z : Int, r = .lst [.int x, .int y, .int z] ∧ 0 ≤ y ∧ y < 2147483648) :=
    ev_call (f71 M) rfl (ea_cons (ev_var 0 rfl (.inl rfl) rfl (ea_cons (ev_var 1 rfl (.inl rfl) rfl (ea_nil ⟨(ns, i), rfl, ⟨hl, hi⟩, fun _ h => h⟩)))))
  refine callG_we (f112 (P := P) (w := w) M TB) hX rfl rfl (WA.of (pa_cons pe_W pa_nil (by rfl)) (ha X hX _ H hE _ fun v H1 r g1 s1 ⟨x, y, z, e, y0, y1⟩ => ?_)) rfl (by decide +kernel) (by intro _; rfl) (by intro _; rfl)
  subst e
  have t1 := tabs_gr hT (fun _ z => by cases z) g1
  have sc1 := hs.go g1.n (fun _ _ _ z => by cases z)
  cases s1 with
  | @lst u vs _ hu _ hv =>
    have ev : vs = [V.int x, V.int y, V.int z] := SatL.ints (ns := [x, y, z]) hv
    subst ev
    have sp : Spr H1 u := ⟨x, y, z, hu, y0, y1⟩
    refine ⟨some u, (), fun b e => by cases e; exact sp, t1, trivial, .cons (.spr rfl sp) .nil, fun v H2 r g2 t2 s2 e => ?_⟩
    subst e
    cases s2
    refine k H2 (sc1.go g2 fun o q e z => ?_) t2
    cases z
    rw [hu] at e
    cases e
theorem b113 (M : Md K mg) (TB : LamX.TabB base mg (oC K) (oP K)) {X : Cx} (hX : Is X (lS P w K mg base)) {a : Addr} {ns : List Int} (hl : ns.length ≤ 63) {H : Hp} (hs : Scr K H a ns) (hT : LamX.Tabs (oT K) H) {D : Ends} (k : ∀ H', D.rt (.bl true) H') : WSs X d113.body D [some (.ref a), none] H := by
  refine WSs.of (pss_cons (ps_for (by rw [hX.xe]; exact PassesOwn.never) hX.calm (pi_range1 (hX.gl rfl) (by rw [hX.mg]; exact M.fr _ (memF 106)) (pa_cons pe_int pa_nil (by rfl)) (by rfl)) (pg_name (i := 1) hX.nd (by rw [hX.N]; rfl) (hX.loc (.inl rfl)) (hX.sto (.inl rfl))) (pss_one (ps_if (pt_not (pt_val pe_W (by intro _; rfl))) (pss_one (ps_ret pe_bl)) pss_nil)) (by intro _; rfl)) (pss_one (ps_ret pe_bl))) ?_
  refine ⟨2, rfl, by decide, by decide, ?_⟩
  refine for_range (lo := 0) (fun i σ' H' => (∃ y, σ' = [some (V.ref a), y]) ∧ Scr K H' a ns ∧ LamX.Tabs (oT K) H') ⟨⟨none, rfl⟩, hs, hT⟩ ?_ ?_
  · rintro i σ' H' hi ⟨⟨y, rfl⟩, s1, t1⟩
    have hi : i < 2 := hi
    rw [show ((0 : Int) + (i : Int)) = (i : Int) from by omega]
    exact turn_ok M TB hX hl hi s1 t1 fun H2 s2 t2 => ⟨true, rfl, ⟨_, rfl⟩, s2, t2⟩
  · rintro σ' H' _
    exact k H'
end
end K39
end
section
set_option Elab.async false
set_option linter.all false
set_option exponentiation.threshold 10000
set_option maxRecDepth 100000
set_option maxHeartbeats 4000000
/-! T44: the law called at the claim's own place. -/
namespace K39
open PySem PySem.Spec PyProof.Rows L2
/-- the heap that the call tracks: the def's table, and the script where no object of the module is it -/
def Hs (K : PySem.W.Frag) (a : Addr) (ob : Obj) (ns : List Int) : Hp := fun b => if b = oP K then some (.tbl #[]) else if b = a then (match K.lookup a with | some _ => none | none => some (.frz ob (.lst (ns.map V.int)))) else none
section
variable {K : PySem.W.Frag} {a : Addr} {ob : Obj} {ns : List Int}
theorem hs_tab : Hs K a ob ns (oP K) = some (.tbl #[]) := if_pos rfl
theorem hs_none {b : Addr} (h1 : b ≠ oP K) (h2 : b ≠ a ∨ K.lookup b ≠ none) : Hs K a ob ns b = none := by
  unfold Hs
  rw [if_neg h1]
  by_cases h : b = a
  · subst h
    rw [if_pos rfl]
    rcases h2 with h2 | h2
    · exact absurd rfl h2
    · cases q : K.lookup b with
      | none => exact absurd q h2
      | some o => rfl
  · rw [if_neg h]
theorem hs_scr (h1 : a ≠ oP K) (h2 : K.lookup a = none) : Hs K a ob ns a = some (.frz ob (.lst (ns.map V.int))) := by
  unfold Hs
  rw [if_neg h1, if_pos rfl, h2]
theorem hs_cases {b : Addr} {u : HO} (h : Hs K a ob ns b = some u) : (b = oP K ∧ u = .tbl #[]) ∨ (b = a ∧ K.lookup a = none ∧ u = .frz ob (.lst (ns.map V.int))) := by
  unfold Hs at h
  by_cases h1 : b = oP K
  · rw [if_pos h1] at h
    exact .inl ⟨h1, (Option.some.inj h).symm⟩
  · rw [if_neg h1] at h
    by_cases h2 : b = a
    · rw [if_pos h2] at h
      cases q : K.lookup a with
      | none => rw [q] at h; exact .inr ⟨h2, rfl, (Option.some.inj h).symm⟩
      | some o => rw [q] at h; cases h
    · rw [if_neg h2] at h
      cases h
end
theorem law_at {P : Program} {w : World} {K : PySem.W.Frag} {mg mb : Str → Option Value} {fa a : Addr} {s₁ : Shared} {vs : List Value} {ns : List Int} (KX : K.In s₁.heap) (Y : SaysY s₁.heap K) (hns : s₁.heap.Ns mainGlobals mg) (hb : s₁.heap.Ns builtinsNs mb)
    (hbb : ∀ x : Str, x ≠ "__name__" → mb x = bootBuiltins x) (hlim : s₁.heap.NoLimit) (hg : s₁.gens = #[]) (hbm : ∃ (bm : Addr) (ob : Obj), mg "__builtins__" = some (.ref bm) ∧ bm ≠ builtinsNs ∧ s₁.heap.get? bm = some ob ∧ ob.cls = .type "module" ∧ ob.dict = some builtinsNs ∧ ob.data = .plain)
    (hfa : mg "law" = some (.ref fa)) (ha : s₁.heap.get? a = some { cls := .type "list", data := .seq vs.toArray }) (hi : IntsAre vs ns) (hl : ns.length ≤ 63) :
    codeAny (model P w) callerA (.call (.ref fa) ⟨[.ref a], []⟩) (fun r s' => r = .ok (.ret (.bool true)) ∧ OldK s₁.heap s'.heap ∧ s'.os = s₁.os ∧ AllBare s'.gens) s₁ := by
  have va := vals_ints hi
  have lv := hi.length
  -- where things lie
  have nA : a ≠ oP K := fun z => by
    have e := Y.empty
    rw [show (He.cT K ("_law_one_right", none)).2 = oP K from rfl, ← z, ha] at e
    cases e
  let ob : Obj := { cls := .type "list", data := .seq vs.toArray }
  let H : Hp := Hs K a ob ns
  have out : K.lookup (oP K) = none := Y.out
  have emp : s₁.heap.get? (oP K) = some { cls := .none, data := .fields #[] } := Y.empty
  have ok : HOk P w H s₁.heap := fun b u e => by
    rcases hs_cases e with ⟨e1, e2⟩ | ⟨e1, _, e2⟩
    · subst e1 e2
      exact emp
    · subst e1 e2
      exact ⟨ha, by rw [List.length_map, sizeLine_eq]; omega, vs, _, va, ha⟩
  have up : ∀ {b : Addr} {o : Obj}, s₁.heap.get? b = some o → H b = none → (hidT s₁.heap H).get? b = some o := fun e n => hidT_get e n
  have untr : ∀ {b : Addr} {o : Obj}, s₁.heap.get? b = some o → (∀ l n, o.data ≠ .seq l n) → (∀ l, o.data ≠ .fields l) → H b = none := fun {b o} e h1 h2 => by
    refine hs_none (fun z => ?_) (.inl fun z => ?_)
    · rw [z, emp] at e
      cases e
      exact h2 _ rfl
    · rw [z, ha] at e
      cases e
      exact h1 _ _ rfl
  have ns_up : ∀ {b : Addr} {m : Str → Option Value}, s₁.heap.Ns b m → (hidT s₁.heap H).Ns b m := fun {b m} ⟨o, es, ep, e, d, r⟩ =>
    ⟨o, es, ep, up e (untr e (fun _ _ z => by rw [d] at z; cases z) fun _ z => by rw [d] at z; cases z), d, r⟩
  have KB : K.In (hidT s₁.heap H) := fun b o e => up (KX b o e) (hs_none (fun z => by rw [z, out] at e; cases e) (.inr fun z => by rw [z] at e; cases e))
  have mod : L2.Mod K mg (hidT s₁.heap H) := ⟨KB, ns_up hns, ⟨mb, ns_up hb, hbb⟩, by obtain ⟨mc, q1, q2⟩ := hlim; exact ⟨mc, ns_up q1, q2⟩⟩
  have dictP : ∀ {b : Addr} {m : Str → Option Value}, s₁.heap.Ns b m → b ≠ oP K := fun {b m} ⟨o, es, ep, e, d, r⟩ z => by
    rw [z, emp] at e
    cases e
    cases d
  have TB : LamX.TabB (hidT s₁.heap H) mg (oC K) (oP K) := by
    refine ⟨PySem.W.codeHd_of_K KB Y.hd, ?_, dictP hns⟩
    obtain ⟨bm, o, q1, q2, q3, q4, q5, q6⟩ := hbm
    refine ⟨bm, o, q1, q2, fun z => ?_, fun z => ?_, up q3 (untr q3 (fun _ _ z => by rw [q6] at z; cases z) fun _ z => by rw [q6] at z; cases z), q4, q5, q6⟩
    · obtain ⟨o2, es, ep, e, d, _⟩ := hns
      rw [← z, q3] at e
      cases e
      rw [q6] at d
      cases d
    · rw [z, emp] at q3
      cases q3
      cases q6
  have e0 : Env0 P w K mg (hidT s₁.heap H) callerA [] s₁ H := ⟨rfl, mod, fun b o e => of_hidT e, Nat.le_of_eq (hidT_size _ _), trivial, (fun b z => by cases z), ok, .of_eq hg⟩
  have M : Md K mg := Md.of KX hns Y.d Y.ex
  obtain ⟨fd, F⟩ := sg113.funD M
  have hf := M.gl _ sg113.glo
  rw [hfa] at hf
  obtain rfl : fa = He.ga K "law" := by cases hf; rfl
  have bind := F.bindsA sg113.bind s₁ [.ref a] rfl
  obtain ⟨oc, od, dV, kV, doc, pm, an, cdv, ct, osl, rfl, lk, hcd, _, _⟩ := F.ex
  have scr : Scr K H a ns := by
    cases q : K.lookup a with
    | none => exact .inl ⟨ob, hs_scr nA q⟩
    | some o =>
      have e := KX a o q
      rw [ha] at e
      cases e
      exact .inr (.inr ⟨_, vs.toArray, _, q, rfl, rfl, rfl, by rw [List.size_toArray, sizeLine_eq]; omega, by simpa using va⟩)
  have tabs : LamX.Tabs (oT K) H := fun p hp => by
    rw [List.mem_singleton.mp hp]
    exact LamX.TabS.nil hs_tab
  have room : Room 16 callerA := ⟨rfl, by decide +kernel, by decide +kernel⟩
  refine codeAny_mono (LamX.run_ofS (N := ["_law_script", "_law_turn"]) (ps := ["_law_script"]) (vs := [.ref a]) (Q := fun v _ => v = .bl true) (E := E0) (CX := CX0) lk hcd sg113.scp room e0 bind (.cons rfl .nil) rfl fun hr' => ⟨_, PSs.nox pss_W, ?_⟩) fun r s' q => ?_
  · exact b113 M TB ⟨rfl, rfl, rfl, rfl, rfl, rfl, rfl, sg113.scp.kind, hr', rfl, sg113.scp.nd, rfl, (fun _ _ => rfl), (fun _ => rfl), fun _ _ _ z => by cases z⟩ hl scr tabs fun _ => rfl
  · cases r with
    | error e => exact (show False from q).elim
    | ok fl =>
      cases fl with
      | next => exact False.elim q
      | brk => exact False.elim q
      | cont => exact False.elim q
      | ret u =>
        obtain ⟨v, H', os, bare, un, ok', rel, ev⟩ := q
        have ev : v = .bl true := ev
        subst ev
        obtain rfl : u = Value.bool true := rel
        have same : ∀ b o, b ≠ oP K → s₁.heap.get? b = some o → s'.heap.get? b = some o := fun b o nb e => by
          cases z : H b with
          | none => exact un.keep b o e z (by intro z; cases z) (by intro z; cases z)
          | some u =>
            rcases hs_cases z with ⟨z1, _⟩ | ⟨z1, _, z2⟩
            · exact absurd z1 nb
            · subst z1 z2
              obtain ⟨q1, _⟩ := ok' _ _ (un.frzs _ _ _ z)
              rw [ha] at e
              cases e
              exact q1
        obtain ⟨more, tm⟩ := un.tbls _ _ hs_tab
        have grown : s'.heap.get? (oP K) = some { cls := .none, data := .fields (#[] ++ more) } := ok' _ _ tm
        refine ⟨rfl, ⟨fun b o e => ?_, fun b o e => ?_⟩, os, bare⟩
        · by_cases z : b = oP K
          · subst z
            rw [emp] at e
            cases e
            exact .inr (.inl ⟨((PySem.W.codeHd_of_K KX Y.hd).tab emp).isCodeTable, rfl, #[], more, rfl, grown⟩)
          · exact .inl (same b o z e)
        · by_cases z : b = oP K
          · subst z
            exact ⟨_, grown⟩
          · exact ⟨o, same b o z e⟩
end K39
end
section
set_option Elab.async false
set_option linter.all false
set_option maxRecDepth 100000
set_option maxHeartbeats 0
namespace K39
open PySem PySem.Spec PyProof.Rows L2
theorem run (w : World) : HandSHeadRun.RunEqI R (PySem.W.view R.prog [0, 113]) hk ob 6000 loose w := by
  unfold HandSHeadRun.RunEqI
  kernel_rfl
end K39
end
set_option Elab.async false
set_option linter.all false
set_option maxRecDepth 100000
set_option maxHeartbeats 0
open PySem PySem.W PySem.Calls PyProof.Rows
theorem PySem.Challenge.cw_stillplates_k39_whole_full_reflux_holds : PySem.Challenge.rw_stillplates_k39_whole_full_reflux.Holds := by
  w_on; o_law
  refine HandSHeadRun.head_imp (r := K39.R) (q := view K39.R.prog [0, 113]) (H := K39.hk) (ob := K39.ob) (M := 6000) (loose := K39.loose) (d := HandSHeadRun.topDef K39.R.prog 113) (kwd := []) K39.ob_eq K39.run
    (by kernel_rfl) (by kernel_rfl) (by kernel_rfl) (by rfl) (by first | assumption | decide +kernel) (by decide +kernel) ⟨rfl, rfl, rfl, rfl, rfl, by decide +kernel⟩ ?hw ?hc
  case hw => w_witness2
  case hc =>
    refine Att.attach_callB (l := PySem.Challenge.rw_stillplates_k39_whole_full_reflux) (n := 63) rfl (by kernel_rfl) fun w s₀ s₁ mg mb fa o pm cd doc a vs ns G Y ho hd hcd hmg hobj hints hlen hbits hg => ?_
    obtain ⟨K, KX, Y⟩ := Y
    have e : (HandSHeadRun.topDef K39.R.prog 113).name = ("law" : PySem.Str) := by kernel_rfl
    rw [e] at hmg
    exact K39.law_at KX Y G.T.g G.T.b G.T.builtins G.T.nolimit hg G.T.bmain hmg hobj hints hlen
#print axioms PySem.Challenge.cw_stillplates_k39_whole_full_reflux_holds
