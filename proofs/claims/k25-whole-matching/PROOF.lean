import PyProof.Rows.All
import Wide.All
import OpenK.AllK
import Wide.FinOn
import KE.KStateDown
import HandS.ForMost
import HandS.Exc
import HandS.ExcIs
import HandS.ExcInit
import HandS.ExcField
import HandS.Head0
import HandS.Head1
import HandS.Head2
import HandS.HeadHook4
import HandS.HeadWalk
import HandS.Evl
import HandS.IsInst
import HandS.Deep
import HandS.Walk
import HandS.Zip
import HandS.TupAny
import HandS.Style
import HandS.StrMore
import HandS.Lambda
import HandS.TryMany
import HandS.Flow
import HandS.Replace
import HandS.Defaults
import HandS.WordsExc
import HandS.MakeKwOnly
import HandS.BoundList
import PySem.Challenge.RW_changedsame_k25_whole_matching
import KE.KExcIs
import PyProof.ReprRoads
import PyProof.ReprLen
set_option Elab.async false
set_option linter.all false
set_option maxRecDepth 100000
set_option maxHeartbeats 4000000
section
set_option maxHeartbeats 0
namespace K25
open PySem PySem.Spec PyProof.Rows L2
/-! ### the text by places -/
def top (i : Nat) : Stmt := PySem.Challenge.pw_changedsame_k25_whole_matching.main.body.getD i (.Pass ⟨0, 0, 0, 0⟩)
abbrev sInit : Stmt := inClass (top 1) 0
abbrev s6 : Stmt := top 6 -- is_integer
abbrev s7 : Stmt := top 7 -- is_count
abbrev s8 : Stmt := top 8 -- is_list
abbrev s20 : Stmt := top 20 -- is_lettered
abbrev s21 : Stmt := top 21 -- is_name
abbrev s22 : Stmt := top 22 -- is_big
abbrev s23 : Stmt := top 23 -- last_of_long
abbrev s25 : Stmt := top 25 -- is_long_big
abbrev s26 : Stmt := top 26 -- is_language_number
abbrev s27 : Stmt := top 27 -- are_unlike
abbrev s28 : Stmt := top 28 -- has_word
abbrev s31 : Stmt := top 31 -- all_of
abbrev s36 : Stmt := top 36 -- pattern_inside
abbrev s41 : Stmt := top 41 -- tree_inside
abbrev s42 : Stmt := top 42 -- tree_measure
abbrev s43 : Stmt := top 43 -- names_bound
abbrev s44 : Stmt := top 44 -- are_trees
abbrev s45 : Stmt := top 45 -- is_pattern
abbrev s46 : Stmt := top 46 -- patterns_within
abbrev s53 : Stmt := top 53 -- is_small_number
abbrev s54 : Stmt := top 54 -- inner_values
abbrev s55 : Stmt := top 55 -- is_plain
abbrev s56 : Stmt := top 56 -- bindings_of
abbrev s57 : Stmt := top 57 -- matched_con
abbrev s58 : Stmt := top 58 -- matched_parts
abbrev s59 : Stmt := top 59 -- first_of
abbrev s60 : Stmt := top 60 -- want_value
abbrev s61 : Stmt := top 61 -- are_patterns
abbrev s62 : Stmt := top 62 -- bindings
abbrev s63 : Stmt := top 63 -- first_rule
abbrev s65 : Stmt := top 65 -- _law_pot
abbrev s66 : Stmt := top 66 -- _law_draw
abbrev s67 : Stmt := top 67 -- _law_pick
abbrev s68 : Stmt := top 68 -- _law_cons
abbrev s69 : Stmt := top 69 -- _law_kind
abbrev s70 : Stmt := top 70 -- _law_pattern
abbrev s71 : Stmt := top 71 -- _law_named
abbrev s72 : Stmt := top 72 -- _law_patterns
abbrev s73 : Stmt := top 73 -- _law_value
abbrev s74 : Stmt := top 74 -- _law_match
abbrev s75 : Stmt := top 75 -- _law_first
abbrev s76 : Stmt := top 76 -- _law_filled
abbrev s77 : Stmt := top 77 -- _law_is_big
abbrev s78 : Stmt := top 78 -- _law_is_plain
abbrev s79 : Stmt := top 79 -- _law_bent
abbrev s80 : Stmt := top 80 -- _law_heard
abbrev s81 : Stmt := top 81 -- _law_refused_right
abbrev s82 : Stmt := top 82 -- _law_value_right
abbrev s83 : Stmt := top 83 -- _law_right
abbrev s84 : Stmt := top 84 -- law
/-! ### the head's facts, by names -/
def dn (x : Str) (st : Stmt) : He.DefD := ⟨(x, none), x, x, defArgs st, defBody st, defScope st, [], []⟩
def dInit : He.DefD := ⟨("ChangeError", some "__init__"), "__init__", "ChangeError.__init__", defArgs sInit, defBody sInit, defScope sInit, [.non], []⟩
def fn1 : List He.DefD := [dInit, dn "is_integer" s6, dn "is_count" s7, dn "is_list" s8, dn "is_lettered" s20, dn "is_name" s21, dn "is_big" s22, dn "last_of_long" s23, dn "is_long_big" s25, dn "is_language_number" s26, dn "are_unlike" s27, dn "has_word" s28, dn "all_of" s31, dn "pattern_inside" s36, dn "tree_inside" s41, dn "tree_measure" s42, dn "names_bound" s43, dn "are_trees" s44, dn "is_pattern" s45, dn "patterns_within" s46, dn "is_small_number" s53, dn "inner_values" s54, dn "is_plain" s55, dn "bindings_of" s56, dn "matched_con" s57, dn "matched_parts" s58]
def fn2 : List He.DefD := [dn "first_of" s59, dn "want_value" s60, dn "are_patterns" s61, dn "bindings" s62, dn "first_rule" s63, dn "_law_pot" s65, dn "_law_draw" s66, dn "_law_pick" s67, dn "_law_cons" s68, dn "_law_kind" s69, dn "_law_pattern" s70, dn "_law_named" s71, dn "_law_patterns" s72, dn "_law_value" s73, dn "_law_match" s74, dn "_law_first" s75, dn "_law_filled" s76, dn "_law_is_big" s77, dn "_law_is_plain" s78, dn "_law_bent" s79, dn "_law_heard" s80, dn "_law_refused_right" s81, dn "_law_value_right" s82, dn "_law_right" s83, dn "law" s84]
def fn : List He.DefD := fn1 ++ fn2
def faG : List He.Fa := ((["is_integer", "is_count", "is_list", "is_lettered", "is_name", "is_big", "last_of_long", "is_long_big", "is_language_number", "are_unlike", "has_word", "all_of"] : List Str) ++ (["pattern_inside", "tree_inside", "tree_measure", "names_bound", "are_trees", "is_pattern", "patterns_within", "is_small_number", "inner_values", "is_plain", "bindings_of", "matched_con"] : List Str) ++ (["matched_parts", "first_of", "want_value", "are_patterns", "bindings", "first_rule"] : List Str)).map He.Fa.glo
def faH : List He.Fa := ((["_law_pot", "_law_draw", "_law_pick", "_law_cons", "_law_kind", "_law_pattern", "_law_named", "_law_patterns", "_law_value", "_law_match", "_law_first", "_law_filled"] : List Str) ++ (["_law_is_big", "_law_is_plain", "_law_bent", "_law_heard", "_law_refused_right", "_law_value_right", "_law_right", "law", "ChangeError", "InvalidPattern", "InvalidPatterns", "InvalidValue"] : List Str) ++ (["KEYWORDS"] : List Str)).map He.Fa.glo
def faF : List He.Fa := ((["isinstance", "int", "bool", "str", "list", "tuple", "len", "all", "range", "zip", "enumerate", "max"] : List Str) ++ (["abs", "divmod", "repr"] : List Str)).map He.Fa.free
def faI : List He.Fa := [.int "MOST_PARTS" (600), .int "MOST_DEEP_trees" (40), .int "LEAST_NUMBER_trees" (-2147483648), .int "MOST_NUMBER_trees" (2147483647), .int "MOST_LETTERS" (20), .int "LEAST_NUMBER_matches" (-2147483648), .int "MOST_NUMBER_matches" (2147483647), .int "MOST_VALUES" (600), .int "MOST_DEEP_matches" (40), .int "MOST_RULES" (8), .str "SMALL" "abcdefghijklmnopqrstuvwxyz", .str "GREAT" "ABCDEFGHIJKLMNOPQRSTUVWXYZ", .str "DIGITS" "0123456789"]
def fa : List He.Fa := faG ++ (faH ++ (faF ++ faI))
def kws1 : List Str := (["and", "array", "ask", "at", "bool", "do", "else", "end", "exception", "exn", "false", "fn"] : List Str) ++ (["if", "in", "int", "let", "match", "mod", "module", "not", "of", "place", "raise", "rec"] : List Str) ++ (["ref", "same", "show", "size", "tell", "then", "true", "try", "type", "unit", "with"] : List Str)
def tf : List He.Defn := [("_law_refused_right", none)]
/-- an own class over ValueError, as the making of its instances wants it -/
def oexB (K : PySem.W.Frag) (C : Addr) : Bool := match K.lookup C with
  | some ⟨.type "type", _, .cls cd, sl⟩ => (match cd.mro, sl.toList with
    | .ref C' :: bm, [_, _, _, _, some (.builtin n), _] => C' == C && (n == "ValueError.__new__" && (!cd.hasDel && (cd.hasDict && PySem.HandSPX.refsVE bm)))
    | _, _ => false)
  | _ => false
def clsB (K : PySem.W.Frag) (C : Addr) : Bool := oexB K C &&
  (decide (PySem.W.findIn K (.ref C) "__setattr__" = some (some (.builtin "object.__setattr__"))) &&
  (decide (PySem.W.subIn K (.ref C) (.type "BaseException") = some true) &&
  (decide (PySem.W.typeIn K (.ref C) = some (.type "type")) &&
  (PySem.W.keepIn K (.ref C) &&
  (decide (PySem.W.findIn K (.ref C) "__init__" = some (some (.ref (He.ma K (He.ga K "ChangeError") "__init__")))) &&
  (decide (PySem.W.findIn K (.ref C) "value" = some none) &&
  (decide (PySem.W.findIn K (.ref C) "__getattribute__" = some (some (.builtin "BaseException.__getattribute__"))) &&
  (decide (PySem.W.findIn K (.ref C) "__getattr__" = some none) &&
  (PySem.W.hasDictIn K C &&
  (decide (PySem.W.findIn K (.ref C) "__class__" = some (some (.builtin "object.__class__"))) &&
  (decide (PySem.W.mroIn K C (.type "object") = some true) &&
  (decide (PySem.W.kitOne K (.ref C) (.ref (He.ga K "ChangeError")) = some true)))))))))))))
def excNames : List Str := ["InvalidPattern", "InvalidPatterns", "InvalidValue"]
def exB (K : PySem.W.Frag) : Bool := excNames.all (fun x => clsB K (He.ga K x)) &&
  (excNames.all (fun x => excNames.all fun y => decide (PySem.W.exmOne K (.ref (He.ga K x)) (.ref (He.ga K y)) = some (decide (x = y)))) &&
  (decide (PySem.W.typeIn K (.ref (He.ma K (He.ga K "ChangeError") "__init__")) = some (.type "function")) &&
  (decide (PySem.W.specialIn K (.builtin "object.__class__") "__get__" = some (some (.builtin "getset_descriptor.__get__"))) &&
  (decide (PySem.W.takesIn K (.builtin "object.__class__") = some true) &&
  (He.tupB K "KEYWORDS" (kws1.map He.Dv.str))))))

def loose1 : List Str := (["ChangeError", "InvalidPattern", "InvalidPatterns", "InvalidValue", "is_integer", "is_count", "is_list", "MOST_PARTS", "MOST_DEEP_trees", "LEAST_NUMBER_trees", "MOST_NUMBER_trees", "MOST_LETTERS"] : List Str) ++ (["SMALL", "GREAT", "DIGITS", "KEYWORDS", "PRIM_MANY", "is_lettered", "is_name", "is_big", "last_of_long", "is_long_name", "is_long_big", "is_language_number"] : List Str) ++ (["are_unlike", "has_word", "are_tuples", "are_functions", "all_of", "rules_inside", "plain_inside", "listed_inside", "expr_inside", "pattern_inside", "type_inside", "cases_inside"] : List Str) ++ (["decl_inside", "module_inside", "tree_inside", "tree_measure"] : List Str)
def loose2 : List Str := (["names_bound", "are_trees", "is_pattern", "patterns_within", "LEAST_NUMBER_matches", "MOST_NUMBER_matches", "MOST_VALUES", "MOST_DEEP_matches", "MOST_RULES", "is_small_number", "inner_values", "is_plain"] : List Str) ++ (["bindings_of", "matched_con", "matched_parts", "first_of", "want_value", "are_patterns", "bindings", "first_rule", "_law_pot", "_law_draw", "_law_pick", "_law_cons"] : List Str) ++ (["_law_kind", "_law_pattern", "_law_named", "_law_patterns", "_law_value", "_law_match", "_law_first", "_law_filled", "_law_is_big", "_law_is_plain", "_law_bent", "_law_heard"] : List Str) ++ (["_law_refused_right", "_law_value_right", "_law_right"] : List Str)
def loose : List Str := loose1 ++ loose2
abbrev R : PySem.W.OpenRow := PySem.W.OpenLaw.row PySem.Challenge.rw_changedsame_k25_whole_matching
abbrev hk : PySem.W.Hook := He.hookX 5 fa fn [] tf exB
def ob (s : PySem.W.SharedT) : He.AlX := He.obsX 5 fa fn [] tf exB (HandSHeadRun.getT s)
theorem ob_eq (s : PySem.W.SharedT) : ob s = hk.obs s.abs := He.obsX_eq (HandSHeadRun.getT_eq s)
end K25

end

section
set_option maxHeartbeats 0
namespace K25
open PySem PySem.Spec PyProof.Rows L2 Evl
theorem run0 (w : World) : HandSHeadRun.RunEq R (PySem.W.view R.prog [84]) hk ob 6000 loose (w.withFollow "special-get-raises" false) := by
  intro os
  kernel_rfl
end K25

end

section
set_option maxHeartbeats 0
namespace K25
open PySem PySem.Spec PyProof.Rows L2 Evl
theorem run1 (w : World) : HandSHeadRun.RunEq R (PySem.W.view R.prog [84]) hk ob 6000 loose (w.withFollow "special-get-raises" true) := by
  intro os
  kernel_rfl
end K25

end

section
set_option maxHeartbeats 4000000
namespace K25
open PySem PySem.Spec PyProof.Rows L2 Evl
/-! ### data in the heap -/
mutual
theorem dpMono {K : PySem.W.Frag} {H H' : Hp} (e : Ex H H') : ∀ (d : PyData) (v : V), Dp K H v d → Dp K H' v d
  | .none, _, h => by cases h; exact .non
  | .bool _, _, h => by cases h; exact .bl _
  | .int _, _, h => by cases h; exact .int _
  | .str _, _, h => by cases h; exact .str _
  | .list ds, _, h => by
    cases h with
    | lst hs ha => exact .lst (ex_l e hs) (dpsMono e ds _ ha)
  | .tuple ds, _, h => by
    cases h with
    | tup hs ha => exact .tup (ex_t e hs) (dpsMono e ds _ ha)
  | .dict _, _, h => by cases h
theorem dpsMono {K : PySem.W.Frag} {H H' : Hp} (e : Ex H H') : ∀ (ds : List PyData) (vs : List V), DpAll K H vs ds → DpAll K H' vs ds
  | [], _, h => by cases h; exact .nil
  | d :: ds, _, h => by
    cases h with
    | cons h1 h2 => exact .cons (dpMono e d _ h1) (dpsMono e ds _ h2)
end
/-- tuples stay -/
def TK (K : PySem.W.Frag) (H H' : Hp) : Prop := ∀ a xs, SqT K H a xs → SqT K H' a xs
theorem TK.refl {K : PySem.W.Frag} (H : Hp) : TK K H H := fun _ _ h => h
theorem TK.trans {K : PySem.W.Frag} {H H1 H2 : Hp} (a : TK K H H1) (b : TK K H1 H2) : TK K H H2 := fun x xs h => b x xs (a x xs h)
theorem TK.ex {K : PySem.W.Frag} {H H' : Hp} (e : Ex H H') : TK K H H' := fun _ _ h => ex_t e h
theorem TK.setL {K : PySem.W.Frag} {H : Hp} {l : Addr} {xs ys : List V} (h : H l = some (.lst xs)) : TK K H (upd H l (.lst ys)) := fun a zs q => by
  rcases q with (q | ⟨o, q⟩) | q
  · refine .inl (.inl ?_)
    rw [upd_ne (ne_of q h (by intro z; cases z))]
    exact q
  · refine .inl (.inr ⟨o, ?_⟩)
    rw [upd_ne (ne_of q h (by intro z; cases z))]
    exact q
  · exact .inr q
mutual
/-- tuples and scalars alone -/
def frz : PyData → Bool
  | .none => true
  | .bool _ => true
  | .int _ => true
  | .str _ => true
  | .tuple ds => frzAll ds
  | .list _ => false
  | .dict _ => false
def frzAll : List PyData → Bool
  | [] => true
  | d :: ds => frz d && frzAll ds
end
mutual
theorem dpTK {K : PySem.W.Frag} {H H' : Hp} (e : TK K H H') : ∀ (d : PyData) (v : V), frz d = true → Dp K H v d → Dp K H' v d
  | .none, _, _, h => by cases h; exact .non
  | .bool _, _, _, h => by cases h; exact .bl _
  | .int _, _, _, h => by cases h; exact .int _
  | .str _, _, _, h => by cases h; exact .str _
  | .list ds, _, f, h => by cases f
  | .tuple ds, _, f, h => by
    cases h with
    | tup hs ha => exact .tup (e _ _ hs) (dpsTK e ds _ (by simpa [frz] using f) ha)
  | .dict _, _, _, h => by cases h
theorem dpsTK {K : PySem.W.Frag} {H H' : Hp} (e : TK K H H') : ∀ (ds : List PyData) (vs : List V), frzAll ds = true → DpAll K H vs ds → DpAll K H' vs ds
  | [], _, _, h => by cases h; exact .nil
  | d :: ds, _, f, h => by
    have f2 : frz d = true ∧ frzAll ds = true := by simpa [frzAll] using f
    cases h with
    | cons h1 h2 => exact .cons (dpTK e d _ f2.1 h1) (dpsTK e ds _ f2.2 h2)
end
/-- all but m stay -/
def Kp (m : List Addr) (H H' : Hp) : Prop := ∀ a o, a ∉ m → H a = some o → H' a = some o
theorem Kp.refl (m : List Addr) (H : Hp) : Kp m H H := fun _ _ _ h => h
theorem Kp.trans {m : List Addr} {H H1 H2 : Hp} (a : Kp m H H1) (b : Kp m H1 H2) : Kp m H H2 := fun x o n h => b x o n (a x o n h)
theorem Kp.ex {m : List Addr} {H H' : Hp} (e : Ex H H') : Kp m H H' := fun a o _ h => e a o h
theorem Kp.to_ex {H H' : Hp} (e : Kp [] H H') : Ex H H' := fun a o h => e a o (by simp) h
theorem Kp.setM {m : List Addr} {H : Hp} {l : Addr} {o : HO} (h : l ∈ m) : Kp m H (upd H l o) := fun a u n q => by
  rw [upd_ne (fun z => n (by rw [z]; exact h))]
  exact q
/-- writing at an address that holds nothing yet in the known heap keeps Kp (after Ex.mut of the hand layer) -/
theorem Kp.mut {m : List Addr} {H H' : Hp} {p : Addr} {o : HO} (e : Kp m H H') (h : H p = none) : Kp m H (upd H' p o) := fun a u n ha => by
  rw [upd_ne (ne_of_none ha h)]
  exact e a u n ha
theorem Kp.tk {K : PySem.W.Frag} {m : List Addr} {H H' : Hp} (e : Kp m H H') (hm : ∀ a ∈ m, ∃ xs, H a = some (.lst xs)) : TK K H H' := fun a zs q => by
  rcases q with (q | ⟨o, q⟩) | q
  · refine .inl (.inl (e a _ (fun z => ?_) q))
    obtain ⟨xs, h⟩ := hm a z
    rw [q] at h
    cases h
  · refine .inl (.inr ⟨o, e a _ (fun z => ?_) q⟩)
    obtain ⟨xs, h⟩ := hm a z
    rw [q] at h
    cases h
  · exact .inr q
/-! ### readings of data -/
section
variable {K : PySem.W.Frag} {H H' : Hp}
theorem dp_tup {v : V} {ds : List PyData} (h : Dp K H v (.tuple ds)) : ∃ a xs, v = .ref a ∧ SqT K H a xs ∧ DpAll K H xs ds := by
  cases h with
  | tup hs ha => exact ⟨_, _, rfl, hs, ha⟩
theorem dp_lst {v : V} {ds : List PyData} (h : Dp K H v (.list ds)) : ∃ a xs, v = .ref a ∧ SqL K H a xs ∧ DpAll K H xs ds := by
  cases h with
  | lst hs ha => exact ⟨_, _, rfl, hs, ha⟩
theorem dp_int {v : V} {i : Int} (h : Dp K H v (.int i)) : v = .int i := by cases h; rfl
theorem dp_bl {v : V} {i : Bool} (h : Dp K H v (.bool i)) : v = .bl i := by cases h; rfl
theorem dp_str {v : V} {i : Str} (h : Dp K H v (.str i)) : v = .str i := by cases h; rfl
theorem dp_non {v : V} (h : Dp K H v .none) : v = .non := by cases h; rfl
theorem dps_len : ∀ {vs : List V} {ds : List PyData}, DpAll K H vs ds → vs.length = ds.length
  | _, _, .nil => rfl
  | _, _, .cons _ t => congrArg Nat.succ (dps_len t)
theorem dps_at : ∀ {vs : List V} {ds : List PyData} (i : Nat) {d : PyData}, DpAll K H vs ds → ds[i]? = some d → ∃ v, vs[i]? = some v ∧ Dp K H v d
  | _, _, _, _, .nil, e => by simp at e
  | _, _, 0, _, .cons h _, e => by
    simp at e
    subst e
    exact ⟨_, rfl, h⟩
  | _, _, i + 1, d, .cons _ t, e => by
    obtain ⟨v, h1, h2⟩ := dps_at (i := i) (d := d) t (by simpa using e)
    exact ⟨v, by simpa using h1, h2⟩
theorem dps_of : ∀ {vs : List V} {ds : List PyData} (i : Nat) {v : V}, DpAll K H vs ds → vs[i]? = some v → ∃ d, ds[i]? = some d ∧ Dp K H v d
  | _, _, _, _, .nil, e => by simp at e
  | _, _, 0, _, .cons h _, e => by
    simp at e
    subst e
    exact ⟨_, rfl, h⟩
  | _, _, i + 1, d, .cons _ t, e => by
    obtain ⟨v, h1, h2⟩ := dps_of (i := i) (v := d) t (by simpa using e)
    exact ⟨v, by simpa using h1, h2⟩
theorem dps_app : ∀ {vs ws : List V} {ds es : List PyData}, DpAll K H vs ds → DpAll K H ws es → DpAll K H (vs ++ ws) (ds ++ es)
  | _, _, _, _, .nil, h => h
  | _, _, _, _, .cons h t, h2 => .cons h (dps_app t h2)
theorem dps_one {v : V} {d : PyData} (h : Dp K H v d) : DpAll K H [v] [d] := .cons h .nil
theorem dps_drop : ∀ {vs : List V} {ds : List PyData} (n : Nat), DpAll K H vs ds → DpAll K H (vs.drop n) (ds.drop n)
  | _, _, 0, h => h
  | _, _, _ + 1, .nil => .nil
  | _, _, n + 1, .cons _ t => dps_drop n t
theorem dps_take : ∀ {vs : List V} {ds : List PyData} (n : Nat), DpAll K H vs ds → DpAll K H (vs.take n) (ds.take n)
  | _, _, 0, _ => .nil
  | _, _, _ + 1, .nil => .nil
  | _, _, n + 1, .cons h t => .cons h (dps_take n t)
theorem dps_dropLast : ∀ {vs : List V} {ds : List PyData}, DpAll K H vs ds → DpAll K H vs.dropLast ds.dropLast := fun {vs ds} h => by
  rw [List.dropLast_eq_take, List.dropLast_eq_take, dps_len h]
  exact dps_take _ h
theorem dps_strs : ∀ xs : List Str, DpAll K H (xs.map V.str) (xs.map PyData.str)
  | [] => .nil
  | x :: xs => .cons (.str x) (dps_strs xs)
end
/-! ### what evaluates to what data -/
def Ed (K : PySem.W.Frag) (te : TE) (σ : L2.St) (H : Hp) (d : PyData) : Prop := ∀ H1, Ex H H1 → ∀ Q : VK, (∀ v H2, Ex H1 H2 → Dp K H2 v d → Q v H2) → te σ H1 Q
def EdA (K : PySem.W.Frag) (ta : TA) (σ : L2.St) (H : Hp) (ds : List PyData) : Prop := ∀ H1, Ex H H1 → ∀ Q : List V → Hp → Prop, (∀ vs H2, Ex H1 H2 → DpAll K H2 vs ds → Q vs H2) → ta σ H1 Q
section
variable {K : PySem.W.Frag} {σ : L2.St} {H H' : Hp} {ta tb te tx : TE} {t u : TT} {v : V} {d e : PyData} {ds : List PyData} {i j : Int} {b : Bool}
theorem Ed.mono (e : Ex H H') (h : Ed K te σ H d) : Ed K te σ H' d := fun H1 a Q q => h H1 (e.trans a) Q q
theorem EdA.mono {ta : TA} (e : Ex H H') (h : EdA K ta σ H ds) : EdA K ta σ H' ds := fun H1 a Q q => h H1 (e.trans a) Q q
theorem Ed.is {d' : PyData} (h : Ed K te σ H d) (e : d = d') : Ed K te σ H d' := e ▸ h
theorem ed_ev (h : Ev te σ H v) (hd : Dp K H v d) : Ed K te σ H d := fun H1 e Q q => h H1 e _ fun H2 e2 => q v H2 e2 (dpMono (e.trans e2) _ _ hd)
theorem ed_var {n : Nat} (hs : σ[n]? = some (some v)) (hd : Dp K H v d) : Ed K (tVar n) σ H d := ed_ev (ev_var hs) hd
theorem ed_int : Ed K (tC (.int i)) σ H (.int i) := ed_ev ev_c (.int i)
theorem ed_bl : Ed K (tC (.bl b)) σ H (.bool b) := ed_ev ev_c (.bl b)
theorem ed_str {x : Str} : Ed K (tC (.str x)) σ H (.str x) := ed_ev ev_c (.str x)
theorem ed_non : Ed K (tC .non) σ H .none := ed_ev ev_c .non
theorem ev_bl (h : Ed K te σ H (.bool b)) : Ev te σ H (.bl b) := fun H1 e Q q => h H1 e _ fun v H2 e2 hd => by rw [dp_bl hd]; exact q H2 e2
theorem ev_int (h : Ed K te σ H (.int i)) : Ev te σ H (.int i) := fun H1 e Q q => h H1 e _ fun v H2 e2 hd => by rw [dp_int hd]; exact q H2 e2
theorem ev_str {x : Str} (h : Ed K te σ H (.str x)) : Ev te σ H (.str x) := fun H1 e Q q => h H1 e _ fun v H2 e2 hd => by rw [dp_str hd]; exact q H2 e2
theorem ea_nilD : EdA K tNil σ H [] := fun H1 _ _ q => q [] H1 (Ex.refl H1) .nil
theorem ea_consD {tr : TA} (h : Ed K te σ H d) (hr : EdA K tr σ H ds) : EdA K (tCons te tr) σ H (d :: ds) := fun H1 e _ q =>
  h H1 e _ fun v H2 e2 hd => hr H2 (e.trans e2) _ fun vs H3 e3 hds => q _ H3 (e2.trans e3) (.cons (dpMono e3 _ _ hd) hds)
theorem ed_tup {ta : TA} (h : EdA K ta σ H ds) (hl : ds.length ≤ 100000 := by simp) : Ed K (tTup ta) σ H (.tuple ds) := fun H1 e _ q =>
  h H1 e _ fun vs H2 e2 hds => ⟨sz_of (by rw [dps_len hds]; exact hl), fun p hp => q (.ref p) _ (e2.trans (Ex.new hp)) (.tup (SqT.of upd_same) (dpsMono (Ex.new hp) _ _ hds))⟩
theorem ed_lst {ta : TA} (h : EdA K ta σ H ds) (hl : ds.length ≤ 100000 := by simp) : Ed K (tLst ta) σ H (.list ds) := fun H1 e _ q =>
  h H1 e _ fun vs H2 e2 hds => ⟨sz_of (by rw [dps_len hds]; exact hl), fun p hp => q (.ref p) _ (e2.trans (Ex.new hp)) (.lst (SqL.of upd_same) (dpsMono (Ex.new hp) _ _ hds))⟩
theorem ed_ixT {n : Nat} (h : Ed K ta σ H (.tuple ds)) (hi : Ed K tb σ H (.int (n : Int))) (hd : ds[n]? = some d) : Ed K (tOp (rIxT K) ta tb) σ H d := fun H1 e Q q =>
  h H1 e _ fun v H2 e2 hv => hi H2 (e.trans e2) _ fun w H3 e3 hw => by
    obtain ⟨a, xs, rfl, hs, ha⟩ := dp_tup hv
    obtain ⟨z, h1, h2⟩ := dps_at n ha hd
    exact ⟨a, xs, (n : Int), z, rfl, dp_int hw, ex_t e3 hs, atI_nat h1, q z H3 (e2.trans e3) (dpMono e3 _ _ h2)⟩
theorem ed_ixL {n : Nat} (h : Ed K ta σ H (.list ds)) (hi : Ed K tb σ H (.int (n : Int))) (hd : ds[n]? = some d) : Ed K (tOp (rIxL K) ta tb) σ H d := fun H1 e Q q =>
  h H1 e _ fun v H2 e2 hv => hi H2 (e.trans e2) _ fun w H3 e3 hw => by
    obtain ⟨a, xs, rfl, hs, ha⟩ := dp_lst hv
    obtain ⟨z, h1, h2⟩ := dps_at n ha hd
    exact ⟨a, xs, (n : Int), z, rfl, dp_int hw, ex_l e3 hs, atI_nat h1, q z H3 (e2.trans e3) (dpMono e3 _ _ h2)⟩
/-- len -/
def lenD : PyData → Option Nat
  | .str x => some x.length
  | .list ds => some ds.length
  | .tuple ds => some ds.length
  | _ => none
def rLenG (K : PySem.W.Frag) : List V → Hp → VK → Prop := fun xs H Q => ∃ x n, xs = [x] ∧ LenV K x H n ∧ Q (.int (n : Nat)) H
theorem c_len {X : Cx} : CallR X (.builtin "len") (rLenG X.K) := call_len
theorem ed_len {n : Nat} (h : Ed K ta σ H d) (hn : lenD d = some n) (hz : n ≤ 100000 := by first | assumption | omega | decide) : Ed K (tCB (rLenG K) (tCons ta tNil)) σ H (.int (n : Int)) := fun H1 e Q q =>
  h H1 e _ fun v H2 e2 hv => by
    refine ⟨v, n, rfl, ?_, q _ H2 e2 (.int _)⟩
    cases hv with
    | str x => cases hn; exact ⟨sz_of hz, rfl⟩
    | lst hs ha => cases hn; exact .inl ⟨_, hs, (dps_len ha).symm⟩
    | tup hs ha => cases hn; exact .inr ⟨_, hs, (dps_len ha).symm⟩
    | non => cases hn
    | bl b => cases hn
    | int i => cases hn
/-- isinstance -/
def tyD : PyData → String
  | .none => "NoneType"
  | .bool _ => "bool"
  | .int _ => "int"
  | .str _ => "str"
  | .list _ => "list"
  | .tuple _ => "tuple"
  | .dict _ => "dict"
theorem tyX_of {v : V} (h : Dp K H v d) : TyX K H v (.type (tyD d)) := by
  cases h with
  | non => exact .base .non
  | bl b => exact .base (.bl b)
  | int i => exact .base (.int i)
  | str x => exact .base (.str x)
  | lst hs ha =>
    rcases hs with (hs | ⟨o, hs⟩) | ⟨o, its, n, h1, h2, _⟩
    · exact .base (.lst hs)
    · exact .base (.frz hs)
    · exact .kList h1 h2
  | tup hs ha =>
    rcases hs with (hs | ⟨o, hs⟩) | ⟨o, its, n, h1, h2, _⟩
    · exact .base (.tup hs)
    · exact .fTuple hs
    · exact .kTuple h1 h2
theorem ed_isi {T : String} (h : Ed K ta σ H d) (hb : kitB (tyD d) T = some b) : Ed K (tCB (rIsi K) (tCons ta (tCons (tC (.ty T)) tNil))) σ H (.bool b) := fun H1 e Q q =>
  h H1 e _ fun v H2 e2 hv => ⟨v, .ty T, .type (tyD d), .type T, b, rfl, .ty T, tyX_of hv, kit_ty hb, q _ H2 e2 (.bl _)⟩
/-- == of data -/
theorem ed_eq (h : Ed K ta σ H d) (h2 : Ed K tb σ H e) (s1 : SeqAt.shaped d = true) (s2 : SeqAt.shaped e = true) : Ed K (tOp (rEqD K) ta tb) σ H (.bool (PyData.eqv d e)) := fun H1 a Q q =>
  h H1 a _ fun v H2 e2 hv => h2 H2 (a.trans e2) _ fun w H3 e3 hw => ⟨d, e, dpMono e3 _ _ hv, hw, s1, s2, q _ H3 (e2.trans e3) (.bl _)⟩
theorem ed_ne (h : Ed K ta σ H d) (h2 : Ed K tb σ H e) (s1 : SeqAt.shaped d = true) (s2 : SeqAt.shaped e = true) : Ed K (tOp (rNeD K) ta tb) σ H (.bool (!PyData.eqv d e)) := fun H1 a Q q =>
  h H1 a _ fun v H2 e2 hv => h2 H2 (a.trans e2) _ fun w H3 e3 hw => ⟨d, e, dpMono e3 _ _ hv, hw, s1, s2, q _ H3 (e2.trans e3) (.bl _)⟩
/-- is None -/
def isNone : PyData → Bool
  | .none => true
  | _ => false
theorem isNone_of {v : V} (h : Dp K H v d) : decide (v = .non) = isNone d := by
  cases h <;> first | rfl | (simp [isNone])
def rIsN' : R2 := fun x y H Q => y = .non ∧ Q (.bl (decide (x = .non))) H
def rNotN' : R2 := fun x y H Q => y = .non ∧ Q (.bl (!decide (x = .non))) H
theorem o_isN {X : Cx} : OpR X (compareOp .Is) rIsN' := op_isN
theorem o_notN {X : Cx} : OpR X (compareOp .IsNot) rNotN' := op_notN
theorem ed_isN (h : Ed K ta σ H d) : Ed K (tOp rIsN' ta (tC .non)) σ H (.bool (isNone d)) := fun H1 a Q q =>
  h H1 a _ fun v H2 e2 hv => ⟨rfl, by rw [isNone_of hv]; exact q _ H2 e2 (.bl _)⟩
theorem ed_notN (h : Ed K ta σ H d) : Ed K (tOp rNotN' ta (tC .non)) σ H (.bool (!isNone d)) := fun H1 a Q q =>
  h H1 a _ fun v H2 e2 hv => ⟨rfl, by rw [isNone_of hv]; exact q _ H2 e2 (.bl _)⟩
/-- ints -/
theorem ed_cmpI {p : Int → Int → Bool} (h : Ed K ta σ H (.int i)) (h2 : Ed K tb σ H (.int j)) : Ed K (tOp (rI0 fun i j => .bl (p i j)) ta tb) σ H (.bool (p i j)) :=
  ed_ev (ev_op (ev_int h) (ev_int h2) rv_I0) (.bl _)
theorem ed_opI {f : Int → Int → Int} (h : Ed K ta σ H (.int i)) (h2 : Ed K tb σ H (.int j)) : Ed K (tOp (rI0 fun i j => .int (f i j)) ta tb) σ H (.int (f i j)) :=
  ed_ev (ev_op (ev_int h) (ev_int h2) rv_I0) (.int _)
theorem ed_if (h : EvT t σ H b) (h1 : b = true → Ed K ta σ H d) (h2 : b = false → Ed K tb σ H d) : Ed K (tIf t ta tb) σ H d := fun H1 e Q q => h H1 e _ fun H2 e2 => by
  cases b with
  | true => exact h1 rfl H2 (e.trans e2) Q fun v H3 e3 hv => q v H3 (e2.trans e3) hv
  | false => exact h2 rfl H2 (e.trans e2) Q fun v H3 e3 hv => q v H3 (e2.trans e3) hv
theorem ed_andV {a b : Bool} (h1 : Ed K ta σ H (.bool a)) (h2 : a = true → Ed K tb σ H (.bool b)) : Ed K (tAndV ta tb) σ H (.bool (a && b)) :=
  ed_ev (ev_andV (ev_bl h1) fun e => ev_bl (h2 e)) (.bl _)
theorem ed_orV {a b : Bool} (h1 : Ed K ta σ H (.bool a)) (h2 : a = false → Ed K tb σ H (.bool b)) : Ed K (tOrV ta tb) σ H (.bool (a || b)) :=
  ed_ev (ev_orV (ev_bl h1) fun e => ev_bl (h2 e)) (.bl _)
theorem ed_notV {a : Bool} (h1 : Ed K ta σ H (.bool a)) : Ed K (tNotV ta) σ H (.bool (!a)) := ed_ev (ev_notV (ev_bl h1)) (.bl _)
theorem et_val (h : Ed K te σ H (.bool b)) : EvT (tB te) σ H b := et_B (ev_bl h)
theorem et_cmp (h : Ed K te σ H (.bool b)) : EvT (tTest te) σ H b := et_test (ev_bl h)
/-- a < b < c of ints -/
theorem ed_chain {k : Int} {p q : Int → Int → Bool} (h : Ed K ta σ H (.int i)) (h2 : Ed K tb σ H (.int j)) (h3 : Ed K tx σ H (.int k)) :
    Ed K (tChain (rI0 fun i j => .bl (p i j)) (rI0 fun i j => .bl (q i j)) ta tb tx) σ H (.bool (p i j && q j k)) := fun H1 a Q g =>
  h H1 a _ fun v H2 e2 hv => h2 H2 (a.trans e2) _ fun w H3 e3 hw => by
    rw [dp_int hv, dp_int hw]
    refine ⟨i, j, rfl, rfl, p i j, rfl, ?_⟩
    cases hp : p i j with
    | true => exact h3 H3 ((a.trans e2).trans e3) _ fun z H4 e4 hz => ⟨j, k, rfl, dp_int hz, g _ H4 ((e2.trans e3).trans e4) (by rw [hp, Bool.true_and]; exact .bl _)⟩
    | false => exact g _ H3 (e2.trans e3) (by rw [hp, Bool.false_and]; exact .bl _)
/-- a pure def on data -/
def spD (K : PySem.W.Frag) (n : Nat) (f : List PyData → PyData) (Pre : List PyData → Prop) : Sp := fun vs H Q _ => vs.length = n ∧ ∃ ds, DpAll K H vs ds ∧ Pre ds ∧ ∀ r H', Ex H H' → Dp K H' r (f ds) → Q r H'
theorem ed_call {n : Nat} {f : List PyData → PyData} {Pre : List PyData → Prop} {E : XK} {ta : TA} (h : EdA K ta σ H ds) (hp : Pre ds) (hl : ds.length = n := by rfl) : Ed K (tCall (spD K n f Pre) [] E ta) σ H (f ds) := fun H1 e Q q =>
  h H1 e _ fun vs H2 e2 hds => ⟨by rw [List.append_nil, dps_len hds]; exact hl, ds, by rw [List.append_nil]; exact hds, hp, fun r H3 e3 hr => q r H3 (e2.trans e3) hr⟩
variable {D : Ends} {tz : TS}
theorem sd_asg {n : Nat} (h : Ed K te σ H d) (k : ∀ v H1, Ex H H1 → Dp K H1 v d → D.nx (σ.set n (some v)) H1) : tAsg te (gName n) D σ H := h H (Ex.refl H) _ fun v H1 e hd => k v H1 e hd
theorem qd_asg {n : Nat} (h : Ed K te σ H d) (k : ∀ v H1, Ex H H1 → Dp K H1 v d → tz D (σ.set n (some v)) H1) : tSeq (tAsg te (gName n)) tz D σ H := sd_asg (D := { D with nx := tz D }) h k
theorem sd_ret (h : Ed K te σ H d) (k : ∀ v H1, Ex H H1 → Dp K H1 v d → D.rt v H1) : tRet te D σ H := h H (Ex.refl H) _ k
end
end K25

end

section
set_option maxHeartbeats 4000000
namespace K25
open PySem PySem.Spec PyProof.Rows L2 Evl
abbrev FnP (K : PySem.W.Frag) (x : Str) (st : Stmt) (f : Addr) (fd : FuncData) : Prop := FunD K x x (defArgs st) (defBody st) (defScope st) [] [] f fd
/-- what the top has left, by names -/
structure Tx (K : PySem.W.Frag) (mg : Str → Option Value) : Prop where
  g_is_integer : mg "is_integer" = some (.ref (He.ga K "is_integer"))
  g_is_count : mg "is_count" = some (.ref (He.ga K "is_count"))
  g_is_list : mg "is_list" = some (.ref (He.ga K "is_list"))
  g_is_lettered : mg "is_lettered" = some (.ref (He.ga K "is_lettered"))
  g_is_name : mg "is_name" = some (.ref (He.ga K "is_name"))
  g_is_big : mg "is_big" = some (.ref (He.ga K "is_big"))
  g_last_of_long : mg "last_of_long" = some (.ref (He.ga K "last_of_long"))
  g_is_long_big : mg "is_long_big" = some (.ref (He.ga K "is_long_big"))
  g_is_language_number : mg "is_language_number" = some (.ref (He.ga K "is_language_number"))
  g_are_unlike : mg "are_unlike" = some (.ref (He.ga K "are_unlike"))
  g_has_word : mg "has_word" = some (.ref (He.ga K "has_word"))
  g_all_of : mg "all_of" = some (.ref (He.ga K "all_of"))
  g_pattern_inside : mg "pattern_inside" = some (.ref (He.ga K "pattern_inside"))
  g_tree_inside : mg "tree_inside" = some (.ref (He.ga K "tree_inside"))
  g_tree_measure : mg "tree_measure" = some (.ref (He.ga K "tree_measure"))
  g_names_bound : mg "names_bound" = some (.ref (He.ga K "names_bound"))
  g_are_trees : mg "are_trees" = some (.ref (He.ga K "are_trees"))
  g_is_pattern : mg "is_pattern" = some (.ref (He.ga K "is_pattern"))
  g_patterns_within : mg "patterns_within" = some (.ref (He.ga K "patterns_within"))
  g_is_small_number : mg "is_small_number" = some (.ref (He.ga K "is_small_number"))
  g_inner_values : mg "inner_values" = some (.ref (He.ga K "inner_values"))
  g_is_plain : mg "is_plain" = some (.ref (He.ga K "is_plain"))
  g_bindings_of : mg "bindings_of" = some (.ref (He.ga K "bindings_of"))
  g_matched_con : mg "matched_con" = some (.ref (He.ga K "matched_con"))
  g_matched_parts : mg "matched_parts" = some (.ref (He.ga K "matched_parts"))
  g_first_of : mg "first_of" = some (.ref (He.ga K "first_of"))
  g_want_value : mg "want_value" = some (.ref (He.ga K "want_value"))
  g_are_patterns : mg "are_patterns" = some (.ref (He.ga K "are_patterns"))
  g_bindings : mg "bindings" = some (.ref (He.ga K "bindings"))
  g_first_rule : mg "first_rule" = some (.ref (He.ga K "first_rule"))
  g__law_pot : mg "_law_pot" = some (.ref (He.ga K "_law_pot"))
  g__law_draw : mg "_law_draw" = some (.ref (He.ga K "_law_draw"))
  g__law_pick : mg "_law_pick" = some (.ref (He.ga K "_law_pick"))
  g__law_cons : mg "_law_cons" = some (.ref (He.ga K "_law_cons"))
  g__law_kind : mg "_law_kind" = some (.ref (He.ga K "_law_kind"))
  g__law_pattern : mg "_law_pattern" = some (.ref (He.ga K "_law_pattern"))
  g__law_named : mg "_law_named" = some (.ref (He.ga K "_law_named"))
  g__law_patterns : mg "_law_patterns" = some (.ref (He.ga K "_law_patterns"))
  g__law_value : mg "_law_value" = some (.ref (He.ga K "_law_value"))
  g__law_match : mg "_law_match" = some (.ref (He.ga K "_law_match"))
  g__law_first : mg "_law_first" = some (.ref (He.ga K "_law_first"))
  g__law_filled : mg "_law_filled" = some (.ref (He.ga K "_law_filled"))
  g__law_is_big : mg "_law_is_big" = some (.ref (He.ga K "_law_is_big"))
  g__law_is_plain : mg "_law_is_plain" = some (.ref (He.ga K "_law_is_plain"))
  g__law_bent : mg "_law_bent" = some (.ref (He.ga K "_law_bent"))
  g__law_heard : mg "_law_heard" = some (.ref (He.ga K "_law_heard"))
  g__law_refused_right : mg "_law_refused_right" = some (.ref (He.ga K "_law_refused_right"))
  g__law_value_right : mg "_law_value_right" = some (.ref (He.ga K "_law_value_right"))
  g__law_right : mg "_law_right" = some (.ref (He.ga K "_law_right"))
  g_law : mg "law" = some (.ref (He.ga K "law"))
  g_ChangeError : mg "ChangeError" = some (.ref (He.ga K "ChangeError"))
  g_InvalidPattern : mg "InvalidPattern" = some (.ref (He.ga K "InvalidPattern"))
  g_InvalidPatterns : mg "InvalidPatterns" = some (.ref (He.ga K "InvalidPatterns"))
  g_InvalidValue : mg "InvalidValue" = some (.ref (He.ga K "InvalidValue"))
  g_KEYWORDS : mg "KEYWORDS" = some (.ref (He.ga K "KEYWORDS"))
  n_isinstance : mg "isinstance" = none
  n_int : mg "int" = none
  n_bool : mg "bool" = none
  n_str : mg "str" = none
  n_list : mg "list" = none
  n_tuple : mg "tuple" = none
  n_len : mg "len" = none
  n_all : mg "all" = none
  n_range : mg "range" = none
  n_zip : mg "zip" = none
  n_enumerate : mg "enumerate" = none
  n_max : mg "max" = none
  n_abs : mg "abs" = none
  n_divmod : mg "divmod" = none
  n_repr : mg "repr" = none
  i_MOST_PARTS : ∃ t, mg "MOST_PARTS" = some (.int (600) t)
  i_MOST_DEEP_trees : ∃ t, mg "MOST_DEEP_trees" = some (.int (40) t)
  i_LEAST_NUMBER_trees : ∃ t, mg "LEAST_NUMBER_trees" = some (.int (-2147483648) t)
  i_MOST_NUMBER_trees : ∃ t, mg "MOST_NUMBER_trees" = some (.int (2147483647) t)
  i_MOST_LETTERS : ∃ t, mg "MOST_LETTERS" = some (.int (20) t)
  i_LEAST_NUMBER_matches : ∃ t, mg "LEAST_NUMBER_matches" = some (.int (-2147483648) t)
  i_MOST_NUMBER_matches : ∃ t, mg "MOST_NUMBER_matches" = some (.int (2147483647) t)
  i_MOST_VALUES : ∃ t, mg "MOST_VALUES" = some (.int (600) t)
  i_MOST_DEEP_matches : ∃ t, mg "MOST_DEEP_matches" = some (.int (40) t)
  i_MOST_RULES : ∃ t, mg "MOST_RULES" = some (.int (8) t)
  s_SMALL : ∃ t, mg "SMALL" = some (.str "abcdefghijklmnopqrstuvwxyz" t)
  s_GREAT : ∃ t, mg "GREAT" = some (.str "ABCDEFGHIJKLMNOPQRSTUVWXYZ" t)
  s_DIGITS : ∃ t, mg "DIGITS" = some (.str "0123456789" t)
  f_is_integer : ∃ fd, FnP K "is_integer" s6 (He.ga K "is_integer") fd
  f_is_count : ∃ fd, FnP K "is_count" s7 (He.ga K "is_count") fd
  f_is_list : ∃ fd, FnP K "is_list" s8 (He.ga K "is_list") fd
  f_is_lettered : ∃ fd, FnP K "is_lettered" s20 (He.ga K "is_lettered") fd
  f_is_name : ∃ fd, FnP K "is_name" s21 (He.ga K "is_name") fd
  f_is_big : ∃ fd, FnP K "is_big" s22 (He.ga K "is_big") fd
  f_last_of_long : ∃ fd, FnP K "last_of_long" s23 (He.ga K "last_of_long") fd
  f_is_long_big : ∃ fd, FnP K "is_long_big" s25 (He.ga K "is_long_big") fd
  f_is_language_number : ∃ fd, FnP K "is_language_number" s26 (He.ga K "is_language_number") fd
  f_are_unlike : ∃ fd, FnP K "are_unlike" s27 (He.ga K "are_unlike") fd
  f_has_word : ∃ fd, FnP K "has_word" s28 (He.ga K "has_word") fd
  f_all_of : ∃ fd, FnP K "all_of" s31 (He.ga K "all_of") fd
  f_pattern_inside : ∃ fd, FnP K "pattern_inside" s36 (He.ga K "pattern_inside") fd
  f_tree_inside : ∃ fd, FnP K "tree_inside" s41 (He.ga K "tree_inside") fd
  f_tree_measure : ∃ fd, FnP K "tree_measure" s42 (He.ga K "tree_measure") fd
  f_names_bound : ∃ fd, FnP K "names_bound" s43 (He.ga K "names_bound") fd
  f_are_trees : ∃ fd, FnP K "are_trees" s44 (He.ga K "are_trees") fd
  f_is_pattern : ∃ fd, FnP K "is_pattern" s45 (He.ga K "is_pattern") fd
  f_patterns_within : ∃ fd, FnP K "patterns_within" s46 (He.ga K "patterns_within") fd
  f_is_small_number : ∃ fd, FnP K "is_small_number" s53 (He.ga K "is_small_number") fd
  f_inner_values : ∃ fd, FnP K "inner_values" s54 (He.ga K "inner_values") fd
  f_is_plain : ∃ fd, FnP K "is_plain" s55 (He.ga K "is_plain") fd
  f_bindings_of : ∃ fd, FnP K "bindings_of" s56 (He.ga K "bindings_of") fd
  f_matched_con : ∃ fd, FnP K "matched_con" s57 (He.ga K "matched_con") fd
  f_matched_parts : ∃ fd, FnP K "matched_parts" s58 (He.ga K "matched_parts") fd
  f_first_of : ∃ fd, FnP K "first_of" s59 (He.ga K "first_of") fd
  f_want_value : ∃ fd, FnP K "want_value" s60 (He.ga K "want_value") fd
  f_are_patterns : ∃ fd, FnP K "are_patterns" s61 (He.ga K "are_patterns") fd
  f_bindings : ∃ fd, FnP K "bindings" s62 (He.ga K "bindings") fd
  f_first_rule : ∃ fd, FnP K "first_rule" s63 (He.ga K "first_rule") fd
  f__law_pot : ∃ fd, FnP K "_law_pot" s65 (He.ga K "_law_pot") fd
  f__law_draw : ∃ fd, FnP K "_law_draw" s66 (He.ga K "_law_draw") fd
  f__law_pick : ∃ fd, FnP K "_law_pick" s67 (He.ga K "_law_pick") fd
  f__law_cons : ∃ fd, FnP K "_law_cons" s68 (He.ga K "_law_cons") fd
  f__law_kind : ∃ fd, FnP K "_law_kind" s69 (He.ga K "_law_kind") fd
  f__law_pattern : ∃ fd, FnP K "_law_pattern" s70 (He.ga K "_law_pattern") fd
  f__law_named : ∃ fd, FnP K "_law_named" s71 (He.ga K "_law_named") fd
  f__law_patterns : ∃ fd, FnP K "_law_patterns" s72 (He.ga K "_law_patterns") fd
  f__law_value : ∃ fd, FnP K "_law_value" s73 (He.ga K "_law_value") fd
  f__law_match : ∃ fd, FnP K "_law_match" s74 (He.ga K "_law_match") fd
  f__law_first : ∃ fd, FnP K "_law_first" s75 (He.ga K "_law_first") fd
  f__law_filled : ∃ fd, FnP K "_law_filled" s76 (He.ga K "_law_filled") fd
  f__law_is_big : ∃ fd, FnP K "_law_is_big" s77 (He.ga K "_law_is_big") fd
  f__law_is_plain : ∃ fd, FnP K "_law_is_plain" s78 (He.ga K "_law_is_plain") fd
  f__law_bent : ∃ fd, FnP K "_law_bent" s79 (He.ga K "_law_bent") fd
  f__law_heard : ∃ fd, FnP K "_law_heard" s80 (He.ga K "_law_heard") fd
  f__law_refused_right : ∃ fd, FnP K "_law_refused_right" s81 (He.ga K "_law_refused_right") fd
  f__law_value_right : ∃ fd, FnP K "_law_value_right" s82 (He.ga K "_law_value_right") fd
  f__law_right : ∃ fd, FnP K "_law_right" s83 (He.ga K "_law_right") fd
  f_law : ∃ fd, FnP K "law" s84 (He.ga K "law") fd
  f_init : ∃ fd, FunD K "__init__" "ChangeError.__init__" (defArgs sInit) (defBody sInit) (defScope sInit) [.non] [] (He.ma K (He.ga K "ChangeError") "__init__") fd
  ex : exB K = true
theorem tx_of {K : PySem.W.Frag} {h : Heap} {mg : Str → Option Value} (X : K.In h) (G : h.Ns mainGlobals mg) (c : He.SaysD fa fn K) (e : exB K = true) : Tx K mg := by
  have gl : ∀ x : Str, He.Fa.glo x ∈ fa → mg x = some (.ref (He.ga K x)) := fun x hx => He.glo_ok X G (c.facts hx)
  have nl : ∀ x : Str, He.Fa.free x ∈ fa → mg x = none := fun x hx => He.free_ok X G (c.facts hx)
  have il : ∀ (x : Str) (i : Int), He.Fa.int x i ∈ fa → ∃ t, mg x = some (.int i t) := fun x i hx => He.int_ok X G (c.facts hx)
  have sl : ∀ (x z : Str), He.Fa.str x z ∈ fa → ∃ t, mg x = some (.str z t) := fun x i hx => He.str_ok X G (c.facts hx)
  exact {
    g_is_integer := gl _ (List.mem_of_getElem? (i := 0) rfl)
    g_is_count := gl _ (List.mem_of_getElem? (i := 1) rfl)
    g_is_list := gl _ (List.mem_of_getElem? (i := 2) rfl)
    g_is_lettered := gl _ (List.mem_of_getElem? (i := 3) rfl)
    g_is_name := gl _ (List.mem_of_getElem? (i := 4) rfl)
    g_is_big := gl _ (List.mem_of_getElem? (i := 5) rfl)
    g_last_of_long := gl _ (List.mem_of_getElem? (i := 6) rfl)
    g_is_long_big := gl _ (List.mem_of_getElem? (i := 7) rfl)
    g_is_language_number := gl _ (List.mem_of_getElem? (i := 8) rfl)
    g_are_unlike := gl _ (List.mem_of_getElem? (i := 9) rfl)
    g_has_word := gl _ (List.mem_of_getElem? (i := 10) rfl)
    g_all_of := gl _ (List.mem_of_getElem? (i := 11) rfl)
    g_pattern_inside := gl _ (List.mem_of_getElem? (i := 12) rfl)
    g_tree_inside := gl _ (List.mem_of_getElem? (i := 13) rfl)
    g_tree_measure := gl _ (List.mem_of_getElem? (i := 14) rfl)
    g_names_bound := gl _ (List.mem_of_getElem? (i := 15) rfl)
    g_are_trees := gl _ (List.mem_of_getElem? (i := 16) rfl)
    g_is_pattern := gl _ (List.mem_of_getElem? (i := 17) rfl)
    g_patterns_within := gl _ (List.mem_of_getElem? (i := 18) rfl)
    g_is_small_number := gl _ (List.mem_of_getElem? (i := 19) rfl)
    g_inner_values := gl _ (List.mem_of_getElem? (i := 20) rfl)
    g_is_plain := gl _ (List.mem_of_getElem? (i := 21) rfl)
    g_bindings_of := gl _ (List.mem_of_getElem? (i := 22) rfl)
    g_matched_con := gl _ (List.mem_of_getElem? (i := 23) rfl)
    g_matched_parts := gl _ (List.mem_of_getElem? (i := 24) rfl)
    g_first_of := gl _ (List.mem_of_getElem? (i := 25) rfl)
    g_want_value := gl _ (List.mem_of_getElem? (i := 26) rfl)
    g_are_patterns := gl _ (List.mem_of_getElem? (i := 27) rfl)
    g_bindings := gl _ (List.mem_of_getElem? (i := 28) rfl)
    g_first_rule := gl _ (List.mem_of_getElem? (i := 29) rfl)
    g__law_pot := gl _ (List.mem_of_getElem? (i := 30) rfl)
    g__law_draw := gl _ (List.mem_of_getElem? (i := 31) rfl)
    g__law_pick := gl _ (List.mem_of_getElem? (i := 32) rfl)
    g__law_cons := gl _ (List.mem_of_getElem? (i := 33) rfl)
    g__law_kind := gl _ (List.mem_of_getElem? (i := 34) rfl)
    g__law_pattern := gl _ (List.mem_of_getElem? (i := 35) rfl)
    g__law_named := gl _ (List.mem_of_getElem? (i := 36) rfl)
    g__law_patterns := gl _ (List.mem_of_getElem? (i := 37) rfl)
    g__law_value := gl _ (List.mem_of_getElem? (i := 38) rfl)
    g__law_match := gl _ (List.mem_of_getElem? (i := 39) rfl)
    g__law_first := gl _ (List.mem_of_getElem? (i := 40) rfl)
    g__law_filled := gl _ (List.mem_of_getElem? (i := 41) rfl)
    g__law_is_big := gl _ (List.mem_of_getElem? (i := 42) rfl)
    g__law_is_plain := gl _ (List.mem_of_getElem? (i := 43) rfl)
    g__law_bent := gl _ (List.mem_of_getElem? (i := 44) rfl)
    g__law_heard := gl _ (List.mem_of_getElem? (i := 45) rfl)
    g__law_refused_right := gl _ (List.mem_of_getElem? (i := 46) rfl)
    g__law_value_right := gl _ (List.mem_of_getElem? (i := 47) rfl)
    g__law_right := gl _ (List.mem_of_getElem? (i := 48) rfl)
    g_law := gl _ (List.mem_of_getElem? (i := 49) rfl)
    g_ChangeError := gl _ (List.mem_of_getElem? (i := 50) rfl)
    g_InvalidPattern := gl _ (List.mem_of_getElem? (i := 51) rfl)
    g_InvalidPatterns := gl _ (List.mem_of_getElem? (i := 52) rfl)
    g_InvalidValue := gl _ (List.mem_of_getElem? (i := 53) rfl)
    g_KEYWORDS := gl _ (List.mem_of_getElem? (i := 54) rfl)
    n_isinstance := nl _ (List.mem_of_getElem? (i := 55) rfl)
    n_int := nl _ (List.mem_of_getElem? (i := 56) rfl)
    n_bool := nl _ (List.mem_of_getElem? (i := 57) rfl)
    n_str := nl _ (List.mem_of_getElem? (i := 58) rfl)
    n_list := nl _ (List.mem_of_getElem? (i := 59) rfl)
    n_tuple := nl _ (List.mem_of_getElem? (i := 60) rfl)
    n_len := nl _ (List.mem_of_getElem? (i := 61) rfl)
    n_all := nl _ (List.mem_of_getElem? (i := 62) rfl)
    n_range := nl _ (List.mem_of_getElem? (i := 63) rfl)
    n_zip := nl _ (List.mem_of_getElem? (i := 64) rfl)
    n_enumerate := nl _ (List.mem_of_getElem? (i := 65) rfl)
    n_max := nl _ (List.mem_of_getElem? (i := 66) rfl)
    n_abs := nl _ (List.mem_of_getElem? (i := 67) rfl)
    n_divmod := nl _ (List.mem_of_getElem? (i := 68) rfl)
    n_repr := nl _ (List.mem_of_getElem? (i := 69) rfl)
    i_MOST_PARTS := il _ _ (List.mem_of_getElem? (i := 70) rfl)
    i_MOST_DEEP_trees := il _ _ (List.mem_of_getElem? (i := 71) rfl)
    i_LEAST_NUMBER_trees := il _ _ (List.mem_of_getElem? (i := 72) rfl)
    i_MOST_NUMBER_trees := il _ _ (List.mem_of_getElem? (i := 73) rfl)
    i_MOST_LETTERS := il _ _ (List.mem_of_getElem? (i := 74) rfl)
    i_LEAST_NUMBER_matches := il _ _ (List.mem_of_getElem? (i := 75) rfl)
    i_MOST_NUMBER_matches := il _ _ (List.mem_of_getElem? (i := 76) rfl)
    i_MOST_VALUES := il _ _ (List.mem_of_getElem? (i := 77) rfl)
    i_MOST_DEEP_matches := il _ _ (List.mem_of_getElem? (i := 78) rfl)
    i_MOST_RULES := il _ _ (List.mem_of_getElem? (i := 79) rfl)
    s_SMALL := sl _ _ (List.mem_of_getElem? (i := 80) rfl)
    s_GREAT := sl _ _ (List.mem_of_getElem? (i := 81) rfl)
    s_DIGITS := sl _ _ (List.mem_of_getElem? (i := 82) rfl)
    f_is_integer := c.def_ 1 (d := dn "is_integer" s6) rfl
    f_is_count := c.def_ 2 (d := dn "is_count" s7) rfl
    f_is_list := c.def_ 3 (d := dn "is_list" s8) rfl
    f_is_lettered := c.def_ 4 (d := dn "is_lettered" s20) rfl
    f_is_name := c.def_ 5 (d := dn "is_name" s21) rfl
    f_is_big := c.def_ 6 (d := dn "is_big" s22) rfl
    f_last_of_long := c.def_ 7 (d := dn "last_of_long" s23) rfl
    f_is_long_big := c.def_ 8 (d := dn "is_long_big" s25) rfl
    f_is_language_number := c.def_ 9 (d := dn "is_language_number" s26) rfl
    f_are_unlike := c.def_ 10 (d := dn "are_unlike" s27) rfl
    f_has_word := c.def_ 11 (d := dn "has_word" s28) rfl
    f_all_of := c.def_ 12 (d := dn "all_of" s31) rfl
    f_pattern_inside := c.def_ 13 (d := dn "pattern_inside" s36) rfl
    f_tree_inside := c.def_ 14 (d := dn "tree_inside" s41) rfl
    f_tree_measure := c.def_ 15 (d := dn "tree_measure" s42) rfl
    f_names_bound := c.def_ 16 (d := dn "names_bound" s43) rfl
    f_are_trees := c.def_ 17 (d := dn "are_trees" s44) rfl
    f_is_pattern := c.def_ 18 (d := dn "is_pattern" s45) rfl
    f_patterns_within := c.def_ 19 (d := dn "patterns_within" s46) rfl
    f_is_small_number := c.def_ 20 (d := dn "is_small_number" s53) rfl
    f_inner_values := c.def_ 21 (d := dn "inner_values" s54) rfl
    f_is_plain := c.def_ 22 (d := dn "is_plain" s55) rfl
    f_bindings_of := c.def_ 23 (d := dn "bindings_of" s56) rfl
    f_matched_con := c.def_ 24 (d := dn "matched_con" s57) rfl
    f_matched_parts := c.def_ 25 (d := dn "matched_parts" s58) rfl
    f_first_of := c.def_ 26 (d := dn "first_of" s59) rfl
    f_want_value := c.def_ 27 (d := dn "want_value" s60) rfl
    f_are_patterns := c.def_ 28 (d := dn "are_patterns" s61) rfl
    f_bindings := c.def_ 29 (d := dn "bindings" s62) rfl
    f_first_rule := c.def_ 30 (d := dn "first_rule" s63) rfl
    f__law_pot := c.def_ 31 (d := dn "_law_pot" s65) rfl
    f__law_draw := c.def_ 32 (d := dn "_law_draw" s66) rfl
    f__law_pick := c.def_ 33 (d := dn "_law_pick" s67) rfl
    f__law_cons := c.def_ 34 (d := dn "_law_cons" s68) rfl
    f__law_kind := c.def_ 35 (d := dn "_law_kind" s69) rfl
    f__law_pattern := c.def_ 36 (d := dn "_law_pattern" s70) rfl
    f__law_named := c.def_ 37 (d := dn "_law_named" s71) rfl
    f__law_patterns := c.def_ 38 (d := dn "_law_patterns" s72) rfl
    f__law_value := c.def_ 39 (d := dn "_law_value" s73) rfl
    f__law_match := c.def_ 40 (d := dn "_law_match" s74) rfl
    f__law_first := c.def_ 41 (d := dn "_law_first" s75) rfl
    f__law_filled := c.def_ 42 (d := dn "_law_filled" s76) rfl
    f__law_is_big := c.def_ 43 (d := dn "_law_is_big" s77) rfl
    f__law_is_plain := c.def_ 44 (d := dn "_law_is_plain" s78) rfl
    f__law_bent := c.def_ 45 (d := dn "_law_bent" s79) rfl
    f__law_heard := c.def_ 46 (d := dn "_law_heard" s80) rfl
    f__law_refused_right := c.def_ 47 (d := dn "_law_refused_right" s81) rfl
    f__law_value_right := c.def_ 48 (d := dn "_law_value_right" s82) rfl
    f__law_right := c.def_ 49 (d := dn "_law_right" s83) rfl
    f_law := c.def_ 50 (d := dn "law" s84) rfl
    f_init := c.def_ 0 (d := dInit) rfl
    ex := e }
/-! ### a def of the top and its promise -/
def Df (P : Program) (w : World) (K : PySem.W.Frag) (mg : Str → Option Value) (base : Heap) (CX : CXT) (k : Nat) (x : Str) (ps : List Str) (sp : Sp) : Prop :=
  ∃ fd, FnOk P w K mg base CX k (He.ga K x) fd ps sp ∧ Binds K fd ps [] ∧ PySem.W.keepIn K (.ref (He.ga K x)) = true ∧ mg x = some (.ref (He.ga K x))
section
variable {P : Program} {w : World} {K : PySem.W.Frag} {mg : Str → Option Value} {base : Heap}
theorem df_ok {x : Str} {st : Stmt} {N ps : List Str} {k : Nat} {sp : Sp} (hF : ∃ fd, FnP K x st (He.ga K x) fd) (hm : mg x = some (.ref (He.ga K x))) (S : FnScope N ps (defScope st)) (len : ∀ vs H Q E, sp vs H Q E → vs.length = ps.length)
    (hb : ∀ (kV doc pm : Value) (an : Option Addr) (cdv ct : Value) (us : List Value), us.length = ps.length → bindArgs (PySem.W.fnOf x x (defArgs st) (defBody st) (defScope st) .none kV doc pm an cdv ct) ⟨us, []⟩ = pure (ps.zip us))
    (hbody : ∀ (cdv : Value) (A : Around) (outer : List Env) (s : Shared) (H : Hp) (vs : List V) (Q : VK) (E : XK), Room k (A.deeper (envOfC x (defScope st) s.heap.objs.size (He.ga K x) cdv)) → sp vs H Q E →
      ∃ t, PSs (cxOf CX0 P w K mg base N x (defScope st) (He.ga K x) cdv A outer s H E).nox (defBody st) t ∧ t { nx := fun _ H' => Q .non H', rt := Q } (start N vs) H) : Df P w K mg base CX0 (k + 1) x ps sp := by
  obtain ⟨fd, F⟩ := hF
  refine ⟨fd, F.ok S len fun cdv A outer s H vs Q E hr h => ?_, F.bindsN hb, F.kp, hm⟩
  obtain ⟨t, h1, h2⟩ := hbody cdv A outer s H vs Q E hr h
  exact ⟨t, h1.nox, h2⟩
theorem Df.up {CX : CXT} {j k : Nat} {x : Str} {ps : List Str} {sp : Sp} (D : Df P w K mg base CX j x ps sp) (h : j ≤ k) : Df P w K mg base CX k x ps sp := by
  obtain ⟨fd, F, r⟩ := D
  exact ⟨fd, F.mono h, r⟩
theorem Df.imp {CX : CXT} {k : Nat} {x : Str} {ps : List Str} {sp sp' : Sp} (D : Df P w K mg base CX k x ps sp) (h : ∀ vs H Q E, sp' vs H Q E → sp vs H Q E) : Df P w K mg base CX k x ps sp' := by
  obtain ⟨fd, F, r⟩ := D
  exact ⟨fd, F.imp h, r⟩
end
section
variable {X : Cx}
theorem pe_df {k j : Nat} {x : Str} {ps : List Str} {sp : Sp} {e : Expr} {es : List Expr} {t : TA} {p pos : Pos} (D : Df X.prog X.w X.K X.mg X.base CX0 k x ps sp) (hr : Room j X.A) (ha : PA X (e :: es) t) (hk : k ≤ j := by first | decide | omega) (hg : Gl X x := by rfl)
    (hdb : (x == ("__debug__" : Str)) = false := by decide) (he : starEach (e :: es) X.env = (false, eval e X.env) :: starEach es X.env := by rfl) (hpl : (backTo pos (starEach es X.env)).any (·.1) = false := by rfl) :
    PE X (.Call (.Name x p) (e :: es) [] pos) (tCall sp [] E0 t) := by
  obtain ⟨fd, F, b, kp, m⟩ := D
  exact pe_call F (hr.mono hk) hg m kp b .nil pass0 ha hdb he hpl
/-- names of the module -/
theorem pgi {x : Str} {i : Int} {p : Pos} (h : ∃ t, X.mg x = some (.int i t)) (hg : Gl X x := by rfl) (hdb : (x == ("__debug__" : Str)) = false := by decide) : PE X (.Name x p) (tC (.int i)) := by
  obtain ⟨t, e⟩ := h
  exact pe_glob hg e ⟨t, rfl⟩ hdb
theorem pgs {x z : Str} {p : Pos} (h : ∃ t, X.mg x = some (.str z t)) (hg : Gl X x := by rfl) (hdb : (x == ("__debug__" : Str)) = false := by decide) : PE X (.Name x p) (tC (.str z)) := by
  obtain ⟨t, e⟩ := h
  exact pe_glob hg e ⟨t, rfl⟩ hdb
theorem pgr {x : Str} {a : Addr} {p : Pos} (h : X.mg x = some (.ref a)) (hg : Gl X x := by rfl) (hdb : (x == ("__debug__" : Str)) = false := by decide) : PE X (.Name x p) (tC (.ref a)) := pe_glob hg h rfl hdb
theorem pty {x : Str} {n : String} {p : Pos} (h : X.mg x = none) (hv : bootBuiltins x = some (.type n)) (hg : Gl X x := by rfl) (hn : x ≠ "__name__" := by decide) (hdb : (x == ("__debug__" : Str)) = false := by decide) : PE X (.Name x p) (tC (.ty n)) := pe_bltn hg h hv rfl hn hdb
end
theorem b_int : bootBuiltins "int" = some (.type "int") := by decide +kernel
theorem b_bool : bootBuiltins "bool" = some (.type "bool") := by decide +kernel
theorem b_str : bootBuiltins "str" = some (.type "str") := by decide +kernel
theorem b_list : bootBuiltins "list" = some (.type "list") := by decide +kernel
theorem b_tuple : bootBuiltins "tuple" = some (.type "tuple") := by decide +kernel
/-! ### promises of pure defs, by their number of arguments -/
def sp1 (K : PySem.W.Frag) (f : PyData → PyData) (Pre : PyData → Prop) : Sp := fun vs H Q _ => ∃ v d, vs = [v] ∧ Dp K H v d ∧ Pre d ∧ ∀ r H', Ex H H' → Dp K H' r (f d) → Q r H'
def sp2 (K : PySem.W.Frag) (f : PyData → PyData → PyData) (Pre : PyData → PyData → Prop) : Sp := fun vs H Q _ => ∃ v d v2 d2, vs = [v, v2] ∧ Dp K H v d ∧ Dp K H v2 d2 ∧ Pre d d2 ∧ ∀ r H', Ex H H' → Dp K H' r (f d d2) → Q r H'
section
variable {K : PySem.W.Frag} {σ : L2.St} {H : Hp} {ta tb te : TE} {d d2 : PyData}
theorem ed_call1 {f : PyData → PyData} {Pre : PyData → Prop} {E : XK} (h : Ed K ta σ H d) (hp : Pre d) : Ed K (tCall (sp1 K f Pre) [] E (tCons ta tNil)) σ H (f d) := fun H1 e Q q =>
  h H1 e _ fun v H2 e2 hd => ⟨v, d, rfl, hd, hp, fun r H3 e3 hr => q r H3 (e2.trans e3) hr⟩
theorem ed_call2 {f : PyData → PyData → PyData} {Pre : PyData → PyData → Prop} {E : XK} (h : Ed K ta σ H d) (h2 : Ed K tb σ H d2) (hp : Pre d d2) : Ed K (tCall (sp2 K f Pre) [] E (tCons ta (tCons tb tNil))) σ H (f d d2) := fun H1 e Q q =>
  h H1 e _ fun v H2 e2 hd => h2 H2 (e.trans e2) _ fun v2 H3 e3 hd2 => ⟨v, d, v2, d2, rfl, dpMono e3 _ _ hd, hd2, hp, fun r H4 e4 hr => q r H4 ((e2.trans e3).trans e4) hr⟩
end
/-! ### well-formed data of a bounded depth -/
def wf : Nat → PyData → Bool
  | _, .none => true
  | _, .bool _ => true
  | _, .int _ => true
  | _, .str x => PyData.strOk x && decide (x.length ≤ 1000)
  | n + 1, .list ds => decide (ds.length ≤ 1000) && ds.all (wf n)
  | n + 1, .tuple ds => decide (ds.length ≤ 1000) && ds.all (wf n)
  | 0, .list _ => false
  | 0, .tuple _ => false
  | _, .dict _ => false
theorem wf_succ : ∀ (n : Nat) (d : PyData), wf n d = true → wf (n + 1) d = true
  | _, .none, _ => rfl
  | _, .bool _, _ => rfl
  | _, .int _, _ => rfl
  | _, .str x, h => by simpa [wf] using h
  | n + 1, .list ds, h => by
    have h2 : ds.length ≤ 1000 ∧ ∀ x ∈ ds, wf n x = true := by simpa [wf] using h
    have : ds.length ≤ 1000 ∧ ∀ x ∈ ds, wf (n + 1) x = true := ⟨h2.1, fun x hx => wf_succ n x (h2.2 x hx)⟩
    simpa [wf] using this
  | n + 1, .tuple ds, h => by
    have h2 : ds.length ≤ 1000 ∧ ∀ x ∈ ds, wf n x = true := by simpa [wf] using h
    have : ds.length ≤ 1000 ∧ ∀ x ∈ ds, wf (n + 1) x = true := ⟨h2.1, fun x hx => wf_succ n x (h2.2 x hx)⟩
    simpa [wf] using this
  | 0, .list _, h => by cases h
  | 0, .tuple _, h => by cases h
  | 0, .dict _, h => by cases h
  | _ + 1, .dict _, h => by cases h
theorem wf_le {n m : Nat} (h : n ≤ m) {d : PyData} (hd : wf n d = true) : wf m d = true := by
  obtain ⟨k, rfl⟩ := Nat.exists_eq_add_of_le h
  induction k with
  | zero => exact hd
  | succ k ih => exact wf_succ _ _ (ih (by omega))
theorem canLayAll_of {n : Nat} {ds : List PyData} (ih : ∀ x ∈ ds, x.canLay0 = true ∧ x.depth ≤ n) : PyData.canLayAll0 ds = true ∧ PyData.depthAll ds ≤ n := by
  induction ds with
  | nil => exact ⟨by simp [PyData.canLayAll0], by simp [PyData.depthAll]⟩
  | cons x r ihr =>
    obtain ⟨h1, h2⟩ := ih x (List.mem_cons_self)
    obtain ⟨h3, h4⟩ := ihr fun y hy => ih y (List.mem_cons_of_mem _ hy)
    refine ⟨by simp [PyData.canLayAll0, h1, h3], ?_⟩
    simp only [PyData.depthAll]
    omega
theorem wf_lay : ∀ (n : Nat) (d : PyData), wf n d = true → d.canLay0 = true ∧ d.depth ≤ n
  | _, .none, _ => ⟨by simp [PyData.canLay0], by simp [PyData.depth]⟩
  | _, .bool _, _ => ⟨by simp [PyData.canLay0], by simp [PyData.depth]⟩
  | _, .int _, _ => ⟨by simp [PyData.canLay0], by simp [PyData.depth]⟩
  | _, .str x, h => ⟨by
      have h2 : PyData.strOk x = true ∧ x.length ≤ 1000 := by simpa [wf] using h
      simp [PyData.canLay0, h2.1], by simp [PyData.depth]⟩
  | n + 1, .list ds, h => by
    have h2 : ds.length ≤ 1000 ∧ ∀ x ∈ ds, wf n x = true := by simpa [wf] using h
    obtain ⟨h3, h4⟩ := canLayAll_of fun x hx => wf_lay n x (h2.2 x hx)
    refine ⟨by simp [PyData.canLay0, h3], ?_⟩
    simp only [PyData.depth]
    omega
  | n + 1, .tuple ds, h => by
    have h2 : ds.length ≤ 1000 ∧ ∀ x ∈ ds, wf n x = true := by simpa [wf] using h
    obtain ⟨h3, h4⟩ := canLayAll_of fun x hx => wf_lay n x (h2.2 x hx)
    refine ⟨by simp [PyData.canLay0, h3], ?_⟩
    simp only [PyData.depth]
    omega
  | 0, .list _, h => by cases h
  | 0, .tuple _, h => by cases h
  | 0, .dict _, h => by cases h
  | _ + 1, .dict _, h => by cases h
theorem wf_shaped {n : Nat} {d : PyData} (h : wf n d = true) (hn : n ≤ 64 := by decide) : SeqAt.shaped d = true := by
  obtain ⟨h1, h2⟩ := wf_lay n d h
  unfold SeqAt.shaped
  rw [h1, Bool.true_and]
  exact decide_eq_true (by omega)
theorem wf_tup {n : Nat} {ds : List PyData} (h : wf n (.tuple ds) = true) : ds.length ≤ 1000 ∧ ∀ x ∈ ds, wf n x = true := by
  cases n with
  | zero => cases h
  | succ n =>
    have h2 : ds.length ≤ 1000 ∧ ∀ x ∈ ds, wf n x = true := by simpa [wf] using h
    exact ⟨h2.1, fun x hx => wf_succ n x (h2.2 x hx)⟩
theorem wf_lst {n : Nat} {ds : List PyData} (h : wf n (.list ds) = true) : ds.length ≤ 1000 ∧ ∀ x ∈ ds, wf n x = true := by
  cases n with
  | zero => cases h
  | succ n =>
    have h2 : ds.length ≤ 1000 ∧ ∀ x ∈ ds, wf n x = true := by simpa [wf] using h
    exact ⟨h2.1, fun x hx => wf_succ n x (h2.2 x hx)⟩
theorem wf_str {n : Nat} {x : Str} (h : wf n (.str x) = true) : x.length ≤ 1000 := by
  have h2 : PyData.strOk x = true ∧ x.length ≤ 1000 := by simpa [wf] using h
  exact h2.2
theorem wf_tup_mk {n : Nat} {ds : List PyData} (h1 : ds.length ≤ 1000) (h2 : ∀ x ∈ ds, wf n x = true) : wf (n + 1) (.tuple ds) = true := by
  have : ds.length ≤ 1000 ∧ ∀ x ∈ ds, wf n x = true := ⟨h1, h2⟩
  simpa [wf] using this
theorem wf_lst_mk {n : Nat} {ds : List PyData} (h1 : ds.length ≤ 1000) (h2 : ∀ x ∈ ds, wf n x = true) : wf (n + 1) (.list ds) = true := by
  have : ds.length ≤ 1000 ∧ ∀ x ∈ ds, wf n x = true := ⟨h1, h2⟩
  simpa [wf] using this
end K25

end

section
set_option maxHeartbeats 4000000
namespace K25
open PySem PySem.Spec PyProof.Rows L2 Evl
/-! ### None, or a list of one's own -/
def Dn (K : PySem.W.Frag) (H : Hp) (v : V) (d : PyData) : Prop := (v = .non ∧ d = .none) ∨ ∃ p xs ds, v = .ref p ∧ H p = some (.lst xs) ∧ DpAll K H xs ds ∧ d = .list ds
theorem Dn.dp {K : PySem.W.Frag} {H : Hp} {v : V} {d : PyData} (h : Dn K H v d) : Dp K H v d := by
  rcases h with ⟨rfl, rfl⟩ | ⟨p, xs, ds, rfl, h1, h2, rfl⟩
  · exact .non
  · exact .lst (SqL.of h1) h2
theorem Dn.lst {K : PySem.W.Frag} {H : Hp} {v : V} {ds : List PyData} (h : Dn K H v (.list ds)) : ∃ p xs, v = .ref p ∧ H p = some (.lst xs) ∧ DpAll K H xs ds := by
  rcases h with ⟨_, h⟩ | ⟨p, xs, es, rfl, h1, h2, h3⟩
  · cases h
  · cases h3
    exact ⟨p, xs, rfl, h1, h2⟩
theorem Dn.mono {K : PySem.W.Frag} {H H' : Hp} {v : V} {d : PyData} (e : Ex H H') (h : Dn K H v d) : Dn K H' v d := by
  rcases h with ⟨rfl, rfl⟩ | ⟨p, xs, ds, rfl, h1, h2, rfl⟩
  · exact .inl ⟨rfl, rfl⟩
  · exact .inr ⟨p, xs, ds, rfl, e _ _ h1, dpsMono e _ _ h2, rfl⟩
/-- new, as H0 sees it -/
def Fr (H0 : Hp) (v : V) : Prop := ∀ p, v = .ref p → H0 p = none
theorem Fr.back {H H0 : Hp} {v : V} (f : Fr H0 v) (e : Ex H H0) : Fr H v := fun p h => fresh_back e (f p h)
def En (K : PySem.W.Frag) (te : TE) (σ : L2.St) (H : Hp) (d : PyData) : Prop := ∀ H1, Ex H H1 → ∀ Q : VK, (∀ v H2, Ex H1 H2 → Dn K H2 v d → Fr H1 v → Q v H2) → te σ H1 Q
theorem En.ed {K : PySem.W.Frag} {te : TE} {σ : L2.St} {H : Hp} {d : PyData} (h : En K te σ H d) : Ed K te σ H d := fun H1 e Q q => h H1 e _ fun v H2 e2 hd _ => q v H2 e2 hd.dp
theorem En.is {K : PySem.W.Frag} {te : TE} {σ : L2.St} {H : Hp} {d d' : PyData} (h : En K te σ H d) (e : d = d') : En K te σ H d' := e ▸ h
theorem En.mono {K : PySem.W.Frag} {te : TE} {σ : L2.St} {H H' : Hp} {d : PyData} (e : Ex H H') (h : En K te σ H d) : En K te σ H' d := fun H1 a Q q => h H1 (e.trans a) Q q
/-- pure defs that hand back None or a list of one's own -/
def sn1 (K : PySem.W.Frag) (f : PyData → PyData) (Pre : PyData → Prop) : Sp := fun vs H Q _ => ∃ v d, vs = [v] ∧ Dp K H v d ∧ Pre d ∧ ∀ r H', Ex H H' → Dn K H' r (f d) → Fr H r → Q r H'
def sn2 (K : PySem.W.Frag) (f : PyData → PyData → PyData) (Pre : PyData → PyData → Prop) : Sp := fun vs H Q _ => ∃ v d v2 d2, vs = [v, v2] ∧ Dp K H v d ∧ Dp K H v2 d2 ∧ Pre d d2 ∧ ∀ r H', Ex H H' → Dn K H' r (f d d2) → Fr H r → Q r H'
theorem len1n {K : PySem.W.Frag} {f : PyData → PyData} {Pre : PyData → Prop} {x : Str} : ∀ vs H Q E, sn1 K f Pre vs H Q E → vs.length = [x].length := fun vs H Q E h => by
  obtain ⟨v, d, rfl, _⟩ := h
  rfl
theorem len2n {K : PySem.W.Frag} {f : PyData → PyData → PyData} {Pre : PyData → PyData → Prop} {x y : Str} : ∀ vs H Q E, sn2 K f Pre vs H Q E → vs.length = [x, y].length := fun vs H Q E h => by
  obtain ⟨v, d, v2, d2, rfl, _⟩ := h
  rfl
theorem len1 {K : PySem.W.Frag} {f : PyData → PyData} {Pre : PyData → Prop} {x : Str} : ∀ vs H Q E, sp1 K f Pre vs H Q E → vs.length = [x].length := fun vs H Q E h => by
  obtain ⟨v, d, rfl, _⟩ := h
  rfl
theorem len2 {K : PySem.W.Frag} {f : PyData → PyData → PyData} {Pre : PyData → PyData → Prop} {x y : Str} : ∀ vs H Q E, sp2 K f Pre vs H Q E → vs.length = [x, y].length := fun vs H Q E h => by
  obtain ⟨v, d, v2, d2, rfl, _⟩ := h
  rfl
section
variable {K : PySem.W.Frag} {σ : L2.St} {H : Hp} {ta tb te tl : TE} {d d2 : PyData} {ds : List PyData} {t : TT} {b : Bool} {D : Ends} {tz : TS}
theorem en_call1 {f : PyData → PyData} {Pre : PyData → Prop} {E : XK} (h : Ed K ta σ H d) (hp : Pre d) : En K (tCall (sn1 K f Pre) [] E (tCons ta tNil)) σ H (f d) := fun H1 e Q q =>
  h H1 e _ fun v H2 e2 hd => ⟨v, d, rfl, hd, hp, fun r H3 e3 hr fr => q r H3 (e2.trans e3) hr (fr.back e2)⟩
theorem en_call2 {f : PyData → PyData → PyData} {Pre : PyData → PyData → Prop} {E : XK} (h : Ed K ta σ H d) (h2 : Ed K tb σ H d2) (hp : Pre d d2) : En K (tCall (sn2 K f Pre) [] E (tCons ta (tCons tb tNil))) σ H (f d d2) := fun H1 e Q q =>
  h H1 e _ fun v H2 e2 hd => h2 H2 (e.trans e2) _ fun v2 H3 e3 hd2 => ⟨v, d, v2, d2, rfl, dpMono e3 _ _ hd, hd2, hp, fun r H4 e4 hr fr => q r H4 ((e2.trans e3).trans e4) hr (fr.back (e2.trans e3))⟩
theorem en_non : En K (tC .non) σ H .none := fun H1 _ _ q => q .non H1 (Ex.refl H1) (.inl ⟨rfl, rfl⟩) (fun _ h => by cases h)
theorem en_lst {ta : TA} (h : EdA K ta σ H ds) (hl : ds.length ≤ 100000 := by simp) : En K (tLst ta) σ H (.list ds) := fun H1 e _ q =>
  h H1 e _ fun vs H2 e2 hds => ⟨sz_of (by rw [dps_len hds]; exact hl), fun p hp => q (.ref p) _ (e2.trans (Ex.new hp)) (.inr ⟨p, vs, ds, rfl, upd_same, dpsMono (Ex.new hp) _ _ hds, rfl⟩) (fun z h => by cases h; exact fresh_back e2 hp)⟩
theorem en_if (h : EvT t σ H b) (h1 : b = true → En K ta σ H d) (h2 : b = false → En K tb σ H d) : En K (tIf t ta tb) σ H d := fun H1 e Q q => h H1 e _ fun H2 e2 => by
  cases b with
  | true => exact h1 rfl H2 (e.trans e2) Q fun v H3 e3 hv fv => q v H3 (e2.trans e3) hv (fv.back e2)
  | false => exact h2 rfl H2 (e.trans e2) Q fun v H3 e3 hv fv => q v H3 (e2.trans e3) hv (fv.back e2)
theorem sn_ret (h : En K te σ H d) (k : ∀ v H1, Ex H H1 → Dn K H1 v d → Fr H v → D.rt v H1) : tRet te D σ H := h H (Ex.refl H) _ fun v H1 e hd f => k v H1 e hd f
theorem qn_asg {n : Nat} (h : En K te σ H d) (k : ∀ v H1, Ex H H1 → Dn K H1 v d → Fr H v → tz D (σ.set n (some v)) H1) : tSeq (tAsg te (gName n)) tz D σ H := h H (Ex.refl H) _ fun v H1 e hd f => k v H1 e hd f
/-- list(t) of a tuple -/
theorem en_listT {r : List V → Hp → VK → Prop} (hr : ∀ p ys H Q, SqT K H p ys → (∀ l, H l = none → Q (.ref l) (upd H l (.lst ys))) → r [.ref p] H Q) (h : Ed K ta σ H (.tuple ds)) : En K (tCB r (tCons ta tNil)) σ H (.list ds) := fun H1 e Q q =>
  h H1 e _ fun v H2 e2 hv => by
    obtain ⟨a, xs, rfl, hs, ha⟩ := dp_tup hv
    exact hr a xs H2 Q hs fun l hl => q (.ref l) _ (e2.trans (Ex.new hl)) (.inr ⟨l, xs, ds, rfl, upd_same, dpsMono (Ex.new hl) _ _ ha, rfl⟩) (fun z h => by cases h; exact fresh_back e2 hl)
theorem frz_at : ∀ {ds : List PyData}, frzAll ds = true → ∀ {i : Nat} {d : PyData}, ds[i]? = some d → frz d = true
  | [], _, i, d, h => by simp at h
  | x :: r, f, i, d, h => by
    have f2 : frz x = true ∧ frzAll r = true := by simpa [frzAll] using f
    cases i with
    | zero =>
      simp at h
      subst h
      exact f2.1
    | succ i => exact frz_at f2.2 (i := i) (by simpa using h)
theorem frz_app : ∀ {ds es : List PyData}, frzAll ds = true → frzAll es = true → frzAll (ds ++ es) = true
  | [], _, _, h => h
  | x :: r, es, f, h => by
    have f2 : frz x = true ∧ frzAll r = true := by simpa [frzAll] using f
    have := frz_app f2.2 h
    simp [frzAll, f2.1, this]
theorem frz_take : ∀ {ds : List PyData} (n : Nat), frzAll ds = true → frzAll (ds.take n) = true
  | _, 0, _ => by simp [frzAll]
  | [], _ + 1, _ => by simp [frzAll]
  | x :: r, n + 1, f => by
    have f2 : frz x = true ∧ frzAll r = true := by simpa [frzAll] using f
    have := frz_take (ds := r) n f2.2
    simp [frzAll, f2.1, this]
theorem frz_all {ds : List PyData} (h : ∀ d ∈ ds, frz d = true) : frzAll ds = true := by
  induction ds with
  | nil => rfl
  | cons x r ih =>
    have h1 := h x List.mem_cons_self
    have h2 := ih fun d hd => h d (List.mem_cons_of_mem _ hd)
    simp [frzAll, h1, h2]
theorem take_succ {ds : List PyData} {i : Nat} {d : PyData} (h : ds[i]? = some d) : ds.take (i + 1) = ds.take i ++ [d] := by
  rw [List.take_add_one, h] <;> rfl
/-- what a comprehension's list holds so far -/
def LcP (K : PySem.W.Frag) (H0 : Hp) (D : Addr) (ds : List PyData) (i : Nat) (H' : Hp) : Prop := H0 D = none ∧ Ex H0 H' ∧ ∃ acc, H' D = some (.lst acc) ∧ acc.length = i ∧ DpAll K H' acc (ds.take i)
theorem lcp0 {H0 : Hp} {D : Addr} (h : H0 D = none) : LcP K H0 D ds 0 (upd H0 D (.lst [])) := ⟨h, Ex.new h, [], upd_same, rfl, .nil⟩
theorem lcp_turn {H0 H' : Hp} {D : Addr} {i : Nat} {σ2 : L2.St} (p : LcP K H0 D ds i H') (hi : ds[i]? = some d) (hz : ds.length ≤ 1000) (hf : frzAll ds = true) (he : Ed K te σ2 H' d) :
    te σ2 H' fun y H4 => ∃ acc, H4 D = some (.lst acc) ∧ acc.length < sizeLine ∧ LcP K H0 D ds (i + 1) (upd H4 D (.lst (acc ++ [y]))) := by
  obtain ⟨p1, p2, acc, p3, p4, p5⟩ := p
  refine he H' (Ex.refl _) _ fun y H4 e4 hy => ?_
  have hD := e4 D _ p3
  have hil := (List.getElem?_eq_some_iff.mp hi).1
  refine ⟨acc, hD, sz_lt (by omega), p1, Ex.mut (p2.trans e4) p1, acc ++ [y], upd_same, by simp [p4], ?_⟩
  rw [take_succ hi]
  exact dps_app (dpsTK (TK.setL hD) _ _ (frz_take i hf) (dpsMono e4 _ _ p5)) (dps_one (dpTK (TK.setL hD) _ _ (frz_at hf hi) hy))
theorem lcp_end {H0 H' : Hp} {D : Addr} (p : LcP K H0 D ds ds.length H') : Ex H0 H' ∧ Dn K H' (.ref D) (.list ds) ∧ Fr H0 (.ref D) := by
  obtain ⟨p1, p2, acc, p3, p4, p5⟩ := p
  rw [List.take_length] at p5
  exact ⟨p2, .inr ⟨D, acc, ds, rfl, p3, p5, rfl⟩, fun z h => by cases h; exact p1⟩
theorem wipe1 {j : Nat} {x : V} : wipe ((wipe σ [j]).set j (some x)) [j] = wipe σ [j] := by
  simp [wipe, List.set_set]
/-- [e for x in t] of a tuple -/
theorem en_lcT {j : Nat} {ds' : List PyData} (h : Ed K tl σ H (.tuple ds)) (hl : ds'.length = ds.length) (hz : ds'.length ≤ 1000) (hf : frzAll ds' = true)
    (he : ∀ (i : Nat) d d' x H1, Ex H H1 → ds[i]? = some d → ds'[i]? = some d' → Dp K H1 x d → Ed K te ((wipe σ [j]).set j (some x)) H1 d') : En K (tLc (iTup K tl) (gName j) tYes te [j]) σ H (.list ds') := fun H1 e Q q =>
  h H1 e _ fun v H2 e2 hv => by
    obtain ⟨a, xs, rfl, hs, ha⟩ := dp_tup hv
    have hx : xs.length = ds'.length := (dps_len ha).trans hl.symm
    refine ⟨a, rfl, ⟨xs, hs⟩, fun D hD => lc_it (walk_tup (xs := xs)) (LcP K H2 D ds') (lcp0 hD) (fun i H' _ p => ex_t p.2.1 hs) (fun i x H3 H4 hi p y => ?_) fun H3 p => ?_⟩
    · obtain ⟨rfl, hy⟩ := y
      refine ⟨wipe1, ?_⟩
      obtain ⟨d, hd, hdx⟩ := dps_of i ha hy
      have hi' : i < ds'.length := by omega
      exact lcp_turn p (List.getElem?_eq_getElem hi') hz hf (he i d _ x H4 ((e.trans e2).trans p.2.1) hd (List.getElem?_eq_getElem hi') (dpMono p.2.1 _ _ hdx))
    · rw [hx] at p
      obtain ⟨p1, p2, p3⟩ := lcp_end p
      exact q _ _ (e2.trans p1) p2 (p3.back e2)
/-- .. of a list -/
theorem en_lcL {j : Nat} {ds' : List PyData} (h : Ed K tl σ H (.list ds)) (hl : ds'.length = ds.length) (hz : ds'.length ≤ 1000) (hf : frzAll ds' = true)
    (he : ∀ (i : Nat) d d' x H1, Ex H H1 → ds[i]? = some d → ds'[i]? = some d' → Dp K H1 x d → Ed K te ((wipe σ [j]).set j (some x)) H1 d') : En K (tLc (iList K tl) (gName j) tYes te [j]) σ H (.list ds') := fun H1 e Q q =>
  h H1 e _ fun v H2 e2 hv => by
    obtain ⟨a, xs, rfl, hs, ha⟩ := dp_lst hv
    have hx : xs.length = ds'.length := (dps_len ha).trans hl.symm
    refine ⟨a, rfl, ⟨xs, hs⟩, fun D hD => lc_it (walk_list (xs := xs)) (LcP K H2 D ds') (lcp0 hD) (fun i H' _ p => ex_l p.2.1 hs) (fun i x H3 H4 hi p y => ?_) fun H3 p => ?_⟩
    · obtain ⟨rfl, hy⟩ := y
      refine ⟨wipe1, ?_⟩
      obtain ⟨d, hd, hdx⟩ := dps_of i ha hy
      have hi' : i < ds'.length := by omega
      exact lcp_turn p (List.getElem?_eq_getElem hi') hz hf (he i d _ x H4 ((e.trans e2).trans p.2.1) hd (List.getElem?_eq_getElem hi') (dpMono p.2.1 _ _ hdx))
    · rw [hx] at p
      obtain ⟨p1, p2, p3⟩ := lcp_end p
      exact q _ _ (e2.trans p1) p2 (p3.back e2)
/-- .. of a text -/
theorem en_lcS {j : Nat} {z : Str} {ds' : List PyData} (h : Ed K tl σ H (.str z)) (hl : ds'.length = z.cps.size) (hz : ds'.length ≤ 1000) (hf : frzAll ds' = true)
    (he : ∀ (i : Nat) (c : Nat) d' H1, Ex H H1 → z.cps[i]? = some c → ds'[i]? = some d' → Ed K te ((wipe σ [j]).set j (some (.str ⟨#[c]⟩))) H1 d') : En K (tLc (iStr tl) (gName j) tYes te [j]) σ H (.list ds') := fun H1 e Q q =>
  h H1 e _ fun v H2 e2 hv => by
    have hv' := dp_str hv
    subst hv'
    refine ⟨z, rfl, fun D hD => lc_it (walk_str (z := z)) (LcP K H2 D ds') (lcp0 hD) (fun i H' _ p => True.intro) (fun i x H3 H4 hi p y => ?_) fun H3 p => ?_⟩
    · obtain ⟨rfl, c, hc, rfl⟩ := y
      refine ⟨wipe1, ?_⟩
      have hi' : i < ds'.length := by omega
      exact lcp_turn p (List.getElem?_eq_getElem hi') hz hf (he i c _ H4 ((e.trans e2).trans p.2.1) hc (List.getElem?_eq_getElem hi'))
    · rw [← hl] at p
      obtain ⟨p1, p2, p3⟩ := lcp_end p
      exact q _ _ (e2.trans p1) p2 (p3.back e2)
/-- all(l) of a list of truths -/
theorem bls_of : ∀ {bs : List Bool} {xs : List V}, DpAll K H xs (bs.map PyData.bool) → xs = bs.map V.bl
  | [], _, h => by cases h; rfl
  | b :: bs, _, h => by
    cases h with
    | cons h1 h2 =>
      have e1 := dp_bl h1
      have e2 := bls_of h2
      rw [e1, e2]
      rfl
theorem ed_all {bs : List Bool} (h : Ed K ta σ H (.list (bs.map PyData.bool))) : Ed K (tCB (rAll K) (tCons ta tNil)) σ H (.bool (bs.all id)) := fun H1 e Q q =>
  h H1 e _ fun v H2 e2 hv => by
    obtain ⟨a, xs, rfl, hs, ha⟩ := dp_lst hv
    have hx := bls_of ha
    subst hx
    exact ⟨a, bs, rfl, hs, q _ H2 e2 (.bl _)⟩
/-- texts -/
def rInC : R2 := fun x y H Q => ∃ (c : Nat) (z : Str), x = .str ⟨#[c]⟩ ∧ y = .str z ∧ Q (.bl (decide (c ∈ z.cps.toList))) H
def rNotInC : R2 := fun x y H Q => ∃ (c : Nat) (z : Str), x = .str ⟨#[c]⟩ ∧ y = .str z ∧ Q (.bl (!decide (c ∈ z.cps.toList))) H
theorem o_inC {X : Cx} : OpR X (compareOp .In) rInC := op_in_sign
theorem o_notInC {X : Cx} : OpR X (compareOp .NotIn) rNotInC := op_notIn_sign
theorem ed_inC {c : Nat} {z : Str} (h : Ed K ta σ H (.str ⟨#[c]⟩)) (h2 : Ed K tb σ H (.str z)) : Ed K (tOp rInC ta tb) σ H (.bool (decide (c ∈ z.cps.toList))) := fun H1 a Q q =>
  h H1 a _ fun v H2 e2 hv => h2 H2 (a.trans e2) _ fun w H3 e3 hw => ⟨c, z, dp_str hv, dp_str hw, q _ H3 (e2.trans e3) (.bl _)⟩
theorem ed_notInC {c : Nat} {z : Str} (h : Ed K ta σ H (.str ⟨#[c]⟩)) (h2 : Ed K tb σ H (.str z)) : Ed K (tOp rNotInC ta tb) σ H (.bool (!decide (c ∈ z.cps.toList))) := fun H1 a Q q =>
  h H1 a _ fun v H2 e2 hv => h2 H2 (a.trans e2) _ fun w H3 e3 hw => ⟨c, z, dp_str hv, dp_str hw, q _ H3 (e2.trans e3) (.bl _)⟩
theorem ed_ixS {c n : Nat} {z : Str} (h : Ed K ta σ H (.str z)) (hi : Ed K tb σ H (.int (n : Int))) (hz : z.length ≤ 100000) (hc : z.cps.toList[n]? = some c) : Ed K (tOp rIxS ta tb) σ H (.str ⟨#[c]⟩) := fun H1 a Q q =>
  h H1 a _ fun v H2 e2 hv => hi H2 (a.trans e2) _ fun w H3 e3 hw => ⟨z, (n : Int), c, dp_str hv, dp_int hw, sz_of hz, atI_nat hc, q _ H3 (e2.trans e3) (.str _)⟩
/-- in, not in, among flat things -/
def strD : PyData → Option Str
  | .str x => some x
  | _ => none
theorem inV_strs {x : Str} : ∀ xs : List Str, inV (.str x) (xs.map V.str) = decide (x ∈ xs)
  | [] => by simp [inV]
  | y :: ys => by
    have ih := inV_strs (x := x) ys
    unfold inV at ih ⊢
    rw [List.map_cons, List.any_cons, ih]
    by_cases e : x = y
    · subst e
      simp [eqV]
    · have e2 : ¬ y = x := fun z => e z.symm
      simp [eqV, e, e2]
theorem flat_strs (xs : List Str) : (xs.map V.str).all flatV = true := by
  induction xs with
  | nil => rfl
  | cons x r ih => simp [flatV, ih]
end
end K25

end

section
set_option maxHeartbeats 4000000
namespace K25
open PySem PySem.Spec PyProof.Rows L2 Evl
/-! ### isinstance of data -/
def isaInt : PyData → Bool
  | .int _ => true
  | .bool _ => true
  | _ => false
def isBoolD : PyData → Bool
  | .bool _ => true
  | _ => false
def isStrD : PyData → Bool
  | .str _ => true
  | _ => false
def isTupD : PyData → Bool
  | .tuple _ => true
  | _ => false
def isListD : PyData → Bool
  | .list _ => true
  | _ => false
theorem kit_int (d : PyData) : kitB (tyD d) "int" = some (isaInt d) := by cases d <;> simp only [tyD, isaInt] <;> decide +kernel
theorem kit_bool (d : PyData) : kitB (tyD d) "bool" = some (isBoolD d) := by cases d <;> simp only [tyD, isBoolD] <;> decide +kernel
theorem kit_str (d : PyData) : kitB (tyD d) "str" = some (isStrD d) := by cases d <;> simp only [tyD, isStrD] <;> decide +kernel
theorem kit_tuple (d : PyData) : kitB (tyD d) "tuple" = some (isTupD d) := by cases d <;> simp only [tyD, isTupD] <;> decide +kernel
theorem kit_list (d : PyData) : kitB (tyD d) "list" = some (isListD d) := by cases d <;> simp only [tyD, isListD] <;> decide +kernel
def isIntD : PyData → Bool
  | .int _ => true
  | _ => false
theorem isInt_eq (d : PyData) : (isaInt d && !isBoolD d) = isIntD d := by cases d <;> rfl
def isCountD : PyData → Bool
  | .int i => decide (0 ≤ i)
  | _ => false
def isNumD : PyData → Bool
  | .int i => decide (-2147483648 ≤ i) && decide (i ≤ 2147483647)
  | _ => false
/-! ### texts -/
def sSMALL : Str := "abcdefghijklmnopqrstuvwxyz"
def sGREAT : Str := "ABCDEFGHIJKLMNOPQRSTUVWXYZ"
def sDIGITS : Str := "0123456789"
def okSign (c : Nat) : Bool := decide (c ∈ sSMALL.cps.toList) || (decide (c ∈ sGREAT.cps.toList) || decide (c ∈ sDIGITS.cps.toList))
def firstIn (x f : Str) : Bool := match x.cps.toList with
  | [] => false
  | c :: _ => decide (c ∈ f.cps.toList)
def letteredS (x f : Str) : Bool := (decide (1 ≤ x.length) && decide (x.length ≤ 20)) && (firstIn x f && x.cps.toList.all okSign)
def letteredD : PyData → PyData → Bool
  | .str x, .str f => letteredS x f
  | _, _ => false
def short : PyData → Prop
  | .str x => x.length ≤ 1000
  | _ => True
def bigD (d : PyData) : Bool := letteredD d (.str sGREAT)
def nameD : PyData → Bool
  | .str x => letteredS x sSMALL && !decide (x ∈ kws1)
  | _ => false
def sDot : Str := "."
def lastAt (x : Str) (i : Nat) : PyData := if letteredS (cutS x none (some (i : Int))) sGREAT = true then PyData.str (cutS x (some (((cutS x none (some (i : Int))).length : Int) + 1)) none) else PyData.none
def lastL (x : Str) : List Nat → PyData
  | [] => .str x
  | i :: _ => lastAt x i
def lastD : PyData → PyData
  | .str x => lastL x (Builtin.Str.occurrences x sDot 0 x.length 1)
  | d => d
def longBigD (d : PyData) : Bool := bigD (lastD d)
def hasWordD : PyData → Bool
  | .tuple (.str _ :: _) => true
  | _ => false
theorem cut_len (z : Str) (lo hi : Option Int) : (cutS z lo hi).length ≤ z.length := by
  show ((z.cps.toList.drop _).take _).toArray.size ≤ z.cps.size
  rw [List.size_toArray, List.length_take, List.length_drop]
  have : z.cps.toList.length = z.cps.size := by simp
  omega
theorem short_last {d : PyData} (h : short d) : short (lastD d) := by
  cases d with
  | str x =>
    have h' : x.length ≤ 1000 := h
    show short (lastL x (Builtin.Str.occurrences x sDot 0 x.length 1))
    cases Builtin.Str.occurrences x sDot 0 x.length 1 with
    | nil => exact h
    | cons i r =>
      show short (lastAt x i)
      unfold lastAt
      by_cases c : letteredS (cutS x none (some (i : Int))) sGREAT = true
      · rw [if_pos c]
        show (cutS x (some (((cutS x none (some (i : Int))).length : Int) + 1)) none).length ≤ 1000
        exact Nat.le_trans (cut_len x _ _) h'
      · rw [if_neg c]
        trivial
  | _ => trivial
section
variable {P : Program} {w : World} {K : PySem.W.Frag} {mg : Str → Option Value} {base : Heap}
theorem sc_is_integer : FnScope ["value"] ["value"] (defScope s6) := ⟨rfl, rfl, rfl, by decide +kernel, rfl, by decide +kernel, by decide +kernel⟩
theorem ok_is_integer (T : Tx K mg) : Df P w K mg base CX0 1 "is_integer" ["value"] (sp1 K (fun d => .bool (isIntD d)) fun _ => True) := by
  refine df_ok T.f_is_integer T.g_is_integer sc_is_integer len1 (fun _ _ _ _ _ _ us hl => match us, hl with | [_], _ => rfl) fun cdv A outer s H vs Q E hr h => ?_
  obtain ⟨v, d, rfl, hd, _, q⟩ := h
  refine ⟨_, (pss_one (ps_ret (pe_and (pe_callB call_isi (by rfl) T.n_isinstance (by decide +kernel) (pa_cons (pv 0) (pa_cons (pty T.n_int b_int) pa_nil))) (pe_one (pe_not (pe_callB call_isi (by rfl) T.n_isinstance (by decide +kernel) (pa_cons (pv 0) (pa_cons (pty T.n_bool b_bool) pa_nil)))))))), ?_⟩
  exact sd_ret (Ed.is (ed_andV (ed_isi (ed_var rfl hd) (kit_int d)) fun _ => ed_notV (ed_isi (ed_var rfl hd) (kit_bool d))) (congrArg PyData.bool (isInt_eq d))) q
theorem sc_is_count : FnScope ["value"] ["value"] (defScope s7) := ⟨rfl, rfl, rfl, by decide +kernel, rfl, by decide +kernel, by decide +kernel⟩
theorem ok_is_count (T : Tx K mg) : Df P w K mg base CX0 2 "is_count" ["value"] (sp1 K (fun d => .bool (isCountD d)) fun _ => True) := by
  have D_is_integer := ok_is_integer (P := P) (w := w) (base := base) T
  refine df_ok T.f_is_count T.g_is_count sc_is_count len1 (fun _ _ _ _ _ _ us hl => match us, hl with | [_], _ => rfl) fun cdv A outer s H vs Q E hr h => ?_
  obtain ⟨v, d, rfl, hd, _, q⟩ := h
  refine ⟨_, (pss_one (ps_ret (pe_and (pe_df D_is_integer hr (pa_cons (pv 0) pa_nil)) (pe_one (pe_cmpR op_ge (pv 0) pe_int (nomark _)))))), ?_⟩
  cases d with
  | int i => exact sd_ret (ed_andV (ed_call1 (ed_var rfl hd) trivial) fun _ => ed_cmpI (ed_var rfl hd) ed_int) q
  | _ => exact sd_ret (ed_andV (b := true) (ed_call1 (ed_var rfl hd) trivial) fun e => by cases e) q
theorem sc_is_language_number : FnScope ["value"] ["value"] (defScope s26) := ⟨rfl, rfl, rfl, by decide +kernel, rfl, by decide +kernel, by decide +kernel⟩
theorem ok_is_language_number (T : Tx K mg) : Df P w K mg base CX0 2 "is_language_number" ["value"] (sp1 K (fun d => .bool (isNumD d)) fun _ => True) := by
  have D_is_integer := ok_is_integer (P := P) (w := w) (base := base) T
  refine df_ok T.f_is_language_number T.g_is_language_number sc_is_language_number len1 (fun _ _ _ _ _ _ us hl => match us, hl with | [_], _ => rfl) fun cdv A outer s H vs Q E hr h => ?_
  obtain ⟨v, d, rfl, hd, _, q⟩ := h
  refine ⟨_, (pss_one (ps_ret (pe_and (pe_df D_is_integer hr (pa_cons (pv 0) pa_nil)) (pe_one (pe_chain op_le op_le (pgi T.i_LEAST_NUMBER_trees) (pv 0) (pgi T.i_MOST_NUMBER_trees)))))), ?_⟩
  cases d with
  | int i => exact sd_ret (ed_andV (ed_call1 (ed_var rfl hd) trivial) fun _ => ed_chain ed_int (ed_var rfl hd) ed_int) q
  | _ => exact sd_ret (ed_andV (b := true) (ed_call1 (ed_var rfl hd) trivial) fun e => by cases e) q
theorem sc_is_small_number : FnScope ["value"] ["value"] (defScope s53) := ⟨rfl, rfl, rfl, by decide +kernel, rfl, by decide +kernel, by decide +kernel⟩
theorem ok_is_small_number (T : Tx K mg) : Df P w K mg base CX0 2 "is_small_number" ["value"] (sp1 K (fun d => .bool (isNumD d)) fun _ => True) := by
  have D_is_integer := ok_is_integer (P := P) (w := w) (base := base) T
  refine df_ok T.f_is_small_number T.g_is_small_number sc_is_small_number len1 (fun _ _ _ _ _ _ us hl => match us, hl with | [_], _ => rfl) fun cdv A outer s H vs Q E hr h => ?_
  obtain ⟨v, d, rfl, hd, _, q⟩ := h
  refine ⟨_, (pss_one (ps_ret (pe_and (pe_df D_is_integer hr (pa_cons (pv 0) pa_nil)) (pe_one (pe_chain op_le op_le (pgi T.i_LEAST_NUMBER_matches) (pv 0) (pgi T.i_MOST_NUMBER_matches)))))), ?_⟩
  cases d with
  | int i => exact sd_ret (ed_andV (ed_call1 (ed_var rfl hd) trivial) fun _ => ed_chain ed_int (ed_var rfl hd) ed_int) q
  | _ => exact sd_ret (ed_andV (b := true) (ed_call1 (ed_var rfl hd) trivial) fun e => by cases e) q
theorem sc_has_word : FnScope ["value"] ["value"] (defScope s28) := ⟨rfl, rfl, rfl, by decide +kernel, rfl, by decide +kernel, by decide +kernel⟩
theorem ok_has_word (T : Tx K mg) : Df P w K mg base CX0 1 "has_word" ["value"] (sp1 K (fun d => .bool (hasWordD d)) fun d => wf 40 d = true) := by
  refine df_ok T.f_has_word T.g_has_word sc_has_word len1 (fun _ _ _ _ _ _ us hl => match us, hl with | [_], _ => rfl) fun cdv A outer s H vs Q E hr h => ?_
  obtain ⟨v, d, rfl, hd, hw, q⟩ := h
  refine ⟨_, (pss_one (ps_ret (pe_and (pe_callB call_isi (by rfl) T.n_isinstance (by decide +kernel) (pa_cons (pv 0) (pa_cons (pty T.n_tuple b_tuple) pa_nil))) (pe_and (pe_cmpR op_gt (pe_callB c_len (by rfl) T.n_len (by decide +kernel) (pa_cons (pv 0) pa_nil)) pe_int (nomark _)) (pe_one (pe_callB call_isi (by rfl) T.n_isinstance (by decide +kernel) (pa_cons (pe_ix ix_tup (pv 0) pe_int (fun _ _ => rfl)) (pa_cons (pty T.n_str b_str) pa_nil)))))))), ?_⟩
  cases d with
  | tuple ds =>
    have hz := (wf_tup hw).1
    have k1 := kit_tuple (.tuple ds)
    cases ds with
    | nil => exact sd_ret (ed_andV (ed_isi (ed_var rfl hd) k1) fun _ => ed_andV (b := true) (ed_cmpI (ed_len (ed_var rfl hd) rfl (by decide)) ed_int) fun e => by cases e) q
    | cons x r =>
      have hz' : (x :: r).length ≤ 100000 := by omega
      refine sd_ret (Ed.is (ed_andV (ed_isi (ed_var rfl hd) k1) fun _ => ed_andV (ed_cmpI (ed_len (ed_var rfl hd) rfl hz') ed_int) fun _ => ed_isi (ed_ixT (n := 0) (ed_var rfl hd) ed_int rfl) (kit_str x)) ?_) q
      cases x <;> simp [isTupD, isStrD, hasWordD] <;> omega
  | _ => exact sd_ret (ed_andV (b := true) (ed_isi (ed_var rfl hd) (kit_tuple _)) fun e => by cases e) q
theorem sc_is_lettered : FnScope ["value", "firsts", "sign"] ["value", "firsts"] (defScope s20) := ⟨rfl, rfl, rfl, by decide +kernel, rfl, by decide +kernel, by decide +kernel⟩
theorem lettered_all (x : Str) : (x.cps.toList.map okSign).map PyData.bool = (x.cps.toList.map fun c => PyData.bool (okSign c)) := by simp
theorem ok_is_lettered (T : Tx K mg) : Df P w K mg base CX0 1 "is_lettered" ["value", "firsts"] (sp2 K (fun d f => .bool (letteredD d f)) fun d f => short d ∧ ∃ z, f = .str z) := by
  refine df_ok T.f_is_lettered T.g_is_lettered sc_is_lettered len2 (fun _ _ _ _ _ _ us hl => match us, hl with | [_, _], _ => rfl) fun cdv A outer s H vs Q E hr h => ?_
  obtain ⟨v, d, v2, d2, rfl, hd, hd2, ⟨hs, z, rfl⟩, q⟩ := h
  have nd := sc_is_lettered.nd
  refine ⟨_, (pss_cons (ps_if (PW.pt (pw_or (pt_not (pt_val (pe_callB call_isi (by rfl) T.n_isinstance (by decide +kernel) (pa_cons (pv 0) (pa_cons (pty T.n_str b_str) pa_nil))))) (pw_or (pt_not (pt_chain op_le op_le pe_int (pe_callB c_len (by rfl) T.n_len (by decide +kernel) (pa_cons (pv 0) pa_nil)) (pgi T.i_MOST_LETTERS))) (pw_or1 (pt_cmpR o_notInC (pe_ix ix_str (pv 0) pe_int (fun _ _ => rfl)) (pv 1) (by rfl)))))) (pss_one (ps_ret pe_bl)) pss_nil)
      (pss_one (ps_ret (pe_callB (cr_all rfl) (by rfl) T.n_all (by decide +kernel) (pa_cons (pe_lc (own := [("sign", 2)]) (g := gName 2) rfl nd (pi_str (pv 0)) (blkOk_by (own := [("sign", 2)]) (N := ["value", "firsts", "sign"]) (sc := defScope s20) (by decide +kernel)) (fun _ _ _ _ _ => pg_name (i := 2) nd rfl (Or.inl rfl)) (fun _ _ _ _ _ => pts_nil) (fun _ _ _ _ _ => (pe_or (pe_cmpR o_inC (pv 2) (pgs T.s_SMALL) (by rfl)) (pe_or (pe_cmpR o_inC (pv 2) (pgs T.s_GREAT) (by rfl)) (pe_one (pe_cmpR o_inC (pv 2) (pgs T.s_DIGITS) (by rfl))))))) pa_nil))))), ?_⟩
  cases d with
  | str x =>
    have hl : x.length ≤ 100000 := Nat.le_trans hs (by decide)
    have hl2 : x.length ≤ 1000 := hs
    have hsz : x.cps.toList.length = x.length := by simp [Str.length]
    refine q_when (et_or (et_not (et_val (ed_isi (ed_var rfl hd) (kit_str _)))) fun _ => et_or (et_not (et_cmp (ed_chain ed_int (ed_len (ed_var rfl hd) rfl hl) ed_int))) fun h2 => et_cmp (K := K) (b := !firstIn x z) ?_) (fun hb H1 e1 => ?_) (fun hb H1 e1 => ?_)
    · have h3 : 1 ≤ x.length := by
        simp only [Bool.not_eq_false', Bool.and_eq_true, decide_eq_true_eq] at h2
        omega
      cases hx : x.cps.toList with
      | nil =>
        rw [hx] at hsz
        simp at hsz
        omega
      | cons c r =>
        have hf : firstIn x z = decide (c ∈ z.cps.toList) := by
          unfold firstIn
          rw [hx]
        rw [hf]
        exact ed_notInC (ed_ixS (n := 0) (ed_var rfl hd) ed_int hl (by rw [hx]; rfl)) (ed_var rfl hd2)
    · refine sd_ret (Ed.is ed_bl ?_) fun v H2 e2 hv => q v H2 (e1.trans e2) hv
      simp only [isStrD, Bool.not_true, Bool.false_or, Bool.or_eq_true, Bool.not_eq_true', Bool.and_eq_false_iff] at hb
      show PyData.bool false = PyData.bool (letteredS x z)
      unfold letteredS
      rcases hb with hb | hb
      · have : (decide (1 ≤ x.length) && decide (x.length ≤ 20)) = false := by
          simp only [Bool.and_eq_false_iff, decide_eq_false_iff_not] at hb ⊢
          omega
        rw [this, Bool.false_and]
      · rw [hb, Bool.false_and, Bool.and_false]
    · have hz2 : ((x.cps.toList.map okSign).map PyData.bool).length = x.cps.size := by simp
      have hfz : frzAll ((x.cps.toList.map okSign).map PyData.bool) = true := frz_all fun d hd => by
        obtain ⟨b, _, rfl⟩ := List.mem_map.mp hd
        rfl
      have hx1 : x.cps.size ≤ 1000 := hl2
      refine sd_ret (Ed.is (ed_all (bs := x.cps.toList.map okSign) (En.ed (en_lcS (j := 2) (ed_var rfl (dpMono e1 _ _ hd)) hz2 (by rw [hz2]; exact hx1) hfz fun i c d' H2 e2 hc hd' => ?_))) ?_) fun v H2 e2 hv => q v H2 (e1.trans e2) hv
      · have e : d' = .bool (okSign c) := by
          rw [List.getElem?_map, List.getElem?_map, Array.getElem?_toList, hc] at hd'
          exact (Option.some.inj hd').symm
        subst e
        exact ed_orV (ed_inC (ed_var rfl (.str _)) ed_str) fun _ => ed_orV (ed_inC (ed_var rfl (.str _)) ed_str) fun _ => ed_inC (ed_var rfl (.str _)) ed_str
      · simp only [isStrD, Bool.not_true, Bool.false_or, Bool.or_eq_false_iff, Bool.not_eq_false', Bool.and_eq_true] at hb
        obtain ⟨⟨h1, h2⟩, h3⟩ := hb
        show PyData.bool ((x.cps.toList.map okSign).all id) = PyData.bool (letteredS x z)
        unfold letteredS
        have k1 : decide (1 ≤ x.length) = true := by
          simp only [decide_eq_true_eq] at h1 ⊢
          omega
        have k2 : decide (x.length ≤ 20) = true := by
          simp only [decide_eq_true_eq] at h2 ⊢
          omega
        rw [k1, k2, h3, Bool.true_and, Bool.true_and, List.all_map]
        rfl
  | _ => exact q_when (b := true) (et_or (b := true) (et_not (et_val (ed_isi (ed_var rfl hd) (kit_str _)))) fun e => by cases e) (fun _ H1 e1 => sd_ret ed_bl fun v H2 e2 hv => q v H2 (e1.trans e2) hv) (fun e => by cases e)
end
end K25

end

section
set_option maxHeartbeats 4000000
namespace K25
open PySem PySem.Spec PyProof.Rows L2 Evl
section
variable {K : PySem.W.Frag} {σ : L2.St} {H : Hp} {ta tb te tl : TE} {d d2 : PyData} {ds : List PyData} {t : TT} {b : Bool}
/-- in a written tuple of texts -/
theorem ed_notInK {a : Addr} {x : Str} {xs : List Str} (h : Ed K ta σ H (.str x)) (hs : ∀ H, SqT K H a (xs.map V.str)) : Ed K (tOp (rIn K true) ta (tC (.ref a))) σ H (.bool (!decide (x ∈ xs))) := fun H1 e Q q =>
  h H1 e _ fun v H2 e2 hv => ⟨a, xs.map V.str, rfl, .inr (hs _), by rw [dp_str hv]; rfl, flat_strs xs, q _ H2 e2 (by rw [dp_str hv, inV_strs]; exact .bl _)⟩
/-- sub in a text -/
def rInTxt : R2 := fun x y H Q => ∃ i j, x = .str i ∧ y = .str j ∧ Q (.bl (!(Builtin.Str.occurrences j i 0 j.length 1).isEmpty)) H
def rNotInTxt : R2 := fun x y H Q => ∃ i j, x = .str i ∧ y = .str j ∧ Q (.bl (!(!(Builtin.Str.occurrences j i 0 j.length 1).isEmpty))) H
theorem o_notInTxt {X : Cx} : OpR X (compareOp .NotIn) rNotInTxt := op_notIn_str
theorem ed_notInTxt {x z : Str} (h : Ed K ta σ H (.str x)) (h2 : Ed K tb σ H (.str z)) : Ed K (tOp rNotInTxt ta tb) σ H (.bool (!(!(Builtin.Str.occurrences z x 0 z.length 1).isEmpty))) := fun H1 a Q q =>
  h H1 a _ fun v H2 e2 hv => h2 H2 (a.trans e2) _ fun w H3 e3 hw => ⟨x, z, dp_str hv, dp_str hw, q _ H3 (e2.trans e3) (.bl _)⟩
def rSIndex : V → List V → Hp → VK → Prop := fun x xs H Q => ∃ a b i rest, x = .str a ∧ xs = [.str b] ∧ Builtin.Str.occurrences a b 0 a.length 1 = i :: rest ∧ Q (.int (i : Nat)) H
theorem m_sindex {X : Cx} : MtR X "str.index" rSIndex := mt_sindex
theorem ed_sindex {x z : Str} {i : Nat} {rest : List Nat} (h : Ed K ta σ H (.str z)) (h2 : Ed K tb σ H (.str x)) (ho : Builtin.Str.occurrences z x 0 z.length 1 = i :: rest) : Ed K (tM1 rSIndex ta tb) σ H (.int (i : Int)) := fun H1 a Q q =>
  h H1 a _ fun v H2 e2 hv => ⟨⟨z, dp_str hv⟩, h2 H2 (a.trans e2) _ fun w H3 e3 hw => ⟨z, x, i, rest, dp_str hv, by rw [dp_str hw], ho, q _ H3 (e2.trans e3) (.int _)⟩⟩
/-- slices of a text -/
def EdO (K : PySem.W.Frag) (to : TO) (σ : L2.St) (H : Hp) (o : Option Int) : Prop := EvO to σ H o
theorem eo_n : EdO K tNoPart σ H none := eo_none
theorem eo_s {i : Int} (h : Ed K te σ H (.int i)) : EdO K (tPart te) σ H (some i) := eo_some (ev_int h)
theorem ed_slS {z : Str} {tlo thi : TO} {lo hi : Option Int} (h : Ed K ta σ H (.str z)) (h1 : EdO K tlo σ H lo) (h2 : EdO K thi σ H hi) (hz : z.length ≤ 100000) : Ed K (tSl rSlS ta tlo thi) σ H (.str (cutS z lo hi)) := fun H1 e Q q =>
  h H1 e _ fun v H2 e2 hv => h1 H2 (e.trans e2) _ fun H3 e3 => h2 H3 ((e.trans e2).trans e3) _ fun H4 e4 => ⟨z, dp_str hv, sz_of hz, q _ H4 ((e2.trans e3).trans e4) (.str _)⟩
end
section
variable {P : Program} {w : World} {K : PySem.W.Frag} {mg : Str → Option Value} {base : Heap}
theorem kw_at {K : PySem.W.Frag} {mg : Str → Option Value} (T : Tx K mg) (H : Hp) : SqT K H (He.ga K "KEYWORDS") (kws1.map V.str) := by
  have h := T.ex
  unfold exB at h
  simp only [Bool.and_eq_true] at h
  have h2 := He.tupB_ok h.2.2.2.2.2 H
  rw [List.map_map] at h2
  exact h2
theorem sc_is_name : FnScope ["value"] ["value"] (defScope s21) := ⟨rfl, rfl, rfl, by decide +kernel, rfl, by decide +kernel, by decide +kernel⟩
theorem ok_is_name (T : Tx K mg) : Df P w K mg base CX0 2 "is_name" ["value"] (sp1 K (fun d => .bool (nameD d)) short) := by
  have D_is_lettered := ok_is_lettered (P := P) (w := w) (base := base) T
  refine df_ok T.f_is_name T.g_is_name sc_is_name len1 (fun _ _ _ _ _ _ us hl => match us, hl with | [_], _ => rfl) fun cdv A outer s H vs Q E hr h => ?_
  obtain ⟨v, d, rfl, hd, hs, q⟩ := h
  refine ⟨_, (pss_one (ps_ret (pe_and (pe_df D_is_lettered hr (pa_cons (pv 0) (pa_cons (pgs T.s_SMALL) pa_nil))) (pe_one (pe_cmpR op_notIn_seq (pv 0) (pgr T.g_KEYWORDS) (by rfl)))))), ?_⟩
  cases d with
  | str x => exact sd_ret (ed_andV (ed_call2 (ed_var rfl hd) ed_str ⟨hs, _, rfl⟩) fun _ => ed_notInK (ed_var rfl hd) (kw_at T)) q
  | _ => exact sd_ret (ed_andV (b := true) (ed_call2 (ed_var rfl hd) ed_str ⟨hs, _, rfl⟩) fun e => by cases e) q
theorem sc_is_big : FnScope ["value"] ["value"] (defScope s22) := ⟨rfl, rfl, rfl, by decide +kernel, rfl, by decide +kernel, by decide +kernel⟩
theorem ok_is_big (T : Tx K mg) : Df P w K mg base CX0 2 "is_big" ["value"] (sp1 K (fun d => .bool (bigD d)) short) := by
  have D_is_lettered := ok_is_lettered (P := P) (w := w) (base := base) T
  refine df_ok T.f_is_big T.g_is_big sc_is_big len1 (fun _ _ _ _ _ _ us hl => match us, hl with | [_], _ => rfl) fun cdv A outer s H vs Q E hr h => ?_
  obtain ⟨v, d, rfl, hd, hs, q⟩ := h
  refine ⟨_, (pss_one (ps_ret (pe_df D_is_lettered hr (pa_cons (pv 0) (pa_cons (pgs T.s_GREAT) pa_nil))))), ?_⟩
  exact sd_ret (ed_call2 (ed_var rfl hd) ed_str ⟨hs, _, rfl⟩) q
theorem sc_last_of_long : FnScope ["value", "first"] ["value"] (defScope s23) := ⟨rfl, rfl, rfl, by decide +kernel, rfl, by decide +kernel, by decide +kernel⟩
theorem ok_last_of_long (T : Tx K mg) : Df P w K mg base CX0 3 "last_of_long" ["value"] (sp1 K lastD short) := by
  have D_is_big := ok_is_big (P := P) (w := w) (base := base) T
  refine df_ok T.f_last_of_long T.g_last_of_long sc_last_of_long len1 (fun _ _ _ _ _ _ us hl => match us, hl with | [_], _ => rfl) fun cdv A outer s H vs Q E hr h => ?_
  obtain ⟨v, d, rfl, hd, hs, q⟩ := h
  have nd := sc_last_of_long.nd
  refine ⟨_, (pss_cons (ps_if (PW.pt (pw_or (pt_not (pt_val (pe_callB call_isi (by rfl) T.n_isinstance (by decide +kernel) (pa_cons (pv 0) (pa_cons (pty T.n_str b_str) pa_nil))))) (pw_or1 (pt_cmpR o_notInTxt pe_str (pv 0) (by rfl))))) (pss_one (ps_ret (pv 0))) pss_nil)
      (pss_cons (ps_set (i := 1) nd rfl (Or.inl rfl) (pe_slice sl_str (pv 0) po_none (po_some (pe_m1 PySem.F.slot_str_index PySem.F.type_str_index m_sindex (pv 0) pe_str))))
      (pss_one (ps_ret (pe_ifExp (pt_val (pe_df D_is_big hr (pa_cons (pv 1) pa_nil))) (pe_slice sl_str (pv 0) (po_some (pe_op op_add (pe_callB c_len (by rfl) T.n_len (by decide +kernel) (pa_cons (pv 1) pa_nil)) pe_int)) po_none) pe_non))))), ?_⟩
  cases d with
  | str x =>
    have hl2 : x.length ≤ 1000 := hs
    have hl : x.length ≤ 100000 := Nat.le_trans hl2 (by decide)
    refine q_when (et_or (et_not (et_val (ed_isi (ed_var rfl hd) (kit_str _)))) fun _ => et_cmp (ed_notInTxt ed_str (ed_var rfl hd))) (fun hb H1 e1 => ?_) (fun hb H1 e1 => ?_)
    · refine sd_ret (Ed.is (ed_var rfl (dpMono e1 _ _ hd)) ?_) fun v H2 e2 hv => q v H2 (e1.trans e2) hv
      simp only [isStrD, Bool.not_true, Bool.false_or, Bool.not_not, List.isEmpty_iff] at hb
      show PyData.str x = lastL x (Builtin.Str.occurrences x sDot 0 x.length 1)
      have hb' : Builtin.Str.occurrences x sDot 0 x.length 1 = [] := hb
      rw [hb']
      rfl
    · simp only [isStrD, Bool.not_true, Bool.false_or, Bool.not_not] at hb
      cases ho : Builtin.Str.occurrences x sDot 0 x.length 1 with
      | nil =>
        have ho' : Builtin.Str.occurrences x (Str.ofString ".") 0 x.length 1 = [] := ho
        rw [ho'] at hb
        cases hb
      | cons i r =>
        have hd1 := dpMono e1 _ _ hd
        have hc : (cutS x none (some (i : Int))).length ≤ 1000 := Nat.le_trans (cut_len x _ _) hl2
        refine qd_asg (ed_slS (ed_var rfl hd1) eo_n (eo_s (ed_sindex (ed_var rfl hd1) ed_str ho)) hl) fun v2 H2 e2 hv2 => ?_
        refine sd_ret (Ed.is (ed_if (d := lastAt x i) (et_val (ed_call1 (ed_var rfl hv2) hc)) (fun hb2 => ?_) (fun hb2 => ?_)) ?_) fun v H3 e3 hv => q v H3 ((e1.trans e2).trans e3) hv
        · have hb3 : letteredS (cutS x none (some (i : Int))) sGREAT = true := hb2
          unfold lastAt
          rw [if_pos hb3]
          exact ed_slS (ed_var rfl (dpMono e2 _ _ hd1)) (eo_s (ed_opI (ed_len (ed_var rfl hv2) rfl (Nat.le_trans hc (by decide))) ed_int)) eo_n hl
        · have hb3 : letteredS (cutS x none (some (i : Int))) sGREAT = false := hb2
          unfold lastAt
          rw [if_neg (by rw [hb3]; decide)]
          exact ed_non
        · show lastAt x i = lastL x (Builtin.Str.occurrences x sDot 0 x.length 1)
          rw [ho]
          rfl
  | _ => exact q_when (b := true) (et_or (b := true) (et_not (et_val (ed_isi (ed_var rfl hd) (kit_str _)))) fun e => by cases e) (fun _ H1 e1 => sd_ret (ed_var rfl (dpMono e1 _ _ hd)) fun v H2 e2 hv => q v H2 (e1.trans e2) hv) (fun e => by cases e)
theorem sc_is_long_big : FnScope ["value"] ["value"] (defScope s25) := ⟨rfl, rfl, rfl, by decide +kernel, rfl, by decide +kernel, by decide +kernel⟩
theorem ok_is_long_big (T : Tx K mg) : Df P w K mg base CX0 4 "is_long_big" ["value"] (sp1 K (fun d => .bool (longBigD d)) short) := by
  have D_is_big := ok_is_big (P := P) (w := w) (base := base) T
  have D_last_of_long := ok_last_of_long (P := P) (w := w) (base := base) T
  refine df_ok T.f_is_long_big T.g_is_long_big sc_is_long_big len1 (fun _ _ _ _ _ _ us hl => match us, hl with | [_], _ => rfl) fun cdv A outer s H vs Q E hr h => ?_
  obtain ⟨v, d, rfl, hd, hs, q⟩ := h
  refine ⟨_, (pss_one (ps_ret (pe_df D_is_big hr (pa_cons (pe_df D_last_of_long hr (pa_cons (pv 0) pa_nil)) pa_nil)))), ?_⟩
  exact sd_ret (ed_call1 (ed_call1 (ed_var rfl hd) hs) (short_last hs)) q
end
end K25

end

section
set_option maxHeartbeats 4000000
namespace K25
open PySem PySem.Spec PyProof.Rows L2 Evl
/-! ### in, among data -/
def rInT (K : PySem.W.Frag) : R2 := fun x y H Q => ∃ d ds, Dp K H x d ∧ Dp K H y (.tuple ds) ∧ SeqAt.shaped d = true ∧ SeqAt.shaped (.tuple ds) = true ∧ Q (.bl (ds.any fun z => PyData.eqv z d)) H
def rNotInL (K : PySem.W.Frag) : R2 := fun x y H Q => ∃ d ds, Dp K H x d ∧ Dp K H y (.list ds) ∧ SeqAt.shaped d = true ∧ SeqAt.shaped (.list ds) = true ∧ Q (.bl (!ds.any fun z => PyData.eqv z d)) H
theorem o_inT {X : Cx} {k : Nat} (hr : Room k X.A) : OpR X (compareOp .In) (rInT X.K) := by
  intro pins s σ H x y v u Q I rx ry h
  obtain ⟨d, ds, hd, he, sd, se, q⟩ := h
  obtain ⟨as, r1⟩ := Dp.reads I d x v hd rx
  obtain ⟨bs, r2⟩ := Dp.reads I (.tuple ds) y u he ry
  have hc : PyData.canLayAll0 ds = true := by simpa [PyData.canLay0] using SeqAt.canLay_of_shaped se
  refine SeqAt.in_tuple_reads r2 r1 hc (SeqAt.canLay_of_shaped sd) ?_ ⟨.bl _, H, I, rfl, q⟩
  have h1 := SeqAt.depth_of_shaped sd
  have h2 := hr.un
  have h3 := Nat.min_le_right (PyData.depthAll ds) d.depth
  omega
theorem o_notInL {X : Cx} {k : Nat} (hr : Room k X.A) : OpR X (compareOp .NotIn) (rNotInL X.K) := op_notInD (by have := hr.un; omega)
section
variable {K : PySem.W.Frag} {σ : L2.St} {H : Hp} {ta tb te tl : TE} {d d2 : PyData} {ds : List PyData} {t : TT} {b : Bool}
theorem ed_inT (h : Ed K ta σ H d) (h2 : Ed K tb σ H (.tuple ds)) (s1 : SeqAt.shaped d = true) (s2 : SeqAt.shaped (.tuple ds) = true) : Ed K (tOp (rInT K) ta tb) σ H (.bool (ds.any fun z => PyData.eqv z d)) := fun H1 a Q q =>
  h H1 a _ fun v H2 e2 hv => h2 H2 (a.trans e2) _ fun w H3 e3 hw => ⟨d, ds, dpMono e3 _ _ hv, hw, s1, s2, q _ H3 (e2.trans e3) (.bl _)⟩
theorem ed_notInL (h : Ed K ta σ H d) (h2 : Ed K tb σ H (.list ds)) (s1 : SeqAt.shaped d = true) (s2 : SeqAt.shaped (.list ds) = true) : Ed K (tOp (rNotInL K) ta tb) σ H (.bool (!ds.any fun z => PyData.eqv z d)) := fun H1 a Q q =>
  h H1 a _ fun v H2 e2 hv => h2 H2 (a.trans e2) _ fun w H3 e3 hw => ⟨d, ds, dpMono e3 _ _ hv, hw, s1, s2, q _ H3 (e2.trans e3) (.bl _)⟩
end
/-! ### what stands right in a pattern -/
def tagD (s : Str) (d : PyData) : PyData := .tuple [.str s, d]
def formD (s : Str) (n : Int) : PyData := .tuple [.str s, .int n]
def fEq (s : Str) (n : Int) (c : Str) (k : Int) : Bool := decide (s = c) && decide (n = k)
theorem eqv_form (s : Str) (n : Int) (c : Str) (k : Int) : PyData.eqv (formD s n) (formD c k) = fEq s n c k := by
  simp only [formD, PyData.eqv, PyData.eqvAll, fEq]
  rw [Bool.and_true, Bool.beq_eq_decide_eq, Bool.beq_eq_decide_eq]
theorem fEq_comm (s : Str) (n : Int) (c : Str) (k : Int) : fEq s n c k = fEq c k s n := by
  unfold fEq
  congr 1 <;> exact decide_eq_decide.mpr eq_comm
theorem form_shaped {s : Str} {n : Int} (h : wf 40 (.str s) = true) : SeqAt.shaped (formD s n) = true := wf_shaped (n := 41) (wf_tup_mk (by simp) (by
  intro x hx
  simp only [List.mem_cons, List.mem_nil_iff, or_false] at hx
  rcases hx with rfl | rfl
  · exact h
  · rfl))
def allOf (s : Str) (ds : List PyData) : PyData := .list (ds.map (tagD s))
def conPart (r : List PyData) : PyData := if longBigD (r.getD 0 .none) = true then (if isNone (r.getD 1 .none) = true then .list [] else .list [tagD "pattern" (r.getD 1 .none)]) else .none
def tupPart : PyData → PyData
  | .tuple ds => if (decide (2 ≤ ds.length) && decide (ds.length ≤ 4)) = true then allOf "pattern" ds else .none
  | _ => .none
theorem two_four {ds : List PyData} : (isTupD (.tuple ds) && (decide ((2 : Int) ≤ (ds.length : Int)) && decide ((ds.length : Int) ≤ 4))) = (decide (2 ≤ ds.length) && decide (ds.length ≤ 4)) := by
  rw [show isTupD (.tuple ds) = true from rfl, Bool.true_and]
  congr 1 <;> exact decide_eq_decide.mpr (by omega)
theorem tupPart_t (ds : List PyData) : tupPart (.tuple ds) = if (decide (2 ≤ ds.length) && decide (ds.length ≤ 4)) = true then allOf "pattern" ds else .none := rfl
def patInW (s : Str) (r : List PyData) : PyData :=
  if fEq s (r.length + 1) "con" 3 = true then conPart r
  else if fEq s (r.length + 1) "tuple" 2 = true then tupPart (r.getD 0 .none)
  else if ((fEq s (r.length + 1) "any" 1 || fEq s (r.length + 1) "unit" 1) || (fEq s (r.length + 1) "bool" 2 && isBoolD (r.getD 0 .none))) = true then .list []
  else if fEq s (r.length + 1) "int" 2 = true then (if isNumD (r.getD 0 .none) = true then .list [] else .none)
  else if (fEq s (r.length + 1) "bind" 2 && nameD (r.getD 0 .none)) = true then .list [] else .none
def patIn : PyData → PyData
  | .tuple (.str s :: r) => patInW s r
  | _ => .none
theorem getD_at {r : List PyData} {i : Nat} (h : i < r.length) : r[i]? = some (r.getD i .none) := by
  rw [List.getD_eq_getElem?_getD, List.getElem?_eq_getElem h]
  rfl
theorem wf_short {d : PyData} (h : wf 40 d = true) : short d := by
  cases d with
  | str x => exact wf_str h
  | _ => trivial
theorem hasWord_of {d : PyData} (h : hasWordD d = true) : ∃ s r, d = .tuple (.str s :: r) := by
  cases d with
  | tuple ds =>
    cases ds with
    | nil => cases h
    | cons x r =>
      cases x with
      | str s => exact ⟨s, r, rfl⟩
      | _ => cases h
  | _ => cases h
theorem patIn_none {d : PyData} (h : hasWordD d = false) : patIn d = .none := by
  cases d with
  | tuple ds =>
    cases ds with
    | nil => rfl
    | cons x r =>
      cases x with
      | str s => cases h
      | _ => rfl
  | _ => rfl
section
variable {K : PySem.W.Frag} {σ : L2.St} {H : Hp}
theorem ed_form {c : Str} {k : Int} : Ed K (tTup (tCons (tC (.str c)) (tCons (tC (.int k)) tNil))) σ H (formD c k) := ed_tup (ea_consD ed_str (ea_consD ed_int ea_nilD))
theorem et_form {i : Nat} {v : V} {s c : Str} {n k : Int} (hs : σ[i]? = some (some v)) (hv : Dp K H v (formD s n)) (hw : wf 40 (.str s) = true) (hc : wf 40 (.str c) = true := by decide +kernel) :
    EvT (tTest (tOp (rEqD K) (tVar i) (tTup (tCons (tC (.str c)) (tCons (tC (.int k)) tNil))))) σ H (fEq s n c k) :=
  et_cmp (Ed.is (ed_eq (ed_var hs hv) ed_form (form_shaped hw) (form_shaped hc)) (congrArg PyData.bool (eqv_form s n c k)))
end
section
variable {P : Program} {w : World} {K : PySem.W.Frag} {mg : Str → Option Value} {base : Heap}
theorem sc_all_of : FnScope ["sort", "values", "value"] ["sort", "values"] (defScope s31) := ⟨rfl, rfl, rfl, by decide +kernel, rfl, by decide +kernel, by decide +kernel⟩
def allOfD : PyData → PyData → PyData
  | .str s, .tuple ds => allOf s ds
  | _, _ => .none
theorem ok_all_of (T : Tx K mg) : Df P w K mg base CX0 1 "all_of" ["sort", "values"] (sn2 K allOfD fun s d => ∃ z ds, s = .str z ∧ d = .tuple ds ∧ frzAll ds = true ∧ ds.length ≤ 1000) := by
  refine df_ok T.f_all_of T.g_all_of sc_all_of len2n (fun _ _ _ _ _ _ us hl => match us, hl with | [_, _], _ => rfl) fun cdv A outer s H vs Q E hr h => ?_
  obtain ⟨v, d, v2, d2, rfl, hd, hd2, ⟨z, ds, rfl, rfl, hf, hz⟩, q⟩ := h
  have nd := sc_all_of.nd
  refine ⟨_, (pss_one (ps_ret (pe_lc (own := [("value", 2)]) (g := gName 2) rfl nd (pi_tup (pv 1)) (blkOk_by (own := [("value", 2)]) (N := ["sort", "values", "value"]) (sc := defScope s31) (by decide +kernel)) (fun _ _ _ _ _ => pg_name (i := 2) nd rfl (Or.inl rfl)) (fun _ _ _ _ _ => pts_nil) (fun _ _ _ _ _ => (pe_tup (pa_cons (pv 0) (pa_cons (pv 2) pa_nil))))))), ?_⟩
  have hfz : frzAll (ds.map (tagD z)) = true := frz_all fun d hd => by
    obtain ⟨b, hb, rfl⟩ := List.mem_map.mp hd
    obtain ⟨i, hi⟩ := List.getElem?_of_mem hb
    simp [tagD, frz, frzAll, frz_at hf hi]
  refine sn_ret (en_lcT (j := 2) (ed_var rfl hd2) (by simp) (by simpa using hz) hfz fun i d d' x H1 e1 h1 h2 hx => ?_) q
  have e : d' = tagD z d := by
    rw [List.getElem?_map, h1] at h2
    exact (Option.some.inj h2).symm
  subst e
  exact ed_tup (ea_consD (ed_var rfl (dpMono e1 _ _ hd)) (ea_consD (ed_var rfl hx) ea_nilD))
theorem sc_pattern_inside : FnScope ["value", "form"] ["value"] (defScope s36) := ⟨rfl, rfl, rfl, by decide +kernel, rfl, by decide +kernel, by decide +kernel⟩
theorem isF_len {s c : Str} {r : List PyData} {n : Nat} (h : fEq s (r.length + 1) c ((n : Int) + 1) = true) : r.length = n := by
  unfold fEq at h
  simp only [Bool.and_eq_true, decide_eq_true_eq] at h
  omega
theorem ok_pattern_inside (T : Tx K mg) : Df P w K mg base CX0 5 "pattern_inside" ["value"] (sn1 K patIn fun d => wf 40 d = true ∧ (isTupD d = true → frz d = true)) := by
  have D_has_word := ok_has_word (P := P) (w := w) (base := base) T
  have D_is_long_big := ok_is_long_big (P := P) (w := w) (base := base) T
  have D_all_of := ok_all_of (P := P) (w := w) (base := base) T
  have D_is_language_number := ok_is_language_number (P := P) (w := w) (base := base) T
  have D_is_name := ok_is_name (P := P) (w := w) (base := base) T
  refine df_ok T.f_pattern_inside T.g_pattern_inside sc_pattern_inside len1n (fun _ _ _ _ _ _ us hl => match us, hl with | [_], _ => rfl) fun cdv A outer s H vs Q E hr h => ?_
  obtain ⟨v, d, rfl, hd, ⟨hw, hf⟩, q⟩ := h
  have nd := sc_pattern_inside.nd
  refine ⟨_, (pss_cons (ps_if (pt_not (pt_val (pe_df D_has_word hr (pa_cons (pv 0) pa_nil)))) (pss_one (ps_ret pe_non)) pss_nil)
      (pss_cons (ps_set (i := 1) nd rfl (Or.inl rfl) (pe_tup (pa_cons (pe_ix ix_tup (pv 0) pe_int (fun _ _ => rfl)) (pa_cons (pe_callB c_len (by rfl) T.n_len (by decide +kernel) (pa_cons (pv 0) pa_nil)) pa_nil))))
      (pss_cons (ps_if (pt_cmpR (op_eqD hr.units) (pv 1) (pe_tup (pa_cons pe_str (pa_cons pe_int pa_nil))) (nomark _)) (pss_one (ps_ret (pe_ifExp (pt_not (pt_val (pe_df D_is_long_big hr (pa_cons (pe_ix ix_tup (pv 0) pe_int (fun _ _ => rfl)) pa_nil)))) pe_non (pe_ifExp (pt_cmpR o_isN (pe_ix ix_tup (pv 0) pe_int (fun _ _ => rfl)) pe_non (nomark _)) (pe_lst pa_nil) (pe_lst (pa_cons (pe_tup (pa_cons pe_str (pa_cons (pe_ix ix_tup (pv 0) pe_int (fun _ _ => rfl)) pa_nil))) pa_nil)))))) pss_nil)
      (pss_cons (ps_if (pt_cmpR (op_eqD hr.units) (pv 1) (pe_tup (pa_cons pe_str (pa_cons pe_int pa_nil))) (nomark _)) (pss_one (ps_ret (pe_ifExp (PW.pt (pw_and (pt_val (pe_callB call_isi (by rfl) T.n_isinstance (by decide +kernel) (pa_cons (pe_ix ix_tup (pv 0) pe_int (fun _ _ => rfl)) (pa_cons (pty T.n_tuple b_tuple) pa_nil)))) (pw_and1 (pt_chain op_le op_le pe_int (pe_callB c_len (by rfl) T.n_len (by decide +kernel) (pa_cons (pe_ix ix_tup (pv 0) pe_int (fun _ _ => rfl)) pa_nil)) pe_int)))) (pe_df D_all_of hr (pa_cons pe_str (pa_cons (pe_ix ix_tup (pv 0) pe_int (fun _ _ => rfl)) pa_nil))) pe_non))) pss_nil)
      (pss_cons (ps_if (PW.pt (pw_or (pt_cmpR (o_inT hr) (pv 1) (pe_tup (pa_cons (pe_tup (pa_cons pe_str (pa_cons pe_int pa_nil))) (pa_cons (pe_tup (pa_cons pe_str (pa_cons pe_int pa_nil))) pa_nil))) (by rfl)) (pw_or1 (PW.pt (pw_and (pt_cmpR (op_eqD hr.units) (pv 1) (pe_tup (pa_cons pe_str (pa_cons pe_int pa_nil))) (nomark _)) (pw_and1 (pt_val (pe_callB call_isi (by rfl) T.n_isinstance (by decide +kernel) (pa_cons (pe_ix ix_tup (pv 0) pe_int (fun _ _ => rfl)) (pa_cons (pty T.n_bool b_bool) pa_nil)))))))))) (pss_one (ps_ret (pe_lst pa_nil))) pss_nil)
      (pss_cons (ps_if (pt_cmpR (op_eqD hr.units) (pv 1) (pe_tup (pa_cons pe_str (pa_cons pe_int pa_nil))) (nomark _)) (pss_one (ps_ret (pe_ifExp (pt_val (pe_df D_is_language_number hr (pa_cons (pe_ix ix_tup (pv 0) pe_int (fun _ _ => rfl)) pa_nil))) (pe_lst pa_nil) pe_non))) pss_nil)
      (pss_one (ps_ret (pe_ifExp (PW.pt (pw_and (pt_cmpR (op_eqD hr.units) (pv 1) (pe_tup (pa_cons pe_str (pa_cons pe_int pa_nil))) (nomark _)) (pw_and1 (pt_val (pe_df D_is_name hr (pa_cons (pe_ix ix_tup (pv 0) pe_int (fun _ _ => rfl)) pa_nil)))))) (pe_lst pa_nil) pe_non))))))))), ?_⟩
  refine q_when (et_not (et_val (ed_call1 (ed_var rfl hd) hw))) (fun hb H1 e1 => ?_) (fun hb H1 e1 => ?_)
  · exact sn_ret (En.is en_non (patIn_none (by simpa using hb)).symm) fun v H2 e2 hv fv => q v H2 (e1.trans e2) hv (fv.back (e1))
  obtain ⟨z, r, rfl⟩ := hasWord_of (d := d) (by simpa using hb)
  have hd1 := dpMono e1 _ _ hd
  have hz := (wf_tup hw).1
  have hws : ∀ x ∈ r, wf 40 x = true := fun x hx => (wf_tup hw).2 x (List.mem_cons_of_mem _ hx)
  have hwz : wf 40 (.str z) = true := (wf_tup hw).2 _ List.mem_cons_self
  have hfr : frzAll r = true := by
    have := hf rfl
    simpa [frz, frzAll] using this
  have hz' : (PyData.str z :: r).length ≤ 100000 := by omega
  have ix : ∀ {σ : L2.St} {H' : Hp} (i : Nat), Ex H1 H' → σ[0]? = some (some v) → i < r.length → Ed K (tOp (rIxT K) (tVar 0) (tC (.int ((i + 1 : Nat) : Int)))) σ H' (r.getD i .none) := fun i e' hs hi =>
    ed_ixT (n := i + 1) (ed_var hs (dpMono e' _ _ hd1)) ed_int (by rw [List.getElem?_cons_succ]; exact getD_at hi)
  have wfi : ∀ i, wf 40 (r.getD i .none) = true := fun i => by
    by_cases hi : i < r.length
    · exact hws _ (List.mem_of_getElem? (getD_at hi))
    · rw [List.getD_eq_getElem?_getD, List.getElem?_eq_none (by omega)]
      rfl
  refine qd_asg (Ed.is (ed_tup (ea_consD (ed_ixT (n := 0) (ed_var rfl hd1) ed_int rfl) (ea_consD (ed_len (ed_var rfl hd1) rfl hz') ea_nilD))) (show _ = formD z (r.length + 1) from rfl)) fun v2 H2 e2 hv2 => ?_
  show tSeq _ _ _ _ _
  have goal : patIn (.tuple (.str z :: r)) = patInW z r := rfl
  rw [goal] at q
  unfold patInW at q
  refine q_when (et_form rfl hv2 hwz) (fun hb H3 e3 => ?_) (fun hb H3 e3 => ?_)
  · have hl : r.length = 2 := isF_len (n := 2) hb
    rw [if_pos hb] at q
    have E3 := (e2.trans e3)
    refine sn_ret (d := conPart r) ?_ fun v H4 e4 hv fv => q v H4 ((e1.trans E3).trans e4) hv (fv.back ((e1.trans E3)))
    unfold conPart
    refine en_if (et_not (et_val (ed_call1 (ix 0 E3 (by rfl) (by omega)) (wf_short (wfi 0))))) (fun hb2 => ?_) (fun hb2 => ?_)
    · rw [if_neg (by simpa using hb2)]
      exact en_non
    · rw [if_pos (by simpa using hb2)]
      refine en_if (et_cmp (ed_isN (ix 1 E3 (by rfl) (by omega)))) (fun hb3 => ?_) (fun hb3 => ?_)
      · rw [if_pos hb3]
        exact en_lst ea_nilD
      · rw [if_neg (by rw [hb3]; decide)]
        exact en_lst (ea_consD (ed_tup (ea_consD ed_str (ea_consD (ix 1 E3 (by rfl) (by omega)) ea_nilD))) ea_nilD)
  rw [if_neg (by rw [hb]; decide)] at q
  refine q_when (et_form rfl (dpMono e3 _ _ hv2) hwz) (fun hb H4 e4 => ?_) (fun hb H4 e4 => ?_)
  · have hl : r.length = 1 := isF_len (n := 1) hb
    rw [if_pos hb] at q
    have E3 := ((e2.trans e3).trans e4)
    have w0 := wfi 0
    have f0 : frz (r.getD 0 .none) = true := frz_at hfr (getD_at (i := 0) (by omega))
    have i0 : Ed K (tOp (rIxT K) (tVar 0) (tC (.int ((0 + 1 : Nat) : Int)))) [some v, some v2] H4 (r.getD 0 .none) := ix 0 E3 (by rfl) (by omega)
    revert i0 w0 f0 q
    generalize r.getD 0 .none = d0
    intro q w0 f0 i0
    refine sn_ret (d := tupPart d0) ?_ fun v H5 e5 hv fv => q v H5 ((e1.trans E3).trans e5) hv (fv.back ((e1.trans E3)))
    cases d0 with
    | tuple ds =>
      have hz2 := (wf_tup w0).1
      have f1 : frzAll ds = true := by simpa [frz] using f0
      refine en_if (et_and (et_val (ed_isi i0 (kit_tuple _))) fun _ => et_cmp (ed_chain ed_int (ed_len i0 rfl (by omega)) ed_int)) (fun hb2 => ?_) (fun hb2 => ?_)
      · rw [tupPart_t, if_pos (by rw [← two_four]; exact hb2)]
        exact en_call2 ed_str i0 ⟨_, _, rfl, rfl, f1, hz2⟩
      · rw [tupPart_t, if_neg (by rw [← two_four, hb2]; decide)]
        exact en_non
    | _ => exact en_if (b := false) (et_and (b := false) (et_val (ed_isi i0 (kit_tuple _))) fun e => by cases e) (fun e => by cases e) (fun _ => en_non)
  rw [if_neg (by rw [hb]; decide)] at q
  have hv4 := dpMono (e3.trans e4) _ _ hv2
  have E4 := (e2.trans (e3.trans e4))
  have sh := form_shaped (n := (r.length : Int) + 1) hwz
  have t1 : EvT (tTest (tOp (rInT K) (tVar 1) (tTup (tCons (tTup (tCons (tC (.str "any")) (tCons (tC (.int 1)) tNil))) (tCons (tTup (tCons (tC (.str "unit")) (tCons (tC (.int 1)) tNil))) tNil))))) [some v, some v2] H4
      (fEq z (r.length + 1) "any" 1 || fEq z (r.length + 1) "unit" 1) := by
    refine et_cmp (Ed.is (ed_inT (d := formD z (r.length + 1)) (ed_var rfl hv4) (ed_tup (ea_consD ed_form (ea_consD ed_form ea_nilD))) sh (by decide +kernel)) ?_)
    rw [List.any_cons, List.any_cons, List.any_nil, eqv_form, eqv_form, Bool.or_false, fEq_comm "any", fEq_comm "unit"]
  refine q_when (et_or t1 fun _ => et_and (et_form rfl hv4 hwz) fun hb2 => et_val (ed_isi (ix 0 E4 (by rfl) (by have := isF_len (n := 1) hb2; omega)) (kit_bool _))) (fun hb H5 e5 => ?_) (fun hb H5 e5 => ?_)
  · rw [if_pos hb] at q
    exact sn_ret (en_lst ea_nilD) fun v H6 e6 hv fv => q v H6 (e1.trans ((E4.trans e5).trans e6)) hv (fv.back (e1.trans (E4.trans e5)))
  rw [if_neg (by rw [hb]; decide)] at q
  refine q_when (et_form rfl (dpMono e5 _ _ hv4) hwz) (fun hb H6 e6 => ?_) (fun hb H6 e6 => ?_)
  · have hl : r.length = 1 := isF_len (n := 1) hb
    rw [if_pos hb] at q
    have E6 := ((E4.trans e5).trans e6)
    refine sn_ret (d := if isNumD (r.getD 0 .none) = true then .list [] else .none) (en_if (et_val (ed_call1 (ix 0 E6 (by rfl) (by omega)) trivial)) (fun hb2 => ?_) (fun hb2 => ?_)) fun v H7 e7 hv fv => q v H7 (e1.trans (E6.trans e7)) hv (fv.back (e1.trans E6))
    · rw [if_pos hb2]
      exact en_lst ea_nilD
    · rw [if_neg (by rw [hb2]; decide)]
      exact en_non
  rw [if_neg (by rw [hb]; decide)] at q
  have E6 := ((E4.trans e5).trans e6)
  refine sn_ret (d := if (fEq z (r.length + 1) "bind" 2 && nameD (r.getD 0 .none)) = true then .list [] else .none) (en_if (et_and (et_form rfl (dpMono (e5.trans e6) _ _ hv4) hwz) fun hb2 => et_val (ed_call1 (ix 0 E6 (by rfl) (by have := isF_len (n := 1) hb2; omega)) (wf_short (wfi 0)))) (fun hb2 => ?_) (fun hb2 => ?_)) fun v H7 e7 hv fv => q v H7 (e1.trans (E6.trans e7)) hv (fv.back (e1.trans E6))
  · rw [if_pos hb2]
    exact en_lst ea_nilD
  · rw [if_neg (by rw [hb2]; decide)]
    exact en_non
theorem sc_tree_inside : FnScope ["sort", "value"] ["sort", "value"] (defScope s41) := ⟨rfl, rfl, rfl, by decide +kernel, rfl, by decide +kernel, by decide +kernel⟩
/-- sorts of the trees that are looked at here -/
def isPatSort (s : Str) : Prop := s = "pattern" ∨ s = "whole pattern"
theorem ok_tree_inside (T : Tx K mg) : Df P w K mg base CX0 6 "tree_inside" ["sort", "value"] (sn2 K (fun _ d => patIn d) fun s d => (∃ z, s = .str z ∧ isPatSort z) ∧ wf 40 d = true ∧ (isTupD d = true → frz d = true)) := by
  have D_pattern_inside := ok_pattern_inside (P := P) (w := w) (base := base) T
  refine df_ok T.f_tree_inside T.g_tree_inside sc_tree_inside len2n (fun _ _ _ _ _ _ us hl => match us, hl with | [_, _], _ => rfl) fun cdv A outer s H vs Q E hr h => ?_
  obtain ⟨v, d, v2, d2, rfl, hd, hd2, ⟨⟨z, rfl, hz⟩, hw, hf⟩, q⟩ := h
  have nd := sc_tree_inside.nd
  refine ⟨_, pss_cons (ps_if (pt_cmpR (op_eqD hr.units) (pv 0) pe_str (nomark _)) pss_never pss_nil) (pss_cons (ps_if (pt_cmpR (o_inT hr) (pv 0) (pe_tup (pa_cons pe_str (pa_cons pe_str pa_nil))) (by rfl)) (pss_one (ps_ret (pe_df D_pattern_inside hr (pa_cons (pv 1) pa_nil)))) pss_nil) pss_never), ?_⟩
  have sz : SeqAt.shaped (.str z) = true := by rcases hz with rfl | rfl <;> decide +kernel
  refine q_when (b := false) (et_cmp (Ed.is (ed_eq (ed_var rfl hd) ed_str sz (by decide +kernel)) (by rcases hz with rfl | rfl <;> exact congrArg PyData.bool (by decide +kernel)))) (fun e => by cases e) (fun _ H1 e1 => ?_)
  refine q_when (b := true) (et_cmp (Ed.is (ed_inT (ed_var rfl (dpMono e1 _ _ hd)) (ed_tup (ea_consD ed_str (ea_consD ed_str ea_nilD))) sz (by decide +kernel)) (by rcases hz with rfl | rfl <;> exact congrArg PyData.bool (by decide +kernel)))) (fun _ H2 e2 => ?_) (fun e => by cases e)
  exact sn_ret (en_call1 (ed_var rfl (dpMono (e1.trans e2) _ _ hd2)) ⟨hw, hf⟩) fun v H3 e3 hv fv => q v H3 ((e1.trans e2).trans e3) hv (fv.back ((e1.trans e2)))
end
end K25

end

section
set_option maxHeartbeats 4000000
namespace K25
open PySem PySem.Spec PyProof.Rows L2 Evl
/-! ### forms of patterns -/
def anyD : PyData := .tuple [.str "any"]
def bindD (s : Str) : PyData := .tuple [.str "bind", .str s]
def intD (i : Int) : PyData := .tuple [.str "int", .int i]
def boolD (b : Bool) : PyData := .tuple [.str "bool", .bool b]
def unitD : PyData := .tuple [.str "unit"]
def conD (s : Str) (d : PyData) : PyData := .tuple [.str "con", .str s, d]
def tupD (ds : List PyData) : PyData := .tuple [.str "tuple", .tuple ds]
def cellD (i : Int) : PyData := .tuple [.str "cell", .int i]
def nth (d : PyData) (i : Nat) : PyData := match d with
  | .tuple ds => ds.getD i .none
  | _ => .none
def tagOf : PyData → Str
  | .tuple (.str s :: _) => s
  | _ => ""
def kids : PyData → List PyData
  | .tuple ds => ds
  | _ => []
abbrev sOk (s : Str) : Prop := wf 0 (.str s) = true
def conStrs : List Str := ["M.A", "M.B", "M.C", "M.D", "Nil", "Cons", "None", "Some", "DivZero", "Bounds", "NoMore", "NoMatch", "M.F", "M.E"]
inductive PatD : Nat → PyData → Prop
  | anyP (n : Nat) : PatD n anyD
  | bindP (n : Nat) (s : Str) (h : sOk s) (hn : nameD (.str s) = true) : PatD n (bindD s)
  | intP (n : Nat) (i : Int) (h : isNumD (.int i) = true) : PatD n (intD i)
  | boolP (n : Nat) (b : Bool) : PatD n (boolD b)
  | unitP (n : Nat) : PatD n unitD
  | con0 (n : Nat) (s : Str) (h : sOk s) (hb : longBigD (.str s) = true ∧ s ∈ conStrs) : PatD n (conD s .none)
  | con1 (n : Nat) (s : Str) (d : PyData) (h : sOk s) (hb : longBigD (.str s) = true ∧ s ∈ conStrs) (hd : PatD n d) : PatD (n + 1) (conD s d)
  | tupP (n : Nat) (ds : List PyData) (h2 : 2 ≤ ds.length) (h4 : ds.length ≤ 3) (hd : ∀ d ∈ ds, PatD n d) : PatD (n + 1) (tupD ds)
theorem frz_two {a b : PyData} (h1 : frz a = true) (h2 : frz b = true) : frzAll [a, b] = true := by simp [frzAll, h1, h2]
theorem PatD.frz {n : Nat} {d : PyData} (h : PatD n d) : K25.frz d = true := by
  induction h with
  | con1 n s d h hb hd ih => simp [conD, K25.frz, frzAll, ih]
  | tupP n ds h2 h4 hd ih =>
    have := frz_all ih
    simp [tupD, K25.frz, frzAll, this]
  | _ => simp [anyD, bindD, intD, boolD, unitD, conD, K25.frz, frzAll]
theorem wf_any {s : Str} (n : Nat) (h : sOk s) : wf n (.str s) = true := wf_le (Nat.zero_le n) h
theorem wf_list2 {n : Nat} {ds : List PyData} (h1 : ds.length ≤ 1000) (h : ds.all (wf n) = true) : wf (n + 1) (.tuple ds) = true := wf_tup_mk h1 (by simpa using h)
theorem PatD.wf {n : Nat} {d : PyData} (h : PatD n d) : K25.wf (2 * n + 2) d = true := by
  induction h with
  | bindP n s h hn => exact wf_list2 (by simp) (by simp [wf_any _ h]; exact wf_le (Nat.zero_le _) (by decide +kernel))
  | con0 n s h hb => exact wf_list2 (by simp) (by
      have e1 : K25.wf (2 * n + 1) (.str "con") = true := wf_le (Nat.zero_le _) (by decide +kernel)
      have e2 : K25.wf (2 * n + 1) .none = true := wf_le (Nat.zero_le _) (by decide +kernel)
      simp [wf_any _ h, e1, e2])
  | con1 n s d h hb hd ih => exact wf_list2 (by simp) (by
      have e1 : K25.wf (2 * (n + 1) + 1) (.str "con") = true := wf_le (Nat.zero_le _) (by decide +kernel)
      have e2 : K25.wf (2 * (n + 1) + 1) d = true := wf_le (by omega) ih
      simp [wf_any _ h, e1, e2])
  | tupP n ds h2 h4 hd ih => exact wf_list2 (by simp) (by
      have e1 : K25.wf (2 * (n + 1) + 1) (.str "tuple") = true := wf_le (Nat.zero_le _) (by decide +kernel)
      have e2 : K25.wf (2 * (n + 1) + 1) (.tuple ds) = true := wf_tup_mk (by omega) fun x hx => ih x hx
      simp [e1, e2])
  | intP n i h => exact wf_list2 (by simp) (by
      have e1 : K25.wf (2 * n + 1) (.str "int") = true := wf_le (Nat.zero_le _) (by decide +kernel)
      have e2 : K25.wf (2 * n + 1) (.int i) = true := wf_le (Nat.zero_le _) rfl
      simp [e1, e2])
  | boolP n b => exact wf_list2 (by simp) (by
      have e1 : K25.wf (2 * n + 1) (.str "bool") = true := wf_le (Nat.zero_le _) (by decide +kernel)
      have e2 : K25.wf (2 * n + 1) (.bool b) = true := wf_le (Nat.zero_le _) rfl
      simp [e1, e2])
  | anyP n => exact wf_le (n := 1) (by omega) (by decide +kernel)
  | unitP n => exact wf_le (n := 1) (by omega) (by decide +kernel)
theorem PatD.word {n : Nat} {d : PyData} (h : PatD n d) : ∃ r, d = .tuple (.str (tagOf d) :: r) ∧ sOk (tagOf d) ∧ r.length ≤ 2 := by
  cases h with
  | anyP => exact ⟨_, rfl, show sOk "any" by decide +kernel, by simp⟩
  | bindP => exact ⟨_, rfl, show sOk "bind" by decide +kernel, by simp⟩
  | intP => exact ⟨_, rfl, show sOk "int" by decide +kernel, by simp⟩
  | boolP => exact ⟨_, rfl, show sOk "bool" by decide +kernel, by simp⟩
  | unitP => exact ⟨_, rfl, show sOk "unit" by decide +kernel, by simp⟩
  | con0 => exact ⟨_, rfl, show sOk "con" by decide +kernel, by simp⟩
  | con1 => exact ⟨_, rfl, show sOk "con" by decide +kernel, by simp⟩
  | tupP => exact ⟨_, rfl, show sOk "tuple" by decide +kernel, by simp⟩
theorem patW0 (s : Str) (r : List PyData) (h1 : fEq s (r.length + 1) "con" 3 = false) (h2 : fEq s (r.length + 1) "tuple" 2 = false) (h3 : ((fEq s (r.length + 1) "any" 1 || fEq s (r.length + 1) "unit" 1) || (fEq s (r.length + 1) "bool" 2 && isBoolD (r.getD 0 .none))) = true) : patInW s r = allOf "pattern" [] := by
  unfold patInW
  rw [h1, h2, h3]
  rfl
theorem PatD.in {n : Nat} {d : PyData} (h : PatD n d) : ∃ ks, patIn d = allOf "pattern" ks ∧ ks.length ≤ 4 ∧ (∀ k ∈ ks, ∃ m, n = m + 1 ∧ PatD m k) := by
  cases h with
  | con1 m s e h hb hd => exact ⟨[e], by
      have e1 : isNone e = false := by cases hd <;> rfl
      show patInW "con" [.str s, e] = _
      have e3 : fEq "con" (([PyData.str s, e].length : Nat) + 1) "con" 3 = true := by
        show fEq "con" (((2 : Nat) : Int) + 1) "con" 3 = true
        decide +kernel
      unfold patInW
      rw [if_pos e3]
      show conPart [.str s, e] = _
      unfold conPart
      rw [show [PyData.str s, e].getD 0 .none = .str s from rfl, show [PyData.str s, e].getD 1 .none = e from rfl, if_pos hb.1, if_neg (by rw [e1]; decide)]
      rfl, by simp, fun k hk => ⟨m, rfl, by simp at hk; subst hk; exact hd⟩⟩
  | con0 _ s h hb => exact ⟨[], by
      show patInW "con" [.str s, .none] = _
      have e3 : fEq "con" (([PyData.str s, PyData.none].length : Nat) + 1) "con" 3 = true := by
        show fEq "con" (((2 : Nat) : Int) + 1) "con" 3 = true
        decide +kernel
      unfold patInW
      rw [if_pos e3]
      unfold conPart
      rw [show [PyData.str s, PyData.none].getD 0 .none = .str s from rfl, show [PyData.str s, PyData.none].getD 1 .none = .none from rfl, if_pos hb.1]
      rfl, by simp, fun k hk => by cases hk⟩
  | tupP m ds h2 h4 hd => exact ⟨ds, by
      show patInW "tuple" [.tuple ds] = _
      have e3 : fEq "tuple" (([PyData.tuple ds].length : Nat) + 1) "con" 3 = false := by
        show fEq "tuple" (((1 : Nat) : Int) + 1) "con" 3 = false
        decide +kernel
      have e4 : fEq "tuple" (([PyData.tuple ds].length : Nat) + 1) "tuple" 2 = true := by
        show fEq "tuple" (((1 : Nat) : Int) + 1) "tuple" 2 = true
        decide +kernel
      unfold patInW
      rw [if_neg (by rw [e3]; decide), if_pos e4]
      show tupPart (.tuple ds) = _
      rw [tupPart_t, if_pos (by simp [h2]; omega)], by omega, fun k hk => ⟨m, rfl, hd k hk⟩⟩
  | anyP => exact ⟨[], patW0 "any" [] (by decide +kernel) (by decide +kernel) (by decide +kernel), by simp, fun k hk => by cases hk⟩
  | unitP => exact ⟨[], patW0 "unit" [] (by decide +kernel) (by decide +kernel) (by decide +kernel), by simp, fun k hk => by cases hk⟩
  | boolP _ b => exact ⟨[], patW0 "bool" [.bool b] (by show fEq "bool" (((1 : Nat) : Int) + 1) "con" 3 = false; decide +kernel) (by show fEq "bool" (((1 : Nat) : Int) + 1) "tuple" 2 = false; decide +kernel) (by
      show ((fEq "bool" (((1 : Nat) : Int) + 1) "any" 1 || fEq "bool" (((1 : Nat) : Int) + 1) "unit" 1) || (fEq "bool" (((1 : Nat) : Int) + 1) "bool" 2 && true)) = true
      decide +kernel), by simp, fun k hk => by cases hk⟩
  | intP _ i h => exact ⟨[], by
      show patInW "int" [.int i] = _
      have e1 : fEq "int" (([PyData.int i].length : Nat) + 1) "con" 3 = false := by
        show fEq "int" (((1 : Nat) : Int) + 1) "con" 3 = false
        decide +kernel
      have e2 : fEq "int" (([PyData.int i].length : Nat) + 1) "tuple" 2 = false := by
        show fEq "int" (((1 : Nat) : Int) + 1) "tuple" 2 = false
        decide +kernel
      have e3 : fEq "int" (([PyData.int i].length : Nat) + 1) "any" 1 = false := by
        show fEq "int" (((1 : Nat) : Int) + 1) "any" 1 = false
        decide +kernel
      have e4 : fEq "int" (([PyData.int i].length : Nat) + 1) "unit" 1 = false := by
        show fEq "int" (((1 : Nat) : Int) + 1) "unit" 1 = false
        decide +kernel
      have e5 : fEq "int" (([PyData.int i].length : Nat) + 1) "bool" 2 = false := by
        show fEq "int" (((1 : Nat) : Int) + 1) "bool" 2 = false
        decide +kernel
      have e6 : fEq "int" (([PyData.int i].length : Nat) + 1) "int" 2 = true := by
        show fEq "int" (((1 : Nat) : Int) + 1) "int" 2 = true
        decide +kernel
      unfold patInW
      rw [e1, e2, e3, e4, e5, e6]
      show (if isNumD (.int i) = true then _ else _) = _
      rw [if_pos h]
      rfl, by simp, fun k hk => by cases hk⟩
  | bindP _ s h hn => exact ⟨[], by
      show patInW "bind" [.str s] = _
      have e1 : fEq "bind" (([PyData.str s].length : Nat) + 1) "con" 3 = false := by
        show fEq "bind" (((1 : Nat) : Int) + 1) "con" 3 = false
        decide +kernel
      have e2 : fEq "bind" (([PyData.str s].length : Nat) + 1) "tuple" 2 = false := by
        show fEq "bind" (((1 : Nat) : Int) + 1) "tuple" 2 = false
        decide +kernel
      have e3 : fEq "bind" (([PyData.str s].length : Nat) + 1) "any" 1 = false := by
        show fEq "bind" (((1 : Nat) : Int) + 1) "any" 1 = false
        decide +kernel
      have e4 : fEq "bind" (([PyData.str s].length : Nat) + 1) "unit" 1 = false := by
        show fEq "bind" (((1 : Nat) : Int) + 1) "unit" 1 = false
        decide +kernel
      have e5 : fEq "bind" (([PyData.str s].length : Nat) + 1) "bool" 2 = false := by
        show fEq "bind" (((1 : Nat) : Int) + 1) "bool" 2 = false
        decide +kernel
      have e6 : fEq "bind" (([PyData.str s].length : Nat) + 1) "int" 2 = false := by
        show fEq "bind" (((1 : Nat) : Int) + 1) "int" 2 = false
        decide +kernel
      have e7 : fEq "bind" (([PyData.str s].length : Nat) + 1) "bind" 2 = true := by
        show fEq "bind" (((1 : Nat) : Int) + 1) "bind" 2 = true
        decide +kernel
      unfold patInW
      rw [e1, e2, e3, e4, e5, e6, e7]
      show (if (true && nameD (.str s)) = true then _ else _) = _
      rw [hn]
      rfl, by simp, fun k hk => by cases hk⟩
section
variable {K : PySem.W.Frag} {σ : L2.St} {H : Hp}
/-- t[0] == c -/
theorem ed_ix0 {te : TE} {d : PyData} {r : List PyData} (h : Ed K te σ H d) (e : d = .tuple (.str (tagOf d) :: r)) : Ed K (tOp (rIxT K) te (tC (.int 0))) σ H (.str (tagOf d)) :=
  ed_ixT (n := 0) (Ed.is h e) ed_int rfl
theorem et_str {te : TE} {s c : Str} (h : Ed K te σ H (.str s)) (hs : sOk s) (hc : sOk c := by decide +kernel) : EvT (tTest (tOp (rEqD K) te (tC (.str c)))) σ H (decide (s = c)) :=
  et_cmp (Ed.is (ed_eq h ed_str (wf_shaped (n := 0) hs) (wf_shaped (n := 0) hc)) (congrArg PyData.bool (by simp only [PyData.eqv]; rw [Bool.beq_eq_decide_eq])))
theorem et_tag {te : TE} {n : Nat} {d : PyData} {c : Str} (h : Ed K te σ H d) (p : PatD n d) (hc : sOk c := by decide +kernel) : EvT (tTest (tOp (rEqD K) (tOp (rIxT K) te (tC (.int 0))) (tC (.str c)))) σ H (decide (tagOf d = c)) := by
  obtain ⟨r, e, hs, _⟩ := p.word
  exact et_str (ed_ix0 h e) hs hc
theorem ed_nth {te : TE} {d : PyData} {ds : List PyData} (i : Nat) (h : Ed K te σ H d) (e : d = .tuple ds) (hi : i < ds.length) : Ed K (tOp (rIxT K) te (tC (.int (i : Int)))) σ H (nth d i) := by
  subst e
  exact ed_ixT (n := i) h ed_int (getD_at hi)
end
theorem PatD.len {n : Nat} {d : PyData} (h : PatD n d) : (tagOf d = "bind" → ∃ s, d = bindD s ∧ sOk s) ∧ (tagOf d = "tuple" → ∃ m ds, n = m + 1 ∧ d = tupD ds ∧ 2 ≤ ds.length ∧ ds.length ≤ 4 ∧ ∀ d ∈ ds, PatD m d) ∧
    (tagOf d = "con" → ∃ s e, d = conD s e ∧ sOk s ∧ longBigD (.str s) = true ∧ (e = .none ∨ ∃ m, n = m + 1 ∧ PatD m e)) := by
  cases h with
  | bindP _ s h => exact ⟨fun _ => ⟨s, rfl, h⟩, fun e => absurd e (show ¬(Str.ofString "bind" = Str.ofString "tuple") by decide +kernel), fun e => absurd e (show ¬(Str.ofString "bind" = Str.ofString "con") by decide +kernel)⟩
  | con0 _ s h hb => exact ⟨fun e => absurd e (show ¬(Str.ofString "con" = Str.ofString "bind") by decide +kernel), fun e => absurd e (show ¬(Str.ofString "con" = Str.ofString "tuple") by decide +kernel), fun e => ⟨s, .none, rfl, h, hb.1, .inl rfl⟩⟩
  | con1 m s d h hb hd => exact ⟨fun e => absurd e (show ¬(Str.ofString "con" = Str.ofString "bind") by decide +kernel), fun e => absurd e (show ¬(Str.ofString "con" = Str.ofString "tuple") by decide +kernel), fun e => ⟨s, d, rfl, h, hb.1, .inr ⟨m, rfl, hd⟩⟩⟩
  | tupP m ds h2 h4 hd => exact ⟨fun e => absurd e (show ¬(Str.ofString "tuple" = Str.ofString "bind") by decide +kernel), fun e => ⟨m, ds, rfl, rfl, h2, by omega, hd⟩, fun e => absurd e (show ¬(Str.ofString "tuple" = Str.ofString "con") by decide +kernel)⟩
  | anyP _ => exact ⟨fun e => absurd e (show ¬(Str.ofString "any" = Str.ofString "bind") by decide +kernel), fun e => absurd e (show ¬(Str.ofString "any" = Str.ofString "tuple") by decide +kernel), fun e => absurd e (show ¬(Str.ofString "any" = Str.ofString "con") by decide +kernel)⟩
  | intP _ _ => exact ⟨fun e => absurd e (show ¬(Str.ofString "int" = Str.ofString "bind") by decide +kernel), fun e => absurd e (show ¬(Str.ofString "int" = Str.ofString "tuple") by decide +kernel), fun e => absurd e (show ¬(Str.ofString "int" = Str.ofString "con") by decide +kernel)⟩
  | boolP _ _ => exact ⟨fun e => absurd e (show ¬(Str.ofString "bool" = Str.ofString "bind") by decide +kernel), fun e => absurd e (show ¬(Str.ofString "bool" = Str.ofString "tuple") by decide +kernel), fun e => absurd e (show ¬(Str.ofString "bool" = Str.ofString "con") by decide +kernel)⟩
  | unitP _ => exact ⟨fun e => absurd e (show ¬(Str.ofString "unit" = Str.ofString "bind") by decide +kernel), fun e => absurd e (show ¬(Str.ofString "unit" = Str.ofString "tuple") by decide +kernel), fun e => absurd e (show ¬(Str.ofString "unit" = Str.ofString "con") by decide +kernel)⟩
/-! ### names of a pattern -/
def within (d : PyData) : List PyData := if tagOf d = "tuple" then kids (nth d 1) else if tagOf d = "con" ∧ isNone (nth d 2) = false then [nth d 2] else []
def nm : Nat → PyData → List PyData
  | 0, _ => []
  | n + 1, d => if tagOf d = "bind" then [nth d 1] else (within d).flatMap (nm n)
theorem PatD.within {n : Nat} {d : PyData} (h : PatD n d) : (K25.within d).length ≤ 4 ∧ ∀ k ∈ K25.within d, ∃ m, n = m + 1 ∧ PatD m k := by
  obtain ⟨_, h2, h3⟩ := h.len
  unfold K25.within
  by_cases c1 : tagOf d = "tuple"
  · rw [if_pos c1]
    obtain ⟨m, ds, rfl, rfl, _, h4, hd⟩ := h2 c1
    exact ⟨h4, fun k hk => ⟨m, rfl, hd k hk⟩⟩
  · rw [if_neg c1]
    by_cases c2 : tagOf d = "con" ∧ isNone (nth d 2) = false
    · rw [if_pos c2]
      obtain ⟨s, e, rfl, _, _, hd⟩ := h3 c2.1
      refine ⟨by simp, fun k hk => ?_⟩
      simp at hk
      subst hk
      rcases hd with rfl | ⟨m, rfl, hd⟩
      · exact absurd c2.2 (show ¬ (true = false) by decide)
      · exact ⟨m, rfl, hd⟩
    · rw [if_neg c2]
      exact ⟨by simp, fun k hk => by cases hk⟩
theorem PatD.nmLen {n : Nat} {d : PyData} (h : PatD n d) : (nm (n + 1) d).length ≤ 4 ^ n ∧ ∀ x ∈ nm (n + 1) d, ∃ s, x = .str s ∧ sOk s := by
  induction n generalizing d with
  | zero =>
    unfold nm
    by_cases c : tagOf d = "bind"
    · obtain ⟨s, rfl, hs⟩ := h.len.1 c
      rw [if_pos c]
      exact ⟨by simp, fun x hx => by simp at hx; exact ⟨s, hx, hs⟩⟩
    · rw [if_neg c]
      obtain ⟨h1, h2⟩ := h.within
      have : K25.within d = [] := by
        cases hw : K25.within d with
        | nil => rfl
        | cons k r =>
          obtain ⟨m, e, _⟩ := h2 k (by rw [hw]; simp)
          omega
      rw [this]
      exact ⟨by simp, fun x hx => by simp at hx⟩
  | succ n ih =>
    rw [nm]
    by_cases c : tagOf d = "bind"
    · obtain ⟨s, rfl, hs⟩ := h.len.1 c
      rw [if_pos c]
      exact ⟨by simp; exact Nat.one_le_pow _ _ (by decide), fun x hx => by simp at hx; exact ⟨s, hx, hs⟩⟩
    · rw [if_neg c]
      obtain ⟨h1, h2⟩ := h.within
      have h3 : ∀ k ∈ K25.within d, PatD n k := fun k hk => by
        obtain ⟨m, e, hm⟩ := h2 k hk
        have : m = n := by omega
        subst this
        exact hm
      revert h1 h3
      generalize K25.within d = ks
      intro h1 h3
      have key : ∀ ks : List PyData, (∀ k ∈ ks, PatD n k) → (ks.flatMap (nm (n + 1))).length ≤ ks.length * 4 ^ n ∧ ∀ x ∈ ks.flatMap (nm (n + 1)), ∃ s, x = .str s ∧ sOk s := by
        intro ks hk
        induction ks with
        | nil => exact ⟨by simp, fun x hx => by simp at hx⟩
        | cons k r ihr =>
          obtain ⟨a1, a2⟩ := ih (hk k List.mem_cons_self)
          obtain ⟨b1, b2⟩ := ihr fun x hx => hk x (List.mem_cons_of_mem _ hx)
          rw [List.flatMap_cons]
          refine ⟨by rw [List.length_append, List.length_cons, Nat.add_mul]; omega, fun x hx => ?_⟩
          rcases List.mem_append.mp hx with hx | hx
          · exact a2 x hx
          · exact b2 x hx
      obtain ⟨k1, k2⟩ := key ks h3
      refine ⟨Nat.le_trans k1 ?_, k2⟩
      rw [Nat.pow_succ, Nat.mul_comm (4 ^ n) 4]
      exact Nat.mul_le_mul_right _ h1
section
variable {P : Program} {w : World} {K : PySem.W.Frag} {mg : Str → Option Value} {base : Heap}
theorem PatD.len1 {n : Nat} {d : PyData} {r : List PyData} (h : PatD n d) (e : d = .tuple (.str (tagOf d) :: r)) : (.str (tagOf d) :: r).length ≤ 100000 := by
  obtain ⟨r2, e2, _, h2⟩ := h.word
  rw [e] at e2
  injection e2 with e2
  injection e2 with _ e2
  subst e2
  show r.length + 1 ≤ _
  omega
theorem sc_patterns_within : FnScope ["pattern"] ["pattern"] (defScope s46) := ⟨rfl, rfl, rfl, by decide +kernel, rfl, by decide +kernel, by decide +kernel⟩
theorem ok_patterns_within (T : Tx K mg) : Df P w K mg base CX0 1 "patterns_within" ["pattern"] (sn1 K (fun d => .list (within d)) fun d => ∃ n, PatD n d) := by
  refine df_ok T.f_patterns_within T.g_patterns_within sc_patterns_within len1n (fun _ _ _ _ _ _ us hl => match us, hl with | [_], _ => rfl) fun cdv A outer s H vs Q E hr h => ?_
  obtain ⟨v, d, rfl, hd, ⟨n, hp⟩, q⟩ := h
  refine ⟨_, (pss_cons (ps_if (pt_cmpR (op_eqD hr.units) (pe_ix ix_tup (pv 0) pe_int (fun _ _ => rfl)) pe_str (nomark _)) (pss_one (ps_ret (pe_callTy call_list_of (by rfl) T.n_list b_list (pa_cons (pe_ix ix_tup (pv 0) pe_int (fun _ _ => rfl)) pa_nil)))) pss_nil)
      (pss_one (ps_ret (pe_ifExp (PW.pt (pw_and (pt_cmpR (op_eqD hr.units) (pe_ix ix_tup (pv 0) pe_int (fun _ _ => rfl)) pe_str (nomark _)) (pw_and1 (pt_cmpR o_notN (pe_ix ix_tup (pv 0) pe_int (fun _ _ => rfl)) pe_non (nomark _))))) (pe_lst (pa_cons (pe_ix ix_tup (pv 0) pe_int (fun _ _ => rfl)) pa_nil)) (pe_lst pa_nil))))), ?_⟩
  refine q_when (et_tag (ed_var rfl hd) hp) (fun hb H1 e1 => ?_) (fun hb H1 e1 => ?_)
  · have hb' : tagOf d = "tuple" := of_decide_eq_true hb
    obtain ⟨m, ds, rfl, rfl, h2, h4, hds⟩ := hp.len.2.1 hb'
    refine sn_ret (en_listT (ds := ds) (fun p ys H Q hs k => ⟨p, ys, rfl, .inr hs, k⟩) (ed_nth 1 (ed_var rfl (dpMono e1 _ _ hd)) rfl (by simp))) fun v H2 e2 hv fv => q v H2 (e1.trans e2) ?_ (fv.back e1)
    exact hv
  · have hb' : ¬ tagOf d = "tuple" := of_decide_eq_false hb
    have hw : within d = if tagOf d = "con" ∧ isNone (nth d 2) = false then [nth d 2] else [] := by
      unfold within
      rw [if_neg hb']
    simp only [hw] at q
    have hd1 := dpMono e1 _ _ hd
    refine sn_ret (d := .list (if tagOf d = "con" ∧ isNone (nth d 2) = false then [nth d 2] else [])) (en_if (b := decide (tagOf d = "con") && !isNone (nth d 2)) (et_and (et_tag (ed_var rfl hd1) hp) fun hc => ?_) (fun hc => ?_) (fun hc => ?_)) fun v H2 e2 hv fv => q v H2 (e1.trans e2) hv (fv.back (e1))
    · obtain ⟨s, e, rfl, _⟩ := hp.len.2.2 (of_decide_eq_true hc)
      exact et_cmp (ed_notN (ed_nth 2 (ed_var rfl hd1) rfl (by simp)))
    · simp only [Bool.and_eq_true, decide_eq_true_eq, Bool.not_eq_true'] at hc
      rw [if_pos hc]
      obtain ⟨s, e, rfl, _⟩ := hp.len.2.2 hc.1
      exact en_lst (ea_consD (ed_nth 2 (ed_var rfl hd1) rfl (by simp)) ea_nilD)
    · rw [if_neg (by intro z; rw [z.2] at hc; simp [z.1] at hc)]
      exact en_lst ea_nilD
theorem sc_names_bound : FnScope ["pattern", "found", "inner"] ["pattern"] (defScope s43) := ⟨rfl, rfl, rfl, by decide +kernel, rfl, by decide +kernel, by decide +kernel⟩
theorem frz_strs {ds : List PyData} (h : ∀ x ∈ ds, ∃ s, x = .str s ∧ sOk s) : frzAll ds = true := frz_all fun d hd => by
  obtain ⟨s, rfl, _⟩ := h d hd
  rfl
theorem kp_ex {H0 H H' : Hp} {p : Addr} (e : Ex H0 H) (h : H0 p = none) (k : Kp [p] H H') : Ex H0 H' := fun a o ha => k a o (by
  intro z
  have : a = p := by simpa using z
  subst this
  rw [h] at ha
  cases ha) (e a o ha)
theorem Kp.up {H H1 : Hp} {p : Addr} {o : HO} (e : Ex H H1) : Kp [p] H (upd H1 p o) := (Kp.ex e).trans (Kp.setM (by simp))
theorem Kp.tk1 {K : PySem.W.Frag} {H H' : Hp} {p : Addr} {xs : List V} (k : Kp [p] H H') (h : H p = some (.lst xs)) : TK K H H' := k.tk fun a ha => by
  have : a = p := by simpa using ha
  subst this
  exact ⟨xs, h⟩
/-- a list that one owns, new or not -/
def EnV (K : PySem.W.Frag) (te : TE) (σ : L2.St) (H : Hp) (d : PyData) : Prop := ∀ H1, Ex H H1 → ∀ Q : VK, (∀ v H2, Ex H1 H2 → Dn K H2 v d → Q v H2) → te σ H1 Q
theorem En.v {K : PySem.W.Frag} {te : TE} {σ : L2.St} {H : Hp} {d : PyData} (h : En K te σ H d) : EnV K te σ H d := fun H1 e Q q => h H1 e Q fun v H2 e2 hv _ => q v H2 e2 hv
theorem env_var {K : PySem.W.Frag} {σ : L2.St} {H : Hp} {i : Nat} {v : V} {d : PyData} (hs : σ[i]? = some (some v)) (h : Dn K H v d) : EnV K (tVar i) σ H d := fun H1 e Q q => ⟨v, hs, q v H1 (Ex.refl _) (h.mono e)⟩
/-- one turn of found.extend: the list at q grows by what the list r holds -/
theorem ext_turn {K : PySem.W.Frag} {D : Ends} {σ : L2.St} {H : Hp} {q : Addr} {te tv : TE} {acc : List V} {as bs : List PyData} (hq : H q = some (.lst acc)) (ha : DpAll K H acc as) (hf : frzAll as = true) (hg : frzAll bs = true) (hz : as.length + bs.length ≤ 100000)
    (ho : Ev tv σ H (.ref q)) (h : EnV K te σ H (.list bs)) (k : ∀ acc' H2, H2 q = some (.lst acc') → DpAll K H2 acc' (as ++ bs) → Kp [q] H H2 → D.nx σ H2) : tDrop (tBM K "list" rExtend tv (tCons te tNil)) D σ H :=
  ho H (Ex.refl H) _ fun H1 e1 => ⟨Or.inl ⟨rfl, acc, sq_of (e1 _ _ hq)⟩, h H1 e1 _ fun v H2 e2 hv => by
    obtain ⟨p, xs, rfl, hp, hx⟩ := hv.lst
    have hq2 := (e1.trans e2) _ _ hq
    have hl : acc.length + xs.length ≤ 100000 := by
      rw [dps_len ha, dps_len hx]
      exact hz
    refine ⟨q, p, acc, xs, rfl, rfl, hq2, hp, sz_of hl, ?_⟩
    exact k (acc ++ xs) _ upd_same (dps_app (dpsTK (TK.setL hq2) _ _ hf (dpsMono (e1.trans e2) _ _ ha)) (dpsTK (TK.setL hq2) _ _ hg hx)) (Kp.up (e1.trans e2))⟩
/-- one turn of found.append -/
theorem app_turn {K : PySem.W.Frag} {D : Ends} {σ : L2.St} {H : Hp} {q : Addr} {te tv : TE} {acc : List V} {as : List PyData} {b : PyData} (hq : H q = some (.lst acc)) (ha : DpAll K H acc as) (hf : frzAll as = true) (hg : frz b = true) (hz : as.length < 100000)
    (ho : Ev tv σ H (.ref q)) (h : Ed K te σ H b) (k : ∀ acc' H2, H2 q = some (.lst acc') → DpAll K H2 acc' (as ++ [b]) → Kp [q] H H2 → D.nx σ H2) : tDrop (tBM K "list" rAppend tv (tCons te tNil)) D σ H :=
  ho H (Ex.refl H) _ fun H1 e1 => ⟨Or.inl ⟨rfl, acc, sq_of (e1 _ _ hq)⟩, h H1 e1 _ fun v H2 e2 hv => by
    have hq2 := (e1.trans e2) _ _ hq
    have hl : acc.length < 100000 := by
      rw [dps_len ha]
      exact hz
    refine ⟨q, acc, v, rfl, rfl, hq2, sz_lt hl, ?_⟩
    exact k (acc ++ [v]) _ upd_same (dps_app (dpsTK (TK.setL hq2) _ _ hf (dpsMono (e1.trans e2) _ _ ha)) (dps_one (dpTK (TK.setL hq2) _ _ hg hv))) (Kp.up (e1.trans e2))⟩
theorem flat_take {f : PyData → List PyData} {ds : List PyData} {i : Nat} {d : PyData} (h : ds[i]? = some d) : (ds.take (i + 1)).flatMap f = (ds.take i).flatMap f ++ f d := by
  rw [take_succ h, List.flatMap_append]
  simp
theorem flat_le {f : PyData → List PyData} (c : Nat) : ∀ ds : List PyData, (∀ d ∈ ds, (f d).length ≤ c) → (ds.flatMap f).length ≤ ds.length * c
  | [], _ => by simp
  | d :: r, h => by
    have h1 := h d List.mem_cons_self
    have h2 := flat_le c r fun x hx => h x (List.mem_cons_of_mem _ hx)
    rw [List.flatMap_cons, List.length_append, List.length_cons, Nat.add_mul]
    omega
theorem s_retVar {D : Ends} {σ : L2.St} {H : Hp} {i : Nat} {v : V} (h : σ[i]? = some (some v)) (k : D.rt v H) : tRet (tVar i) D σ H := ⟨v, h, k⟩
theorem names_step (T : Tx K mg) (n : Nat) (hn : n ≤ 4) (D_names_bound : Df P w K mg base CX0 (n + 1) "names_bound" ["pattern"] (sn1 K (fun d => .list (nm n d)) fun d => ∃ m, n = m + 1 ∧ PatD m d)) :
    Df P w K mg base CX0 (n + 2) "names_bound" ["pattern"] (sn1 K (fun d => .list (nm (n + 1) d)) (PatD n)) := by
  have D_patterns_within := ok_patterns_within (P := P) (w := w) (base := base) T
  refine df_ok T.f_names_bound T.g_names_bound sc_names_bound len1n (fun _ _ _ _ _ _ us hl => match us, hl with | [_], _ => rfl) fun cdv A outer s H vs Q E hr h => ?_
  obtain ⟨v, d, rfl, hd, hp, q⟩ := h
  have nd := sc_names_bound.nd
  refine ⟨_, (pss_cons (ps_if (pt_cmpR (op_eqD hr.units) (pe_ix ix_tup (pv 0) pe_int (fun _ _ => rfl)) pe_str (nomark _)) (pss_one (ps_ret (pe_lst (pa_cons (pe_ix ix_tup (pv 0) pe_int (fun _ _ => rfl)) pa_nil)))) pss_nil)
      (pss_cons (ps_set (i := 1) nd rfl (Or.inl rfl) (pe_lst pa_nil))
      (pss_cons (ps_for PassesOwn.never rfl (pi_list (pe_df D_patterns_within hr (pa_cons (pv 0) pa_nil))) (pg_name (i := 2) nd rfl (Or.inl rfl))
      (pss_one (ps_expr (pe_bm PySem.F.plainAttrs_list PySem.F.slot_list_extend PySem.F.type_list_extend mt_extend (pv 1) (pa_cons (pe_df D_names_bound hr (pa_cons (pv 2) pa_nil)) pa_nil)))))
      (pss_one (ps_ret (pv 1)))))), ?_⟩
  have q' : ∀ r H', Ex H H' → Dn K H' r (.list (nm (n + 1) d)) → Fr H r → Q r H' := q
  rw [nm] at q'
  refine q_when (et_tag (ed_var rfl hd) hp) (fun hb H1 e1 => ?_) (fun hb H1 e1 => ?_)
  · have hb' : tagOf d = "bind" := of_decide_eq_true hb
    rw [if_pos hb'] at q'
    obtain ⟨s, rfl, hs⟩ := hp.len.1 hb'
    exact sn_ret (en_lst (ea_consD (ed_nth 1 (ed_var rfl (dpMono e1 _ _ hd)) rfl (by simp)) ea_nilD)) fun v H2 e2 hv fv => q' v H2 (e1.trans e2) hv (fv.back (e1))
  have hb' : ¬ tagOf d = "bind" := of_decide_eq_false hb
  rw [if_neg hb'] at q'
  obtain ⟨hw4, hwk⟩ := hp.within
  refine q_asgL (el_lst ea_nil (by simp)) fun p1 H2 hp1 e2 hl1 => ?_
  have E2 := e1.trans e2
  refine en_call1 (f := fun d => .list (within d)) (E := E0) (ed_var rfl (dpMono E2 _ _ hd)) ⟨n, hp⟩ H2 (Ex.refl _) _ fun v3 H3 e3 hv3 _ => ?_
  obtain ⟨p3, xs, rfl, hl3, hx3⟩ := hv3.lst
  have hl13 := e3 _ _ hl1
  have hne : xs = [] ∨ p3 ≠ p1 := by
    cases xs with
    | nil => exact .inl rfl
    | cons x r =>
      right
      intro z
      subst z
      rw [hl13] at hl3
      cases hl3
  have hfw : frzAll (within d) = true := frz_all fun k hk => by
    obtain ⟨m, _, hm⟩ := hwk k hk
    exact hm.frz
  have hnm : ∀ k ∈ within d, (nm n k).length ≤ 256 ∧ ∀ x ∈ nm n k, ∃ s, x = .str s ∧ sOk s := fun k hk => by
    obtain ⟨m, e, hm⟩ := hwk k hk
    have hm4 : m ≤ 4 := by omega
    subst e
    obtain ⟨a1, a2⟩ := hm.nmLen
    exact ⟨Nat.le_trans a1 (Nat.pow_le_pow_right (by decide) hm4), a2⟩
  have hfl : ∀ i, frzAll (((within d).take i).flatMap (nm n)) = true ∧ (((within d).take i).flatMap (nm n)).length ≤ 1024 := fun i => ⟨frz_strs fun x hx => by
      obtain ⟨k, hk, hxk⟩ := List.mem_flatMap.mp hx
      exact (hnm k (List.mem_of_mem_take hk)).2 x hxk, by
      refine Nat.le_trans (flat_le 256 _ fun k hk => (hnm k (List.mem_of_mem_take hk)).1) ?_
      have := List.length_take_le' i (within d)
      omega⟩
  refine ⟨p3, rfl, ⟨xs, sq_of hl3⟩, for_list (xs := xs) (fun i σ' H' => (∃ x, σ' = [some v, some (.ref p1), x]) ∧ (Kp [p1] H3 H' ∧ (xs = [] → H' = H3)) ∧ ∃ acc, H' p1 = some (.lst acc) ∧ DpAll K H' acc (((within d).take i).flatMap (nm n))) ⟨⟨none, rfl⟩, ⟨Kp.refl _ _, fun _ => rfl⟩, [], hl13, .nil⟩ (fun i σ' H' _ hh => ?_) (fun i x σ' H' hx hh => ?_) fun σ' H' hh => ?_⟩
  · obtain ⟨_, ⟨k1, k2⟩, _⟩ := hh
    rcases hne with z | z
    · rw [k2 z]
      exact sq_of hl3
    · exact sq_of (k1 p3 _ (by simpa using z) hl3)
  · obtain ⟨⟨x0, rfl⟩, ⟨k1, k2⟩, acc, ha, hda⟩ := hh
    obtain ⟨di, hdi, hxi⟩ := dps_of i hx3 hx
    have hmem := List.mem_of_getElem? hdi
    obtain ⟨m, em, hm⟩ := hwk di hmem
    have hxi' := dpTK (k1.tk1 hl13) _ _ hm.frz hxi
    have hne' : xs ≠ [] := by
      intro z
      rw [z] at hx
      simp at hx
    refine ext_turn (bs := nm n di) ha hda (hfl i).1 (frz_strs (hnm di hmem).2) (by have := (hfl i).2; have := (hnm di hmem).1; omega) (ev_var rfl) (En.v (en_call1 (f := fun d => .list (nm n d)) (ed_var rfl hxi') ⟨m, em, hm⟩)) fun acc' H5 h5 hd5 k5 => ?_
    exact ⟨⟨some x, rfl⟩, ⟨k1.trans k5, fun z => absurd z hne'⟩, acc', h5, by rw [flat_take hdi]; exact hd5⟩
  · obtain ⟨⟨x0, rfl⟩, ⟨k1, k2⟩, acc, ha, hda⟩ := hh
    have E4 : Ex H H' := e1.trans (kp_ex (e2.trans e3) hp1 k1)
    rw [dps_len hx3, List.take_length] at hda
    exact s_retVar rfl (q' _ _ E4 (.inr ⟨p1, acc, _, rfl, ha, hda, rfl⟩) (fun z h => by cases h; exact fresh_back e1 hp1))
theorem ok_names_bound (T : Tx K mg) : ∀ n : Nat, n ≤ 4 → Df P w K mg base CX0 (n + 2) "names_bound" ["pattern"] (sn1 K (fun d => .list (nm (n + 1) d)) (PatD n))
  | 0, _ => names_step T 0 (by decide) (by
      obtain ⟨fd, F⟩ := T.f_names_bound
      refine ⟨fd, F.ok sc_names_bound len1n fun cdv A outer s H vs Q E hr h => ?_, F.bindsN (fun _ _ _ _ _ _ us hl => match us, hl with | [_], _ => rfl), F.kp, T.g_names_bound⟩
      obtain ⟨_, _, _, _, ⟨m, h, _⟩, _⟩ := h
      exact absurd h (by omega))
  | n + 1, h => names_step T (n + 1) h ((ok_names_bound T n (by omega)).imp fun vs H Q E hh => by
      obtain ⟨v, d, rfl, hd, ⟨m, e, hm⟩, q⟩ := hh
      have : m = n := by omega
      subst this
      exact ⟨v, d, rfl, hd, hm, q⟩)
end
end K25

end

section
set_option maxHeartbeats 4000000
namespace K25
open PySem PySem.Spec PyProof.Rows L2 Evl
/-! ### are_unlike -/
def unlikeF (ds : List PyData) : Bool := ((List.range ds.length).map fun i => !((ds.take i).any fun z => PyData.eqv z (ds.getD i .none))).all id
def unlikeD : PyData → Bool
  | .list ds => unlikeF ds
  | _ => false
def isStrs (ds : List PyData) : Prop := ∀ x ∈ ds, ∃ s, x = .str s ∧ sOk s
theorem strs_wf {ds : List PyData} (h : isStrs ds) (hl : ds.length ≤ 1000) : wf 1 (.list ds) = true := wf_lst_mk hl fun x hx => by
  obtain ⟨s, rfl, hs⟩ := h x hx
  exact hs
theorem cutV_take (xs : List V) (i : Nat) : cutV xs none (some (i : Int)) = xs.take i := by
  unfold cutV
  rw [show HT.sIx xs.length 0 none = 0 from rfl, show HT.sIx xs.length xs.length (some (i : Int)) = min i xs.length from by simp only [HT.sIx]; rw [if_neg (by omega)]; first | done | rfl | omega]
  rw [List.drop_zero, Nat.sub_zero, ← List.take_eq_take_min]
section
variable {P : Program} {w : World} {K : PySem.W.Frag} {mg : Str → Option Value} {base : Heap}
/-- x, y = a pair -/
theorem gp_pair {H : Hp} {σ : L2.St} {T : Addr} {x y : V} {i j : Nat} {Q : L2.St → Hp → Prop} (hT : SqT K H T [x, y]) (q : Q ((σ.set i (some x)).set j (some y)) H) : gTup K 2 (gCons (gName i) (gCons (gName j) gNil)) (.ref T) σ H Q :=
  ⟨T, [x, y], rfl, hT, rfl, x, [y], rfl, y, [], rfl, rfl, q⟩
theorem ed_slLi {te ti : TE} {σ : L2.St} {H : Hp} {ds : List PyData} {i : Nat} (h : Ed K te σ H (.list ds)) (hi : Ed K ti σ H (.int (i : Int))) : Ed K (tSl (rSlL K) te tNoPart (tPart ti)) σ H (.list (ds.take i)) := fun H1 e Q q =>
  h H1 e _ fun v H2 e2 hv => by
    obtain ⟨a, xs, rfl, hs, hx⟩ := dp_lst hv
    refine hi H2 (e.trans e2) _ fun w H3 e3 hw => ⟨(i : Int), dp_int hw, a, xs, rfl, ex_l e3 hs, fun p hp => ?_⟩
    rw [cutV_take]
    exact q (.ref p) _ ((e2.trans e3).trans (Ex.new hp)) (.lst (SqL.of upd_same) (dpsMono (Ex.new hp) _ _ (dpsMono e3 _ _ (dps_take i hx))))
theorem lcp_endE {H0 H' : Hp} {D : Addr} {ds : List PyData} {n : Nat} (p : LcP K H0 D ds n H') (h : n = ds.length) : Ex H0 H' ∧ Dn K H' (.ref D) (.list ds) ∧ Fr H0 (.ref D) := by
  subst h
  exact lcp_end p
theorem yes_turn {te : TE} {σ : L2.St} {H : Hp} {Q : VK} {N : Hp → Prop} (h : te σ H Q) : tYes σ H fun b H3 => if b = true then te σ H3 Q else N H3 := by
  show (if true = true then te σ H Q else N H)
  rw [if_pos rfl]
  exact h
theorem LcP.ex {K : PySem.W.Frag} {H0 H H' : Hp} {D : Addr} {ds : List PyData} {i : Nat} (p : LcP K H0 D ds i H) (e : Ex H H') : LcP K H0 D ds i H' := by
  obtain ⟨p1, p2, acc, p3, p4, p5⟩ := p
  exact ⟨p1, p2.trans e, acc, e _ _ p3, p4, dpsMono e _ _ p5⟩
theorem sc_are_unlike : FnScope ["values", "at", "value"] ["values"] (defScope s27) := ⟨rfl, rfl, rfl, by decide +kernel, rfl, by decide +kernel, by decide +kernel⟩
theorem ok_are_unlike (T : Tx K mg) : Df P w K mg base CX0 1 "are_unlike" ["values"] (sp1 K (fun d => .bool (unlikeD d)) fun d => ∃ ds, d = .list ds ∧ isStrs ds ∧ ds.length ≤ 1000) := by
  refine df_ok T.f_are_unlike T.g_are_unlike sc_are_unlike len1 (fun _ _ _ _ _ _ us hl => match us, hl with | [_], _ => rfl) fun cdv A outer s H vs Q E hr h => ?_
  obtain ⟨v, d, rfl, hd, ⟨ds, rfl, hs, hl⟩, q⟩ := h
  have nd := sc_are_unlike.nd
  refine ⟨_, (pss_one (ps_ret (pe_callB (cr_all rfl) (by rfl) T.n_all (by decide +kernel) (pa_cons (pe_lc (own := [("at", 1), ("value", 2)]) (g := gTup K 2 (gCons (gName 1) ( gCons (gName 2) (gNil)))) rfl nd (pi_enum rfl T.n_enumerate (pa_cons (pv 0) pa_nil)) (blkOk_by (own := [("at", 1), ("value", 2)]) (N := ["values", "at", "value"]) (sc := defScope s27) (by decide +kernel)) (fun _ _ _ _ _ => pg_tup rfl (pgs_cons (pg_name (i := 1) nd rfl (Or.inl rfl)) (pgs_cons (pg_name (i := 2) nd rfl (Or.inl rfl)) pgs_nil))) (fun _ _ _ _ _ => pts_nil) (fun _ _ _ _ _ => (pe_cmpR (r := rNotInL K) (o_notInL hr) (pv 2) (pe_slice (r := rSlL K) sl_list (pv 0) po_none (po_some (pv 1))) (by rfl)))) pa_nil)))), ?_⟩
  refine sd_ret (Ed.is (ed_all (K := K) (bs := (List.range ds.length).map fun i => !((ds.take i).any fun z => PyData.eqv z (ds.getD i .none))) (En.ed fun H1 e Q q => ?_)) rfl) q
  obtain ⟨a, xs, rfl, hq, hx⟩ := dp_lst hd
  have hq1 := ex_l e hq
  have hxl := dps_len hx
  refine ⟨.ref a, rfl, a, xs, rfl, hq1, fun D hD => lc_it (walk_enum (xs := xs)) (LcP K H1 D (((List.range ds.length).map fun i => !((ds.take i).any fun z => PyData.eqv z (ds.getD i .none))).map PyData.bool)) (lcp0 hD) (fun i H' _ p => ex_l p.2.1 hq1) (fun i x H3 H4 hi p y => ?_) fun H3 p => ?_⟩
  · obtain ⟨T, x1, y1, rfl, hT, rfl, h1, h2⟩ := y
    cases h1
    have e3 := p.2.1
    have eT : Ex H3 (upd H3 T (.tup [.int (i : Nat), y1])) := Ex.new hT
    obtain ⟨di, hdi, hyi⟩ := dps_of i hx h2
    have hil : i < ds.length := by omega
    refine gp_pair (SqT.of upd_same) ⟨rfl, ?_⟩
    have hgd : ds.getD i .none = di := by
      rw [List.getD_eq_getElem?_getD, hdi]
      rfl
    refine yes_turn (lcp_turn (d := .bool (!((ds.take i).any fun z => PyData.eqv z di))) (p.ex eT) (by
      rw [List.getElem?_map, List.getElem?_map, List.getElem?_range hil, ← hgd]
      rfl) (by simpa using hl) (frz_all fun d hd => by
      obtain ⟨b, _, rfl⟩ := List.mem_map.mp hd
      rfl) ?_)
    have E3 := (e.trans e3).trans eT
    obtain ⟨z, rfl, hz⟩ := hs di (List.mem_of_getElem? hdi)
    refine ed_notInL (ed_var rfl (dpMono E3 _ _ hyi)) (ed_slLi (ed_var rfl (dpMono E3 _ _ hd)) (ed_var rfl (.int _))) (wf_shaped (n := 0) hz) (wf_shaped (n := 1) (strs_wf (ds := ds.take i) (fun x hx => hs x (List.mem_of_mem_take hx)) (by have := List.length_take_le' i ds; omega)))
  · obtain ⟨p1, p2, p3⟩ := lcp_endE p (by simpa using hxl)
    exact q _ _ p1 p2 p3
/-! ### tree_measure -/
def itD (s : Str) (d : PyData) (k : Nat) : PyData := .tuple [.str s, d, .int k]
/-- a thing that waits: pattern, depth, room below -/
structure Wt where
  d : PyData
  k : Nat
  n : Nat
def Wt.ok (x : Wt) : Prop := PatD x.n x.d ∧ x.k + x.n ≤ 5
def cap : Nat → Nat
  | 0 => 1
  | n + 1 => 1 + 4 * cap n
def capAll : List Wt → Nat
  | [] => 0
  | x :: r => cap x.n + capAll r
theorem capAll_app : ∀ xs ys : List Wt, capAll (xs ++ ys) = capAll xs + capAll ys
  | [], ys => by simp [capAll]
  | x :: r, ys => by
    rw [List.cons_append, capAll, capAll, capAll_app r ys]
    omega
theorem capAll_le {c : Nat} : ∀ xs : List Wt, (∀ x ∈ xs, cap x.n ≤ c) → capAll xs ≤ xs.length * c
  | [], _ => by simp [capAll]
  | x :: r, h => by
    have h1 := h x List.mem_cons_self
    have h2 := capAll_le r fun y hy => h y (List.mem_cons_of_mem _ hy)
    rw [capAll, List.length_cons, Nat.add_mul]
    omega
/-- a list that is new -/
def EnF (K : PySem.W.Frag) (te : TE) (σ : L2.St) (H : Hp) (ds : List PyData) : Prop := ∀ H1, Ex H H1 → ∀ Q : VK, (∀ p xs H2, H1 p = none → Ex H1 H2 → H2 p = some (.lst xs) → DpAll K H2 xs ds → Q (.ref p) H2) → te σ H1 Q
theorem EnF.en {te : TE} {σ : L2.St} {H : Hp} {ds : List PyData} (h : EnF K te σ H ds) : En K te σ H (.list ds) := fun H1 e Q q => h H1 e Q fun p xs H2 h0 e2 h2 hx => q _ H2 e2 (.inr ⟨p, xs, ds, rfl, h2, hx, rfl⟩) (fun z h => by cases h; exact h0)
theorem EnF.v {te : TE} {σ : L2.St} {H : Hp} {ds : List PyData} (h : EnF K te σ H ds) : EnV K te σ H (.list ds) := h.en.v
theorem enf_lst {ta : TA} {σ : L2.St} {H : Hp} {ds : List PyData} (h : EdA K ta σ H ds) (hl : ds.length ≤ 100000 := by simp) : EnF K (tLst ta) σ H ds := fun H1 e _ q =>
  h H1 e _ fun vs H2 e2 hds => ⟨sz_of (by rw [dps_len hds]; exact hl), fun p hp => q p vs _ (fresh_back e2 hp) (e2.trans (Ex.new hp)) upd_same (dpsMono (Ex.new hp) _ _ hds)⟩
theorem lcp_endF {H0 H' : Hp} {D : Addr} {ds : List PyData} {n : Nat} (p : LcP K H0 D ds n H') (h : n = ds.length) : H0 D = none ∧ Ex H0 H' ∧ ∃ xs, H' D = some (.lst xs) ∧ DpAll K H' xs ds := by
  subst h
  obtain ⟨p1, p2, acc, p3, p4, p5⟩ := p
  rw [List.take_length] at p5
  exact ⟨p1, p2, acc, p3, p5⟩
theorem en_lcPr {tl te : TE} {σ : L2.St} {H : Hp} {j k : Nat} {ds ds' : List PyData} (h : Ed K tl σ H (.list ds)) (hp : ∀ d ∈ ds, ∃ a b, d = .tuple [a, b]) (hl : ds'.length = ds.length) (hz : ds'.length ≤ 1000) (hf : frzAll ds' = true)
    (hw : ∀ x y, wipe (((wipe σ [j, k]).set j (some x)).set k (some y)) [j, k] = wipe σ [j, k])
    (he : ∀ (i : Nat) a b d' x y H1, Ex H H1 → ds[i]? = some (.tuple [a, b]) → ds'[i]? = some d' → Dp K H1 x a → Dp K H1 y b → Ed K te (((wipe σ [j, k]).set j (some x)).set k (some y)) H1 d') :
    EnF K (tLc (iList K tl) (gTup K 2 (gCons (gName j) (gCons (gName k) gNil))) tYes te [j, k]) σ H ds' := fun H1 e Q q =>
  h H1 e _ fun v H2 e2 hv => by
    obtain ⟨a, xs, rfl, hs, ha⟩ := dp_lst hv
    have hx : xs.length = ds'.length := (dps_len ha).trans hl.symm
    refine ⟨a, rfl, ⟨xs, hs⟩, fun D hD => lc_it (walk_list (xs := xs)) (LcP K H2 D ds') (lcp0 hD) (fun i H' _ p => ex_l p.2.1 hs) (fun i x H3 H4 hi p y => ?_) fun H3 p => ?_⟩
    · obtain ⟨rfl, hy⟩ := y
      obtain ⟨d, hd, hdx⟩ := dps_of i ha hy
      obtain ⟨da, db, rfl⟩ := hp d (List.mem_of_getElem? hd)
      have hdx' := dpMono p.2.1 _ _ hdx
      obtain ⟨T, zs, rfl, hT, hzs⟩ := dp_tup hdx'
      cases hzs with
      | cons h1 hr =>
        cases hr with
        | cons h2 hr2 =>
          cases hr2
          have hi' : i < ds'.length := by omega
          exact gp_pair hT ⟨hw _ _, yes_turn (lcp_turn p (List.getElem?_eq_getElem hi') hz hf (he i da db _ _ _ H4 ((e.trans e2).trans p.2.1) hd (List.getElem?_eq_getElem hi') h1 h2))⟩
    · obtain ⟨p0, p1, zs, p2, p3⟩ := lcp_endF p hx
      exact q D zs _ (fresh_back e2 p0) (e2.trans p1) p2 p3
theorem q_whenDrop {t : TT} {te : TE} {tz : TS} {D : Ends} {σ : L2.St} {H : Hp} {b : Bool} (M : Hp → Prop) (h : EvT t σ H b) (h1 : b = true → ∀ H1, Ex H H1 → ∀ Q : VK, (∀ v H', M H' → Q v H') → te σ H1 Q) (h2 : b = false → ∀ H1, Ex H H1 → M H1) (k : ∀ H1, M H1 → tz D σ H1) : tSeq (tIfS t (tDrop te) tNext) tz D σ H :=
  q_when h (fun hb H1 e => h1 hb H1 e _ fun _ H' m => k H' m) fun hb H1 e => k H1 (h2 hb H1 e)
theorem q_asgX {te : TE} {g : TG} {tz : TS} {D : Ends} {σ : L2.St} {H : Hp} (h : te σ H fun x H1 => g x σ H1 (tz D)) : tSeq (tAsg te g) tz D σ H := h
theorem t_tup {ta : TA} {σ : L2.St} {H : Hp} {Q : VK} (h : ta σ H fun vs H1 => vs.length ≤ sizeLine ∧ ∀ p, H1 p = none → Q (.ref p) (upd H1 p (.tup vs))) : tTup ta σ H Q := h
theorem t_cons {te : TE} {tr : TA} {σ : L2.St} {H : Hp} {Q : List V → Hp → Prop} (h : te σ H fun v H1 => tr σ H1 fun vs H2 => Q (v :: vs) H2) : tCons te tr σ H Q := h
theorem t_c {v : V} {σ : L2.St} {H : Hp} {Q : VK} (h : Q v H) : tC v σ H Q := h
theorem q_parX {ta : TA} {i j : Nat} {tz : TS} {D : Ends} {σ : L2.St} {H : Hp} (h : ta σ H fun vs H1 => ∃ v w, vs = [v, w] ∧ tz D ((σ.set i (some v)).set j (some w)) H1) : tSeq (tPar i j ta) tz D σ H := h
theorem capAll_len : ∀ ws : List Wt, ws.length ≤ capAll ws
  | [] => by simp
  | w :: r => by
    have h1 : 1 ≤ cap w.n := by cases w.n <;> simp [cap]
    have h2 := capAll_len r
    rw [List.length_cons, capAll]
    omega
theorem app_ev {σ : L2.St} {H : Hp} {q : Addr} {te tv : TE} {acc : List V} {as : List PyData} {b : PyData} {Q : VK} (hq : H q = some (.lst acc)) (ha : DpAll K H acc as) (hf : frzAll as = true) (hg : frz b = true) (hz : as.length < 100000)
    (ho : Ev tv σ H (.ref q)) (h : Ed K te σ H b) (k : ∀ acc' H2, H2 q = some (.lst acc') → DpAll K H2 acc' (as ++ [b]) → Kp [q] H H2 → Q .non H2) : (tBM K "list" rAppend tv (tCons te tNil)) σ H Q :=
  app_turn (D := { nx := fun _ H' => Q .non H', rt := fun _ _ => False }) hq ha hf hg hz ho h k
theorem dps_last {H : Hp} : ∀ {xs : List V} {ds : List PyData} {d : PyData}, DpAll K H xs (ds ++ [d]) → ∃ ys x, xs = ys ++ [x] ∧ DpAll K H ys ds ∧ Dp K H x d
  | _, [], d, h => by
    cases h with
    | cons h1 h2 =>
      cases h2
      exact ⟨[], _, rfl, .nil, h1⟩
  | _, e :: r, d, h => by
    cases h with
    | cons h1 h2 =>
      obtain ⟨ys, x, rfl, a, b⟩ := dps_last h2
      exact ⟨_ :: ys, x, rfl, .cons h1 a, b⟩
theorem dp_three {H : Hp} {v : V} {a b c : PyData} (h : Dp K H v (.tuple [a, b, c])) : ∃ T x y z, v = .ref T ∧ SqT K H T [x, y, z] ∧ Dp K H x a ∧ Dp K H y b ∧ Dp K H z c := by
  obtain ⟨T, zs, rfl, hT, hzs⟩ := dp_tup h
  cases hzs with
  | cons h1 hr =>
    cases hr with
    | cons h2 hr2 =>
      cases hr2 with
      | cons h3 hr3 =>
        cases hr3
        exact ⟨T, _, _, _, rfl, hT, h1, h2, h3⟩
def Wst (K : PySem.W.Frag) (H0 : Hp) (d : PyData) (m : Nat) (σ : L2.St) (H : Hp) : Prop :=
  ∃ (x0 x6 x7 x8 x9 x10 x11 x12 : Option V) (p r : Addr) (a b : Int) (xs ys : List V) (s : Str) (ws : List Wt),
    σ = [x0, some (.int 600), some (.ref p), some (.int a), some (.int b), some (.ref r), x6, x7, x8, x9, x10, x11, x12] ∧
    (H0 p = none ∧ H0 r = none ∧ p ≠ r ∧ Ex H0 H ∧ H p = some (.lst xs) ∧ H r = some (.lst ys)) ∧ b ≤ 40 ∧
    DpAll K H xs (ws.map fun w => itD s w.d w.k) ∧ (∀ w ∈ ws, w.k + w.n ≤ 5 ∧ wf 40 w.d = true ∧ frz w.d = true) ∧ (0 ≤ a ∧ a + capAll ws ≤ 341) ∧
    ((s = "whole pattern" ∧ ws = [⟨d, 1, 4⟩] ∧ ys = [] ∧ m = 1000) ∨ (s = "pattern" ∧ PatD 4 d ∧ (∀ w ∈ ws, PatD w.n w.d) ∧ (∃ y, ys = [y] ∧ Dp K H y d) ∧ m = capAll ws))
/-- what tree_measure is asked here, and what it answers -/
def spM (K : PySem.W.Frag) : Sp := fun vs H Q _ => ∃ v d, vs = [v, .int 600] ∧ Dp K H v (.list [tagD "whole pattern" d]) ∧ wf 40 d = true ∧ frz d = true ∧ (patIn d = .none ∨ PatD 4 d) ∧
  (patIn d = .none → ∀ H', Ex H H' → Q .non H') ∧ (PatD 4 d → ∀ r H' (a b : Int), Ex H H' → a ≤ 600 → b ≤ 40 → Dp K H' r (.tuple [.int a, .int b, .list [d]]) → Q r H')
theorem sc_tree_measure : FnScope ["trees", "most", "waiting", "parts", "deepest", "patterns", "sort", "value", "deep", "inner", "is_outer", "one", "here"] ["trees", "most"] (defScope s42) := ⟨rfl, rfl, rfl, by decide +kernel, rfl, by decide +kernel, by decide +kernel⟩
theorem ok_tree_measure (T : Tx K mg) : Df P w K mg base CX0 7 "tree_measure" ["trees", "most"] (spM K) := by
  have D_tree_inside := ok_tree_inside (P := P) (w := w) (base := base) T
  refine df_ok T.f_tree_measure T.g_tree_measure sc_tree_measure (fun vs H Q E h => by
    obtain ⟨v, d, rfl, _⟩ := h
    rfl) (fun _ _ _ _ _ _ us hl => match us, hl with | [_, _], _ => rfl) fun cdv A outer s H vs Q E hr h => ?_
  obtain ⟨v, d, rfl, hd, hw, hf, hp, q1, q2⟩ := h
  have nd := sc_tree_measure.nd
  refine ⟨_, (pss_cons (ps_asg (pe_tup (pa_cons (pe_lc (own := [("sort", 6), ("value", 7)]) (g := gTup K 2 (gCons (gName 6) ( gCons (gName 7) (gNil)))) rfl nd (pi_list (pv 0)) (blkOk_by (own := [("sort", 6), ("value", 7)]) (N := ["trees", "most", "waiting", "parts", "deepest", "patterns", "sort", "value", "deep", "inner", "is_outer", "one", "here"]) (sc := defScope s42) (by decide +kernel)) (fun _ _ _ _ _ => pg_tup rfl (pgs_cons (pg_name (i := 6) nd rfl (Or.inl rfl)) (pgs_cons (pg_name (i := 7) nd rfl (Or.inl rfl)) pgs_nil))) (fun _ _ _ _ _ => pts_nil) (fun _ _ _ _ _ => (pe_tup (pa_cons (pv 6) (pa_cons (pv 7) (pa_cons pe_int pa_nil)))))) (pa_cons pe_int (pa_cons pe_int (pa_cons (pe_lst pa_nil) pa_nil))))) (pg_tup rfl (pgs_cons (pg_name (i := 2) nd rfl (Or.inl rfl)) (pgs_cons (pg_name (i := 3) nd rfl (Or.inl rfl)) (pgs_cons (pg_name (i := 4) nd rfl (Or.inl rfl)) (pgs_cons (pg_name (i := 5) nd rfl (Or.inl rfl)) pgs_nil))))))
      (pss_cons (ps_while PassesOwn.never (pt_cmpR (op_neD hr.units) (pv 2) (pe_lst pa_nil) (nomark _))
      (pss_cons (ps_asg (pe_bm0 PySem.F.plainAttrs_list PySem.F.slot_list_pop PySem.F.type_list_pop mt_pop (pv 2)) (pg_tup rfl (pgs_cons (pg_name (i := 6) nd rfl (Or.inl rfl)) (pgs_cons (pg_name (i := 7) nd rfl (Or.inl rfl)) (pgs_cons (pg_name (i := 8) nd rfl (Or.inr rfl)) pgs_nil)))))
      (pss_cons (ps_par (i := 9) (j := 3) (by rfl) nd rfl rfl (by decide) rfl rfl (pa_cons (pe_df D_tree_inside hr (pa_cons (pv 6) (pa_cons (pv 7) pa_nil))) (pa_cons (pe_op op_add (pv 3) pe_int) pa_nil)) (by rfl))
      (pss_cons (ps_if (pt_cmpR o_isN (pv 9) pe_non (nomark _)) (pss_one (ps_ret pe_non)) pss_nil)
      (pss_cons (ps_if (PW.pt (pw_and (pt_cmpR o_notN (pv 1) pe_non (nomark _)) (pw_and1 (PW.pt (pw_or (pt_cmpR op_gt (pv 3) (pv 1) (nomark _)) (pw_or1 (pt_cmpR op_gt (pv 8) (pgi T.i_MOST_DEEP_trees) (nomark _)))))))) (pss_one (ps_ret (pe_tup (pa_cons (pv 3) (pa_cons (pv 8) (pa_cons (pe_lst pa_nil) pa_nil)))))) pss_nil)
      (pss_cons (ps_if (pt_cmpR (op_eqD hr.units) (pv 6) pe_str (nomark _)) (pss_one (ps_expr (pe_bm PySem.F.plainAttrs_list PySem.F.slot_list_append PySem.F.type_list_append mt_append (pv 5) (pa_cons (pv 7) pa_nil)))) pss_nil)
      (pss_cons (ps_set (i := 10) nd rfl (Or.inr rfl) (pe_cmpR (o_inT hr) (pv 6) (pe_tup (pa_cons pe_str (pa_cons pe_str pa_nil))) (by rfl)))
      (pss_cons (ps_set (i := 4) nd rfl (Or.inl rfl) (pe_ifExp (pt_val (pv 10)) (pv 4) (pe_callB (call_max2 rfl) (by rfl) T.n_max (by decide +kernel) (pa_cons (pv 4) (pa_cons (pv 8) pa_nil)))))
      (pss_one (ps_expr (pe_bm PySem.F.plainAttrs_list PySem.F.slot_list_extend PySem.F.type_list_extend mt_extend (pv 2) (pa_cons (pe_lc (own := [("one", 11), ("here", 12)]) (g := gTup K 2 (gCons (gName 11) ( gCons (gName 12) (gNil)))) rfl nd (pi_list (pv 9)) (blkOk_by (own := [("one", 11), ("here", 12)]) (N := ["trees", "most", "waiting", "parts", "deepest", "patterns", "sort", "value", "deep", "inner", "is_outer", "one", "here"]) (sc := defScope s42) (by decide +kernel)) (fun _ _ _ _ _ => pg_tup rfl (pgs_cons (pg_name (i := 11) nd rfl (Or.inl rfl)) (pgs_cons (pg_name (i := 12) nd rfl (Or.inl rfl)) pgs_nil))) (fun _ _ _ _ _ => pts_nil) (fun _ _ _ _ _ => (pe_tup (pa_cons (pv 11) (pa_cons (pv 12) (pa_cons (pe_ifExp (pt_val (pv 10)) (pv 8) (pe_op op_add (pv 8) pe_int)) pa_nil)))))) pa_nil))))))))))))
      (pss_one (ps_ret (pe_tup (pa_cons (pv 3) (pa_cons (pv 4) (pa_cons (pv 5) pa_nil)))))))), ?_⟩
  have hfz : frz (itD "whole pattern" d 1) = true := by simp [itD, frz, frzAll, hf]
  refine q_asgX (t_tup (t_cons ?_))
  refine en_lcPr (j := 6) (k := 7) (H := H) (ds' := [itD "whole pattern" d 1]) (ed_var rfl hd) (fun x hx => ⟨.str "whole pattern", d, by simpa [tagD] using hx⟩) rfl (by simp) (frz_all fun x hx => by simp at hx; subst hx; exact hfz) (fun _ _ => rfl) (fun i a b d' x y H1 e1 h1 h2 hx hy => ?_) H (Ex.refl H) _ fun p xs H1 hp1 e1 hlp hxs => ?_
  · have hi : i = 0 := by
      have := (List.getElem?_eq_some_iff.mp h2).1
      simpa using this
    subst hi
    cases h1
    cases h2
    exact ed_tup (ea_consD (ed_var rfl hx) (ea_consD (ed_var rfl hy) (ea_consD ed_int ea_nilD)))
  refine t_cons (t_c (t_cons (t_c (t_cons ?_))))
  refine enf_lst (K := K) (ds := []) ea_nilD (by simp) H1 (Ex.refl H1) _ fun r ys H2 hr1 e2 hlr hys => ?_
  cases hys
  refine ⟨sz_of (by simp), fun T hT => ⟨T, _, rfl, SqT.of upd_same, rfl, _, _, rfl, _, _, rfl, _, _, rfl, _, _, rfl, rfl, ?_⟩⟩
  have eT : Ex H2 (upd H2 T (.tup [.ref p, .int 0, .int 0, .ref r])) := Ex.new hT
  have E2 := (e1.trans e2).trans eT
  refine q_while (Wst K H d) 1000 ?_ ?_
  · have hpr : p ≠ r := ne_of_none hlp hr1
    exact ⟨_, _, _, _, _, _, _, _, p, r, 0, 0, xs, [], "whole pattern", [⟨d, 1, 4⟩], rfl, ⟨hp1, fresh_back e1 hr1, hpr, E2, eT _ _ (e2 _ _ hlp), eT _ _ hlr⟩, by decide, dpsMono (e2.trans eT) _ _ hxs, fun x hx => by
      simp at hx
      subst hx
      exact ⟨Nat.le_refl 5, hw, hf⟩, ⟨Int.le_refl 0, by
      show (0 : Int) + ((341 : Nat) : Int) ≤ 341
      decide⟩, .inl ⟨rfl, rfl, rfl, rfl⟩⟩
  · rintro m σ' H3 ⟨x0, x6, x7, x8, x9, x10, x11, x12, p, r, a, b, xs, ys, s, ws, rfl, ⟨hp0, hr0, hpr, E3, hlp, hlr⟩, hb, hxs, hws, hcap, hcase⟩
    have hss : isPatSort s := by rcases hcase with ⟨rfl, _⟩ | ⟨rfl, _⟩ <;> simp [isPatSort]
    have hsw : sOk s := by rcases hss with rfl | rfl <;> decide +kernel
    have hwl : ws.length ≤ 341 := by
      have := capAll_len ws
      omega
    have hshW : SeqAt.shaped (.list (ws.map fun w => itD s w.d w.k)) = true := wf_shaped (n := 42) (wf_lst_mk (by simp; omega) fun x hx => by
      obtain ⟨w, hw, rfl⟩ := List.mem_map.mp hx
      exact wf_tup_mk (by simp) fun y hy => by
        simp only [List.mem_cons, List.mem_nil_iff, or_false] at hy
        rcases hy with rfl | rfl | rfl
        · exact wf_any _ hsw
        · exact (hws w hw).2.1
        · exact wf_le (Nat.zero_le _) rfl)
    refine ⟨!ws.isEmpty, et_cmp (Ed.is (ed_ne (ed_var rfl (.lst (SqL.of hlp) hxs)) (ed_lst ea_nilD) hshW (by decide +kernel)) ?_), fun hne H4 e4 => ?_, fun hne H4 e4 => ?_⟩
    · cases ws <;> simp [PyData.eqv, PyData.eqvAll]
    · obtain ⟨ws0, w, rfl⟩ : ∃ ws0 w, ws = ws0 ++ [w] := by
        rcases List.eq_nil_or_concat ws with h | ⟨l, x, h⟩
        · subst h
          cases hne
        · exact ⟨l, x, by simpa using h⟩
      rw [List.map_append] at hxs
      obtain ⟨xs0, x, rfl, hx0, hxw⟩ := dps_last hxs
      obtain ⟨hkn, hwfw, hfw⟩ := hws w (by simp)
      have hlp4 := e4 _ _ hlp
      have hlr4 := e4 _ _ hlr
      refine ⟨fun σ2 H2 => ∃ m', m' < m ∧ Wst K H d m' σ2 H2, fun _ _ h => h, ?_⟩
      refine q_asgX ⟨.ref p, rfl, Or.inl ⟨rfl, _, sq_of hlp4⟩, p, _, x, rfl, rfl, hlp4, by simp, ?_⟩
      rw [List.dropLast_concat]
      have tk5 := TK.setL (K := K) (ys := xs0) hlp4
      have k5 : Kp [p] H4 (upd H4 p (.lst xs0)) := Kp.setM (by simp)
      have hx05 := dpsTK tk5 _ _ (frz_all fun z hz => by
        obtain ⟨u, hu, rfl⟩ := List.mem_map.mp hz
        have := (hws u (by simp [hu])).2.2
        simp [itD, frz, frzAll, this]) (dpsMono e4 _ _ hx0)
      have hxw5 := dpTK tk5 (itD s w.d w.k) x (by simp [itD, frz, frzAll, hfw]) (dpMono e4 _ _ hxw)
      have hlp5 : upd H4 p (.lst xs0) p = some (.lst xs0) := upd_same
      have hlr5 := k5 r _ (by simpa using hpr.symm) hlr4
      have E5 := kp_ex (E3.trans e4) hp0 k5
      revert hx05 hxw5 hlp5 hlr5 E5
      have hdr : ∀ y, ys = [y] → Dp K H3 y d → Dp K (upd H4 p (.lst xs0)) y d := fun y _ hy => dpTK tk5 _ _ hf (dpMono e4 _ _ hy)
      revert hdr
      generalize upd H4 p (.lst xs0) = H5
      intro hdr hx05 hxw5 hlp5 hlr5 E5
      obtain ⟨TT, x1, y1, z1, rfl, hT5, hx1, hy1, hz1⟩ := dp_three hxw5
      have hx1' := dp_str hx1
      have hz1' := dp_int hz1
      subst hx1' hz1'
      refine ⟨TT, _, rfl, hT5, rfl, _, _, rfl, _, _, rfl, _, _, rfl, rfl, ?_⟩
      refine q_parX (t_cons ?_)
      refine en_call2 (f := fun _ d => patIn d) (E := E0) (ed_var rfl (.str s)) (ed_var rfl hy1) ⟨⟨s, rfl, hss⟩, hwfw, fun _ => hfw⟩ H5 (Ex.refl _) _ fun v9 H6 e6 hv9 fv9 => t_cons ?_
      refine ed_opI (K := K) (f := (· + ·)) (ed_var rfl (.int a)) (ed_int (i := 1)) H6 (Ex.refl _) _ fun va H7 e7 hva => ?_
      have hva' := dp_int hva
      subst hva'
      refine ⟨v9, _, rfl, ?_⟩
      have hv97 := hv9.mono e7
      have E7 := (E5.trans e6).trans e7
      refine q_when (et_cmp (ed_isN (ed_var rfl hv97.dp))) (fun hN H8 e8 => ?_) (fun hN H8 e8 => ?_)
      · refine sd_ret (K := K) ed_non fun v H9 e9 hv9 => ?_
        rw [dp_non hv9]
        rcases hcase with ⟨_, h, _⟩ | ⟨_, _, h, _⟩
        · have hw1 : w = ⟨d, 1, 4⟩ := by
            have := congrArg List.getLast? h
            simpa using this
          subst hw1
          refine q1 ?_ H9 ((E7.trans e8).trans e9)
          revert hN
          cases patIn d <;> simp [isNone]
        · obtain ⟨ks, hks, _⟩ := (h w (by simp)).in
          rw [hks] at hN
          cases hN
      have hpw : PatD w.n w.d ∧ PatD 4 d := by
        rcases hcase with ⟨_, h, _⟩ | ⟨_, h4, h, _⟩
        · have hw1 : w = ⟨d, 1, 4⟩ := by
            have := congrArg List.getLast? h
            simpa using this
          subst hw1
          rcases hp with hp | hp
          · rw [hp] at hN
            cases hN
          · exact ⟨hp, hp⟩
        · exact ⟨h w (by simp), h4⟩
      obtain ⟨ks, hks, hk4, hkp⟩ := hpw.1.in
      rw [hks] at hv97
      have hca : a + capAll (ws0 ++ [w]) ≤ 341 := hcap.2
      rw [capAll_app, show capAll [w] = cap w.n from by simp [capAll]] at hca
      have hc1 : 1 ≤ cap w.n := by cases w.n <;> simp [cap]
      refine q_when (b := false) (et_is (et_and (et_cmp (K := K) (ed_notN (ed_var rfl (.int 600)))) fun _ => et_or (et_cmp (K := K) (ed_cmpI (i := a + 1) (j := 600) (ed_var rfl (.int _)) (ed_var rfl (.int _)))) fun _ => et_cmp (K := K) (ed_cmpI (i := (w.k : Int)) (j := 40) (ed_var rfl (.int _)) ed_int)) (by
        have h1 : ¬ (600 < a + 1) := by omega
        have h2 : ¬ ((40 : Int) < (w.k : Int)) := by omega
        simp [isNone]
        omega)) (fun hN => by cases hN) (fun _ H9 e9 => ?_)
      have E9 := (E7.trans e8).trans e9
      have e69 := ((e6.trans e7).trans e8).trans e9
      have hlp9 := e69 _ _ hlp5
      have hlr9 := e69 _ _ hlr5
      have hx09 := dpsMono e69 _ _ hx05
      have hv99 := hv97.mono (e8.trans e9)
      have hy9 := dpMono e69 _ _ hy1
      have hlr5' := hlr5
      clear hlp hlr hlp4 hlr4 hlp5 hlr5 tk5 k5 hT5
      refine q_whenDrop (b := decide (s = "whole pattern")) (fun H' => Kp [r] H9 H' ∧ ∃ y, H' r = some (.lst [y]) ∧ Dp K H' y d) (et_str (ed_var rfl (.str s)) hsw) (fun hb H10 e10 Q' q' => ?_) (fun hb H10 e10 => ?_) fun H10 ⟨k10, yy, hlr10, hyy⟩ => ?_
      · have hs : s = "whole pattern" := of_decide_eq_true hb
        rcases hcase with ⟨_, h, hys, _⟩ | ⟨h, _⟩
        · have hw1 : w = ⟨d, 1, 4⟩ := by
            have := congrArg List.getLast? h
            simpa using this
          subst hw1
          subst hys
          refine app_ev (as := []) (e10 _ _ hlr9) .nil rfl hf (by simp) (ev_var rfl) (ed_var rfl (dpMono e10 _ _ hy9)) fun acc' H11 h11 hd11 k11 => q' _ _ ⟨(Kp.ex e10).trans k11, ?_⟩
          cases hd11 with
          | cons h1 h2 =>
            cases h2
            exact ⟨_, h11, h1⟩
        · rw [hs] at h
          exact absurd h (show ¬ (Str.ofString "whole pattern" = Str.ofString "pattern") by decide +kernel)
      · have hs : ¬ s = "whole pattern" := of_decide_eq_false hb
        rcases hcase with ⟨h, _⟩ | ⟨h, _, _, ⟨y, rfl, hy⟩, _⟩
        · exact absurd h hs
        · exact ⟨Kp.ex e10, y, e10 _ _ hlr9, dpMono (e69.trans e10) _ _ (hdr y rfl hy)⟩
      have hlp10 := k10 p _ (by simpa using hpr) hlp9
      have E10 := kp_ex E9 hr0 k10
      have tk10 : TK K H9 H10 := k10.tk1 hlr9
      have hx010 := dpsTK tk10 _ _ (frz_all fun z hz => by
        obtain ⟨u, hu, rfl⟩ := List.mem_map.mp hz
        have := (hws u (by simp [hu])).2.2
        simp [itD, frz, frzAll, this]) hx09
      have hv910 : Dn K H10 v9 (allOf "pattern" ks) := by
        obtain ⟨pi, zi, rfl, hli, hzi⟩ := hv99.lst
        have hpi : pi ≠ r := fun z => by
          have := fv9 pi rfl
          rw [z, hlr5'] at this
          cases this
        exact .inr ⟨pi, zi, _, rfl, k10 pi _ (by simpa using hpi) hli, dpsTK tk10 _ _ (frz_all fun z hz => by
          obtain ⟨e, he, rfl⟩ := List.mem_map.mp hz
          obtain ⟨m, _, hm⟩ := hkp e he
          simp [tagD, frz, frzAll, hm.frz]) hzi, rfl⟩
      refine qd_asg (Ed.is (ed_inT (ed_var rfl (.str s)) (ed_tup (ea_consD ed_str (ea_consD ed_str ea_nilD))) (wf_shaped (n := 0) hsw) (by decide +kernel)) (show _ = PyData.bool false by rcases hss with rfl | rfl <;> exact congrArg PyData.bool (by decide +kernel))) fun vo H11 e11 ho => ?_
      refine qd_asg (K := K) (d := .int (if (w.k : Int) > b then (w.k : Int) else b)) (ed_if (b := false) (et_val (ed_var rfl ho)) (fun z => by cases z) fun _ => ed_ev (ev_max2 (ev_var rfl) (ev_var rfl)) (.int _)) fun vm H12 e12 hm => ?_
      have hvm := dp_int hm
      subst hvm
      have e1012 := e11.trans e12
      refine ext_turn (as := ws0.map fun u => itD s u.d u.k) (bs := ks.map fun e => itD "pattern" e (w.k + 1)) (e1012 _ _ hlp10) (dpsMono e1012 _ _ hx010) (frz_all fun z hz => by
        obtain ⟨u, hu, rfl⟩ := List.mem_map.mp hz
        have := (hws u (by simp [hu])).2.2
        simp [itD, frz, frzAll, this]) (frz_all fun z hz => by
        obtain ⟨e, he, rfl⟩ := List.mem_map.mp hz
        obtain ⟨m, _, hm⟩ := hkp e he
        simp [itD, frz, frzAll, hm.frz]) (by
        have := hwl
        simp at this ⊢
        omega) (ev_var rfl) (EnF.v (en_lcPr (j := 11) (k := 12) (ds := ks.map (tagD "pattern")) (ed_var rfl (hv910.mono e1012).dp) (fun x hx => by
          obtain ⟨e, _, rfl⟩ := List.mem_map.mp hx
          exact ⟨_, _, rfl⟩) (by simp) (by simp; omega) (frz_all fun z hz => by
        obtain ⟨e, he, rfl⟩ := List.mem_map.mp hz
        obtain ⟨m, _, hm⟩ := hkp e he
        simp [itD, frz, frzAll, hm.frz]) (fun _ _ => rfl) fun i a b d' x y H13 e13 h1 h2 hx hy => ?_)) fun acc' H13 h13 hd13 k13 => ?_
      · have hik : i < ks.length := by
          have := (List.getElem?_eq_some_iff.mp h1).1
          simpa using this
        rw [List.getElem?_map, List.getElem?_eq_getElem hik] at h1 h2
        cases h1
        cases h2
        exact ed_tup (ea_consD (ed_var rfl hx) (ea_consD (ed_var rfl hy) (ea_consD (ed_if (b := false) (et_val (ed_var rfl (dpMono (e12.trans e13) _ _ ho))) (fun z => by cases z) fun _ => ed_opI (i := (w.k : Int)) (j := 1) (ed_var rfl (.int _)) ed_int) ea_nilD)))
      · have hcK : capAll (ks.map fun e => (⟨e, w.k + 1, w.n - 1⟩ : Wt)) + 1 ≤ cap w.n := by
          cases hn : w.n with
          | zero =>
            have : ks = [] := by
              cases ks with
              | nil => rfl
              | cons e r =>
                obtain ⟨m, hm, _⟩ := hkp e (by simp)
                omega
            subst this
            simp [capAll, cap]
          | succ n =>
            have h1 := capAll_le (c := cap n) (ks.map fun e => (⟨e, w.k + 1, n + 1 - 1⟩ : Wt)) (fun x hx => by
              obtain ⟨e, _, rfl⟩ := List.mem_map.mp hx
              exact Nat.le_refl _)
            rw [List.length_map] at h1
            have h2 := Nat.mul_le_mul_right (cap n) hk4
            rw [cap]
            omega
        have hnew : capAll (ws0 ++ ks.map fun e => (⟨e, w.k + 1, w.n - 1⟩ : Wt)) + 1 ≤ capAll (ws0 ++ [w]) := by
          rw [capAll_app, capAll_app, show capAll [w] = cap w.n from by simp [capAll]]
          omega
        have hm : capAll (ws0 ++ [w]) ≤ m := by
          rcases hcase with ⟨_, h, _, rfl⟩ | ⟨_, _, _, _, rfl⟩
          · rw [h]
            show 341 ≤ 1000
            decide
          · exact Nat.le_refl _
        have hkw : ∀ e ∈ ks, PatD (w.n - 1) e ∧ w.k + 1 + (w.n - 1) ≤ 5 := fun e he => by
          obtain ⟨m, hm, hpm⟩ := hkp e he
          rw [hm, Nat.add_sub_cancel]
          exact ⟨hpm, by omega⟩
        have hpr13 : H13 r = some (.lst [yy]) := k13 r _ (by simpa using hpr.symm) (e1012 _ _ hlr10)
        have hmap : ws0.map (fun u => itD s u.d u.k) = ws0.map fun u => itD "pattern" u.d u.k := by
          rcases hcase with ⟨_, h, _⟩ | ⟨h, _⟩
          · have : ws0 = [] := by
              have := congrArg List.length h
              simpa using this
            rw [this]
            rfl
          · rw [h]
        have hyy13 : Dp K H13 yy d := dpTK (k13.tk1 (e1012 _ _ hlp10)) _ _ hf (dpMono e1012 _ _ hyy)
        refine ⟨_, Nat.lt_of_lt_of_le (Nat.lt_of_succ_le hnew) hm, x0, _, _, _, _, _, _, _, p, r, a + 1, _, acc', [yy], "pattern", ws0 ++ ks.map (fun e => ⟨e, w.k + 1, w.n - 1⟩), rfl, ⟨hp0, hr0, hpr, kp_ex (E10.trans e1012) hp0 k13, h13, hpr13⟩, ?_, ?_, ?_, ⟨by omega, ?_⟩, .inr ⟨rfl, hpw.2, ?_, ⟨yy, rfl, hyy13⟩, rfl⟩⟩
        · split <;> omega
        · rw [hmap] at hd13
          rw [List.map_append, List.map_map]
          exact hd13
        · intro u hu
          rcases List.mem_append.mp hu with hu | hu
          · exact hws u (by simp [hu])
          · obtain ⟨e, he, rfl⟩ := List.mem_map.mp hu
            exact ⟨(hkw e he).2, wf_le (by omega) (hkw e he).1.wf, (hkw e he).1.frz⟩
        · have := hcap.2
          omega
        · intro u hu
          rcases List.mem_append.mp hu with hu | hu
          · rcases hcase with ⟨_, h, _⟩ | ⟨_, _, h, _⟩
            · have : ws0 = [] := by
                have := congrArg List.length h
                simpa using this
              rw [this] at hu
              cases hu
            · exact h u (by simp [hu])
          · obtain ⟨e, he, rfl⟩ := List.mem_map.mp hu
            exact (hkw e he).1
    · have hw0 : ws = [] := by simpa using hne
      subst hw0
      have hy : ∃ y, ys = [y] ∧ Dp K H3 y d := by
        rcases hcase with ⟨_, h, _⟩ | ⟨_, _, _, h, _⟩
        · cases h
        · exact h
      have hpd : PatD 4 d := by
        rcases hcase with ⟨_, h, _⟩ | ⟨_, h, _⟩
        · cases h
        · exact h
      obtain ⟨y, rfl, hy⟩ := hy
      refine sd_ret (d := .tuple [.int a, .int b, .list [d]]) (ed_tup (ea_consD (ed_var rfl (.int a)) (ea_consD (ed_var rfl (.int b)) (ea_consD (ed_var rfl (.lst (SqL.of (e4 _ _ hlr)) (dps_one (dpMono e4 _ _ hy)))) ea_nilD)))) fun v5 H5 e5 hv5 => ?_
      exact q2 hpd v5 H5 a b ((E3.trans e4).trans e5) (by simp [capAll] at hcap; omega) hb hv5
end
end K25

end

section
set_option maxHeartbeats 4000000
namespace K25
open PySem PySem.Spec PyProof.Rows L2 Evl
def isPatF (d : PyData) : Bool := !isNone (patIn d) && unlikeF (nm 5 d)
/-- what is_pattern is asked about -/
def PreP (d : PyData) : Prop := wf 40 d = true ∧ (patIn d = .none ∧ (isTupD d = true → frz d = true) ∨ PatD 4 d)
section
variable {P : Program} {w : World} {K : PySem.W.Frag} {mg : Str → Option Value} {base : Heap}
theorem t_call {sp : Sp} {dvs : List V} {E : XK} {ta : TA} {σ : L2.St} {H : Hp} {Q : VK} (h : ta σ H fun vs H1 => sp (vs ++ dvs) H1 Q E) : tCall sp dvs E ta σ H Q := h
theorem s_retX {te : TE} {D : Ends} {σ : L2.St} {H : Hp} (h : te σ H D.rt) : tRet te D σ H := h
theorem dp_two {H : Hp} {v : V} {a b : PyData} (h : Dp K H v (.tuple [a, b])) : ∃ T x y, v = .ref T ∧ SqT K H T [x, y] ∧ Dp K H x a ∧ Dp K H y b := by
  obtain ⟨T, zs, rfl, hT, hzs⟩ := dp_tup h
  cases hzs with
  | cons h1 hr =>
    cases hr with
    | cons h2 hr2 =>
      cases hr2
      exact ⟨T, _, _, rfl, hT, h1, h2⟩
/-- nothing that tree_measure takes in -/
def spB (K : PySem.W.Frag) : Sp := fun vs H Q _ => ∃ v d, vs = [v, .int 600] ∧ Dp K H v (.list [tagD "whole pattern" d]) ∧ wf 40 d = true ∧ (isTupD d = true → frz d = true) ∧ patIn d = .none ∧ ∀ H', Ex H H' → Q .non H'
theorem ok_tree_measureB (T : Tx K mg) : Df P w K mg base CX0 7 "tree_measure" ["trees", "most"] (spB K) := by
  have D_tree_inside := ok_tree_inside (P := P) (w := w) (base := base) T
  refine df_ok T.f_tree_measure T.g_tree_measure sc_tree_measure (fun vs H Q E h => by
    obtain ⟨v, d, rfl, _⟩ := h
    rfl) (fun _ _ _ _ _ _ us hl => match us, hl with | [_, _], _ => rfl) fun cdv A outer s H vs Q E hr h => ?_
  obtain ⟨v, d, rfl, hd, hw, hf, hp, q⟩ := h
  have nd := sc_tree_measure.nd
  refine ⟨_, (pss_cons (ps_asg (pe_tup (pa_cons (pe_lc (own := [("sort", 6), ("value", 7)]) (g := gTup K 2 (gCons (gName 6) ( gCons (gName 7) (gNil)))) rfl nd (pi_list (pv 0)) (blkOk_by (own := [("sort", 6), ("value", 7)]) (N := ["trees", "most", "waiting", "parts", "deepest", "patterns", "sort", "value", "deep", "inner", "is_outer", "one", "here"]) (sc := defScope s42) (by decide +kernel)) (fun _ _ _ _ _ => pg_tup rfl (pgs_cons (pg_name (i := 6) nd rfl (Or.inl rfl)) (pgs_cons (pg_name (i := 7) nd rfl (Or.inl rfl)) pgs_nil))) (fun _ _ _ _ _ => pts_nil) (fun _ _ _ _ _ => (pe_tup (pa_cons (pv 6) (pa_cons (pv 7) (pa_cons pe_int pa_nil)))))) (pa_cons pe_int (pa_cons pe_int (pa_cons (pe_lst pa_nil) pa_nil))))) (pg_tup rfl (pgs_cons (pg_name (i := 2) nd rfl (Or.inl rfl)) (pgs_cons (pg_name (i := 3) nd rfl (Or.inl rfl)) (pgs_cons (pg_name (i := 4) nd rfl (Or.inl rfl)) (pgs_cons (pg_name (i := 5) nd rfl (Or.inl rfl)) pgs_nil))))))
      (pss_cons (ps_while PassesOwn.never (pt_cmpR (op_neD hr.units) (pv 2) (pe_lst pa_nil) (nomark _))
      (pss_cons (ps_asg (pe_bm0 PySem.F.plainAttrs_list PySem.F.slot_list_pop PySem.F.type_list_pop mt_pop (pv 2)) (pg_tup rfl (pgs_cons (pg_name (i := 6) nd rfl (Or.inl rfl)) (pgs_cons (pg_name (i := 7) nd rfl (Or.inl rfl)) (pgs_cons (pg_name (i := 8) nd rfl (Or.inr rfl)) pgs_nil)))))
      (pss_cons (ps_par (i := 9) (j := 3) (by rfl) nd rfl rfl (by decide) rfl rfl (pa_cons (pe_df D_tree_inside hr (pa_cons (pv 6) (pa_cons (pv 7) pa_nil))) (pa_cons (pe_op op_add (pv 3) pe_int) pa_nil)) (by rfl))
      (pss_cons (ps_if (pt_cmpR o_isN (pv 9) pe_non (nomark _)) (pss_one (ps_ret pe_non)) pss_nil)
      (pss_cons (ps_if (PW.pt (pw_and (pt_cmpR o_notN (pv 1) pe_non (nomark _)) (pw_and1 (PW.pt (pw_or (pt_cmpR op_gt (pv 3) (pv 1) (nomark _)) (pw_or1 (pt_cmpR op_gt (pv 8) (pgi T.i_MOST_DEEP_trees) (nomark _)))))))) (pss_one (ps_ret (pe_tup (pa_cons (pv 3) (pa_cons (pv 8) (pa_cons (pe_lst pa_nil) pa_nil)))))) pss_nil)
      (pss_cons (ps_if (pt_cmpR (op_eqD hr.units) (pv 6) pe_str (nomark _)) (pss_one (ps_expr (pe_bm PySem.F.plainAttrs_list PySem.F.slot_list_append PySem.F.type_list_append mt_append (pv 5) (pa_cons (pv 7) pa_nil)))) pss_nil)
      (pss_cons (ps_set (i := 10) nd rfl (Or.inr rfl) (pe_cmpR (o_inT hr) (pv 6) (pe_tup (pa_cons pe_str (pa_cons pe_str pa_nil))) (by rfl)))
      (pss_cons (ps_set (i := 4) nd rfl (Or.inl rfl) (pe_ifExp (pt_val (pv 10)) (pv 4) (pe_callB (call_max2 rfl) (by rfl) T.n_max (by decide +kernel) (pa_cons (pv 4) (pa_cons (pv 8) pa_nil)))))
      (pss_one (ps_expr (pe_bm PySem.F.plainAttrs_list PySem.F.slot_list_extend PySem.F.type_list_extend mt_extend (pv 2) (pa_cons (pe_lc (own := [("one", 11), ("here", 12)]) (g := gTup K 2 (gCons (gName 11) ( gCons (gName 12) (gNil)))) rfl nd (pi_list (pv 9)) (blkOk_by (own := [("one", 11), ("here", 12)]) (N := ["trees", "most", "waiting", "parts", "deepest", "patterns", "sort", "value", "deep", "inner", "is_outer", "one", "here"]) (sc := defScope s42) (by decide +kernel)) (fun _ _ _ _ _ => pg_tup rfl (pgs_cons (pg_name (i := 11) nd rfl (Or.inl rfl)) (pgs_cons (pg_name (i := 12) nd rfl (Or.inl rfl)) pgs_nil))) (fun _ _ _ _ _ => pts_nil) (fun _ _ _ _ _ => (pe_tup (pa_cons (pv 11) (pa_cons (pv 12) (pa_cons (pe_ifExp (pt_val (pv 10)) (pv 8) (pe_op op_add (pv 8) pe_int)) pa_nil)))))) pa_nil))))))))))))
      (pss_one (ps_ret (pe_tup (pa_cons (pv 3) (pa_cons (pv 4) (pa_cons (pv 5) pa_nil)))))))), ?_⟩
  obtain ⟨l, zs, rfl, hl, hzs⟩ := dp_lst hd
  cases hzs with
  | cons h1 h2 =>
  cases h2
  obtain ⟨t, gv, v, rfl, ht, g1, g3⟩ := dp_two h1
  have g1' := dp_str g1
  subst g1'
  refine q_asgX (t_tup (t_cons ⟨.ref l, rfl, l, rfl, ⟨_, hl⟩, fun D hD => lc_it (walk_list (xs := [.ref t])) (fun i H' => Ex H H' ∧ (i = 0 → H' D = some (.lst [])) ∧ (i = 1 → ∃ T, H' D = some (.lst [.ref T]) ∧ SqT K H' T [.str "whole pattern", v, .int 1])) ⟨Ex.new hD, fun _ => upd_same, fun z => by cases z⟩ (fun i H' _ p => ex_l p.1 hl) (fun i x H3 H4 hi p y => ?_) fun H1 p => ?_⟩))
  · obtain ⟨rfl, hy⟩ := y
    have h0 : i = 0 := by
      simp at hi
      exact hi
    subst h0
    simp at hy
    subst hy
    refine gp_pair (ex_t p.1 ht) ⟨rfl, yes_turn ?_⟩
    refine t_tup (t_cons ⟨_, rfl, t_cons ⟨_, rfl, t_cons (t_c ⟨sz_of (by simp), fun TT hTT => ⟨[], (Ex.new hTT) _ _ (p.2.1 rfl), sz_lt (by simp), Ex.mut (p.1.trans (Ex.new hTT)) hD, fun z => (by cases z), fun _ => ⟨TT, upd_same, ?_⟩⟩⟩)⟩⟩)
    exact TK.setL (K := K) ((Ex.new hTT) _ _ (p.2.1 rfl)) _ _ (SqT.of upd_same)
  obtain ⟨e1, _, p2⟩ := p
  obtain ⟨T0, hlp, hT0⟩ := p2 rfl
  refine t_cons (t_c (t_cons (t_c (t_cons ?_))))
  refine enf_lst (K := K) (ds := []) ea_nilD (by simp) H1 (Ex.refl H1) _ fun r ys H2 hr1 e2 hlr hys => ?_
  cases hys
  refine ⟨sz_of (by simp), fun T hT => ⟨T, _, rfl, SqT.of upd_same, rfl, _, _, rfl, _, _, rfl, _, _, rfl, _, _, rfl, rfl, ?_⟩⟩
  have eT : Ex H2 (upd H2 T (.tup [.ref D, .int 0, .int 0, .ref r])) := Ex.new hT
  have hlp3 := eT _ _ (e2 _ _ hlp)
  have hT3 := ex_t eT (ex_t e2 hT0)
  have E3 := (e1.trans e2).trans eT
  revert hlp3 hT3 E3
  generalize upd H2 T (.tup [.ref D, .int 0, .int 0, .ref r]) = H3
  intro hlp3 hT3 E3
  refine q_while (fun m σ' H' => m = 0 ∧ H' = H3 ∧ σ' = [some (.ref l), some (.int 600), some (.ref D), some (.int 0), some (.int 0), some (.ref r), none, none, none, none, none, none, none]) 0 ⟨rfl, rfl, rfl⟩ ?_
  rintro m σ' H' ⟨rfl, rfl, rfl⟩
  have hvd := dpMono E3 _ _ g3
  refine ⟨true, et_cmp (Ed.is (ed_ne (d := .list [itD "whole pattern" d 1]) (ed_var rfl (.lst (SqL.of hlp3) (dps_one (.tup hT3 (.cons (.str _) (.cons hvd (.cons (.int _) .nil))))))) (ed_lst ea_nilD) ?_ (by decide +kernel)) ?_), fun _ H4 e4 => ⟨fun _ _ => False, fun _ _ h => h.elim, ?_⟩, fun z => by cases z⟩
  · refine wf_shaped (n := 42) (wf_lst_mk (by simp) fun x hx => ?_)
    simp at hx
    subst hx
    refine wf_tup_mk (by simp) fun y hy => ?_
    simp only [List.mem_cons, List.mem_nil_iff, or_false] at hy
    rcases hy with rfl | rfl | rfl
    · exact wf_le (Nat.zero_le _) (by decide +kernel)
    · exact hw
    · rfl
  · simp [PyData.eqv, PyData.eqvAll]
  have hlp4 := e4 _ _ hlp3
  refine q_asgX ⟨.ref D, rfl, Or.inl ⟨rfl, _, sq_of hlp4⟩, D, _, _, rfl, rfl, hlp4, rfl, ?_⟩
  have tk5 := TK.setL (K := K) (ys := []) hlp4
  have E5 : Ex H (upd H4 D (.lst [])) := Ex.mut (E3.trans e4) hD
  refine ⟨T0, _, rfl, tk5 _ _ (ex_t e4 hT3), rfl, _, _, rfl, _, _, rfl, _, _, rfl, rfl, ?_⟩
  have hvd5 := dpMono E5 _ _ g3
  refine q_parX (t_cons ?_)
  refine en_call2 (f := fun _ d => patIn d) (E := E0) (ed_var rfl (.str _)) (ed_var rfl hvd5) ⟨⟨_, rfl, .inr rfl⟩, hw, hf⟩ _ (Ex.refl _) _ fun v9 H6 e6 hv9 fv9 => t_cons ?_
  refine ed_opI (K := K) (f := (· + ·)) (ed_var rfl (.int 0)) (ed_int (i := 1)) H6 (Ex.refl _) _ fun va H7 e7 hva => ?_
  have hva' := dp_int hva
  subst hva'
  refine ⟨v9, _, rfl, ?_⟩
  have hv97 := hv9.mono e7
  rw [hp] at hv97
  refine q_when (b := true) (et_cmp (ed_isN (ed_var rfl hv97.dp))) (fun hN H8 e8 => ?_) (fun hN => by cases hN)
  refine sd_ret (K := K) ed_non fun v H9 e9 hv9 => ?_
  rw [dp_non hv9]
  exact q H9 ((((E5.trans e6).trans e7).trans e8).trans e9)
theorem sc_are_trees : FnScope ["trees", "found", "pattern"] ["trees"] (defScope s44) := ⟨rfl, rfl, rfl, by decide +kernel, rfl, by decide +kernel, by decide +kernel⟩
theorem ok_are_trees (T : Tx K mg) : Df P w K mg base CX0 8 "are_trees" ["trees"] (fun vs H Q _ => ∃ v d, vs = [v] ∧ Dp K H v (.list [tagD "whole pattern" d]) ∧ PreP d ∧ ∀ r H', Ex H H' → Dp K H' r (.bool (isPatF d)) → Q r H') := by
  have D_are_unlike := ok_are_unlike (P := P) (w := w) (base := base) T
  have D_names_bound := ok_names_bound (P := P) (w := w) (base := base) T 4 (Nat.le_refl 4)
  refine df_ok T.f_are_trees T.g_are_trees sc_are_trees (fun vs H Q E h => by
    obtain ⟨v, d, rfl, _⟩ := h
    rfl) (fun _ _ _ _ _ _ us hl => match us, hl with | [_], _ => rfl) fun cdv A outer s H vs Q E hr h => ?_
  obtain ⟨v, d, rfl, hd, ⟨hw, hp⟩, q⟩ := h
  have nd := sc_are_trees.nd
  rcases hp with ⟨hn, hf⟩ | hpd
  · have D_tree_measure := ok_tree_measureB (P := P) (w := w) (base := base) T
    refine ⟨_, (pss_cons (ps_set (i := 1) nd rfl (Or.inl rfl) (pe_df D_tree_measure hr (pa_cons (pv 0) (pa_cons (pgi T.i_MOST_PARTS) pa_nil))))
      (pss_cons (ps_if (PW.pt (pw_or (pt_cmpR o_isN (pv 1) pe_non (nomark _)) (pw_or (pt_cmpR op_gt (pe_ix ix_tup (pv 1) pe_int (fun _ _ => rfl)) (pgi T.i_MOST_PARTS) (nomark _)) (pw_or1 (pt_cmpR op_gt (pe_ix ix_tup (pv 1) pe_int (fun _ _ => rfl)) (pgi T.i_MOST_DEEP_trees) (nomark _)))))) (pss_one (ps_ret pe_bl)) pss_nil)
      (pss_one (ps_ret (pe_callB (cr_all rfl) (by rfl) T.n_all (by decide +kernel) (pa_cons (pe_lc (own := [("pattern", 2)]) (g := gName 2) rfl nd (pi_list (pe_ix ix_tup (pv 1) pe_int (fun _ _ => rfl))) (blkOk_by (own := [("pattern", 2)]) (N := ["trees", "found", "pattern"]) (sc := defScope s44) (by decide +kernel)) (fun _ _ _ _ _ => pg_name (i := 2) nd rfl (Or.inl rfl)) (fun _ _ _ _ _ => pts_nil) (fun _ _ _ _ _ => (pe_df D_are_unlike hr (pa_cons (pe_df D_names_bound hr (pa_cons (pv 2) pa_nil)) pa_nil)))) pa_nil)))))), ?_⟩
    refine q_asgX (t_call (t_cons ⟨v, rfl, t_cons (t_c ?_)⟩))
    refine ⟨v, d, rfl, hd, hw, hf, hn, fun H1 e1 => ?_⟩
    have e0 : isPatF d = false := by
      unfold isPatF
      rw [hn]
      rfl
    rw [e0] at q
    exact q_when (b := true) (et_or (b := true) (et_cmp (K := K) (ed_isN (d := .none) (ed_var rfl .non))) fun z => by cases z) (fun _ H2 e2 => sd_ret ed_bl fun v H3 e3 hv => q v H3 ((e1.trans e2).trans e3) hv) (fun z => by cases z)
  · have D_tree_measure := ok_tree_measure (P := P) (w := w) (base := base) T
    refine ⟨_, (pss_cons (ps_set (i := 1) nd rfl (Or.inl rfl) (pe_df D_tree_measure hr (pa_cons (pv 0) (pa_cons (pgi T.i_MOST_PARTS) pa_nil))))
      (pss_cons (ps_if (PW.pt (pw_or (pt_cmpR o_isN (pv 1) pe_non (nomark _)) (pw_or (pt_cmpR op_gt (pe_ix ix_tup (pv 1) pe_int (fun _ _ => rfl)) (pgi T.i_MOST_PARTS) (nomark _)) (pw_or1 (pt_cmpR op_gt (pe_ix ix_tup (pv 1) pe_int (fun _ _ => rfl)) (pgi T.i_MOST_DEEP_trees) (nomark _)))))) (pss_one (ps_ret pe_bl)) pss_nil)
      (pss_one (ps_ret (pe_callB (cr_all rfl) (by rfl) T.n_all (by decide +kernel) (pa_cons (pe_lc (own := [("pattern", 2)]) (g := gName 2) rfl nd (pi_list (pe_ix ix_tup (pv 1) pe_int (fun _ _ => rfl))) (blkOk_by (own := [("pattern", 2)]) (N := ["trees", "found", "pattern"]) (sc := defScope s44) (by decide +kernel)) (fun _ _ _ _ _ => pg_name (i := 2) nd rfl (Or.inl rfl)) (fun _ _ _ _ _ => pts_nil) (fun _ _ _ _ _ => (pe_df D_are_unlike hr (pa_cons (pe_df D_names_bound hr (pa_cons (pv 2) pa_nil)) pa_nil)))) pa_nil)))))), ?_⟩
    refine q_asgX (t_call (t_cons ⟨v, rfl, t_cons (t_c ?_)⟩))
    obtain ⟨ks, hk, _⟩ := hpd.in
    refine ⟨v, d, rfl, hd, hw, hpd.frz, .inr hpd, fun hn H1 e1 => (by rw [hk] at hn; cases hn), fun hpd r H1 a b e1 ha hb hr1 => ?_⟩
    have e0 : isPatF d = unlikeF (nm 5 d) := by
      unfold isPatF
      rw [hk]
      rfl
    rw [e0] at q
    refine q_when (b := false) (et_is (et_or (et_cmp (K := K) (ed_isN (d := .tuple [.int a, .int b, .list [d]]) (ed_var rfl hr1))) fun _ => et_or (et_cmp (ed_cmpI (i := a) (j := 600) (ed_ixT (n := 0) (ed_var rfl hr1) ed_int rfl) ed_int)) fun _ => et_cmp (ed_cmpI (i := b) (j := 40) (ed_ixT (n := 1) (ed_var rfl hr1) ed_int rfl) ed_int)) (by
      have h1 : ¬ (600 < a) := by omega
      have h2 : ¬ (40 < b) := by omega
      simp [isNone]
      omega)) (fun z => by cases z) (fun _ H2 e2 => ?_)
    refine sd_ret (Ed.is (ed_all (K := K) (bs := [unlikeF (nm 5 d)]) (En.ed (en_lcL (j := 2) (ds := [d]) (ed_ixT (n := 2) (ed_var rfl (dpMono e2 _ _ hr1)) ed_int rfl) rfl (by simp) (frz_all fun x hx => by simp at hx; subst hx; rfl) fun i z d' x H3 e3 h1 h2 hx => ?_))) (by simp)) fun v H4 e4 hv => q v H4 ((e1.trans e2).trans e4) hv
    have hi : i = 0 := by
      have := (List.getElem?_eq_some_iff.mp h1).1
      simpa using this
    subst hi
    cases h1
    cases h2
    obtain ⟨h5, h6⟩ := hpd.nmLen
    exact ed_call1 (f := fun d => .bool (unlikeD d)) (En.ed (en_call1 (f := fun d => .list (nm 5 d)) (ed_var rfl hx) hpd)) ⟨_, rfl, h6, Nat.le_trans h5 (by decide)⟩
theorem sc_is_pattern : FnScope ["value"] ["value"] (defScope s45) := ⟨rfl, rfl, rfl, by decide +kernel, rfl, by decide +kernel, by decide +kernel⟩
theorem ok_is_pattern (T : Tx K mg) : Df P w K mg base CX0 9 "is_pattern" ["value"] (sp1 K (fun d => .bool (isPatF d)) PreP) := by
  have D_are_trees := ok_are_trees (P := P) (w := w) (base := base) T
  refine df_ok T.f_is_pattern T.g_is_pattern sc_is_pattern len1 (fun _ _ _ _ _ _ us hl => match us, hl with | [_], _ => rfl) fun cdv A outer s H vs Q E hr h => ?_
  obtain ⟨v, d, rfl, hd, hp, q⟩ := h
  refine ⟨_, (pss_one (ps_ret (pe_df D_are_trees hr (pa_cons (pe_lst (pa_cons (pe_tup (pa_cons pe_str (pa_cons (pv 0) pa_nil))) pa_nil)) pa_nil)))), ?_⟩
  refine s_retX (t_call (t_cons ?_))
  refine ed_lst (K := K) (ds := [tagD "whole pattern" d]) (ea_consD (ed_tup (ea_consD ed_str (ea_consD (ed_var rfl hd) ea_nilD))) ea_nilD) (by simp) H (Ex.refl H) _ fun v1 H1 e1 hv1 => ?_
  exact ⟨v1, d, rfl, hv1, hp, fun r H2 e2 hr => q r H2 (e1.trans e2) hr⟩
end
end K25

end

section
set_option maxHeartbeats 4000000
namespace K25
open PySem PySem.Spec PyProof.Rows L2 Evl
/-! ### what stands in a value -/
def lenE (r : List PyData) (k : Int) : Bool := decide (((r.length + 1 : Nat) : Int) = k)
def innW (s : Str) (r : List PyData) : Option (List PyData) :=
  if decide (s = "unit") = true then (if lenE r 1 = true then some [] else none)
  else if (decide (s = "int") && lenE r 2) = true then (if isNumD (r.getD 0 .none) = true then some [] else none)
  else if (decide (s = "bool") && lenE r 2) = true then (if isBoolD (r.getD 0 .none) = true then some [] else none)
  else if (decide (s = "cell") && lenE r 2) = true then (if isCountD (r.getD 0 .none) = true then some [] else none)
  else if (decide (s = "con") && (lenE r 3 && longBigD (r.getD 0 .none))) = true then (if isNone (r.getD 1 .none) = true then some [] else some [r.getD 1 .none])
  else if (decide (s = "tuple") && (lenE r 2 && (isTupD (r.getD 0 .none) && (decide ((2 : Int) ≤ ((kids (r.getD 0 .none)).length : Int)) && decide (((kids (r.getD 0 .none)).length : Int) ≤ 4))))) = true then some (kids (r.getD 0 .none))
  else none
def innO : PyData → Option (List PyData)
  | .tuple (.str s :: r) => innW s r
  | _ => none
theorem innO_none {d : PyData} (h : hasWordD d = false) : innO d = none := by
  cases d with
  | tuple ds =>
    cases ds with
    | nil => rfl
    | cons x r =>
      cases x with
      | str s => cases h
      | _ => rfl
  | _ => rfl
theorem sOk_of {n : Nat} {z : Str} (h : wf n (.str z) = true) : sOk z := by simpa [sOk, wf] using h
section
variable {P : Program} {w : World} {K : PySem.W.Frag} {mg : Str → Option Value} {base : Heap}
theorem et_ieq {te : TE} {σ : L2.St} {H : Hp} {i c : Int} (h : Ed K te σ H (.int i)) : EvT (tTest (tOp (rEqD K) te (tC (.int c)))) σ H (decide (i = c)) :=
  et_cmp (Ed.is (ed_eq h ed_int (wf_shaped (n := 0) rfl) (wf_shaped (n := 0) rfl)) (congrArg PyData.bool (by simp only [PyData.eqv]; rw [Bool.beq_eq_decide_eq])))
def spI (K : PySem.W.Frag) : Sp := fun vs H Q _ => ∃ v d Hb, vs = [v] ∧ Ex Hb H ∧ Dp K Hb v d ∧ wf 40 d = true ∧ (innO d = none → ∀ H', Ex H H' → Q .non H') ∧ (∀ ks, innO d = some ks → ∀ p xs H', H p = none → Ex H H' → H' p = some (.lst xs) → DpAll K Hb xs ks → Q (.ref p) H')
theorem ret_ifE {t : TT} {ta tb : TE} {b : Bool} {D : Ends} {σ : L2.St} {H : Hp} (h : EvT t σ H b) (h1 : b = true → ∀ H1, Ex H H1 → ta σ H1 D.rt) (h2 : b = false → ∀ H1, Ex H H1 → tb σ H1 D.rt) : tRet (tIf t ta tb) D σ H := h H (Ex.refl H) _ fun H1 e => by
  cases b with
  | true => exact h1 rfl H1 e
  | false => exact h2 rfl H1 e
theorem lenE_eq {r : List PyData} {n : Nat} (h : lenE r ((n + 1 : Nat) : Int) = true) : r.length = n := by
  unfold lenE at h
  have := of_decide_eq_true h
  omega
theorem sc_inner_values : FnScope ["value", "kind", "many"] ["value"] (defScope s54) := ⟨rfl, rfl, rfl, by decide +kernel, rfl, by decide +kernel, by decide +kernel⟩
theorem ok_inner_values (T : Tx K mg) : Df P w K mg base CX0 5 "inner_values" ["value"] (spI K) := by
  have D_is_long_big := ok_is_long_big (P := P) (w := w) (base := base) T
  have D_is_count := ok_is_count (P := P) (w := w) (base := base) T
  have D_is_small_number := ok_is_small_number (P := P) (w := w) (base := base) T
  refine df_ok T.f_inner_values T.g_inner_values sc_inner_values (fun vs H Q E h => by
    obtain ⟨v, d, Hb, rfl, _⟩ := h
    rfl) (fun _ _ _ _ _ _ us hl => match us, hl with | [_], _ => rfl) fun cdv A outer s H vs Q E hr h => ?_
  obtain ⟨v, d, Hb, rfl, hb, hd0, hw, q1, q2⟩ := h
  have hd := dpMono hb _ _ hd0
  have nd := sc_inner_values.nd
  refine ⟨_, (pss_cons (ps_if (PW.pt (pw_or (pt_not (pt_val (pe_callB call_isi (by rfl) T.n_isinstance (by decide +kernel) (pa_cons (pv 0) (pa_cons (pty T.n_tuple b_tuple) pa_nil))))) (pw_or (pt_cmpR (op_eqD hr.units) (pe_callB c_len (by rfl) T.n_len (by decide +kernel) (pa_cons (pv 0) pa_nil)) pe_int (nomark _)) (pw_or1 (pt_not (pt_val (pe_callB call_isi (by rfl) T.n_isinstance (by decide +kernel) (pa_cons (pe_ix ix_tup (pv 0) pe_int (fun _ _ => rfl)) (pa_cons (pty T.n_str b_str) pa_nil))))))))) (pss_one (ps_ret pe_non)) pss_nil)
      (pss_cons (ps_par (i := 1) (j := 2) (by rfl) nd rfl rfl (by decide) rfl rfl (pa_cons (pe_ix ix_tup (pv 0) pe_int (fun _ _ => rfl)) (pa_cons (pe_callB c_len (by rfl) T.n_len (by decide +kernel) (pa_cons (pv 0) pa_nil)) pa_nil)) (by rfl))
      (pss_cons (ps_if (pt_cmpR (op_eqD hr.units) (pv 1) pe_str (nomark _)) (pss_one (ps_ret (pe_ifExp (pt_cmpR (op_eqD hr.units) (pv 2) pe_int (nomark _)) (pe_lst pa_nil) pe_non))) pss_nil)
      (pss_cons (ps_if (PW.pt (pw_and (pt_cmpR (op_eqD hr.units) (pv 1) pe_str (nomark _)) (pw_and1 (pt_cmpR (op_eqD hr.units) (pv 2) pe_int (nomark _))))) (pss_one (ps_ret (pe_ifExp (pt_val (pe_df D_is_small_number hr (pa_cons (pe_ix ix_tup (pv 0) pe_int (fun _ _ => rfl)) pa_nil))) (pe_lst pa_nil) pe_non))) pss_nil)
      (pss_cons (ps_if (PW.pt (pw_and (pt_cmpR (op_eqD hr.units) (pv 1) pe_str (nomark _)) (pw_and1 (pt_cmpR (op_eqD hr.units) (pv 2) pe_int (nomark _))))) (pss_one (ps_ret (pe_ifExp (pt_val (pe_callB call_isi (by rfl) T.n_isinstance (by decide +kernel) (pa_cons (pe_ix ix_tup (pv 0) pe_int (fun _ _ => rfl)) (pa_cons (pty T.n_bool b_bool) pa_nil)))) (pe_lst pa_nil) pe_non))) pss_nil)
      (pss_cons (ps_if (PW.pt (pw_and (pt_cmpR (op_eqD hr.units) (pv 1) pe_str (nomark _)) (pw_and1 (pt_cmpR (op_eqD hr.units) (pv 2) pe_int (nomark _))))) (pss_one (ps_ret (pe_ifExp (pt_val (pe_df D_is_count hr (pa_cons (pe_ix ix_tup (pv 0) pe_int (fun _ _ => rfl)) pa_nil))) (pe_lst pa_nil) pe_non))) pss_nil)
      (pss_cons (ps_if (PW.pt (pw_and (pt_cmpR (op_eqD hr.units) (pv 1) pe_str (nomark _)) (pw_and (pt_cmpR (op_eqD hr.units) (pv 2) pe_int (nomark _)) (pw_and1 (pt_val (pe_df D_is_long_big hr (pa_cons (pe_ix ix_tup (pv 0) pe_int (fun _ _ => rfl)) pa_nil))))))) (pss_one (ps_ret (pe_ifExp (pt_cmpR o_isN (pe_ix ix_tup (pv 0) pe_int (fun _ _ => rfl)) pe_non (nomark _)) (pe_lst pa_nil) (pe_lst (pa_cons (pe_ix ix_tup (pv 0) pe_int (fun _ _ => rfl)) pa_nil))))) pss_nil)
      (pss_cons (ps_if (PW.pt (pw_and (pt_cmpR (op_eqD hr.units) (pv 1) pe_str (nomark _)) (pw_and (pt_cmpR (op_eqD hr.units) (pv 2) pe_int (nomark _)) (pw_and (pt_val (pe_callB call_isi (by rfl) T.n_isinstance (by decide +kernel) (pa_cons (pe_ix ix_tup (pv 0) pe_int (fun _ _ => rfl)) (pa_cons (pty T.n_tuple b_tuple) pa_nil)))) (pw_and1 (pt_chain op_le op_le pe_int (pe_callB c_len (by rfl) T.n_len (by decide +kernel) (pa_cons (pe_ix ix_tup (pv 0) pe_int (fun _ _ => rfl)) pa_nil)) pe_int)))))) (pss_one (ps_ret (pe_callTy call_list_of (by rfl) T.n_list b_list (pa_cons (pe_ix ix_tup (pv 0) pe_int (fun _ _ => rfl)) pa_nil)))) pss_nil)
      (pss_one (ps_ret pe_non)))))))))), ?_⟩
  have leafN : innO d = none → ∀ {σ : L2.St} {H1 : Hp}, Ex H H1 → (tC .non) σ H1 Q := fun hn σ H1 e => q1 hn H1 e
  have leafE : innO d = some [] → ∀ {σ : L2.St} {H1 : Hp}, Ex H H1 → (tLst tNil) σ H1 Q := fun hn σ H1 e => el_lst ea_nil (by simp) H1 (Ex.refl _) Q fun p H2 hp e2 h2 => q2 [] hn p [] H2 (fresh_back e hp) (e.trans e2) h2 .nil
  refine q_when (b := !hasWordD d) ?_ (fun hb1 H1 e1 => ?_) (fun hb1 H1 e1 => ?_)
  · cases d with
    | tuple ds =>
      have hz := (wf_tup hw).1
      have k1 := kit_tuple (.tuple ds)
      cases ds with
      | nil => exact et_is (et_or (et_not (et_val (ed_isi (ed_var rfl hd) k1))) fun _ => et_or (b := true) (et_ieq (K := K) (c := 0) (ed_len (ed_var rfl hd) rfl (by decide))) fun e => by cases e) rfl
      | cons x r =>
        have hz' : (x :: r).length ≤ 100000 := by omega
        refine et_is (et_or (et_not (et_val (ed_isi (ed_var rfl hd) k1))) fun _ => et_or (et_ieq (K := K) (c := 0) (ed_len (ed_var rfl hd) rfl hz')) fun _ => et_not (et_val (ed_isi (ed_ixT (n := 0) (ed_var rfl hd) ed_int rfl) (kit_str x)))) ?_
        have h1 : decide (((x :: r).length : Int) = 0) = false := decide_eq_false (by simp; omega)
        rw [h1]
        cases x <;> rfl
    | _ => exact et_is (et_or (b := true) (et_not (et_val (ed_isi (ed_var rfl hd) (kit_tuple _)))) fun e => by cases e) rfl
  · exact s_ret ev_c fun H2 e2 => q1 (innO_none (by simpa using hb1)) H2 (e1.trans e2)
  obtain ⟨z, r, rfl⟩ := hasWord_of (d := d) (by simpa using hb1)
  have hz := (wf_tup hw).1
  have hz' : (PyData.str z :: r).length ≤ 100000 := by omega
  have hwz : sOk z := sOk_of ((wf_tup hw).2 _ List.mem_cons_self)
  have hws : ∀ x ∈ r, wf 40 x = true := fun x hx => (wf_tup hw).2 x (List.mem_cons_of_mem _ hx)
  obtain ⟨a, xs0, rfl, hsq, hxs0⟩ := dp_tup hd0
  have hd1 := dpMono e1 _ _ hd
  refine q_parX (t_cons ?_)
  refine ed_ixT (n := 0) (ed_var rfl hd1) ed_int rfl H1 (Ex.refl _) _ fun v1 H2 e2 hv1 => t_cons ?_
  refine ed_len (ed_var rfl (dpMono e2 _ _ hd1)) rfl hz' H2 (Ex.refl _) _ fun v2 H3 e3 hv2 => ?_
  refine ⟨v1, v2, rfl, ?_⟩
  have hv1' := dp_str hv1
  have hv2' := dp_int hv2
  subst hv1' hv2'
  have E3 := ((e1.trans e2).trans e3)
  have wfi : ∀ i, wf 40 (r.getD i .none) = true := fun i => by
    by_cases hi : i < r.length
    · exact hws _ (List.mem_of_getElem? (getD_at hi))
    · rw [List.getD_eq_getElem?_getD, List.getElem?_eq_none (by omega)]
      rfl
  have goalI : innO (.tuple (.str z :: r)) = innW z r := rfl
  rw [goalI] at leafN leafE q1 q2
  unfold innW at leafN leafE q1 q2
  have ix : ∀ {σ : L2.St} {H' : Hp} (i : Nat), Ex H H' → σ[0]? = some (some (.ref a)) → i < r.length → Ed K (tOp (rIxT K) (tVar 0) (tC (.int ((i + 1 : Nat) : Int)))) σ H' (r.getD i .none) := fun i e' hs hi =>
    ed_ixT (n := i + 1) (ed_var hs (dpMono e' _ _ hd)) ed_int (by rw [List.getElem?_cons_succ]; exact getD_at hi)
  refine q_when (et_str (K := K) (ed_var rfl (.str z)) hwz) (fun hc H4 e4 => ?_) (fun hc H4 e4 => ?_)
  · rw [if_pos hc] at leafN leafE
    refine ret_ifE (et_ieq (K := K) (c := 1) (ed_var rfl (.int _))) (fun hc2 H5 e5 => leafE (if_pos hc2) ((E3.trans e4).trans e5)) (fun hc2 H5 e5 => leafN (if_neg (by rw [show lenE r 1 = false from hc2]; decide)) ((E3.trans e4).trans e5))
  rw [if_neg (by rw [hc]; decide)] at leafN leafE q1
  simp only [if_neg (show ¬ (decide (z = "unit") = true) by rw [hc]; decide)] at q2
  have E4 := E3.trans e4
  refine q_when (et_and (et_str (K := K) (ed_var rfl (.str z)) hwz) fun _ => et_ieq (K := K) (c := 2) (ed_var rfl (.int _))) (fun hc H5 e5 => ?_) (fun hc H5 e5 => ?_)
  · have hc' : (decide (z = "int") && lenE r 2) = true := hc
    have hl : r.length = 1 := lenE_eq (n := 1) (Bool.and_eq_true_iff.mp hc').2
    rw [if_pos hc'] at leafN leafE
    refine ret_ifE (et_val (ed_call1 (ix 0 (E4.trans e5) (by rfl) (by omega)) trivial)) (fun hc2 H6 e6 => leafE (if_pos hc2) ((E4.trans e5).trans e6)) (fun hc2 H6 e6 => leafN (if_neg (by rw [hc2]; decide)) ((E4.trans e5).trans e6))
  have hc' : (decide (z = "int") && lenE r 2) = false := hc
  rw [if_neg (by rw [hc']; decide)] at leafN leafE q1
  simp only [if_neg (show ¬ ((decide (z = "int") && lenE r 2) = true) by rw [hc']; decide)] at q2
  have E5 := E4.trans e5
  clear hc hc' e4 e5
  refine q_when (et_and (et_str (K := K) (ed_var rfl (.str z)) hwz) fun _ => et_ieq (K := K) (c := 2) (ed_var rfl (.int _))) (fun hc H6 e6 => ?_) (fun hc H6 e6 => ?_)
  · have hc' : (decide (z = "bool") && lenE r 2) = true := hc
    have hl : r.length = 1 := lenE_eq (n := 1) (Bool.and_eq_true_iff.mp hc').2
    rw [if_pos hc'] at leafN leafE
    refine ret_ifE (et_val (ed_isi (ix 0 (E5.trans e6) (by rfl) (by omega)) (kit_bool _))) (fun hc2 H7 e7 => leafE (if_pos hc2) ((E5.trans e6).trans e7)) (fun hc2 H7 e7 => leafN (if_neg (by rw [hc2]; decide)) ((E5.trans e6).trans e7))
  have hc' : (decide (z = "bool") && lenE r 2) = false := hc
  rw [if_neg (by rw [hc']; decide)] at leafN leafE q1
  simp only [if_neg (show ¬ ((decide (z = "bool") && lenE r 2) = true) by rw [hc']; decide)] at q2
  have E6 := E5.trans e6
  clear hc hc' e6
  refine q_when (et_and (et_str (K := K) (ed_var rfl (.str z)) hwz) fun _ => et_ieq (K := K) (c := 2) (ed_var rfl (.int _))) (fun hc H7 e7 => ?_) (fun hc H7 e7 => ?_)
  · have hc' : (decide (z = "cell") && lenE r 2) = true := hc
    have hl : r.length = 1 := lenE_eq (n := 1) (Bool.and_eq_true_iff.mp hc').2
    rw [if_pos hc'] at leafN leafE
    refine ret_ifE (et_val (ed_call1 (ix 0 (E6.trans e7) (by rfl) (by omega)) trivial)) (fun hc2 H8 e8 => leafE (if_pos hc2) ((E6.trans e7).trans e8)) (fun hc2 H8 e8 => leafN (if_neg (by rw [hc2]; decide)) ((E6.trans e7).trans e8))
  have hc' : (decide (z = "cell") && lenE r 2) = false := hc
  rw [if_neg (by rw [hc']; decide)] at leafN leafE q1
  simp only [if_neg (show ¬ ((decide (z = "cell") && lenE r 2) = true) by rw [hc']; decide)] at q2
  have E7 := E6.trans e7
  clear hc hc' e7
  refine q_when (et_and (et_str (K := K) (ed_var rfl (.str z)) hwz) fun _ => et_and (et_ieq (K := K) (c := 3) (ed_var rfl (.int _))) fun hl => et_val (ed_call1 (ix 0 E7 (by rfl) (by have := lenE_eq (n := 2) hl; omega)) (wf_short (wfi 0)))) (fun hc H8 e8 => ?_) (fun hc H8 e8 => ?_)
  · have hc' : (decide (z = "con") && (lenE r 3 && longBigD (r.getD 0 .none))) = true := hc
    have hl : r.length = 2 := lenE_eq (n := 2) (Bool.and_eq_true_iff.mp (Bool.and_eq_true_iff.mp hc').2).1
    rw [if_pos hc'] at leafN leafE
    simp only [if_pos hc'] at q2
    refine ret_ifE (et_cmp (ed_isN (ix 1 (E7.trans e8) (by rfl) (by omega)))) (fun hc2 H9 e9 => leafE (if_pos hc2) ((E7.trans e8).trans e9)) (fun hc2 H9 e9 => ?_)
    have E9 := (E7.trans e8).trans e9
    obtain ⟨y, hy, hyd⟩ := dps_at 2 hxs0 (show (PyData.str z :: r)[2]? = some (r.getD 1 .none) by rw [List.getElem?_cons_succ]; exact getD_at (by omega))
    refine el_lst (ea_cons (ev_op (ev_var rfl) ev_c (rv_ixT (ex_t (hb.trans E9) hsq) (atI_nat (j := 2) hy))) ea_nil) (by simp) H9 (Ex.refl _) Q fun p H10 hp10 e10 h10 => q2 _ (if_neg (by rw [hc2]; decide)) p [y] H10 (fresh_back E9 hp10) (E9.trans e10) h10 (dps_one hyd)
  have hc' : (decide (z = "con") && (lenE r 3 && longBigD (r.getD 0 .none))) = false := hc
  rw [if_neg (by rw [hc']; decide)] at leafN leafE q1
  simp only [if_neg (show ¬ ((decide (z = "con") && (lenE r 3 && longBigD (r.getD 0 .none))) = true) by rw [hc']; decide)] at q2
  have E8 := E7.trans e8
  clear hc hc' e8
  refine q_when (b := decide (z = "tuple") && (lenE r 2 && (isTupD (r.getD 0 .none) && (decide ((2 : Int) ≤ ((kids (r.getD 0 .none)).length : Int)) && decide (((kids (r.getD 0 .none)).length : Int) ≤ 4))))) (et_and (et_str (K := K) (ed_var rfl (.str z)) hwz) fun _ => et_and (et_ieq (K := K) (c := 2) (ed_var rfl (.int _))) fun hl => et_and (et_val (ed_isi (ix 0 E8 (by rfl) (by have := lenE_eq (n := 1) hl; omega)) (kit_tuple _))) fun ht => ?_) (fun hc H9 e9 => ?_) (fun hc H9 e9 => ?_)
  · have h0 := ix (σ := L2.start ["value", "kind", "many"] [.ref a] |>.set 1 (some (.str z)) |>.set 2 (some (.int ((PyData.str z :: r).length : Int)))) 0 E8 (by rfl) (by have := lenE_eq (n := 1) hl; omega)
    have w0 := wfi 0
    revert h0 ht w0
    generalize r.getD 0 .none = d0
    intro ht h0 w0
    cases d0 with
    | tuple ds => exact et_cmp (ed_chain ed_int (ed_len (n := ds.length) h0 rfl (by have := (wf_tup w0).1; omega)) ed_int)
    | _ => cases ht
  · rw [if_pos hc] at leafN leafE
    simp only [if_pos hc] at q2
    simp only [Bool.and_eq_true] at hc
    obtain ⟨_, hl, ht, _⟩ := hc
    have hl' : r.length = 1 := lenE_eq (n := 1) hl
    have E9 := E8.trans e9
    obtain ⟨y, hy, hyd⟩ := dps_at 1 hxs0 (show (PyData.str z :: r)[1]? = some (r.getD 0 .none) by rw [List.getElem?_cons_succ]; exact getD_at (by omega))
    revert ht hyd q2
    generalize r.getD 0 .none = d0
    intro q2 ht hyd
    cases d0 with
    | tuple ds =>
      obtain ⟨a2, ys, rfl, hs2, hys⟩ := dp_tup hyd
      refine s_retX (ev_op (ev_var rfl) ev_c (rv_ixT (ex_t (hb.trans E9) hsq) (atI_nat (j := 1) hy)) H9 (Ex.refl _) _ fun H10 e10 => ?_)
      refine ⟨a2, ys, rfl, .inr (ex_t ((hb.trans E9).trans e10) hs2), fun l hl2 => q2 ds rfl l ys _ (fresh_back (E9.trans e10) hl2) ((E9.trans e10).trans (Ex.new hl2)) upd_same hys⟩
    | _ => cases ht
  · exact s_retX (leafN (if_neg (by rw [hc]; decide)) (E8.trans e9))
end
end K25

end

section
set_option maxHeartbeats 4000000
namespace K25
open PySem PySem.Spec PyProof.Rows L2 Evl
def chV (d : PyData) : List PyData := (innO d).getD []
def plR : Nat → PyData → Bool
  | 0, _ => false
  | n + 1, d => match innO d with
    | none => false
    | some ks => ks.all (plR n)
def szV : Nat → PyData → Nat
  | 0, _ => 1
  | n + 1, d => 1 + ((chV d).map (szV n)).sum
theorem innW_cases {s : Str} {r ks : List PyData} (h : innW s r = some ks) : ks = [] ∨ (r.length = 2 ∧ ks = [r.getD 1 .none]) ∨ (r.length = 1 ∧ r.getD 0 .none = .tuple ks ∧ ks.length ≤ 4) := by
  unfold innW at h
  split at h
  · split at h
    · cases h; exact .inl rfl
    · cases h
  split at h
  · split at h
    · cases h; exact .inl rfl
    · cases h
  split at h
  · split at h
    · cases h; exact .inl rfl
    · cases h
  split at h
  · split at h
    · cases h; exact .inl rfl
    · cases h
  split at h
  · rename_i hc
    simp only [Bool.and_eq_true] at hc
    split at h
    · cases h; exact .inl rfl
    · cases h; exact .inr (.inl ⟨lenE_eq (n := 2) hc.2.1, rfl⟩)
  split at h
  · rename_i hc
    simp only [Bool.and_eq_true, decide_eq_true_eq] at hc
    obtain ⟨_, hl, ht, h2, h4⟩ := hc
    have hl' : r.length = 1 := lenE_eq (n := 1) hl
    revert ht h h2 h4
    generalize r.getD 0 .none = d0
    intro h ht h2 h4
    cases d0 with
    | tuple ds =>
      cases h
      exact .inr (.inr ⟨hl', rfl, by exact_mod_cast h4⟩)
    | _ => cases ht
  · cases h
theorem innO_word {d : PyData} {ks : List PyData} (h : innO d = some ks) : ∃ s r, d = .tuple (.str s :: r) ∧ innW s r = some ks := by
  cases d with
  | tuple ds =>
    cases ds with
    | nil => cases h
    | cons x r =>
      cases x with
      | str s => exact ⟨s, r, rfl, h⟩
      | _ => cases h
  | _ => cases h
theorem wf_tupS {n : Nat} {ds : List PyData} (h : wf (n + 1) (.tuple ds) = true) : ds.length ≤ 1000 ∧ ∀ x ∈ ds, wf n x = true := by simpa [wf] using h
theorem innO_wf {n : Nat} {d : PyData} {ks : List PyData} (h : innO d = some ks) (hw : wf n d = true) : ∃ m, n = m + 1 ∧ ks.length ≤ 4 ∧ ∀ k ∈ ks, wf m k = true := by
  obtain ⟨s, r, rfl, h⟩ := innO_word h
  cases n with
  | zero => cases hw
  | succ n =>
    obtain ⟨_, hx⟩ := wf_tupS hw
    refine ⟨n, rfl, ?_⟩
    rcases innW_cases h with rfl | ⟨hl, rfl⟩ | ⟨hl, ht, h4⟩
    · exact ⟨by simp, fun k hk => by cases hk⟩
    · refine ⟨by simp, fun k hk => ?_⟩
      simp only [List.mem_singleton] at hk
      subst hk
      exact hx _ (List.mem_cons_of_mem _ (List.mem_of_getElem? (getD_at (i := 1) (by omega))))
    · have hx0 := hx _ (List.mem_cons_of_mem _ (List.mem_of_getElem? (getD_at (r := r) (i := 0) (by omega))))
      rw [ht] at hx0
      exact ⟨h4, fun k hk => (wf_tup hx0).2 k hk⟩
theorem sum_flat {f : PyData → Nat} {g : PyData → List PyData} : ∀ ds : List PyData, ((ds.flatMap g).map f).sum + ds.length = (ds.map fun d => 1 + ((g d).map f).sum).sum
  | [] => rfl
  | d :: r => by
    have := sum_flat (f := f) (g := g) r
    simp only [List.flatMap_cons, List.map_append, List.sum_append, List.length_cons, List.map_cons, List.sum_cons]
    omega
theorem len_sum {f : PyData → Nat} : ∀ ds : List PyData, (∀ d ∈ ds, 1 ≤ f d) → ds.length ≤ (ds.map f).sum
  | [], _ => Nat.le_refl _
  | d :: r, h => by
    have h1 := h d List.mem_cons_self
    have h2 := len_sum r fun x hx => h x (List.mem_cons_of_mem _ hx)
    simp only [List.length_cons, List.map_cons, List.sum_cons]
    omega
theorem szV_pos (n : Nat) (d : PyData) : 1 ≤ szV n d := by
  cases n with
  | zero => exact Nat.le_refl _
  | succ n => simp [szV]
theorem szV_sum (n : Nat) (ds : List PyData) : ((ds.flatMap chV).map (szV n)).sum + ds.length = (ds.map (szV (n + 1))).sum := by
  rw [sum_flat]
  rfl
section
variable {P : Program} {w : World} {K : PySem.W.Frag} {mg : Str → Option Value} {base : Heap}
/-- the state of is_plain ahead of turn t -/
def Pln (K : PySem.W.Frag) (H0 : Hp) (v : V) (R : Bool) (t : Nat) (σ : L2.St) (H : Hp) : Prop :=
  ∃ (p : Addr) (m : Nat) (x3 x4 x5 x6 : Option V) (xs : List V) (ds : List PyData), σ = [some v, some (.ref p), some (.int (m : Nat)), x3, x4, x5, x6] ∧ Ex H0 H ∧ H p = some (.lst xs) ∧ DpAll K H0 xs ds ∧
    (∀ d ∈ ds, wf (31 - t) d = true) ∧ (31 < t → ds = []) ∧ R = ds.all (plR (32 - t)) ∧ m + (ds.map (szV (32 - t))).sum ≤ 600
theorem sc_is_plain : FnScope ["value", "level", "many", "turn", "below", "one", "parts"] ["value"] (defScope s55) := ⟨rfl, rfl, rfl, by decide +kernel, rfl, by decide +kernel, by decide +kernel⟩
/-- the promise of a def that is called by keywords too -/
def DfK (P : Program) (w : World) (K : PySem.W.Frag) (mg : Str → Option Value) (base : Heap) (CX : CXT) (k : Nat) (x : Str) (st : Stmt) (ps : List Str) (sp : Sp) : Prop := ∃ fd, FnP K x st (He.ga K x) fd ∧ FnOk P w K mg base CX k (He.ga K x) fd ps sp
theorem DfK.df {CX : CXT} {k : Nat} {x : Str} {st : Stmt} {ps : List Str} {sp : Sp} (D : DfK P w K mg base CX k x st ps sp) (hm : mg x = some (.ref (He.ga K x)))
    (hb : ∀ kV doc pm an cdv ct us, us.length = ps.length → bindArgs (PySem.W.fnOf x x (defArgs st) (defBody st) (defScope st) .none kV doc pm an cdv ct) ⟨us, []⟩ = pure (ps.zip us)) : Df P w K mg base CX k x ps sp := by
  obtain ⟨fd, F, ok⟩ := D
  exact ⟨fd, ok, F.bindsN hb, F.kp, hm⟩
theorem ok_is_plainK (T : Tx K mg) : DfK P w K mg base CX0 6 "is_plain" s55 ["value"] (sp1 K (fun d => .bool (plR 32 d)) fun d => wf 31 d = true ∧ szV 32 d ≤ 600) := by
  have D_inner_values := ok_inner_values (P := P) (w := w) (base := base) T
  obtain ⟨fd, F⟩ := T.f_is_plain
  refine ⟨fd, F, F.ok sc_is_plain len1 fun cdv A outer s H vs Q E hr h => ?_⟩
  suffices hh : ∃ t, PSs (cxOf CX0 P w K mg base ["value", "level", "many", "turn", "below", "one", "parts"] "is_plain" (defScope s55) (He.ga K "is_plain") cdv A outer s H E).nox (defBody s55) t ∧ t { nx := fun _ H' => Q .non H', rt := Q } (start ["value", "level", "many", "turn", "below", "one", "parts"] vs) H by
    obtain ⟨t, h1, h2⟩ := hh
    exact ⟨t, h1.nox, h2⟩
  obtain ⟨v, d, rfl, hd, ⟨hw, hz⟩, q⟩ := h
  have nd := sc_is_plain.nd
  refine ⟨_, (pss_cons (ps_par (i := 1) (j := 2) (by rfl) nd rfl rfl (by decide) rfl rfl (pa_cons (pe_lst (pa_cons (pv 0) pa_nil)) (pa_cons pe_int pa_nil)) (by rfl))
      (pss_cons (ps_for PassesOwn.never rfl (pi_range1 rfl T.n_range (pa_cons (pgi T.i_MOST_DEEP_matches) pa_nil)) (pg_name (i := 3) nd rfl (Or.inl rfl))
      (pss_cons (ps_set (i := 4) nd rfl (Or.inl rfl) (pe_lst pa_nil))
      (pss_cons (ps_for PassesOwn.never rfl (pi_list (pv 1)) (pg_name (i := 5) nd rfl (Or.inl rfl))
      (pss_cons (ps_set (i := 6) nd rfl (Or.inl rfl) (pe_df D_inner_values hr (pa_cons (pv 5) pa_nil)))
      (pss_cons (ps_if (pt_cmpR o_isN (pv 6) pe_non (nomark _)) (pss_one (ps_ret pe_bl)) pss_nil)
      (pss_one (ps_expr (pe_bm PySem.F.plainAttrs_list PySem.F.slot_list_extend PySem.F.type_list_extend mt_extend (pv 4) (pa_cons (pv 6) pa_nil)))))))
      (pss_cons (ps_set (i := 2) nd rfl (Or.inl rfl) (pe_op op_add (pv 2) (pe_callB c_len (by rfl) T.n_len (by decide +kernel) (pa_cons (pv 1) pa_nil))))
      (pss_cons (ps_if (pt_cmpR op_gt (pv 2) (pgi T.i_MOST_VALUES) (nomark _)) (pss_one (ps_ret pe_bl)) pss_nil)
      (pss_one (ps_set (i := 1) nd rfl (Or.inl rfl) (pv 4))))))))
      (pss_one (ps_ret (pe_cmpR (op_eqD hr.units) (pv 1) (pe_lst pa_nil) (nomark _)))))), ?_⟩
  refine q_parX (t_cons ?_)
  refine el_lst (ea_cons (ev_var (v := v) rfl) ea_nil) (by simp) H (Ex.refl H) _ fun p H1 hp e1 hl1 => t_cons (t_c ?_)
  refine ⟨_, _, rfl, ?_⟩
  refine q_forR1 (n := 40) (ea_cons ev_c ea_nil) ⟨by decide, by decide⟩ (Pln K H v (plR 32 d)) (fun H2 e2 => ?_) (fun t σ' H' ht hP => ?_) fun σ' H' hP => ?_
  · refine ⟨p, 0, _, _, _, _, [v], [d], rfl, e1.trans e2, e2 _ _ hl1, dps_one hd, fun x hx => by simp at hx; subst hx; exact hw, fun z => absurd z (by decide), by simp, by simp; exact hz⟩
  · obtain ⟨p, m, x3, x4, x5, x6, xs, ds, rfl, E0, hl, hds, hwf, hem, hR, hsz⟩ := hP
    refine q_asgL (el_lst ea_nil (by simp)) fun b H2 hb e2 hlb => ?_
    have hbp : p ≠ b := ne_of_none hl hb
    have hlp2 := e2 _ _ hl
    have hb0 : H b = none := fresh_back E0 hb
    have E2 := E0.trans e2
    have hxl := dps_len hds
    refine q_forL (a := p) (xs := xs) (ev_var rfl) (SqL.of hlp2) (fun i σ' H' => (∃ y5 y6 acc, σ' = [some v, some (.ref p), some (.int (m : Nat)), some (.int (t : Nat)), some (.ref b), y5, y6] ∧ H' b = some (.lst acc) ∧ DpAll K H acc ((ds.take i).flatMap chV)) ∧ Ex H H' ∧ H' p = some (.lst xs) ∧ ∀ d ∈ ds.take i, innO d ≠ none)
      (fun H3 e3 => ⟨⟨_, _, [], rfl, e3 _ _ hlb, .nil⟩, E2.trans e3, e3 _ _ hlp2, fun z hz => by simp at hz⟩) (fun i σ' H' _ hh => SqL.of hh.2.2.1) (fun i x σ' H' hx hh => ?_) (fun σ' H' hh => ?_)
    · obtain ⟨⟨y5, y6, acc, rfl, hacc, hda⟩, E', hlp', hin⟩ := hh
      obtain ⟨di, hdi, hxi⟩ := dps_of i hds hx
      have hmem := List.mem_of_getElem? hdi
      have hwi := hwf di hmem
      refine q_asgX (t_call (t_cons ⟨x, rfl, ?_⟩))
      refine ⟨x, di, H, rfl, E', hxi, wf_le (by omega) hwi, fun hn H4 e4 => ?_, fun ks hks p2 zs H4 hp2 e4 hl2 hzs => ?_⟩
      · refine q_when (b := true) (et_cmp (K := K) (ed_isN (d := .none) (ed_var rfl .non))) (fun _ H5 e5 => ?_) (fun z => by cases z)
        refine sd_ret (K := K) ed_bl fun v6 H6 e6 hv6 => q v6 H6 (((E'.trans e4).trans e5).trans e6) ?_
        have hRf : plR 32 d = false := by
          rw [hR]
          refine List.all_eq_false.mpr ⟨di, hmem, ?_⟩
          have h32 : 32 - t = (31 - t) + 1 := by
            by_cases hc : 31 < t
            · rw [hem hc] at hmem
              cases hmem
            · omega
          rw [h32]
          simp [plR, hn]
        show Dp K H6 v6 (.bool (plR 32 d))
        rw [hRf]
        exact hv6
      · refine q_when (b := false) (et_cmp (K := K) (ed_isN (d := .list ks) (ed_var rfl (.lst (SqL.of hl2) (dpsMono (E'.trans e4) _ _ hzs))))) (fun z => by cases z) (fun _ H5 e5 => ?_)
        have hacc5 := e5 _ _ (e4 _ _ hacc)
        have hl5 := e5 _ _ hl2
        have hks4 := (innO_wf hks hwi).choose_spec.2.1
        have hal : acc.length ≤ 4 * i := by
          rw [dps_len hda]
          refine Nat.le_trans (flat_le 4 (ds.take i) fun z hz => ?_) ?_
          · have hzm := List.mem_of_mem_take hz
            unfold chV
            cases hz2 : innO z with
            | none => simp
            | some k2 => exact (innO_wf hz2 (hwf z hzm)).choose_spec.2.1
          · have := List.length_take_le i ds
            omega
        have hil : i < ds.length := by
          have := (List.getElem?_eq_some_iff.mp hdi).1
          exact this
        have hd600 : ds.length ≤ 600 := Nat.le_trans (len_sum (f := szV (32 - t)) ds fun z _ => szV_pos (32 - t) z) (by omega)
        refine ⟨.ref b, rfl, Or.inl ⟨rfl, acc, sq_of hacc5⟩, .ref p2, rfl, b, p2, acc, zs, rfl, rfl, hacc5, hl5, sz_of (by have := dps_len hzs; omega), ?_⟩
        refine ⟨⟨_, _, acc ++ zs, rfl, upd_same, ?_⟩, Ex.mut ((E'.trans e4).trans e5) hb0, ?_, ?_⟩
        · rw [flat_take hdi, show chV di = ks from by unfold chV; rw [hks]; rfl]
          exact dps_app hda hzs
        · rw [upd_ne hbp]
          exact e5 _ _ (e4 _ _ hlp')
        · intro z hz
          rw [take_succ hdi] at hz
          rcases List.mem_append.mp hz with hz | hz
          · exact hin z hz
          · simp at hz
            subst hz
            rw [hks]
            simp
    · obtain ⟨⟨y5, y6, acc, rfl, hacc, hda⟩, E', hlp', hin⟩ := hh
      rw [hxl, List.take_length] at hda hin
      have hds' := dpsMono E' _ _ hds
      have hd600 : m + ds.length ≤ 600 := Nat.le_trans (Nat.add_le_add_left (len_sum (f := szV (32 - t)) ds fun z _ => szV_pos (32 - t) z) m) hsz
      refine qd_asg (K := K) (ed_opI (i := (m : Int)) (j := ((ds.length : Nat) : Int)) (ed_var rfl (.int _)) (ed_len (d := .list ds) (ed_var rfl (.lst (SqL.of hlp') hds')) rfl (by omega))) fun vm H3 e3 hvm => ?_
      have hvm' := dp_int hvm
      subst hvm'
      refine q_when (b := false) (et_is (et_cmp (K := K) (ed_cmpI (i := (m : Int) + (ds.length : Int)) (j := 600) (ed_var rfl (.int _)) ed_int)) (decide_eq_false (by omega))) (fun z => by cases z) (fun _ H4 e4 => ?_)
      have E4 := (E'.trans e3).trans e4
      refine s_asg (ev_var rfl) fun H5 e5 => ?_
      have h31 : 31 - t = 0 → ds = [] := fun h0 => by
        cases hds0 : ds with
        | nil => rfl
        | cons z r =>
          have hz0 := hwf z (by rw [hds0]; simp)
          have hi0 := hin z (by rw [hds0]; simp)
          rw [h0] at hz0
          cases hz1 : innO z with
          | none => exact absurd hz1 hi0
          | some ks =>
            obtain ⟨m', hm', _⟩ := innO_wf hz1 hz0
            omega
      refine ⟨b, m + ds.length, _, _, _, _, acc, ds.flatMap chV, rfl, E4.trans e5, e5 _ _ (e4 _ _ (e3 _ _ hacc)), hda, ?_, ?_, ?_, ?_⟩
      · intro z hz
        obtain ⟨u, hu, hzu⟩ := List.mem_flatMap.mp hz
        unfold chV at hzu
        cases hu2 : innO u with
        | none => exact absurd hu2 (hin u hu)
        | some ks =>
          rw [hu2] at hzu
          obtain ⟨m', hm', _, hk⟩ := innO_wf hu2 (hwf u hu)
          have : 31 - (t + 1) = m' := by omega
          rw [this]
          exact hk z hzu
      · intro ht2
        rw [h31 (by omega)]
        rfl
      · by_cases h0 : 31 - t = 0
        · have := h31 h0
          subst this
          rw [hR]
          rfl
        · have h32 : 32 - t = (32 - (t + 1)) + 1 := by omega
          rw [hR, h32]
          have : ∀ us : List PyData, (∀ z ∈ us, innO z ≠ none) → us.all (plR (32 - (t + 1) + 1)) = (us.flatMap chV).all (plR (32 - (t + 1))) := fun us hus => by
            induction us with
            | nil => rfl
            | cons u r ih =>
              have hu := hus u List.mem_cons_self
              rw [List.all_cons, List.flatMap_cons, List.all_append, ih fun z hz => hus z (List.mem_cons_of_mem _ hz)]
              congr 1
              cases hu2 : innO u with
              | none => exact absurd hu2 hu
              | some ks => simp [plR, chV, hu2]
          exact this ds hin
      · by_cases h0 : 31 - t = 0
        · have := h31 h0
          subst this
          simpa using hsz
        · have h32 : 32 - t = (32 - (t + 1)) + 1 := by omega
          rw [h32, ← szV_sum] at hsz
          omega
  · obtain ⟨p, m, x3, x4, x5, x6, xs, ds, rfl, E0, hl, hds, hwf, hem, hR, hsz⟩ := hP
    have h0 : ds = [] := hem (by decide)
    subst h0
    refine sd_ret (Ed.is (ed_eq (d := .list []) (ed_var rfl (.lst (SqL.of hl) (dpsMono E0 _ _ hds))) (ed_lst ea_nilD) (by decide +kernel) (by decide +kernel)) rfl) fun v3 H3 e3 hv3 => q v3 H3 (E0.trans e3) ?_
    show Dp K H3 v3 (.bool (plR 32 d))
    rw [hR]
    exact hv3
theorem ok_is_plain (T : Tx K mg) : Df P w K mg base CX0 6 "is_plain" ["value"] (sp1 K (fun d => .bool (plR 32 d)) fun d => wf 31 d = true ∧ szV 32 d ≤ 600) :=
  (ok_is_plainK T).df T.g_is_plain fun _ _ _ _ _ _ us hl => match us, hl with | [_], _ => rfl
end
end K25

end

section
set_option maxHeartbeats 4000000
namespace K25
open PySem PySem.Spec PyProof.Rows L2 Evl
/-! ### values -/
inductive ValD : Nat → PyData → Prop
  | intP (n : Nat) (i : Int) (h : isNumD (.int i) = true) : ValD n (intD i)
  | boolP (n : Nat) (b : Bool) : ValD n (boolD b)
  | unitP (n : Nat) : ValD n unitD
  | cellP (n : Nat) (i : Int) (h : 0 ≤ i ∧ i ≤ 2147483647) : ValD n (cellD i)
  | con0 (n : Nat) (s : Str) (h : sOk s) (hb : longBigD (.str s) = true ∧ s ∈ conStrs) : ValD n (conD s .none)
  | con1 (n : Nat) (s : Str) (d : PyData) (h : sOk s) (hb : longBigD (.str s) = true ∧ s ∈ conStrs) (hd : ValD n d) : ValD (n + 1) (conD s d)
  | tupP (n : Nat) (ds : List PyData) (h2 : 2 ≤ ds.length) (h4 : ds.length ≤ 3) (hd : ∀ d ∈ ds, ValD n d) : ValD (n + 1) (tupD ds)
theorem ValD.frz {n : Nat} {d : PyData} (h : ValD n d) : K25.frz d = true := by
  induction h with
  | con1 n s d h hb hd ih => simp [conD, K25.frz, frzAll, ih]
  | tupP n ds h2 h4 hd ih =>
    have := frz_all ih
    simp [tupD, K25.frz, frzAll, this]
  | _ => simp [cellD, intD, boolD, unitD, conD, K25.frz, frzAll]
theorem ValD.wf {n : Nat} {d : PyData} (h : ValD n d) : K25.wf (2 * n + 2) d = true := by
  induction h with
  | con0 n s h hb => exact wf_list2 (by simp) (by
      have e1 : K25.wf (2 * n + 1) (.str "con") = true := wf_le (Nat.zero_le _) (by decide +kernel)
      have e2 : K25.wf (2 * n + 1) .none = true := wf_le (Nat.zero_le _) (by decide +kernel)
      simp [wf_any _ h, e1, e2])
  | con1 n s d h hb hd ih => exact wf_list2 (by simp) (by
      have e1 : K25.wf (2 * (n + 1) + 1) (.str "con") = true := wf_le (Nat.zero_le _) (by decide +kernel)
      have e2 : K25.wf (2 * (n + 1) + 1) d = true := wf_le (by omega) ih
      simp [wf_any _ h, e1, e2])
  | tupP n ds h2 h4 hd ih => exact wf_list2 (by simp) (by
      have e1 : K25.wf (2 * (n + 1) + 1) (.str "tuple") = true := wf_le (Nat.zero_le _) (by decide +kernel)
      have e2 : K25.wf (2 * (n + 1) + 1) (.tuple ds) = true := wf_tup_mk (by omega) fun x hx => ih x hx
      simp [e1, e2])
  | intP n i h => exact wf_list2 (by simp) (by
      have e1 : K25.wf (2 * n + 1) (.str "int") = true := wf_le (Nat.zero_le _) (by decide +kernel)
      have e2 : K25.wf (2 * n + 1) (.int i) = true := wf_le (Nat.zero_le _) rfl
      simp [e1, e2])
  | cellP n i h => exact wf_list2 (by simp) (by
      have e1 : K25.wf (2 * n + 1) (.str "cell") = true := wf_le (Nat.zero_le _) (by decide +kernel)
      have e2 : K25.wf (2 * n + 1) (.int i) = true := wf_le (Nat.zero_le _) rfl
      simp [e1, e2])
  | boolP n b => exact wf_list2 (by simp) (by
      have e1 : K25.wf (2 * n + 1) (.str "bool") = true := wf_le (Nat.zero_le _) (by decide +kernel)
      have e2 : K25.wf (2 * n + 1) (.bool b) = true := wf_le (Nat.zero_le _) rfl
      simp [e1, e2])
  | unitP n => exact wf_le (n := 1) (by omega) (by decide +kernel)
theorem ValD.word {n : Nat} {d : PyData} (h : ValD n d) : ∃ r, d = .tuple (.str (tagOf d) :: r) ∧ sOk (tagOf d) ∧ r.length ≤ 2 := by
  cases h with
  | intP => exact ⟨_, rfl, show sOk "int" by decide +kernel, by simp⟩
  | boolP => exact ⟨_, rfl, show sOk "bool" by decide +kernel, by simp⟩
  | unitP => exact ⟨_, rfl, show sOk "unit" by decide +kernel, by simp⟩
  | cellP => exact ⟨_, rfl, show sOk "cell" by decide +kernel, by simp⟩
  | con0 => exact ⟨_, rfl, show sOk "con" by decide +kernel, by simp⟩
  | con1 => exact ⟨_, rfl, show sOk "con" by decide +kernel, by simp⟩
  | tupP => exact ⟨_, rfl, show sOk "tuple" by decide +kernel, by simp⟩
/-- of a depth that all this allows -/
def ValQ (d : PyData) : Prop := ∃ n, n ≤ 4 ∧ ValD n d
theorem ValQ.wf {d : PyData} (h : ValQ d) : K25.wf 18 d = true := by
  obtain ⟨n, hn, h⟩ := h
  exact wf_le (by omega) h.wf
theorem ValQ.frz {d : PyData} (h : ValQ d) : K25.frz d = true := by
  obtain ⟨n, hn, h⟩ := h
  exact h.frz
theorem ValQ.word {d : PyData} (h : ValQ d) : ∃ r, d = .tuple (.str (tagOf d) :: r) ∧ sOk (tagOf d) ∧ r.length ≤ 2 := by
  obtain ⟨n, hn, h⟩ := h
  exact h.word
theorem ValQ.len {d : PyData} (h : ValQ d) : (tagOf d = "tuple" → ∃ ds, d = tupD ds ∧ 2 ≤ ds.length ∧ ds.length ≤ 4 ∧ ∀ d ∈ ds, ValQ d) ∧
    (tagOf d = "con" → ∃ s e, d = conD s e ∧ sOk s ∧ longBigD (.str s) = true ∧ (e = .none ∨ ValQ e)) := by
  obtain ⟨n, hn, h⟩ := h
  cases h with
  | con0 _ s h hb => exact ⟨fun e => absurd e (show ¬(Str.ofString "con" = Str.ofString "tuple") by decide +kernel), fun e => ⟨s, .none, rfl, h, hb.1, .inl rfl⟩⟩
  | con1 m s d h hb hd => exact ⟨fun e => absurd e (show ¬(Str.ofString "con" = Str.ofString "tuple") by decide +kernel), fun e => ⟨s, d, rfl, h, hb.1, .inr ⟨m, by omega, hd⟩⟩⟩
  | tupP m ds h2 h4 hd => exact ⟨fun e => ⟨ds, rfl, h2, by omega, fun x hx => ⟨m, by omega, hd x hx⟩⟩, fun e => absurd e (show ¬(Str.ofString "tuple" = Str.ofString "con") by decide +kernel)⟩
  | intP _ _ => exact ⟨fun e => absurd e (show ¬(Str.ofString "int" = Str.ofString "tuple") by decide +kernel), fun e => absurd e (show ¬(Str.ofString "int" = Str.ofString "con") by decide +kernel)⟩
  | cellP _ _ => exact ⟨fun e => absurd e (show ¬(Str.ofString "cell" = Str.ofString "tuple") by decide +kernel), fun e => absurd e (show ¬(Str.ofString "cell" = Str.ofString "con") by decide +kernel)⟩
  | boolP _ _ => exact ⟨fun e => absurd e (show ¬(Str.ofString "bool" = Str.ofString "tuple") by decide +kernel), fun e => absurd e (show ¬(Str.ofString "bool" = Str.ofString "con") by decide +kernel)⟩
  | unitP _ => exact ⟨fun e => absurd e (show ¬(Str.ofString "unit" = Str.ofString "tuple") by decide +kernel), fun e => absurd e (show ¬(Str.ofString "unit" = Str.ofString "con") by decide +kernel)⟩
/-! ### a pattern's match -/
def oD : Option (List PyData) → PyData
  | none => .none
  | some ks => .list ks
def mchL (rec : PyData → PyData → Option (List PyData)) : List PyData → List PyData → Option (List PyData)
  | p :: ps, v :: vs => match rec p v with
    | none => none
    | some b => match mchL rec ps vs with
      | none => none
      | some c => some (b ++ c)
  | _, _ => some []
def mchP (rec : PyData → PyData → Option (List PyData)) (ps vs : List PyData) : Option (List PyData) := if (!decide ((ps.length : Int) = (vs.length : Int))) = true then none else mchL rec ps vs
def mchC (rec : PyData → PyData → Option (List PyData)) (p v : PyData) : Option (List PyData) :=
  if (!PyData.eqv (nth p 1) (nth v 1) || !PyData.eqv (.bool (isNone (nth p 2))) (.bool (isNone (nth v 2)))) = true then none else if isNone (nth p 2) = true then some [] else rec (nth p 2) (nth v 2)
def mchF (rec : PyData → PyData → Option (List PyData)) (p v : PyData) : Option (List PyData) :=
  if decide (tagOf p = "any") = true then some []
  else if decide (tagOf p = "bind") = true then some [.tuple [nth p 1, v]]
  else if (!decide (tagOf p = tagOf v)) = true then none
  else if decide (tagOf p = "con") = true then mchC rec p v
  else if decide (tagOf p = "tuple") = true then mchP rec (kids (nth p 1)) (kids (nth v 1))
  else if PyData.eqv p v = true then some [] else none
def mch : Nat → PyData → PyData → Option (List PyData)
  | 0 => fun _ _ => none
  | n + 1 => mchF (mch n)
theorem neg_of {b : Bool} (h : b = false) : ¬ (b = true) := by rw [h]; decide
/-- what a match gives -/
def bnds (o : Option (List PyData)) : Prop := ∀ ks, o = some ks → frzAll ks = true ∧ wf 20 (.list ks) = true
section
variable {P : Program} {w : World} {K : PySem.W.Frag} {mg : Str → Option Value} {base : Heap}
theorem et_vtag {te : TE} {σ : L2.St} {H : Hp} {d : PyData} {c : Str} (h : Ed K te σ H d) (p : ValQ d) (hc : sOk c := by decide +kernel) : EvT (tTest (tOp (rEqD K) (tOp (rIxT K) te (tC (.int 0))) (tC (.str c)))) σ H (decide (tagOf d = c)) := by
  obtain ⟨r, e, hs, _⟩ := p.word
  exact et_str (ed_ix0 h e) hs hc
theorem et_strs {ta tb : TE} {σ : L2.St} {H : Hp} {x y : Str} (h : Ed K ta σ H (.str x)) (h2 : Ed K tb σ H (.str y)) (hx : sOk x) (hy : sOk y) : EvT (tTest (tOp (rNeD K) ta tb)) σ H (!decide (x = y)) :=
  et_cmp (Ed.is (ed_ne h h2 (wf_shaped (n := 0) hx) (wf_shaped (n := 0) hy)) (congrArg PyData.bool (by simp only [PyData.eqv]; rw [Bool.beq_eq_decide_eq])))
theorem ret_ifN {t : TT} {ta tb : TE} {b : Bool} {σ : L2.St} {H : Hp} {o1 o2 : Option (List PyData)} (h : EvT t σ H b) (h1 : b = true → En K ta σ H (oD o1)) (h2 : b = false → En K tb σ H (oD o2)) : En K (tIf t ta tb) σ H (oD (if b = true then o1 else o2)) := by
  cases b with
  | true => exact en_if h h1 fun e => by cases e
  | false => exact en_if h (fun e => by cases e) h2
theorem sc_matched_con : FnScope ["pattern", "value"] ["pattern", "value"] (defScope s57) := ⟨rfl, rfl, rfl, by decide +kernel, rfl, by decide +kernel, by decide +kernel⟩
theorem matched_con_step (T : Tx K mg) (n k : Nat) (rec : PyData → PyData → Option (List PyData)) (D_bindings_of : Df P w K mg base CX0 k "bindings_of" ["pattern", "value"] (sn2 K (fun p v => oD (rec p v)) fun p v => (∃ m, n = m + 1 ∧ PatD m p) ∧ ValQ v)) :
    Df P w K mg base CX0 (k + 1) "matched_con" ["pattern", "value"] (sn2 K (fun p v => oD (mchC rec p v)) fun p v => PatD n p ∧ ValQ v ∧ tagOf p = "con" ∧ tagOf v = "con") := by
  refine df_ok T.f_matched_con T.g_matched_con sc_matched_con len2n (fun _ _ _ _ _ _ us hl => match us, hl with | [_, _], _ => rfl) fun cdv A outer s H vs Q E hr h => ?_
  obtain ⟨v, d, v2, d2, rfl, hd, hd2, ⟨hp, hv, t1, t2⟩, q⟩ := h
  have nd := sc_matched_con.nd
  refine ⟨_, (pss_cons (ps_if (PW.pt (pw_or (pt_cmpR (op_neD hr.units) (pe_ix ix_tup (pv 0) pe_int (fun _ _ => rfl)) (pe_ix ix_tup (pv 1) pe_int (fun _ _ => rfl)) (nomark _)) (pw_or1 (pt_cmpR (op_neD hr.units) (pe_cmpR o_isN (pe_ix ix_tup (pv 0) pe_int (fun _ _ => rfl)) pe_non (nomark _)) (pe_cmpR o_isN (pe_ix ix_tup (pv 1) pe_int (fun _ _ => rfl)) pe_non (nomark _)) (nomark _))))) (pss_one (ps_ret pe_non)) pss_nil)
      (pss_one (ps_ret (pe_ifExp (pt_cmpR o_isN (pe_ix ix_tup (pv 0) pe_int (fun _ _ => rfl)) pe_non (nomark _)) (pe_lst pa_nil) (pe_df D_bindings_of hr (pa_cons (pe_ix ix_tup (pv 0) pe_int (fun _ _ => rfl)) (pa_cons (pe_ix ix_tup (pv 1) pe_int (fun _ _ => rfl)) pa_nil))))))), ?_⟩
  obtain ⟨s1, y1, rfl, hs1, _, he1⟩ := hp.len.2.2 t1
  obtain ⟨s2, y2, rfl, hs2, _, he2⟩ := hv.len.2 t2
  unfold mchC at q
  have p1 : Ed K (tOp (rIxT K) (tVar 0) (tC (.int ((1 : Nat) : Int)))) (L2.start ["pattern", "value"] [v, v2]) H (nth (conD s1 y1) 1) := ed_nth 1 (ed_var rfl hd) rfl (by simp)
  have p2 : Ed K (tOp (rIxT K) (tVar 0) (tC (.int ((2 : Nat) : Int)))) (L2.start ["pattern", "value"] [v, v2]) H (nth (conD s1 y1) 2) := ed_nth 2 (ed_var rfl hd) rfl (by simp)
  have u1 : Ed K (tOp (rIxT K) (tVar 1) (tC (.int ((1 : Nat) : Int)))) (L2.start ["pattern", "value"] [v, v2]) H (nth (conD s2 y2) 1) := ed_nth 1 (ed_var rfl hd2) rfl (by simp)
  have u2 : Ed K (tOp (rIxT K) (tVar 1) (tC (.int ((2 : Nat) : Int)))) (L2.start ["pattern", "value"] [v, v2]) H (nth (conD s2 y2) 2) := ed_nth 2 (ed_var rfl hd2) rfl (by simp)
  refine q_when (et_or (et_cmp (ed_ne p1 u1 (wf_shaped (n := 0) hs1) (wf_shaped (n := 0) hs2))) fun _ => et_cmp (ed_ne (ed_isN p2) (ed_isN u2) (wf_shaped (n := 0) rfl) (wf_shaped (n := 0) rfl))) (fun hc H1 e1 => ?_) (fun hc H1 e1 => ?_)
  · simp only [if_pos hc] at q
    exact sn_ret en_non fun v H2 e2 hv fv => q v H2 (e1.trans e2) hv (fv.back e1)
  · simp only [if_neg (neg_of hc)] at q
    have hc' := (Bool.or_eq_false_iff.mp hc).2
    refine sn_ret (ret_ifN (o1 := some []) (et_cmp (ed_isN (p2.mono e1))) (fun _ => en_lst ea_nilD) fun hn => en_call2 (f := fun p v => oD (rec p v)) (p2.mono e1) (u2.mono e1) ⟨?_, ?_⟩) fun v H2 e2 hv fv => q v H2 (e1.trans e2) hv (fv.back e1)
    · rcases he1 with rfl | h
      · cases hn
      · exact h
    · rcases he2 with rfl | h
      · exfalso
        have hn' : isNone (nth (conD s1 _) 2) = false := hn
        rw [hn'] at hc'
        have h0 : (!PyData.eqv (.bool false) (.bool true)) = true := by decide +kernel
        rw [show isNone (nth (conD s2 .none) 2) = true from rfl, h0] at hc'
        cases hc'
      · exact h
theorem bnds_none : bnds none := fun _ h => by cases h
theorem bnds_nil : bnds (some []) := fun _ h => by
  cases h
  exact ⟨rfl, rfl⟩
theorem sc_matched_parts : FnScope ["patterns", "values", "found", "pattern", "value", "bound"] ["patterns", "values"] (defScope s58) := ⟨rfl, rfl, rfl, by decide +kernel, rfl, by decide +kernel, by decide +kernel⟩
def takeL (rec : PyData → PyData → Option (List PyData)) (ps vs : List PyData) (i : Nat) : Option (List PyData) := mchL rec (ps.take i) (vs.take i)
theorem mchL_app (rec : PyData → PyData → Option (List PyData)) : ∀ (ps vs qs us : List PyData), ps.length = vs.length → mchL rec (ps ++ qs) (vs ++ us) = match mchL rec ps vs with
    | none => none
    | some b => match mchL rec qs us with
      | none => none
      | some c => some (b ++ c)
  | [], [], qs, us, _ => by
    have h0 : mchL rec [] [] = some [] := by simp [mchL]
    rw [List.nil_append, List.nil_append, h0]
    cases mchL rec qs us <;> simp
  | p :: ps, v :: vs, qs, us, h => by
    have ih := mchL_app rec ps vs qs us (by simpa using h)
    rw [List.cons_append, List.cons_append, mchL, mchL, ih]
    cases rec p v with
    | none => rfl
    | some b =>
      cases mchL rec ps vs with
      | none => rfl
      | some c =>
        cases mchL rec qs us with
        | none => rfl
        | some e => simp
  | [], _ :: _, _, _, h => by cases h
  | _ :: _, [], _, _, h => by cases h
theorem matched_parts_step (T : Tx K mg) (n k : Nat) (rec : PyData → PyData → Option (List PyData)) (hrec : ∀ p v, (∃ m, n = m + 1 ∧ PatD m p) → ValQ v → ∀ ks, rec p v = some ks → frzAll ks = true ∧ ks.length ≤ 4 ^ 4) (D_bindings_of : Df P w K mg base CX0 k "bindings_of" ["pattern", "value"] (sn2 K (fun p v => oD (rec p v)) fun p v => (∃ m, n = m + 1 ∧ PatD m p) ∧ ValQ v)) :
    Df P w K mg base CX0 (k + 1) "matched_parts" ["patterns", "values"] (sn2 K (fun p v => oD (mchP rec (kids p) (kids v))) fun p v => ∃ ps vs, p = .tuple ps ∧ v = .tuple vs ∧ ps.length ≤ 4 ∧ vs.length ≤ 4 ∧ (∀ x ∈ ps, ∃ m, n = m + 1 ∧ PatD m x) ∧ ∀ x ∈ vs, ValQ x) := by
  refine df_ok T.f_matched_parts T.g_matched_parts sc_matched_parts len2n (fun _ _ _ _ _ _ us hl => match us, hl with | [_, _], _ => rfl) fun cdv A outer s H vs Q E hr h => ?_
  obtain ⟨v, d, v2, d2, rfl, hd, hd2, ⟨ps, us, rfl, rfl, hl1, hl2, hps, hus⟩, q⟩ := h
  have nd := sc_matched_parts.nd
  refine ⟨_, (pss_cons (ps_if (pt_cmpR (op_neD hr.units) (pe_callB c_len (by rfl) T.n_len (by decide +kernel) (pa_cons (pv 0) pa_nil)) (pe_callB c_len (by rfl) T.n_len (by decide +kernel) (pa_cons (pv 1) pa_nil)) (nomark _)) (pss_one (ps_ret pe_non)) pss_nil)
      (pss_cons (ps_set (i := 2) nd rfl (Or.inl rfl) (pe_lst pa_nil))
      (pss_cons (ps_for PassesOwn.never rfl (RZ.pi_zipA rfl T.n_zip (pa_cons (pv 0) (pa_cons (pv 1) pa_nil))) (pg_tup rfl (pgs_cons (pg_name (i := 3) nd rfl (Or.inl rfl)) (pgs_cons (pg_name (i := 4) nd rfl (Or.inl rfl)) pgs_nil)))
      (pss_cons (ps_set (i := 5) nd rfl (Or.inl rfl) (pe_df D_bindings_of hr (pa_cons (pv 3) (pa_cons (pv 4) pa_nil))))
      (pss_cons (ps_if (pt_cmpR o_isN (pv 5) pe_non (nomark _)) (pss_one (ps_ret pe_non)) pss_nil)
      (pss_one (ps_expr (pe_bm PySem.F.plainAttrs_list PySem.F.slot_list_extend PySem.F.type_list_extend mt_extend (pv 2) (pa_cons (pv 5) pa_nil)))))))
      (pss_one (ps_ret (pv 2)))))), ?_⟩
  have q' : ∀ r H', Ex H H' → Dn K H' r (oD (mchP rec ps us)) → Fr H r → Q r H' := q
  unfold mchP at q'
  refine q_when (et_cmp (Ed.is (ed_ne (ed_len (ed_var rfl hd) rfl (by omega)) (ed_len (ed_var rfl hd2) rfl (by omega)) (wf_shaped (n := 0) rfl) (wf_shaped (n := 0) rfl)) (congrArg PyData.bool (show _ = !decide ((ps.length : Int) = (us.length : Int)) by simp only [PyData.eqv]; rw [Bool.beq_eq_decide_eq])))) (fun hc H1 e1 => ?_) (fun hc H1 e1 => ?_)
  · simp only [if_pos hc] at q'
    exact sn_ret en_non fun v H2 e2 hv fv => q' v H2 (e1.trans e2) hv (fv.back e1)
  · simp only [if_neg (neg_of hc)] at q'
    have hlen : ps.length = us.length := by
      have := of_decide_eq_true (show decide ((ps.length : Int) = (us.length : Int)) = true by simpa using hc)
      omega
    refine q_asgL (el_lst ea_nil (by simp)) fun p1 H2 hp1 e2 hl1 => ?_
    obtain ⟨a, xs, rfl, hsa, hxa⟩ := dp_tup hd
    obtain ⟨b, ys, rfl, hsb, hyb⟩ := dp_tup hd2
    have E2 := e1.trans e2
    have hp0 := fresh_back e1 hp1
    refine ⟨.ref a, rfl, .ref b, rfl, a, b, xs, ys, rfl, .inr ⟨ex_t E2 hsa, ex_t E2 hsb, RZ.for_zipT (xs := xs) (ys := ys) (by rw [dps_len hxa, dps_len hyb, hlen]) (fun i σ' H' => (∃ x3 x4 x5, σ' = [some (.ref a), some (.ref b), some (.ref p1), x3, x4, x5]) ∧ Ex H H' ∧ ∃ acc ks, H' p1 = some (.lst acc) ∧ DpAll K H' acc ks ∧ mchL rec (ps.take i) (us.take i) = some ks ∧ frzAll ks = true ∧ ks.length ≤ 256 * i) ?_ ?_ ?_ ?_⟩⟩
    · exact ⟨⟨_, _, _, rfl⟩, E2, [], [], hl1, .nil, rfl, rfl, by simp⟩
    · exact fun i σ' H' hh => ⟨ex_t hh.2.1 hsa, ex_t hh.2.1 hsb⟩
    · rintro i x y TT σ' H' hx hy ⟨⟨x3, x4, x5, rfl⟩, E', acc, ks, hacc, hda, hm, hfk, hkl⟩ hTT
      have eT : Ex H' (upd H' TT (.tup [x, y])) := Ex.new hTT
      obtain ⟨di, hdi, hxi⟩ := dps_of i hxa hx
      obtain ⟨ui, hui, hyi⟩ := dps_of i hyb hy
      have hpi := hps di (List.mem_of_getElem? hdi)
      have hvi := hus ui (List.mem_of_getElem? hui)
      have hi4 : i < 4 := by
        have := (List.getElem?_eq_some_iff.mp hdi).1
        omega
      refine gp_pair (SqT.of upd_same) ?_
      refine qn_asg (en_call2 (f := fun p v => oD (rec p v)) (ed_var rfl (dpMono (E'.trans eT) _ _ hxi)) (ed_var rfl (dpMono (E'.trans eT) _ _ hyi)) ⟨hpi, hvi⟩) fun v5 H5 e5 hv5 fv5 => ?_
      have happ : mchL rec (ps.take (i + 1)) (us.take (i + 1)) = match rec di ui with
          | none => none
          | some c => some (ks ++ c) := by
        rw [take_succ hdi, take_succ hui, mchL_app _ _ _ _ _ (by simp [List.length_take, hlen]), hm, mchL]
        cases rec di ui <;> simp [mchL]
      have E5 := (E'.trans eT).trans e5
      cases hrd : rec di ui with
      | none =>
        rw [hrd] at hv5 happ
        refine q_when (b := true) (et_cmp (K := K) (ed_isN (d := .none) (ed_var rfl hv5.dp))) (fun _ H6 e6 => ?_) (fun z => by cases z)
        have hall : mchL rec ps us = none := by
          have h1 : ps = ps.take (i + 1) ++ ps.drop (i + 1) := (List.take_append_drop _ _).symm
          have h2 : us = us.take (i + 1) ++ us.drop (i + 1) := (List.take_append_drop _ _).symm
          rw [h1, h2, mchL_app _ _ _ _ _ (by simp [List.length_take, hlen]), happ]
        rw [hall] at q'
        exact sn_ret (K := K) (d := .none) en_non fun v H7 e7 hv fv => q' v H7 ((E5.trans e6).trans e7) hv (fv.back (E5.trans e6))
      | some cs =>
        rw [hrd] at hv5 happ
        obtain ⟨hfc, hcl⟩ := hrec di ui hpi hvi cs hrd
        refine q_when (b := false) (et_cmp (K := K) (ed_isN (d := .list cs) (ed_var rfl hv5.dp))) (fun z => by cases z) (fun _ H6 e6 => ?_)
        have eA := (eT.trans e5).trans e6
        have hacc6 := eA _ _ hacc
        refine ext_turn (as := ks) (bs := cs) hacc6 (dpsMono eA _ _ hda) hfk hfc (by simp at hcl; omega) (ev_var rfl) (env_var rfl (hv5.mono e6)) fun acc' H7 h7 hd7 k7 => ?_
        refine ⟨⟨_, _, _, rfl⟩, kp_ex (E5.trans e6) hp0 k7, acc', ks ++ cs, h7, hd7, happ, frz_app hfk hfc, by simp at hcl ⊢; omega⟩
    · rintro σ' H' ⟨⟨x3, x4, x5, rfl⟩, E', acc, ks, hacc, hda, hm, hfk, hkl⟩
      rw [dps_len hxa, List.take_length, hlen, List.take_length] at hm
      rw [hm] at q'
      exact s_retVar rfl (q' _ _ E' (.inr ⟨p1, acc, _, rfl, hacc, hda, rfl⟩) (fun z h => by cases h; exact hp0))
end
end K25

end

section
set_option maxHeartbeats 4000000
namespace K25
open PySem PySem.Spec PyProof.Rows L2 Evl
/-- a list of names with values -/
def Bnd (c : Nat) (ks : List PyData) : Prop := ks.length ≤ c ∧ ∀ x ∈ ks, ∃ s u, x = .tuple [.str s, u] ∧ sOk s ∧ ValQ u ∧ s.length ≤ 20
theorem Bnd.frz {c : Nat} {ks : List PyData} (h : Bnd c ks) : frzAll ks = true := frz_all fun x hx => by
  obtain ⟨s, u, rfl, _, hu, _⟩ := h.2 x hx
  simp [K25.frz, frzAll, hu.frz]
theorem Bnd.wf {c : Nat} {ks : List PyData} (h : Bnd c ks) (hc : c ≤ 1000 := by decide) : K25.wf 20 (.list ks) = true := wf_lst_mk (Nat.le_trans h.1 hc) fun x hx => by
  obtain ⟨s, u, rfl, hs, hu, _⟩ := h.2 x hx
  refine wf_tup_mk (by simp) fun y hy => ?_
  simp only [List.mem_cons, List.mem_nil_iff, or_false] at hy
  rcases hy with rfl | rfl
  · exact wf_any _ hs
  · exact hu.wf
theorem Bnd.mono {c c' : Nat} {ks : List PyData} (h : Bnd c ks) (hc : c ≤ c') : Bnd c' ks := ⟨Nat.le_trans h.1 hc, h.2⟩
theorem mchL_bnd {rec : PyData → PyData → Option (List PyData)} {c : Nat} : ∀ (ps vs : List PyData), (∀ p ∈ ps, ∀ v ∈ vs, ∀ ks, rec p v = some ks → Bnd c ks) → ∀ ks, mchL rec ps vs = some ks → Bnd (ps.length * c) ks
  | [], vs, h, ks, e => by
    have h0 : mchL rec [] vs = some [] := by cases vs <;> simp [mchL]
    rw [h0] at e
    cases e
    exact ⟨by simp, fun x hx => by cases hx⟩
  | p :: ps, [], h, ks, e => by
    have h0 : mchL rec (p :: ps) [] = some [] := by simp [mchL]
    rw [h0] at e
    cases e
    exact ⟨by simp, fun x hx => by cases hx⟩
  | p :: ps, v :: vs, h, ks, e => by
    rw [mchL] at e
    cases h1 : rec p v with
    | none =>
      rw [h1] at e
      cases e
    | some b =>
      rw [h1] at e
      cases h2 : mchL rec ps vs with
      | none =>
        rw [h2] at e
        cases e
      | some d =>
        rw [h2] at e
        cases e
        have a1 := h p List.mem_cons_self v List.mem_cons_self b h1
        have a2 := mchL_bnd ps vs (fun x hx y hy => h x (List.mem_cons_of_mem _ hx) y (List.mem_cons_of_mem _ hy)) d h2
        refine ⟨?_, fun x hx => ?_⟩
        · have := a1.1
          have := a2.1
          rw [List.length_append, List.length_cons, Nat.add_mul]
          omega
        · rcases List.mem_append.mp hx with hx | hx
          · exact a1.2 x hx
          · exact a2.2 x hx
theorem name_short {s : Str} (h : nameD (.str s) = true) : s.length ≤ 20 := by
  have h2 : (letteredS s sSMALL && !decide (s ∈ kws1)) = true := h
  have h3 := (Bool.and_eq_true_iff.mp h2).1
  unfold letteredS at h3
  have h4 := (Bool.and_eq_true_iff.mp (Bool.and_eq_true_iff.mp h3).1).2
  exact of_decide_eq_true h4
theorem bindD_inj {s t : Str} (h : bindD s = bindD t) : s = t := by
  unfold bindD at h
  injection h with h
  injection h with _ h
  injection h with h _
  injection h
theorem PatD.bname {n : Nat} {d : PyData} (h : PatD n d) (ht : tagOf d = "bind") : ∀ s, d = bindD s → s.length ≤ 20 := by
  cases h with
  | bindP _ s h hn => exact fun t e => by rw [← bindD_inj e]; exact name_short hn
  | con0 => exact absurd ht (show ¬(Str.ofString "con" = Str.ofString "bind") by decide +kernel)
  | con1 => exact absurd ht (show ¬(Str.ofString "con" = Str.ofString "bind") by decide +kernel)
  | tupP => exact absurd ht (show ¬(Str.ofString "tuple" = Str.ofString "bind") by decide +kernel)
  | anyP => exact absurd ht (show ¬(Str.ofString "any" = Str.ofString "bind") by decide +kernel)
  | intP => exact absurd ht (show ¬(Str.ofString "int" = Str.ofString "bind") by decide +kernel)
  | boolP => exact absurd ht (show ¬(Str.ofString "bool" = Str.ofString "bind") by decide +kernel)
  | unitP => exact absurd ht (show ¬(Str.ofString "unit" = Str.ofString "bind") by decide +kernel)
theorem mchF_bnd {rec : PyData → PyData → Option (List PyData)} {n c : Nat} (hc : 1 ≤ c) {p v : PyData} (hp : PatD n p) (hv : ValQ v) (hr : ∀ p v, (∃ m, n = m + 1 ∧ PatD m p) → ValQ v → ∀ ks, rec p v = some ks → Bnd c ks ∧ 1 ≤ n) : ∀ ks, mchF rec p v = some ks → Bnd (if n = 0 then 1 else 4 * c) ks := by
  intro ks e
  have hc2 : 1 ≤ (if n = 0 then 1 else 4 * c) := by split <;> omega
  unfold mchF at e
  split at e
  · cases e
    exact ⟨Nat.zero_le _, fun x hx => by cases hx⟩
  split at e
  · rename_i ht
    cases e
    have hnm := hp.bname (of_decide_eq_true ht)
    obtain ⟨s, rfl, hs⟩ := hp.len.1 (of_decide_eq_true ht)
    exact ⟨hc2, fun x hx => by simp at hx; subst hx; exact ⟨s, v, rfl, hs, hv, hnm s rfl⟩⟩
  split at e
  · cases e
  rename_i htv
  have htv' : tagOf p = tagOf v := by simpa using htv
  split at e
  · rename_i ht
    have ht' := of_decide_eq_true ht
    obtain ⟨s1, y1, rfl, hs1, _, he1⟩ := hp.len.2.2 ht'
    obtain ⟨s2, y2, rfl, hs2, _, he2⟩ := hv.len.2 (htv'.symm.trans ht')
    unfold mchC at e
    split at e
    · cases e
    split at e
    · cases e
      exact ⟨Nat.zero_le _, fun x hx => by cases hx⟩
    · rename_i hcc hn
      have hn1 : isNone y1 = false := by
        have hn3 : ¬ isNone y1 = true := hn
        simpa using hn3
      rcases he1 with rfl | h1
      · cases hn1
      rcases he2 with rfl | h2
      · exfalso
        simp only [Bool.or_eq_true, not_or] at hcc
        apply hcc.2
        show (!PyData.eqv (.bool (isNone y1)) (.bool true)) = true
        rw [hn1]
        decide +kernel
      · obtain ⟨b, hb⟩ := hr _ _ h1 h2 ks e
        refine b.mono ?_
        rw [if_neg (by omega)]
        omega
  split at e
  · rename_i ht
    have ht' := of_decide_eq_true ht
    obtain ⟨m, ps, rfl, rfl, _, hl4, hps⟩ := hp.len.2.1 ht'
    obtain ⟨us, rfl, _, _, hus⟩ := hv.len.1 (htv'.symm.trans ht')
    unfold mchP at e
    split at e
    · cases e
    · have := mchL_bnd (c := c) ps us (fun x hx y hy ks hk => (hr x y ⟨m, rfl, hps x hx⟩ (hus y hy) ks hk).1) ks e
      refine this.mono ?_
      rw [if_neg (by omega)]
      exact Nat.mul_le_mul_right _ hl4
  split at e
  · cases e
    exact ⟨Nat.zero_le _, fun x hx => by cases hx⟩
  · cases e
theorem mch_bnd : ∀ (n : Nat) (p v : PyData), PatD n p → ValQ v → ∀ ks, mch (n + 1) p v = some ks → Bnd (4 ^ n) ks
  | 0, p, v, hp, hv, ks, e => by
    have := mchF_bnd (rec := mch 0) (c := 1) (Nat.le_refl 1) hp hv (fun p v h => by obtain ⟨m, h, _⟩ := h; omega) ks e
    simpa using this
  | n + 1, p, v, hp, hv, ks, e => by
    have := mchF_bnd (rec := mch (n + 1)) (c := 4 ^ n) (Nat.one_le_pow _ _ (by decide)) hp hv (fun p v h hv ks e => by
      obtain ⟨m, h, hm⟩ := h
      have : m = n := by omega
      subst this
      exact ⟨mch_bnd m p v hm hv ks e, by omega⟩) ks e
    rw [if_neg (by omega)] at this
    rw [Nat.pow_succ, Nat.mul_comm]
    exact this
section
variable {P : Program} {w : World} {K : PySem.W.Frag} {mg : Str → Option Value} {base : Heap}
theorem sc_bindings_of : FnScope ["pattern", "value", "kind"] ["pattern", "value"] (defScope s56) := ⟨rfl, rfl, rfl, by decide +kernel, rfl, by decide +kernel, by decide +kernel⟩
theorem bindings_of_step (T : Tx K mg) (n k : Nat) (rec : PyData → PyData → Option (List PyData)) (hn : n ≤ 8) (hrec : ∀ p v, (∃ m, n = m + 1 ∧ PatD m p) → ValQ v → ∀ ks, rec p v = some ks → frzAll ks = true ∧ ks.length ≤ 4 ^ 4) (D_bindings_of : Df P w K mg base CX0 k "bindings_of" ["pattern", "value"] (sn2 K (fun p v => oD (rec p v)) fun p v => (∃ m, n = m + 1 ∧ PatD m p) ∧ ValQ v)) :
    Df P w K mg base CX0 (k + 2) "bindings_of" ["pattern", "value"] (sn2 K (fun p v => oD (mchF rec p v)) fun p v => PatD n p ∧ ValQ v) := by
  have D_matched_con := matched_con_step T n k rec D_bindings_of
  have D_matched_parts := matched_parts_step T n k rec hrec D_bindings_of
  refine df_ok T.f_bindings_of T.g_bindings_of sc_bindings_of len2n (fun _ _ _ _ _ _ us hl => match us, hl with | [_, _], _ => rfl) fun cdv A outer s H vs Q E hr h => ?_
  obtain ⟨v, d, v2, d2, rfl, hd, hd2, ⟨hp, hv⟩, q⟩ := h
  have nd := sc_bindings_of.nd
  refine ⟨_, (pss_cons (ps_set (i := 2) nd rfl (Or.inl rfl) (pe_ix ix_tup (pv 0) pe_int (fun _ _ => rfl)))
      (pss_cons (ps_if (pt_cmpR (op_eqD hr.units) (pv 2) pe_str (nomark _)) (pss_one (ps_ret (pe_lst pa_nil))) pss_nil)
      (pss_cons (ps_if (pt_cmpR (op_eqD hr.units) (pv 2) pe_str (nomark _)) (pss_one (ps_ret (pe_lst (pa_cons (pe_tup (pa_cons (pe_ix ix_tup (pv 0) pe_int (fun _ _ => rfl)) (pa_cons (pv 1) pa_nil))) pa_nil)))) pss_nil)
      (pss_cons (ps_if (pt_cmpR (op_neD hr.units) (pv 2) (pe_ix ix_tup (pv 1) pe_int (fun _ _ => rfl)) (nomark _)) (pss_one (ps_ret pe_non)) pss_nil)
      (pss_cons (ps_if (pt_cmpR (op_eqD hr.units) (pv 2) pe_str (nomark _)) (pss_one (ps_ret (pe_df D_matched_con hr (pa_cons (pv 0) (pa_cons (pv 1) pa_nil))))) pss_nil)
      (pss_cons (ps_if (pt_cmpR (op_eqD hr.units) (pv 2) pe_str (nomark _)) (pss_one (ps_ret (pe_df D_matched_parts hr (pa_cons (pe_ix ix_tup (pv 0) pe_int (fun _ _ => rfl)) (pa_cons (pe_ix ix_tup (pv 1) pe_int (fun _ _ => rfl)) pa_nil))))) pss_nil)
      (pss_one (ps_ret (pe_ifExp (pt_cmpR (op_eqD hr.units) (pv 0) (pv 1) (nomark _)) (pe_lst pa_nil) pe_non))))))))), ?_⟩
  obtain ⟨r1, ed1, hs1, hl1⟩ := hp.word
  obtain ⟨r2, ed2, hs2, hl2⟩ := hv.word
  have q' : ∀ r H', Ex H H' → Dn K H' r (oD (mchF rec d d2)) → Fr H r → Q r H' := q
  unfold mchF at q'
  refine qd_asg (ed_ix0 (ed_var rfl hd) ed1) fun vk H1 e1 hvk => ?_
  have hvk' := dp_str hvk
  subst hvk'
  refine q_when (et_str (K := K) (ed_var rfl (.str _)) hs1) (fun hc H2 e2 => ?_) (fun hc H2 e2 => ?_)
  · simp only [if_pos hc] at q'
    exact sn_ret (en_lst ea_nilD) fun v H3 e3 hv fv => q' v H3 ((e1.trans e2).trans e3) hv (fv.back (e1.trans e2))
  simp only [if_neg (neg_of hc)] at q'
  have E2 := e1.trans e2
  clear hc
  refine q_when (et_str (K := K) (ed_var rfl (.str _)) hs1) (fun hc H3 e3 => ?_) (fun hc H3 e3 => ?_)
  · simp only [if_pos hc] at q'
    obtain ⟨s, rfl, hs⟩ := hp.len.1 (of_decide_eq_true hc)
    exact sn_ret (en_lst (ea_consD (ed_tup (ea_consD (ed_nth 1 (ed_var rfl (dpMono (E2.trans e3) _ _ hd)) rfl (by simp)) (ea_consD (ed_var rfl (dpMono (E2.trans e3) _ _ hd2)) ea_nilD))) ea_nilD)) fun v H4 e4 hv fv => q' v H4 ((E2.trans e3).trans e4) hv (fv.back (E2.trans e3))
  simp only [if_neg (neg_of hc)] at q'
  have E3 := E2.trans e3
  clear hc
  refine q_when (et_strs (K := K) (ed_var rfl (.str _)) (ed_ix0 (ed_var rfl (dpMono E3 _ _ hd2)) ed2) hs1 hs2) (fun hc H4 e4 => ?_) (fun hc H4 e4 => ?_)
  · simp only [if_pos hc] at q'
    exact sn_ret en_non fun v H5 e5 hv fv => q' v H5 ((E3.trans e4).trans e5) hv (fv.back (E3.trans e4))
  simp only [if_neg (neg_of hc)] at q'
  have E4 := E3.trans e4
  have htv : tagOf d = tagOf d2 := by simpa using hc
  clear hc
  have hd4 := dpMono E4 _ _ hd
  have hd24 := dpMono E4 _ _ hd2
  refine q_when (et_str (K := K) (ed_var rfl (.str _)) hs1) (fun hc H5 e5 => ?_) (fun hc H5 e5 => ?_)
  · simp only [if_pos hc] at q'
    have ht := of_decide_eq_true hc
    exact sn_ret (en_call2 (f := fun p v => oD (mchC rec p v)) (ed_var rfl (dpMono e5 _ _ hd4)) (ed_var rfl (dpMono e5 _ _ hd24)) ⟨hp, hv, ht, htv.symm.trans ht⟩) fun v H6 e6 hv fv => q' v H6 ((E4.trans e5).trans e6) hv (fv.back (E4.trans e5))
  simp only [if_neg (neg_of hc)] at q'
  have E5 := E4.trans e5
  have hd5 := dpMono e5 _ _ hd4
  have hd25 := dpMono e5 _ _ hd24
  clear hc
  refine q_when (et_str (K := K) (ed_var rfl (.str _)) hs1) (fun hc H6 e6 => ?_) (fun hc H6 e6 => ?_)
  · simp only [if_pos hc] at q'
    have ht := of_decide_eq_true hc
    obtain ⟨m, ps, rfl, rfl, _, hl4, hps⟩ := hp.len.2.1 ht
    obtain ⟨us, rfl, _, hu4, hus⟩ := hv.len.1 (htv.symm.trans ht)
    exact sn_ret (en_call2 (f := fun p v => oD (mchP rec (kids p) (kids v))) (ed_nth 1 (ed_var rfl (dpMono e6 _ _ hd5)) rfl (by simp)) (ed_nth 1 (ed_var rfl (dpMono e6 _ _ hd25)) rfl (by simp)) ⟨ps, us, rfl, rfl, hl4, hu4, fun x hx => ⟨m, rfl, hps x hx⟩, hus⟩) fun v H7 e7 hv fv => q' v H7 ((E5.trans e6).trans e7) hv (fv.back (E5.trans e6))
  simp only [if_neg (neg_of hc)] at q'
  have E6 := E5.trans e6
  exact sn_ret (ret_ifN (o1 := some []) (o2 := none) (et_cmp (ed_eq (ed_var rfl (dpMono e6 _ _ hd5)) (ed_var rfl (dpMono e6 _ _ hd25)) (wf_shaped (n := 18) (wf_le (by omega) hp.wf)) (wf_shaped (n := 18) hv.wf))) (fun _ => en_lst ea_nilD) fun _ => en_non) fun v H7 e7 hv fv => q' v H7 (E6.trans e7) hv (fv.back E6)
theorem ok_bindings_of (T : Tx K mg) : ∀ n : Nat, n ≤ 4 → Df P w K mg base CX0 (2 * n + 3) "bindings_of" ["pattern", "value"] (sn2 K (fun p v => oD (mch (n + 1) p v)) fun p v => PatD n p ∧ ValQ v)
  | 0, _ => bindings_of_step T 0 1 (mch 0) (by decide) (fun p v h => by obtain ⟨m, h, _⟩ := h; omega) (by
      obtain ⟨fd, F⟩ := T.f_bindings_of
      refine ⟨fd, F.ok sc_bindings_of len2n fun cdv A outer s H vs Q E hr h => ?_, F.bindsN (fun _ _ _ _ _ _ us hl => match us, hl with | [_, _], _ => rfl), F.kp, T.g_bindings_of⟩
      obtain ⟨_, _, _, _, _, _, _, ⟨⟨m, h, _⟩, _⟩, _⟩ := h
      exact absurd h (by omega))
  | n + 1, h => bindings_of_step T (n + 1) (2 * n + 3) (mch (n + 1)) (by omega) (fun p v hp hv ks e => by
      obtain ⟨m, hm, hp⟩ := hp
      have : m = n := by omega
      subst this
      have b := mch_bnd m p v hp hv ks e
      exact ⟨b.frz, Nat.le_trans b.1 (Nat.pow_le_pow_right (by decide) (by omega))⟩) ((ok_bindings_of T n (by omega)).imp fun vs H Q E hh => by
      obtain ⟨v, d, v2, d2, rfl, hd, hd2, ⟨⟨m, e, hm⟩, hv⟩, q⟩ := hh
      have : m = n := by omega
      subst this
      exact ⟨v, d, v2, d2, rfl, hd, hd2, ⟨hm, hv⟩, q⟩)
end
end K25

end

section
set_option maxHeartbeats 4000000
namespace PySem
open AutoSeq1 (wpAny_loadPart')
/-- enumerate(tuple) begins -/
theorem k25_meets_enumT (t : Addr) (its : Array Value) (o : Obj) (hc : o.cls = .type "tuple") (n : Nat) (hd : o.data = .seq its n) :
    Meets (Builtin.«enumerate.__new__» ⟨[.type "enumerate", .ref t], []⟩) (fun _ R s => s.heap.get? t = some o ∧
      R (.ok (.ret (.ref (s.heap.push { cls := .type "tuple_iterator", data := .fields #[.ref t, .int 0 0] }).objs.size)))
        { s with heap := (s.heap.push { cls := .type "tuple_iterator", data := .fields #[.ref t, .int 0 0] }).push { cls := .type "enumerate", data := .fields #[.none, .bool false, .ref s.heap.objs.size, rawInt 0, .none, .none] } }) :=
  .of_wp fun prog w A R s h => by
    obtain ⟨hp, g, dd, tk, os⟩ := s
    obtain ⟨hl, h⟩ := h
    have hsub := sub_enumerate
    have hT : Heap.IsTuple (Shared.heap ⟨hp, g, dd, tk, os⟩) t its := ⟨_, hl, hc, n, hd⟩
    obtain ⟨c0, d0, dt0, sl0⟩ := o
    cases hc
    cases hd
    wp_walk using wpAny_loadPart' hl
    refine wpAny_stack_any fun st => wpAny_pure ?_
    split
    · rename_i c _ _ _ _ _
      cases (c == Value.type "enumerate") <;>
      · wp_walk using wpAny_loadPart' hl, wpAny_pyIter_tuple hT
        exact ⟨_, rfl, h⟩
    · wp_walk using wpAny_loadPart' hl, wpAny_pyIter_tuple hT
      exact ⟨_, rfl, h⟩
end PySem
namespace PySem
section
variable {prog : Program} {w : World} {A : Around} {E : Value → Shared → Prop} {s : Shared}
theorem k25_call_enumT {t : Addr} {its : Array Value} {Q : Value → Shared → Prop} (ht : s.heap.IsTuple t its)
    (k : ∀ g, IsEnum g (s.heap.objs.size + 1) s.heap.objs.size 0 .none → g.IsTupleIter s.heap.objs.size t 0 → (∀ b o, s.heap.get? b = some o → g.get? b = some o) → Q (.ref (s.heap.objs.size + 1)) { s with heap := g }) :
    wpAny (model prog w) A (call (.type "enumerate") [.ref t]) Q E s := by
  obtain ⟨o, ho, hc, n, hd⟩ := ht
  refine callType_new F.called_enumerate (by decide) (F.typeCall_enumerate_1 _) (F.newCall_enumerate_1 _) (fun obj => F.args_object_init_2 obj _) F.entry_enumerate_new (k25_meets_enumT t its o hc n hd) ⟨ho, ?_⟩
  have sz : (s.heap.push { cls := .type "tuple_iterator", data := .fields #[.ref t, .int 0 0] }).objs.size = s.heap.objs.size + 1 := Heap.size_push ..
  have at1 := Heap.get?_push_size (s.heap.push { cls := .type "tuple_iterator", data := .fields #[.ref t, .int 0 0] }) (o := { cls := .type "enumerate", data := .fields #[.none, .bool false, .ref s.heap.objs.size, rawInt 0, .none, .none] }) rfl
  rw [sz] at at1
  show _ ∧ _
  rw [sz]
  exact ⟨⟨_, at1, rfl⟩, k _ at1 ⟨_, Heap.get?_push_of_some _ (Heap.get?_push_size _ rfl), rfl, rfl⟩ fun b u x => Heap.get?_push_of_some _ (Heap.get?_push_of_some _ x)⟩
theorem k25_draws {A : Around} (hh : A.handled = none) (it t : Addr) (hne : t ≠ it) (its : Array Value) : Draws prog w A it [it, t] its.size (fun i v => its[i]? = some v) (fun i h => h.IsTupleIter it t i ∧ h.IsTuple t its) where
  live := fun _ _ st => by
    obtain ⟨⟨o, ho, _⟩, _⟩ := st
    exact ⟨o, ho⟩
  frame := fun _ _ _ st k => ⟨st.1.at fun o z => k it (by simp) o z, st.2.at fun o z => k t (by simp) o z⟩
  item := fun i s Q E hi st k => RZ.nextOf_tuple_item st.1 st.2 (x := its[i]) (by simp [hi]) fun g hg sb => k _ g s.toks (by simp [hi]) ⟨hg, st.2.extBut sb.extBut hne⟩ sb
  done := fun s Q E st k => RZ.nextOf_tuple_end hh st.1 st.2 (by simp) fun g u sb hu => k g u sb hu
end
end PySem
namespace K25
open PySem PySem.Spec PyProof.Rows L2 Evl
/-- the tuple at a, each item in a new pair -/
def IteT (K : PySem.W.Frag) (a : Addr) : It where
  go := fun i H => ∃ xs x, SqT K H a xs ∧ xs[i]? = some x
  yld := fun i H v H' => ∃ T x, v = .ref T ∧ H T = none ∧ H' = upd H T (.tup [.int (i : Nat), x]) ∧ ∀ xs, SqT K H a xs → xs[i]? = some x
  stop := fun i H => ∃ xs : List V, SqT K H a xs ∧ xs.length = i
theorem turn_enumT {P : Program} {w : World} {K : PySem.W.Frag} {es : List Expr} {m : Nat} {q : Pos} (a e it : Addr) (hai : a ≠ it) (hae : a ≠ e) :
    Turn P w K (.Tuple es m q) (IteT K a) [e, it] e (fun i h => (∃ u, IsEnum h e it ((i : Nat) : Int) u) ∧ h.IsTupleIter it a i ∧ e ≠ it) where
  mem := List.mem_cons_self
  obj := fun i h st b hb => by
    obtain ⟨⟨u, he⟩, ⟨o, ho, _, hd⟩, _⟩ := st
    rcases List.mem_cons.mp hb with rfl | hb
    · exact ⟨_, he, fun v z => nomatch z⟩
    · rw [List.mem_singleton.mp hb]
      exact ⟨o, ho, fun v z => by rw [hd] at z; cases z⟩
  keep := fun i h g st k => by
    obtain ⟨⟨u, he⟩, hi, hne⟩ := st
    exact ⟨⟨u, k e List.mem_cons_self _ he⟩, hi.at fun o z => k it (by simp) o z, hne⟩
  item := by
    intro X h1 h2 h3 hc i pins s σ H E I hf st hg
    subst h1 h2 h3
    obtain ⟨⟨u0, he⟩, hit, hne⟩ := st
    obtain ⟨xs, x, hq, hx⟩ := hg
    obtain ⟨its, rv, p, _⟩ := I.tuple hq
    obtain ⟨u, hu, ru⟩ := rv.get hx
    have le : e < s.heap.objs.size := Heap.lt_size he
    have li : it < s.heap.objs.size := by
      obtain ⟨_, z, _⟩ := hit
      exact Heap.lt_size z
    have hil : i < its.toArray.size := by
      have := (List.getElem?_eq_some_iff.mp hu).1
      simpa using this
    refine wpAny_pyNext_enum_itemD (k25_draws (A := X.A.in1) (I.ok.hd hc) it a hai its.toArray) he ⟨hit, p⟩ hil hne (by simp [hne, Ne.symm hae]) fun y g tk hy ho hst hT hsz hk => ?_
    have hyu : y = u := by
      have h7 : its.toArray[i]? = some u := by simpa using hu
      have h8 : its.toArray[i]? = some y := hy
      rw [h7] at h8
      exact (Option.some.inj h8).symm
    subst hyu
    refine ⟨_, rfl, wpAny_letOwnedTupleGo_enum (s := { s with heap := g, toks := tk + 1 }) ho fun g2 he2 sb => ?_⟩
    have hT2 : g2.get? s.heap.objs.size = some { cls := .type "tuple", data := .seq #[.int i tk, y] } := (sb.2 _ (Nat.ne_of_gt le)).trans hT
    have nw : ObjOk X.prog X.w (upd H s.heap.objs.size (.tup [.int (i : Nat), x])) g2 s.heap.objs.size (.tup [.int (i : Nat), x]) :=
      ⟨sz_of (by simp), [.int i tk, y], .cons ⟨_, rfl⟩ (.cons ru .nil), ⟨_, hT2, rfl, _, rfl⟩⟩
    have I1 : Inv X pins σ (upd H s.heap.objs.size (.tup [.int (i : Nat), x])) { s with heap := g2, toks := tk + 1 } :=
      I.turnedNew (ch := [e, it]) (fun b o hb z => (sb.2 b fun y => hb (by simp [y])).trans (hk b o (fun y => hb (by simp [y])) (fun y => hb (by simp [y])) z)) hf (Nat.le_refl _) nw
    refine ⟨.ref s.heap.objs.size, _, I1, rfl, ⟨_, x, rfl, I.hok.fresh (Nat.le_refl _), rfl, fun ys hy => by rw [I.tuple_inj hy hq]; exact hx⟩, ⟨⟨y, ?_⟩, hst.1.at fun o z => (sb.2 it (Ne.symm hne)).trans z, hne⟩, fun b hb => ?_⟩
    · rw [show ((i + 1 : Nat) : Int) = (i : Int) + 1 by omega]
      exact he2
    · have lb : b < s.heap.objs.size := by
        rcases List.mem_cons.mp hb with rfl | z
        · exact le
        · rw [List.mem_singleton.mp z]
          exact li
      rw [upd_ne (Nat.ne_of_lt lb)]
      exact (hf b hb).1
  done := by
    intro X h1 h2 h3 hc i pins s σ H E I hf st hg
    subst h1 h2 h3
    obtain ⟨⟨u0, he⟩, hit, hne⟩ := st
    obtain ⟨xs, hq, hx⟩ := hg
    obtain ⟨its, rv, p, _⟩ := I.tuple hq
    obtain ⟨f0, f1, f2, f3, f4, f5⟩ := hf it (by simp)
    have hl := rv.length
    have hsz : its.toArray.size = i := by
      simp
      omega
    subst hsz
    exact wpAny_pyNext_enum_endD (k25_draws (A := X.A.in1) (I.ok.hd hc) it a hai its.toArray) he ⟨hit, p⟩ fun g eb => ⟨rfl, I.turned (t' := s.toks) (fun b o hb z => eb b o hb z) f0 f1 f3 f4 f5⟩
  self := fun A i s Q E st h => by
    obtain ⟨⟨_, he⟩, _⟩ := st
    exact wpAny_pyIter_enum he h
def iEnumT (K : PySem.W.Frag) (ta : TA) : TI := fun σ H R => ta σ H fun vs H1 => ∃ a xs, vs = [.ref a] ∧ SqT K H1 a xs ∧ R (IteT K a) H1
theorem pi_enumT {X : Cx} {e : Expr} {ta : TA} {p pos q : Pos} {es : List Expr} {m : Nat} (hg : Gl X "enumerate") (hm : X.mg "enumerate" = none) (ha : PA X [e] ta) (hs : starEach [e] X.env = [(false, eval e X.env)] := by rfl) :
    PI X (.Tuple es m q) (.Call (.Name "enumerate" p) [e] [] pos) (iEnumT X.K ta) := by
  refine ⟨fun pins s σ H R I h => Call_ (ld_blt I hg hm boot_enumerate (PyProof.Rows.callWith_type1 (thn (ha.run pos pins s σ H _ I h) fun us s1 ⟨vs, H1, I1, r1, a, xs, ex, hq, k⟩ => ?_) hs rfl))⟩
  subst ex
  cases r1 with
  | cons r rr =>
    cases rr
    cases r
    obtain ⟨its, rv, pt, _⟩ := I1.tuple hq
    obtain ⟨ot, hot, _⟩ := id pt
    have la := Heap.lt_size hot
    refine k25_call_enumT (show s1.heap.IsTuple a its.toArray from pt) fun g he hit hk => wpAny_pyIter_enum he ?_
    have I2 : Inv X pins σ H1 { s1 with heap := g } := I1.kept (t' := s1.toks) hk
    refine ⟨s1.heap.objs.size + 1, [s1.heap.objs.size + 1, s1.heap.objs.size], _, _, H1, rfl, I2, turn_enumT a (s1.heap.objs.size + 1) s1.heap.objs.size (Nat.ne_of_lt la) (Nat.ne_of_lt (Nat.lt_succ_of_lt la)), ⟨⟨.none, he⟩, hit, Nat.succ_ne_self _⟩, fun b hb => ?_, k⟩
    have lb : s1.heap.objs.size ≤ b := by
      rcases List.mem_cons.mp hb with rfl | z
      · exact Nat.le_succ _
      · rw [List.mem_singleton.mp z]
        exact Nat.le_refl _
    exact I1.fpOk lb (I1.hok.fresh lb)
theorem walk_enumT {K : PySem.W.Frag} {a : Addr} {xs : List V} : Walk (IteT K a) xs.length (fun H => SqT K H a xs) (YPair (fun i => some (.int (i : Nat))) (fun i => xs[i]?)) := by
  refine ⟨fun i _ hi q => ⟨xs, xs[i], q, by simp [hi]⟩, fun _ q => ⟨xs, q, rfl⟩, fun i H v H' _ q y => ?_⟩
  obtain ⟨T, x, h1, h2, h3, h4⟩ := y
  exact ⟨T, _, x, h1, h2, h3, rfl, h4 xs q⟩
end K25

end

section
set_option maxHeartbeats 4000000
namespace K25
open PySem PySem.Spec PyProof.Rows L2 Evl
theorem PatD.up {n : Nat} {d : PyData} (h : PatD n d) : PatD (n + 1) d := by
  induction h with
  | anyP n => exact .anyP _
  | bindP n s h hn => exact .bindP _ s h hn
  | intP n i h => exact .intP _ i h
  | boolP n b => exact .boolP _ b
  | unitP n => exact .unitP _
  | con0 n s h hb => exact .con0 _ s h hb
  | con1 n s d h hb hd ih => exact .con1 _ s d h hb ih
  | tupP n ds h2 h4 hd ih => exact .tupP _ ds h2 h4 ih
theorem PatD.mono {n m : Nat} {d : PyData} (h : PatD n d) (hm : n ≤ m) : PatD m d := by
  obtain ⟨k, rfl⟩ := Nat.exists_eq_add_of_le hm
  clear hm
  induction k with
  | zero => exact h
  | succ k ih => exact ih.up
/-- which of the patterns is the first to match -/
def fitsAt (ds : List PyData) (v : PyData) (i : Nat) : Bool := (mch 5 (ds.getD i .none) v).isSome
def firstF (ds : List PyData) (v : PyData) : PyData := match (List.range ds.length).find? (fitsAt ds v) with
  | some i => .int (i : Nat)
  | none => .none
theorem firstF_some {ds : List PyData} {v : PyData} {i : Nat} (hi : i < ds.length) (h : fitsAt ds v i = true) (h0 : ∀ j, j < i → fitsAt ds v j = false) : firstF ds v = .int (i : Nat) := by
  have : (List.range ds.length).find? (fitsAt ds v) = some i := List.find?_range_eq_some.mpr ⟨h, List.mem_range.mpr hi, fun j hj => by rw [h0 j hj]; rfl⟩
  unfold firstF
  rw [this]
theorem firstF_none {ds : List PyData} {v : PyData} (h0 : ∀ j, j < ds.length → fitsAt ds v j = false) : firstF ds v = .none := by
  have : (List.range ds.length).find? (fitsAt ds v) = none := List.find?_eq_none.mpr fun j hj => by rw [h0 j (List.mem_range.mp hj)]; decide
  unfold firstF
  rw [this]
theorem isNone_oD (o : Option (List PyData)) : (!isNone (oD o)) = o.isSome := by cases o <;> rfl
def isLT (T : String) : Bool := T == "list" || T == "tuple"
def isSeqD : PyData → Bool
  | .list _ => true
  | .tuple _ => true
  | _ => false
theorem tyOf_mono {K : PySem.W.Frag} {H H' : Hp} (e : Ex H H') {v : V} {t : Value} (h : TyOf K H v t) : TyOf K H' v t := by
  cases h with
  | non => exact .non
  | bl x => exact .bl x
  | int x => exact .int x
  | str x => exact .str x
  | flt x => exact .flt x
  | lst a => exact .lst (e _ _ a)
  | frz a => exact .frz (e _ _ a)
  | tup a => exact .tup (e _ _ a)
  | dK a => exact .dK (e _ _ a)
  | dT a => exact .dT (e _ _ a)
  | ins a b c d f g => exact .ins (e _ _ a) b c d f g
/-- types stay -/
theorem tyX_mono {K : PySem.W.Frag} {H H' : Hp} (e : Ex H H') {v : V} {t : Value} (h : TyX K H v t) : TyX K H' v t := by
  cases h with
  | base b => exact .base (tyOf_mono e b)
  | byt b => exact .byt b
  | set a => exact .set (e _ _ a)
  | kList a c => exact .kList a c
  | kTuple a c => exact .kTuple a c
  | kDict a c => exact .kDict a c
  | fTuple a => exact .fTuple (e _ _ a)
  | fDict a => exact .fDict (e _ _ a)
section
variable {P : Program} {w : World} {K : PySem.W.Frag} {mg : Str → Option Value} {base : Heap}
theorem sc_first_of : FnScope ["patterns", "value", "position", "pattern"] ["patterns", "value"] (defScope s59) := ⟨rfl, rfl, rfl, by decide +kernel, rfl, by decide +kernel, by decide +kernel⟩
/-- the one turn, for a list as for a tuple -/
theorem first_turn {E : XK} {D : Ends} {pv vv : V} {x2 x3 : Option V} {H0 H3 : Hp} {xs : List V} {ds : List PyData} {d : PyData} {i : Nat} {x : V} {T : Addr} {Q : VK}
    (hD : D.rt = Q) (hn : D.nx = fun σ' H' => (∃ x2 x3, σ' = [some pv, some vv, x2, x3]) ∧ Ex H0 H' ∧ ∀ j, j < i + 1 → fitsAt ds d j = false) (hx : DpAll K H0 xs ds) (hv : Dp K H0 vv d) (hq : ValQ d) (hps : ∀ z ∈ ds, PatD 4 z)
    (q : ∀ r H', Ex H0 H' → Dp K H' r (firstF ds d) → Q r H') (E0 : Ex H0 H3) (hf : ∀ j, j < i → fitsAt ds d j = false) (hT : H3 T = none) (hi : xs[i]? = some x) :
    gTup K 2 (gCons (gName 2) (gCons (gName 3) gNil)) (.ref T) [some pv, some vv, x2, x3] (upd H3 T (.tup [.int (i : Nat), x])) fun σ2 H2 =>
      tIfS (tTest (tOp rNotN' (tCall (sn2 K (fun p v => oD (mch (4 + 1) p v)) fun p v => PatD 4 p ∧ ValQ v) [] E (tCons (tVar 3) (tCons (tVar 1) tNil))) (tC .non))) (tRet (tVar 2)) tNext D σ2 H2 := by
  obtain ⟨di, hdi, hxi⟩ := dps_of i hx hi
  have E1 : Ex H0 (upd H3 T (.tup [.int (i : Nat), x])) := E0.trans (Ex.new hT)
  have hil := (List.getElem?_eq_some_iff.mp hdi).1
  have hg : ds.getD i .none = di := by
    rw [List.getD_eq_getElem?_getD, hdi]
    rfl
  refine gp_pair (SqT.of upd_same) ?_
  refine s_when (b := fitsAt ds d i) (et_is (et_cmp (ed_notN (En.ed (en_call2 (f := fun p v => oD (mch (4 + 1) p v)) (ed_var rfl (dpMono E1 _ _ hxi)) (ed_var rfl (dpMono E1 _ _ hv)) ⟨hps di (List.mem_of_getElem? hdi), hq⟩)))) (by rw [isNone_oD]; unfold fitsAt; rw [hg])) (fun hb H4 e4 => ?_) (fun hb H4 e4 => ?_)
  · rw [firstF_some hil hb hf] at q
    refine s_retVar rfl ?_
    rw [hD]
    exact q _ _ (E1.trans e4) (.int _)
  · rw [hn]
    refine ⟨⟨_, _, rfl⟩, E1.trans e4, fun j hj => ?_⟩
    by_cases h : j = i
    · rw [h]
      exact hb
    · exact hf j (by omega)
theorem ok_first_of (T : Tx K mg) : Df P w K mg base CX0 12 "first_of" ["patterns", "value"] (fun vs H Q _ => ∃ v dv v2 d ds, vs = [v, v2] ∧ Dp K H v dv ∧ (dv = .list ds ∨ dv = .tuple ds) ∧ Dp K H v2 d ∧ ValQ d ∧ (∀ z ∈ ds, PatD 4 z) ∧ ∀ r H', Ex H H' → Dp K H' r (firstF ds d) → Q r H') := by
  have D_bindings_of := ok_bindings_of (P := P) (w := w) (base := base) T 4 (Nat.le_refl 4)
  refine df_ok T.f_first_of T.g_first_of sc_first_of (fun vs H Q E h => by
    obtain ⟨v, dv, v2, d, ds, rfl, _⟩ := h
    rfl) (fun _ _ _ _ _ _ us hl => match us, hl with | [_, _], _ => rfl) fun cdv A outer s H vs Q E hr h => ?_
  obtain ⟨v, dv, v2, d, ds, rfl, hd, hdv, hd2, hq, hps, q⟩ := h
  have nd := sc_first_of.nd
  rcases hdv with rfl | rfl
  · refine ⟨_, (pss_cons (ps_for PassesOwn.never rfl (pi_enum rfl T.n_enumerate (pa_cons (pv 0) pa_nil)) (pg_tup rfl (pgs_cons (pg_name (i := 2) nd rfl (Or.inl rfl)) (pgs_cons (pg_name (i := 3) nd rfl (Or.inl rfl)) pgs_nil)))
      (pss_one (ps_if (pt_cmpR o_notN (pe_df D_bindings_of hr (pa_cons (pv 3) (pa_cons (pv 1) pa_nil))) pe_non (nomark _)) (pss_one (ps_ret (pv 2))) pss_nil)))
      (pss_one (ps_ret pe_non))), ?_⟩
    obtain ⟨a, xs, rfl, hs, hx⟩ := dp_lst hd
    refine ⟨.ref a, rfl, a, xs, rfl, hs, for_it (walk_enum (xs := xs)) (fun i σ' H' => (∃ x2 x3, σ' = [some (.ref a), some v2, x2, x3]) ∧ Ex H H' ∧ ∀ j, j < i → fitsAt ds d j = false) ⟨⟨_, _, rfl⟩, Ex.refl _, fun j hj => absurd hj (Nat.not_lt_zero j)⟩ (fun i σ' H' _ hh => ex_l hh.2.1 hs) (fun i x σ' H3 H4 hi hh y => ?_) fun σ' H' hh => ?_⟩
    · obtain ⟨TT, x1, y1, rfl, hT, rfl, h1, h2⟩ := y
      cases h1
      obtain ⟨⟨x2, x3, rfl⟩, E0, hf⟩ := hh
      exact first_turn rfl rfl hx hd2 hq hps q E0 hf hT h2
    · obtain ⟨⟨x2, x3, rfl⟩, E0, hf⟩ := hh
      rw [firstF_none (by rw [← dps_len hx]; exact hf)] at q
      show tRet (tC .non) { nx := fun x H' => Q V.non H', rt := Q } [some (.ref a), some v2, x2, x3] H'
      exact s_ret ev_c fun H5 e5 => q .non H5 (E0.trans e5) .non
  · refine ⟨_, (pss_cons (ps_for PassesOwn.never rfl (pi_enumT rfl T.n_enumerate (pa_cons (pv 0) pa_nil)) (pg_tup rfl (pgs_cons (pg_name (i := 2) nd rfl (Or.inl rfl)) (pgs_cons (pg_name (i := 3) nd rfl (Or.inl rfl)) pgs_nil)))
      (pss_one (ps_if (pt_cmpR o_notN (pe_df D_bindings_of hr (pa_cons (pv 3) (pa_cons (pv 1) pa_nil))) pe_non (nomark _)) (pss_one (ps_ret (pv 2))) pss_nil)))
      (pss_one (ps_ret pe_non))), ?_⟩
    obtain ⟨a, xs, rfl, hs, hx⟩ := dp_tup hd
    refine ⟨.ref a, rfl, a, xs, rfl, hs, for_it (walk_enumT (xs := xs)) (fun i σ' H' => (∃ x2 x3, σ' = [some (.ref a), some v2, x2, x3]) ∧ Ex H H' ∧ ∀ j, j < i → fitsAt ds d j = false) ⟨⟨_, _, rfl⟩, Ex.refl _, fun j hj => absurd hj (Nat.not_lt_zero j)⟩ (fun i σ' H' _ hh => ex_t hh.2.1 hs) (fun i x σ' H3 H4 hi hh y => ?_) fun σ' H' hh => ?_⟩
    · obtain ⟨TT, x1, y1, rfl, hT, rfl, h1, h2⟩ := y
      cases h1
      obtain ⟨⟨x2, x3, rfl⟩, E0, hf⟩ := hh
      exact first_turn rfl rfl hx hd2 hq hps q E0 hf hT h2
    · obtain ⟨⟨x2, x3, rfl⟩, E0, hf⟩ := hh
      rw [firstF_none (by rw [← dps_len hx]; exact hf)] at q
      show tRet (tC .non) { nx := fun x H' => Q V.non H', rt := Q } [some (.ref a), some v2, x2, x3] H'
      exact s_ret ev_c fun H5 e5 => q .non H5 (E0.trans e5) .non
theorem sc_is_list : FnScope ["value"] ["value"] (defScope s8) := ⟨rfl, rfl, rfl, by decide +kernel, rfl, by decide +kernel, by decide +kernel⟩
theorem kit_two {K : PySem.W.Frag} {T : String} {a b : Bool} (h1 : kitB T "list" = some a) (h2 : kitB T "tuple" = some b) : PySem.W.kitAny K (.type T) [.type "list", .type "tuple"] = some (a || b) :=
  kitAny_cons (kit_ty h1) (fun e => kitAny_cons (kit_ty h2) (fun e2 => by subst e; subst e2; rfl) (fun e2 => by subst e; subst e2; rfl)) (fun e => by subst e; rfl)
theorem ok_is_list (T : Tx K mg) : Df P w K mg base CX0 1 "is_list" ["value"] (fun vs H Q _ => ∃ v Ty a b, vs = [v] ∧ TyX K H v (.type Ty) ∧ kitB Ty "list" = some a ∧ kitB Ty "tuple" = some b ∧ ∀ H', Ex H H' → Q (.bl (a || b)) H') := by
  refine df_ok T.f_is_list T.g_is_list sc_is_list (fun vs H Q E h => by
    obtain ⟨v, _, _, _, rfl, _⟩ := h
    rfl) (fun _ _ _ _ _ _ us hl => match us, hl with | [_], _ => rfl) fun cdv A outer s H vs Q E hr h => ?_
  obtain ⟨v, Ty, a, b, rfl, ht, h1, h2, q⟩ := h
  refine ⟨_, (pss_one (ps_ret (pe_callB call_isiT (by rfl) T.n_isinstance (by decide +kernel) (pa_cons (pv 0) (pa_cons (pe_tup (pa_cons (pty T.n_list b_list) (pa_cons (pty T.n_tuple b_tuple) pa_nil))) pa_nil))))), ?_⟩
  refine s_retX ⟨v, rfl, t_cons (t_tup (t_cons (t_c (t_cons (t_c ⟨sz_of (by simp), fun p hp => ?_⟩)))))⟩
  have eT : Ex H (upd H p (.tup [.ty "list", .ty "tuple"])) := Ex.new hp
  exact ⟨v, p, _, _, _, _, rfl, upd_same, .cons (.ty "list") (.cons (.ty "tuple") .nil), tyX_mono eT ht, kit_two h1 h2, q _ eT⟩
theorem tyX_kit {v : V} {H : Hp} {d : PyData} (h : Dp K H v d) : TyX K H v (.type (tyD d)) := tyX_of h
theorem sc_are_patterns : FnScope ["value", "one"] ["value"] (defScope s61) := ⟨rfl, rfl, rfl, by decide +kernel, rfl, by decide +kernel, by decide +kernel⟩
def kidsS : PyData → List PyData
  | .list ds => ds
  | .tuple ds => ds
  | _ => []
/-- what are_patterns is asked about: data, or a thing that is no list -/
def spA (K : PySem.W.Frag) : Sp := fun vs H Q _ => ∃ v, vs = [v] ∧ ((∃ Ty, TyX K H v (.type Ty) ∧ kitB Ty "list" = some false ∧ kitB Ty "tuple" = some false ∧ ∀ H', Ex H H' → Q (.bl false) H') ∨
  ∃ dv ds, Dp K H v dv ∧ (dv = .list ds ∨ dv = .tuple ds) ∧ ds.length ≤ 1000 ∧ (1 ≤ ds.length → ds.length ≤ 8 → ∀ x ∈ ds, PreP x) ∧ ∀ H', Ex H H' → Q (.bl ((decide ((1 : Int) ≤ (ds.length : Int)) && decide ((ds.length : Int) ≤ 8)) && ds.all isPatF)) H')
theorem bool_map {f : PyData → Bool} (ds : List PyData) : (ds.map f).all id = ds.all f := by
  rw [List.all_map]
  rfl
theorem ok_are_patterns (T : Tx K mg) : Df P w K mg base CX0 10 "are_patterns" ["value"] (spA K) := by
  have D_is_list := ok_is_list (P := P) (w := w) (base := base) T
  have D_is_pattern := ok_is_pattern (P := P) (w := w) (base := base) T
  refine df_ok T.f_are_patterns T.g_are_patterns sc_are_patterns (fun vs H Q E h => by
    obtain ⟨v, rfl, _⟩ := h
    rfl) (fun _ _ _ _ _ _ us hl => match us, hl with | [_], _ => rfl) fun cdv A outer s H vs Q E hr h => ?_
  obtain ⟨v, rfl, h⟩ := h
  have nd := sc_are_patterns.nd
  have eis : ∀ {Ty : String} {a b : Bool} {σ : L2.St} {E : XK}, σ[0]? = some (some v) → TyX K H v (.type Ty) → kitB Ty "list" = some a → kitB Ty "tuple" = some b → Ed K (tCall (fun vs H Q _ => ∃ v Ty a b, vs = [v] ∧ TyX K H v (.type Ty) ∧ kitB Ty "list" = some a ∧ kitB Ty "tuple" = some b ∧ ∀ H', Ex H H' → Q (.bl (a || b)) H') [] E (tCons (tVar 0) tNil)) σ H (.bool (a || b)) := fun {Ty a b σ E} hs ht h1 h2 H1 e1 Q1 q1 =>
    ⟨v, hs, v, Ty, a, b, rfl, tyX_mono e1 ht, h1, h2, fun H2 e2 => q1 _ H2 e2 (.bl _)⟩
  rcases h with ⟨Ty, ht, h1, h2, q⟩ | ⟨dv, ds, hd, hdv, hl, hp, q⟩
  · refine ⟨_, (pss_one (ps_ret (pe_and (pe_df D_is_list hr (pa_cons (pv 0) pa_nil)) (pe_and (pe_chain op_le op_le pe_int (pe_callB c_len (by rfl) T.n_len (by decide +kernel) (pa_cons (pv 0) pa_nil)) (pgi T.i_MOST_RULES)) (pe_one (pe_callB (cr_all rfl) (by rfl) T.n_all (by decide +kernel) (pa_cons (pe_lc (own := [("one", 1)]) (g := gName 1) rfl nd (pi_list (pv 0)) (blkOk_by (own := [("one", 1)]) (N := ["value", "one"]) (sc := defScope s61) (by decide +kernel)) (fun _ _ _ _ _ => pg_name (i := 1) nd rfl (Or.inl rfl)) (fun _ _ _ _ _ => pts_nil) (fun _ _ _ _ _ => (pe_df D_is_pattern hr (pa_cons (pv 1) pa_nil)))) pa_nil))))))), ?_⟩
    exact sd_ret (ed_andV (b := true) (eis rfl ht h1 h2) fun e => by cases e) fun v2 H2 e2 hv => by rw [dp_bl hv]; exact q H2 e2
  have hf : frzAll ((ds.map isPatF).map PyData.bool) = true := frz_all fun d hd => by
    obtain ⟨b, _, rfl⟩ := List.mem_map.mp hd
    rfl
  have elt : (decide ((1 : Int) ≤ (ds.length : Int)) && decide ((ds.length : Int) ≤ 8)) = true → 1 ≤ ds.length ∧ ds.length ≤ 8 := fun h => by
    simp only [Bool.and_eq_true, decide_eq_true_eq] at h
    omega
  rcases hdv with rfl | rfl
  · refine ⟨_, (pss_one (ps_ret (pe_and (pe_df D_is_list hr (pa_cons (pv 0) pa_nil)) (pe_and (pe_chain op_le op_le pe_int (pe_callB c_len (by rfl) T.n_len (by decide +kernel) (pa_cons (pv 0) pa_nil)) (pgi T.i_MOST_RULES)) (pe_one (pe_callB (cr_all rfl) (by rfl) T.n_all (by decide +kernel) (pa_cons (pe_lc (own := [("one", 1)]) (g := gName 1) rfl nd (pi_list (pv 0)) (blkOk_by (own := [("one", 1)]) (N := ["value", "one"]) (sc := defScope s61) (by decide +kernel)) (fun _ _ _ _ _ => pg_name (i := 1) nd rfl (Or.inl rfl)) (fun _ _ _ _ _ => pts_nil) (fun _ _ _ _ _ => (pe_df D_is_pattern hr (pa_cons (pv 1) pa_nil)))) pa_nil))))))), ?_⟩
    refine sd_ret (Ed.is (ed_andV (a := true) (Ed.is (eis rfl (tyX_of hd) (kit_list _) (kit_tuple _)) rfl) fun _ => ed_andV (ed_chain ed_int (ed_len (ed_var rfl hd) rfl (by omega)) ed_int) fun hc => ed_all (K := K) (bs := ds.map isPatF) (En.ed (en_lcL (j := 1) (ed_var rfl hd) (by simp) (by simpa using hl) hf fun i d d' x H1 e1 h1 h2 hx => ?_))) (by rw [Bool.true_and, bool_map])) fun v2 H2 e2 hv => by rw [dp_bl hv]; exact q H2 e2
    have he : d' = .bool (isPatF d) := by
      rw [List.getElem?_map, List.getElem?_map, h1] at h2
      exact (Option.some.inj h2).symm
    subst he
    exact ed_call1 (f := fun d => .bool (isPatF d)) (ed_var rfl hx) (hp (elt hc).1 (elt hc).2 d (List.mem_of_getElem? h1))
  · refine ⟨_, (pss_one (ps_ret (pe_and (pe_df D_is_list hr (pa_cons (pv 0) pa_nil)) (pe_and (pe_chain op_le op_le pe_int (pe_callB c_len (by rfl) T.n_len (by decide +kernel) (pa_cons (pv 0) pa_nil)) (pgi T.i_MOST_RULES)) (pe_one (pe_callB (cr_all rfl) (by rfl) T.n_all (by decide +kernel) (pa_cons (pe_lc (own := [("one", 1)]) (g := gName 1) rfl nd (pi_tup (pv 0)) (blkOk_by (own := [("one", 1)]) (N := ["value", "one"]) (sc := defScope s61) (by decide +kernel)) (fun _ _ _ _ _ => pg_name (i := 1) nd rfl (Or.inl rfl)) (fun _ _ _ _ _ => pts_nil) (fun _ _ _ _ _ => (pe_df D_is_pattern hr (pa_cons (pv 1) pa_nil)))) pa_nil))))))), ?_⟩
    refine sd_ret (Ed.is (ed_andV (a := true) (Ed.is (eis rfl (tyX_of hd) (kit_list _) (kit_tuple _)) rfl) fun _ => ed_andV (ed_chain ed_int (ed_len (ed_var rfl hd) rfl (by omega)) ed_int) fun hc => ed_all (K := K) (bs := ds.map isPatF) (En.ed (en_lcT (j := 1) (ed_var rfl hd) (by simp) (by simpa using hl) hf fun i d d' x H1 e1 h1 h2 hx => ?_))) (by rw [Bool.true_and, bool_map])) fun v2 H2 e2 hv => by rw [dp_bl hv]; exact q H2 e2
    have he : d' = .bool (isPatF d) := by
      rw [List.getElem?_map, List.getElem?_map, h1] at h2
      exact (Option.some.inj h2).symm
    subst he
    exact ed_call1 (f := fun d => .bool (isPatF d)) (ed_var rfl hx) (hp (elt hc).1 (elt hc).2 d (List.mem_of_getElem? h1))
end
end K25

end

section
set_option maxHeartbeats 4000000
namespace K25
open PySem PySem.Spec PyProof.Rows L2 Evl
/-! ### the classes of errors -/
abbrev fI (K : PySem.W.Frag) : Addr := He.ma K (He.ga K "ChangeError") "__init__"
structure ErrC (K : PySem.W.Frag) (C : Addr) : Prop where
  ox : OexC K C
  iC : PySem.W.findIn K (.ref C) "__init__" = some (some (.ref (fI K)))
  vN : PySem.W.findIn K (.ref C) "value" = some none
  xf : XfC K C
  cl : PySem.W.findIn K (.ref C) "__class__" = some (some (.builtin "object.__class__"))
  mo : PySem.W.mroIn K C (.type "object") = some true
  is : PySem.W.kitOne K (.ref C) (.ref (He.ga K "ChangeError")) = some true
theorem oexB_ok {K : PySem.W.Frag} {C : Addr} (h : oexB K C = true) (sa : PySem.W.findIn K (.ref C) "__setattr__" = some (some (.builtin "object.__setattr__"))) (e1 : PySem.W.subIn K (.ref C) (.type "BaseException") = some true)
    (t1 : PySem.W.typeIn K (.ref C) = some (.type "type")) (k1 : PySem.W.keepIn K (.ref C) = true) : OexC K C := by
  refine ⟨?_, sa, e1, t1, k1⟩
  unfold oexB at h
  split at h
  · rename_i d0 cd sl hl
    split at h
    · rename_i C' bm a0 a1 a2 a3 n a5 hm hs
      simp only [Bool.and_eq_true, beq_iff_eq, Bool.not_eq_true'] at h
      obtain ⟨rfl, rfl, h3, h4, h5⟩ := h
      obtain ⟨nm, bs, mro, ns, qn, hd, sn, sb, ab, col, del⟩ := cd
      dsimp only at hm h3 h4
      subst hm h3 h4
      have hsl : sl = #[a0, a1, a2, a3, some (.builtin "ValueError.__new__"), a5] := by
        rw [← Array.toList_inj]
        exact hs
      subst hsl
      exact ⟨nm, qn, ns, bs, bm, sn, sb, ab, col, d0, a0, a1, a2, a3, a5, hl, h5⟩
    · cases h
  · cases h
theorem errC_of {K : PySem.W.Frag} {C : Addr} (h : clsB K C = true) : ErrC K C := by
  unfold clsB at h
  simp only [Bool.and_eq_true, decide_eq_true_eq] at h
  obtain ⟨h1, h2, h3, h4, h5, h6, h7, h8, h9, h10, h11, h12, h13⟩ := h
  exact ⟨oexB_ok h1 h2 h3 h4 h5, h6, h7, ⟨h8, h9, h3, h10⟩, h11, h12, h13⟩
structure ErrT (K : PySem.W.Frag) : Prop where
  e1 : ErrC K (He.ga K "InvalidPattern")
  e2 : ErrC K (He.ga K "InvalidPatterns")
  e3 : ErrC K (He.ga K "InvalidValue")
  ty : PySem.W.typeIn K (.ref (fI K)) = some (.type "function")
  gt : PySem.W.specialIn K (.builtin "object.__class__") "__get__" = some (some (.builtin "getset_descriptor.__get__"))
  tk : PySem.W.takesIn K (.builtin "object.__class__") = some true
  x11 : PySem.W.exmOne K (.ref (He.ga K "InvalidPattern")) (.ref (He.ga K "InvalidPattern")) = some true
  x21 : PySem.W.exmOne K (.ref (He.ga K "InvalidPatterns")) (.ref (He.ga K "InvalidPattern")) = some false
  x22 : PySem.W.exmOne K (.ref (He.ga K "InvalidPatterns")) (.ref (He.ga K "InvalidPatterns")) = some true
  x31 : PySem.W.exmOne K (.ref (He.ga K "InvalidValue")) (.ref (He.ga K "InvalidPattern")) = some false
  x32 : PySem.W.exmOne K (.ref (He.ga K "InvalidValue")) (.ref (He.ga K "InvalidPatterns")) = some false
  x33 : PySem.W.exmOne K (.ref (He.ga K "InvalidValue")) (.ref (He.ga K "InvalidValue")) = some true
theorem errT_of {K : PySem.W.Frag} (h : exB K = true) : ErrT K := by
  unfold exB excNames at h
  simp only [Bool.and_eq_true, decide_eq_true_eq, List.all_cons, List.all_nil, and_true] at h
  obtain ⟨⟨c1, c2, c3⟩, ⟨⟨a1, a2, a3⟩, ⟨b1, b2, b3⟩, d1, d2, d3⟩, t1, t2, t3, _⟩ := h
  exact ⟨errC_of c1, errC_of c2, errC_of c3, t1, t2, t3, a1.trans (by decide +kernel), b1.trans (by decide +kernel), b2.trans (by decide +kernel), d1.trans (by decide +kernel), d2.trans (by decide +kernel), d3.trans (by decide +kernel)⟩
section
variable {P : Program} {w : World} {K : PySem.W.Frag} {mg : Str → Option Value} {base : Heap}
/-- self.value = value, in a new error -/
def spInit (K : PySem.W.Frag) : Sp := fun vs H Q _ => ∃ a v C, vs = [.ref a, v] ∧ OexC K C ∧ PySem.W.findIn K (.ref C) "value" = some none ∧ H a = some (exo a C none) ∧
  ∀ dx, H dx = none → dx ≠ a → Q .non (upd (upd H dx (exd dx [(("value" : Str), v)])) a (exo a C (some dx)))
theorem sc_init : FnScope ["self", "value"] ["self", "value"] (defScope sInit) := ⟨rfl, rfl, rfl, by decide +kernel, rfl, by decide +kernel, by decide +kernel⟩
theorem ok_init (T : Tx K mg) : ∃ fd, FnOk P w K mg base CX0 1 (fI K) fd ["self", "value"] (spInit K) ∧ Binds K fd ["self", "value"] [] := by
  obtain ⟨fd, F⟩ := T.f_init
  refine ⟨fd, F.ok sc_init (fun vs H Q E h => by
    obtain ⟨a, v, C, rfl, _⟩ := h
    rfl) fun cdv A outer s H vs Q E hr h => ?_, ?_⟩
  · obtain ⟨a, v, C, rfl, ho, hn, ha, q⟩ := h
    exact ⟨_, pss_one (ps_ost (pv 0) (pv 1)), v, rfl, .ref a, rfl, a, C, rfl, ho, hn, .inl ⟨ha, fun dx h1 h2 => q dx h1 h2⟩⟩
  · obtain ⟨ds, r, b⟩ := F.binds1 (ps := ["self", "value"]) 2 1 (by simp) rfl (fun T kV doc pm an cdv ct us its h1 h2 => by
      match us, its, h1, h2 with
      | [x, y], [z], _, _ => exact ⟨_, rfl, rfl⟩)
    cases r
    exact b
/-- raise C(e) -/
def tRz (C : Addr) (W : WX) (ta : TA) : TS := fun _ σ H => ta σ H fun vs H1 => ∃ v, vs = [v] ∧ ∀ d, H1 d = none → W (.ref C) (some d) σ (upd H1 d (.xd [(("value" : Str), v)]))
end
theorem pa_up {X : Cx} {es : List Expr} {t : TA} (h : PA X es t) : PA X es (fun σ H Q => ∃ Q0 : List V → Hp → Prop, t σ H Q0 ∧ ∀ vs H1, Q0 vs H1 → Q vs H1) := ⟨fun pos pins s σ H Q I ⟨Q0, h0, hQ⟩ =>
  thn (h.run pos pins s σ H Q0 I h0) fun us s1 ⟨vs, H1, I1, r1, q⟩ => ⟨vs, H1, I1, r1, hQ vs H1 q⟩⟩
theorem ps_rz {X : Cx} {C : Addr} {x : Str} {a : Expr} {ta : TA} {W : WX} {k : Nat} {p pos pos2 : Pos} (hc : X.calm = true) (T : Tx X.K X.mg) (R : ErrT X.K) (ec : ErrC X.K C) (hm : X.mg x = some (.ref C)) (hr : Room k X.A) (tk : Takes X W) (ha : PA X [a] ta)
    (hk : 2 ≤ k := by first | decide | omega) (hg : Gl X x := by rfl) (hdb : (x == ("__debug__" : Str)) = false := by decide) (he : starEach (a :: []) X.env = (false, eval a X.env) :: starEach [] X.env := by rfl) (hpl : (backTo pos (starEach [] X.env)).any (·.1) = false := by rfl) :
    PS X (.Raise (some (.Call (.Name x p) [a] [] pos)) none pos2) (tRz C W ta) := by
  obtain ⟨fd, F1, b⟩ := ok_init (P := X.prog) (w := X.w) (base := X.base) T
  have m := ps_raise (pos := pos2) hc tk (pmk_oex (pos := pos) (p := p) ec.ox ec.iC R.ty F1 (hr.mono hk) b .nil pass0 hg hm (pa_up ha) hdb he hpl)
  refine ⟨fun pins s σ H D I h => m.run pins s σ H D I ⟨_, h, fun vs H1 hv => ?_⟩⟩
  obtain ⟨v, rfl, q⟩ := hv
  refine ⟨by simp, fun a0 h0 => ⟨a0, v, C, rfl, ec.ox, ec.vN, upd_same, fun dx hx hne => ⟨rfl, dx, [(("value" : Str), v)], upd_same, ?_, ?_, ?_⟩⟩⟩
  · rw [upd_ne hne]
    exact upd_same
  · rw [upd_ne hne] at hx
    exact hx
  · rw [upd_ne hne] at hx
    have e : upd (del (upd (upd (upd H1 a0 (exo a0 C none)) dx (exd dx [(("value" : Str), v)])) a0 (exo a0 C (some dx))) a0) dx (.xd [(("value" : Str), v)]) = upd H1 dx (.xd [(("value" : Str), v)]) := by
      funext b
      by_cases h1 : b = dx
      · rw [h1, upd_same, upd_same]
      · rw [upd_ne h1, upd_ne h1]
        by_cases h2 : b = a0
        · rw [h2, del_same, h0]
        · rw [del_ne h2, upd_ne h2, upd_ne h1, upd_ne h2]
    rw [e]
    exact q dx hx
end K25

end

section
set_option maxHeartbeats 4000000
namespace K25
open PySem PySem.Spec PyProof.Rows L2 Evl
section
variable {P : Program} {w : World} {K : PySem.W.Frag} {mg : Str → Option Value} {base : Heap}
theorem q_dropX {te : TE} {tz : TS} {D : Ends} {σ : L2.St} {H : Hp} (h : te σ H fun _ H1 => tz D σ H1) : tSeq (tDrop te) tz D σ H := h
theorem df_okXK {x : Str} {st : Stmt} {N ps : List Str} {k : Nat} {sp : Sp} (hF : ∃ fd, FnP K x st (He.ga K x) fd) (S : FnScope N ps (defScope st)) (len : ∀ vs H Q E, sp vs H Q E → vs.length = ps.length)
    (hbody : ∀ (cdv : Value) (A : Around) (outer : List Env) (s : Shared) (H : Hp) (vs : List V) (Q : VK) (E : XK), Room k (A.deeper (envOfC x (defScope st) s.heap.objs.size (He.ga K x) cdv)) → Takes (cxOf (L2.CX P w) P w K mg base N x (defScope st) (He.ga K x) cdv A outer s H E) (fun cls d _ H => E cls d H) → sp vs H Q E →
      ∃ t, PSs (cxOf (L2.CX P w) P w K mg base N x (defScope st) (He.ga K x) cdv A outer s H E) (defBody st) t ∧ t { nx := fun _ H' => Q .non H', rt := Q } (start N vs) H) : DfK P w K mg base (L2.CX P w) (k + 1) x st ps sp := by
  obtain ⟨fd, F⟩ := hF
  exact ⟨fd, F, F.ok S len fun cdv A outer s H vs Q E hr h => hbody cdv A outer s H vs Q E hr (takes_of rfl rfl rfl rfl) h⟩
theorem df_okX {x : Str} {st : Stmt} {N ps : List Str} {k : Nat} {sp : Sp} (hF : ∃ fd, FnP K x st (He.ga K x) fd) (hm : mg x = some (.ref (He.ga K x))) (S : FnScope N ps (defScope st)) (len : ∀ vs H Q E, sp vs H Q E → vs.length = ps.length)
    (hb : ∀ (kV doc pm : Value) (an : Option Addr) (cdv ct : Value) (us : List Value), us.length = ps.length → bindArgs (PySem.W.fnOf x x (defArgs st) (defBody st) (defScope st) .none kV doc pm an cdv ct) ⟨us, []⟩ = pure (ps.zip us))
    (hbody : ∀ (cdv : Value) (A : Around) (outer : List Env) (s : Shared) (H : Hp) (vs : List V) (Q : VK) (E : XK), Room k (A.deeper (envOfC x (defScope st) s.heap.objs.size (He.ga K x) cdv)) → Takes (cxOf (L2.CX P w) P w K mg base N x (defScope st) (He.ga K x) cdv A outer s H E) (fun cls d _ H => E cls d H) → sp vs H Q E →
      ∃ t, PSs (cxOf (L2.CX P w) P w K mg base N x (defScope st) (He.ga K x) cdv A outer s H E) (defBody st) t ∧ t { nx := fun _ H' => Q .non H', rt := Q } (start N vs) H) : Df P w K mg base (L2.CX P w) (k + 1) x ps sp := by
  obtain ⟨fd, F⟩ := hF
  exact ⟨fd, F.ok S len fun cdv A outer s H vs Q E hr h => hbody cdv A outer s H vs Q E hr (takes_of rfl rfl rfl rfl) h, F.bindsN hb, F.kp, hm⟩
end
theorem pe_dfS {X : Cx} {W : WX} {k j : Nat} {x : Str} {ps : List Str} {sp : Sp} {e : Expr} {es : List Expr} {t : TA} {p pos : Pos} (D : Df X.prog X.w X.K X.mg X.base (L2.CX X.prog X.w) k x ps sp) (hr : Room j X.A) (tk : Takes X W) (ha : PA X (e :: es) t) (hk : k ≤ j := by first | decide | omega) (hg : Gl X x := by rfl)
    (hdb : (x == ("__debug__" : Str)) = false := by decide) (he : starEach (e :: es) X.env = (false, eval e X.env) :: starEach es X.env := by rfl) (hpl : (backTo pos (starEach es X.env)).any (·.1) = false := by rfl) :
    PE X (.Call (.Name x p) (e :: es) [] pos) (tCallS sp (WE W) t) := by
  obtain ⟨fd, F, b, kp, m⟩ := D
  exact pe_callS F (hr.mono hk) hg m kp b (fun σ => passAt tk σ) ha hdb he hpl
section
variable {P : Program} {w : World} {K : PySem.W.Frag} {mg : Str → Option Value} {base : Heap}
/-- an error of the class at C with the value v -/
def Lets (C : Addr) (v : V) (H : Hp) (E : XK) : Prop := ∀ H' d, Ex H H' → H' d = none → E (.ref C) (some d) (upd H' d (.xd [(("value" : Str), v)]))
def PlQ (d : PyData) : Prop := wf 31 d = true ∧ szV 32 d ≤ 600
def spWant (K : PySem.W.Frag) : Sp := fun vs H Q E => ∃ v d, vs = [v] ∧ Dp K H v d ∧ PlQ d ∧ ((plR 32 d = true ∧ ∀ H', Ex H H' → Q .non H') ∨ (plR 32 d = false ∧ Lets (He.ga K "InvalidValue") v H E))
theorem sc_want_value : FnScope ["value"] ["value"] (defScope s60) := ⟨rfl, rfl, rfl, by decide +kernel, rfl, by decide +kernel, by decide +kernel⟩
theorem ok_want_value (T : Tx K mg) (R : ErrT K) : Df P w K mg base (L2.CX P w) 7 "want_value" ["value"] (spWant K) := by
  have D_is_plain := ok_is_plain (P := P) (w := w) (base := base) T
  refine df_okX T.f_want_value T.g_want_value sc_want_value (fun vs H Q E h => by
    obtain ⟨v, d, rfl, _⟩ := h
    rfl) (fun _ _ _ _ _ _ us hl => match us, hl with | [_], _ => rfl) fun cdv A outer s H vs Q E hr tk h => ?_
  obtain ⟨v, d, rfl, hd, hp, q⟩ := h
  refine ⟨_, (pss_one (ps_if (pt_not (pt_val (pe_df D_is_plain hr (pa_cons (pv 0) pa_nil)))) (pss_one (ps_rz rfl T R R.e3 T.g_InvalidValue hr tk (pa_cons (pv 0) pa_nil))) pss_nil)), ?_⟩
  refine s_when (et_not (et_val (ed_call1 (f := fun d => .bool (plR 32 d)) (ed_var rfl hd) hp))) (fun hb H1 e1 => ?_) (fun hb H1 e1 => ?_)
  · rcases q with ⟨h1, q⟩ | ⟨h1, q⟩
    · rw [h1] at hb
      cases hb
    · exact ⟨v, rfl, v, rfl, fun dd hdd => q H1 dd e1 hdd⟩
  · rcases q with ⟨h1, q⟩ | ⟨h1, q⟩
    · exact q H1 e1
    · rw [h1] at hb
      cases hb
def spBind (K : PySem.W.Frag) : Sp := fun vs H Q E => ∃ v v2 dp dv, vs = [v, v2] ∧ Dp K H v dp ∧ Dp K H v2 dv ∧ PreP dp ∧ ((isPatF dp = false ∧ Lets (He.ga K "InvalidPattern") v H E) ∨
  (isPatF dp = true ∧ PlQ dv ∧ ((plR 32 dv = false ∧ Lets (He.ga K "InvalidValue") v2 H E) ∨ (plR 32 dv = true ∧ PatD 4 dp ∧ ValQ dv ∧ ∀ r H', Ex H H' → Dn K H' r (oD (mch 5 dp dv)) → Fr H r → Q r H'))))
theorem sc_bindings : FnScope ["pattern", "value"] ["pattern", "value"] (defScope s62) := ⟨rfl, rfl, rfl, by decide +kernel, rfl, by decide +kernel, by decide +kernel⟩
theorem ok_bindingsK (T : Tx K mg) (R : ErrT K) : DfK P w K mg base (L2.CX P w) 12 "bindings" s62 ["pattern", "value"] (spBind K) := by
  have D_is_pattern := ok_is_pattern (P := P) (w := w) (base := base) T
  have D_want_value := ok_want_value (P := P) (w := w) (base := base) T R
  have D_bindings_of := ok_bindings_of (P := P) (w := w) (base := base) T 4 (Nat.le_refl 4)
  refine df_okXK T.f_bindings sc_bindings (fun vs H Q E h => by
    obtain ⟨v, v2, d, _, rfl, _⟩ := h
    rfl) fun cdv A outer s H vs Q E hr tk h => ?_
  obtain ⟨v, v2, dp, dv, rfl, hd, hd2, hp, q⟩ := h
  refine ⟨_, (pss_cons (ps_if (pt_not (pt_val (pe_df D_is_pattern hr (pa_cons (pv 0) pa_nil)))) (pss_one (ps_rz rfl T R R.e1 T.g_InvalidPattern hr tk (pa_cons (pv 0) pa_nil))) pss_nil)
      (pss_cons (ps_expr (pe_dfS D_want_value hr tk (pa_cons (pv 1) pa_nil)))
      (pss_one (ps_ret (pe_df D_bindings_of hr (pa_cons (pv 0) (pa_cons (pv 1) pa_nil))))))), ?_⟩
  refine q_when (et_not (et_val (ed_call1 (f := fun d => .bool (isPatF d)) (ed_var rfl hd) hp))) (fun hb H1 e1 => ?_) (fun hb H1 e1 => ?_)
  · rcases q with ⟨h1, q⟩ | ⟨h1, q⟩
    · exact ⟨v, rfl, v, rfl, fun dd hdd => q H1 dd e1 hdd⟩
    · rw [h1] at hb
      cases hb
  · rcases q with ⟨h1, q⟩ | ⟨h1, hq, q⟩
    · rw [h1] at hb
      cases hb
    refine q_dropX ⟨v2, rfl, v2, dv, rfl, dpMono e1 _ _ hd2, hq, ?_⟩
    rcases q with ⟨h2, q⟩ | ⟨h2, hpd, hvq, q⟩
    · exact .inr ⟨h2, fun H' d e h => q H' d (e1.trans e) h⟩
    · refine .inl ⟨h2, fun H2 e2 => ?_⟩
      have E2 := e1.trans e2
      exact sn_ret (en_call2 (f := fun p v => oD (mch 5 p v)) (ed_var rfl (dpMono E2 _ _ hd)) (ed_var rfl (dpMono E2 _ _ hd2)) ⟨hpd, hvq⟩) fun r H3 e3 hv fv => q r H3 (E2.trans e3) hv (fv.back E2)
/-- is_list says no, or a list or tuple of that data -/
theorem ok_bindings (T : Tx K mg) (R : ErrT K) : Df P w K mg base (L2.CX P w) 12 "bindings" ["pattern", "value"] (spBind K) :=
  (ok_bindingsK T R).df T.g_bindings fun _ _ _ _ _ _ us hl => match us, hl with | [_, _], _ => rfl
def spFirst (K : PySem.W.Frag) : Sp := fun vs H Q E => ∃ v v2, vs = [v, v2] ∧ ((∃ Ty, TyX K H v (.type Ty) ∧ kitB Ty "list" = some false ∧ kitB Ty "tuple" = some false ∧ Lets (He.ga K "InvalidPatterns") v H E) ∨
  ∃ dv ds, Dp K H v dv ∧ (dv = .list ds ∨ dv = .tuple ds) ∧ ds.length ≤ 1000 ∧ (1 ≤ ds.length → ds.length ≤ 8 → ∀ x ∈ ds, PreP x) ∧
    ((((decide ((1 : Int) ≤ (ds.length : Int)) && decide ((ds.length : Int) ≤ 8)) && ds.all isPatF) = false ∧ Lets (He.ga K "InvalidPatterns") v H E) ∨
     (((decide ((1 : Int) ≤ (ds.length : Int)) && decide ((ds.length : Int) ≤ 8)) && ds.all isPatF) = true ∧ ∃ d2, Dp K H v2 d2 ∧ PlQ d2 ∧
      ((plR 32 d2 = false ∧ Lets (He.ga K "InvalidValue") v2 H E) ∨ (plR 32 d2 = true ∧ (∀ z ∈ ds, PatD 4 z) ∧ ValQ d2 ∧ ∀ r H', Ex H H' → Dp K H' r (firstF ds d2) → Q r H')))))
theorem sc_first_rule : FnScope ["patterns", "value"] ["patterns", "value"] (defScope s63) := ⟨rfl, rfl, rfl, by decide +kernel, rfl, by decide +kernel, by decide +kernel⟩
theorem ok_first_ruleK (T : Tx K mg) (R : ErrT K) : DfK P w K mg base (L2.CX P w) 13 "first_rule" s63 ["patterns", "value"] (spFirst K) := by
  have D_are_patterns := ok_are_patterns (P := P) (w := w) (base := base) T
  have D_want_value := ok_want_value (P := P) (w := w) (base := base) T R
  have D_first_of := ok_first_of (P := P) (w := w) (base := base) T
  refine df_okXK T.f_first_rule sc_first_rule (fun vs H Q E h => by
    obtain ⟨v, v2, rfl, _⟩ := h
    rfl) fun cdv A outer s H vs Q E hr tk h => ?_
  obtain ⟨v, v2, rfl, h⟩ := h
  refine ⟨_, (pss_cons (ps_if (pt_not (pt_val (pe_df D_are_patterns hr (pa_cons (pv 0) pa_nil)))) (pss_one (ps_rz rfl T R R.e2 T.g_InvalidPatterns hr tk (pa_cons (pv 0) pa_nil))) pss_nil)
      (pss_cons (ps_expr (pe_dfS D_want_value hr tk (pa_cons (pv 1) pa_nil)))
      (pss_one (ps_ret (pe_df D_first_of hr (pa_cons (pv 0) (pa_cons (pv 1) pa_nil))))))), ?_⟩
  rcases h with ⟨Ty, ht, h1, h2, q⟩ | ⟨dv, ds, hd, hdv, hl, hp, q⟩
  · refine q_when (b := true) (et_not (a := false) fun H1 e1 Q1 q1 => ⟨v, rfl, v, rfl, .inl ⟨Ty, tyX_mono e1 ht, h1, h2, fun H2 e2 => ⟨_, rfl, q1 H2 e2⟩⟩⟩) (fun _ H1 e1 => ⟨v, rfl, v, rfl, fun dd hdd => q H1 dd e1 hdd⟩) (fun e => by cases e)
  refine q_when (et_not fun H1 e1 Q1 q1 => ⟨v, rfl, v, rfl, .inr ⟨dv, ds, dpMono e1 _ _ hd, hdv, hl, hp, fun H2 e2 => ⟨_, rfl, q1 H2 e2⟩⟩⟩) (fun hb H1 e1 => ?_) (fun hb H1 e1 => ?_)
  · rcases q with ⟨h1, q⟩ | ⟨h1, q⟩
    · exact ⟨v, rfl, v, rfl, fun dd hdd => q H1 dd e1 hdd⟩
    · rw [h1] at hb
      cases hb
  · rcases q with ⟨h1, q⟩ | ⟨h1, d2, hd2, hq, q⟩
    · rw [h1] at hb
      cases hb
    refine q_dropX ⟨v2, rfl, v2, d2, rfl, dpMono e1 _ _ hd2, hq, ?_⟩
    rcases q with ⟨h2, q⟩ | ⟨h2, hpd, hvq, q⟩
    · exact .inr ⟨h2, fun H' d e h => q H' d (e1.trans e) h⟩
    · refine .inl ⟨h2, fun H2 e2 => ?_⟩
      have E2 := e1.trans e2
      refine s_retX (t_call (t_cons ⟨v, rfl, t_cons ⟨v2, rfl, v, dv, v2, d2, ds, rfl, dpMono E2 _ _ hd, hdv, dpMono E2 _ _ hd2, hvq, hpd, fun r H3 e3 hr => q r H3 (E2.trans e3) hr⟩⟩))
theorem ok_first_rule (T : Tx K mg) (R : ErrT K) : Df P w K mg base (L2.CX P w) 13 "first_rule" ["patterns", "value"] (spFirst K) :=
  (ok_first_ruleK T R).df T.g_first_rule fun _ _ _ _ _ _ us hl => match us, hl with | [_, _], _ => rfl
end
end K25

end

section
set_option maxHeartbeats 4000000
namespace K25
open PySem PySem.Spec PyProof.Rows L2 Evl
/-! ### the pot -/
def Pot (H : Hp) (p : Addr) : Prop := ∃ a b : Int, H p = some (.lst [.int a, .int b]) ∧ 0 ≤ b ∧ b < 4294967296
theorem Pot.ex {H H' : Hp} {p : Addr} (h : Pot H p) (e : Ex H H') : Pot H' p := by
  obtain ⟨a, b, h1, h2⟩ := h
  exact ⟨a, b, e _ _ h1, h2⟩
theorem Pot.tk {K : PySem.W.Frag} {H H' : Hp} {p : Addr} (h : Pot H p) (k : Kp [p] H H') : TK K H H' := by
  obtain ⟨a, b, h1, _⟩ := h
  exact k.tk1 h1
theorem Pot.ne {H : Hp} {p q : Addr} (h : Pot H p) (hq : H q = none) : q ≠ p := fun z => by
  obtain ⟨a, b, h1, _⟩ := h
  rw [z, h1] at hq
  cases hq
/-! ### data that the pot is no part of -/
def isPot2 : List PyData → Bool
  | [.int _, .int _] => true
  | _ => false
mutual
def npt : PyData → Bool
  | .list ds => !isPot2 ds && nptAll ds
  | .tuple ds => nptAll ds
  | .dict _ => false
  | _ => true
def nptAll : List PyData → Bool
  | [] => true
  | d :: ds => npt d && nptAll ds
end
theorem npt_at : ∀ {ds : List PyData}, nptAll ds = true → ∀ {i : Nat} {d : PyData}, ds[i]? = some d → npt d = true
  | [], _, i, d, h => by simp at h
  | x :: r, f, i, d, h => by
    have f2 : npt x = true ∧ nptAll r = true := by simpa [nptAll] using f
    cases i with
    | zero =>
      simp at h
      subst h
      exact f2.1
    | succ i => exact npt_at f2.2 (i := i) (by simpa using h)
theorem npt_all {ds : List PyData} (h : ∀ d ∈ ds, npt d = true) : nptAll ds = true := by
  induction ds with
  | nil => rfl
  | cons x r ih =>
    have h1 := h x List.mem_cons_self
    have h2 := ih fun d hd => h d (List.mem_cons_of_mem _ hd)
    simp [nptAll, h1, h2]
mutual
theorem npt_frz : ∀ d : PyData, frz d = true → npt d = true
  | .none, _ => by simp [npt]
  | .bool _, _ => by simp [npt]
  | .int _, _ => by simp [npt]
  | .str _, _ => by simp [npt]
  | .list _, h => by cases h
  | .dict _, h => by cases h
  | .tuple ds, h => by
    have := npt_frzAll ds (by simpa [frz] using h)
    simpa [npt] using this
theorem npt_frzAll : ∀ ds : List PyData, frzAll ds = true → nptAll ds = true
  | [], _ => rfl
  | d :: ds, h => by
    have h2 : frz d = true ∧ frzAll ds = true := by simpa [frzAll] using h
    have a := npt_frz d h2.1
    have b := npt_frzAll ds h2.2
    simp [nptAll, a, b]
end
mutual
theorem dpKp {K : PySem.W.Frag} {H H' : Hp} {p : Addr} (hp : Pot H p) (e : Kp [p] H H') : ∀ (d : PyData) (v : V), npt d = true → Dp K H v d → Dp K H' v d
  | .none, _, _, h => by cases h; exact .non
  | .bool _, _, _, h => by cases h; exact .bl _
  | .int _, _, _, h => by cases h; exact .int _
  | .str _, _, _, h => by cases h; exact .str _
  | .list ds, _, f, h => by
    have f2 : isPot2 ds = false ∧ nptAll ds = true := by simpa [npt] using f
    cases h with
    | @lst a xs _ hs ha =>
      refine .lst ?_ (dpsKp hp e ds _ f2.2 ha)
      rcases hs with (hs | ⟨o, hs⟩) | hs
      · refine .inl (.inl (e a _ (fun z => ?_) hs))
        have z' : a = p := by simpa using z
        obtain ⟨i, j, hij, _⟩ := hp
        rw [z', hij] at hs
        cases hs
        cases ha with
        | cons h1 h2 =>
          cases h2 with
          | cons h3 h4 =>
            cases h4
            cases h1
            cases h3
            cases f2.1
      · refine .inl (.inr ⟨o, e a _ (fun z => ?_) hs⟩)
        have z' : a = p := by simpa using z
        obtain ⟨i, j, hij, _⟩ := hp
        rw [z', hij] at hs
        cases hs
      · exact .inr hs
  | .tuple ds, _, f, h => by
    have f2 : nptAll ds = true := by simpa [npt] using f
    cases h with
    | tup hs ha => exact .tup ((hp.tk e) _ _ hs) (dpsKp hp e ds _ f2 ha)
  | .dict _, _, _, h => by cases h
theorem dpsKp {K : PySem.W.Frag} {H H' : Hp} {p : Addr} (hp : Pot H p) (e : Kp [p] H H') : ∀ (ds : List PyData) (vs : List V), nptAll ds = true → DpAll K H vs ds → DpAll K H' vs ds
  | [], _, _, h => by cases h; exact .nil
  | d :: ds, _, f, h => by
    have f2 : npt d = true ∧ nptAll ds = true := by simpa [nptAll] using f
    cases h with
    | cons h1 h2 => exact .cons (dpKp hp e d _ f2.1 h1) (dpsKp hp e ds _ f2.2 h2)
end
section
variable {P : Program} {w : World} {K : PySem.W.Frag} {mg : Str → Option Value} {base : Heap}
section
variable {σ : L2.St} {H : Hp} {ta tb te : TE} {i j : Int}
theorem t_cb {r : List V → Hp → VK → Prop} {t : TA} {σ : L2.St} {H : Hp} {Q : VK} (h : t σ H fun vs H1 => r vs H1 Q) : tCB r t σ H Q := h
theorem ev_ixI {a : Addr} {xs : List V} {k : Nat} {v : V} (h : Ev ta σ H (.ref a)) (hs : SqL K H a xs) (hx : xs[k]? = some v) : Ev (tOp (rIxL K) ta (tC (.int (k : Int)))) σ H v := ev_op h ev_c (rv_ixL hs (atI_nat hx))
theorem ev_mulC (h : Ev ta σ H (.int i)) (h2 : Ev tb σ H (.int j)) (hc : CMul i j) : Ev (tOp (rI CMul fun i j => .int (i * j)) ta tb) σ H (.int (i * j)) := ev_op h h2 (rv_I hc)
theorem ev_modC (h : Ev ta σ H (.int i)) (h2 : Ev tb σ H (.int j)) (hc : 0 < j) : Ev (tOp (rI (fun _ j => 0 < j) fun i j => .int (i % j)) ta tb) σ H (.int (i % j)) := ev_op h h2 (rv_I hc)
theorem ev_divC (h : Ev ta σ H (.int i)) (h2 : Ev tb σ H (.int j)) (hc : CDiv i j) : Ev (tOp (rI CDiv fun i j => .int (i / j)) ta tb) σ H (.int (i / j)) := ev_op h h2 (rv_I hc)
theorem ev_addC (h : Ev ta σ H (.int i)) (h2 : Ev tb σ H (.int j)) : Ev (tOp (rI0 fun i j => .int (i + j)) ta tb) σ H (.int (i + j)) := ev_op h h2 rv_I0
theorem ev_subC (h : Ev ta σ H (.int i)) (h2 : Ev tb σ H (.int j)) : Ev (tOp (rI0 fun i j => .int (i - j)) ta tb) σ H (.int (i - j)) := ev_op h h2 rv_I0
theorem ev_powC (h : Ev ta σ H (.int i)) (h2 : Ev tb σ H (.int j)) (hc : CPow i j) : Ev (tOp (rI CPow fun i j => .int (i ^ j.toNat)) ta tb) σ H (.int (i ^ j.toNat)) := ev_op h h2 (rv_I hc)
theorem ev_int1 (h : Ev ta σ H (.int i)) : Ev (tCB (fun xs H Q => (∃ i, xs = [.int i] ∧ Q (.int i) H) ∨ ∃ k, xs = [.bl k] ∧ Q (.int (if k then 1 else 0)) H) (tCons ta tNil)) σ H (.int i) := fun H1 e Q q =>
  h H1 e _ fun H2 e2 => .inl ⟨i, rfl, q H2 e2⟩
theorem ev_absC (h : Ev ta σ H (.int i)) : Ev (tCB (fun xs H Q => ∃ i, xs = [.int i] ∧ Q (.int (if i < 0 then -i else i)) H) (tCons ta tNil)) σ H (.int (if i < 0 then -i else i)) := fun H1 e Q q =>
  h H1 e _ fun H2 e2 => ⟨i, rfl, q H2 e2⟩
theorem ev_lenL {a : Addr} {xs : List V} (h : Ev ta σ H (.ref a)) (hs : SqL K H a xs) : Ev (tCB (rLenG K) (tCons ta tNil)) σ H (.int (xs.length : Int)) := fun H1 e Q q =>
  h H1 e _ fun H2 e2 => ⟨.ref a, xs.length, rfl, .inl ⟨xs, ex_l (e.trans e2) hs, rfl⟩, q H2 e2⟩
end
theorem sc__law_pot : FnScope ["_law_script", "_law_k", "_law_cell", "_law_low"] ["_law_script", "_law_k"] (defScope s65) := ⟨rfl, rfl, rfl, by decide +kernel, rfl, by decide +kernel, by decide +kernel⟩
theorem ok__law_pot (T : Tx K mg) : Df P w K mg base CX0 1 "_law_pot" ["_law_script", "_law_k"] (fun vs H Q _ => ∃ (a : Addr) (ns : List Int), vs = [.ref a, .int 0] ∧ SqL K H a (ns.map V.int) ∧ ∀ p H', Ex H H' → H p = none → Pot H' p → Q (.ref p) H') := by
  refine df_ok T.f__law_pot T.g__law_pot sc__law_pot (fun vs H Q E h => by
    obtain ⟨a, ns, rfl, _⟩ := h
    rfl) (fun _ _ _ _ _ _ us hl => match us, hl with | [_, _], _ => rfl) fun cdv A outer s H vs Q E hr h => ?_
  obtain ⟨a, ns, rfl, hs, q⟩ := h
  have nd := sc__law_pot.nd
  refine ⟨_, (pss_cons (ps_set (i := 2) nd rfl (Or.inl rfl) (pe_ifExp (pt_cmpR op_lt (pv 1) (pe_callB c_len (by rfl) T.n_len (by decide +kernel) (pa_cons (pv 0) pa_nil)) (nomark _)) (pe_callB call_abs (by rfl) T.n_abs (by decide +kernel) (pa_cons (pe_ix ix_list (pv 0) (pv 1) (fun _ _ => rfl)) pa_nil)) (pe_op op_add (pe_op op_mul pe_int (pv 1)) pe_int)))
      (pss_cons (ps_set (i := 3) nd rfl (Or.inl rfl) (pe_op op_add (pe_op op_mod (pe_callTy call_int1 (by rfl) T.n_int b_int (pa_cons (pe_op op_add (pe_op op_add (pe_op op_mul (pe_op op_mod (pe_callTy call_int1 (by rfl) T.n_int b_int (pa_cons (pv 2) pa_nil)) pe_int) pe_int) (pe_op op_mul pe_int (pv 1))) pe_int) pa_nil)) pe_int) pe_int))
      (pss_one (ps_ret (pe_lst (pa_cons (pe_callB (call_max2 rfl) (by rfl) T.n_max (by decide +kernel) (pa_cons pe_int (pa_cons (pe_op op_sub (pv 2) (pe_op op_pow pe_int pe_int)) pa_nil))) (pa_cons (pv 3) pa_nil))))))), ?_⟩
  have fin : ∀ (c : Int) (H1 : Hp), Ex H H1 → tSeq (tAsg (tOp (rI0 fun i j => .int (i + j)) (tOp (rI (fun _ j => 0 < j) fun i j => .int (i % j)) (tCB (fun xs H Q => (∃ i, xs = [.int i] ∧ Q (.int i) H) ∨ ∃ k, xs = [.bl k] ∧ Q (.int (if k then 1 else 0)) H) (tCons (tOp (rI0 fun i j => .int (i + j)) (tOp (rI0 fun i j => .int (i + j)) (tOp (rI CMul fun i j => .int (i * j)) (tOp (rI (fun _ j => 0 < j) fun i j => .int (i % j)) (tCB (fun xs H Q => (∃ i, xs = [.int i] ∧ Q (.int i) H) ∨ ∃ k, xs = [.bl k] ∧ Q (.int (if k then 1 else 0)) H) (tCons (tVar 2) tNil)) (tC (.int 2147483549))) (tC (.int 48271))) (tOp (rI CMul fun i j => .int (i * j)) (tC (.int 9221)) (tVar 1))) (tC (.int 103))) tNil)) (tC (.int 2147483563))) (tC (.int 1))) (gName 3))
      (tRet (tLst (tCons (tCB (fun xs H Q => ∃ i j, xs = [.int i, .int j] ∧ Q (.int (if j > i then j else i)) H) (tCons (tC (.int 0)) (tCons (tOp (rI0 fun i j => .int (i - j)) (tVar 2) (tOp (rI CPow fun i j => .int (i ^ j.toNat)) (tC (.int 10)) (tC (.int 18)))) tNil))) (tCons (tVar 3) tNil)))) { nx := fun _ H' => Q .non H', rt := Q } [some (.ref a), some (.int 0), some (.int c), none] H1 := fun c H1 e1 => by
    refine q_asg (ev_addC (ev_modC (ev_int1 (ev_addC (ev_addC (ev_mulC (ev_modC (ev_int1 (ev_var rfl)) ev_c (by decide)) ev_c (.inr (by decide))) (ev_mulC ev_c (ev_var rfl) (.inl (by decide)))) ev_c)) ev_c (by decide)) ev_c) fun H2 e2 => ?_
    refine s_retL (el_lst (ea_cons (ev_max2 ev_c (ev_subC (ev_var rfl) (ev_powC ev_c ev_c ⟨by decide, by decide, by decide⟩))) (ea_cons (ev_var rfl) ea_nil)) (by simp)) fun p H3 hp e3 h3 => q p H3 ((e1.trans e2).trans e3) (fresh_back (e1.trans e2) hp) ⟨_, _, h3, ?_, ?_⟩
    · have := Int.emod_nonneg (c % 2147483549 * 48271 + 9221 * 0 + 103) (show (2147483563 : Int) ≠ 0 by decide)
      omega
    · have := Int.emod_lt_of_pos (c % 2147483549 * 48271 + 9221 * 0 + 103) (show (0 : Int) < 2147483563 by decide)
      omega
  have hl := ev_lenL (K := K) (ta := tVar 0) (σ := L2.start ["_law_script", "_law_k", "_law_cell", "_law_low"] [.ref a, .int 0]) (H := H) (ev_var rfl) hs
  cases ns with
  | nil => exact q_asg (ev_if (b := false) (et_test (ev_op (ev_var rfl) hl rv_I0)) (fun e => by cases e) fun _ => ev_addC (ev_mulC ev_c (ev_var rfl) (.inl (by decide))) ev_c) fun H1 e1 => fin _ H1 e1
  | cons n r =>
    refine q_asg (ev_if (b := true) (et_is (et_test (ev_op (ev_var rfl) hl rv_I0)) (by simp)) (fun _ => ev_absC (i := n) (ev_op (ev_var rfl) (ev_var rfl) (rv_ixL hs (atI_nat (j := 0) rfl)))) fun e => by cases e) fun H1 e1 => fin _ H1 e1
/-- a draw below n -/
def spDraw : Sp := fun vs H Q _ => ∃ p n, vs = [.ref p, .int n] ∧ 0 < n ∧ n < 1000000000 ∧ Pot H p ∧ ∀ d H', 0 ≤ d → d < n → Kp [p] H H' → Pot H' p → Q (.int d) H'
theorem sc__law_draw : FnScope ["_law_pot_here", "_law_size", "_law_digit"] ["_law_pot_here", "_law_size"] (defScope s66) := ⟨rfl, rfl, rfl, by decide +kernel, rfl, by decide +kernel, by decide +kernel⟩
theorem ok__law_draw (T : Tx K mg) : Df P w K mg base CX0 1 "_law_draw" ["_law_pot_here", "_law_size"] spDraw := by
  refine df_ok T.f__law_draw T.g__law_draw sc__law_draw (fun vs H Q E h => by
    obtain ⟨a, ns, rfl, _⟩ := h
    rfl) (fun _ _ _ _ _ _ us hl => match us, hl with | [_, _], _ => rfl) fun cdv A outer s H vs Q E hr h => ?_
  obtain ⟨p, n, rfl, hn0, hn1, ⟨a, b, hp, hb0, hb1⟩, q⟩ := h
  have nd := sc__law_draw.nd
  refine ⟨_, (pss_cons (ps_if (pt_cmpR op_gt (pe_ix ix_list (pv 0) pe_int (fun _ _ => rfl)) pe_int (nomark _)) (pss_cons (ps_asg (pe_callB call_divmod (by rfl) T.n_divmod (by decide +kernel) (pa_cons (pe_ix ix_list (pv 0) pe_int (fun _ _ => rfl)) (pa_cons (pv 1) pa_nil))) (pg_tup rfl (pgs_cons (pg_sub (pv 0) pe_int set_list) (pgs_cons (pg_name (i := 2) nd rfl (Or.inl rfl)) pgs_nil))))
      (pss_one (ps_ret (pv 2)))) pss_nil)
      (pss_cons (ps_asg (pe_op op_mod (pe_callTy call_int1 (by rfl) T.n_int b_int (pa_cons (pe_op op_add (pe_op op_mul (pe_ix ix_list (pv 0) pe_int (fun _ _ => rfl)) pe_int) pe_int) pa_nil)) pe_int) (pg_sub (pv 0) pe_int set_list))
      (pss_one (ps_ret (pe_op op_mod (pe_callTy call_int1 (by rfl) T.n_int b_int (pa_cons (pe_op op_fdiv (pe_op op_mod (pe_callTy call_int1 (by rfl) T.n_int b_int (pa_cons (pe_op op_mul (pe_ix ix_list (pv 0) pe_int (fun _ _ => rfl)) (pe_ix ix_list (pv 0) pe_int (fun _ _ => rfl))) pa_nil)) pe_int) pe_int) pa_nil)) (pv 1)))))), ?_⟩
  have hm1 : (b * 40014 + 9221) % 2147483563 < 2147483563 := Int.emod_lt_of_pos _ (by decide)
  have hm0 : 0 ≤ (b * 40014 + 9221) % 2147483563 := Int.emod_nonneg _ (by decide)
  refine q_when (b := decide (0 < a)) (et_test (ev_op (ev_ixI (k := 0) (ev_var rfl) (SqL.of hp) rfl) ev_c rv_I0)) (fun hc H1 e1 => ?_) (fun hc H1 e1 => ?_)
  · have hp1 := e1 _ _ hp
    refine q_asgX (t_cb (t_cons ?_))
    refine ev_ixI (K := K) (k := 0) (ta := tVar 0) (ev_var rfl) (SqL.of hp1) rfl H1 (Ex.refl _) _ fun H2 e2 => t_cons ⟨.int n, rfl, ?_⟩
    refine ⟨a, n, rfl, ⟨hn0, by omega⟩, fun TT hT => ?_⟩
    have eT : Ex H2 (upd H2 TT (.tup [.int (a / n), .int (a % n)])) := Ex.new hT
    have hp2 := eT p _ (e2 _ _ hp1)
    refine ⟨TT, _, rfl, SqT.of upd_same, rfl, .int (a / n), _, rfl, ?_⟩
    refine ⟨.ref p, rfl, p, _, 0, 0, rfl, rfl, hp2, rfl, .int (a % n), [], rfl, rfl, ?_⟩
    refine s_retVar rfl (q _ _ (Int.emod_nonneg _ (by omega)) (Int.emod_lt_of_pos _ hn0) ((Kp.ex ((e1.trans e2).trans eT)).trans (Kp.setM (by simp))) ⟨_, _, upd_same, hb0, hb1⟩)
  · have hp1 := e1 _ _ hp
    refine q_asgX ?_
    refine ev_modC (ev_int1 (ev_addC (ev_mulC (ev_ixI (K := K) (k := 1) (ta := tVar 0) (ev_var rfl) (SqL.of hp1) rfl) ev_c (.inr (by decide))) ev_c)) ev_c (by decide) H1 (Ex.refl _) _ fun H2 e2 => ?_
    have hp2 := e2 _ _ hp1
    refine ⟨.ref p, rfl, p, _, 1, 1, rfl, rfl, hp2, rfl, ?_⟩
    have hp3 : upd H2 p (.lst ([V.int a, .int b].set 1 (.int ((b * 40014 + 9221) % 2147483563)))) p = some (.lst [V.int a, .int ((b * 40014 + 9221) % 2147483563)]) := upd_same
    have k3 : Kp [p] H (upd H2 p (.lst ([V.int a, .int b].set 1 (.int ((b * 40014 + 9221) % 2147483563))))) := (Kp.ex (e1.trans e2)).trans (Kp.setM (by simp))
    revert hp3 k3
    generalize upd H2 p (.lst ([V.int a, .int b].set 1 (.int ((b * 40014 + 9221) % 2147483563)))) = H3
    intro hp3 k3
    have ix1 := ev_ixI (K := K) (k := 1) (ta := tVar 0) (σ := L2.start ["_law_pot_here", "_law_size", "_law_digit"] [.ref p, .int n]) (H := H3) (ev_var rfl) (SqL.of hp3) rfl
    refine s_ret (ev_modC (ev_int1 (ev_divC (ev_modC (ev_int1 (ev_mulC ix1 ix1 (.inl ⟨by omega, by omega⟩))) ev_c (by decide)) ev_c ⟨by decide, by decide⟩)) (ev_var rfl) hn0) fun H4 e4 => ?_
    exact q _ _ (Int.emod_nonneg _ (by omega)) (Int.emod_lt_of_pos _ hn0) (k3.trans (Kp.ex e4)) ⟨_, _, e4 _ _ hp3, hm0, by omega⟩
/-- one of some data, that stand in a list -/
def spPick (K : PySem.W.Frag) : Sp := fun vs H Q _ => ∃ p a xs ds, vs = [.ref p, .ref a] ∧ H a = some (.lst xs) ∧ a ≠ p ∧ DpAll K H xs ds ∧ nptAll ds = true ∧ ds ≠ [] ∧ ds.length ≤ 1000 ∧ Pot H p ∧ ∀ r d H', d ∈ ds → Dp K H' r d → Kp [p] H H' → Pot H' p → Q r H'
theorem sc__law_pick : FnScope ["_law_pot_here", "_law_some"] ["_law_pot_here", "_law_some"] (defScope s67) := ⟨rfl, rfl, rfl, by decide +kernel, rfl, by decide +kernel, by decide +kernel⟩
theorem ok__law_pick (T : Tx K mg) : Df P w K mg base CX0 2 "_law_pick" ["_law_pot_here", "_law_some"] (spPick K) := by
  have D__law_draw := ok__law_draw (P := P) (w := w) (base := base) T
  refine df_ok T.f__law_pick T.g__law_pick sc__law_pick (fun vs H Q E h => by
    obtain ⟨p, a, xs, ds, rfl, _⟩ := h
    rfl) (fun _ _ _ _ _ _ us hl => match us, hl with | [_, _], _ => rfl) fun cdv A outer s H vs Q E hr h => ?_
  obtain ⟨p, a, xs, ds, rfl, ha, hap, hx, hn, h0, hl, hp, q⟩ := h
  have nd := sc__law_pick.nd
  refine ⟨_, (pss_one (ps_ret (pe_ix ix_list (pv 1) (pe_df D__law_draw hr (pa_cons (pv 0) (pa_cons (pe_callB c_len (by rfl) T.n_len (by decide +kernel) (pa_cons (pv 1) pa_nil)) pa_nil))) (fun _ _ => rfl)))), ?_⟩
  have hxl := dps_len hx
  have h1 : 1 ≤ xs.length := by
    rw [hxl]
    cases ds with
    | nil => exact absurd rfl h0
    | cons x r => simp
  refine s_retX ⟨.ref a, rfl, t_call (t_cons ⟨.ref p, rfl, t_cons ?_⟩)⟩
  refine ev_lenL (K := K) (ta := tVar 1) (ev_var rfl) (SqL.of ha) H (Ex.refl _) _ fun H1 e1 => ?_
  refine ⟨p, _, rfl, by omega, by omega, hp.ex e1, fun d H2 hd0 hd1 k2 hp2 => ?_⟩
  obtain ⟨i, rfl⟩ := Int.eq_ofNat_of_zero_le hd0
  have hi : i < xs.length := by omega
  obtain ⟨dd, hdd, hdx⟩ := dps_of i hx (List.getElem?_eq_getElem hi)
  refine ⟨a, xs, (i : Int), _, rfl, rfl, SqL.of (k2 a _ (by simpa using hap) (e1 _ _ ha)), atI_nat (List.getElem?_eq_getElem hi), ?_⟩
  exact q _ dd H2 (List.mem_of_getElem? hdd) (dpKp (hp.ex e1) k2 _ _ (npt_at hn hdd) (dpMono e1 _ _ hdx)) ((Kp.ex e1).trans k2) hp2
end
end K25

end

section
set_option maxHeartbeats 4000000
namespace K25
open PySem PySem.Spec PyProof.Rows L2 Evl
/-! ### kinds -/
def kAtoms : List Str := ["int", "bool", "unit", "t", "u", "list", "option", "exn"]
inductive KindD : Nat → PyData → Prop
  | atom (n : Nat) (s : Str) (h : s ∈ kAtoms) : KindD n (.str s)
  | tup (n : Nat) (ds : List PyData) (h2 : 2 ≤ ds.length) (h3 : ds.length ≤ 3) (hd : ∀ d ∈ ds, KindD n d) : KindD (n + 1) (.tuple ds)
theorem kAtoms_ok : ∀ s ∈ kAtoms, sOk s := by decide +kernel
theorem KindD.frz {n : Nat} {d : PyData} (h : KindD n d) : K25.frz d = true := by
  induction h with
  | atom n s h => rfl
  | tup n ds h2 h3 hd ih => simpa [K25.frz] using frz_all ih
theorem KindD.wf {n : Nat} {d : PyData} (h : KindD n d) : K25.wf (n + 1) d = true := by
  induction h with
  | atom n s h => exact wf_any _ (kAtoms_ok s h)
  | tup n ds h2 h3 hd ih => exact wf_tup_mk (by omega) ih
section
variable {P : Program} {w : World} {K : PySem.W.Frag} {mg : Str → Option Value} {base : Heap}
/-! ### what is drawn -/
/-- te, from H with the pot at p, gives some data of that sort -/
def EP (K : PySem.W.Frag) (p : Addr) (te : TE) (σ : L2.St) (H : Hp) (G : PyData → Prop) : Prop := ∀ Q : VK, (∀ r d H', G d → Dp K H' r d → Kp [p] H H' → Pot H' p → Q r H') → te σ H Q
theorem ep_draw {σ : L2.St} {H : Hp} {p : Addr} {n : Int} {ta tb : TE} {E : XK} (hp : Pot H p) (ha : Ev ta σ H (.ref p)) (hb : Ev tb σ H (.int n)) (h0 : 0 < n := by decide) (h1 : n < 1000000000 := by decide) : EP K p (tCall spDraw [] E (tCons ta (tCons tb tNil))) σ H (fun d => ∃ i : Nat, d = .int (i : Nat) ∧ (i : Int) < n) := fun Q q =>
  ha H (Ex.refl _) _ fun H1 e1 => hb H1 e1 _ fun H2 e2 => ⟨p, n, rfl, h0, h1, hp.ex (e1.trans e2), fun d H' hd0 hd1 k hp' => by
    obtain ⟨i, rfl⟩ := Int.eq_ofNat_of_zero_le hd0
    exact q _ _ H' ⟨i, rfl, hd1⟩ (.int _) ((Kp.ex (e1.trans e2)).trans k) hp'⟩
theorem Kp.two {H0 H H' : Hp} {p q : Addr} (a : Kp [p] H0 H) (h : H0 q = none) (b : Kp [p, q] H H') : Kp [p] H0 H' := fun x o n hx => b x o (by
  simp only [List.mem_cons, List.mem_nil_iff, or_false] at n ⊢
  intro z
  rcases z with z | z
  · exact n z
  · rw [z, h] at hx
    cases hx) (a x o n hx)
/-- found.append(what is drawn) -/
theorem ep_app {D : Ends} {σ : L2.St} {H : Hp} {p q : Addr} {te : TE} {i : Nat} {G : PyData → Prop} {acc : List V} {ds : List PyData} (hqp : q ≠ p) (hq : H q = some (.lst acc)) (hs : σ[i]? = some (some (.ref q))) (hp : Pot H p) (hacc : DpAll K H acc ds) (hf : frzAll ds = true) (hl : ds.length < 1000)
    (hG : ∀ d, G d → K25.frz d = true) (h : EP K p te σ H G) (k : ∀ acc' d H', G d → H' q = some (.lst acc') → DpAll K H' acc' (ds ++ [d]) → Kp [p, q] H H' → Pot H' p → D.nx σ H') : tDrop (tBM K "list" rAppend (tVar i) (tCons te tNil)) D σ H :=
  ⟨.ref q, hs, Or.inl ⟨rfl, acc, sq_of hq⟩, h _ fun r d H1 g hd k1 hp1 => by
    have hq1 := k1 q _ (by simpa using hqp) hq
    refine ⟨q, acc, r, rfl, rfl, hq1, sz_lt (by rw [dps_len hacc]; omega), ?_⟩
    refine k (acc ++ [r]) d _ g upd_same (dps_app (dpsTK (TK.setL hq1) _ _ hf (dpsKp hp k1 _ _ (npt_frzAll _ hf) hacc)) (dps_one (dpTK (TK.setL hq1) _ _ (hG d g) hd))) (fun a o n ha => ?_) ?_
    · simp only [List.mem_cons, List.mem_nil_iff, or_false, not_or] at n
      rw [upd_ne n.2]
      exact k1 a o (by simpa using n.1) ha
    · obtain ⟨a, b, h1, h2⟩ := hp1
      exact ⟨a, b, by rw [upd_ne (Ne.symm hqp)]; exact h1, h2⟩⟩
/-- return tuple(found) -/
theorem ret_tupleL {D : Ends} {σ : L2.St} {H : Hp} {q : Addr} {i : Nat} {acc : List V} {r : List V → Hp → VK → Prop} (hr : ∀ H (Q : VK), SqL K H q acc → (∀ l, H l = none → Q (.ref l) (upd H l (.tup acc))) → r [.ref q] H Q) (hq : H q = some (.lst acc)) (hs : σ[i]? = some (some (.ref q))) (k : ∀ l, H l = none → D.rt (.ref l) (upd H l (.tup acc))) : tRet (tCB r (tCons (tVar i) tNil)) D σ H :=
  ⟨.ref q, hs, hr H _ (SqL.of hq) k⟩
theorem t_op {r : R2} {ta tb : TE} {σ : L2.St} {H : Hp} {Q : VK} (h : ta σ H fun x H1 => tb σ H1 fun y H2 => r x y H2 Q) : tOp r ta tb σ H Q := h
def For0 (J : It) (g : TG) (tb : TS) (D : Ends) (σ : L2.St) (H1 : Hp) : Prop := ∃ W : Nat → Nat → L2.St → Hp → Prop, (∃ m, W 0 m σ H1) ∧ ∀ i m σ H, W i m σ H →
    (J.stop i H ∧ D.nx σ H) ∨ (J.go i H ∧ ∃ N : L2.St → Hp → Prop, (∀ σ' H', N σ' H' → ∃ m', m' < m ∧ W (i + 1) m' σ' H') ∧ ∀ x H', J.yld i H x H' → g x σ H' fun σ2 H2 => tb { D with nx := N, ct := N, bk := D.nx } σ2 H2)
def ForT (J : It) (g : TG) (tb tz : TS) (D : Ends) (σ : L2.St) (H1 : Hp) : Prop := For0 J g tb { D with nx := tz D } σ H1
theorem q_forX {wi : TI} {g : TG} {tb tz : TS} {D : Ends} {σ : L2.St} {H : Hp} (h : wi σ H fun J H1 => ForT J g tb tz D σ H1) : tSeq (tFor wi g tb) tz D σ H := h
theorem forT_range {n j : Nat} {tb tz : TS} {D : Ends} {σ : L2.St} {H : Hp} (Pv : Nat → L2.St → Hp → Prop) (h0 : Pv 0 σ H) (hs : ∀ (i : Nat) σ' H', i < n → Pv i σ' H' → tb { D with nx := Pv (i + 1), ct := Pv (i + 1), bk := tz D } (σ'.set j (some (.int (i : Nat)))) H') (hd : ∀ σ' H', Pv n σ' H' → tz D σ' H') : ForT (Itr 0 n) (gName j) tb tz D σ H :=
  for_range (lo := 0) (n := n) (D := { D with nx := tz D }) Pv h0 (fun i σ' H' hi p => by
    show tb { D with nx := Pv (i + 1), ct := Pv (i + 1), bk := tz D } (σ'.set j (some (.int ((0 : Int) + (i : Int))))) H'
    rw [Int.zero_add]
    exact hs i σ' H' hi p) hd
theorem forT_tup {a : Addr} {xs : List V} {g : TG} {tb tz : TS} {D : Ends} {σ : L2.St} {H : Hp} (Pv : Nat → L2.St → Hp → Prop) (h0 : Pv 0 σ H) (hl : ∀ i σ' H', i ≤ xs.length → Pv i σ' H' → SqT K H' a xs) (hs : ∀ i x σ' H', xs[i]? = some x → Pv i σ' H' → g x σ' H' fun σ2 H2 => tb { D with nx := Pv (i + 1), ct := Pv (i + 1), bk := tz D } σ2 H2) (hd : ∀ σ' H', Pv xs.length σ' H' → tz D σ' H') : ForT (Itt K a) g tb tz D σ H :=
  for_tup (D := { D with nx := tz D }) Pv h0 hl hs hd
theorem forT_list {a : Addr} {xs : List V} {g : TG} {tb tz : TS} {D : Ends} {σ : L2.St} {H : Hp} (Pv : Nat → L2.St → Hp → Prop) (h0 : Pv 0 σ H) (hl : ∀ i σ' H', i ≤ xs.length → Pv i σ' H' → SqL K H' a xs) (hs : ∀ i x σ' H', xs[i]? = some x → Pv i σ' H' → g x σ' H' fun σ2 H2 => tb { D with nx := Pv (i + 1), ct := Pv (i + 1), bk := tz D } σ2 H2) (hd : ∀ σ' H', Pv xs.length σ' H' → tz D σ' H') : ForT (Itl K a) g tb tz D σ H :=
  for_list (D := { D with nx := tz D }) Pv h0 hl hs hd
theorem t_rng {ta : TA} {σ : L2.St} {H : Hp} {R : It → Hp → Prop} (h : ta σ H fun vs H1 => ∃ j : Int, vs = [.int j] ∧ -(2 ^ 62) ≤ j ∧ j < 2 ^ 62 ∧ R (Itr 0 j.toNat) H1) : iRng1 ta σ H R := h
theorem kp_none {H H' : Hp} {p l : Addr} (k : Kp [p] H H') (hl : H' l = none) (hlp : l ≠ p) : H l = none := by
  cases h0 : H l with
  | none => rfl
  | some o =>
    have := k l o (by simpa using hlp) h0
    rw [hl] at this
    cases this
def spKind (K : PySem.W.Frag) (n : Nat) : Sp := fun vs H Q _ => ∃ p, vs = [.ref p, .int (n : Nat)] ∧ Pot H p ∧ ∀ r d H', KindD n d → Dp K H' r d → Kp [p] H H' → Pot H' p → Q r H'
theorem sc__law_kind : FnScope ["_law_pot_here", "_law_deep", "_law_way", "_law_found", "_law_turn"] ["_law_pot_here", "_law_deep"] (defScope s69) := ⟨rfl, rfl, rfl, by decide +kernel, rfl, by decide +kernel, by decide +kernel⟩
def kNine : List PyData := (["int", "bool", "unit", "t", "u", "list", "option", "exn", "t"] : List Str).map PyData.str
theorem kNine_at : ∀ (i : Nat), i < 9 → ∃ s, kNine[i]? = some (.str s) ∧ s ∈ kAtoms := by
  intro i hi
  match i, hi with
  | 0, _ => exact ⟨_, rfl, by decide +kernel⟩
  | 1, _ => exact ⟨_, rfl, by decide +kernel⟩
  | 2, _ => exact ⟨_, rfl, by decide +kernel⟩
  | 3, _ => exact ⟨_, rfl, by decide +kernel⟩
  | 4, _ => exact ⟨_, rfl, by decide +kernel⟩
  | 5, _ => exact ⟨_, rfl, by decide +kernel⟩
  | 6, _ => exact ⟨_, rfl, by decide +kernel⟩
  | 7, _ => exact ⟨_, rfl, by decide +kernel⟩
  | 8, _ => exact ⟨_, rfl, by decide +kernel⟩
/-- the same, for one less -/
def less (n : Nat) (S : Nat → Sp) : Sp := fun vs H Q E => ∃ m, n = m + 1 ∧ S m vs H Q E
theorem cast_less {n m : Nat} (h : n = m + 1) : ((n : Nat) : Int) - 1 = ((m : Nat) : Int) := by omega
theorem kind_step (T : Tx K mg) (n : Nat) (hn : n ≤ 10) (D__law_kind : Df P w K mg base CX0 (n + 1) "_law_kind" ["_law_pot_here", "_law_deep"] (less n (spKind K))) : Df P w K mg base CX0 (n + 2) "_law_kind" ["_law_pot_here", "_law_deep"] (spKind K n) := by
  have D__law_draw := ok__law_draw (P := P) (w := w) (base := base) T
  refine df_ok T.f__law_kind T.g__law_kind sc__law_kind (fun vs H Q E h => by
    obtain ⟨p, rfl, _⟩ := h
    rfl) (fun _ _ _ _ _ _ us hl => match us, hl with | [_, _], _ => rfl) fun cdv A outer s H vs Q E hr h => ?_
  obtain ⟨p, rfl, hp, q⟩ := h
  have nd := sc__law_kind.nd
  refine ⟨_, (pss_cons (ps_set (i := 2) nd rfl (Or.inl rfl) (pe_df D__law_draw hr (pa_cons (pv 0) (pa_cons pe_int pa_nil))))
      (pss_cons (ps_if (PW.pt (pw_and (pt_cmpR op_gt (pv 2) pe_int (nomark _)) (pw_and1 (pt_cmpR op_gt (pv 1) pe_int (nomark _))))) (pss_cons (ps_set (i := 3) nd rfl (Or.inl rfl) (pe_lst pa_nil))
      (pss_cons (ps_for PassesOwn.never rfl (pi_range1 rfl T.n_range (pa_cons (pe_op op_add pe_int (pe_df D__law_draw hr (pa_cons (pv 0) (pa_cons pe_int pa_nil)))) pa_nil)) (pg_name (i := 4) nd rfl (Or.inl rfl))
      (pss_one (ps_expr (pe_bm PySem.F.plainAttrs_list PySem.F.slot_list_append PySem.F.type_list_append mt_append (pv 3) (pa_cons (pe_df D__law_kind hr (pa_cons (pv 0) (pa_cons (pe_op op_sub (pv 1) pe_int) pa_nil))) pa_nil)))))
      (pss_one (ps_ret (pe_callTy call_tuple_of (by rfl) T.n_tuple b_tuple (pa_cons (pv 3) pa_nil)))))) pss_nil)
      (pss_one (ps_ret (pe_ix ix_list (pe_lst (pa_cons pe_str (pa_cons pe_str (pa_cons pe_str (pa_cons pe_str (pa_cons pe_str (pa_cons pe_str (pa_cons pe_str (pa_cons pe_str (pa_cons pe_str pa_nil)))))))))) (pv 2) (fun _ _ => rfl)))))), ?_⟩
  refine q_asgX ((ep_draw (K := K) (n := 9) hp (ev_var rfl) ev_c) _ fun r d H1 hd hdr k1 hp1 => ?_)
  obtain ⟨i, rfl, hi⟩ := hd
  have hr' := dp_int hdr
  subst hr'
  refine q_when (et_and (et_cmp (K := K) (ed_cmpI (i := (i : Int)) (j := 6) (ed_var rfl (.int _)) ed_int)) fun _ => et_cmp (K := K) (ed_cmpI (i := (n : Int)) (j := 0) (ed_var rfl (.int _)) ed_int)) (fun hb H2 e2 => ?_) (fun hb H2 e2 => ?_)
  · obtain ⟨m, hm⟩ : ∃ m, n = m + 1 := by
      simp only [Bool.and_eq_true, decide_eq_true_eq] at hb
      exact ⟨n - 1, by omega⟩
    refine q_asgL (el_lst ea_nil (by simp)) fun l H3 hl e3 hl3 => ?_
    have hp3 := (hp1.ex e2).ex e3
    have k3 := (k1.trans (Kp.ex e2)).trans (Kp.ex e3)
    have hlp : l ≠ p := (hp1.ex e2).ne hl
    have hl0 : H l = none := kp_none (k1.trans (Kp.ex e2)) hl hlp
    refine q_forX (t_rng (t_cons (t_op (t_c ?_))))
    refine (ep_draw (K := K) (n := 2) hp3 (ev_var rfl) ev_c) _ fun r d H4 hd4 hdr4 k4 hp4 => ?_
    obtain ⟨j, rfl, hj⟩ := hd4
    have hr4 := dp_int hdr4
    subst hr4
    have hl4 := k4 l _ (by simpa using hlp) hl3
    have hto : ((2 : Int) + (j : Int)).toNat = 2 + j := by omega
    refine ⟨2, (j : Int), rfl, rfl, _, rfl, by omega, by omega, ?_⟩
    rw [hto]
    refine forT_range (n := 2 + j) (fun t σ' H' => (∃ x4, σ' = [some (.ref p), some (.int (n : Nat)), some (.int (i : Nat)), some (.ref l), x4]) ∧ Kp [p] H H' ∧ Pot H' p ∧ ∃ acc ds, H' l = some (.lst acc) ∧ DpAll K H' acc ds ∧ ds.length = t ∧ ∀ d ∈ ds, KindD m d) ⟨⟨_, rfl⟩, k3.trans k4, hp4, [], [], hl4, .nil, rfl, fun d hd => by cases hd⟩ (fun t σ' H' ht hh => ?_) (fun σ' H' hh => ?_)
    · obtain ⟨⟨x4, rfl⟩, k', hp', acc, ds, hacc, hda, hlen, hks⟩ := hh
      refine ep_app (G := KindD m) hlp hacc rfl hp' hda (frz_all fun d hd => (hks d hd).frz) (by omega) (fun d hd => hd.frz) (fun Q' q' => ?_) fun acc' d H5 hd5 hacc5 hda5 k5 hp5 => ⟨⟨_, rfl⟩, k'.two hl0 k5, hp5, acc', ds ++ [d], hacc5, hda5, by simp [hlen], fun x hx => ?_⟩
      · refine t_call (t_cons ⟨.ref p, rfl, t_cons (t_op ⟨.int (n : Nat), rfl, t_c ?_⟩)⟩)
        refine ⟨(n : Int), 1, rfl, rfl, m, hm, p, ?_, hp', q'⟩
        show [V.ref p, V.int ((n : Int) - 1)] = _
        rw [cast_less hm]
      · rcases List.mem_append.mp hx with hx | hx
        · exact hks x hx
        · rw [List.mem_singleton.mp hx]
          exact hd5
    · obtain ⟨⟨x4, rfl⟩, k', hp', acc, ds, hacc, hda, hlen, hks⟩ := hh
      refine ret_tupleL (acc := acc) (fun H Q hs hq => ⟨l, acc, rfl, .inl ⟨hs, hq⟩⟩) hacc rfl fun z hz => ?_
      subst hm
      exact q _ (.tuple ds) _ (.tup _ ds (by omega) (by omega) hks) (.tup (SqT.of upd_same) (dpsMono (Ex.new hz) _ _ hda)) (k'.trans (Kp.ex (Ex.new hz))) (hp'.ex (Ex.new hz))
  · obtain ⟨s, hs, hm⟩ := kNine_at i (by omega)
    refine sd_ret (K := K) (ed_ixL (n := i) (ds := kNine) (ed_lst (K := K) (ds := kNine) (ea_consD ed_str (ea_consD ed_str (ea_consD ed_str (ea_consD ed_str (ea_consD ed_str (ea_consD ed_str (ea_consD ed_str (ea_consD ed_str (ea_consD ed_str ea_nilD))))))))) (by decide)) (ed_var rfl (.int _)) hs) fun v H3 e3 hv => q v _ H3 (.atom _ s hm) hv ((k1.trans (Kp.ex e2)).trans (Kp.ex e3)) ((hp1.ex e2).ex e3)
theorem ok__law_kind (T : Tx K mg) : ∀ n : Nat, n ≤ 10 → Df P w K mg base CX0 (n + 2) "_law_kind" ["_law_pot_here", "_law_deep"] (spKind K n)
  | 0, h => kind_step T 0 h (by
      obtain ⟨fd, F⟩ := T.f__law_kind
      exact ⟨fd, F.ok sc__law_kind (fun _ _ _ _ h => by obtain ⟨m, h, _⟩ := h; omega) fun cdv A outer s H vs Q E hr h => by obtain ⟨m, h, _⟩ := h; omega, F.bindsN (fun _ _ _ _ _ _ us hl => match us, hl with | [_, _], _ => rfl), F.kp, T.g__law_kind⟩)
  | n + 1, h => kind_step T (n + 1) h ((ok__law_kind T n (by omega)).imp fun vs H Q E hh => by
      obtain ⟨m, hm, hh⟩ := hh
      have : m = n := by omega
      subst this
      exact hh)
end
end K25

end

section
set_option maxHeartbeats 4000000
namespace K25
open PySem PySem.Spec PyProof.Rows L2 Evl
/-! ### constructors -/
def cn (s : Str) (d : PyData) : PyData := .tuple [.str s, d]
def consT : List PyData := [cn "M.A" .none, cn "M.B" (.str "int"), cn "M.C" (.tuple [.str "t", .str "bool"])]
def consU : List PyData := [cn "M.D" (.tuple [.str "bool", .str "int"])]
def consL : List PyData := [cn "Nil" .none, cn "Cons" (.tuple [.str "int", .str "list"])]
def consO : List PyData := [cn "None" .none, cn "Some" (.str "t")]
def consE : List PyData := [cn "DivZero" .none, cn "Bounds" .none, cn "NoMore" .none, cn "NoMatch" .none, cn "M.F" .none, cn "M.E" (.str "int")]
def consD (d : PyData) : List PyData := match d with
  | .str s => if decide (s = "t") = true then consT else if decide (s = "u") = true then consU else if decide (s = "list") = true then consL else if decide (s = "option") = true then consO else if decide (s = "exn") = true then consE else []
  | _ => []
theorem conStrs_ok0 : ∀ s ∈ conStrs, sOk s ∧ longBigD (.str s) = true := by decide +kernel
theorem conStrs_ok (s : Str) (h : s ∈ conStrs) : sOk s ∧ (longBigD (.str s) = true ∧ s ∈ conStrs) := ⟨(conStrs_ok0 s h).1, (conStrs_ok0 s h).2, h⟩
/-- a name with what it holds -/
def IsCn (d : PyData) : Prop := ∃ s e, d = cn s e ∧ s ∈ conStrs ∧ (e = .none ∨ KindD 1 e)
theorem cn0 (s : Str) (h : s ∈ conStrs) : IsCn (cn s .none) := ⟨s, _, rfl, h, .inl rfl⟩
theorem cn1 (s t : Str) (h : s ∈ conStrs) (ht : t ∈ kAtoms) : IsCn (cn s (.str t)) := ⟨s, _, rfl, h, .inr (.atom _ _ ht)⟩
theorem cn2 (s t u : Str) (h : s ∈ conStrs) (ht : t ∈ kAtoms) (hu : u ∈ kAtoms) : IsCn (cn s (.tuple [.str t, .str u])) := ⟨s, _, rfl, h, .inr (.tup 0 _ (by simp) (by simp) fun d hd => by
  simp only [List.mem_cons, List.mem_nil_iff, or_false] at hd
  rcases hd with rfl | rfl
  · exact .atom _ _ ht
  · exact .atom _ _ hu)⟩
def kFive : List Str := ["t", "u", "list", "option", "exn"]
theorem consD_ok : ∀ s ∈ kFive, consD (.str s) ≠ [] ∧ (consD (.str s)).length ≤ 6 ∧ ∀ d ∈ consD (.str s), IsCn d := by
  intro s hs
  simp only [kFive, List.mem_cons, List.mem_nil_iff, or_false] at hs
  rcases hs with rfl | rfl | rfl | rfl | rfl
  · have e : consD (.str "t") = consT := by
      rw [consD]
      rw [show decide (Str.ofString "t" = Str.ofString "t") = true by decide +kernel]
      rfl
    rw [e]
    refine ⟨by simp [consT], by decide, fun d hd => ?_⟩
    simp only [consT, List.mem_cons, List.mem_nil_iff, or_false] at hd
    rcases hd with rfl | rfl | rfl
    · exact cn0 _ (by decide +kernel)
    · exact cn1 _ _ (by decide +kernel) (by decide +kernel)
    · exact cn2 _ _ _ (by decide +kernel) (by decide +kernel) (by decide +kernel)
  · have e : consD (.str "u") = consU := by
      rw [consD]
      rw [show decide (Str.ofString "u" = Str.ofString "t") = false by decide +kernel, show decide (Str.ofString "u" = Str.ofString "u") = true by decide +kernel]
      rfl
    rw [e]
    refine ⟨by simp [consU], by decide, fun d hd => ?_⟩
    simp only [consU, List.mem_cons, List.mem_nil_iff, or_false] at hd
    subst hd
    exact cn2 _ _ _ (by decide +kernel) (by decide +kernel) (by decide +kernel)
  · have e : consD (.str "list") = consL := by
      rw [consD]
      rw [show decide (Str.ofString "list" = Str.ofString "t") = false by decide +kernel, show decide (Str.ofString "list" = Str.ofString "u") = false by decide +kernel, show decide (Str.ofString "list" = Str.ofString "list") = true by decide +kernel]
      rfl
    rw [e]
    refine ⟨by simp [consL], by decide, fun d hd => ?_⟩
    simp only [consL, List.mem_cons, List.mem_nil_iff, or_false] at hd
    rcases hd with rfl | rfl
    · exact cn0 _ (by decide +kernel)
    · exact cn2 _ _ _ (by decide +kernel) (by decide +kernel) (by decide +kernel)
  · have e : consD (.str "option") = consO := by
      rw [consD]
      rw [show decide (Str.ofString "option" = Str.ofString "t") = false by decide +kernel, show decide (Str.ofString "option" = Str.ofString "u") = false by decide +kernel, show decide (Str.ofString "option" = Str.ofString "list") = false by decide +kernel, show decide (Str.ofString "option" = Str.ofString "option") = true by decide +kernel]
      rfl
    rw [e]
    refine ⟨by simp [consO], by decide, fun d hd => ?_⟩
    simp only [consO, List.mem_cons, List.mem_nil_iff, or_false] at hd
    rcases hd with rfl | rfl
    · exact cn0 _ (by decide +kernel)
    · exact cn1 _ _ (by decide +kernel) (by decide +kernel)
  · have e : consD (.str "exn") = consE := by
      rw [consD]
      rw [show decide (Str.ofString "exn" = Str.ofString "t") = false by decide +kernel, show decide (Str.ofString "exn" = Str.ofString "u") = false by decide +kernel, show decide (Str.ofString "exn" = Str.ofString "list") = false by decide +kernel, show decide (Str.ofString "exn" = Str.ofString "option") = false by decide +kernel, show decide (Str.ofString "exn" = Str.ofString "exn") = true by decide +kernel]
      rfl
    rw [e]
    refine ⟨by simp [consE], by decide, fun d hd => ?_⟩
    simp only [consE, List.mem_cons, List.mem_nil_iff, or_false] at hd
    rcases hd with rfl | rfl | rfl | rfl | rfl | rfl
    · exact cn0 _ (by decide +kernel)
    · exact cn0 _ (by decide +kernel)
    · exact cn0 _ (by decide +kernel)
    · exact cn0 _ (by decide +kernel)
    · exact cn0 _ (by decide +kernel)
    · exact cn1 _ _ (by decide +kernel) (by decide +kernel)
theorem IsCn.frz {d : PyData} (h : IsCn d) : K25.frz d = true := by
  obtain ⟨s, e, rfl, _, rfl | h⟩ := h
  · rfl
  · simp [cn, K25.frz, frzAll, h.frz]
section
variable {P : Program} {w : World} {K : PySem.W.Frag} {mg : Str → Option Value} {base : Heap}
theorem en_cat {σ : L2.St} {H : Hp} {ta tb : TE} {ds es : List PyData} (h : EnV K ta σ H (.list ds)) (h2 : EnV K tb σ H (.list es)) (hl : ds.length + es.length ≤ 100000) : En K (tOp rCat ta tb) σ H (.list (ds ++ es)) := fun H1 e Q q =>
  h H1 e _ fun v H2 e2 hv => h2 H2 (e.trans e2) _ fun u H3 e3 hu => by
    obtain ⟨p, xs, rfl, hp, hx⟩ := hv.lst
    obtain ⟨r, ys, rfl, hr, hy⟩ := hu.lst
    refine ⟨p, r, xs, ys, rfl, rfl, e3 _ _ hp, hr, sz_of (by rw [dps_len hx, dps_len hy]; exact hl), fun z hz => ?_⟩
    exact q (.ref z) _ ((e2.trans e3).trans (Ex.new hz)) (.inr ⟨z, xs ++ ys, _, rfl, upd_same, dpsMono (Ex.new hz) _ _ (dps_app (dpsMono e3 _ _ hx) hy), rfl⟩) (fun w h => by cases h; exact fresh_back (e2.trans e3) hz)
theorem ed_cn0 {σ : L2.St} {H : Hp} {s : Str} : Ed K (tTup (tCons (tC (.str s)) (tCons (tC .non) tNil))) σ H (cn s .none) := ed_tup (ea_consD ed_str (ea_consD ed_non ea_nilD))
theorem ed_cn1 {σ : L2.St} {H : Hp} {s t : Str} : Ed K (tTup (tCons (tC (.str s)) (tCons (tC (.str t)) tNil))) σ H (cn s (.str t)) := ed_tup (ea_consD ed_str (ea_consD ed_str ea_nilD))
theorem ed_cn2 {σ : L2.St} {H : Hp} {s t u : Str} : Ed K (tTup (tCons (tC (.str s)) (tCons (tTup (tCons (tC (.str t)) (tCons (tC (.str u)) tNil))) tNil))) σ H (cn s (.tuple [.str t, .str u])) := ed_tup (ea_consD ed_str (ea_consD (ed_tup (ea_consD ed_str (ea_consD ed_str ea_nilD))) ea_nilD))
theorem sc__law_cons : FnScope ["_law_kind_here", "_law_some", "_law_name"] ["_law_kind_here"] (defScope s68) := ⟨rfl, rfl, rfl, by decide +kernel, rfl, by decide +kernel, by decide +kernel⟩
theorem ok__law_cons (T : Tx K mg) : Df P w K mg base CX0 1 "_law_cons" ["_law_kind_here"] (sn1 K (fun d => .list (consD d)) fun d => ∃ s, d = .str s ∧ s ∈ kAtoms) := by
  refine df_ok T.f__law_cons T.g__law_cons sc__law_cons len1n (fun _ _ _ _ _ _ us hl => match us, hl with | [_], _ => rfl) fun cdv A outer s H vs Q E hr h => ?_
  obtain ⟨v, d, rfl, hd, ⟨z, rfl, hz⟩, q⟩ := h
  have nd := sc__law_cons.nd
  have hsz := kAtoms_ok z hz
  refine ⟨_, (pss_cons (ps_if (pt_cmpR (op_eqD hr.units) (pv 0) pe_str (nomark _)) (pss_one (ps_ret (pe_lst (pa_cons (pe_tup (pa_cons pe_str (pa_cons pe_non pa_nil))) (pa_cons (pe_tup (pa_cons pe_str (pa_cons pe_str pa_nil))) (pa_cons (pe_tup (pa_cons pe_str (pa_cons (pe_tup (pa_cons pe_str (pa_cons pe_str pa_nil))) pa_nil))) pa_nil)))))) pss_nil)
      (pss_cons (ps_if (pt_cmpR (op_eqD hr.units) (pv 0) pe_str (nomark _)) (pss_one (ps_ret (pe_lst (pa_cons (pe_tup (pa_cons pe_str (pa_cons (pe_tup (pa_cons pe_str (pa_cons pe_str pa_nil))) pa_nil))) pa_nil)))) pss_nil)
      (pss_cons (ps_if (pt_cmpR (op_eqD hr.units) (pv 0) pe_str (nomark _)) (pss_one (ps_ret (pe_lst (pa_cons (pe_tup (pa_cons pe_str (pa_cons pe_non pa_nil))) (pa_cons (pe_tup (pa_cons pe_str (pa_cons (pe_tup (pa_cons pe_str (pa_cons pe_str pa_nil))) pa_nil))) pa_nil))))) pss_nil)
      (pss_cons (ps_if (pt_cmpR (op_eqD hr.units) (pv 0) pe_str (nomark _)) (pss_one (ps_ret (pe_lst (pa_cons (pe_tup (pa_cons pe_str (pa_cons pe_non pa_nil))) (pa_cons (pe_tup (pa_cons pe_str (pa_cons pe_str pa_nil))) pa_nil))))) pss_nil)
      (pss_cons (ps_if (pt_cmpR (op_eqD hr.units) (pv 0) pe_str (nomark _)) (pss_cons (ps_setLc (i := 1) (own := [("_law_name", 2)]) (g := gName 2) rfl nd rfl rfl (sw_true rfl rfl rfl (by decide +kernel)) (pi_list (pe_lst (pa_cons pe_str (pa_cons pe_str (pa_cons pe_str (pa_cons pe_str (pa_cons pe_str pa_nil))))))) (blkOk_by (own := [("_law_name", 2)]) (N := ["_law_kind_here", "_law_some", "_law_name"]) (sc := defScope s68) (by decide +kernel)) (fun _ _ _ _ _ => pg_name (i := 2) nd rfl (Or.inl rfl)) (fun _ _ _ _ _ => pts_nil) (fun _ _ _ _ _ => (pe_tup (pa_cons (pv 2) (pa_cons pe_non pa_nil)))))
      (pss_one (ps_ret (pe_op op_cat (pv 1) (pe_lst (pa_cons (pe_tup (pa_cons pe_str (pa_cons pe_str pa_nil))) pa_nil)))))) pss_nil)
      (pss_one (ps_ret (pe_lst pa_nil)))))))), ?_⟩
  have q' : ∀ r H', Ex H H' → Dn K H' r (.list (if decide (z = "t") = true then consT else if decide (z = "u") = true then consU else if decide (z = "list") = true then consL else if decide (z = "option") = true then consO else if decide (z = "exn") = true then consE else [])) → Fr H r → Q r H' := q
  clear q
  refine q_when (et_str (ed_var rfl hd) hsz) (fun hc H1 e1 => ?_) (fun hc H1 e1 => ?_)
  · simp only [if_pos hc] at q'
    exact sn_ret (en_lst (ea_consD ed_cn0 (ea_consD ed_cn1 (ea_consD ed_cn2 ea_nilD)))) fun v H2 e2 hv fv => q' v H2 (e1.trans e2) hv (fv.back e1)
  simp only [if_neg (neg_of hc)] at q'
  have hd1 := dpMono e1 _ _ hd
  clear hc
  refine q_when (et_str (ed_var rfl hd1) hsz) (fun hc H2 e2 => ?_) (fun hc H2 e2 => ?_)
  · simp only [if_pos hc] at q'
    exact sn_ret (en_lst (ea_consD ed_cn2 ea_nilD)) fun v H3 e3 hv fv => q' v H3 ((e1.trans e2).trans e3) hv (fv.back (e1.trans e2))
  simp only [if_neg (neg_of hc)] at q'
  have E2 := e1.trans e2
  have hd2 := dpMono e2 _ _ hd1
  clear hc
  refine q_when (et_str (ed_var rfl hd2) hsz) (fun hc H3 e3 => ?_) (fun hc H3 e3 => ?_)
  · simp only [if_pos hc] at q'
    exact sn_ret (en_lst (ea_consD ed_cn0 (ea_consD ed_cn2 ea_nilD))) fun v H4 e4 hv fv => q' v H4 ((E2.trans e3).trans e4) hv (fv.back (E2.trans e3))
  simp only [if_neg (neg_of hc)] at q'
  have E3 := E2.trans e3
  have hd3 := dpMono e3 _ _ hd2
  clear hc
  refine q_when (et_str (ed_var rfl hd3) hsz) (fun hc H4 e4 => ?_) (fun hc H4 e4 => ?_)
  · simp only [if_pos hc] at q'
    exact sn_ret (en_lst (ea_consD ed_cn0 (ea_consD ed_cn1 ea_nilD))) fun v H5 e5 hv fv => q' v H5 ((E3.trans e4).trans e5) hv (fv.back (E3.trans e4))
  simp only [if_neg (neg_of hc)] at q'
  have E4 := E3.trans e4
  have hd4 := dpMono e4 _ _ hd3
  clear hc
  refine q_when (et_str (ed_var rfl hd4) hsz) (fun hc H5 e5 => ?_) (fun hc H5 e5 => ?_)
  · simp only [if_pos hc] at q'
    have E5 := E4.trans e5
    refine qn_asg (en_lcL (j := 2) (ds := (["DivZero", "Bounds", "NoMore", "NoMatch", "M.F"] : List Str).map PyData.str) (ds' := [cn "DivZero" .none, cn "Bounds" .none, cn "NoMore" .none, cn "NoMatch" .none, cn "M.F" .none]) (ed_lst (K := K) (ds := (["DivZero", "Bounds", "NoMore", "NoMatch", "M.F"] : List Str).map PyData.str) (ea_consD ed_str (ea_consD ed_str (ea_consD ed_str (ea_consD ed_str (ea_consD ed_str ea_nilD))))) (by decide)) rfl (by decide) rfl fun i d d' x H6 e6 h1 h2 hx => ?_) fun vl H6 e6 hvl fvl => ?_
    · have hi : i < 5 := (List.getElem?_eq_some_iff.mp h2).1
      match i, hi with
      | 0, _ | 1, _ | 2, _ | 3, _ | 4, _ =>
        cases h1
        cases h2
        exact ed_tup (ea_consD (ed_var rfl hx) (ea_consD ed_non ea_nilD))
    · exact sn_ret (en_cat (env_var rfl hvl) (En.v (en_lst (ea_consD ed_cn1 ea_nilD))) (by decide)) fun v H7 e7 hv fv => q' v H7 ((E5.trans e6).trans e7) hv (fv.back (E5.trans e6))
  · simp only [if_neg (neg_of hc)] at q'
    exact sn_ret (en_lst ea_nilD) fun v H6 e6 hv fv => q' v H6 ((E4.trans e5).trans e6) hv (fv.back (E4.trans e5))
end
end K25

end

section
set_option maxHeartbeats 4000000
namespace K25
open PySem PySem.Spec PyProof.Rows L2 Evl
/-- patterns ahead of the naming -/
inductive RawD : Nat → PyData → Prop
  | anyP (n : Nat) : RawD n anyD
  | bindP (n : Nat) : RawD n (bindD "")
  | intP (n : Nat) (i : Int) (h : isNumD (.int i) = true) : RawD n (intD i)
  | boolP (n : Nat) (b : Bool) : RawD n (boolD b)
  | unitP (n : Nat) : RawD n unitD
  | con0 (n : Nat) (s : Str) (h : s ∈ conStrs) : RawD n (conD s .none)
  | con1 (n : Nat) (s : Str) (d : PyData) (h : s ∈ conStrs) (hd : RawD n d) : RawD (n + 1) (conD s d)
  | tupP (n : Nat) (ds : List PyData) (h2 : 2 ≤ ds.length) (h3 : ds.length ≤ 3) (hd : ∀ d ∈ ds, RawD n d) : RawD (n + 1) (tupD ds)
theorem RawD.frz {n : Nat} {d : PyData} (h : RawD n d) : K25.frz d = true := by
  induction h with
  | con1 n s d h hd ih => simp [conD, K25.frz, frzAll, ih]
  | tupP n ds h2 h3 hd ih =>
    have := frz_all ih
    simp [tupD, K25.frz, frzAll, this]
  | _ => simp [anyD, bindD, intD, boolD, unitD, conD, K25.frz, frzAll]
section
variable {P : Program} {w : World} {K : PySem.W.Frag} {mg : Str → Option Value} {base : Heap}
section
variable {σ : L2.St} {H : Hp} {p : Addr} {te : TE} {G : PyData → Prop} {D : Ends}
theorem s_retEP (h : EP K p te σ H G) (k : ∀ r d H', G d → Dp K H' r d → Kp [p] H H' → Pot H' p → D.rt r H') : tRet te D σ H := h _ k
theorem ep_ed {d : PyData} (hp : Pot H p) (h : Ed K te σ H d) : EP K p te σ H (fun e => e = d) := fun Q q => h H (Ex.refl _) _ fun v H1 e1 hv => q v d H1 rfl hv (Kp.ex e1) (hp.ex e1)
theorem ep_tag {s : Str} (h : EP K p te σ H G) : EP K p (tTup (tCons (tC (.str s)) (tCons te tNil))) σ H (fun d => ∃ e, G e ∧ d = .tuple [.str s, e]) := fun Q q =>
  t_tup (t_cons (t_c (t_cons (h _ fun r d H1 g hd k1 hp1 => ⟨sz_of (by simp), fun l hl => q (.ref l) _ _ ⟨d, g, rfl⟩ (.tup (SqT.of upd_same) (.cons (.str s) (.cons (dpMono (Ex.new hl) _ _ hd) .nil))) (k1.trans (Kp.ex (Ex.new hl))) (hp1.ex (Ex.new hl))⟩))))
theorem ep_pick {ta : TE} {ds : List PyData} {E : XK} (hp : Pot H p) (ha : Ev ta σ H (.ref p)) (h : En K te σ H (.list ds)) (h0 : ds ≠ []) (hl : ds.length ≤ 1000) (hn : nptAll ds = true) : EP K p (tCall (spPick K) [] E (tCons ta (tCons te tNil))) σ H (fun d => d ∈ ds) := fun Q q =>
  ha H (Ex.refl _) _ fun H1 e1 => h H1 e1 _ fun v H2 e2 hv fv => by
    obtain ⟨a, xs, rfl, hx, hxs⟩ := hv.lst
    exact ⟨p, a, xs, ds, rfl, hx, (hp.ex e1).ne (fv a rfl), hxs, hn, h0, hl, hp.ex (e1.trans e2), fun r d H3 hd hdr k3 hp3 => q r d H3 hd hdr ((Kp.ex (e1.trans e2)).trans k3) hp3⟩
theorem ed_neg {i : Int} (h : Ed K te σ H (.int i)) : Ed K (tUn (rU fun i => .int (-i)) te) σ H (.int (-i)) := ed_ev (ev_un (ev_int h) ru_neg) (.int _)
theorem ep_isZero (h : EP K p te σ H G) (hG : ∀ d, G d → ∃ i : Int, d = .int i) : EP K p (tOp (rEqD K) te (tC (.int 0))) σ H (fun d => ∃ b, d = .bool b) := fun Q q =>
  t_op (h _ fun r d H1 hd hdr k1 hp1 => by
    obtain ⟨i, rfl⟩ := hG d hd
    exact t_c ⟨.int i, .int 0, hdr, .int _, wf_shaped (n := 0) rfl, wf_shaped (n := 0) rfl, q _ _ H1 ⟨_, rfl⟩ (.bl _) k1 hp1⟩)
theorem t_if {t : TT} {ta tb : TE} {b : Bool} {Q : VK} (h : EvT t σ H b) (k : ∀ H1, Ex H H1 → if b = true then ta σ H1 Q else tb σ H1 Q) : tIf t ta tb σ H Q := h H (Ex.refl _) _ k
end
theorem et_kind {σ : L2.St} {H : Hp} {te : TE} {n : Nat} {d : PyData} {c : Str} (h : Ed K te σ H d) (hk : KindD n d) (hn : n ≤ 10) (hc : sOk c := by decide +kernel) : EvT (tTest (tOp (rEqD K) te (tC (.str c)))) σ H (PyData.eqv d (.str c)) :=
  et_cmp (ed_eq h ed_str (wf_shaped (n := 11) (wf_le (by omega) hk.wf)) (wf_shaped (n := 0) hc))
theorem kind_atom {n : Nat} {d : PyData} (h : KindD n d) (h1 : PyData.eqv d (.str "int") = false) (h2 : PyData.eqv d (.str "bool") = false) (h3 : PyData.eqv d (.str "unit") = false) : (∃ m ds, n = m + 1 ∧ d = .tuple ds ∧ 2 ≤ ds.length ∧ ds.length ≤ 3 ∧ ∀ x ∈ ds, KindD m x) ∨ ∃ s, d = .str s ∧ s ∈ kFive := by
  cases h with
  | tup m ds a b c => exact .inl ⟨m, ds, rfl, rfl, a, b, c⟩
  | atom _ s hs =>
    refine .inr ⟨s, rfl, ?_⟩
    have e : ∀ c : Str, PyData.eqv (.str s) (.str c) = false → s ≠ c := fun c h z => by
      rw [z] at h
      simp [PyData.eqv] at h
    have h1' := e _ h1
    have h2' := e _ h2
    have h3' := e _ h3
    simp only [kAtoms, List.mem_cons, List.mem_nil_iff, or_false] at hs
    simp only [kFive, List.mem_cons, List.mem_nil_iff, or_false]
    rcases hs with h | h | h | h | h | h | h | h
    · exact absurd h h1'
    · exact absurd h h2'
    · exact absurd h h3'
    · exact .inl h
    · exact .inr (.inl h)
    · exact .inr (.inr (.inl h))
    · exact .inr (.inr (.inr (.inl h)))
    · exact .inr (.inr (.inr (.inr h)))
theorem five_atom {s : Str} (h : s ∈ kFive) : s ∈ kAtoms := by
  simp only [kFive, List.mem_cons, List.mem_nil_iff, or_false] at h
  simp only [kAtoms, List.mem_cons, List.mem_nil_iff, or_false]
  rcases h with h | h | h | h | h
  · exact .inr (.inr (.inr (.inl h)))
  · exact .inr (.inr (.inr (.inr (.inl h))))
  · exact .inr (.inr (.inr (.inr (.inr (.inl h)))))
  · exact .inr (.inr (.inr (.inr (.inr (.inr (.inl h))))))
  · exact .inr (.inr (.inr (.inr (.inr (.inr (.inr h))))))
def spPat (K : PySem.W.Frag) (n : Nat) : Sp := fun vs H Q _ => ∃ p kv kd, vs = [.ref p, kv, .int (n : Nat)] ∧ Pot H p ∧ Dp K H kv kd ∧ (∃ m, m ≤ 10 ∧ KindD m kd) ∧ ∀ r d H', RawD n d → Dp K H' r d → Kp [p] H H' → Pot H' p → Q r H'
theorem sc__law_pattern : FnScope ["_law_pot_here", "_law_kind_here", "_law_deep", "_law_way", "_law_found", "_law_inner", "_law_name"] ["_law_pot_here", "_law_kind_here", "_law_deep"] (defScope s70) := ⟨rfl, rfl, rfl, by decide +kernel, rfl, by decide +kernel, by decide +kernel⟩
theorem pattern_step (T : Tx K mg) (n : Nat) (hn : n ≤ 10) (D__law_pattern : Df P w K mg base CX0 (n + 2) "_law_pattern" ["_law_pot_here", "_law_kind_here", "_law_deep"] (less n (spPat K))) : Df P w K mg base CX0 (n + 3) "_law_pattern" ["_law_pot_here", "_law_kind_here", "_law_deep"] (spPat K n) := by
  have D__law_draw := ok__law_draw (P := P) (w := w) (base := base) T
  have D__law_pick := ok__law_pick (P := P) (w := w) (base := base) T
  have D__law_cons := ok__law_cons (P := P) (w := w) (base := base) T
  refine df_ok T.f__law_pattern T.g__law_pattern sc__law_pattern (fun vs H Q E h => by
    obtain ⟨p, kv, kd, rfl, _⟩ := h
    rfl) (fun _ _ _ _ _ _ us hl => match us, hl with | [_, _, _], _ => rfl) fun cdv A outer s H vs Q E hr h => ?_
  obtain ⟨p, kv, kd, rfl, hp, hkd, ⟨km, hkm, hk⟩, q⟩ := h
  have nd := sc__law_pattern.nd
  refine ⟨_, (pss_cons (ps_set (i := 3) nd rfl (Or.inl rfl) (pe_df D__law_draw hr (pa_cons (pv 0) (pa_cons pe_int pa_nil))))
      (pss_cons (ps_if (PW.pt (pw_or (pt_cmpR (op_eqD hr.units) (pv 2) pe_int (nomark _)) (pw_or1 (pt_cmpR op_lt (pv 3) pe_int (nomark _))))) (pss_one (ps_ret (pe_ifExp (pt_cmpR (op_eqD hr.units) (pe_op op_mod (pv 3) pe_int) pe_int (nomark _)) (pe_tup (pa_cons pe_str pa_nil)) (pe_tup (pa_cons pe_str (pa_cons pe_str pa_nil)))))) pss_nil)
      (pss_cons (ps_if (pt_cmpR (op_eqD hr.units) (pv 1) pe_str (nomark _)) (pss_one (ps_ret (pe_tup (pa_cons pe_str (pa_cons (pe_df D__law_pick hr (pa_cons (pv 0) (pa_cons (pe_lst (pa_cons pe_int (pa_cons pe_int (pa_cons (pe_un un_neg pe_int) (pa_cons pe_int pa_nil))))) pa_nil))) pa_nil))))) pss_nil)
      (pss_cons (ps_if (pt_cmpR (op_eqD hr.units) (pv 1) pe_str (nomark _)) (pss_one (ps_ret (pe_tup (pa_cons pe_str (pa_cons (pe_cmpR (op_eqD hr.units) (pe_df D__law_draw hr (pa_cons (pv 0) (pa_cons pe_int pa_nil))) pe_int (nomark _)) pa_nil))))) pss_nil)
      (pss_cons (ps_if (pt_cmpR (op_eqD hr.units) (pv 1) pe_str (nomark _)) (pss_one (ps_ret (pe_tup (pa_cons pe_str pa_nil)))) pss_nil)
      (pss_cons (ps_if (pt_val (pe_callB call_isi (by rfl) T.n_isinstance (by decide +kernel) (pa_cons (pv 1) (pa_cons (pty T.n_tuple b_tuple) pa_nil)))) (pss_cons (ps_set (i := 4) nd rfl (Or.inl rfl) (pe_lst pa_nil))
      (pss_cons (ps_for PassesOwn.never rfl (pi_tup (pv 1)) (pg_name (i := 5) nd rfl (Or.inl rfl))
      (pss_one (ps_expr (pe_bm PySem.F.plainAttrs_list PySem.F.slot_list_append PySem.F.type_list_append mt_append (pv 4) (pa_cons (pe_df D__law_pattern hr (pa_cons (pv 0) (pa_cons (pv 5) (pa_cons (pe_op op_sub (pv 2) pe_int) pa_nil)))) pa_nil)))))
      (pss_one (ps_ret (pe_tup (pa_cons pe_str (pa_cons (pe_callTy call_tuple_of (by rfl) T.n_tuple b_tuple (pa_cons (pv 4) pa_nil)) pa_nil))))))) pss_nil)
      (pss_cons (ps_asg (pe_df D__law_pick hr (pa_cons (pv 0) (pa_cons (pe_df D__law_cons hr (pa_cons (pv 1) pa_nil)) pa_nil))) (pg_tup rfl (pgs_cons (pg_name (i := 6) nd rfl (Or.inl rfl)) (pgs_cons (pg_name (i := 5) nd rfl (Or.inl rfl)) pgs_nil))))
      (pss_one (ps_ret (pe_tup (pa_cons pe_str (pa_cons (pv 6) (pa_cons (pe_ifExp (pt_cmpR o_isN (pv 5) pe_non (nomark _)) pe_non (pe_df D__law_pattern hr (pa_cons (pv 0) (pa_cons (pv 5) (pa_cons (pe_op op_sub (pv 2) pe_int) pa_nil))))) pa_nil))))))))))))), ?_⟩
  refine q_asgX ((ep_draw (K := K) (n := 5) hp (ev_var rfl) ev_c) _ fun r d H1 hd hdr k1 hp1 => ?_)
  obtain ⟨i, rfl, hi⟩ := hd
  have hr' := dp_int hdr
  subst hr'
  have hk1 := dpKp hp k1 _ _ (npt_frz _ hk.frz) hkd
  refine q_when (et_or (et_ieq (K := K) (c := 0) (ed_var rfl (.int _))) fun _ => et_cmp (K := K) (ed_cmpI (i := (i : Int)) (j := 2) (ed_var rfl (.int _)) ed_int)) (fun hb H2 e2 => ?_) (fun hb H2 e2 => ?_)
  · refine ret_ifE (b := decide ((i : Int) % 2 = 0)) (et_ieq (K := K) (c := 0) (ed_ev (ev_modC (ev_var rfl) ev_c (by decide)) (.int _))) (fun _ H3 e3 => ?_) (fun _ H3 e3 => ?_)
    · exact (ep_ed (K := K) ((hp1.ex e2).ex e3) (ed_tup (ea_consD ed_str ea_nilD))) _ fun r d H4 hd hdr k4 hp4 => by subst hd; exact q r _ H4 (.anyP _) hdr (((k1.trans (Kp.ex e2)).trans (Kp.ex e3)).trans k4) hp4
    · exact (ep_ed (K := K) ((hp1.ex e2).ex e3) (ed_tup (ea_consD ed_str (ea_consD ed_str ea_nilD)))) _ fun r d H4 hd hdr k4 hp4 => by subst hd; exact q r _ H4 (.bindP _) hdr (((k1.trans (Kp.ex e2)).trans (Kp.ex e3)).trans k4) hp4
  have hk2 := dpMono e2 _ _ hk1
  have hp2 := hp1.ex e2
  have k2 := k1.trans (Kp.ex e2)
  refine q_when (et_kind (ed_var rfl hk2) hk hkm) (fun hc1 H3 e3 => ?_) (fun hc1 H3 e3 => ?_)
  · refine s_retEP (ep_tag (ep_pick (hp2.ex e3) (ev_var rfl) (en_lst (ds := [.int 0, .int 1, .int (-1), .int 2147483647]) (ea_consD ed_int (ea_consD ed_int (ea_consD (ed_neg ed_int) (ea_consD ed_int ea_nilD))))) (by simp) (by simp) rfl)) fun r d H4 hd hdr k4 hp4 => ?_
    obtain ⟨e, he, rfl⟩ := hd
    simp only [List.mem_cons, List.mem_nil_iff, or_false] at he
    rcases he with rfl | rfl | rfl | rfl <;> exact q r _ H4 (.intP _ _ (by decide +kernel)) hdr ((k2.trans (Kp.ex e3)).trans k4) hp4
  have hk3 := dpMono e3 _ _ hk2
  have hp3 := hp2.ex e3
  have k3 := k2.trans (Kp.ex e3)
  refine q_when (et_kind (ed_var rfl hk3) hk hkm) (fun hc2 H4 e4 => ?_) (fun hc2 H4 e4 => ?_)
  · refine s_retEP (ep_tag (ep_isZero (ep_draw (n := 2) (hp3.ex e4) (ev_var rfl) ev_c) fun d hd => by obtain ⟨i, rfl, _⟩ := hd; exact ⟨_, rfl⟩)) fun r d H5 hd hdr k5 hp5 => ?_
    obtain ⟨e, ⟨b, rfl⟩, rfl⟩ := hd
    exact q r _ H5 (.boolP _ b) hdr ((k3.trans (Kp.ex e4)).trans k5) hp5
  have hk4 := dpMono e4 _ _ hk3
  have hp4 := hp3.ex e4
  have k4 := k3.trans (Kp.ex e4)
  refine q_when (et_kind (ed_var rfl hk4) hk hkm) (fun hc3 H5 e5 => ?_) (fun hc3 H5 e5 => ?_)
  · refine s_retEP (K := K) (ep_ed (hp4.ex e5) (ed_tup (ea_consD ed_str ea_nilD))) fun r d H6 hd hdr k6 hp6 => ?_
    subst hd
    exact q r _ H6 (.unitP _) hdr ((k4.trans (Kp.ex e5)).trans k6) hp6
  have hk5 := dpMono e5 _ _ hk4
  have hp5 := hp4.ex e5
  have k5 := k4.trans (Kp.ex e5)
  obtain ⟨m, hm⟩ : ∃ m, n = m + 1 := by
    simp only [Bool.or_eq_false_iff, decide_eq_false_iff_not] at hb
    exact ⟨n - 1, by omega⟩
  rcases kind_atom hk hc1 hc2 hc3 with ⟨m2, ds, rfl, rfl, h2, h3, hds⟩ | ⟨z, rfl, hz⟩
  · refine q_when (b := true) (et_val (ed_isi (ed_var rfl hk5) (kit_tuple _))) (fun _ H6 e6 => ?_) (fun e => by cases e)
    have hk6 := dpMono e6 _ _ hk5
    have hp6 := hp5.ex e6
    have k6 := k5.trans (Kp.ex e6)
    obtain ⟨a, xs, rfl, hsa, hxa⟩ := dp_tup hk6
    refine q_asgL (el_lst ea_nil (by simp)) fun l H7 hl e7 hl7 => ?_
    have hlp : l ≠ p := hp6.ne hl
    have hl0 : H l = none := kp_none k6 hl hlp
    refine q_forX ⟨.ref a, rfl, a, rfl, ⟨xs, ex_t e7 hsa⟩, ?_⟩
    have hp7 := hp6.ex e7
    refine forT_tup (xs := xs) (fun t σ' H' => (∃ x5 x6, σ' = [some (.ref p), some (.ref a), some (.int (n : Nat)), some (.int (i : Nat)), some (.ref l), x5, x6]) ∧ Kp [p, l] H7 H' ∧ Pot H' p ∧ ∃ acc es, H' l = some (.lst acc) ∧ DpAll K H' acc es ∧ es.length = t ∧ ∀ d ∈ es, RawD m d) ⟨⟨_, _, rfl⟩, Kp.refl _ _, hp7, [], [], hl7, .nil, rfl, fun d hd => by cases hd⟩ (fun t σ' H' _ hh => ?_) (fun t x σ' H' hx hh => ?_) (fun σ' H' hh => ?_)
    · obtain ⟨_, k', hp', acc, es, hacc, _⟩ := hh
      refine k'.tk (fun b hb => ?_) _ _ (ex_t e7 hsa)
      simp only [List.mem_cons, List.mem_nil_iff, or_false] at hb
      rcases hb with rfl | rfl
      · obtain ⟨u, v, h1, _⟩ := hp7
        exact ⟨_, h1⟩
      · exact ⟨_, hl7⟩
    · obtain ⟨⟨x5, x6, rfl⟩, k', hp', acc, es, hacc, hda, hlen, hks⟩ := hh
      obtain ⟨di, hdi, hxi⟩ := dps_of t hxa hx
      have hki := hds di (List.mem_of_getElem? hdi)
      have tk' : TK K H7 H' := k'.tk fun b hb => by
        simp only [List.mem_cons, List.mem_nil_iff, or_false] at hb
        rcases hb with rfl | rfl
        · obtain ⟨u, v, h1, _⟩ := hp7
          exact ⟨_, h1⟩
        · exact ⟨_, hl7⟩
      have hxi' := dpTK tk' _ _ hki.frz (dpMono e7 _ _ hxi)
      have htl : t < ds.length := (List.getElem?_eq_some_iff.mp hdi).1
      refine ep_app (G := RawD m) hlp hacc rfl hp' hda (frz_all fun d hd => (hks d hd).frz) (by omega) (fun d hd => hd.frz) (fun Q' q' => ?_) fun acc' d H8 hd8 hacc8 hda8 k8 hp8 => ⟨⟨_, _, rfl⟩, k'.trans k8, hp8, acc', es ++ [d], hacc8, hda8, by simp [hlen], fun x hx => ?_⟩
      · refine t_call (t_cons ⟨.ref p, rfl, t_cons ⟨x, rfl, t_cons (t_op ⟨.int (n : Nat), rfl, t_c ?_⟩)⟩⟩)
        refine ⟨(n : Int), 1, rfl, rfl, m, hm, p, x, di, ?_, hp', hxi', ⟨m2, by omega, hki⟩, q'⟩
        show [V.ref p, x, V.int ((n : Int) - 1)] = _
        rw [cast_less hm]
      · rcases List.mem_append.mp hx with hx | hx
        · exact hks x hx
        · rw [List.mem_singleton.mp hx]
          exact hd8
    · obtain ⟨⟨x5, x6, rfl⟩, k', hp', acc, es, hacc, hda, hlen, hks⟩ := hh
      have hxl := dps_len hxa
      refine s_retX (t_tup (t_cons (t_c (t_cons ⟨.ref l, rfl, l, acc, rfl, .inl ⟨SqL.of hacc, fun z hz => ⟨sz_of (by simp), fun y hy => ?_⟩⟩⟩))))
      have eZ : Ex H' (upd H' z (.tup acc)) := Ex.new hz
      have eY := Ex.new (o := .tup [.str "tuple", .ref z]) hy
      subst hm
      refine q _ (tupD es) _ (.tupP _ es (by omega) (by omega) hks) (.tup (SqT.of upd_same) (.cons (.str _) (.cons (.tup (SqT.of (eY _ _ upd_same)) (dpsMono (eZ.trans eY) _ _ hda)) .nil))) (((k6.trans (Kp.ex e7)).two hl0 k').trans (Kp.ex (eZ.trans eY))) (hp'.ex (eZ.trans eY))
  · refine q_when (b := false) (et_val (ed_isi (ed_var rfl hk5) (kit_tuple _))) (fun e => by cases e) (fun _ H6 e6 => ?_)
    have hk6 := dpMono e6 _ _ hk5
    have hp6 := hp5.ex e6
    have k6 := k5.trans (Kp.ex e6)
    obtain ⟨c1, c2, c3⟩ := consD_ok z hz
    refine q_asgX ((ep_pick hp6 (ev_var rfl) (en_call1 (f := fun d => .list (consD d)) (ed_var rfl hk6) ⟨z, rfl, five_atom hz⟩) c1 (by omega) (npt_frzAll _ (frz_all fun d hd => (c3 d hd).frz))) _ fun r d H7 hd hdr k7 hp7 => ?_)
    obtain ⟨s1, e1, rfl, hs1, he1⟩ := c3 d hd
    obtain ⟨TT, x, y, rfl, hT, hx, hy⟩ := dp_two hdr
    have hx' := dp_str hx
    subst hx'
    refine gp_pair hT ?_
    have K7 := k6.trans k7
    rcases he1 with rfl | he1
    · have hy' := dp_non hy
      subst hy'
      refine s_retEP (K := K) (ep_ed hp7 (ed_tup (ea_consD ed_str (ea_consD (ed_var rfl (.str s1)) (ea_consD (ed_if (b := true) (et_cmp (K := K) (ed_isN (d := .none) (ed_var rfl .non))) (fun _ => ed_non) (fun e => by cases e)) ea_nilD))))) fun r d H8 hd hdr k8 hp8 => ?_
      subst hd
      exact q r _ H8 (.con0 _ s1 hs1) hdr (K7.trans k8) hp8
    · have hN : isNone e1 = false := by cases he1 <;> rfl
      refine s_retX (t_tup (t_cons (t_c (t_cons ⟨.str s1, rfl, t_cons (t_if (b := false) (et_is (et_cmp (ed_isN (ed_var rfl hy))) hN) fun H8 e8 => ?_)⟩))))
      rw [if_neg (by decide)]
      refine t_call (t_cons ⟨.ref p, rfl, t_cons ⟨y, rfl, t_cons (t_op ⟨.int (n : Nat), rfl, t_c ?_⟩)⟩⟩)
      refine ⟨(n : Int), 1, rfl, rfl, m, hm, p, y, e1, ?_, hp7.ex e8, dpMono e8 _ _ hy, ⟨1, by omega, he1⟩, fun r d H9 hd hdr k9 hp9 => ⟨sz_of (by simp), fun l hl => ?_⟩⟩
      · show [V.ref p, y, V.int ((n : Int) - 1)] = _
        rw [cast_less hm]
      · subst hm
        exact q _ (conD s1 d) _ (.con1 _ s1 d hs1 hd) (.tup (SqT.of upd_same) (.cons (.str _) (.cons (.str _) (.cons (dpMono (Ex.new hl) _ _ hdr) .nil)))) (((K7.trans (Kp.ex e8)).trans k9).trans (Kp.ex (Ex.new hl))) (hp9.ex (Ex.new hl))
theorem ok__law_pattern (T : Tx K mg) : ∀ n : Nat, n ≤ 10 → Df P w K mg base CX0 (n + 3) "_law_pattern" ["_law_pot_here", "_law_kind_here", "_law_deep"] (spPat K n)
  | 0, h => pattern_step T 0 h (by
      obtain ⟨fd, F⟩ := T.f__law_pattern
      exact ⟨fd, F.ok sc__law_pattern (fun _ _ _ _ h => by obtain ⟨m, h, _⟩ := h; omega) fun cdv A outer s H vs Q E hr h => by obtain ⟨m, h, _⟩ := h; omega, F.bindsN (fun _ _ _ _ _ _ us hl => match us, hl with | [_, _, _], _ => rfl), F.kp, T.g__law_pattern⟩)
  | n + 1, h => pattern_step T (n + 1) h ((ok__law_pattern T n (by omega)).imp fun vs H Q E hh => by
      obtain ⟨m, hm, hh⟩ := hh
      have : m = n := by omega
      subst this
      exact hh)
end
end K25

end

section
set_option maxHeartbeats 4000000
namespace K25
open PySem PySem.Spec PyProof.Rows L2 Evl
theorem q_ifX {t : TT} {tu tz : TS} {D : Ends} {σ : L2.St} {H : Hp} (h : t σ H fun b H1 => if b = true then tu { D with nx := tz D } σ H1 else tz D σ H1) : tSeq (tIfS t tu tNext) tz D σ H := h
section
variable {P : Program} {w : World} {K : PySem.W.Frag} {mg : Str → Option Value} {base : Heap}
def spVal (K : PySem.W.Frag) (n : Nat) : Sp := fun vs H Q _ => ∃ p kv kd, vs = [.ref p, kv, .int (n : Nat)] ∧ Pot H p ∧ Dp K H kv kd ∧ (∃ m, m ≤ 10 ∧ KindD m kd) ∧ ∀ r d H', ValD n d → Dp K H' r d → Kp [p] H H' → Pot H' p → Q r H'
theorem sc__law_value : FnScope ["_law_pot_here", "_law_kind_here", "_law_deep", "_law_found", "_law_inner", "_law_name"] ["_law_pot_here", "_law_kind_here", "_law_deep"] (defScope s73) := ⟨rfl, rfl, rfl, by decide +kernel, rfl, by decide +kernel, by decide +kernel⟩
theorem value_step (T : Tx K mg) (n : Nat) (hn : n ≤ 10) (D__law_value : Df P w K mg base CX0 (n + 2) "_law_value" ["_law_pot_here", "_law_kind_here", "_law_deep"] (less n (spVal K))) : Df P w K mg base CX0 (n + 3) "_law_value" ["_law_pot_here", "_law_kind_here", "_law_deep"] (spVal K n) := by
  have D__law_draw := ok__law_draw (P := P) (w := w) (base := base) T
  have D__law_pick := ok__law_pick (P := P) (w := w) (base := base) T
  have D__law_cons := ok__law_cons (P := P) (w := w) (base := base) T
  refine df_ok T.f__law_value T.g__law_value sc__law_value (fun vs H Q E h => by
    obtain ⟨p, kv, kd, rfl, _⟩ := h
    rfl) (fun _ _ _ _ _ _ us hl => match us, hl with | [_, _, _], _ => rfl) fun cdv A outer s H vs Q E hr h => ?_
  obtain ⟨p, kv, kd, rfl, hp, hkd, ⟨km, hkm, hk⟩, q⟩ := h
  have nd := sc__law_value.nd
  refine ⟨_, (pss_cons (ps_if (PW.pt (pw_or (pt_cmpR (op_eqD hr.units) (pv 2) pe_int (nomark _)) (pw_or1 (pt_cmpR (op_eqD hr.units) (pe_df D__law_draw hr (pa_cons (pv 0) (pa_cons pe_int pa_nil))) pe_int (nomark _))))) (pss_one (ps_ret (pe_tup (pa_cons pe_str (pa_cons (pe_df D__law_draw hr (pa_cons (pv 0) (pa_cons pe_int pa_nil))) pa_nil))))) pss_nil)
      (pss_cons (ps_if (pt_cmpR (op_eqD hr.units) (pv 1) pe_str (nomark _)) (pss_one (ps_ret (pe_tup (pa_cons pe_str (pa_cons (pe_df D__law_pick hr (pa_cons (pv 0) (pa_cons (pe_lst (pa_cons pe_int (pa_cons pe_int (pa_cons (pe_un un_neg pe_int) (pa_cons pe_int (pa_cons pe_int pa_nil)))))) pa_nil))) pa_nil))))) pss_nil)
      (pss_cons (ps_if (pt_cmpR (op_eqD hr.units) (pv 1) pe_str (nomark _)) (pss_one (ps_ret (pe_tup (pa_cons pe_str (pa_cons (pe_cmpR (op_eqD hr.units) (pe_df D__law_draw hr (pa_cons (pv 0) (pa_cons pe_int pa_nil))) pe_int (nomark _)) pa_nil))))) pss_nil)
      (pss_cons (ps_if (pt_cmpR (op_eqD hr.units) (pv 1) pe_str (nomark _)) (pss_one (ps_ret (pe_tup (pa_cons pe_str pa_nil)))) pss_nil)
      (pss_cons (ps_if (pt_val (pe_callB call_isi (by rfl) T.n_isinstance (by decide +kernel) (pa_cons (pv 1) (pa_cons (pty T.n_tuple b_tuple) pa_nil)))) (pss_cons (ps_set (i := 3) nd rfl (Or.inl rfl) (pe_lst pa_nil))
      (pss_cons (ps_for PassesOwn.never rfl (pi_tup (pv 1)) (pg_name (i := 4) nd rfl (Or.inl rfl))
      (pss_one (ps_expr (pe_bm PySem.F.plainAttrs_list PySem.F.slot_list_append PySem.F.type_list_append mt_append (pv 3) (pa_cons (pe_df D__law_value hr (pa_cons (pv 0) (pa_cons (pv 4) (pa_cons (pe_op op_sub (pv 2) pe_int) pa_nil)))) pa_nil)))))
      (pss_one (ps_ret (pe_tup (pa_cons pe_str (pa_cons (pe_callTy call_tuple_of (by rfl) T.n_tuple b_tuple (pa_cons (pv 3) pa_nil)) pa_nil))))))) pss_nil)
      (pss_cons (ps_asg (pe_df D__law_pick hr (pa_cons (pv 0) (pa_cons (pe_df D__law_cons hr (pa_cons (pv 1) pa_nil)) pa_nil))) (pg_tup rfl (pgs_cons (pg_name (i := 5) nd rfl (Or.inl rfl)) (pgs_cons (pg_name (i := 4) nd rfl (Or.inl rfl)) pgs_nil))))
      (pss_one (ps_ret (pe_tup (pa_cons pe_str (pa_cons (pv 5) (pa_cons (pe_ifExp (pt_cmpR o_isN (pv 4) pe_non (nomark _)) pe_non (pe_df D__law_value hr (pa_cons (pv 0) (pa_cons (pv 4) (pa_cons (pe_op op_sub (pv 2) pe_int) pa_nil))))) pa_nil)))))))))))), ?_⟩
  have cellR : ∀ {D : Ends} {σ : L2.St} {H1 : Hp}, D.rt = Q → Ev (tVar 0) σ H1 (.ref p) → Kp [p] H H1 → Pot H1 p → tRet (tTup (tCons (tC (.str "cell")) (tCons (tCall spDraw [] E0 (tCons (tVar 0) (tCons (tC (.int 3)) tNil))) tNil))) D σ H1 := fun {D σ H1} hD hv k1 hp1 => by
    refine s_retEP (ep_tag (ep_draw (K := K) (n := 3) hp1 hv ev_c)) fun r d H2 hd hdr k2 hp2 => ?_
    obtain ⟨e, ⟨i, rfl, _⟩, rfl⟩ := hd
    rw [hD]
    exact q r _ H2 (.cellP _ _ ⟨by omega, by omega⟩) hdr (k1.trans k2) hp2
  cases n with
  | zero => exact q_when (b := true) (et_or (a := true) (b := true) (et_is (et_ieq (K := K) (i := 0) (c := 0) (ed_var rfl (.int _))) rfl) fun e => by cases e) (fun _ H1 e1 => cellR rfl (ev_var rfl) (Kp.ex e1) (hp.ex e1)) (fun e => by cases e)
  | succ m =>
  have hm : m + 1 = m + 1 := rfl
  refine q_ifX (et_ieq (K := K) (i := ((m + 1 : Nat) : Int)) (c := 0) (ed_var rfl (.int _)) H (Ex.refl _) _ fun H1 e1 => ?_)
  rw [show decide ((((m + 1 : Nat) : Int)) = 0) = false from decide_eq_false (by omega), if_neg (by decide)]
  refine (ep_isZero (K := K) (ep_draw (K := K) (n := 12) (hp.ex e1) (ev_var rfl) ev_c) fun d hd => by obtain ⟨i, rfl, _⟩ := hd; exact ⟨_, rfl⟩) _ fun r d H2 hd hdr k2' hp2 => ?_
  obtain ⟨b, rfl⟩ := hd
  have hr' := dp_bl hdr
  subst hr'
  have k2 := (Kp.ex e1).trans k2'
  refine ⟨b, rfl, ?_⟩
  cases b with
  | true =>
    rw [if_pos rfl]
    exact cellR rfl (ev_var rfl) k2 hp2
  | false =>
  rw [if_neg (by decide)]
  have hk2 := dpKp hp k2 _ _ (npt_frz _ hk.frz) hkd
  refine q_when (et_kind (ed_var rfl hk2) hk hkm) (fun hc1 H3 e3 => ?_) (fun hc1 H3 e3 => ?_)
  · refine s_retEP (ep_tag (ep_pick (hp2.ex e3) (ev_var rfl) (en_lst (ds := [.int 0, .int 1, .int (-1), .int 2147483647, .int 5]) (ea_consD ed_int (ea_consD ed_int (ea_consD (ed_neg ed_int) (ea_consD ed_int (ea_consD ed_int ea_nilD)))))) (by simp) (by simp) rfl)) fun r d H4 hd hdr k4 hp4 => ?_
    obtain ⟨e, he, rfl⟩ := hd
    simp only [List.mem_cons, List.mem_nil_iff, or_false] at he
    rcases he with rfl | rfl | rfl | rfl | rfl <;> exact q r _ H4 (.intP _ _ (by decide +kernel)) hdr ((k2.trans (Kp.ex e3)).trans k4) hp4
  have hk3 := dpMono e3 _ _ hk2
  have hp3 := hp2.ex e3
  have k3 := k2.trans (Kp.ex e3)
  refine q_when (et_kind (ed_var rfl hk3) hk hkm) (fun hc2 H4 e4 => ?_) (fun hc2 H4 e4 => ?_)
  · refine s_retEP (ep_tag (ep_isZero (ep_draw (n := 2) (hp3.ex e4) (ev_var rfl) ev_c) fun d hd => by obtain ⟨i, rfl, _⟩ := hd; exact ⟨_, rfl⟩)) fun r d H5 hd hdr k5 hp5 => ?_
    obtain ⟨e, ⟨b, rfl⟩, rfl⟩ := hd
    exact q r _ H5 (.boolP _ b) hdr ((k3.trans (Kp.ex e4)).trans k5) hp5
  have hk4 := dpMono e4 _ _ hk3
  have hp4 := hp3.ex e4
  have k4 := k3.trans (Kp.ex e4)
  refine q_when (et_kind (ed_var rfl hk4) hk hkm) (fun hc3 H5 e5 => ?_) (fun hc3 H5 e5 => ?_)
  · refine s_retEP (K := K) (ep_ed (hp4.ex e5) (ed_tup (ea_consD ed_str ea_nilD))) fun r d H6 hd hdr k6 hp6 => ?_
    subst hd
    exact q r _ H6 (.unitP _) hdr ((k4.trans (Kp.ex e5)).trans k6) hp6
  have hk5 := dpMono e5 _ _ hk4
  have hp5 := hp4.ex e5
  have k5 := k4.trans (Kp.ex e5)
  rcases kind_atom hk hc1 hc2 hc3 with ⟨m2, ds, rfl, rfl, h2, h3, hds⟩ | ⟨z, rfl, hz⟩
  · refine q_when (b := true) (et_val (ed_isi (ed_var rfl hk5) (kit_tuple _))) (fun _ H6 e6 => ?_) (fun e => by cases e)
    have hk6 := dpMono e6 _ _ hk5
    have hp6 := hp5.ex e6
    have k6 := k5.trans (Kp.ex e6)
    obtain ⟨a, xs, rfl, hsa, hxa⟩ := dp_tup hk6
    refine q_asgL (el_lst ea_nil (by simp)) fun l H7 hl e7 hl7 => ?_
    have hlp : l ≠ p := hp6.ne hl
    have hl0 : H l = none := kp_none k6 hl hlp
    refine q_forX ⟨.ref a, rfl, a, rfl, ⟨xs, ex_t e7 hsa⟩, ?_⟩
    have hp7 := hp6.ex e7
    refine forT_tup (xs := xs) (fun t σ' H' => (∃ x5 x6, σ' = [some (.ref p), some (.ref a), some (.int ((m + 1 : Nat) : Int)), some (.ref l), x5, x6]) ∧ Kp [p, l] H7 H' ∧ Pot H' p ∧ ∃ acc es, H' l = some (.lst acc) ∧ DpAll K H' acc es ∧ es.length = t ∧ ∀ d ∈ es, ValD m d) ⟨⟨_, _, rfl⟩, Kp.refl _ _, hp7, [], [], hl7, .nil, rfl, fun d hd => by cases hd⟩ (fun t σ' H' _ hh => ?_) (fun t x σ' H' hx hh => ?_) (fun σ' H' hh => ?_)
    · obtain ⟨_, k', hp', acc, es, hacc, _⟩ := hh
      refine k'.tk (fun b hb => ?_) _ _ (ex_t e7 hsa)
      simp only [List.mem_cons, List.mem_nil_iff, or_false] at hb
      rcases hb with rfl | rfl
      · obtain ⟨u, v, h1, _⟩ := hp7
        exact ⟨_, h1⟩
      · exact ⟨_, hl7⟩
    · obtain ⟨⟨x5, x6, rfl⟩, k', hp', acc, es, hacc, hda, hlen, hks⟩ := hh
      obtain ⟨di, hdi, hxi⟩ := dps_of t hxa hx
      have hki := hds di (List.mem_of_getElem? hdi)
      have tk' : TK K H7 H' := k'.tk fun b hb => by
        simp only [List.mem_cons, List.mem_nil_iff, or_false] at hb
        rcases hb with rfl | rfl
        · obtain ⟨u, v, h1, _⟩ := hp7
          exact ⟨_, h1⟩
        · exact ⟨_, hl7⟩
      have hxi' := dpTK tk' _ _ hki.frz (dpMono e7 _ _ hxi)
      have htl : t < ds.length := (List.getElem?_eq_some_iff.mp hdi).1
      refine ep_app (G := ValD m) hlp hacc rfl hp' hda (frz_all fun d hd => (hks d hd).frz) (by omega) (fun d hd => hd.frz) (fun Q' q' => ?_) fun acc' d H8 hd8 hacc8 hda8 k8 hp8 => ⟨⟨_, _, rfl⟩, k'.trans k8, hp8, acc', es ++ [d], hacc8, hda8, by simp [hlen], fun x hx => ?_⟩
      · refine t_call (t_cons ⟨.ref p, rfl, t_cons ⟨x, rfl, t_cons (t_op ⟨.int ((m + 1 : Nat) : Int), rfl, t_c ?_⟩)⟩⟩)
        refine ⟨((m + 1 : Nat) : Int), 1, rfl, rfl, m, hm, p, x, di, ?_, hp', hxi', ⟨m2, by omega, hki⟩, q'⟩
        show [V.ref p, x, V.int (((m + 1 : Nat) : Int) - 1)] = _
        rw [cast_less hm]
      · rcases List.mem_append.mp hx with hx | hx
        · exact hks x hx
        · rw [List.mem_singleton.mp hx]
          exact hd8
    · obtain ⟨⟨x5, x6, rfl⟩, k', hp', acc, es, hacc, hda, hlen, hks⟩ := hh
      have hxl := dps_len hxa
      refine s_retX (t_tup (t_cons (t_c (t_cons ⟨.ref l, rfl, l, acc, rfl, .inl ⟨SqL.of hacc, fun z hz => ⟨sz_of (by simp), fun y hy => ?_⟩⟩⟩))))
      have eZ : Ex H' (upd H' z (.tup acc)) := Ex.new hz
      have eY := Ex.new (o := .tup [.str "tuple", .ref z]) hy
      refine q _ (tupD es) _ (.tupP _ es (by omega) (by omega) hks) (.tup (SqT.of upd_same) (.cons (.str _) (.cons (.tup (SqT.of (eY _ _ upd_same)) (dpsMono (eZ.trans eY) _ _ hda)) .nil))) (((k6.trans (Kp.ex e7)).two hl0 k').trans (Kp.ex (eZ.trans eY))) (hp'.ex (eZ.trans eY))
  · refine q_when (b := false) (et_val (ed_isi (ed_var rfl hk5) (kit_tuple _))) (fun e => by cases e) (fun _ H6 e6 => ?_)
    have hk6 := dpMono e6 _ _ hk5
    have hp6 := hp5.ex e6
    have k6 := k5.trans (Kp.ex e6)
    obtain ⟨c1, c2, c3⟩ := consD_ok z hz
    refine q_asgX ((ep_pick hp6 (ev_var rfl) (en_call1 (f := fun d => .list (consD d)) (ed_var rfl hk6) ⟨z, rfl, five_atom hz⟩) c1 (by omega) (npt_frzAll _ (frz_all fun d hd => (c3 d hd).frz))) _ fun r d H7 hd hdr k7 hp7 => ?_)
    obtain ⟨s1, e1, rfl, hs1, he1⟩ := c3 d hd
    obtain ⟨TT, x, y, rfl, hT, hx, hy⟩ := dp_two hdr
    have hx' := dp_str hx
    subst hx'
    refine gp_pair hT ?_
    have K7 := k6.trans k7
    rcases he1 with rfl | he1
    · have hy' := dp_non hy
      subst hy'
      refine s_retEP (K := K) (ep_ed hp7 (ed_tup (ea_consD ed_str (ea_consD (ed_var rfl (.str s1)) (ea_consD (ed_if (b := true) (et_cmp (K := K) (ed_isN (d := .none) (ed_var rfl .non))) (fun _ => ed_non) (fun e => by cases e)) ea_nilD))))) fun r d H8 hd hdr k8 hp8 => ?_
      subst hd
      exact q r _ H8 (.con0 _ s1 (conStrs_ok s1 hs1).1 (conStrs_ok s1 hs1).2) hdr (K7.trans k8) hp8
    · have hN : isNone e1 = false := by cases he1 <;> rfl
      refine s_retX (t_tup (t_cons (t_c (t_cons ⟨.str s1, rfl, t_cons (t_if (b := false) (et_is (et_cmp (ed_isN (ed_var rfl hy))) hN) fun H8 e8 => ?_)⟩))))
      rw [if_neg (by decide)]
      refine t_call (t_cons ⟨.ref p, rfl, t_cons ⟨y, rfl, t_cons (t_op ⟨.int ((m + 1 : Nat) : Int), rfl, t_c ?_⟩)⟩⟩)
      refine ⟨((m + 1 : Nat) : Int), 1, rfl, rfl, m, hm, p, y, e1, ?_, hp7.ex e8, dpMono e8 _ _ hy, ⟨1, by omega, he1⟩, fun r d H9 hd hdr k9 hp9 => ⟨sz_of (by simp), fun l hl => ?_⟩⟩
      · show [V.ref p, y, V.int (((m + 1 : Nat) : Int) - 1)] = _
        rw [cast_less hm]
      · exact q _ (conD s1 d) _ (.con1 _ s1 d (conStrs_ok s1 hs1).1 (conStrs_ok s1 hs1).2 hd) (.tup (SqT.of upd_same) (.cons (.str _) (.cons (.str _) (.cons (dpMono (Ex.new hl) _ _ hdr) .nil)))) (((K7.trans (Kp.ex e8)).trans k9).trans (Kp.ex (Ex.new hl))) (hp9.ex (Ex.new hl))
theorem ok__law_value (T : Tx K mg) : ∀ n : Nat, n ≤ 10 → Df P w K mg base CX0 (n + 3) "_law_value" ["_law_pot_here", "_law_kind_here", "_law_deep"] (spVal K n)
  | 0, h => value_step T 0 h (by
      obtain ⟨fd, F⟩ := T.f__law_value
      exact ⟨fd, F.ok sc__law_value (fun _ _ _ _ h => by obtain ⟨m, h, _⟩ := h; omega) fun cdv A outer s H vs Q E hr h => by obtain ⟨m, h, _⟩ := h; omega, F.bindsN (fun _ _ _ _ _ _ us hl => match us, hl with | [_, _, _], _ => rfl), F.kp, T.g__law_value⟩)
  | n + 1, h => value_step T (n + 1) h ((ok__law_value T n (by omega)).imp fun vs H Q E hh => by
      obtain ⟨m, hm, hh⟩ := hh
      have : m = n := by omega
      subst this
      exact hh)
end
end K25

end

section
set_option maxHeartbeats 4000000
namespace K25
open PySem PySem.Spec PyProof.Rows L2 Evl
/-! ### names -/
def nmS (k : Nat) : Str := (Str.ofString "v" : Str) ++ (Str.ofString (toString (k : Int)) : Str)
def nmK (k : Nat) : PyData := .str (nmS k)
theorem nm_ok : ∀ k, k < 64 → sOk (nmS k) ∧ nameD (nmK k) = true := by decide +kernel
theorem nm_short : ∀ k : Nat, k < 64 → (Str.ofString "v").length + (Str.ofString (toString (k : Int))).length ≤ 100000 := by decide +kernel
theorem small_log {n : Nat} (h : n < 64) : ((n : Int)).natAbs.log2 < 1920 := by
  have h1 : ((n : Int)).natAbs = n := Int.natAbs_natCast n
  rw [h1]
  exact Nat.lt_of_le_of_lt (Nat.log2_le_self n) (by omega)
theorem nm_unlike : ∀ k, k < 28 → unlikeF ((List.range k).map nmK) = true := by decide +kernel
theorem range_app (k a b : Nat) : (List.range' k a).map nmK ++ (List.range' (k + a) b).map nmK = (List.range' k (a + b)).map nmK := by
  rw [← List.map_append, List.range'_append_1]
theorem range_up (k : Nat) : (List.range (k + 1)).map nmK = (List.range k).map nmK ++ [nmK k] := by
  rw [List.range_succ, List.map_append]
  rfl
theorem nm_none {n : Nat} {d : PyData} (h1 : ¬ tagOf d = "bind") (h2 : ¬ tagOf d = "tuple") (h3 : ¬ (tagOf d = "con" ∧ isNone (nth d 2) = false)) : nm (n + 1) d = [] := by
  rw [nm, if_neg h1]
  unfold within
  rw [if_neg h2, if_neg h3]
  rfl
theorem nm_go {n : Nat} {d : PyData} (h1 : ¬ tagOf d = "bind") : nm (n + 1) d = (within d).flatMap (nm n) := by rw [nm, if_neg h1]
theorem within_tup {d : PyData} (h : tagOf d = "tuple") : within d = kids (nth d 1) := by
  unfold within
  rw [if_pos h]
theorem within_con {d : PyData} (h1 : ¬ tagOf d = "tuple") (h : tagOf d = "con") (h2 : isNone (nth d 2) = false) : within d = [nth d 2] := by
  unfold within
  rw [if_neg h1, if_pos ⟨h, h2⟩]
theorem RawD.word {n : Nat} {d : PyData} (h : RawD n d) : ∃ r, d = .tuple (.str (tagOf d) :: r) ∧ sOk (tagOf d) ∧ r.length ≤ 2 := by
  cases h with
  | anyP => exact ⟨_, rfl, show sOk "any" by decide +kernel, by simp⟩
  | bindP => exact ⟨_, rfl, show sOk "bind" by decide +kernel, by simp⟩
  | intP => exact ⟨_, rfl, show sOk "int" by decide +kernel, by simp⟩
  | boolP => exact ⟨_, rfl, show sOk "bool" by decide +kernel, by simp⟩
  | unitP => exact ⟨_, rfl, show sOk "unit" by decide +kernel, by simp⟩
  | con0 => exact ⟨_, rfl, show sOk "con" by decide +kernel, by simp⟩
  | con1 => exact ⟨_, rfl, show sOk "con" by decide +kernel, by simp⟩
  | tupP => exact ⟨_, rfl, show sOk "tuple" by decide +kernel, by simp⟩
/-- which way a pattern goes -/
theorem RawD.ways {n : Nat} {d : PyData} (h : RawD n d) : (tagOf d = "bind" ∧ d = bindD "") ∨ (¬ tagOf d = "bind" ∧ ((tagOf d = "tuple" ∧ ∃ m ds, n = m + 1 ∧ d = tupD ds ∧ 2 ≤ ds.length ∧ ds.length ≤ 3 ∧ ∀ x ∈ ds, RawD m x) ∨
    (¬ tagOf d = "tuple" ∧ ((tagOf d = "con" ∧ ∃ m s e, n = m + 1 ∧ d = conD s e ∧ s ∈ conStrs ∧ RawD m e) ∨ ((tagOf d = "con" → ∃ s, d = conD s .none) ∧ PatD n d ∧ nm (n + 1) d = []))))) := by
  cases h with
  | bindP => exact .inl ⟨rfl, rfl⟩
  | tupP m ds h2 h3 hd => exact .inr ⟨show ¬(Str.ofString "tuple" = Str.ofString "bind") by decide +kernel, .inl ⟨rfl, m, ds, rfl, rfl, h2, h3, hd⟩⟩
  | con1 m s e hs hd => exact .inr ⟨show ¬(Str.ofString "con" = Str.ofString "bind") by decide +kernel, .inr ⟨show ¬(Str.ofString "con" = Str.ofString "tuple") by decide +kernel, .inl ⟨rfl, m, s, e, rfl, rfl, hs, hd⟩⟩⟩
  | con0 _ s hs =>
    refine .inr ⟨show ¬(Str.ofString "con" = Str.ofString "bind") by decide +kernel, .inr ⟨show ¬(Str.ofString "con" = Str.ofString "tuple") by decide +kernel, .inr ⟨fun _ => ⟨s, rfl⟩, .con0 _ s (conStrs_ok s hs).1 (conStrs_ok s hs).2, ?_⟩⟩⟩
    exact nm_none (show ¬(Str.ofString "con" = Str.ofString "bind") by decide +kernel) (show ¬(Str.ofString "con" = Str.ofString "tuple") by decide +kernel) (fun z => absurd z.2 (show ¬(true = false) by decide))
  | anyP =>
    refine .inr ⟨show ¬(Str.ofString "any" = Str.ofString "bind") by decide +kernel, .inr ⟨show ¬(Str.ofString "any" = Str.ofString "tuple") by decide +kernel, .inr ⟨fun z => absurd z (show ¬(Str.ofString "any" = Str.ofString "con") by decide +kernel), .anyP _, ?_⟩⟩⟩
    exact nm_none (show ¬(Str.ofString "any" = Str.ofString "bind") by decide +kernel) (show ¬(Str.ofString "any" = Str.ofString "tuple") by decide +kernel) (fun z => absurd z.1 (show ¬(Str.ofString "any" = Str.ofString "con") by decide +kernel))
  | unitP =>
    refine .inr ⟨show ¬(Str.ofString "unit" = Str.ofString "bind") by decide +kernel, .inr ⟨show ¬(Str.ofString "unit" = Str.ofString "tuple") by decide +kernel, .inr ⟨fun z => absurd z (show ¬(Str.ofString "unit" = Str.ofString "con") by decide +kernel), .unitP _, ?_⟩⟩⟩
    exact nm_none (show ¬(Str.ofString "unit" = Str.ofString "bind") by decide +kernel) (show ¬(Str.ofString "unit" = Str.ofString "tuple") by decide +kernel) (fun z => absurd z.1 (show ¬(Str.ofString "unit" = Str.ofString "con") by decide +kernel))
  | intP _ i hi =>
    refine .inr ⟨show ¬(Str.ofString "int" = Str.ofString "bind") by decide +kernel, .inr ⟨show ¬(Str.ofString "int" = Str.ofString "tuple") by decide +kernel, .inr ⟨fun z => absurd z (show ¬(Str.ofString "int" = Str.ofString "con") by decide +kernel), .intP _ i hi, ?_⟩⟩⟩
    exact nm_none (show ¬(Str.ofString "int" = Str.ofString "bind") by decide +kernel) (show ¬(Str.ofString "int" = Str.ofString "tuple") by decide +kernel) (fun z => absurd z.1 (show ¬(Str.ofString "int" = Str.ofString "con") by decide +kernel))
  | boolP _ i =>
    refine .inr ⟨show ¬(Str.ofString "bool" = Str.ofString "bind") by decide +kernel, .inr ⟨show ¬(Str.ofString "bool" = Str.ofString "tuple") by decide +kernel, .inr ⟨fun z => absurd z (show ¬(Str.ofString "bool" = Str.ofString "con") by decide +kernel), .boolP _ i, ?_⟩⟩⟩
    exact nm_none (show ¬(Str.ofString "bool" = Str.ofString "bind") by decide +kernel) (show ¬(Str.ofString "bool" = Str.ofString "tuple") by decide +kernel) (fun z => absurd z.1 (show ¬(Str.ofString "bool" = Str.ofString "con") by decide +kernel))
theorem nm_tup (n : Nat) (ds : List PyData) : nm (n + 1) (tupD ds) = ds.flatMap (nm n) := by
  rw [nm_go (d := tupD ds) (show ¬(Str.ofString "tuple" = Str.ofString "bind") by decide +kernel), within_tup (d := tupD ds) rfl]
  rfl
theorem nm_con (n : Nat) (s : Str) (e : PyData) (he : isNone e = false) : nm (n + 1) (conD s e) = nm n e := by
  rw [nm_go (d := conD s e) (show ¬(Str.ofString "con" = Str.ofString "bind") by decide +kernel), within_con (d := conD s e) (show ¬(Str.ofString "con" = Str.ofString "tuple") by decide +kernel) rfl he]
  show [e].flatMap (nm n) = nm n e
  simp
theorem atI_last {α : Type} (xs : List α) (x : α) : atI (xs ++ [x]) (-1) = some x := by
  have h : ixN (xs ++ [x]).length (-1) = some xs.length := by
    unfold ixN
    rw [if_neg (by decide), if_pos (by simp; omega)]
    simp
    omega
  unfold atI
  rw [h]
  simp
section
variable {P : Program} {w : World} {K : PySem.W.Frag} {mg : Str → Option Value} {base : Heap}
def spNm (K : PySem.W.Frag) (n : Nat) : Sp := fun vs H Q _ => ∃ pv d q acc k, vs = [pv, .ref q] ∧ Dp K H pv d ∧ RawD n d ∧ H q = some (.lst acc) ∧ DpAll K H acc ((List.range k).map nmK) ∧ k + 3 ^ n ≤ 60 ∧
  ∀ r d' H' acc' j, Dp K H' r d' → PatD n d' → nm (n + 1) d' = (List.range' k j).map nmK → j ≤ 3 ^ n → Kp [q] H H' → H' q = some (.lst acc') → DpAll K H' acc' ((List.range (k + j)).map nmK) → Q r H'
theorem sc__law_named : FnScope ["_law_pattern_here", "_law_names", "_law_inner"] ["_law_pattern_here", "_law_names"] (defScope s71) := ⟨rfl, rfl, rfl, by decide +kernel, rfl, by decide +kernel, by decide +kernel⟩
theorem named_step (T : Tx K mg) (n : Nat) (D__law_named : Df P w K mg base CX0 (n + 1) "_law_named" ["_law_pattern_here", "_law_names"] (less n (spNm K))) : Df P w K mg base CX0 (n + 2) "_law_named" ["_law_pattern_here", "_law_names"] (spNm K n) := by
  refine df_ok T.f__law_named T.g__law_named sc__law_named (fun vs H Q E h => by
    obtain ⟨p, kv, kd, _, _, rfl, _⟩ := h
    rfl) (fun _ _ _ _ _ _ us hl => match us, hl with | [_, _], _ => rfl) fun cdv A outer s H vs Q E hr h => ?_
  obtain ⟨pv0, d, q, acc, k, rfl, hd, hraw, hq, hacc, hk, kq⟩ := h
  have nd := sc__law_named.nd
  refine ⟨_, (pss_cons (ps_if (pt_cmpR (op_eqD hr.units) (pe_ix ix_tup (pv 0) pe_int (fun _ _ => rfl)) pe_str (nomark _)) (pss_cons (ps_expr (pe_bm PySem.F.plainAttrs_list PySem.F.slot_list_append PySem.F.type_list_append mt_append (pv 1) (pa_cons (pe_op op_add_str pe_str (pe_callTy call_str_int (by rfl) T.n_str b_str (pa_cons (pe_callB c_len (by rfl) T.n_len (by decide +kernel) (pa_cons (pv 1) pa_nil)) pa_nil))) pa_nil)))
      (pss_one (ps_ret (pe_tup (pa_cons pe_str (pa_cons (pe_ix ix_list (pv 1) (pe_un un_neg pe_int) (fun _ _ => rfl)) pa_nil)))))) pss_nil)
      (pss_cons (ps_if (pt_cmpR (op_eqD hr.units) (pe_ix ix_tup (pv 0) pe_int (fun _ _ => rfl)) pe_str (nomark _)) (pss_one (ps_ret (pe_tup (pa_cons pe_str (pa_cons (pe_callTy call_tuple_of (by rfl) T.n_tuple b_tuple (pa_cons (pe_lc (own := [("_law_inner", 2)]) (g := gName 2) rfl nd (pi_tup (pe_ix ix_tup (pv 0) pe_int (fun _ _ => rfl))) (blkOk_by (own := [("_law_inner", 2)]) (N := ["_law_pattern_here", "_law_names", "_law_inner"]) (sc := defScope s71) (by decide +kernel)) (fun _ _ _ _ _ => pg_name (i := 2) nd rfl (Or.inl rfl)) (fun _ _ _ _ _ => pts_nil) (fun _ _ _ _ _ => (pe_df D__law_named hr (pa_cons (pv 2) (pa_cons (pv 1) pa_nil))))) pa_nil)) pa_nil))))) pss_nil)
      (pss_cons (ps_if (PW.pt (pw_and (pt_cmpR (op_eqD hr.units) (pe_ix ix_tup (pv 0) pe_int (fun _ _ => rfl)) pe_str (nomark _)) (pw_and1 (pt_cmpR o_notN (pe_ix ix_tup (pv 0) pe_int (fun _ _ => rfl)) pe_non (nomark _))))) (pss_one (ps_ret (pe_tup (pa_cons pe_str (pa_cons (pe_ix ix_tup (pv 0) pe_int (fun _ _ => rfl)) (pa_cons (pe_df D__law_named hr (pa_cons (pe_ix ix_tup (pv 0) pe_int (fun _ _ => rfl)) (pa_cons (pv 1) pa_nil))) pa_nil)))))) pss_nil)
      (pss_one (ps_ret (pv 0)))))), ?_⟩
  obtain ⟨r, ed0, hs, hrl⟩ := hraw.word
  have h3 : 1 ≤ 3 ^ n := Nat.one_le_pow _ _ (by decide)
  have hal : acc.length = k := by
    have := dps_len hacc
    simpa using this
  rcases hraw.ways with ⟨ht, rfl⟩ | ⟨ht, hway⟩
  · refine q_when (b := true) (et_is (et_str (ed_ix0 (ed_var rfl hd) ed0) hs) (decide_eq_true ht)) (fun _ H1 e1 => ?_) (fun e => by cases e)
    have hq1 := e1 _ _ hq
    refine q_dropX ⟨.ref q, rfl, Or.inl ⟨rfl, acc, sq_of hq1⟩, t_cons (t_op (t_c (t_cb (t_cons (t_cb (t_cons ⟨.ref q, rfl, ?_⟩))))))⟩
    refine ⟨.ref q, acc.length, rfl, .inl ⟨acc, SqL.of hq1, rfl⟩, (acc.length : Int), rfl, small_log (by omega), Str.ofString "v", Str.ofString (toString (acc.length : Int)), rfl, rfl, ?_, q, acc, _, rfl, rfl, hq1, sz_lt (by omega), ?_⟩
    · rw [hal]
      exact sz_of (nm_short k (by omega))
    rw [hal]
    have hq2 : upd H1 q (.lst (acc ++ [V.str (nmS k)])) q = some (.lst (acc ++ [V.str (nmS k)])) := upd_same
    have hacc2 : DpAll K (upd H1 q (.lst (acc ++ [V.str (nmS k)]))) (acc ++ [V.str (nmS k)]) ((List.range (k + 1)).map nmK) := by
      rw [range_up]
      refine dps_app (dpsTK (TK.setL hq1) _ _ (frz_all fun d hd => ?_) (dpsMono e1 _ _ hacc)) (dps_one (.str _))
      obtain ⟨j, _, rfl⟩ := List.mem_map.mp hd
      rfl
    have k2 : Kp [q] H (upd H1 q (.lst (acc ++ [V.str (nmS k)]))) := Kp.up e1
    show tRet _ _ _ (upd H1 q (.lst (acc ++ [V.str (nmS k)])))
    revert hq2 hacc2 k2
    generalize upd H1 q (.lst (acc ++ [V.str (nmS k)])) = H2
    intro hq2 hacc2 k2
    refine s_retU (eu_tup (ea_cons ev_c (ea_cons (ev_op (ev_var rfl) (ev_un ev_c ru_neg) (rv_ixL (SqL.of hq2) (atI_last _ _))) ea_nil)) (by simp)) fun l H3 hl e3 h3' => ?_
    exact kq (.ref l) (bindD (nmS k)) H3 _ 1 (.tup (SqT.of h3') (.cons (.str _) (.cons (.str _) .nil))) (.bindP _ _ (nm_ok k (by omega)).1 (nm_ok k (by omega)).2) (by
      rw [nm, if_pos (show tagOf (bindD (nmS k)) = "bind" from rfl)]
      rfl) (by omega) (k2.trans (Kp.ex e3)) (e3 _ _ hq2) (dpsMono e3 _ _ hacc2)
  · refine q_when (b := false) (et_is (et_str (ed_ix0 (ed_var rfl hd) ed0) hs) (decide_eq_false ht)) (fun e => by cases e) (fun _ H1 e1 => ?_)
    have hd1 := dpMono e1 _ _ hd
    have hq1 := e1 _ _ hq
    have ha1 := dpsMono e1 _ _ hacc
    rcases hway with ⟨htt, m, ds, rfl, rfl, h2, h3', hds⟩ | ⟨htt, hway⟩
    · refine q_when (b := true) (et_is (et_str (ed_ix0 (ed_var rfl hd1) ed0) hs) (decide_eq_true htt)) (fun _ H2 e2 => ?_) (fun e => by cases e)
      have hd2 := dpMono e2 _ _ hd1
      have hq2 := e2 _ _ hq1
      have ha2 := dpsMono e2 _ _ ha1
      refine s_retX (t_tup (t_cons (t_c (t_cons (t_cb (t_cons ?_))))))
      refine ed_nth (K := K) 1 (ed_var rfl hd2) (show tupD ds = .tuple [.str "tuple", .tuple ds] from rfl) (by simp) H2 (Ex.refl _) _ fun v3 H3 e3 hv3 => ?_
      obtain ⟨a, xs, rfl, hsa, hxa⟩ := dp_tup (show Dp K H3 v3 (.tuple ds) from hv3)
      have hq3 := e3 _ _ hq2
      have ha3 := dpsMono e3 _ _ ha2
      have E3 := (e1.trans e2).trans e3
      have hxl := dps_len hxa
      have h3m : 3 ^ (m + 1) = 3 * 3 ^ m := by rw [Nat.pow_succ, Nat.mul_comm]
      refine ⟨a, rfl, ⟨xs, hsa⟩, fun D hD => ?_⟩
      have hDq : D ≠ q := ne_of_none hq3 hD |>.symm
      have tkOf : ∀ {H' : Hp}, Kp [q, D] (upd H3 D (.lst [])) H' → TK K H3 H' := fun {H'} k' => (TK.ex (Ex.new hD)).trans (k'.tk fun b hb => by
        simp only [List.mem_cons, List.mem_nil_iff, or_false] at hb
        rcases hb with rfl | rfl
        · exact ⟨_, by rw [upd_ne (Ne.symm hDq)]; exact hq3⟩
        · exact ⟨_, upd_same⟩)
      refine lc_it (walk_tup (xs := xs)) (fun t H' => Kp [q, D] (upd H3 D (.lst [])) H' ∧ ∃ lacc es nacc j, H' D = some (.lst lacc) ∧ DpAll K H' lacc es ∧ es.length = t ∧ (∀ e ∈ es, PatD m e) ∧ es.flatMap (nm (m + 1)) = (List.range' k j).map nmK ∧ j ≤ t * 3 ^ m ∧ H' q = some (.lst nacc) ∧ DpAll K H' nacc ((List.range (k + j)).map nmK)) ?_ (fun t H' _ hh => tkOf hh.1 _ _ hsa) (fun t x H4 H5 ht hh y => ?_) (fun H4 hh => ?_)
      · refine ⟨Kp.refl _ _, [], [], acc, 0, upd_same, .nil, rfl, fun e he => (by cases he), rfl, by simp, by rw [upd_ne (Ne.symm hDq)]; exact hq3, dpsMono (Ex.new hD) _ _ ha3⟩
      · obtain ⟨rfl, hy⟩ := y
        obtain ⟨k4, lacc, es, nacc, j, hla, hle, hel, hes, hnm, hj, hq4, hna⟩ := hh
        refine ⟨wipe1, yes_turn ?_⟩
        obtain ⟨di, hdi, hxi⟩ := dps_of t hxa hy
        have hri := hds di (List.mem_of_getElem? hdi)
        have hxi4 := dpTK (tkOf k4) _ _ hri.frz hxi
        have hjt : j ≤ 2 * 3 ^ m := Nat.le_trans hj (Nat.mul_le_mul_right _ (by omega))
        refine t_call (t_cons ⟨x, rfl, t_cons ⟨.ref q, rfl, m, rfl, x, di, q, nacc, k + j, rfl, hxi4, hri, hq4, hna, by omega, fun r d' H6 acc6 j6 hr6 hp6 hn6 hj6 k6 hq6 ha6 => ?_⟩⟩)
        have hla6 := k6 D _ (by simpa using hDq) hla
        have hfes : frzAll es = true := frz_all fun e he => (hes e he).frz
        have tk6 : TK K _ H6 := k6.tk1 hq4
        refine ⟨lacc, hla6, sz_lt (by rw [dps_len hle]; omega), ?_, lacc ++ [r], es ++ [d'], acc6, j + j6, upd_same, ?_, by simp [hel], ?_, ?_, ?_, by rw [upd_ne (Ne.symm hDq)]; exact hq6, ?_⟩
        · exact k4.trans (fun b o nb hb => by
            simp only [List.mem_cons, List.mem_nil_iff, or_false, not_or] at nb
            rw [upd_ne nb.2]
            exact k6 b o (by simpa using nb.1) hb)
        · exact dps_app (dpsTK (TK.setL hla6) _ _ hfes (dpsTK tk6 _ _ hfes hle)) (dps_one (dpTK (TK.setL hla6) _ _ hp6.frz hr6))
        · intro e he
          rcases List.mem_append.mp he with he | he
          · exact hes e he
          · rw [List.mem_singleton.mp he]
            exact hp6
        · rw [List.flatMap_append, hnm, ← range_app, ← hn6]
          simp
        · rw [Nat.add_mul]
          omega
        · rw [← Nat.add_assoc]
          refine dpsTK (TK.setL hla6) _ _ (frz_all fun d hd => ?_) ha6
          obtain ⟨z, _, rfl⟩ := List.mem_map.mp hd
          rfl
      · obtain ⟨k4, lacc, es, nacc, j, hla, hle, hel, hes, hnm, hj, hq4, hna⟩ := hh
        refine ⟨D, lacc, rfl, .inl ⟨SqL.of hla, fun l hl => ⟨sz_of (by simp), fun y hy => ?_⟩⟩⟩
        have eL : Ex H4 (upd H4 l (.tup lacc)) := Ex.new hl
        have eY := Ex.new (o := .tup [.str "tuple", .ref l]) hy
        have k0 : Kp [q] H H4 := fun b o nb hb => k4 b o (by
          simp only [List.mem_cons, List.mem_nil_iff, or_false, not_or] at nb ⊢
          refine ⟨nb, fun z => ?_⟩
          rw [z] at hb
          have := E3 _ _ hb
          rw [hD] at this
          cases this) ((Ex.new hD) _ _ (E3 _ _ hb))
        refine kq _ (tupD es) _ nacc j (.tup (SqT.of upd_same) (.cons (.str _) (.cons (.tup (SqT.of (eY _ _ upd_same)) (dpsMono (eL.trans eY) _ _ hle)) .nil))) (.tupP _ es (by omega) (by omega) hes) (by rw [nm_tup]; exact hnm) ?_ (k0.trans (Kp.ex (eL.trans eY))) ((eL.trans eY) _ _ hq4) (dpsMono (eL.trans eY) _ _ hna)
        rw [h3m]
        refine Nat.le_trans hj (Nat.mul_le_mul_right _ (by omega))
    · refine q_when (b := false) (et_is (et_str (ed_ix0 (ed_var rfl hd1) ed0) hs) (decide_eq_false htt)) (fun e => by cases e) (fun _ H2 e2 => ?_)
      have hd2 := dpMono e2 _ _ hd1
      have hq2 := e2 _ _ hq1
      have ha2 := dpsMono e2 _ _ ha1
      have E2 := e1.trans e2
      rcases hway with ⟨htc, m, s1, e0, rfl, rfl, hs1, he0⟩ | ⟨htc, hpd, hnm0⟩
      · have hN : isNone e0 = false := by cases he0 <;> rfl
        refine q_when (b := true) (et_is (et_and (et_str (ed_ix0 (ed_var rfl hd2) ed0) hs) fun _ => et_cmp (ed_notN (ed_nth 2 (ed_var rfl hd2) (show conD s1 e0 = .tuple [.str "con", .str s1, e0] from rfl) (by simp)))) (by rw [decide_eq_true htc, show nth (conD s1 e0) 2 = e0 from rfl, hN]; rfl)) (fun _ H3 e3 => ?_) (fun e => by cases e)
        have hd3 := dpMono e3 _ _ hd2
        refine s_retX (t_tup (t_cons (t_c (t_cons ?_))))
        refine ed_nth (K := K) 1 (ed_var rfl hd3) (show conD s1 e0 = .tuple [.str "con", .str s1, e0] from rfl) (by simp) H3 (Ex.refl _) _ fun v4 H4 e4 hv4 => t_cons (t_call (t_cons ?_))
        refine ed_nth (K := K) 2 (ed_var rfl (dpMono e4 _ _ hd3)) (show conD s1 e0 = .tuple [.str "con", .str s1, e0] from rfl) (by simp) H4 (Ex.refl _) _ fun v5 H5 e5 hv5 => t_cons ⟨.ref q, rfl, ?_⟩
        have E5 := (E2.trans e3).trans (e4.trans e5)
        have e25 := e3.trans (e4.trans e5)
        have h3m : 3 ^ (m + 1) = 3 * 3 ^ m := by rw [Nat.pow_succ, Nat.mul_comm]
        refine ⟨m, rfl, v5, e0, q, acc, k, rfl, hv5, he0, e25 _ _ hq2, dpsMono e25 _ _ ha2, by omega, fun r d' H6 acc6 j6 hr6 hp6 hn6 hj6 k6 hq6 ha6 => ⟨sz_of (by simp), fun y hy => ?_⟩⟩
        have eY := Ex.new (o := .tup [.str "con", v4, r]) hy
        have hv4' := dp_str (show Dp K H4 v4 (.str s1) from hv4)
        subst hv4'
        have hN' : isNone d' = false := by cases hp6 <;> rfl
        refine kq _ (conD s1 d') _ acc6 j6 (.tup (SqT.of upd_same) (.cons (.str _) (.cons (.str _) (.cons (dpMono eY _ _ hr6) .nil)))) (.con1 _ s1 d' (conStrs_ok s1 hs1).1 (conStrs_ok s1 hs1).2 hp6) (by rw [nm_con _ _ _ hN']; exact hn6) (by omega) (((Kp.ex E5).trans k6).trans (Kp.ex eY)) (eY _ _ hq6) (dpsMono eY _ _ ha6)
      · have fin : ∀ H3, Ex H2 H3 → tRet (tVar 0) { nx := fun _ H' => Q .non H', rt := Q } (L2.start ["_law_pattern_here", "_law_names", "_law_inner"] [pv0, .ref q]) H3 := fun H3 e3 => s_retVar rfl (kq pv0 d H3 acc 0 (dpMono e3 _ _ hd2) hpd hnm0 (Nat.zero_le _) (Kp.ex (E2.trans e3)) (e3 _ _ hq2) (dpsMono e3 _ _ ha2))
        by_cases hc : tagOf d = "con"
        · obtain ⟨s1, rfl⟩ := htc hc
          exact q_when (b := false) (et_is (et_and (et_str (ed_ix0 (ed_var rfl hd2) ed0) hs) fun _ => et_cmp (ed_notN (ed_nth 2 (ed_var rfl hd2) (show conD s1 .none = .tuple [.str "con", .str s1, .none] from rfl) (by simp)))) (by rw [decide_eq_true hc]; rfl)) (fun e => by cases e) (fun _ H3 e3 => fin H3 e3)
        · exact q_when (b := false) (et_is (et_and (b := false) (et_str (ed_ix0 (ed_var rfl hd2) ed0) hs) fun z => absurd (of_decide_eq_true z) hc) (by rw [decide_eq_false hc]; rfl)) (fun e => by cases e) (fun _ H3 e3 => fin H3 e3)
theorem ok__law_named (T : Tx K mg) : ∀ n : Nat, Df P w K mg base CX0 (n + 2) "_law_named" ["_law_pattern_here", "_law_names"] (spNm K n)
  | 0 => named_step T 0 (by
      obtain ⟨fd, F⟩ := T.f__law_named
      exact ⟨fd, F.ok sc__law_named (fun _ _ _ _ h => by obtain ⟨m, h, _⟩ := h; omega) fun cdv A outer s H vs Q E hr h => by obtain ⟨m, h, _⟩ := h; omega, F.bindsN (fun _ _ _ _ _ _ us hl => match us, hl with | [_, _], _ => rfl), F.kp, T.g__law_named⟩)
  | n + 1 => named_step T (n + 1) ((ok__law_named T n).imp fun vs H Q E hh => by
      obtain ⟨m, hm, hh⟩ := hh
      have : m = n := by omega
      subst this
      exact hh)
end
end K25

end

section
set_option maxHeartbeats 4000000
namespace K25
open PySem PySem.Spec PyProof.Rows L2 Evl
/-! ### good patterns -/
theorem nm_more : ∀ (n m : Nat) (d : PyData), PatD n d → n ≤ m → nm (m + 1) d = nm (n + 1) d
  | 0, 0, _, _, _ => rfl
  | 0, m + 1, d, h, _ => by
    have hw : within d = [] := by
      have h2 := h.within.2
      cases hw : within d with
      | nil => rfl
      | cons k r =>
        obtain ⟨m, e, _⟩ := h2 k (by rw [hw]; simp)
        omega
    by_cases c : tagOf d = "bind"
    · rw [nm, nm, if_pos c, if_pos c]
    · rw [nm_go c, nm_go c, hw]
      rfl
  | n + 1, 0, _, _, h => by omega
  | n + 1, m + 1, d, h, hle => by
    by_cases c : tagOf d = "bind"
    · rw [nm, nm, if_pos c, if_pos c]
    · rw [nm_go c, nm_go c]
      have key : ∀ ks : List PyData, (∀ k ∈ ks, PatD n k) → ks.flatMap (nm (m + 1)) = ks.flatMap (nm (n + 1)) := fun ks hk => by
        induction ks with
        | nil => rfl
        | cons x r ih =>
          rw [List.flatMap_cons, List.flatMap_cons, ih fun y hy => hk y (List.mem_cons_of_mem _ hy), nm_more n m x (hk x List.mem_cons_self) (by omega)]
      exact key _ fun k hk => by
        obtain ⟨m2, e, hm⟩ := h.within.2 k hk
        have : m2 = n := by omega
        subst this
        exact hm
def GoodP (d : PyData) : Prop := PatD 3 d ∧ ∃ j, j < 28 ∧ nm 4 d = (List.range j).map nmK
theorem GoodP.is {d : PyData} (h : GoodP d) : isPatF d = true := by
  obtain ⟨hp, j, hj, e⟩ := h
  obtain ⟨ks, hk, _⟩ := hp.in
  unfold isPatF
  rw [hk, nm_more 3 4 d hp (by omega), e, nm_unlike j hj]
  rfl
theorem GoodP.four {d : PyData} (h : GoodP d) : PatD 4 d := h.1.up
theorem GoodP.pre {d : PyData} (h : GoodP d) : PreP d := ⟨wf_le (by decide) h.1.wf, .inr h.four⟩
/-! ### the value that a pattern is filled to -/
def abF (s : Str) : Bool := [PyData.str "any", PyData.str "bind"].any fun z => PyData.eqv z (.str s)
def filF : Nat → PyData → PyData
  | 0, d => d
  | n + 1, d => if abF (tagOf d) = true then cellD 3 else if decide (tagOf d = "tuple") = true then .tuple [.str "tuple", .tuple ((kids (nth d 1)).map (filF n))] else if (decide (tagOf d = "con") && !isNone (nth d 2)) = true then .tuple [.str "con", nth d 1, filF n (nth d 2)] else d
theorem abF_eq (s : Str) : abF s = (decide (Str.ofString "any" = s) || decide (Str.ofString "bind" = s)) := by
  unfold abF
  simp only [List.any_cons, List.any_nil, Bool.or_false, PyData.eqv]
  rw [Bool.beq_eq_decide_eq, Bool.beq_eq_decide_eq]
theorem fil_val : ∀ (n : Nat) (d : PyData), PatD n d → ValD n (filF (n + 1) d) := by
  intro n d h
  induction h with
  | anyP n => exact (show filF (n + 1) anyD = cellD 3 from if_pos (by decide +kernel)) ▸ .cellP _ _ (by decide)
  | bindP n s => exact (show filF (n + 1) (bindD s) = cellD 3 from if_pos (by show abF "bind" = true; decide +kernel)) ▸ .cellP _ _ (by decide)
  | intP n i hi => exact (show filF (n + 1) (intD i) = intD i from (if_neg (by show ¬ abF "int" = true; decide +kernel)).trans ((if_neg (by show ¬ decide (Str.ofString "int" = "tuple") = true; decide +kernel)).trans (if_neg (by show ¬ (decide (Str.ofString "int" = "con") && _) = true; rw [show decide (Str.ofString "int" = "con") = false by decide +kernel]; simp)))) ▸ .intP _ _ hi
  | boolP n b => exact (show filF (n + 1) (boolD b) = boolD b from (if_neg (by show ¬ abF "bool" = true; decide +kernel)).trans ((if_neg (by show ¬ decide (Str.ofString "bool" = "tuple") = true; decide +kernel)).trans (if_neg (by show ¬ (decide (Str.ofString "bool" = "con") && _) = true; rw [show decide (Str.ofString "bool" = "con") = false by decide +kernel]; simp)))) ▸ .boolP _ _
  | unitP n => exact (show filF (n + 1) unitD = unitD from (if_neg (by show ¬ abF "unit" = true; decide +kernel)).trans ((if_neg (by show ¬ decide (Str.ofString "unit" = "tuple") = true; decide +kernel)).trans (if_neg (by show ¬ (decide (Str.ofString "unit" = "con") && _) = true; rw [show decide (Str.ofString "unit" = "con") = false by decide +kernel]; simp)))) ▸ .unitP _
  | con0 n s hs hb => exact (show filF (n + 1) (conD s .none) = conD s .none from (if_neg (by show ¬ abF "con" = true; decide +kernel)).trans ((if_neg (by show ¬ decide (Str.ofString "con" = "tuple") = true; decide +kernel)).trans (if_neg (by show ¬ (_ && !isNone PyData.none) = true; simp [isNone])))) ▸ .con0 _ _ hs hb
  | con1 n s d hs hb hd ih =>
    have hN : isNone d = false := by cases hd <;> rfl
    exact (show filF (n + 1 + 1) (conD s d) = conD s (filF (n + 1) d) from (if_neg (by show ¬ abF "con" = true; decide +kernel)).trans ((if_neg (by show ¬ decide (Str.ofString "con" = "tuple") = true; decide +kernel)).trans (if_pos (by show (decide (Str.ofString "con" = "con") && !isNone d) = true; rw [hN]; decide +kernel)))) ▸ .con1 _ _ _ hs hb ih
  | tupP n ds h2 h4 hd ih =>
    exact (show filF (n + 1 + 1) (tupD ds) = tupD (ds.map (filF (n + 1))) from (if_neg (by show ¬ abF "tuple" = true; decide +kernel)).trans (if_pos (by show decide (Str.ofString "tuple" = "tuple") = true; decide +kernel))) ▸ .tupP _ _ (by simpa using h2) (by simpa using h4) fun d hd => by
      obtain ⟨e, he, rfl⟩ := List.mem_map.mp hd
      exact ih e he
section
variable {P : Program} {w : World} {K : PySem.W.Frag} {mg : Str → Option Value} {base : Heap}
theorem ed_tupleL {σ : L2.St} {H : Hp} {te : TE} {ds : List PyData} {r : List V → Hp → VK → Prop} (hr : ∀ q acc H (Q : VK), SqL K H q acc → (∀ l, H l = none → Q (.ref l) (upd H l (.tup acc))) → r [.ref q] H Q) (h : Ed K te σ H (.list ds)) : Ed K (tCB r (tCons te tNil)) σ H (.tuple ds) := fun H1 e Q q =>
  h H1 e _ fun v H2 e2 hv => by
    obtain ⟨a, xs, rfl, hs, hx⟩ := dp_lst hv
    exact hr a xs H2 _ hs fun l hl => q (.ref l) _ (e2.trans (Ex.new hl)) (.tup (SqT.of upd_same) (dpsMono (Ex.new hl) _ _ hx))
theorem sc__law_filled : FnScope ["_law_pattern_here", "_law_one"] ["_law_pattern_here"] (defScope s76) := ⟨rfl, rfl, rfl, by decide +kernel, rfl, by decide +kernel, by decide +kernel⟩
theorem filled_step (T : Tx K mg) (n : Nat) (hn : n ≤ 8) (D__law_filled : Df P w K mg base CX0 (n + 1) "_law_filled" ["_law_pattern_here"] (sp1 K (filF n) fun d => ∃ m, n = m + 1 ∧ PatD m d)) : Df P w K mg base CX0 (n + 2) "_law_filled" ["_law_pattern_here"] (sp1 K (filF (n + 1)) (PatD n)) := by
  refine df_ok T.f__law_filled T.g__law_filled sc__law_filled len1 (fun _ _ _ _ _ _ us hl => match us, hl with | [_], _ => rfl) fun cdv A outer s H vs Q E hr h => ?_
  obtain ⟨v, d, rfl, hd, hp, q⟩ := h
  have nd := sc__law_filled.nd
  refine ⟨_, (pss_cons (ps_if (pt_cmpR (o_inT hr) (pe_ix ix_tup (pv 0) pe_int (fun _ _ => rfl)) (pe_tup (pa_cons pe_str (pa_cons pe_str pa_nil))) (by rfl)) (pss_one (ps_ret (pe_tup (pa_cons pe_str (pa_cons pe_int pa_nil))))) pss_nil)
      (pss_cons (ps_if (pt_cmpR (op_eqD hr.units) (pe_ix ix_tup (pv 0) pe_int (fun _ _ => rfl)) pe_str (nomark _)) (pss_one (ps_ret (pe_tup (pa_cons pe_str (pa_cons (pe_callTy call_tuple_of (by rfl) T.n_tuple b_tuple (pa_cons (pe_lc (own := [("_law_one", 1)]) (g := gName 1) rfl nd (pi_tup (pe_ix ix_tup (pv 0) pe_int (fun _ _ => rfl))) (blkOk_by (own := [("_law_one", 1)]) (N := ["_law_pattern_here", "_law_one"]) (sc := defScope s76) (by decide +kernel)) (fun _ _ _ _ _ => pg_name (i := 1) nd rfl (Or.inl rfl)) (fun _ _ _ _ _ => pts_nil) (fun _ _ _ _ _ => (pe_df D__law_filled hr (pa_cons (pv 1) pa_nil)))) pa_nil)) pa_nil))))) pss_nil)
      (pss_cons (ps_if (PW.pt (pw_and (pt_cmpR (op_eqD hr.units) (pe_ix ix_tup (pv 0) pe_int (fun _ _ => rfl)) pe_str (nomark _)) (pw_and1 (pt_cmpR o_notN (pe_ix ix_tup (pv 0) pe_int (fun _ _ => rfl)) pe_non (nomark _))))) (pss_one (ps_ret (pe_tup (pa_cons pe_str (pa_cons (pe_ix ix_tup (pv 0) pe_int (fun _ _ => rfl)) (pa_cons (pe_df D__law_filled hr (pa_cons (pe_ix ix_tup (pv 0) pe_int (fun _ _ => rfl)) pa_nil)) pa_nil)))))) pss_nil)
      (pss_one (ps_ret (pv 0)))))), ?_⟩
  obtain ⟨r, ed0, hs, hrl⟩ := hp.word
  have q' : ∀ r H', Ex H H' → Dp K H' r (if abF (tagOf d) = true then cellD 3 else if decide (tagOf d = "tuple") = true then .tuple [.str "tuple", .tuple ((kids (nth d 1)).map (filF n))] else if (decide (tagOf d = "con") && !isNone (nth d 2)) = true then .tuple [.str "con", nth d 1, filF n (nth d 2)] else d) → Q r H' := q
  clear q
  refine q_when (et_cmp (ed_inT (ed_ix0 (ed_var rfl hd) ed0) (ed_tup (ea_consD ed_str (ea_consD ed_str ea_nilD))) (wf_shaped (n := 0) hs) (by decide +kernel))) (fun hc H1 e1 => ?_) (fun hc H1 e1 => ?_)
  · have hc' : abF (tagOf d) = true := hc
    simp only [if_pos hc'] at q'
    exact sd_ret (ed_tup (ea_consD ed_str (ea_consD ed_int ea_nilD))) fun v H2 e2 hv => q' v H2 (e1.trans e2) hv
  have hc' : abF (tagOf d) = false := hc
  simp only [if_neg (neg_of hc')] at q'
  have hd1 := dpMono e1 _ _ hd
  clear hc hc'
  refine q_when (et_str (ed_ix0 (ed_var rfl hd1) ed0) hs) (fun hc H2 e2 => ?_) (fun hc H2 e2 => ?_)
  · simp only [if_pos hc] at q'
    obtain ⟨m, ds, rfl, rfl, h2, h4, hds⟩ := hp.len.2.1 (of_decide_eq_true hc)
    have hfz : frzAll (ds.map (filF (m + 1))) = true := frz_all fun x hx => by
      obtain ⟨e, he, rfl⟩ := List.mem_map.mp hx
      exact (fil_val m e (hds e he)).frz
    refine sd_ret (K := K) (d := .tuple [.str "tuple", .tuple (ds.map (filF (m + 1)))]) (ed_tup (ea_consD ed_str (ea_consD (ed_tupleL (fun q acc H Q hs k => ⟨q, acc, rfl, .inl ⟨hs, k⟩⟩) (En.ed (en_lcT (j := 1) (ds := ds) (ed_nth 1 (ed_var rfl (dpMono e2 _ _ hd1)) (show tupD ds = .tuple [.str "tuple", .tuple ds] from rfl) (by simp)) (by simp) (by simp; omega) hfz fun i d d' x H3 e3 h1 h2 hx => ?_))) ea_nilD))) fun v H3 e3 hv => q' v H3 ((e1.trans e2).trans e3) hv
    have he : d' = filF (m + 1) d := by
      rw [List.getElem?_map, h1] at h2
      exact (Option.some.inj h2).symm
    subst he
    exact ed_call1 (f := filF (m + 1)) (ed_var rfl hx) ⟨m, rfl, hds d (List.mem_of_getElem? h1)⟩
  simp only [if_neg (neg_of hc)] at q'
  have hd2 := dpMono e2 _ _ hd1
  have E2 := e1.trans e2
  clear hc
  refine q_when (b := decide (tagOf d = "con") && !isNone (nth d 2)) (et_and (et_str (ed_ix0 (ed_var rfl hd2) ed0) hs) fun hc => ?_) (fun hc H3 e3 => ?_) (fun hc H3 e3 => ?_)
  · obtain ⟨s1, e, rfl, _⟩ := hp.len.2.2 (of_decide_eq_true hc)
    exact et_cmp (ed_notN (ed_nth 2 (ed_var rfl hd2) (show conD s1 e = .tuple [.str "con", .str s1, e] from rfl) (by simp)))
  · simp only [if_pos hc] at q'
    simp only [Bool.and_eq_true, decide_eq_true_eq, Bool.not_eq_true'] at hc
    obtain ⟨s1, e, rfl, _, _, he⟩ := hp.len.2.2 hc.1
    have hd3 := dpMono e3 _ _ hd2
    refine sd_ret (K := K) (ed_tup (ea_consD ed_str (ea_consD (ed_nth 1 (ed_var rfl hd3) (show conD s1 e = .tuple [.str "con", .str s1, e] from rfl) (by simp)) (ea_consD (ed_call1 (f := filF n) (ed_nth 2 (ed_var rfl hd3) (show conD s1 e = .tuple [.str "con", .str s1, e] from rfl) (by simp)) ?_) ea_nilD)))) fun v H4 e4 hv => q' v H4 ((E2.trans e3).trans e4) hv
    rcases he with rfl | he
    · exact absurd hc.2 (show ¬ (true = false) by decide)
    · exact he
  · simp only [if_neg (neg_of hc)] at q'
    exact s_retVar rfl (q' v H3 (E2.trans e3) (dpMono e3 _ _ hd2))
theorem ok__law_filled (T : Tx K mg) : ∀ n : Nat, n ≤ 8 → Df P w K mg base CX0 (n + 2) "_law_filled" ["_law_pattern_here"] (sp1 K (filF (n + 1)) (PatD n))
  | 0, h => filled_step T 0 h (by
      obtain ⟨fd, F⟩ := T.f__law_filled
      exact ⟨fd, F.ok sc__law_filled len1 fun cdv A outer s H vs Q E hr h => by obtain ⟨_, _, _, _, ⟨m, h, _⟩, _⟩ := h; omega, F.bindsN (fun _ _ _ _ _ _ us hl => match us, hl with | [_], _ => rfl), F.kp, T.g__law_filled⟩)
  | n + 1, h => filled_step T (n + 1) h ((ok__law_filled T n (by omega)).imp fun vs H Q E hh => by
      obtain ⟨v, d, rfl, hd, ⟨m, hm, hp⟩, q⟩ := hh
      have : m = n := by omega
      subst this
      exact ⟨v, d, rfl, hd, hp, q⟩)
def spPats (K : PySem.W.Frag) : Sp := fun vs H Q _ => ∃ p kv kd, vs = [.ref p, kv, .int 5, .int 3] ∧ Pot H p ∧ Dp K H kv kd ∧ (∃ m, m ≤ 10 ∧ KindD m kd) ∧
  ∀ l xs ds H', H l = none → H' l = some (.lst xs) → DpAll K H' xs ds → 1 ≤ ds.length → ds.length ≤ 5 → (∀ d ∈ ds, GoodP d) → Kp [p] H H' → Pot H' p → Q (.ref l) H'
theorem sc__law_patterns : FnScope ["_law_pot_here", "_law_kind_here", "_law_most", "_law_deep", "_law_found", "_law_turn"] ["_law_pot_here", "_law_kind_here", "_law_most", "_law_deep"] (defScope s72) := ⟨rfl, rfl, rfl, by decide +kernel, rfl, by decide +kernel, by decide +kernel⟩
theorem ok__law_patterns (T : Tx K mg) : Df P w K mg base CX0 7 "_law_patterns" ["_law_pot_here", "_law_kind_here", "_law_most", "_law_deep"] (spPats K) := by
  have D__law_draw := ok__law_draw (P := P) (w := w) (base := base) T
  have D__law_pattern := ok__law_pattern (P := P) (w := w) (base := base) T 3 (by decide)
  have D__law_named := ok__law_named (P := P) (w := w) (base := base) T 3
  refine df_ok T.f__law_patterns T.g__law_patterns sc__law_patterns (fun vs H Q E h => by
    obtain ⟨p, kv, kd, rfl, _⟩ := h
    rfl) (fun _ _ _ _ _ _ us hl => match us, hl with | [_, _, _, _], _ => rfl) fun cdv A outer s H vs Q E hr h => ?_
  obtain ⟨p, kv, kd, rfl, hp, hkd, ⟨km, hkm, hk⟩, q⟩ := h
  have nd := sc__law_patterns.nd
  refine ⟨_, (pss_cons (ps_set (i := 4) nd rfl (Or.inl rfl) (pe_lst pa_nil))
      (pss_cons (ps_for PassesOwn.never rfl (pi_range1 rfl T.n_range (pa_cons (pe_op op_add pe_int (pe_df D__law_draw hr (pa_cons (pv 0) (pa_cons (pv 2) pa_nil)))) pa_nil)) (pg_name (i := 5) nd rfl (Or.inl rfl))
      (pss_one (ps_expr (pe_bm PySem.F.plainAttrs_list PySem.F.slot_list_append PySem.F.type_list_append mt_append (pv 4) (pa_cons (pe_df D__law_named hr (pa_cons (pe_df D__law_pattern hr (pa_cons (pv 0) (pa_cons (pv 1) (pa_cons (pv 3) pa_nil)))) (pa_cons (pe_lst pa_nil) pa_nil))) pa_nil)))))
      (pss_one (ps_ret (pv 4))))), ?_⟩
  refine q_asgL (el_lst ea_nil (by simp)) fun l H1 hl e1 hl1 => ?_
  have hp1 := hp.ex e1
  have hlp : l ≠ p := hp.ne hl
  refine q_forX (t_rng (t_cons (t_op (t_c ?_))))
  refine (ep_draw (K := K) (n := 5) hp1 (ev_var rfl) (ev_var rfl)) _ fun r d H2 hd2 hdr2 k2 hp2 => ?_
  obtain ⟨j, rfl, hj⟩ := hd2
  have hr2 := dp_int hdr2
  subst hr2
  have hto : ((1 : Int) + (j : Int)).toNat = 1 + j := by omega
  refine ⟨1, (j : Int), rfl, rfl, _, rfl, by omega, by omega, ?_⟩
  rw [hto]
  refine forT_range (n := 1 + j) (fun t σ' H' => (∃ x5, σ' = [some (.ref p), some kv, some (.int 5), some (.int 3), some (.ref l), x5]) ∧ Kp [p] H H' ∧ Pot H' p ∧ ∃ acc ds, H' l = some (.lst acc) ∧ DpAll K H' acc ds ∧ ds.length = t ∧ ∀ d ∈ ds, GoodP d) ⟨⟨_, rfl⟩, (Kp.ex e1).trans k2, hp2, [], [], k2 l _ (by simpa using hlp) hl1, .nil, rfl, fun d hd => by cases hd⟩ (fun t σ' H' ht hh => ?_) (fun σ' H' hh => ?_)
  · obtain ⟨⟨x5, rfl⟩, k', hp', acc, ds, hacc, hda, hlen, hks⟩ := hh
    refine ep_app (G := GoodP) hlp hacc rfl hp' hda (frz_all fun d hd => (hks d hd).1.frz) (by omega) (fun d hd => hd.1.frz) (fun Q' q' => ?_) fun acc' d H5 hd5 hacc5 hda5 k5 hp5 => ⟨⟨_, rfl⟩, k'.two hl k5, hp5, acc', ds ++ [d], hacc5, hda5, by simp [hlen], fun x hx => ?_⟩
    · refine t_call (t_cons (t_call (t_cons ⟨.ref p, rfl, t_cons ⟨kv, rfl, t_cons ⟨.int 3, rfl, ?_⟩⟩⟩)))
      refine ⟨p, kv, kd, rfl, hp', dpKp hp k' _ _ (npt_frz _ hk.frz) hkd, ⟨km, hkm, hk⟩, fun r d H6 hd6 hr6 k6 hp6 => t_cons ?_⟩
      refine enf_lst (K := K) (ds := []) ea_nilD (by simp) H6 (Ex.refl _) _ fun b bs H7 hb7 e7 hlb hbs => ?_
      cases hbs
      have hbp : b ≠ p := hp6.ne hb7
      refine ⟨r, d, b, [], 0, rfl, dpMono e7 _ _ hr6, hd6, hlb, .nil, by decide, fun r2 d2 H8 acc8 j8 hr8 hpd hnm hj8 k8 hq8 ha8 => ?_⟩
      have hb0 : H' b = none := kp_none k6 hb7 hbp
      have hp8 : Pot H8 p := by
        obtain ⟨u, v, h1, h2⟩ := hp6.ex e7
        exact ⟨u, v, k8 p _ (by simpa using hbp.symm) h1, h2⟩
      refine q' r2 d2 H8 ⟨hpd, j8, by omega, ?_⟩ hr8 (fun a o na ha => k8 a o (by
        simp only [List.mem_cons, List.mem_nil_iff, or_false]
        intro z
        rw [z, hb0] at ha
        cases ha) (e7 _ _ (k6 a o na ha))) hp8
      rw [hnm, List.range_eq_range']
    · rcases List.mem_append.mp hx with hx | hx
      · exact hks x hx
      · rw [List.mem_singleton.mp hx]
        exact hd5
  · obtain ⟨⟨x5, rfl⟩, k', hp', acc, ds, hacc, hda, hlen, hks⟩ := hh
    exact s_retVar rfl (q l acc ds H' hl hacc hda (by omega) (by omega) hks k' hp')
end
end K25

end

section
set_option maxHeartbeats 4000000
namespace K25
open PySem PySem.Spec PyProof.Rows L2 Evl
section
variable {P : Program} {w : World} {K : PySem.W.Frag} {mg : Str → Option Value} {base : Heap}
theorem t_zip {ta : TA} {σ : L2.St} {H : Hp} {R : It → Hp → Prop} (h : ta σ H fun vs H1 => ∃ a b xs ys, vs = [.ref a, .ref b] ∧ ((SqL K H1 a xs ∧ SqL K H1 b ys ∧ R (Itz K a b) H1) ∨ (SqT K H1 a xs ∧ SqT K H1 b ys ∧ R (RZ.ItzT K a b) H1))) : RZ.iZipA K ta σ H R := h
theorem forT_zip {a b : Addr} {xs ys : List V} {g : TG} {tb tz : TS} {D : Ends} {σ : L2.St} {H : Hp} (hl : xs.length = ys.length) (Pv : Nat → L2.St → Hp → Prop) (h0 : Pv 0 σ H) (hq : ∀ i σ H, Pv i σ H → SqT K H a xs ∧ SqT K H b ys)
    (hs : ∀ (i : Nat) (x y : V) (TT : Addr) (σ' : L2.St) (H' : Hp), xs[i]? = some x → ys[i]? = some y → Pv i σ' H' → H' TT = none → g (.ref TT) σ' (upd H' TT (.tup [x, y])) fun σ2 H2 => tb { D with nx := Pv (i + 1), ct := Pv (i + 1), bk := tz D } σ2 H2) (hd : ∀ σ' H', Pv xs.length σ' H' → tz D σ' H') : ForT (RZ.ItzT K a b) g tb tz D σ H :=
  RZ.for_zipT (D := { D with nx := tz D }) hl Pv h0 hq hs hd
theorem sc__law_match : FnScope ["_law_pattern_here", "_law_value_here", "_law_word", "_law_found", "_law_one", "_law_part", "_law_more"] ["_law_pattern_here", "_law_value_here"] (defScope s74) := ⟨rfl, rfl, rfl, by decide +kernel, rfl, by decide +kernel, by decide +kernel⟩
theorem match_step (T : Tx K mg) (n k : Nat) (rec : PyData → PyData → Option (List PyData)) (hn : n ≤ 8) (hrec : ∀ p v, (∃ m, n = m + 1 ∧ PatD m p) → ValQ v → ∀ ks, rec p v = some ks → frzAll ks = true ∧ ks.length ≤ 4 ^ 4) (D__law_match : Df P w K mg base CX0 k "_law_match" ["_law_pattern_here", "_law_value_here"] (sn2 K (fun p v => oD (rec p v)) fun p v => (∃ m, n = m + 1 ∧ PatD m p) ∧ ValQ v)) :
    Df P w K mg base CX0 (k + 1) "_law_match" ["_law_pattern_here", "_law_value_here"] (sn2 K (fun p v => oD (mchF rec p v)) fun p v => PatD n p ∧ ValQ v) := by
  refine df_ok T.f__law_match T.g__law_match sc__law_match len2n (fun _ _ _ _ _ _ us hl => match us, hl with | [_, _], _ => rfl) fun cdv A outer s H vs Q E hr h => ?_
  obtain ⟨v, d, v2, d2, rfl, hd, hd2, ⟨hp, hv⟩, q⟩ := h
  have nd := sc__law_match.nd
  refine ⟨_, (pss_cons (ps_set (i := 2) nd rfl (Or.inl rfl) (pe_ix ix_tup (pv 0) pe_int (fun _ _ => rfl)))
      (pss_cons (ps_if (pt_cmpR (o_inT hr) (pv 2) (pe_tup (pa_cons pe_str (pa_cons pe_str pa_nil))) (by rfl)) (pss_one (ps_ret (pe_ifExp (pt_cmpR (op_eqD hr.units) (pv 2) pe_str (nomark _)) (pe_lst pa_nil) (pe_lst (pa_cons (pe_tup (pa_cons (pe_ix ix_tup (pv 0) pe_int (fun _ _ => rfl)) (pa_cons (pv 1) pa_nil))) pa_nil))))) pss_nil)
      (pss_cons (ps_if (pt_cmpR (op_neD hr.units) (pv 2) (pe_ix ix_tup (pv 1) pe_int (fun _ _ => rfl)) (nomark _)) (pss_one (ps_ret pe_non)) pss_nil)
      (pss_cons (ps_if (pt_cmpR (op_eqD hr.units) (pv 2) pe_str (nomark _)) (pss_cons (ps_if (PW.pt (pw_or (pt_cmpR (op_neD hr.units) (pe_ix ix_tup (pv 0) pe_int (fun _ _ => rfl)) (pe_ix ix_tup (pv 1) pe_int (fun _ _ => rfl)) (nomark _)) (pw_or1 (pt_cmpR (op_neD hr.units) (pe_cmpR o_isN (pe_ix ix_tup (pv 0) pe_int (fun _ _ => rfl)) pe_non (nomark _)) (pe_cmpR o_isN (pe_ix ix_tup (pv 1) pe_int (fun _ _ => rfl)) pe_non (nomark _)) (nomark _))))) (pss_one (ps_ret pe_non)) pss_nil)
      (pss_one (ps_ret (pe_ifExp (pt_cmpR o_isN (pe_ix ix_tup (pv 0) pe_int (fun _ _ => rfl)) pe_non (nomark _)) (pe_lst pa_nil) (pe_df D__law_match hr (pa_cons (pe_ix ix_tup (pv 0) pe_int (fun _ _ => rfl)) (pa_cons (pe_ix ix_tup (pv 1) pe_int (fun _ _ => rfl)) pa_nil))))))) pss_nil)
      (pss_cons (ps_if (pt_cmpR (op_neD hr.units) (pv 2) pe_str (nomark _)) (pss_one (ps_ret (pe_ifExp (pt_cmpR (op_eqD hr.units) (pv 0) (pv 1) (nomark _)) (pe_lst pa_nil) pe_non))) pss_nil)
      (pss_cons (ps_if (pt_cmpR (op_neD hr.units) (pe_callB c_len (by rfl) T.n_len (by decide +kernel) (pa_cons (pe_ix ix_tup (pv 0) pe_int (fun _ _ => rfl)) pa_nil)) (pe_callB c_len (by rfl) T.n_len (by decide +kernel) (pa_cons (pe_ix ix_tup (pv 1) pe_int (fun _ _ => rfl)) pa_nil)) (nomark _)) (pss_one (ps_ret pe_non)) pss_nil)
      (pss_cons (ps_set (i := 3) nd rfl (Or.inl rfl) (pe_lst pa_nil))
      (pss_cons (ps_for PassesOwn.never rfl (RZ.pi_zipA rfl T.n_zip (pa_cons (pe_ix ix_tup (pv 0) pe_int (fun _ _ => rfl)) (pa_cons (pe_ix ix_tup (pv 1) pe_int (fun _ _ => rfl)) pa_nil))) (pg_tup rfl (pgs_cons (pg_name (i := 4) nd rfl (Or.inl rfl)) (pgs_cons (pg_name (i := 5) nd rfl (Or.inl rfl)) pgs_nil)))
      (pss_cons (ps_set (i := 6) nd rfl (Or.inl rfl) (pe_df D__law_match hr (pa_cons (pv 4) (pa_cons (pv 5) pa_nil))))
      (pss_cons (ps_if (pt_cmpR o_isN (pv 6) pe_non (nomark _)) (pss_one (ps_ret pe_non)) pss_nil)
      (pss_one (ps_set (i := 3) nd rfl (Or.inl rfl) (pe_op op_cat (pv 3) (pv 6)))))))
      (pss_one (ps_ret (pv 3))))))))))), ?_⟩
  obtain ⟨r1, ed1, hs1, hl1⟩ := hp.word
  obtain ⟨r2, ed2, hs2, hl2⟩ := hv.word
  have q' : ∀ r H', Ex H H' → Dn K H' r (oD (mchF rec d d2)) → Fr H r → Q r H' := q
  unfold mchF at q'
  refine qd_asg (ed_ix0 (ed_var rfl hd) ed1) fun vk H1 e1 hvk => ?_
  have hvk' := dp_str hvk
  subst hvk'
  refine q_when (et_cmp (K := K) (ed_inT (d := .str (tagOf d)) (ed_var rfl (.str _)) (ed_tup (ea_consD ed_str (ea_consD ed_str ea_nilD))) (wf_shaped (n := 0) hs1) (by decide +kernel))) (fun hc H2 e2 => ?_) (fun hc H2 e2 => ?_)
  · have hc' : abF (tagOf d) = true := hc
    rw [abF_eq] at hc'
    refine ret_ifE (et_str (K := K) (ed_var rfl (.str _)) hs1) (fun hb H3 e3 => ?_) (fun hb H3 e3 => ?_)
    · simp only [if_pos hb] at q'
      exact (en_lst (K := K) ea_nilD) H3 (Ex.refl _) _ fun v H4 e4 hv fv => q' v H4 (((e1.trans e2).trans e3).trans e4) hv (fv.back ((e1.trans e2).trans e3))
    · simp only [if_neg (neg_of hb)] at q'
      have hb2 : tagOf d = "bind" := by
        simp only [Bool.or_eq_true, decide_eq_true_eq] at hc'
        rcases hc' with h | h
        · exact absurd h.symm (of_decide_eq_false hb)
        · exact h.symm
      simp only [if_pos (decide_eq_true hb2)] at q'
      obtain ⟨s, rfl, hs⟩ := hp.len.1 hb2
      exact (en_lst (K := K) (ea_consD (ed_tup (ea_consD (ed_nth 1 (ed_var rfl (dpMono ((e1.trans e2).trans e3) _ _ hd)) rfl (by simp)) (ea_consD (ed_var rfl (dpMono ((e1.trans e2).trans e3) _ _ hd2)) ea_nilD))) ea_nilD)) H3 (Ex.refl _) _ fun v H4 e4 hv fv => q' v H4 (((e1.trans e2).trans e3).trans e4) hv (fv.back ((e1.trans e2).trans e3))
  have hc' : abF (tagOf d) = false := hc
  rw [abF_eq] at hc'
  have hna : decide (tagOf d = "any") = false := by
    have := (Bool.or_eq_false_iff.mp hc').1
    exact decide_eq_false fun z => of_decide_eq_false this z.symm
  have hnb : decide (tagOf d = "bind") = false := by
    have := (Bool.or_eq_false_iff.mp hc').2
    exact decide_eq_false fun z => of_decide_eq_false this z.symm
  simp only [if_neg (neg_of hna), if_neg (neg_of hnb)] at q'
  have E2 := e1.trans e2
  clear hc hc' hna hnb
  refine q_when (et_strs (K := K) (ed_var rfl (.str _)) (ed_ix0 (ed_var rfl (dpMono E2 _ _ hd2)) ed2) hs1 hs2) (fun hc H4 e4 => ?_) (fun hc H4 e4 => ?_)
  · simp only [if_pos hc] at q'
    exact sn_ret en_non fun v H5 e5 hv fv => q' v H5 ((E2.trans e4).trans e5) hv (fv.back (E2.trans e4))
  simp only [if_neg (neg_of hc)] at q'
  have E4 := E2.trans e4
  have htv : tagOf d = tagOf d2 := by simpa using hc
  clear hc
  have hd4 := dpMono E4 _ _ hd
  have hd24 := dpMono E4 _ _ hd2
  refine q_when (et_str (K := K) (ed_var rfl (.str _)) hs1) (fun hc H5 e5 => ?_) (fun hc H5 e5 => ?_)
  · simp only [if_pos hc] at q'
    have ht := of_decide_eq_true hc
    obtain ⟨s1, y1, rfl, hs1', _, he1⟩ := hp.len.2.2 ht
    obtain ⟨s2, y2, rfl, hs2', _, he2⟩ := hv.len.2 (htv.symm.trans ht)
    have hd5 := dpMono e5 _ _ hd4
    have hd25 := dpMono e5 _ _ hd24
    have E5 := E4.trans e5
    unfold mchC at q'
    have p1 : Ed K (tOp (rIxT K) (tVar 0) (tC (.int ((1 : Nat) : Int)))) [some v, some v2, some (.str (tagOf (conD s1 y1))), none, none, none, none] H5 (nth (conD s1 y1) 1) := ed_nth 1 (ed_var rfl hd5) rfl (by simp)
    have p2 : Ed K (tOp (rIxT K) (tVar 0) (tC (.int ((2 : Nat) : Int)))) [some v, some v2, some (.str (tagOf (conD s1 y1))), none, none, none, none] H5 (nth (conD s1 y1) 2) := ed_nth 2 (ed_var rfl hd5) rfl (by simp)
    have u1 : Ed K (tOp (rIxT K) (tVar 1) (tC (.int ((1 : Nat) : Int)))) [some v, some v2, some (.str (tagOf (conD s1 y1))), none, none, none, none] H5 (nth (conD s2 y2) 1) := ed_nth 1 (ed_var rfl hd25) rfl (by simp)
    have u2 : Ed K (tOp (rIxT K) (tVar 1) (tC (.int ((2 : Nat) : Int)))) [some v, some v2, some (.str (tagOf (conD s1 y1))), none, none, none, none] H5 (nth (conD s2 y2) 2) := ed_nth 2 (ed_var rfl hd25) rfl (by simp)
    refine q_when (et_or (et_cmp (ed_ne p1 u1 (wf_shaped (n := 0) hs1') (wf_shaped (n := 0) hs2'))) fun _ => et_cmp (ed_ne (ed_isN p2) (ed_isN u2) (wf_shaped (n := 0) rfl) (wf_shaped (n := 0) rfl))) (fun hc2 H6 e6 => ?_) (fun hc2 H6 e6 => ?_)
    · simp only [if_pos hc2] at q'
      exact sn_ret en_non fun v H7 e7 hv fv => q' v H7 ((E5.trans e6).trans e7) hv (fv.back (E5.trans e6))
    · simp only [if_neg (neg_of hc2)] at q'
      have hc3 := (Bool.or_eq_false_iff.mp hc2).2
      refine sn_ret (ret_ifN (o1 := some []) (et_cmp (ed_isN (p2.mono e6))) (fun _ => en_lst ea_nilD) fun hn => en_call2 (f := fun p v => oD (rec p v)) (p2.mono e6) (u2.mono e6) ⟨?_, ?_⟩) fun v H7 e7 hv fv => q' v H7 ((E5.trans e6).trans e7) hv (fv.back (E5.trans e6))
      · rcases he1 with rfl | h
        · cases hn
        · exact h
      · rcases he2 with rfl | h
        · exfalso
          have hn' : isNone (nth (conD s1 _) 2) = false := hn
          rw [hn'] at hc3
          have h0 : (!PyData.eqv (.bool false) (.bool true)) = true := by decide +kernel
          rw [show isNone (nth (conD s2 .none) 2) = true from rfl, h0] at hc3
          cases hc3
        · exact h
  simp only [if_neg (neg_of hc)] at q'
  have E5 := E4.trans e5
  have hd5 := dpMono e5 _ _ hd4
  have hd25 := dpMono e5 _ _ hd24
  clear hc
  refine q_when (et_strs (K := K) (ed_var rfl (.str (tagOf d))) (ed_str (x := "tuple")) hs1 (by decide +kernel)) (fun hc H6 e6 => ?_) (fun hc H6 e6 => ?_)
  · have hc' : decide (tagOf d = "tuple") = false := by simpa using hc
    simp only [if_neg (neg_of hc')] at q'
    have E6 := E5.trans e6
    exact sn_ret (ret_ifN (o1 := some []) (o2 := none) (et_cmp (ed_eq (ed_var rfl (dpMono e6 _ _ hd5)) (ed_var rfl (dpMono e6 _ _ hd25)) (wf_shaped (n := 18) (wf_le (by omega) hp.wf)) (wf_shaped (n := 18) hv.wf))) (fun _ => en_lst ea_nilD) fun _ => en_non) fun v H7 e7 hv fv => q' v H7 (E6.trans e7) hv (fv.back E6)
  have hc' : decide (tagOf d = "tuple") = true := by simpa using hc
  simp only [if_pos hc'] at q'
  have ht := of_decide_eq_true hc'
  obtain ⟨m, ps, rfl, rfl, _, hl4, hps⟩ := hp.len.2.1 ht
  obtain ⟨us, rfl, _, hu4, hus⟩ := hv.len.1 (htv.symm.trans ht)
  have q2 : ∀ r H', Ex H H' → Dn K H' r (oD (mchP rec ps us)) → Fr H r → Q r H' := q'
  clear q q'
  unfold mchP at q2
  have hd6 := dpMono e6 _ _ hd5
  have hd26 := dpMono e6 _ _ hd25
  have E6 := E5.trans e6
  have pk : Ed K (tOp (rIxT K) (tVar 0) (tC (.int ((1 : Nat) : Int)))) [some v, some v2, some (.str (tagOf (tupD ps))), none, none, none, none] H6 (.tuple ps) := ed_nth 1 (ed_var rfl hd6) rfl (by simp)
  have uk : Ed K (tOp (rIxT K) (tVar 1) (tC (.int ((1 : Nat) : Int)))) [some v, some v2, some (.str (tagOf (tupD ps))), none, none, none, none] H6 (.tuple us) := ed_nth 1 (ed_var rfl hd26) rfl (by simp)
  refine q_when (et_cmp (Ed.is (ed_ne (ed_len pk rfl (by omega)) (ed_len uk rfl (by omega)) (wf_shaped (n := 0) rfl) (wf_shaped (n := 0) rfl)) (congrArg PyData.bool (show _ = !decide ((ps.length : Int) = (us.length : Int)) by simp only [PyData.eqv]; rw [Bool.beq_eq_decide_eq])))) (fun hc2 H7 e7 => ?_) (fun hc2 H7 e7 => ?_)
  · simp only [if_pos hc2] at q2
    exact sn_ret en_non fun v H8 e8 hv fv => q2 v H8 ((E6.trans e7).trans e8) hv (fv.back (E6.trans e7))
  simp only [if_neg (neg_of hc2)] at q2
  have hlen : ps.length = us.length := by
    have := of_decide_eq_true (show decide ((ps.length : Int) = (us.length : Int)) = true by simpa using hc2)
    omega
  have E7 := E6.trans e7
  refine qn_asg (K := K) (d := .list []) (en_lst ea_nilD) fun vl H8 e8 hvl fvl => ?_
  have E8 := E7.trans e8
  refine q_forX (t_zip (t_cons ?_))
  refine ed_nth (K := K) (d := tupD ps) 1 (ed_var rfl (dpMono (e7.trans e8) _ _ hd6)) rfl (by simp) H8 (Ex.refl _) _ fun va H9 e9 hva => t_cons ?_
  refine ed_nth (K := K) (d := tupD us) 1 (ed_var rfl (dpMono ((e7.trans e8).trans e9) _ _ hd26)) rfl (by simp) H9 (Ex.refl _) _ fun vb H10 e10 hvb => ?_
  obtain ⟨a, xs, rfl, hsa, hxa⟩ := dp_tup (ds := ps) (dpMono e10 _ _ hva)
  obtain ⟨b, ys, rfl, hsb, hyb⟩ := dp_tup (ds := us) hvb
  have E10 := (E8.trans e9).trans e10
  refine ⟨a, b, xs, ys, rfl, .inr ⟨hsa, hsb, ?_⟩⟩
  refine forT_zip (xs := xs) (ys := ys) (by rw [dps_len hxa, dps_len hyb, hlen]) (fun i σ' H' => ∃ v3 x4 x5 x6 ks, σ' = [some v, some v2, some (.str (tagOf (tupD ps))), some v3, x4, x5, x6] ∧ Ex H10 H' ∧ Dn K H' v3 (.list ks) ∧ Fr H v3 ∧ mchL rec (ps.take i) (us.take i) = some ks ∧ frzAll ks = true ∧ ks.length ≤ 256 * i) ?_ ?_ ?_ ?_
  · exact ⟨vl, _, _, _, [], rfl, Ex.refl _, hvl.mono (e9.trans e10), fvl.back E7, rfl, rfl, by simp⟩
  · exact fun i σ' H' hh => by
      obtain ⟨_, _, _, _, _, _, e, _⟩ := hh
      exact ⟨ex_t e hsa, ex_t e hsb⟩
  · rintro i x y TT σ' H' hx hy ⟨v3, x4, x5, x6, ks, rfl, E', hv3, fv3, hm, hfk, hkl⟩ hTT
    have eT : Ex H' (upd H' TT (.tup [x, y])) := Ex.new hTT
    obtain ⟨di, hdi, hxi⟩ := dps_of i hxa hx
    obtain ⟨ui, hui, hyi⟩ := dps_of i hyb hy
    have hpi := hps di (List.mem_of_getElem? hdi)
    have hvi := hus ui (List.mem_of_getElem? hui)
    have hi4 : i < 4 := by
      have := (List.getElem?_eq_some_iff.mp hdi).1
      omega
    refine gp_pair (SqT.of upd_same) ?_
    refine qn_asg (en_call2 (f := fun p v => oD (rec p v)) (ed_var rfl (dpMono (E'.trans eT) _ _ hxi)) (ed_var rfl (dpMono (E'.trans eT) _ _ hyi)) ⟨⟨m, rfl, hpi⟩, hvi⟩) fun v5 H5' e5' hv5 fv5 => ?_
    have happ : mchL rec (ps.take (i + 1)) (us.take (i + 1)) = match rec di ui with
        | none => none
        | some c => some (ks ++ c) := by
      rw [take_succ hdi, take_succ hui, mchL_app _ _ _ _ _ (by simp [List.length_take, hlen]), hm, mchL]
      cases rec di ui <;> simp [mchL]
    have E5' := (E'.trans eT).trans e5'
    cases hrd : rec di ui with
    | none =>
      rw [hrd] at hv5 happ
      refine q_when (b := true) (et_cmp (K := K) (ed_isN (d := .none) (ed_var rfl hv5.dp))) (fun _ H6' e6' => ?_) (fun z => by cases z)
      have hall : mchL rec ps us = none := by
        have h1 : ps = ps.take (i + 1) ++ ps.drop (i + 1) := (List.take_append_drop _ _).symm
        have h2 : us = us.take (i + 1) ++ us.drop (i + 1) := (List.take_append_drop _ _).symm
        rw [h1, h2, mchL_app _ _ _ _ _ (by simp [List.length_take, hlen]), happ]
      rw [hall] at q2
      exact sn_ret (K := K) (d := .none) en_non fun v H7 e7 hv fv => q2 v H7 ((E10.trans (E5'.trans e6')).trans e7) hv (fv.back (E10.trans (E5'.trans e6')))
    | some cs =>
      rw [hrd] at hv5 happ
      obtain ⟨hfc, hcl⟩ := hrec di ui ⟨m, rfl, hpi⟩ hvi cs hrd
      refine q_when (b := false) (et_cmp (K := K) (ed_isN (d := .list cs) (ed_var rfl hv5.dp))) (fun z => by cases z) (fun _ H6' e6' => ?_)
      refine (en_cat (K := K) (env_var (i := 3) rfl (hv3.mono ((eT.trans e5').trans e6'))) (env_var (i := 6) rfl (hv5.mono e6')) (by simp at hcl; omega)) H6' (Ex.refl _) _ fun v7 H7' e7' hv7 fv7 => ?_
      exact ⟨v7, _, _, _, ks ++ cs, rfl, (E5'.trans e6').trans e7', hv7, fv7.back (E10.trans (E5'.trans e6')), happ, frz_app hfk hfc, by simp at hcl ⊢; omega⟩
  · rintro σ' H' ⟨v3, x4, x5, x6, ks, rfl, E', hv3, fv3, hm, hfk, hkl⟩
    rw [dps_len hxa, List.take_length, hlen, List.take_length] at hm
    rw [hm] at q2
    exact s_retVar rfl (q2 v3 H' (E10.trans E') hv3 fv3)
theorem ok__law_match (T : Tx K mg) : ∀ n : Nat, n ≤ 4 → Df P w K mg base CX0 (n + 2) "_law_match" ["_law_pattern_here", "_law_value_here"] (sn2 K (fun p v => oD (mch (n + 1) p v)) fun p v => PatD n p ∧ ValQ v)
  | 0, _ => match_step T 0 1 (mch 0) (by decide) (fun p v h => by obtain ⟨m, h, _⟩ := h; omega) (by
      obtain ⟨fd, F⟩ := T.f__law_match
      refine ⟨fd, F.ok sc__law_match len2n fun cdv A outer s H vs Q E hr h => ?_, F.bindsN (fun _ _ _ _ _ _ us hl => match us, hl with | [_, _], _ => rfl), F.kp, T.g__law_match⟩
      obtain ⟨_, _, _, _, _, _, _, ⟨⟨m, h, _⟩, _⟩, _⟩ := h
      exact absurd h (by omega))
  | n + 1, h => match_step T (n + 1) (n + 2) (mch (n + 1)) (by omega) (fun p v hp hv ks e => by
      obtain ⟨m, hm, hp⟩ := hp
      have : m = n := by omega
      subst this
      have b := mch_bnd m p v hp hv ks e
      exact ⟨b.frz, Nat.le_trans b.1 (Nat.pow_le_pow_right (by decide) (by omega))⟩) ((ok__law_match T n (by omega)).imp fun vs H Q E hh => by
      obtain ⟨v, d, v2, d2, rfl, hd, hd2, ⟨⟨m, e, hm⟩, hv⟩, q⟩ := hh
      have : m = n := by omega
      subst this
      exact ⟨v, d, v2, d2, rfl, hd, hd2, ⟨hm, hv⟩, q⟩)
end
end K25

end

section
set_option maxHeartbeats 4000000
namespace K25
open PySem PySem.Spec PyProof.Rows L2 Evl
def fitsL (ds : List PyData) (d : PyData) (i : Nat) : List PyData := ((List.range i).filter (fitsAt ds d)).map fun k => .int (k : Nat)
theorem fitsL_up (ds : List PyData) (d : PyData) (i : Nat) : fitsL ds d (i + 1) = if fitsAt ds d i = true then fitsL ds d i ++ [.int (i : Nat)] else fitsL ds d i := by
  unfold fitsL
  rw [List.range_succ, List.filter_append, List.map_append, List.filter_cons]
  split <;> simp
theorem fitsL_len (ds : List PyData) (d : PyData) (i : Nat) : (fitsL ds d i).length ≤ i := by
  unfold fitsL
  rw [List.length_map]
  have h := List.length_filter_le (fitsAt ds d) (List.range i)
  rw [List.length_range] at h
  exact h
theorem fitsL_frz (ds : List PyData) (d : PyData) (i : Nat) : frzAll (fitsL ds d i) = true := frz_all fun x hx => by
  obtain ⟨k, _, rfl⟩ := List.mem_map.mp hx
  rfl
theorem firstF_eq (ds : List PyData) (d : PyData) : firstF ds d = (fitsL ds d ds.length).getD 0 .none := by
  unfold firstF fitsL
  rw [List.getD_eq_getElem?_getD, ← List.head?_eq_getElem?, List.head?_map, List.head?_filter]
  cases (List.range ds.length).find? (fitsAt ds d) <;> rfl
section
variable {P : Program} {w : World} {K : PySem.W.Frag} {mg : Str → Option Value} {base : Heap}
theorem sc__law_first : FnScope ["_law_patterns_here", "_law_value_here", "_law_fit", "_law_at", "_law_pattern_here"] ["_law_patterns_here", "_law_value_here"] (defScope s75) := ⟨rfl, rfl, rfl, by decide +kernel, rfl, by decide +kernel, by decide +kernel⟩
theorem ok__law_first (T : Tx K mg) : Df P w K mg base CX0 7 "_law_first" ["_law_patterns_here", "_law_value_here"] (fun vs H Q _ => ∃ v v2 d ds, vs = [v, v2] ∧ Dp K H v (.list ds) ∧ Dp K H v2 d ∧ ValQ d ∧ (∀ z ∈ ds, PatD 4 z) ∧ ds.length ≤ 100 ∧ ∀ r H', Ex H H' → Dp K H' r (firstF ds d) → Q r H') := by
  have D__law_match := ok__law_match (P := P) (w := w) (base := base) T 4 (Nat.le_refl 4)
  refine df_ok T.f__law_first T.g__law_first sc__law_first (fun vs H Q E h => by
    obtain ⟨v, v2, d, ds, rfl, _⟩ := h
    rfl) (fun _ _ _ _ _ _ us hl => match us, hl with | [_, _], _ => rfl) fun cdv A outer s H vs Q E hr h => ?_
  obtain ⟨v, v2, d, ds, rfl, hd, hd2, hq, hps, hl, q⟩ := h
  have nd := sc__law_first.nd
  refine ⟨_, (pss_cons (ps_setLc (i := 2) (own := [("_law_at", 3), ("_law_pattern_here", 4)]) (g := gTup K 2 (gCons (gName 3) ( gCons (gName 4) (gNil)))) rfl nd rfl rfl (sw_true rfl rfl rfl (by decide +kernel)) (pi_enum rfl T.n_enumerate (pa_cons (pv 0) pa_nil)) (blkOk_by (own := [("_law_at", 3), ("_law_pattern_here", 4)]) (N := ["_law_patterns_here", "_law_value_here", "_law_fit", "_law_at", "_law_pattern_here"]) (sc := defScope s75) (by decide +kernel)) (fun _ _ _ _ _ => pg_tup rfl (pgs_cons (pg_name (i := 3) nd rfl (Or.inl rfl)) (pgs_cons (pg_name (i := 4) nd rfl (Or.inl rfl)) pgs_nil))) (fun _ _ _ _ _ => (pts_one (pt_cmpR o_notN (pe_df D__law_match hr (pa_cons (pv 4) (pa_cons (pv 1) pa_nil))) pe_non (nomark _)))) (fun _ _ _ _ _ => (pv 3)))
      (pss_one (ps_ret (pe_ifExp (pt_cmpR (op_neD hr.units) (pv 2) (pe_lst pa_nil) (nomark _)) (pe_ix ix_list (pv 2) pe_int (fun _ _ => rfl)) pe_non)))), ?_⟩
  obtain ⟨a, xs, rfl, hs, hx⟩ := dp_lst hd
  have hxl := dps_len hx
  refine q_asgX ⟨.ref a, rfl, a, xs, rfl, hs, fun D hD => lc_it (walk_enum (xs := xs)) (fun i H' => Ex H H' ∧ ∃ acc, H' D = some (.lst acc) ∧ DpAll K H' acc (fitsL ds d i)) ⟨Ex.new hD, [], upd_same, .nil⟩ (fun i H' _ p => ex_l p.1 hs) (fun i x H3 H4 hi p y => ?_) fun H3 p => ?_⟩
  · obtain ⟨TT, x1, y1, rfl, hT, rfl, h1, h2⟩ := y
    cases h1
    obtain ⟨e3, acc, hacc, hda⟩ := p
    have eT : Ex H3 (upd H3 TT (.tup [.int (i : Nat), y1])) := Ex.new hT
    obtain ⟨di, hdi, hxi⟩ := dps_of i hx h2
    have hg : ds.getD i .none = di := by
      rw [List.getD_eq_getElem?_getD, hdi]
      rfl
    refine gp_pair (SqT.of upd_same) ⟨rfl, ?_⟩
    refine et_is (et_cmp (ed_notN (En.ed (en_call2 (f := fun p v => oD (mch (4 + 1) p v)) (ed_var rfl (dpMono (e3.trans eT) _ _ hxi)) (ed_var rfl (dpMono (e3.trans eT) _ _ hd2)) ⟨hps di (List.mem_of_getElem? hdi), hq⟩)))) (show _ = fitsAt ds d i by rw [isNone_oD]; unfold fitsAt; rw [hg]) _ (Ex.refl _) _ fun H5 e5 => ?_
    have hacc5 := e5 _ _ (eT _ _ hacc)
    have hda5 := dpsMono (eT.trans e5) _ _ hda
    have E5 := (e3.trans eT).trans e5
    have hup := fitsL_up ds d i
    cases hf : fitsAt ds d i with
    | true =>
      rw [hf, if_pos rfl] at hup
      rw [if_pos rfl]
      refine ⟨_, rfl, acc, hacc5, sz_lt (by rw [dps_len hda5]; have := fitsL_len ds d i; omega), Ex.mut E5 hD, acc ++ [.int (i : Nat)], upd_same, ?_⟩
      rw [hup]
      exact dps_app (dpsTK (TK.setL hacc5) _ _ (fitsL_frz ds d i) hda5) (dps_one (.int _))
    | false =>
      rw [hf, if_neg (by decide)] at hup
      rw [if_neg (by decide)]
      exact ⟨E5, acc, hacc5, by rw [hup]; exact hda5⟩
  · obtain ⟨e3, acc, hacc, hda⟩ := p
    rw [hxl] at hda
    rw [firstF_eq] at q
    have hlen := fitsL_len ds d ds.length
    revert hda q hlen
    have hfi := fitsL_frz ds d ds.length
    have hints : ∀ x ∈ fitsL ds d ds.length, ∃ k : Nat, x = .int (k : Nat) := fun x hx => by
      obtain ⟨k, _, rfl⟩ := List.mem_map.mp hx
      exact ⟨k, rfl⟩
    revert hints hfi
    generalize fitsL ds d ds.length = fl
    intro hfi hints q hda hlen
    have hsh : SeqAt.shaped (.list fl) = true := wf_shaped (n := 1) (wf_lst_mk (by omega) fun x hx => by
      obtain ⟨k, rfl⟩ := hints x hx
      rfl)
    have hv : Dp K H3 (.ref D) (.list fl) := .lst (SqL.of hacc) hda
    cases fl with
    | nil => exact ret_ifE (b := false) (et_is (et_cmp (ed_ne (ed_var rfl hv) (ed_lst ea_nilD) hsh (by decide +kernel))) (by simp [PyData.eqv, PyData.eqvAll])) (fun e => by cases e) (fun _ H4 e4 => q _ H4 (e3.trans e4) .non)
    | cons x r => exact ret_ifE (b := true) (et_is (et_cmp (ed_ne (ed_var rfl hv) (ed_lst ea_nilD) hsh (by decide +kernel))) (by simp [PyData.eqv, PyData.eqvAll])) (fun _ H4 e4 => (ed_ixL (K := K) (n := 0) (d := x) (ed_var rfl (dpMono e4 _ _ hv)) ed_int rfl) H4 (Ex.refl _) _ fun u H5 e5 hu => q u H5 ((e3.trans e4).trans e5) hu) (fun e => by cases e)
end
end K25

end

section
set_option maxHeartbeats 4000000
namespace K25
open PySem PySem.Spec PyProof.Rows L2 Evl
def sA : Str := "A"
def sZ : Str := "Z"
def betw (x : Str) : Bool := match x.cps.toList with
  | [] => false
  | c :: _ => (!decide ([c] < sA.cps.toList)) && (!decide (sZ.cps.toList < [c]))
def pieceOk (x : Str) : Bool := (decide ((1 : Int) ≤ (x.length : Int)) && decide ((x.length : Int) ≤ 20)) && (betw x && Txt.isalnum x)
def lawBigS (x : Str) : Bool := !decide (1 < Txt.count x ".") && (Txt.split x ".").all pieceOk
def lawBigD : PyData → Bool
  | .str x => lawBigS x
  | _ => false
/-- the words that stand in a bent value -/
def bentStrs : List Str := (["int", "bool", "con", "tuple", "cell", "unit", "M.A", "m", "M.m", "M.A.B", ""] : List Str) ++ conStrs
theorem big_same : ∀ s ∈ bentStrs, longBigD (.str s) = lawBigS s := by decide +kernel
theorem bentStrs_ok : ∀ s ∈ bentStrs, sOk s := by decide +kernel
theorem small_parts : ∀ s ∈ bentStrs, (Txt.split s ".").length ≤ 3 ∧ ∀ x ∈ Txt.split s ".", x.length ≤ 20 := by decide +kernel
section
variable {P : Program} {w : World} {K : PySem.W.Frag} {mg : Str → Option Value} {base : Heap}
theorem sc__law_is_big : FnScope ["_law_value_here", "_law_one"] ["_law_value_here"] (defScope s77) := ⟨rfl, rfl, rfl, by decide +kernel, rfl, by decide +kernel, by decide +kernel⟩
theorem ok__law_is_big (T : Tx K mg) : Df P w K mg base CX0 1 "_law_is_big" ["_law_value_here"] (sp1 K (fun d => .bool (lawBigD d)) fun d => ∀ s, d = .str s → s ∈ bentStrs) := by
  refine df_ok T.f__law_is_big T.g__law_is_big sc__law_is_big len1 (fun _ _ _ _ _ _ us hl => match us, hl with | [_], _ => rfl) fun cdv A outer s H vs Q E hr h => ?_
  obtain ⟨v, d, rfl, hd, hs, q⟩ := h
  have nd := sc__law_is_big.nd
  refine ⟨_, (pss_cons (ps_if (PW.pt (pw_or (pt_not (pt_val (pe_callB call_isi (by rfl) T.n_isinstance (by decide +kernel) (pa_cons (pv 0) (pa_cons (pty T.n_str b_str) pa_nil))))) (pw_or1 (pt_cmpR op_gt (pe_m1 PySem.F.slot_str_count PySem.F.type_str_count mt_count (pv 0) pe_str) pe_int (nomark _))))) (pss_one (ps_ret pe_bl)) pss_nil)
      (pss_cons (ps_for PassesOwn.never rfl (pi_list (pe_split (pv 0) pe_str)) (pg_name (i := 1) nd rfl (Or.inl rfl))
      (pss_one (ps_if (PW.pt (pw_or (pt_not (pt_chain op_le op_le pe_int (pe_callB c_len (by rfl) T.n_len (by decide +kernel) (pa_cons (pv 1) pa_nil)) pe_int)) (pw_or (pt_not (pt_chain op_le_str op_le_str pe_str (pe_ix ix_str (pv 1) pe_int (fun _ _ => rfl)) pe_str)) (pw_or1 (pt_not (pt_val (pe_m0 PySem.F.slot_str_isalnum PySem.F.type_str_isalnum mt_isalnum (pv 1)))))))) (pss_one (ps_ret pe_bl)) pss_nil)))
      (pss_one (ps_ret pe_bl)))), ?_⟩
  cases d with
  | str x =>
    have hx := hs x rfl
    have hsx := bentStrs_ok x hx
    have hvx := dp_str hd
    subst hvx
    have ecount : EvT (tTest (tOp (rI0 fun i j => .bl (decide (j < i))) (tM1 (fun x xs H Q => ∃ a b, x = .str a ∧ xs = [.str b] ∧ Q (.int (Txt.count a b)) H) (tVar 0) (tC (.str "."))) (tC (.int 1)))) (L2.start ["_law_value_here", "_law_one"] [.str x]) H (decide (1 < Txt.count x ".")) := et_test fun H1 e Q1 q1 =>
      t_op ⟨.str x, rfl, ⟨x, rfl⟩, x, Str.ofString ".", rfl, rfl, t_c ⟨_, 1, rfl, rfl, q1 H1 (Ex.refl _)⟩⟩
    refine q_when (et_or (et_not (et_val (ed_isi (ed_var rfl hd) (kit_str _)))) fun _ => ecount) (fun hb H1 e1 => ?_) (fun hb H1 e1 => ?_)
    · have hb' : decide (1 < Txt.count x ".") = true := hb
      refine sd_ret (Ed.is ed_bl ?_) fun v H2 e2 hv => q v H2 (e1.trans e2) hv
      show PyData.bool false = PyData.bool (lawBigS x)
      unfold lawBigS
      rw [hb']
      rfl
    have hb' : decide (1 < Txt.count x ".") = false := hb
    have hval : lawBigS x = (Txt.split x ".").all pieceOk := by
      unfold lawBigS
      rw [hb']
      rfl
    have q' : ∀ r H', Ex H H' → Dp K H' r (.bool (lawBigS x)) → Q r H' := q
    rw [hval] at q'
    obtain ⟨hp3, hp20⟩ := small_parts x hx
    have hx1000 := wf_str (n := 0) hsx
    refine q_forX ⟨.str x, rfl, ⟨x, rfl⟩, x, Str.ofString ".", rfl, rfl, by decide +kernel, sz_of (by omega), fun p hp => ?_⟩
    have eP : Ex H1 (upd H1 p (.lst ((Txt.split x (Str.ofString ".")).map V.str))) := Ex.new hp
    refine ⟨p, rfl, ⟨_, SqL.of upd_same⟩, ?_⟩
    refine forT_list (xs := (Txt.split x ".").map V.str) (fun i σ' H' => (∃ y, σ' = [some (.str x), y]) ∧ Ex (upd H1 p (.lst ((Txt.split x (Str.ofString ".")).map V.str))) H' ∧ ((Txt.split x ".").take i).all pieceOk = true) ⟨⟨_, rfl⟩, Ex.refl _, by simp⟩ (fun i σ' H' _ hh => SqL.of (hh.2.1 _ _ upd_same)) (fun i y σ' H' hy hh => ?_) (fun σ' H' hh => ?_)
    · obtain ⟨⟨y0, rfl⟩, e', hall⟩ := hh
      obtain ⟨z, hz, rfl⟩ : ∃ z, (Txt.split x ".")[i]? = some z ∧ y = .str z := by
        rw [List.getElem?_map] at hy
        cases hz : (Txt.split x ".")[i]? with
        | none =>
          rw [hz] at hy
          cases hy
        | some z =>
          rw [hz] at hy
          exact ⟨z, rfl, (Option.some.inj hy).symm⟩
      have hz20 := hp20 z (List.mem_of_getElem? hz)
      have E' := (e1.trans eP).trans e'
      refine s_when (b := !pieceOk z) ?_ (fun hb2 H3 e3 => ?_) (fun hb2 H3 e3 => ?_)
      · refine et_is (et_or (et_not (et_cmp (K := K) (ed_chain ed_int (ed_len (d := .str z) (ed_var rfl (.str _)) rfl (by omega)) ed_int))) fun h1 => et_or (b := !Txt.isalnum z) (a := !betw z) (et_not (et_test ?_)) fun _ => et_not (et_B fun H4 e4 Q4 q4 => ⟨.str z, rfl, ⟨z, rfl⟩, z, rfl, rfl, trivial, q4 H4 (Ex.refl _)⟩)) ?_
        · have h1' : 1 ≤ z.length := by
            simp only [Bool.not_eq_false', Bool.and_eq_true, decide_eq_true_eq] at h1
            omega
          intro H4 e4 Q4 q4
          have hsz : z.cps.toList.length = z.length := by simp [Str.length]
          cases hl : z.cps.toList with
          | nil =>
            rw [hl] at hsz
            simp at hsz
            omega
          | cons c r =>
            have hbz : betw z = ((!decide ([c] < sA.cps.toList)) && (!decide (sZ.cps.toList < [c]))) := by
              unfold betw
              rw [hl]
            rw [hbz] at q4
            refine t_c ⟨.str z, rfl, t_c ⟨z, 0, c, rfl, rfl, sz_of (by omega), by rw [hl]; exact atI_nat (j := 0) rfl, sA, ⟨#[c]⟩, rfl, rfl, _, rfl, ?_⟩⟩
            cases hk : (!decide ([c] < sA.cps.toList)) with
            | true =>
              rw [if_pos rfl]
              rw [hk, Bool.true_and] at q4
              exact t_c ⟨⟨#[c]⟩, sZ, rfl, rfl, q4 H4 (Ex.refl _)⟩
            | false =>
              rw [if_neg (by decide)]
              rw [hk, Bool.false_and] at q4
              exact q4 H4 (Ex.refl _)
        · unfold pieceOk
          simp only [Bool.not_and]
      · have hpf : (Txt.split x ".").all pieceOk = false := List.all_eq_false.mpr ⟨z, List.mem_of_getElem? hz, by simpa using hb2⟩
        rw [hpf] at q'
        exact sd_ret (K := K) ed_bl fun v H4 e4 hv => q' v H4 ((E'.trans e3).trans e4) hv
      · refine ⟨⟨_, rfl⟩, e'.trans e3, ?_⟩
        rw [List.take_add_one, hz, List.all_append, hall]
        simpa using hb2
    · obtain ⟨⟨y0, rfl⟩, e', hall⟩ := hh
      rw [List.length_map, List.take_length] at hall
      rw [hall] at q'
      exact sd_ret (K := K) ed_bl fun v H4 e4 hv => q' v H4 (((e1.trans eP).trans e').trans e4) hv
  | _ => exact q_when (b := true) (et_or (b := true) (et_not (et_val (ed_isi (ed_var rfl hd) (kit_str _)))) fun e => by cases e) (fun _ H1 e1 => sd_ret ed_bl fun v H2 e2 hv => q v H2 (e1.trans e2) hv) (fun e => by cases e)
end
end K25

end

section
set_option maxHeartbeats 4000000
namespace K25
open PySem PySem.Spec PyProof.Rows L2 Evl
mutual
def allS : PyData → Bool
  | .str s => decide (s ∈ bentStrs)
  | .tuple ds => allSs ds
  | .list ds => allSs ds
  | .dict _ => false
  | _ => true
def allSs : List PyData → Bool
  | [] => true
  | d :: ds => allS d && allSs ds
end
theorem allSs_mem : ∀ {ds : List PyData}, allSs ds = true → ∀ d ∈ ds, allS d = true
  | [], _, d, h => by cases h
  | x :: r, f, d, h => by
    have f2 : allS x = true ∧ allSs r = true := by simpa [allSs] using f
    rcases List.mem_cons.mp h with rfl | h
    · exact f2.1
    · exact allSs_mem f2.2 d h
theorem allSs_of {ds : List PyData} (h : ∀ d ∈ ds, allS d = true) : allSs ds = true := by
  induction ds with
  | nil => rfl
  | cons x r ih =>
    have h1 := h x List.mem_cons_self
    have h2 := ih fun d hd => h d (List.mem_cons_of_mem _ hd)
    simp [allSs, h1, h2]
theorem allS_getD {r : List PyData} (h : ∀ d ∈ r, allS d = true) (i : Nat) : allS (r.getD i .none) = true := by
  by_cases hi : i < r.length
  · exact h _ (List.mem_of_getElem? (getD_at hi))
  · rw [List.getD_eq_getElem?_getD, List.getElem?_eq_none (by omega)]
    rfl
theorem allS_str {d : PyData} (h : allS d = true) : ∀ s, d = .str s → s ∈ bentStrs := fun s e => by
  subst e
  simpa [allS] using h
def isNumI : PyData → Bool
  | .int i => decide (-2147483648 ≤ i) && decide (i ≤ 2147483647)
  | _ => false
def isGe0 : PyData → Bool
  | .int i => decide (0 ≤ i)
  | _ => false
def lawW (rec : PyData → Bool) (s : Str) (r : List PyData) : Bool :=
  if decide (s = "unit") = true then lenE r 1
  else if (lenE r 3 && decide (s = "con")) = true then lawBigD (r.getD 0 .none) && (isNone (r.getD 1 .none) || rec (r.getD 1 .none))
  else if (!lenE r 2) = true then false
  else if decide (s = "bool") = true then isBoolD (r.getD 0 .none)
  else if decide (s = "tuple") = true then (if (!isTupD (r.getD 0 .none) || !(decide ((2 : Int) ≤ ((kids (r.getD 0 .none)).length : Int)) && decide (((kids (r.getD 0 .none)).length : Int) ≤ 4))) = true then false else (kids (r.getD 0 .none)).all rec)
  else if (!isaInt (r.getD 0 .none) || isBoolD (r.getD 0 .none)) = true then false
  else if decide (s = "int") = true then isNumI (r.getD 0 .none)
  else decide (s = "cell") && isGe0 (r.getD 0 .none)
def lawP : Nat → PyData → Bool
  | 0, _ => false
  | n + 1, d => match d with
    | .tuple (.str s :: r) => lawW (lawP n) s r
    | _ => false
theorem lawP_no {n : Nat} {d : PyData} (h : hasWordD d = false) : lawP (n + 1) d = false := by
  cases d with
  | tuple ds =>
    cases ds with
    | nil => rfl
    | cons x r =>
      cases x with
      | str s => cases h
      | _ => rfl
  | _ => rfl
theorem big_no {d : PyData} (h : isStrD d = false) : longBigD d = false := by
  cases d with
  | str s => cases h
  | _ => rfl
theorem big_eq {d : PyData} (h : allS d = true) : longBigD d = lawBigD d := by
  cases d with
  | str s => exact big_same s (allS_str h s rfl)
  | _ => rfl
theorem tg_unit_int : (Str.ofString "unit" = Str.ofString "int") = False := eq_false (by decide +kernel)
theorem tg_unit_bool : (Str.ofString "unit" = Str.ofString "bool") = False := eq_false (by decide +kernel)
theorem tg_unit_cell : (Str.ofString "unit" = Str.ofString "cell") = False := eq_false (by decide +kernel)
theorem tg_unit_con : (Str.ofString "unit" = Str.ofString "con") = False := eq_false (by decide +kernel)
theorem tg_unit_tuple : (Str.ofString "unit" = Str.ofString "tuple") = False := eq_false (by decide +kernel)
theorem tg_int_unit : (Str.ofString "int" = Str.ofString "unit") = False := eq_false (by decide +kernel)
theorem tg_int_bool : (Str.ofString "int" = Str.ofString "bool") = False := eq_false (by decide +kernel)
theorem tg_int_cell : (Str.ofString "int" = Str.ofString "cell") = False := eq_false (by decide +kernel)
theorem tg_int_con : (Str.ofString "int" = Str.ofString "con") = False := eq_false (by decide +kernel)
theorem tg_int_tuple : (Str.ofString "int" = Str.ofString "tuple") = False := eq_false (by decide +kernel)
theorem tg_bool_unit : (Str.ofString "bool" = Str.ofString "unit") = False := eq_false (by decide +kernel)
theorem tg_bool_int : (Str.ofString "bool" = Str.ofString "int") = False := eq_false (by decide +kernel)
theorem tg_bool_cell : (Str.ofString "bool" = Str.ofString "cell") = False := eq_false (by decide +kernel)
theorem tg_bool_con : (Str.ofString "bool" = Str.ofString "con") = False := eq_false (by decide +kernel)
theorem tg_bool_tuple : (Str.ofString "bool" = Str.ofString "tuple") = False := eq_false (by decide +kernel)
theorem tg_cell_unit : (Str.ofString "cell" = Str.ofString "unit") = False := eq_false (by decide +kernel)
theorem tg_cell_int : (Str.ofString "cell" = Str.ofString "int") = False := eq_false (by decide +kernel)
theorem tg_cell_bool : (Str.ofString "cell" = Str.ofString "bool") = False := eq_false (by decide +kernel)
theorem tg_cell_con : (Str.ofString "cell" = Str.ofString "con") = False := eq_false (by decide +kernel)
theorem tg_cell_tuple : (Str.ofString "cell" = Str.ofString "tuple") = False := eq_false (by decide +kernel)
theorem tg_con_unit : (Str.ofString "con" = Str.ofString "unit") = False := eq_false (by decide +kernel)
theorem tg_con_int : (Str.ofString "con" = Str.ofString "int") = False := eq_false (by decide +kernel)
theorem tg_con_bool : (Str.ofString "con" = Str.ofString "bool") = False := eq_false (by decide +kernel)
theorem tg_con_cell : (Str.ofString "con" = Str.ofString "cell") = False := eq_false (by decide +kernel)
theorem tg_con_tuple : (Str.ofString "con" = Str.ofString "tuple") = False := eq_false (by decide +kernel)
theorem tg_tuple_unit : (Str.ofString "tuple" = Str.ofString "unit") = False := eq_false (by decide +kernel)
theorem tg_tuple_int : (Str.ofString "tuple" = Str.ofString "int") = False := eq_false (by decide +kernel)
theorem tg_tuple_bool : (Str.ofString "tuple" = Str.ofString "bool") = False := eq_false (by decide +kernel)
theorem tg_tuple_cell : (Str.ofString "tuple" = Str.ofString "cell") = False := eq_false (by decide +kernel)
theorem tg_tuple_con : (Str.ofString "tuple" = Str.ofString "con") = False := eq_false (by decide +kernel)
/-- both say the same of data that hold but those words -/
theorem plain_same : ∀ (n : Nat) (d : PyData), allS d = true → plR n d = lawP n d
  | 0, _, _ => rfl
  | n + 1, d, h => by
    cases hw : hasWordD d with
    | false => rw [lawP_no hw, plR, innO_none hw]
    | true =>
      obtain ⟨s, r, rfl⟩ := hasWord_of hw
      have hr : ∀ x ∈ r, allS x = true := fun x hx => allSs_mem (ds := .str s :: r) (by simpa [allS] using h) x (List.mem_cons_of_mem _ hx)
      show (match innW s r with
        | none => false
        | some ks => ks.all (plR n)) = lawW (lawP n) s r
      have a0 := allS_getD hr 0
      have a1 := allS_getD hr 1
      have ih : ∀ x, allS x = true → plR n x = lawP n x := fun x hx => plain_same n x hx
      by_cases h_unit : s = Str.ofString "unit"
      · subst h_unit
        unfold innW lawW
        simp only [tg_unit_int, tg_unit_bool, tg_unit_cell, tg_unit_con, tg_unit_tuple, decide_true, decide_false, Bool.false_and, Bool.true_and, Bool.and_true, Bool.and_false, Bool.false_eq_true, if_true, if_false]
        cases lenE r 1 <;> rfl
      by_cases h_int : s = Str.ofString "int"
      · subst h_int
        unfold innW lawW
        simp only [tg_int_unit, tg_int_bool, tg_int_cell, tg_int_con, tg_int_tuple, decide_true, decide_false, Bool.false_and, Bool.true_and, Bool.and_true, Bool.and_false, Bool.false_eq_true, if_true, if_false]
        revert a0 a1
        generalize r.getD 0 .none = d0
        intro a0 a1
        cases lenE r 2 <;> cases d0 <;> simp [isNumD, isNumI, isaInt, isBoolD]
        split <;> simp_all
      by_cases h_bool : s = Str.ofString "bool"
      · subst h_bool
        unfold innW lawW
        simp only [tg_bool_unit, tg_bool_int, tg_bool_cell, tg_bool_con, tg_bool_tuple, decide_true, decide_false, Bool.false_and, Bool.true_and, Bool.and_true, Bool.and_false, Bool.false_eq_true, if_true, if_false]
        revert a0 a1
        generalize r.getD 0 .none = d0
        intro a0 a1
        cases lenE r 2 <;> cases d0 <;> simp [isBoolD]
      by_cases h_cell : s = Str.ofString "cell"
      · subst h_cell
        unfold innW lawW
        simp only [tg_cell_unit, tg_cell_int, tg_cell_bool, tg_cell_con, tg_cell_tuple, decide_true, decide_false, Bool.false_and, Bool.true_and, Bool.and_true, Bool.and_false, Bool.false_eq_true, if_true, if_false]
        revert a0 a1
        generalize r.getD 0 .none = d0
        intro a0 a1
        cases lenE r 2 <;> cases d0 <;> simp [isCountD, isGe0, isaInt, isBoolD]
        split <;> simp_all
      by_cases h_con : s = Str.ofString "con"
      · subst h_con
        unfold innW lawW
        simp only [tg_con_unit, tg_con_int, tg_con_bool, tg_con_cell, tg_con_tuple, decide_true, decide_false, Bool.false_and, Bool.true_and, Bool.and_true, Bool.and_false, Bool.false_eq_true, if_true, if_false]
        have ex : lenE r 3 = true → lenE r 2 = false := fun z => by
          have := lenE_eq (n := 2) z
          unfold lenE
          exact decide_eq_false (by omega)
        rw [big_eq a0, ← ih _ a1]
        cases h3 : lenE r 3 with
        | true =>
          cases lawBigD (r.getD 0 .none) <;> cases isNone (r.getD 1 .none) <;> simp
        | false =>
          cases lenE r 2 <;> cases isaInt (r.getD 0 .none) <;> cases isBoolD (r.getD 0 .none) <;> rfl
      by_cases h_tuple : s = Str.ofString "tuple"
      · subst h_tuple
        unfold innW lawW
        simp only [tg_tuple_unit, tg_tuple_int, tg_tuple_bool, tg_tuple_cell, tg_tuple_con, decide_true, decide_false, Bool.false_and, Bool.true_and, Bool.and_true, Bool.and_false, Bool.false_eq_true, if_true, if_false]
        revert a0 a1
        generalize r.getD 0 .none = d0
        intro a0 a1
        have hall : (kids d0).all (plR n) = (kids d0).all (lawP n) := by
          have hk : ∀ x ∈ kids d0, allS x = true := by
            cases d0 with
            | tuple ds => exact allSs_mem (ds := ds) (by simpa [allS] using a0)
            | _ => exact fun x hx => by cases hx
          revert hk
          generalize kids d0 = ks
          intro hk
          induction ks with
          | nil => rfl
          | cons x rr ihh => rw [List.all_cons, List.all_cons, ih x (hk x List.mem_cons_self), ihh fun y hy => hk y (List.mem_cons_of_mem _ hy)]
        cases lenE r 2 with
        | false => rfl
        | true =>
          cases isTupD d0 with
          | false => rfl
          | true =>
            cases (decide ((2 : Int) ≤ ((kids d0).length : Int)) && decide (((kids d0).length : Int) ≤ 4)) with
            | false => rfl
            | true => exact hall
      unfold innW lawW
      simp only [h_unit, h_int, h_bool, h_cell, h_con, h_tuple, decide_false, Bool.false_and, Bool.and_false, Bool.false_eq_true, if_false]
      cases lenE r 2 <;> cases isaInt (r.getD 0 .none) <;> cases isBoolD (r.getD 0 .none) <;> rfl
section
variable {P : Program} {w : World} {K : PySem.W.Frag} {mg : Str → Option Value} {base : Heap}
theorem eqv_tup0 (ds : List PyData) : PyData.eqv (.tuple ds) (.tuple []) = ds.isEmpty := by cases ds <;> simp [PyData.eqv, PyData.eqvAll]
theorem sc__law_is_plain : FnScope ["_law_value_here", "_law_word", "_law_many", "_law_one", "_law_part"] ["_law_value_here"] (defScope s78) := ⟨rfl, rfl, rfl, by decide +kernel, rfl, by decide +kernel, by decide +kernel⟩
theorem lawplain_step (T : Tx K mg) (n : Nat) (hn : n ≤ 30) (D__law_is_plain : Df P w K mg base CX0 (n + 1) "_law_is_plain" ["_law_value_here"] (sp1 K (fun d => .bool (lawP n d)) fun d => ∃ m, n = m + 1 ∧ wf m d = true ∧ allS d = true)) : Df P w K mg base CX0 (n + 2) "_law_is_plain" ["_law_value_here"] (sp1 K (fun d => .bool (lawP (n + 1) d)) fun d => wf n d = true ∧ allS d = true) := by
  have D__law_is_big := ok__law_is_big (P := P) (w := w) (base := base) T
  refine df_ok T.f__law_is_plain T.g__law_is_plain sc__law_is_plain len1 (fun _ _ _ _ _ _ us hl => match us, hl with | [_], _ => rfl) fun cdv A outer s H vs Q E hr h => ?_
  obtain ⟨v, d, rfl, hd, ⟨hw, ha⟩, q⟩ := h
  have nd := sc__law_is_plain.nd
  refine ⟨_, (pss_cons (ps_if (PW.pt (pw_or (pt_not (pt_val (pe_callB call_isi (by rfl) T.n_isinstance (by decide +kernel) (pa_cons (pv 0) (pa_cons (pty T.n_tuple b_tuple) pa_nil))))) (pw_or (pt_cmpR (op_eqD hr.units) (pv 0) (pe_tup pa_nil) (nomark _)) (pw_or1 (pt_not (pt_val (pe_callB call_isi (by rfl) T.n_isinstance (by decide +kernel) (pa_cons (pe_ix ix_tup (pv 0) pe_int (fun _ _ => rfl)) (pa_cons (pty T.n_str b_str) pa_nil))))))))) (pss_one (ps_ret pe_bl)) pss_nil)
      (pss_cons (ps_par (i := 1) (j := 2) (by rfl) nd rfl rfl (by decide) rfl rfl (pa_cons (pe_ix ix_tup (pv 0) pe_int (fun _ _ => rfl)) (pa_cons (pe_callB c_len (by rfl) T.n_len (by decide +kernel) (pa_cons (pv 0) pa_nil)) pa_nil)) (by rfl))
      (pss_cons (ps_if (pt_cmpR (op_eqD hr.units) (pv 1) pe_str (nomark _)) (pss_one (ps_ret (pe_cmpR (op_eqD hr.units) (pv 2) pe_int (nomark _)))) pss_nil)
      (pss_cons (ps_if (PW.pt (pw_and (pt_cmpR (op_eqD hr.units) (pv 2) pe_int (nomark _)) (pw_and1 (pt_cmpR (op_eqD hr.units) (pv 1) pe_str (nomark _))))) (pss_one (ps_ret (pe_and (pe_df D__law_is_big hr (pa_cons (pe_ix ix_tup (pv 0) pe_int (fun _ _ => rfl)) pa_nil)) (pe_one (pe_or (pe_cmpR o_isN (pe_ix ix_tup (pv 0) pe_int (fun _ _ => rfl)) pe_non (nomark _)) (pe_one (pe_df D__law_is_plain hr (pa_cons (pe_ix ix_tup (pv 0) pe_int (fun _ _ => rfl)) pa_nil)))))))) pss_nil)
      (pss_cons (ps_if (pt_cmpR (op_neD hr.units) (pv 2) pe_int (nomark _)) (pss_one (ps_ret pe_bl)) pss_nil)
      (pss_cons (ps_set (i := 3) nd rfl (Or.inl rfl) (pe_ix ix_tup (pv 0) pe_int (fun _ _ => rfl)))
      (pss_cons (ps_if (pt_cmpR (op_eqD hr.units) (pv 1) pe_str (nomark _)) (pss_one (ps_ret (pe_callB call_isi (by rfl) T.n_isinstance (by decide +kernel) (pa_cons (pv 3) (pa_cons (pty T.n_bool b_bool) pa_nil))))) pss_nil)
      (pss_cons (ps_if (pt_cmpR (op_eqD hr.units) (pv 1) pe_str (nomark _)) (pss_cons (ps_if (PW.pt (pw_or (pt_not (pt_val (pe_callB call_isi (by rfl) T.n_isinstance (by decide +kernel) (pa_cons (pv 3) (pa_cons (pty T.n_tuple b_tuple) pa_nil))))) (pw_or1 (pt_not (pt_chain op_le op_le pe_int (pe_callB c_len (by rfl) T.n_len (by decide +kernel) (pa_cons (pv 3) pa_nil)) pe_int))))) (pss_one (ps_ret pe_bl)) pss_nil)
      (pss_one (ps_ret (pe_callB (cr_all rfl) (by rfl) T.n_all (by decide +kernel) (pa_cons (pe_lc (own := [("_law_part", 4)]) (g := gName 4) rfl nd (pi_tup (pv 3)) (blkOk_by (own := [("_law_part", 4)]) (N := ["_law_value_here", "_law_word", "_law_many", "_law_one", "_law_part"]) (sc := defScope s78) (by decide +kernel)) (fun _ _ _ _ _ => pg_name (i := 4) nd rfl (Or.inl rfl)) (fun _ _ _ _ _ => pts_nil) (fun _ _ _ _ _ => (pe_df D__law_is_plain hr (pa_cons (pv 4) pa_nil)))) pa_nil))))) pss_nil)
      (pss_cons (ps_if (PW.pt (pw_or (pt_not (pt_val (pe_callB call_isi (by rfl) T.n_isinstance (by decide +kernel) (pa_cons (pv 3) (pa_cons (pty T.n_int b_int) pa_nil))))) (pw_or1 (pt_val (pe_callB call_isi (by rfl) T.n_isinstance (by decide +kernel) (pa_cons (pv 3) (pa_cons (pty T.n_bool b_bool) pa_nil))))))) (pss_one (ps_ret pe_bl)) pss_nil)
      (pss_cons (ps_if (pt_cmpR (op_eqD hr.units) (pv 1) pe_str (nomark _)) (pss_one (ps_ret (pe_chain op_le op_le (pe_un un_neg pe_int) (pv 3) pe_int))) pss_nil)
      (pss_one (ps_ret (pe_and (pe_cmpR (op_eqD hr.units) (pv 1) pe_str (nomark _)) (pe_one (pe_cmpR op_ge (pv 3) pe_int (nomark _)))))))))))))))), ?_⟩
  refine q_when (b := !hasWordD d) ?_ (fun hb1 H1 e1 => ?_) (fun hb1 H1 e1 => ?_)
  · cases d with
    | tuple ds =>
      have k1 := kit_tuple (.tuple ds)
      have sh := wf_shaped (n := n) hw (by omega)
      cases ds with
      | nil => exact et_is (et_or (et_not (et_val (ed_isi (ed_var rfl hd) k1))) fun _ => et_or (b := true) (et_cmp (ed_eq (ed_var rfl hd) (ed_tup ea_nilD) sh (by decide +kernel))) fun e => by simp [eqv_tup0] at e) (by rw [eqv_tup0]; rfl)
      | cons x r =>
        refine et_is (et_or (et_not (et_val (ed_isi (ed_var rfl hd) k1))) fun _ => et_or (et_cmp (ed_eq (ed_var rfl hd) (ed_tup ea_nilD) sh (by decide +kernel))) fun _ => et_not (et_val (ed_isi (ed_ixT (n := 0) (ed_var rfl hd) ed_int rfl) (kit_str x)))) ?_
        rw [eqv_tup0]
        cases x <;> rfl
    | _ => exact et_is (et_or (b := true) (et_not (et_val (ed_isi (ed_var rfl hd) (kit_tuple _)))) fun e => by cases e) rfl
  · exact sd_ret ed_bl fun v H2 e2 hv => q v H2 (e1.trans e2) (by
      show Dp K H2 v (.bool (lawP (n + 1) d))
      rw [lawP_no (by simpa using hb1)]
      exact hv)
  obtain ⟨z, r, rfl⟩ := hasWord_of (d := d) (by simpa using hb1)
  cases n with
  | zero => cases hw
  | succ m =>
  obtain ⟨hz, hwx⟩ := wf_tupS hw
  have hz' : (PyData.str z :: r).length ≤ 100000 := by omega
  have hwz : sOk z := sOk_of (hwx _ List.mem_cons_self)
  have hax : ∀ x ∈ r, allS x = true := fun x hx => allSs_mem (ds := .str z :: r) (by simpa [allS] using ha) x (List.mem_cons_of_mem _ hx)
  have hd1 := dpMono e1 _ _ hd
  refine q_parX (t_cons ?_)
  refine ed_ixT (K := K) (n := 0) (ed_var rfl hd1) ed_int rfl H1 (Ex.refl _) _ fun v1 H2 e2 hv1 => t_cons ?_
  refine ed_len (K := K) (ed_var rfl (dpMono e2 _ _ hd1)) rfl hz' H2 (Ex.refl _) _ fun v2 H3 e3 hv2 => ?_
  refine ⟨v1, v2, rfl, ?_⟩
  have hv1' := dp_str hv1
  have hv2' := dp_int hv2
  subst hv1' hv2'
  have E3 := ((e1.trans e2).trans e3)
  have wfi : ∀ i, wf m (r.getD i .none) = true := fun i => by
    by_cases hi : i < r.length
    · exact hwx _ (List.mem_cons_of_mem _ (List.mem_of_getElem? (getD_at hi)))
    · rw [List.getD_eq_getElem?_getD, List.getElem?_eq_none (by omega)]
      cases m <;> rfl
  have q' : ∀ x H', Ex H H' → Dp K H' x (.bool (lawW (lawP (m + 1)) z r)) → Q x H' := q
  clear q
  unfold lawW at q'
  have ix : ∀ {σ : L2.St} {H' : Hp} (i : Nat), Ex H H' → σ[0]? = some (some v) → i < r.length → Ed K (tOp (rIxT K) (tVar 0) (tC (.int ((i + 1 : Nat) : Int)))) σ H' (r.getD i .none) := fun i e' hs hi =>
    ed_ixT (n := i + 1) (ed_var hs (dpMono e' _ _ hd)) ed_int (by rw [List.getElem?_cons_succ]; exact getD_at hi)
  refine q_when (et_str (K := K) (ed_var rfl (.str z)) hwz) (fun hc H4 e4 => ?_) (fun hc H4 e4 => ?_)
  · simp only [if_pos hc] at q'
    exact sd_ret (Ed.is (ed_eq (K := K) (ed_var rfl (.int ((PyData.str z :: r).length : Int))) (ed_int (i := 1)) (wf_shaped (n := 0) rfl) (wf_shaped (n := 0) rfl)) (show _ = PyData.bool (lenE r 1) by simp only [PyData.eqv]; rw [Bool.beq_eq_decide_eq]; rfl)) fun x H5 e5 hx => q' x H5 ((E3.trans e4).trans e5) hx
  simp only [if_neg (neg_of hc)] at q'
  have E4 := E3.trans e4
  clear hc
  refine q_when (b := lenE r 3 && decide (z = "con")) (et_and (et_ieq (K := K) (c := 3) (ed_var rfl (.int _))) fun _ => et_str (K := K) (ed_var rfl (.str z)) hwz) (fun hc H5 e5 => ?_) (fun hc H5 e5 => ?_)
  · simp only [if_pos hc] at q'
    have hl : r.length = 2 := lenE_eq (n := 2) (Bool.and_eq_true_iff.mp hc).1
    have E5 := E4.trans e5
    exact sd_ret (ed_andV (ed_call1 (f := fun d => .bool (lawBigD d)) (ix 0 E5 (by rfl) (by omega)) (allS_str (allS_getD hax 0))) fun _ => ed_orV (ed_isN (ix 1 E5 (by rfl) (by omega))) fun _ => ed_call1 (f := fun d => .bool (lawP (m + 1) d)) (ix 1 E5 (by rfl) (by omega)) ⟨m, rfl, wfi 1, allS_getD hax 1⟩) fun x H6 e6 hx => q' x H6 (E5.trans e6) hx
  simp only [if_neg (neg_of hc)] at q'
  have E5 := E4.trans e5
  clear hc
  refine q_when (b := !lenE r 2) (et_cmp (Ed.is (ed_ne (K := K) (ed_var rfl (.int ((PyData.str z :: r).length : Int))) (ed_int (i := 2)) (wf_shaped (n := 0) rfl) (wf_shaped (n := 0) rfl)) (show _ = PyData.bool (!lenE r 2) by simp only [PyData.eqv]; rw [Bool.beq_eq_decide_eq]; rfl))) (fun hc H6 e6 => ?_) (fun hc H6 e6 => ?_)
  · simp only [if_pos hc] at q'
    exact sd_ret (K := K) ed_bl fun x H7 e7 hx => q' x H7 ((E5.trans e6).trans e7) hx
  simp only [if_neg (neg_of hc)] at q'
  have hl : r.length = 1 := lenE_eq (n := 1) (by simpa using hc)
  have E6 := E5.trans e6
  clear hc
  refine qd_asg (ix 0 E6 (by rfl) (by omega)) fun vo H7 e7 hvo => ?_
  have E7 := E6.trans e7
  have a0 := allS_getD hax 0
  have w0 := wfi 0
  revert hvo a0 w0 q'
  generalize r.getD 0 .none = d0
  intro q' hvo a0 w0
  refine q_when (et_str (K := K) (ed_var rfl (.str z)) hwz) (fun hc H8 e8 => ?_) (fun hc H8 e8 => ?_)
  · simp only [if_pos hc] at q'
    exact sd_ret (ed_isi (ed_var rfl (dpMono e8 _ _ hvo)) (kit_bool _)) fun x H9 e9 hx => q' x H9 ((E7.trans e8).trans e9) hx
  simp only [if_neg (neg_of hc)] at q'
  have E8 := E7.trans e8
  have hvo8 := dpMono e8 _ _ hvo
  clear hc
  refine q_if (et_str (K := K) (ed_var rfl (.str z)) hwz) (fun hc H9 e9 => ?_) (fun hc H9 e9 => ?_)
  · simp only [if_pos hc] at q'
    have E9 := E8.trans e9
    have hvo9 := dpMono e9 _ _ hvo8
    cases d0 with
    | tuple ds =>
      obtain ⟨hz0, _⟩ := wf_tup w0
      refine q_when (b := !isTupD (.tuple ds) || !(decide ((2 : Int) ≤ ((kids (.tuple ds)).length : Int)) && decide (((kids (.tuple ds)).length : Int) ≤ 4))) (et_or (et_not (et_val (ed_isi (ed_var rfl hvo9) (kit_tuple _)))) fun _ => et_not (et_cmp (ed_chain ed_int (ed_len (n := ds.length) (ed_var rfl hvo9) rfl (by omega)) ed_int))) (fun hc2 H10 e10 => ?_) (fun hc2 H10 e10 => ?_)
      · simp only [if_pos hc2] at q'
        exact sd_ret (K := K) ed_bl fun x H11 e11 hx => q' x H11 ((E9.trans e10).trans e11) hx
      · simp only [if_neg (neg_of hc2)] at q'
        have hfz : frzAll ((ds.map (lawP (m + 1))).map PyData.bool) = true := frz_all fun d hd => by
          obtain ⟨b, _, rfl⟩ := List.mem_map.mp hd
          rfl
        refine sd_ret (Ed.is (ed_all (K := K) (bs := ds.map (lawP (m + 1))) (En.ed (en_lcT (j := 4) (ed_var rfl (dpMono e10 _ _ hvo9)) (by simp) (by simpa using hz0) hfz fun i d d' x H11 e11 h1 h2 hx => ?_))) (by rw [bool_map]; rfl)) fun x H12 e12 hx => q' x H12 ((E9.trans e10).trans e12) hx
        have he : d' = .bool (lawP (m + 1) d) := by
          rw [List.getElem?_map, List.getElem?_map, h1] at h2
          exact (Option.some.inj h2).symm
        subst he
        have hmem := List.mem_of_getElem? h1
        exact ed_call1 (f := fun d => .bool (lawP (m + 1) d)) (ed_var rfl hx) ⟨m, rfl, (wf_tup w0).2 d hmem, allSs_mem (ds := ds) (by simpa [allS] using a0) d hmem⟩
    | _ => exact q_when (b := true) (et_or (b := true) (et_not (et_val (ed_isi (ed_var rfl hvo9) (kit_tuple _)))) fun e => by cases e) (fun _ H10 e10 => sd_ret (K := K) ed_bl fun x H11 e11 hx => q' x H11 ((E9.trans e10).trans e11) hx) (fun e => by cases e)
  simp only [if_neg (neg_of hc)] at q'
  have E9 := E8.trans e9
  have hvo9 := dpMono e9 _ _ hvo8
  clear hc
  refine q_when (et_or (et_not (et_val (ed_isi (ed_var rfl hvo9) (kit_int _)))) fun _ => et_val (ed_isi (ed_var rfl hvo9) (kit_bool _))) (fun hc H10 e10 => ?_) (fun hc H10 e10 => ?_)
  · simp only [if_pos hc] at q'
    exact sd_ret (K := K) ed_bl fun x H11 e11 hx => q' x H11 ((E9.trans e10).trans e11) hx
  simp only [if_neg (neg_of hc)] at q'
  have E10 := E9.trans e10
  have hvo10 := dpMono e10 _ _ hvo9
  obtain ⟨j, rfl⟩ : ∃ j, d0 = .int j := by
    cases d0 with
    | int j => exact ⟨j, rfl⟩
    | _ => cases hc
  clear hc
  refine q_when (et_str (K := K) (ed_var rfl (.str z)) hwz) (fun hc H11 e11 => ?_) (fun hc H11 e11 => ?_)
  · simp only [if_pos hc] at q'
    exact sd_ret (ed_chain (ed_neg ed_int) (ed_var rfl (dpMono e11 _ _ hvo10)) ed_int) fun x H12 e12 hx => q' x H12 ((E10.trans e11).trans e12) hx
  simp only [if_neg (neg_of hc)] at q'
  exact sd_ret (K := K) (ed_andV (Ed.is (ed_eq (ed_var rfl (.str z)) ed_str (wf_shaped (n := 0) hwz) (wf_shaped (n := 0) (by decide +kernel))) (show _ = PyData.bool (decide (z = "cell")) by simp only [PyData.eqv]; rw [Bool.beq_eq_decide_eq])) fun _ => ed_cmpI (ed_var rfl (dpMono e11 _ _ hvo10)) ed_int) fun x H12 e12 hx => q' x H12 ((E10.trans e11).trans e12) hx
theorem ok__law_is_plain (T : Tx K mg) : ∀ n : Nat, n ≤ 30 → Df P w K mg base CX0 (n + 2) "_law_is_plain" ["_law_value_here"] (sp1 K (fun d => .bool (lawP (n + 1) d)) fun d => wf n d = true ∧ allS d = true)
  | 0, h => lawplain_step T 0 h (by
      obtain ⟨fd, F⟩ := T.f__law_is_plain
      exact ⟨fd, F.ok sc__law_is_plain len1 fun cdv A outer s H vs Q E hr h => by obtain ⟨_, _, _, _, ⟨m, h, _⟩, _⟩ := h; omega, F.bindsN (fun _ _ _ _ _ _ us hl => match us, hl with | [_], _ => rfl), F.kp, T.g__law_is_plain⟩)
  | n + 1, h => lawplain_step T (n + 1) h ((ok__law_is_plain T n (by omega)).imp fun vs H Q E hh => by
      obtain ⟨v, d, rfl, hd, ⟨m, hm, hp⟩, q⟩ := hh
      have : m = n := by omega
      subst this
      exact ⟨v, d, rfl, hd, hp, q⟩)
end
end K25

end

section
set_option maxHeartbeats 4000000
namespace K25
open PySem PySem.Spec PyProof.Rows L2 Evl
/-! ### bent values -/
def bentPick : List PyData := (["int", "bool", "con", "tuple", "cell", "unit", "M.A", "m", "M.m", "M.A.B", ""] : List Str).map PyData.str ++ [.int 0, .int 1, .int (-1), .int 2147483648, .int (-2147483648), .int (-2147483649), .bool true, .bool false, .none] ++ [.tuple [.str "unit"], .tuple [], .list []]
inductive BentD : PyData → PyData → Prop
  | cut (ds : List PyData) (i : Nat) : BentD (.tuple ds) (.tuple (ds.take i ++ ds.drop (i + 1)))
  | dbl (ds : List PyData) (i : Nat) : BentD (.tuple ds) (.tuple (ds ++ (ds.drop i).take 1))
  | lst (ds : List PyData) : BentD (.tuple ds) (.list ds)
  | sub (ds : List PyData) (i : Nat) (d b : PyData) (h : ds[i]? = some d) (hb : BentD d b) : BentD (.tuple ds) (.tuple ((ds.take i ++ [b]) ++ ds.drop (i + 1)))
  | pick (d b : PyData) (h : b ∈ bentPick) : BentD d b
/-- bounded in width and depth, those words alone -/
def bw (k : Nat) : Nat → PyData → Bool
  | _, .none => true
  | _, .bool _ => true
  | _, .int _ => true
  | _, .str s => decide (s ∈ bentStrs)
  | n + 1, .list ds => decide (ds.length ≤ k) && ds.all (bw k n)
  | n + 1, .tuple ds => decide (ds.length ≤ k) && ds.all (bw k n)
  | 0, .list _ => false
  | 0, .tuple _ => false
  | _, .dict _ => false
mutual
/-- leaves -/
def lv : PyData → Nat
  | .tuple ds => max 1 (lvs ds)
  | .list ds => max 1 (lvs ds)
  | _ => 1
def lvs : List PyData → Nat
  | [] => 0
  | d :: ds => lv d + lvs ds
end
theorem lvs_app : ∀ xs ys : List PyData, lvs (xs ++ ys) = lvs xs + lvs ys
  | [], ys => by simp [lvs]
  | x :: r, ys => by
    rw [List.cons_append, lvs, lvs, lvs_app r ys]
    omega
theorem lv_pos (d : PyData) : 1 ≤ lv d := by
  cases d <;> simp [lv] <;> omega
theorem lvs_at : ∀ {ds : List PyData} {i : Nat} {d : PyData}, ds[i]? = some d → lvs ds = lvs (ds.take i) + lv d + lvs (ds.drop (i + 1))
  | [], i, d, h => by simp at h
  | x :: r, 0, d, h => by
    simp at h
    subst h
    simp [lvs]
  | x :: r, i + 1, d, h => by
    have := lvs_at (ds := r) (i := i) (d := d) (by simpa using h)
    rw [List.take_succ_cons, List.drop_succ_cons, lvs, lvs, this]
    omega
theorem lvs_take_drop (ds : List PyData) (i : Nat) : lvs ds = lvs (ds.take i) + lvs (ds.drop i) := by
  rw [← lvs_app, List.take_append_drop]
theorem lvs_len : ∀ ds : List PyData, ds.length ≤ lvs ds
  | [] => Nat.le_refl _
  | d :: r => by
    have h1 := lv_pos d
    have h2 := lvs_len r
    rw [lvs, List.length_cons]
    omega
theorem bentPick_lv : ∀ b ∈ bentPick, lv b = 1 := by
  intro b hb
  simp only [bentPick, List.map_cons, List.map_nil, List.cons_append, List.nil_append, List.mem_cons, List.mem_nil_iff, or_false] at hb
  rcases hb with rfl | rfl | rfl | rfl | rfl | rfl | rfl | rfl | rfl | rfl | rfl | rfl | rfl | rfl | rfl | rfl | rfl | rfl | rfl | rfl | rfl | rfl | rfl <;> rfl
theorem bentPick_bw : ∀ b ∈ bentPick, bw 5 1 b = true := by
  intro b hb
  simp only [bentPick, List.map_cons, List.map_nil, List.cons_append, List.nil_append, List.mem_cons, List.mem_nil_iff, or_false] at hb
  rcases hb with rfl | rfl | rfl | rfl | rfl | rfl | rfl | rfl | rfl | rfl | rfl | rfl | rfl | rfl | rfl | rfl | rfl | rfl | rfl | rfl | rfl | rfl | rfl <;> decide +kernel
theorem BentD.lv {d b : PyData} (h : BentD d b) : K25.lv b ≤ 2 * K25.lv d := by
  induction h with
  | cut ds i =>
    simp only [K25.lv, lvs_app]
    have h1 := lvs_take_drop ds i
    have h2 := lvs_take_drop (ds.drop i) 1
    rw [List.drop_drop] at h2
    omega
  | dbl ds i =>
    simp only [K25.lv, lvs_app]
    have h1 := lvs_take_drop ds i
    have h2 := lvs_take_drop (ds.drop i) 1
    omega
  | lst ds =>
    simp only [K25.lv]
    omega
  | sub ds i d b h hb ih =>
    have h1 := lvs_at h
    simp only [K25.lv, lvs_app]
    have : lvs [b] = K25.lv b := by simp [lvs]
    rw [this]
    omega
  | pick d b h =>
    have h1 := bentPick_lv b h
    have h2 := lv_pos d
    omega
theorem bw_up : ∀ (n : Nat) {j k : Nat} (d : PyData), j ≤ k → bw j n d = true → bw k (n + 1) d = true
  | _, _, _, .none, _, _ => rfl
  | _, _, _, .bool _, _, _ => rfl
  | _, _, _, .int _, _, _ => rfl
  | _, _, _, .str s, _, h => by simpa [bw] using h
  | n + 1, j, k, .list ds, hk, h => by
    have h2 : ds.length ≤ j ∧ ∀ x ∈ ds, bw j n x = true := by simpa [bw] using h
    have : ds.length ≤ k ∧ ∀ x ∈ ds, bw k (n + 1) x = true := ⟨by omega, fun x hx => bw_up n x hk (h2.2 x hx)⟩
    simpa [bw] using this
  | n + 1, j, k, .tuple ds, hk, h => by
    have h2 : ds.length ≤ j ∧ ∀ x ∈ ds, bw j n x = true := by simpa [bw] using h
    have : ds.length ≤ k ∧ ∀ x ∈ ds, bw k (n + 1) x = true := ⟨by omega, fun x hx => bw_up n x hk (h2.2 x hx)⟩
    simpa [bw] using this
  | 0, _, _, .list _, _, h => by cases h
  | 0, _, _, .tuple _, _, h => by cases h
  | 0, _, _, .dict _, _, h => by cases h
  | _ + 1, _, _, .dict _, _, h => by cases h
theorem bw_le {n m k : Nat} {d : PyData} (h : bw k n d = true) (hm : n ≤ m) : bw k m d = true := by
  obtain ⟨j, rfl⟩ := Nat.exists_eq_add_of_le hm
  clear hm
  induction j with
  | zero => exact h
  | succ j ih => exact bw_up _ d (Nat.le_refl k) ih
theorem bw_tup {n k : Nat} {ds : List PyData} (h : bw k n (.tuple ds) = true) : ∃ m, n = m + 1 ∧ ds.length ≤ k ∧ ∀ x ∈ ds, bw k m x = true := by
  cases n with
  | zero => cases h
  | succ m => exact ⟨m, rfl, by simpa [bw] using h⟩
theorem bw_mkT {n k : Nat} {ds : List PyData} (h1 : ds.length ≤ k) (h2 : ∀ x ∈ ds, bw k n x = true) : bw k (n + 1) (.tuple ds) = true := by
  have : ds.length ≤ k ∧ ∀ x ∈ ds, bw k n x = true := ⟨h1, h2⟩
  simpa [bw] using this
theorem bw_mkL {n k : Nat} {ds : List PyData} (h1 : ds.length ≤ k) (h2 : ∀ x ∈ ds, bw k n x = true) : bw k (n + 1) (.list ds) = true := by
  have : ds.length ≤ k ∧ ∀ x ∈ ds, bw k n x = true := ⟨h1, h2⟩
  simpa [bw] using this
theorem BentD.bw {d b : PyData} (h : BentD d b) : ∀ n, K25.bw 4 n d = true → K25.bw 5 (n + 1) b = true := by
  induction h with
  | cut ds i =>
    intro n hn
    obtain ⟨m, rfl, hl, hx⟩ := bw_tup hn
    refine bw_mkT ?_ fun x hx2 => ?_
    · have := List.length_take_le' i ds
      have := List.length_drop (i := i + 1) (l := ds)
      simp only [List.length_append, List.length_take, List.length_drop]
      omega
    · refine bw_up m x (by decide) (hx x ?_)
      rcases List.mem_append.mp hx2 with h | h
      · exact List.mem_of_mem_take h
      · exact List.mem_of_mem_drop h
  | dbl ds i =>
    intro n hn
    obtain ⟨m, rfl, hl, hx⟩ := bw_tup hn
    refine bw_mkT ?_ fun x hx2 => ?_
    · have := List.length_take_le 1 (ds.drop i)
      rw [List.length_append]
      omega
    · refine bw_up m x (by decide) (hx x ?_)
      rcases List.mem_append.mp hx2 with h | h
      · exact h
      · exact List.mem_of_mem_drop (List.mem_of_mem_take h)
  | lst ds =>
    intro n hn
    obtain ⟨m, rfl, hl, hx⟩ := bw_tup hn
    exact bw_mkL (by omega) fun x hx2 => bw_up m x (by decide) (hx x hx2)
  | sub ds i d b h hb ih =>
    intro n hn
    obtain ⟨m, rfl, hl, hx⟩ := bw_tup hn
    have hil := (List.getElem?_eq_some_iff.mp h).1
    refine bw_mkT ?_ fun x hx2 => ?_
    · simp only [List.length_append, List.length_take, List.length_drop, List.length_singleton]
      omega
    · rcases List.mem_append.mp hx2 with h2 | h2
      · rcases List.mem_append.mp h2 with h3 | h3
        · exact bw_up m x (by decide) (hx x (List.mem_of_mem_take h3))
        · rw [List.mem_singleton.mp h3]
          exact ih m (hx d (List.mem_of_getElem? h))
      · exact bw_up m x (by decide) (hx x (List.mem_of_mem_drop h2))
  | pick d b h =>
    intro n hn
    exact bw_le (bentPick_bw b h) (by omega)
theorem bw_wf : ∀ (n : Nat) {k : Nat} (d : PyData), k ≤ 1000 → bw k n d = true → wf n d = true ∧ allS d = true
  | n, _, .none, _, _ => ⟨by cases n <;> rfl, rfl⟩
  | n, _, .bool _, _, _ => ⟨by cases n <;> rfl, rfl⟩
  | n, _, .int _, _, _ => ⟨by cases n <;> rfl, rfl⟩
  | n, _, .str s, _, h => by
    have h2 : s ∈ bentStrs := by simpa [bw] using h
    exact ⟨wf_any _ (bentStrs_ok s h2), by simpa [allS] using h2⟩
  | n + 1, k, .list ds, hk, h => by
    have h2 : ds.length ≤ k ∧ ∀ x ∈ ds, bw k n x = true := by simpa [bw] using h
    exact ⟨wf_lst_mk (by omega) fun x hx => (bw_wf n x hk (h2.2 x hx)).1, by
      have := allSs_of fun x hx => (bw_wf n x hk (h2.2 x hx)).2
      simpa [allS] using this⟩
  | n + 1, k, .tuple ds, hk, h => by
    have h2 : ds.length ≤ k ∧ ∀ x ∈ ds, bw k n x = true := by simpa [bw] using h
    exact ⟨wf_tup_mk (by omega) fun x hx => (bw_wf n x hk (h2.2 x hx)).1, by
      have := allSs_of fun x hx => (bw_wf n x hk (h2.2 x hx)).2
      simpa [allS] using this⟩
  | 0, _, .list _, _, h => by cases h
  | 0, _, .tuple _, _, h => by cases h
  | 0, _, .dict _, _, h => by cases h
  | _ + 1, _, .dict _, _, h => by cases h
theorem sz_sum {f g : PyData → Nat} : ∀ ds : List PyData, (∀ d ∈ ds, f d ≤ g d) → (ds.map f).sum ≤ (ds.map g).sum
  | [], _ => Nat.le_refl _
  | d :: r, h => by
    have h1 := h d List.mem_cons_self
    have h2 := sz_sum r fun x hx => h x (List.mem_cons_of_mem _ hx)
    simp only [List.map_cons, List.sum_cons]
    omega
theorem lvs_sum : ∀ ds : List PyData, (ds.map lv).sum = lvs ds
  | [] => rfl
  | d :: r => by
    rw [List.map_cons, List.sum_cons, lvs_sum r, lvs]
theorem szV_lv : ∀ (n : Nat) (d : PyData), szV n d ≤ lv d
  | 0, d => lv_pos d
  | n + 1, d => by
    have ih := sz_sum (f := szV n) (g := lv) (chV d) fun x _ => szV_lv n x
    rw [lvs_sum] at ih
    show 1 + ((chV d).map (szV n)).sum ≤ lv d
    cases h : innO d with
    | none =>
      have : chV d = [] := by
        unfold chV
        rw [h]
        rfl
      rw [this]
      exact lv_pos d
    | some ks =>
      have hc : chV d = ks := by
        unfold chV
        rw [h]
        rfl
      rw [hc] at ih ⊢
      obtain ⟨s, r, rfl, hw⟩ := innO_word h
      have h1 : lv (.tuple (.str s :: r)) = max 1 (1 + lvs r) := by
        simp [lv, lvs]
      rw [h1]
      rcases innW_cases hw with rfl | ⟨hl, rfl⟩ | ⟨hl, ht, _⟩
      · have : lvs [] = 0 := rfl
        omega
      · have h2 := lvs_at (getD_at (r := r) (i := 1) (by omega))
        have : lvs [r.getD 1 .none] = lv (r.getD 1 .none) := by simp [lvs]
        omega
      · have h2 := lvs_at (getD_at (r := r) (i := 0) (by omega))
        rw [ht] at h2
        have : lv (.tuple ks) = max 1 (lvs ks) := by simp [lv]
        omega
def vb : Nat → Nat
  | 0 => 3
  | n + 1 => 1 + 3 * vb n
theorem vb_ge : ∀ n, 3 ≤ vb n
  | 0 => Nat.le_refl _
  | n + 1 => by
    have := vb_ge n
    rw [vb]
    omega
theorem con_mem {s : Str} (h : s ∈ conStrs) : s ∈ bentStrs := List.mem_append_right _ h
theorem ValD.facts {n : Nat} {d : PyData} (h : ValD n d) : K25.lv d ≤ vb n ∧ K25.bw 4 (2 * n + 1) d = true := by
  induction h with
  | intP n i h => exact ⟨Nat.le_trans (by simp [intD, K25.lv, lvs]) (vb_ge n), bw_mkT (by simp) fun x hx => by
      simp only [List.mem_cons, List.mem_nil_iff, or_false] at hx
      rcases hx with rfl | rfl
      · exact bw_le (n := 0) (by decide +kernel) (Nat.zero_le _)
      · exact bw_le (n := 0) rfl (Nat.zero_le _)⟩
  | cellP n i h => exact ⟨Nat.le_trans (by simp [cellD, K25.lv, lvs]) (vb_ge n), bw_mkT (by simp) fun x hx => by
      simp only [List.mem_cons, List.mem_nil_iff, or_false] at hx
      rcases hx with rfl | rfl
      · exact bw_le (n := 0) (by decide +kernel) (Nat.zero_le _)
      · exact bw_le (n := 0) rfl (Nat.zero_le _)⟩
  | boolP n b => exact ⟨Nat.le_trans (by simp [boolD, K25.lv, lvs]) (vb_ge n), bw_mkT (by simp) fun x hx => by
      simp only [List.mem_cons, List.mem_nil_iff, or_false] at hx
      rcases hx with rfl | rfl
      · exact bw_le (n := 0) (by decide +kernel) (Nat.zero_le _)
      · exact bw_le (n := 0) rfl (Nat.zero_le _)⟩
  | unitP n => exact ⟨Nat.le_trans (by simp [unitD, K25.lv, lvs]) (vb_ge n), bw_mkT (by simp) fun x hx => by
      simp only [List.mem_cons, List.mem_nil_iff, or_false] at hx
      subst hx
      exact bw_le (n := 0) (by decide +kernel) (Nat.zero_le _)⟩
  | con0 n s h hb => exact ⟨Nat.le_trans (by simp [conD, K25.lv, lvs]) (vb_ge n), bw_mkT (by simp) fun x hx => by
      simp only [List.mem_cons, List.mem_nil_iff, or_false] at hx
      rcases hx with rfl | rfl | rfl
      · exact bw_le (n := 0) (by decide +kernel) (Nat.zero_le _)
      · exact bw_le (n := 0) (by simpa [K25.bw] using con_mem hb.2) (Nat.zero_le _)
      · exact bw_le (n := 0) rfl (Nat.zero_le _)⟩
  | con1 n s d h hb hd ih =>
    have h3 := vb_ge n
    refine ⟨?_, bw_mkT (by simp) fun x hx => ?_⟩
    · have : K25.lv (conD s d) = max 1 (1 + (1 + (K25.lv d + 0))) := by simp [conD, K25.lv, lvs]
      rw [this, vb]
      omega
    · simp only [List.mem_cons, List.mem_nil_iff, or_false] at hx
      rcases hx with rfl | rfl | rfl
      · exact bw_le (n := 0) (by decide +kernel) (Nat.zero_le _)
      · exact bw_le (n := 0) (by simpa [K25.bw] using con_mem hb.2) (Nat.zero_le _)
      · exact bw_le ih.2 (by omega)
  | tupP n ds h2 h4 hd ih =>
    have h3 := vb_ge n
    refine ⟨?_, bw_mkT (by simp) fun x hx => ?_⟩
    · have h5 : K25.lv (tupD ds) = max 1 (1 + (max 1 (lvs ds) + 0)) := by simp [tupD, K25.lv, lvs]
      have h6 := sz_sum (f := K25.lv) (g := fun _ => vb n) ds fun x hx => (ih x hx).1
      rw [lvs_sum] at h6
      have h7 : (ds.map fun _ => vb n).sum = ds.length * vb n := by
        clear h6 h5 ih hd h2 h4
        induction ds with
        | nil => simp
        | cons x r ihr => rw [List.map_cons, List.sum_cons, ihr, List.length_cons, Nat.add_mul]; omega
      rw [h7] at h6
      have h8 := Nat.mul_le_mul_right (vb n) h4
      rw [h5, vb]
      omega
    · simp only [List.mem_cons, List.mem_nil_iff, or_false] at hx
      rcases hx with rfl | rfl
      · exact bw_le (n := 0) (by decide +kernel) (Nat.zero_le _)
      · exact bw_mkT (by omega) fun y hy => (ih y hy).2
/-- more fuel changes nothing -/
theorem lawP_fuel : ∀ (n : Nat) (d : PyData) (m : Nat), wf n d = true → n < m → lawP m d = lawP (n + 1) d
  | 0, d, m, h, hm => by
    obtain ⟨k, rfl⟩ : ∃ k, m = k + 1 := ⟨m - 1, by omega⟩
    have hw : hasWordD d = false := by
      cases d with
      | tuple ds => cases h
      | _ => rfl
    rw [lawP_no hw, lawP_no hw]
  | n + 1, d, m, h, hm => by
    obtain ⟨k, rfl⟩ : ∃ k, m = k + 1 := ⟨m - 1, by omega⟩
    cases hw : hasWordD d with
    | false => rw [lawP_no hw, lawP_no hw]
    | true =>
      obtain ⟨s, r, rfl⟩ := hasWord_of hw
      obtain ⟨_, hx⟩ := wf_tupS h
      have ih : ∀ x, wf n x = true → lawP k x = lawP (n + 1) x := fun x hx => lawP_fuel n x k hx (by omega)
      have h0 : ∀ i, wf n (r.getD i .none) = true := fun i => by
        by_cases hi : i < r.length
        · exact hx _ (List.mem_cons_of_mem _ (List.mem_of_getElem? (getD_at hi)))
        · rw [List.getD_eq_getElem?_getD, List.getElem?_eq_none (by omega)]
          cases n <;> rfl
      have e1 : lawP k (r.getD 1 .none) = lawP (n + 1) (r.getD 1 .none) := ih _ (h0 1)
      have e2 : (kids (r.getD 0 .none)).all (lawP k) = (kids (r.getD 0 .none)).all (lawP (n + 1)) := by
        have hk : ∀ x ∈ kids (r.getD 0 .none), wf n x = true := by
          have h00 := h0 0
          revert h00
          generalize r.getD 0 .none = d0
          intro h00
          cases d0 with
          | tuple ds => exact (wf_tup h00).2
          | _ => exact fun x hx => by cases hx
        revert hk
        generalize kids (r.getD 0 .none) = ks
        intro hk
        induction ks with
        | nil => rfl
        | cons x rr ihh => rw [List.all_cons, List.all_cons, ih x (hk x List.mem_cons_self), ihh fun y hy => hk y (List.mem_cons_of_mem _ hy)]
      show lawW (lawP k) s r = lawW (lawP (n + 1)) s r
      unfold lawW
      rw [e1, e2]
/-- all that is said of a bent value -/
theorem bent_facts {n : Nat} {d b : PyData} (hn : n ≤ 4) (h : ValD n d) (hb : BentD d b) : wf 11 b = true ∧ allS b = true ∧ PlQ b ∧ plR 32 b = lawP 12 b := by
  obtain ⟨h1, h2⟩ := h.facts
  have h3 := hb.lv
  have h4 := hb.bw _ (bw_le h2 (show 2 * n + 1 ≤ 9 by omega))
  obtain ⟨h5, h6⟩ := bw_wf _ _ (by decide) h4
  have h7 : vb n ≤ 283 := by
    match n, hn with
    | 0, _ => decide
    | 1, _ => decide
    | 2, _ => decide
    | 3, _ => decide
    | 4, _ => decide
  refine ⟨wf_le (by decide) h5, h6, ⟨wf_le (by decide) h5, Nat.le_trans (szV_lv 32 b) (by omega)⟩, ?_⟩
  rw [plain_same 32 b h6]
  exact lawP_fuel 11 b 32 (wf_le (by decide) h5) (by decide)
section
variable {P : Program} {w : World} {K : PySem.W.Frag} {mg : Str → Option Value} {base : Heap}
/-- t[lo:hi] of a tuple -/
theorem ed_slT {σ : L2.St} {H : Hp} {te : TE} {tl th : TO} {ds : List PyData} {lo hi : Option Int} (h : Ed K te σ H (.tuple ds)) (hl : EdO K tl σ H lo) (hh : EdO K th σ H hi) : Ed K (tSl (rSlA K) te tl th) σ H (.tuple ((ds.drop (HT.sIx ds.length 0 lo)).take (HT.sIx ds.length ds.length hi - HT.sIx ds.length 0 lo))) := fun H1 e Q q =>
  h H1 e _ fun v H2 e2 hv => hl H2 (e.trans e2) _ fun H3 e3 => hh H3 ((e.trans e2).trans e3) _ fun H4 e4 => by
    obtain ⟨a, xs, rfl, hs, hx⟩ := dp_tup hv
    have hs4 := ex_t (e3.trans e4) hs
    have hx4 := dpsMono (e3.trans e4) _ _ hx
    have hln := dps_len hx
    refine ⟨a, xs, rfl, hs4, fun hw => ?_, fun _ p hp => ?_⟩
    · refine q _ H4 ((e2.trans e3).trans e4) (.tup hs4 ?_)
      rw [← hln, hw.1, hw.2, List.drop_zero, Nat.sub_zero, hln, List.take_length]
      exact hx4
    · refine q _ _ (((e2.trans e3).trans e4).trans (Ex.new hp)) (.tup (SqT.of upd_same) (dpsMono (Ex.new hp) _ _ ?_))
      unfold cutV
      rw [hln]
      exact dps_take _ (dps_drop _ hx4)
theorem ed_catT {σ : L2.St} {H : Hp} {ta tb : TE} {ds es : List PyData} (h : Ed K ta σ H (.tuple ds)) (h2 : Ed K tb σ H (.tuple es)) (hl : ds.length + es.length ≤ 100000) : Ed K (tOp (rCatA K) ta tb) σ H (.tuple (ds ++ es)) := fun H1 e Q q =>
  h H1 e _ fun v H2 e2 hv => h2 H2 (e.trans e2) _ fun u H3 e3 hu => by
    obtain ⟨a, xs, rfl, hs, hx⟩ := dp_tup hv
    obtain ⟨b, ys, rfl, ht, hy⟩ := dp_tup hu
    have hs3 := ex_t e3 hs
    have hx3 := dpsMono e3 _ _ hx
    refine ⟨a, b, xs, ys, rfl, rfl, hs3, ht, sz_of (by rw [dps_len hx, dps_len hy]; exact hl), fun h0 => ?_, fun _ h0 => ?_, fun _ _ p hp => ?_⟩
    · refine q _ H3 (e2.trans e3) (.tup ht ?_)
      subst h0
      cases hx3
      exact hy
    · refine q _ H3 (e2.trans e3) (.tup hs3 ?_)
      subst h0
      cases hy
      rw [List.append_nil]
      exact hx3
    · exact q _ _ ((e2.trans e3).trans (Ex.new hp)) (.tup (SqT.of upd_same) (dpsMono (Ex.new hp) _ _ (dps_app hx3 hy)))
theorem sIx_nat0 {n i : Nat} (d : Nat) (h : i ≤ n) : HT.sIx n d (some (i : Int)) = i := by
  simp only [HT.sIx]
  rw [if_neg (by omega)]
  simp
  exact Nat.min_eq_left h
theorem ed_slTo {σ : L2.St} {H : Hp} {te ti : TE} {ds : List PyData} {i : Nat} (h : Ed K te σ H (.tuple ds)) (hi : Ed K ti σ H (.int (i : Int))) (hl : i ≤ ds.length) : Ed K (tSl (rSlA K) te tNoPart (tPart ti)) σ H (.tuple (ds.take i)) :=
  Ed.is (ed_slT h eo_n (eo_s hi)) (by rw [sIx_nat0 _ hl]; rfl)
theorem ed_slFrom {σ : L2.St} {H : Hp} {te ti : TE} {ds : List PyData} {i : Nat} (h : Ed K te σ H (.tuple ds)) (hi : Ed K ti σ H (.int (i : Int))) (hl : i ≤ ds.length) : Ed K (tSl (rSlA K) te (tPart ti) tNoPart) σ H (.tuple (ds.drop i)) :=
  Ed.is (ed_slT h (eo_s hi) eo_n) (by
    rw [sIx_nat0 _ hl]
    show PyData.tuple ((ds.drop i).take (ds.length - i)) = _
    rw [← List.length_drop, List.take_length])
theorem ed_slMid {σ : L2.St} {H : Hp} {te ti tj : TE} {ds : List PyData} {i : Nat} (h : Ed K te σ H (.tuple ds)) (hi : Ed K ti σ H (.int (i : Int))) (hj : Ed K tj σ H (.int ((i + 1 : Nat) : Int))) (hl : i + 1 ≤ ds.length) : Ed K (tSl (rSlA K) te (tPart ti) (tPart tj)) σ H (.tuple ((ds.drop i).take 1)) :=
  Ed.is (ed_slT h (eo_s hi) (eo_s hj)) (by
    rw [sIx_nat0 (i := i + 1) _ hl, sIx_nat0 (i := i) _ (by omega), Nat.add_sub_cancel_left])
def spBent (K : PySem.W.Frag) (n : Nat) : Sp := fun vs H Q _ => ∃ p v d, vs = [.ref p, v] ∧ Pot H p ∧ Dp K H v d ∧ wf n d = true ∧ frz d = true ∧ ∀ r b H', BentD d b → Dp K H' r b → Kp [p] H H' → Pot H' p → Q r H'
theorem sc__law_bent : FnScope ["_law_pot_here", "_law_value_here", "_law_at", "_law_way", "_law_words", "_law_numbers"] ["_law_pot_here", "_law_value_here"] (defScope s79) := ⟨rfl, rfl, rfl, by decide +kernel, rfl, by decide +kernel, by decide +kernel⟩
theorem bent_step (T : Tx K mg) (n : Nat) (hn : n ≤ 20) (D__law_bent : Df P w K mg base CX0 (n + 2) "_law_bent" ["_law_pot_here", "_law_value_here"] (less n (spBent K))) : Df P w K mg base CX0 (n + 3) "_law_bent" ["_law_pot_here", "_law_value_here"] (spBent K n) := by
  have D__law_draw := ok__law_draw (P := P) (w := w) (base := base) T
  have D__law_pick := ok__law_pick (P := P) (w := w) (base := base) T
  refine df_ok T.f__law_bent T.g__law_bent sc__law_bent (fun vs H Q E h => by
    obtain ⟨p, v, d, rfl, _⟩ := h
    rfl) (fun _ _ _ _ _ _ us hl => match us, hl with | [_, _], _ => rfl) fun cdv A outer s H vs Q E hr h => ?_
  obtain ⟨p, v, d, rfl, hp, hd, hw, hf, q⟩ := h
  have nd := sc__law_bent.nd
  refine ⟨_, (pss_cons (ps_if (PW.pt (pw_and (pt_val (pe_callB call_isi (by rfl) T.n_isinstance (by decide +kernel) (pa_cons (pv 1) (pa_cons (pty T.n_tuple b_tuple) pa_nil)))) (pw_and1 (pt_cmpR (op_neD hr.units) (pv 1) (pe_tup pa_nil) (nomark _))))) (pss_cons (ps_par (i := 2) (j := 3) (by rfl) nd rfl rfl (by decide) rfl rfl (pa_cons (pe_df D__law_draw hr (pa_cons (pv 0) (pa_cons (pe_callB c_len (by rfl) T.n_len (by decide +kernel) (pa_cons (pv 1) pa_nil)) pa_nil))) (pa_cons (pe_df D__law_draw hr (pa_cons (pv 0) (pa_cons pe_int pa_nil))) pa_nil)) (by rfl))
      (pss_cons (ps_if (pt_cmpR (op_eqD hr.units) (pv 3) pe_int (nomark _)) (pss_one (ps_ret (pe_op op_catA (pe_slice sl_tupA (pv 1) po_none (po_some (pv 2))) (pe_slice sl_tupA (pv 1) (po_some (pe_op op_add (pv 2) pe_int)) po_none)))) pss_nil)
      (pss_cons (ps_if (pt_cmpR (op_eqD hr.units) (pv 3) pe_int (nomark _)) (pss_one (ps_ret (pe_op op_catA (pv 1) (pe_slice sl_tupA (pv 1) (po_some (pv 2)) (po_some (pe_op op_add (pv 2) pe_int)))))) pss_nil)
      (pss_cons (ps_if (pt_cmpR (op_eqD hr.units) (pv 3) pe_int (nomark _)) (pss_one (ps_ret (pe_callTy call_list_of (by rfl) T.n_list b_list (pa_cons (pv 1) pa_nil)))) pss_nil)
      (pss_one (ps_ret (pe_op op_catA (pe_op op_catA (pe_slice sl_tupA (pv 1) po_none (po_some (pv 2))) (pe_tup (pa_cons (pe_df D__law_bent hr (pa_cons (pv 0) (pa_cons (pe_ix ix_tup (pv 1) (pv 2) (fun _ _ => rfl)) pa_nil))) pa_nil))) (pe_slice sl_tupA (pv 1) (po_some (pe_op op_add (pv 2) pe_int)) po_none)))))))) pss_nil)
      (pss_cons (ps_set (i := 4) nd rfl (Or.inl rfl) (pe_lst (pa_cons pe_str (pa_cons pe_str (pa_cons pe_str (pa_cons pe_str (pa_cons pe_str (pa_cons pe_str (pa_cons pe_str (pa_cons pe_str (pa_cons pe_str (pa_cons pe_str (pa_cons pe_str pa_nil)))))))))))))
      (pss_cons (ps_set (i := 5) nd rfl (Or.inl rfl) (pe_lst (pa_cons pe_int (pa_cons pe_int (pa_cons (pe_un un_neg pe_int) (pa_cons pe_int (pa_cons (pe_un un_neg pe_int) (pa_cons (pe_un un_neg pe_int) (pa_cons pe_bl (pa_cons pe_bl (pa_cons pe_non pa_nil)))))))))))
      (pss_one (ps_ret (pe_df D__law_pick hr (pa_cons (pv 0) (pa_cons (pe_op op_cat (pe_op op_cat (pv 4) (pv 5)) (pe_lst (pa_cons (pe_tup (pa_cons pe_str pa_nil)) (pa_cons (pe_tup pa_nil) (pa_cons (pe_lst pa_nil) pa_nil))))) pa_nil)))))))), ?_⟩
  have sh := wf_shaped (n := n) hw (by omega)
  refine q_when (b := isTupD d && !PyData.eqv d (.tuple [])) (et_and (et_val (ed_isi (ed_var rfl hd) (kit_tuple _))) fun _ => et_cmp (ed_ne (ed_var rfl hd) (ed_tup ea_nilD) sh (by decide +kernel))) (fun hb H1 e1 => ?_) (fun hb H1 e1 => ?_)
  · obtain ⟨ds, rfl⟩ : ∃ ds, d = .tuple ds := by
      cases d with
      | tuple ds => exact ⟨ds, rfl⟩
      | _ => cases hb
    have hds : ds ≠ [] := by
      intro z
      rw [eqv_tup0, z] at hb
      cases hb
    have hd1 := dpMono e1 _ _ hd
    have hp1 := hp.ex e1
    obtain ⟨hl1000, hwx⟩ := wf_tup hw
    have hlen : 1 ≤ ds.length := by
      cases ds with
      | nil => exact absurd rfl hds
      | cons x r => simp
    refine q_parX (t_cons ?_)
    refine (ep_draw (K := K) (n := (ds.length : Int)) hp1 (ev_var rfl) (ev_int (ed_len (ed_var rfl hd1) rfl (by omega))) (by omega) (by omega)) _ fun r0 d0 H2 hd0 hr0 k2 hp2 => t_cons ?_
    obtain ⟨i, rfl, hi⟩ := hd0
    have hr0' := dp_int hr0
    subst hr0'
    have hil : i < ds.length := by omega
    refine (ep_draw (K := K) (n := 7) hp2 (ev_var rfl) ev_c) _ fun r1 d1 H3 hd1' hr1 k3 hp3 => ?_
    obtain ⟨j, rfl, hj⟩ := hd1'
    have hr1' := dp_int hr1
    subst hr1'
    refine ⟨_, _, rfl, ?_⟩
    have K3 := ((Kp.ex e1).trans k2).trans k3
    have hd3 := dpKp hp K3 _ _ (npt_frz _ hf) hd
    have hi1 : ∀ {H' : Hp}, Ed K (tOp (rI0 fun i j => .int (i + j)) (tVar 2) (tC (.int 1))) [some (.ref p), some v, some (.int (i : Nat)), some (.int (j : Nat)), none, none] H' (.int ((i + 1 : Nat) : Int)) := fun {H'} => Ed.is (ed_opI (ed_var rfl (.int (i : Nat))) ed_int) rfl
    refine q_when (et_ieq (K := K) (c := 0) (ed_var rfl (.int _))) (fun _ H4 e4 => ?_) (fun _ H4 e4 => ?_)
    · have hd4 := dpMono e4 _ _ hd3
      exact s_retEP (ep_ed (hp3.ex e4) (ed_catT (ed_slTo (ed_var rfl hd4) (ed_var rfl (.int _)) (by omega)) (ed_slFrom (ed_var rfl hd4) hi1 (by omega)) (by simp only [List.length_take, List.length_drop]; omega))) fun r b H5 hb5 hr5 k5 hp5 => by
        subst hb5
        exact q r _ H5 (.cut ds i) hr5 ((K3.trans (Kp.ex e4)).trans k5) hp5
    have hp4 := hp3.ex e4
    have K4 := K3.trans (Kp.ex e4)
    have hd4 := dpMono e4 _ _ hd3
    refine q_when (et_ieq (K := K) (c := 1) (ed_var rfl (.int _))) (fun _ H5 e5 => ?_) (fun _ H5 e5 => ?_)
    · have hd5 := dpMono e5 _ _ hd4
      exact s_retEP (ep_ed (hp4.ex e5) (ed_catT (ed_var rfl hd5) (ed_slMid (ed_var rfl hd5) (ed_var rfl (.int _)) hi1 (by omega)) (by simp only [List.length_take, List.length_drop]; omega))) fun r b H6 hb6 hr6 k6 hp6 => by
        subst hb6
        exact q r _ H6 (.dbl ds i) hr6 ((K4.trans (Kp.ex e5)).trans k6) hp6
    have hp5 := hp4.ex e5
    have K5 := K4.trans (Kp.ex e5)
    have hd5 := dpMono e5 _ _ hd4
    refine q_when (et_ieq (K := K) (c := 2) (ed_var rfl (.int _))) (fun _ H6 e6 => ?_) (fun _ H6 e6 => ?_)
    · have hd6 := dpMono e6 _ _ hd5
      exact s_retEP (ep_ed (hp5.ex e6) (En.ed (en_listT (fun p ys H Q hs k => ⟨p, ys, rfl, .inr hs, k⟩) (ed_var rfl hd6)))) fun r b H7 hb7 hr7 k7 hp7 => by
        subst hb7
        exact q r _ H7 (.lst ds) hr7 ((K5.trans (Kp.ex e6)).trans k7) hp7
    have hp6 := hp5.ex e6
    have K6 := K5.trans (Kp.ex e6)
    have hd6 := dpMono e6 _ _ hd5
    obtain ⟨di, hdi⟩ : ∃ di, ds[i]? = some di := ⟨_, List.getElem?_eq_getElem hil⟩
    have hfd : frzAll ds = true := by simpa [frz] using hf
    cases n with
    | zero => cases hw
    | succ m =>
    have hwi := (wf_tupS hw).2 di (List.mem_of_getElem? hdi)
    refine s_retX (t_op (t_op ?_))
    refine ed_slTo (K := K) (ed_var rfl hd6) (ed_var rfl (.int _)) (by omega) H6 (Ex.refl _) _ fun v7 H7 e7 hv7 => ?_
    refine t_tup (t_cons (t_call (t_cons ⟨.ref p, rfl, t_cons ?_⟩)))
    refine ed_ixT (K := K) (n := i) (ed_var rfl (dpMono e7 _ _ hd6)) (ed_var rfl (.int _)) hdi H7 (Ex.refl _) _ fun v8 H8 e8 hv8 => ?_
    have hp8 := (hp6.ex e7).ex e8
    refine ⟨m, rfl, p, v8, di, rfl, hp8, hv8, hwi, frz_at hfd hdi, fun r b H9 hb9 hr9 k9 hp9 => ⟨sz_of (by simp), fun y hy => ?_⟩⟩
    have eY := Ex.new (o := .tup [r]) hy
    have hv9 := dpMono eY _ _ (dpKp hp8 k9 _ _ (npt_frz _ (by simpa [frz] using frz_take i hfd)) (dpMono e8 _ _ hv7))
    have hd9 := dpMono eY _ _ (dpKp hp8 k9 _ _ (npt_frz _ hf) (dpMono (e7.trans e8) _ _ hd6))
    have hb10 := dpMono eY _ _ hr9
    have K9 := ((K6.trans (Kp.ex (e7.trans e8))).trans k9).trans (Kp.ex eY)
    have hp10 := hp9.ex eY
    have hty : Dp K (upd H9 y (.tup [r])) (.ref y) (.tuple [b]) := .tup (SqT.of upd_same) (dps_one hb10)
    revert hv9 hd9 hty K9 hp10
    generalize upd H9 y (.tup [r]) = H10
    intro hv9 hd9 K9 hp10 hty
    -- the rest is of plain data
    have cat1 : ∀ Q' : VK, (∀ r' H', Ex H10 H' → Dp K H' r' (.tuple (ds.take i ++ [b])) → Q' r' H') → rCatA K v7 (.ref y) H10 Q' := fun Q' k' => by
      obtain ⟨a, xs, rfl, hs, hx⟩ := dp_tup hv9
      obtain ⟨c, ys, hc, ht, hy⟩ := dp_tup hty
      cases hc
      refine ⟨a, y, xs, ys, rfl, rfl, hs, ht, sz_of (by rw [dps_len hx, dps_len hy]; simp only [List.length_take, List.length_singleton]; omega), fun h0 => ?_, fun _ h0 => ?_, fun _ _ p hp => ?_⟩
      · subst h0
        refine k' _ _ (Ex.refl _) (.tup ht ?_)
        have : ds.take i = [] := by
          have := dps_len hx
          exact List.eq_nil_of_length_eq_zero this.symm
        rw [this]
        exact hy
      · subst h0
        cases hy
      · exact k' _ _ (Ex.new hp) (.tup (SqT.of upd_same) (dpsMono (Ex.new hp) _ _ (dps_app hx hy)))
    refine cat1 _ fun r' H11 e11 hr11 => ?_
    refine ed_slFrom (K := K) (ed_var rfl (dpMono e11 _ _ hd9)) (Ed.is (ed_opI (f := (· + ·)) (ed_var rfl (.int (i : Nat))) ed_int) rfl) (show i + 1 ≤ ds.length by omega) H11 (Ex.refl _) _ fun v12 H12 e12 hv12 => ?_
    obtain ⟨a, xs, rfl, hs, hx⟩ := dp_tup (dpMono e12 _ _ hr11)
    obtain ⟨c, ys, rfl, ht, hy2⟩ := dp_tup hv12
    have fin : ∀ r'' H', Ex H12 H' → Dp K H' r'' (.tuple ((ds.take i ++ [b]) ++ ds.drop (i + 1))) → Q r'' H' := fun r'' H' e' h' => q r'' _ H' (.sub ds i di b hdi hb9) h' (K9.trans (Kp.ex ((e11.trans e12).trans e'))) (hp10.ex ((e11.trans e12).trans e'))
    refine ⟨a, c, xs, ys, rfl, rfl, hs, ht, sz_of (by rw [dps_len hx, dps_len hy2]; simp only [List.length_append, List.length_take, List.length_singleton, List.length_drop]; omega), fun h0 => ?_, fun _ h0 => ?_, fun _ _ p hp => ?_⟩
    · subst h0
      have := dps_len hx
      simp at this
    · subst h0
      refine fin _ _ (Ex.refl _) (.tup hs ?_)
      have : ds.drop (i + 1) = [] := List.eq_nil_of_length_eq_zero (dps_len hy2).symm
      rw [this, List.append_nil]
      exact hx
    · exact fin _ _ (Ex.new hp) (.tup (SqT.of upd_same) (dpsMono (Ex.new hp) _ _ (dps_app hx hy2)))
  · have hd1 := dpMono e1 _ _ hd
    have hp1 := hp.ex e1
    refine qn_asg (K := K) (d := .list ((["int", "bool", "con", "tuple", "cell", "unit", "M.A", "m", "M.m", "M.A.B", ""] : List Str).map PyData.str)) (en_lst (ea_consD ed_str (ea_consD ed_str (ea_consD ed_str (ea_consD ed_str (ea_consD ed_str (ea_consD ed_str (ea_consD ed_str (ea_consD ed_str (ea_consD ed_str (ea_consD ed_str (ea_consD ed_str ea_nilD))))))))))) (by decide)) fun v1 H2 e2 hv1 fv1 => ?_
    refine qn_asg (K := K) (d := .list [.int 0, .int 1, .int (-1), .int 2147483648, .int (-2147483648), .int (-2147483649), .bool true, .bool false, .none]) (en_lst (ea_consD ed_int (ea_consD ed_int (ea_consD (ed_neg ed_int) (ea_consD ed_int (ea_consD (ed_neg ed_int) (ea_consD (ed_neg ed_int) (ea_consD ed_bl (ea_consD ed_bl (ea_consD ed_non ea_nilD))))))))) (by decide)) fun v2 H3 e3 hv2 fv2 => ?_
    refine s_retEP (ep_pick ((hp1.ex e2).ex e3) (ev_var rfl) (en_cat (En.v (en_cat (env_var rfl (hv1.mono e3)) (env_var rfl hv2) (by decide))) (En.v (en_lst (ds := [.tuple [.str "unit"], .tuple [], .list []]) (ea_consD (ed_tup (ea_consD ed_str ea_nilD)) (ea_consD (ed_tup ea_nilD) (ea_consD (ed_lst ea_nilD) ea_nilD))))) (by decide)) (by simp) (by decide) rfl) fun r b H4 hb4 hr4 k4 hp4 => ?_
    exact q r b H4 (.pick _ _ hb4) hr4 ((Kp.ex ((e1.trans e2).trans e3)).trans k4) hp4
theorem ok__law_bent (T : Tx K mg) : ∀ n : Nat, n ≤ 20 → Df P w K mg base CX0 (n + 3) "_law_bent" ["_law_pot_here", "_law_value_here"] (spBent K n)
  | 0, h => bent_step T 0 h (by
      obtain ⟨fd, F⟩ := T.f__law_bent
      exact ⟨fd, F.ok sc__law_bent (fun _ _ _ _ h => by obtain ⟨m, h, _⟩ := h; omega) fun cdv A outer s H vs Q E hr h => by obtain ⟨m, h, _⟩ := h; omega, F.bindsN (fun _ _ _ _ _ _ us hl => match us, hl with | [_, _], _ => rfl), F.kp, T.g__law_bent⟩)
  | n + 1, h => bent_step T (n + 1) h ((ok__law_bent T n (by omega)).imp fun vs H Q E hh => by
      obtain ⟨m, hm, hh⟩ := hh
      have : m = n := by omega
      subst this
      exact hh)
end
end K25

end

section
set_option maxHeartbeats 4000000
namespace K25
open PySem PySem.Spec PyProof.Rows L2 Evl
/-! ### repr of data -/
mutual
def ism : PyData → Bool
  | .int i => decide (i.natAbs < 10 ^ 12)
  | .list ds => ismAll ds
  | .tuple ds => ismAll ds
  | _ => true
def ismAll : List PyData → Bool
  | [] => true
  | d :: ds => ism d && ismAll ds
end
theorem ismAll_mem : ∀ {ds : List PyData}, ismAll ds = true → ∀ d ∈ ds, ism d = true
  | [], _, d, h => by cases h
  | x :: r, f, d, h => by
    have f2 : ism x = true ∧ ismAll r = true := by simpa [ismAll] using f
    rcases List.mem_cons.mp h with rfl | h
    · exact f2.1
    · exact ismAll_mem f2.2 d h
theorem ismAll_of {ds : List PyData} (h : ∀ d ∈ ds, ism d = true) : ismAll ds = true := by
  induction ds with
  | nil => rfl
  | cons x r ih =>
    have h1 := h x List.mem_cons_self
    have h2 := ih fun d hd => h d (List.mem_cons_of_mem _ hd)
    simp [ismAll, h1, h2]
theorem log_small {i : Int} (h : i.natAbs < 10 ^ 12) : i.natAbs.log2 < 1920 := by
  have h2 := Nat.log2_lt (n := i.natAbs) (k := 40)
  by_cases h0 : i.natAbs = 0
  · rw [h0]
    decide
  · have := (h2 h0).mpr (Nat.lt_trans h (by decide))
    omega
mutual
theorem ism_show : ∀ d : PyData, d.canLay0 = true → ism d = true → d.showable = true ∧ d.intsShort 13 = true
  | .none, _, _ => ⟨by simp [PyData.showable], by simp [PyData.intsShort]⟩
  | .bool _, _, _ => ⟨by simp [PyData.showable], by simp [PyData.intsShort]⟩
  | .str _, _, _ => ⟨by simp [PyData.showable], by simp [PyData.intsShort]⟩
  | .int i, _, h => by
    have h2 : i.natAbs < 10 ^ 12 := by simpa [ism] using h
    refine ⟨?_, ?_⟩
    · simp only [PyData.showable]
      exact decide_eq_true (log_small h2)
    · simp only [PyData.intsShort]
      exact decide_eq_true (PyData.shown_int_le h2)
  | .list ds, hc, h => by
    have r := ismAll_show ds (by simpa [PyData.canLay0] using hc) (by simpa [ism] using h)
    exact ⟨by simpa [PyData.showable] using r.1, by simpa [PyData.intsShort] using r.2⟩
  | .tuple ds, hc, h => by
    have r := ismAll_show ds (by simpa [PyData.canLay0] using hc) (by simpa [ism] using h)
    exact ⟨by simpa [PyData.showable] using r.1, by simpa [PyData.intsShort] using r.2⟩
  | .dict _, hc, _ => by simp [PyData.canLay0] at hc
theorem ismAll_show : ∀ ds : List PyData, PyData.canLayAll0 ds = true → ismAll ds = true → PyData.showableAll ds = true ∧ PyData.intsShortAll 13 ds = true
  | [], _, _ => ⟨rfl, rfl⟩
  | d :: ds, hc, h => by
    have hc2 : d.canLay0 = true ∧ PyData.canLayAll0 ds = true := by simpa [PyData.canLayAll0] using hc
    have h2 : ism d = true ∧ ismAll ds = true := by simpa [ismAll] using h
    have a := ism_show d hc2.1 h2.1
    have b := ismAll_show ds hc2.2 h2.2
    exact ⟨by simp [PyData.showableAll, a.1, b.1], by simp [PyData.intsShortAll, a.2, b.2]⟩
end
/-- data whose repr is told -/
def Rpr (d : PyData) : Prop := wf 40 d = true ∧ ism d = true ∧ d.weight ≤ 1048576
theorem Rpr.fits {d : PyData} (h : Rpr d) : d.showable = true ∧ d.hasDict = false ∧ d.depth ≤ 40 ∧ d.shown.length ≤ sizeLine := by
  obtain ⟨h1, h2, h3⟩ := h
  obtain ⟨l1, l2⟩ := wf_lay _ _ h1
  obtain ⟨s1, s2⟩ := ism_show d l1 h2
  refine ⟨s1, PyData.hasDict_of_canLay d l1, l2, PyData.shown_fits_of_layable0 (B := 13) (by decide) (by decide) ?_ s2⟩
  unfold PyData.layable0
  rw [l1, Bool.true_and, Bool.and_eq_true]
  exact ⟨decide_eq_true (by omega), decide_eq_true h3⟩
def rRepr (K : PySem.W.Frag) : List V → Hp → VK → Prop := fun xs H Q => ∃ v d, xs = [v] ∧ Dp K H v d ∧ Rpr d ∧ Q (.str d.shown) H
theorem c_repr {X : Cx} (hg : X.A.guards = some []) (hu : X.A.units + 100 < cLine) : CallR X (.builtin "repr") (rRepr X.K) := by
  intro pins s σ H xs us Q I r h
  obtain ⟨v, d, rfl, hd, hr, q⟩ := h
  obtain ⟨u, rfl, ru⟩ := vals1 r
  obtain ⟨f1, f2, f3, f4⟩ := hr.fits
  obtain ⟨as, rd⟩ := Dp.reads I d v u hd ru
  have viaRef : ∀ a, u = .ref a → wpAny (model X.prog X.w) X.A (call (.builtin "repr") [u]) (L2.EP X pins σ Q) X.xe s := fun a e => by
    subst e
    exact repr_of_reads' rd f1 (PyData.noDict_hsm f2) hg (by omega) (fun _ _ e => e) (fun h' z tk hk => ⟨.str d.shown, H, I.kept (t' := tk) hk, ⟨_, rfl⟩, q⟩) f4
  cases hd with
  | non =>
    cases ru
    exact PySem.P.repr_of_none ⟨.str "None", H, I.tok _, ⟨_, rfl⟩, q⟩
  | bl b =>
    cases ru
    exact PySem.P.repr_of_bool ⟨.str (if b then "True" else "False"), H, I.tok _, ⟨_, rfl⟩, by simpa [PyData.shown] using q⟩
  | int i =>
    obtain ⟨t, rfl⟩ := ru
    exact PySem.P.repr_of_int (log_small (by simpa [ism] using hr.2.1)) ⟨.str (toString i), H, I.tok _, ⟨_, rfl⟩, q⟩
  | str x =>
    obtain ⟨t, rfl⟩ := ru
    exact PySem.P.repr_of_str ⟨.str (reprText x), H, I.tok _, ⟨_, rfl⟩, q⟩ f4
  | lst hs ha =>
    exact viaRef _ ru
  | tup hs ha =>
    exact viaRef _ ru
end K25

end

section
set_option maxHeartbeats 4000000
namespace K25
open PySem PySem.Spec PyProof.Rows L2 Evl
/-! ### defs that repr is called in: with the guards told -/
/-- the code object of the def x stands at c -/
def CodeAt (K : PySem.W.Frag) (x : Str) (c : Addr) : Prop := ∀ o fd, K.lookup (He.ga K x) = some o → o.data = .func fd → fd.code = .ref c
def DfG (P : Program) (w : World) (K : PySem.W.Frag) (mg : Str → Option Value) (base : Heap) (k : Nat) (x : Str) (ps : List Str) (sp : Sp) : Prop :=
  ∃ fd, (∀ vs H Q E, sp vs H Q E → vs.length = ps.length) ∧ (∀ (A : Around) (outer : List Env) (s : Shared) (H : Hp) (us : List Value) (vs : List V) (Q : VK), A.guards = some [] → Room k A → Env0 P w K mg base A outer s H → BindsTo s fd ⟨us, []⟩ (ps.zip us) → Vals vs us → sp vs H Q E0 →
    codeAny (model P w) A (.call (.ref (He.ga K x)) ⟨us, []⟩) (CR CX0 outer P w H s Q E0) s) ∧ Binds K fd ps [] ∧ PySem.W.keepIn K (.ref (He.ga K x)) = true ∧ mg x = some (.ref (He.ga K x))
section
variable {P : Program} {w : World} {K : PySem.W.Frag} {mg : Str → Option Value} {base : Heap}
theorem dfG_ok {x : Str} {st : Stmt} {N ps : List Str} {k : Nat} {sp : Sp} (hF : ∃ fd, FnP K x st (He.ga K x) fd) (hm : mg x = some (.ref (He.ga K x))) (S : FnScope N ps (defScope st)) (len : ∀ vs H Q E, sp vs H Q E → vs.length = ps.length)
    (hb : ∀ (kV doc pm : Value) (an : Option Addr) (cdv ct : Value) (us : List Value), us.length = ps.length → bindArgs (PySem.W.fnOf x x (defArgs st) (defBody st) (defScope st) .none kV doc pm an cdv ct) ⟨us, []⟩ = pure (ps.zip us))
    (hbody : ∀ (cdv : Value) (A : Around) (outer : List Env) (s : Shared) (H : Hp) (vs : List V) (Q : VK), (∀ c, CodeAt K x c → cdv = .ref c) → A.guards = some [] → Room k (A.deeper (envOfC x (defScope st) s.heap.objs.size (He.ga K x) cdv)) → sp vs H Q E0 →
      ∃ t, PSs (cxOf CX0 P w K mg base N x (defScope st) (He.ga K x) cdv A outer s H E0).nox (defBody st) t ∧ t { nx := fun _ H' => Q .non H', rt := Q } (start N vs) H) : DfG P w K mg base (k + 1) x ps sp := by
  obtain ⟨fd, F⟩ := hF
  refine ⟨fd, len, ?_, F.bindsN hb, F.kp, hm⟩
  obtain ⟨oc, od, dV, kV, doc, pm, an, cdv, ct, osl, rfl, lk, hcd, _, _⟩ := F.ex
  intro A outer s H us vs Q hgd hr e0 hbt rv hsp
  refine LamX.run_ofS lk hcd S hr e0 hbt rv (len _ _ _ _ hsp) fun hr' => ?_
  obtain ⟨t, h1, h2⟩ := hbody cdv A outer s H vs Q (fun c h => h _ _ lk rfl) hgd hr' hsp
  exact ⟨t, h1.nox, h2⟩
theorem DfG.up {j k : Nat} {x : Str} {ps : List Str} {sp : Sp} (D : DfG P w K mg base j x ps sp) (h : j ≤ k) : DfG P w K mg base k x ps sp := by
  obtain ⟨fd, l, F, r⟩ := D
  exact ⟨fd, l, fun A outer s H us vs Q hgd hr => F A outer s H us vs Q hgd (hr.mono h), r⟩
end
theorem pe_dfG {X : Cx} {k j : Nat} {x : Str} {ps : List Str} {sp : Sp} {e : Expr} {es : List Expr} {t : TA} {p pos : Pos} (D : DfG X.prog X.w X.K X.mg X.base k x ps sp) (hgd : X.A.guards = some []) (hr : Room j X.A) (ha : PA X (e :: es) t) (hk : k ≤ j := by first | decide | omega) (hg : Gl X x := by rfl)
    (hdb : (x == ("__debug__" : Str)) = false := by decide) (he : starEach (e :: es) X.env = (false, eval e X.env) :: starEach es X.env := by rfl) (hpl : (backTo pos (starEach es X.env)).any (·.1) = false := by rfl) :
    PE X (.Call (.Name x p) (e :: es) [] pos) (tCall sp [] E0 t) := by
  obtain ⟨fd, len, F, b, kp, m⟩ := D
  refine ⟨fun pins s σ H Q I h => wpAny_Call_Name_kw (ld_glob I hg m ?_ hdb)⟩
  refine PySem.W.callWith_K (h₀ := X.base) I.ok.mod.kin kp (thn (ha.run pos pins s σ H _ I h) fun us s1 ⟨vs, H1, I1, r, q⟩ => ⟨I1.kIn, ?_⟩) he hpl
  have q : sp (vs ++ []) H1 Q E0 := q
  rw [List.append_nil] at q
  have hl : us.length = ps.length := by rw [← r.length]; exact len _ _ _ _ q
  have bt := b s1 us I1.kIn (by rw [List.append_nil]; exact hl)
  rw [List.append_nil] at bt
  refine wpAny_call (codeAny_mono (F X.A X.stack s1 H1 us vs Q hgd (hr.mono hk) I1.env0 bt r q) fun res s2 hq => ?_)
  match res, hq with
  | .error e, hq => exact False.elim hq
  | .ok (.ret u), hq => exact I1.after hq
  | .ok .next, hq => exact False.elim hq
  | .ok .brk, hq => exact False.elim hq
  | .ok .cont, hq => exact False.elim hq
end K25

end

section
set_option maxHeartbeats 4000000
namespace K25
open PySem PySem.Spec PyProof.Rows L2 Evl
/-! ### several clauses 'except C as n' -/
abbrev Suite := Addr → Value → Option Addr → TS
def offSlot (i : Nat) (D : Ends) : Ends := { nx := fun z y => D.nx (z.set i none) y, rt := D.rt, bk := fun z y => D.bk (z.set i none) y, ct := fun z y => D.ct (z.set i none) y }
def wCls (K : PySem.W.Frag) (i : Nat) (D : Ends) (last : WX) : List (Value × Suite) → WX
  | [] => last
  | q :: qs => fun C dd z y => ∃ yes, PySem.W.exmOne K C q.1 = some yes ∧ (yes = true → i < z.length → ∀ e, y e = none → q.2 e C dd (offSlot i D) (z.set i (some (.ref e))) y) ∧ (yes = false → wCls K i D last qs C dd z y)
inductive Cls (X : Cx) (n : Str) : List ExceptHandler → List (Value × Suite) → Prop
  | stop : Cls X n [] []
  | more {nm : Str} {C : Value} {ts : Suite} {b0 : Stmt} {bs : List Stmt} {q1 q2 : Pos} {hr : List ExceptHandler} {qs : List (Value × Suite)} (kn : Names X nm C)
      (su : ∀ e ob D dd pins, Zc D dd ob → (∃ fs, ob.data = .fields fs) → PSs (X.suite e ((e, ob) :: pins)) (b0 :: bs) (ts e D dd)) (rest : Cls X n hr qs) : Cls X n (.ExceptHandler (some (.Name nm q1)) (some n) (b0 :: bs) q2 :: hr) ((C, ts) :: qs)
/-- no frame of the stack is the object that holds the exception -/
theorem no_frame {hp B : Heap} {env : Env} {out : List Env} {e : Addr} {ob : Obj} {fs : Array Value} (ff : hp.FunFrames B (env :: out)) (g : hp.get? e = some ob) (gd : ob.data = .fields fs) : e ∉ frs (env :: out) := fun hm => by
  obtain ⟨_, ob2, g2, no⟩ := ff.mem hm
  rw [g] at g2
  cases g2
  exact no _ gd
section
variable {X : Cx} {n : Str} {i : Nat} {body : List Stmt} {h0 : ExceptHandler} {hr : List ExceptHandler} {qs : List (Value × Suite)} {pos : Pos} {tb : WX → TS} {last : WX}
/-- the name goes, whichever way the suite ended -/
theorem suite_end {pins : List (Addr × Obj)} {e : Addr} {ob : Obj} {q2 : Pos} {D : Ends} {f : Flow} {s6 : Shared} (ok : X.Ok) (hN : X.N.Nodup) (hi : X.N[i]? = some n) (hl : X.env.kindOf n = some .local)
    (hsp : SP (X.suite e ((e, ob) :: (X.pn ++ pins))) [] (offSlot i D) f s6) : wpAny (model X.prog X.w) X.A (do bindName X.env n .none; unbindBehindTheSuite X.env n q2) (fun _ s7 => SP X pins D f s7) X.xe s6 := by
  cases f with
  | next =>
    obtain ⟨z, y, J, w⟩ := hsp
    exact gone_ok (J.unsuite ok) hN hi hl fun s7 J7 => ⟨_, _, J7, w⟩
  | brk =>
    obtain ⟨z, y, J, w⟩ := hsp
    exact gone_ok (J.unsuite ok) hN hi hl fun s7 J7 => ⟨_, _, J7, w⟩
  | cont =>
    obtain ⟨z, y, J, w⟩ := hsp
    exact gone_ok (J.unsuite ok) hN hi hl fun s7 J7 => ⟨_, _, J7, w⟩
  | ret u =>
    obtain ⟨v, z, y, J, rv, w⟩ := hsp
    exact gone_ok (J.unsuite ok) hN hi hl fun s7 J7 => ⟨_, _, _, J7, rv, w⟩
theorem body_end {pins : List (Addr × Obj)} {xe : Value → Shared → Prop} {D : Ends} {f : Flow} {s1 : Shared} (ok : X.Ok) (hsp : SP (X.tr (X.pn ++ pins) xe) [] D f s1) : SP X pins D f s1 := by
  cases f with
  | next =>
    obtain ⟨z, y, J, w⟩ := hsp
    exact ⟨z, y, J.ofTry ok, w⟩
  | brk =>
    obtain ⟨z, y, J, w⟩ := hsp
    exact ⟨z, y, J.ofTry ok, w⟩
  | cont =>
    obtain ⟨z, y, J, w⟩ := hsp
    exact ⟨z, y, J.ofTry ok, w⟩
  | ret u =>
    obtain ⟨v, z, y, J, rv, w⟩ := hsp
    exact ⟨v, z, y, J.ofTry ok, rv, w⟩
theorem ps_cls (hs : X.stack = X.env :: X.outer) (hf : X.env.frame = some X.env.locals) (hN : X.N.Nodup) (hi : X.N[i]? = some n) (hl : X.env.kindOf n = some .local) (tk : Takes X last)
    (hb : ∀ W pins xe, Takes (X.tr pins xe) W → PassesOwn (model X.prog X.w) X.A X.env xe → PSs (X.tr pins xe) body (tb W)) (hh : Cls X n (h0 :: hr) qs) :
    PS X (.Try body (h0 :: hr) [] [] pos) (fun D z y => tb (wCls X.K i D last qs) D z y) := by
  refine ⟨fun pins s z y D I h => ?_⟩
  have ok := I.ok
  have hfs : X.A.frames = some (X.env :: X.outer) := ok.frames.trans (by rw [hs])
  refine wpAny_Try_except (wpAny_mono ((hb (wCls X.K i D last qs) (X.pn ++ pins) (fun x s1 => wpAny (model X.prog X.w) X.A (noteFrame x X.env) (fun _ s2 => wpAny (model X.prog X.w) X.A (setFlight x none) (fun _ s3 =>
    wpAny (model X.prog X.w) X.A (handleBy x X.env (h0 :: hr)) (SP X pins D) X.xe s3) X.xe s2) X.xe s1) (fun u s2 xx => ?_) PassesOwn.looking).run [] s z y D (I.toTry _) h) (fun f s1 hsp => ?_) (fun _ _ x => x))
  · obtain ⟨e, B, sI, pins2, z1, y1, C, dd, rfl, J1, nb, up, sky, ne, os, ag, w⟩ := xx
    have J : Inv X pins z1 y1 sI := J1.ofTry ok
    rw [hs] at sky
    show wpAny _ X.A (noteFrame (.ref e) X.env) _ _ _
    refine Sky.land Zc.steady hfs hf sky fun hp fl up2 => ?_
    have JL : Inv X pins z1 y1 { s2 with heap := hp } := J.landed nb fl.1 (up.trans up2) os ag
    obtain ⟨ob, fs, g1, g2, g3⟩ := fl.there
    have nfr := no_frame fl.2.2.1 g1 g3
    have nL : e ≠ X.env.locals := fun q => nfr (List.mem_filterMap.mpr ⟨_, List.mem_cons_self, hf.trans (by rw [q])⟩)
    have nF : e ∉ X.fs := fun q => by
      obtain ⟨v, hv, hw⟩ := List.mem_filterMap.mp q
      exact nfr (List.mem_filterMap.mpr ⟨v, List.mem_cons_of_mem _ hv, hw⟩)
    have JS := JL.suite g1 g3 ne nL nF
    have all : ∀ {hs2 : List ExceptHandler} {qs2 : List (Value × Suite)}, Cls X n hs2 qs2 → wCls X.K i D last qs2 C dd z1 y1 → wpAny (model X.prog X.w) X.A (handleBy (.ref e) X.env hs2) (SP X pins D) X.xe { s2 with heap := hp } := by
      intro hs2 qs2 hk
      induction hk with
      | stop =>
        intro w
        refine wpAny_handleBy_nil ?_
        obtain ⟨k1, k2, k3, ob2, fs2, T, oT, ts2, b1, b2, b3, b4, b5⟩ := id fl
        unfold PySem.passOn
        refine wpAny_bind (wpAny_field b1 b3 b4 ?_)
        rw [if_neg (by simp : ¬ ((Value.ref T == Value.none) = true))]
        have thr : wpAny (model X.prog X.w) X.A (setFlight (.ref e) X.env.frame) (fun _ s9 => wpAny (model X.prog X.w) X.A (throw (.ref e) : Sem Flow) (SP X pins D) X.xe s9) X.xe { s2 with heap := hp } := by
          rw [hf]
          exact HandSPX.setFlight_upZ fl fun h9 hh9 up9 => wpAny_throw (tk _ _ ⟨e, B, sI, pins, z1, y1, C, dd, rfl, J, nb, (up.trans up2).trans up9, .inr (.inr (by rw [hs]; exact hh9)), ne, os, ag, w⟩)
        first
          | exact wpAny_bind (wpAny_pure (wpAny_bind thr))
          | exact wpAny_bind thr
      | @more nm C2 ts b0 bs q1 q2 hr2 qs3 kn su rest ih =>
        intro w
        obtain ⟨yes, x1, x2, x3⟩ := w
        refine wpAny_handleBy_cons (codeAny_handlers_test ?_) (fun q => nomatch q)
        have lk : PySem.W.Looks (model X.prog X.w) hp (typeOf (.ref e)) C := fun _ _ _ _ k q => wpAny_typeOf_ref (k _ _ g1) (by rw [g2.1]; exact q)
        have mt := PySem.W.exm_one (M := model X.prog X.w) JL.kIn lk x1
        have cl : ∀ {Q E : Value → Shared → Prop}, Q C2 { s2 with heap := hp } → wpAny (model X.prog X.w) (X.A.mark (some (.ref e))) (eval (.Name nm q1) X.env) Q E { s2 with heap := hp } := fun q => by
          obtain ⟨kg, kd, km | ⟨km, kb, kn⟩⟩ := kn
          · exact ld_glob (X := X.suite e ((e, ob) :: (X.pn ++ pins))) JS kg km q kd
          · exact ld_blt (X := X.suite e ((e, ob) :: (X.pn ++ pins))) JS kg km kb q kn kd
        refine cl (mt.here ?_)
        cases yes with
        | false => exact ih (x3 rfl)
        | true =>
          refine codeAny_handlers_suite_as (HandSPX.lands_againZ fl fun h4 fl4 up4 => ?_)
          have K4 : Inv X pins z1 y1 { s2 with heap := h4 } := J.landed nb fl4.1 ((up.trans up2).trans up4) os ag
          obtain ⟨o4, f4, p4, r4, d4⟩ := fl4.there
          refine store_ok (X := X.suite e ((e, o4) :: (X.pn ++ pins))) (v := .ref e) (K4.suite p4 d4 ne nL nF) hN hi (.inl hl) rfl (fun s5 J5 => ?_) (.inr hl)
          exact wpAny_mono ((su e o4 C dd (X.pn ++ pins) r4 ⟨_, d4⟩).run [] s5 _ y1 _ J5 (x2 rfl (by rw [J.len]; exact (List.getElem?_eq_some_iff.mp hi).1) e ne)) (fun f s6 hsp => suite_end ok hN hi hl hsp) fun _ _ q => q.elim
    exact all hh w
  · cases f with
    | next => exact wpAny_execs_nil (body_end ok hsp)
    | brk => exact body_end ok hsp
    | cont => exact body_end ok hsp
    | ret u => exact body_end ok hsp
end
/-! ### isinstance(e, C) of an exception with a dict -/
def rIsE (K : PySem.W.Frag) (a : Addr) (cls : Value) (d : Option Addr) (C : Addr) : List V → Hp → VK → Prop := fun xs H Q => ∃ Cb dd fs b, xs = [.ref a, .ref Cb] ∧ cls = .ref C ∧ d = some dd ∧ H dd = some (.xd fs) ∧ PySem.W.kitOne K (.ref C) (.ref Cb) = some b ∧ Q (.bl b) H
theorem c_isE {X : Cx} {a C : Addr} {oe : Obj} {cls : Value} {d : Option Addr} {pn : List (Addr × Obj)} (R : ErrT X.K) (ec : ErrC X.K C) (hz : Zc cls d oe) (hf : ∃ vs, oe.data = .fields vs) : CallR (X.suite a ((a, oe) :: pn)) (.builtin "isinstance") (rIsE X.K a cls d C) := by
  intro pins s σ H xs us Q I r h
  obtain ⟨Cb, dd, fs, b, rfl, rfl, rfl, ed, ek, q⟩ := h
  obtain ⟨u1, u2, rfl, r1, r2⟩ := vals2 r
  obtain rfl : u1 = Value.ref a := r1
  obtain rfl : u2 = Value.ref Cb := r2
  obtain ⟨ha, _⟩ := I.pin (a, oe) (List.mem_append_left _ List.mem_cons_self)
  obtain ⟨vs, hd⟩ := hf
  have hx : ObjOk X.prog X.w H s.heap dd (.xd fs) := I.hok dd _ ed
  obtain ⟨mA, hns, hr⟩ := hx
  obtain ⟨od, ho, hl⟩ := lookIn_ns hns
  have J : PySem.W.InstAt s.heap a oe C (some od) := ⟨ha, hz.1, by unfold PySem.W.notCls; rw [hd] <;> rfl, by rw [hz.2]; exact ho⟩
  have hc : (PySem.W.clsIn X.K C).isSome = true := by
    obtain ⟨nm, qn, ns, bs, bm, sn, sb, ab, col, d0, a0, a1, a2, a3, a5, hl, h5⟩ := ec.ox.1
    unfold PySem.W.clsIn
    rw [hl] <;> rfl
  exact PySem.W.kia_one (PySem.W.kitx_exc hc ec.xf.ga ec.xf.gg ec.xf.exC ec.cl R.gt R.tk ec.mo) I.kIn J ek (fun z => nomatch z) fun tk => ⟨.bl b, H, I.kept (t' := tk) fun _ _ z => z, rfl, q⟩
end K25

end

section
set_option maxHeartbeats 4000000
namespace K25
open PySem PySem.Spec PyProof.Rows L2 Evl
/-! ### repr of data, or of an empty dict -/
def RV (K : PySem.W.Frag) (H : Hp) (v : V) (z : Str) : Prop := (∃ d, Dp K H v d ∧ Rpr d ∧ z = d.shown) ∨ ∃ p, v = .ref p ∧ H p = some (.dK []) ∧ z = (PyData.dict []).shown
theorem RV.mono {K : PySem.W.Frag} {H H' : Hp} {v : V} {z : Str} (e : Ex H H') (h : RV K H v z) : RV K H' v z := by
  rcases h with ⟨d, h1, h2, h3⟩ | ⟨p, h1, h2, h3⟩
  · exact .inl ⟨d, dpMono e _ _ h1, h2, h3⟩
  · exact .inr ⟨p, h1, e _ _ h2, h3⟩
def rRp (K : PySem.W.Frag) : List V → Hp → VK → Prop := fun xs H Q => ∃ v z, xs = [v] ∧ RV K H v z ∧ Q (.str z) H
theorem c_rpU {X : Cx} (hg : X.A.guards = some []) (hu : X.A.units + 100 < cLine) : CallR X (.builtin "repr") (rRp X.K) := by
  intro pins s σ H xs us Q I r h
  obtain ⟨v, z, rfl, hv, q⟩ := h
  rcases hv with ⟨d, h1, h2, rfl⟩ | ⟨p, rfl, hp, rfl⟩
  · exact c_repr hg hu pins s σ H [v] us Q I r ⟨v, d, rfl, h1, h2, q⟩
  · obtain ⟨u, rfl, ru⟩ := vals1 r
    obtain rfl : u = Value.ref p := ru
    obtain ⟨_, ns, vs, hkv, o, es, ep, g1, g2, g3, _, g5, _⟩ := (show ObjOk X.prog X.w H s.heap p (.dK []) from I.hok p _ hp)
    cases hkv
    have he : es.toList = [] := by
      cases h : es.toList with
      | nil => rfl
      | cons x r => rw [h] at g5; cases g5
    have rd : Reads s.heap (.ref p) (.dict []) (p :: [] ++ []) := Reads.dict g1 g2.1 g3 (by rw [he]; exact .nil) (by rw [he]; exact .nil)
    have np : sysModules ∉ (p :: [] ++ [] : List Addr) := by
      intro hm
      simp at hm
      rw [hm] at ns
      simp at ns
    exact repr_of_reads' rd (by decide +kernel) (fun _ => np) hg (by show X.A.units + (_ + 1) < _; have : (PyData.dict []).depth ≤ 1 := by decide +kernel
                                                                     omega) (fun _ _ e => e) (fun h' z tk hk => ⟨.str _, H, I.kept (t' := tk) hk, ⟨_, rfl⟩, q⟩) (by decide +kernel)
theorem c_rp {X : Cx} {k : Nat} (hg : X.A.guards = some []) (hr : Room k X.A) : CallR X (.builtin "repr") (rRp X.K) := c_rpU hg (by have := hr.un; omega)
/-! ### _law_heard -/
def tHeard (K : PySem.W.Frag) (C : Addr) (w : Str) : Suite := fun a cls d =>
  tRet (tLst (tCons (tC (.str w)) (tCons (tCB (rRp K) (tCons (tXf a cls d C "value" (tVar 1)) tNil)) (tCons (tCB (rIsE K a cls d C) (tCons (tVar 1) (tCons (tC (.ref (He.ga K "ChangeError"))) tNil))) tNil))))
/-- which word is said of which class -/
def Said (K : PySem.W.Frag) (C : Addr) (w : Str) : Prop := (C = He.ga K "InvalidPattern" ∧ w = "pattern") ∨ (C = He.ga K "InvalidPatterns" ∧ w = "patterns") ∨ (C = He.ga K "InvalidValue" ∧ w = "value")
theorem Said.err {K : PySem.W.Frag} {C : Addr} {w : Str} (R : ErrT K) (h : Said K C w) : ErrC K C := by
  rcases h with ⟨rfl, _⟩ | ⟨rfl, _⟩ | ⟨rfl, _⟩
  · exact R.e1
  · exact R.e2
  · exact R.e3
/-- the lambda raises an error of ours, that is told -/
def HeardX (K : PySem.W.Frag) (Q : VK) : XK := fun cls dd H => ∃ C w d v z, cls = .ref C ∧ dd = some d ∧ Said K C w ∧ H d = some (.xd [(("value" : Str), v)]) ∧ RV K H v z ∧ ∀ p, H p = none → Q (.ref p) (upd H p (.lst [.str w, .str z, .bl true]))
def TTh (K : PySem.W.Frag) : (XK → Hp → VK → Prop) → Hp → VK → Prop := fun tl H Q => ∀ Qn : VK, tl (HeardX K Q) H Qn
theorem heard_does {K : PySem.W.Frag} {R : ErrT K} {C d a : Addr} {w z : Str} {v : V} {σ : L2.St} {H : Hp} {D : Ends} (hs : Said K C w) (hsl : σ[1]? = some (some (.ref a))) (hd : H d = some (.xd [(("value" : Str), v)])) (hv : RV K H v z) (q : ∀ p, H p = none → D.rt (.ref p) (upd H p (.lst [.str w, .str z, .bl true]))) :
    tHeard K C w a (.ref C) (some d) D σ H := by
  refine ⟨.ref a, hsl, rfl, rfl, d, _, v, rfl, hd, rfl, v, z, rfl, hv, .ref a, hsl, He.ga K "ChangeError", d, _, true, rfl, rfl, rfl, hd, (hs.err R).is, sz_of (by simp), q⟩
section
variable {X : Cx}
theorem heard_suite {Y : Cx} {C : Addr} {w : Str} {p1 p2 p3 p4 p5 p6 p7 p8 p9 p10 p11 : Pos} {j : Nat} {a : Addr} {ob : Obj} {cls : Value} {d : Option Addr} {pins : List (Addr × Obj)} (T : Tx Y.K Y.mg) (R : ErrT Y.K) (ec : ErrC Y.K C) (hgd : Y.A.guards = some []) (hu : Y.A.units + 100 < cLine)
    (hN : Y.N[1]? = some ("e" : Str)) (hl : Y.env.scope.names.lookup ("e" : Str) = some .local) (g1 : Gl Y "repr") (g2 : Gl Y "isinstance") (g3 : Gl Y "ChangeError") (hz : Zc cls d ob) (hf : ∃ fs, ob.data = .fields fs) :
    PSs (Y.suite a ((a, ob) :: pins)) [.Return (some (.List [.Constant (.str w) j p1, .Call (.Name "repr" p2) [.Attribute (.Name "e" p3) "value" p4] [] p5, .Call (.Name "isinstance" p6) [.Name "e" p7, .Name "ChangeError" p8] [] p9] p10)) p11] (tHeard Y.K C w a cls d) := by
  have ve : ∀ {p}, PE (Y.suite a ((a, ob) :: pins)) (.Name "e" p) (tVar 1) := pe_var (X := Y.suite a ((a, ob) :: pins)) hN (Or.inl hl)
  exact pss_one (ps_ret (pe_lst (pa_cons pe_str (pa_cons (pe_callB (c_rpU (X := Y.suite a ((a, ob) :: pins)) hgd hu) g1 T.n_repr (by decide +kernel) (pa_cons (pe_xf ec.xf ec.vN hz hf ve) pa_nil))
    (pa_cons (pe_callB (c_isE (X := Y) R ec hz hf) g2 T.n_isinstance (by decide +kernel) (pa_cons ve (pa_cons (pgr (X := Y.suite a ((a, ob) :: pins)) T.g_ChangeError g3) pa_nil))) pa_nil)))))
theorem heard_gives {k : Nat} {cdg : Value} {q : Str} (T : Tx X.K X.mg) (R : ErrT X.K) (hgd : X.A.guards = some []) (hr : Room (k + 1) X.A) : LamX.GivesTo X ["_law_call", "e"] "_law_heard" (defScope s80) (He.ga X.K "_law_heard") cdg (defBody s80) "_law_call" q (TTh X.K) := by
  intro f c' s H Q tl act hc h
  have hu : (cxOf C8.CX0 X.prog X.w X.K X.mg X.base ["_law_call", "e"] "_law_heard" (defScope s80) (He.ga X.K "_law_heard") cdg X.A X.stack s H C8.E0).nox.A.units + 100 < cLine := by
    have := (hr.deeper (envOfC "_law_heard" (defScope s80) s.heap.objs.size (He.ga X.K "_law_heard") cdg)).un
    show (X.A.deeper (envOfC "_law_heard" (defScope s80) s.heap.objs.size (He.ga X.K "_law_heard") cdg)).units + 100 < _
    omega
  refine ⟨_, pss_cons (ps_cls (X := (cxOf C8.CX0 X.prog X.w X.K X.mg X.base ["_law_call", "e"] "_law_heard" (defScope s80) (He.ga X.K "_law_heard") cdg X.A X.stack s H C8.E0).nox) (i := 1) (n := "e") (last := fun _ _ _ _ => False)
    (tb := fun W D σ H => ∃ Ech : XK, (∀ cls d σ' H', Ech cls d H' → W cls d σ' H') ∧ σ[0]? = some (some (.ref f)) ∧ H c' = some (LamX.CodeO c' q) ∧ tl Ech H (fun _ H1 => D.nx σ H1)) rfl rfl (show (["_law_call", "e"] : List Str).Nodup by decide) rfl rfl LamX.takes0 (fun W pn xe tk _ => pss_one ⟨fun pins s' σ H' D I h' => ?_⟩)
    (.more (C := .ref (He.ga X.K "InvalidPattern")) ⟨rfl, by decide, .inl T.g_InvalidPattern⟩ (fun a ob cls d pins hz hf => heard_suite T R R.e1 hgd hu rfl rfl rfl rfl rfl hz hf)
    (.more (C := .ref (He.ga X.K "InvalidPatterns")) ⟨rfl, by decide, .inl T.g_InvalidPatterns⟩ (fun a ob cls d pins hz hf => heard_suite T R R.e2 hgd hu rfl rfl rfl rfl rfl hz hf)
    (.more (C := .ref (He.ga X.K "InvalidValue")) ⟨rfl, by decide, .inl T.g_InvalidValue⟩ (fun a ob cls d pins hz hf => heard_suite T R R.e3 hgd hu rfl rfl rfl rfl rfl hz hf) .stop))))
    (pss_one (ps_ret (pe_lst (pa_cons pe_str pa_nil)))), ?_⟩
  · obtain ⟨Ech, hW, h1, h2, h3⟩ := h'
    exact (ps_expr (act W pn xe Ech _ _ tk hW)).run pins s' σ H' D I ⟨h1, h2, h3⟩
  · refine ⟨HeardX X.K Q, fun cls dd σ' H' hh => ?_, rfl, hc, h _⟩
    obtain ⟨C, w, d, v, z, rfl, rfl, hs, hd, hv, hq⟩ := hh
    have slot : ∀ {a : Addr}, 1 < σ'.length → (σ'.set 1 (some (.ref a)))[1]? = some (some (V.ref a)) := fun h => by rw [List.getElem?_set_self h]
    rcases hs with ⟨rfl, rfl⟩ | ⟨rfl, rfl⟩ | ⟨rfl, rfl⟩
    · exact ⟨true, R.x11, fun _ hl a _ => heard_does (R := R) (.inl ⟨rfl, rfl⟩) (slot hl) hd hv hq, fun z => nomatch z⟩
    · exact ⟨false, R.x21, (fun z => nomatch z), fun _ => ⟨true, R.x22, fun _ hl a _ => heard_does (R := R) (.inr (.inl ⟨rfl, rfl⟩)) (slot hl) hd hv hq, fun z => nomatch z⟩⟩
    · exact ⟨false, R.x31, (fun z => nomatch z), fun _ => ⟨false, R.x32, (fun z => nomatch z), fun _ => ⟨true, R.x33, fun _ hl a _ => heard_does (R := R) (.inr (.inr ⟨rfl, rfl⟩)) (slot hl) hd hv hq, fun z => nomatch z⟩⟩⟩
end
end K25

end

section
set_option maxHeartbeats 4000000
namespace K25
open PySem PySem.Spec PyProof.Rows L2 Evl
/-! ### calls with keywords alone, in the parameters' reverse order -/
theorem vals_rev : ∀ {zs : List V} {ws : List Value}, Vals zs ws → zs.length ≤ 2 → Vals zs.reverse ws.reverse
  | [], _, h, _ => by cases h; exact .nil
  | [a], _, h, _ => by
    obtain ⟨u, rfl, r⟩ := vals1 h
    exact .cons r .nil
  | [a, b], _, h, _ => by
    obtain ⟨u, x, rfl, r, r2⟩ := vals2 h
    exact .cons r2 (.cons r .nil)
def tCallR (n : Nat) (sp : Sp) (E : L2.St → XK) (ta : TA) : TE := fun σ H Q => ta σ H fun zs H1 => zs.length = n ∧ sp zs.reverse H1 Q (E σ)
section
variable {X : Cx} {k j n : Nat} {x : Str} {st : Stmt} {ps ks : List Str} {sp : Sp} {kws : List Keyword} {ta : TA} {p pos : Pos}
theorem pe_dfK {W : WX} (D : DfK X.prog X.w X.K X.mg X.base (L2.CX X.prog X.w) k x st ps sp) (hm : X.mg x = some (.ref (He.ga X.K x))) (hr : Room j X.A) (tk : Takes X W) (ha : PK X kws ta) (hn : ks.length ≤ 2)
    (hb : ∀ kV doc pm an cdv ct (ws : List Value), ws.length = ks.length → bindArgs (PySem.W.fnOf x x (defArgs st) (defBody st) (defScope st) .none kV doc pm an cdv ct) ⟨[], ks.zip ws⟩ = pure (ps.zip ws.reverse)) (hk : k ≤ j := by first | decide | omega) (hg : Gl X x := by rfl)
    (hall : (backToKw pos (keywordEach kws X.env)).all (·.1.isSome) = true := by rfl) (hks : (backToKw pos (keywordEach kws X.env)).filterMap (·.1) = ks := by rfl) (hdb : (x == ("__debug__" : Str)) = false := by decide)
    (hpl : ((backTo pos (starEach [] X.env)).any (·.1) || (backToKw pos (keywordEach kws X.env)).any (·.1.isNone)) = false := by rfl) : PE X (.Call (.Name x p) [] kws pos) (tCallR ks.length sp (WE W) ta) := by
  obtain ⟨fd, F, ok⟩ := D
  obtain ⟨oc, od, dV, kV, doc, pm, an, cdv, ct, osl, rfl, lk, hcd, hD, _⟩ := id F.ex
  have hdV : dV = .none := by
    rcases hD with ⟨_, h⟩ | ⟨h, _⟩
    · exact h
    · exact absurd rfl h
  subst hdV
  refine ⟨fun pins s σ H Q I h => wpAny_Call_Name_kw (ld_glob I hg hm ?_ hdb)⟩
  refine PySem.W.callWith_KW0 (h₀ := X.base) I.ok.mod.kin F.kp hall (thn (ha.run pos pins s σ H _ I h) fun ws s1 ⟨zs, H1, I1, rz, l, q⟩ => ⟨I1.kIn, ?_⟩) hpl
  rw [hks]
  refine wpAny_call (codeAny_mono (ok.run X.A X.stack s1 H1 ⟨[], ks.zip ws⟩ ws.reverse zs.reverse Q (WE W σ) (hr.mono hk) I1.env0 (.of_eq (hb kV doc pm an cdv ct ws (by rw [← rz.length]; exact l))) (vals_rev rz (by rw [l]; exact hn)) q) fun res s2 hq => ?_)
  match res, hq with
  | .error e, hq => exact passAt tk σ pins H1 s1 e s2 I1 hq
  | .ok (.ret u), hq => exact I1.after hq
  | .ok .next, hq => exact False.elim hq
  | .ok .brk, hq => exact False.elim hq
  | .ok .cont, hq => exact False.elim hq
theorem pe_dfK0 (D : DfK X.prog X.w X.K X.mg X.base CX0 k x st ps sp) (hm : X.mg x = some (.ref (He.ga X.K x))) (hr : Room j X.A) (ha : PK X kws ta) (hn : ks.length ≤ 2)
    (hb : ∀ kV doc pm an cdv ct (ws : List Value), ws.length = ks.length → bindArgs (PySem.W.fnOf x x (defArgs st) (defBody st) (defScope st) .none kV doc pm an cdv ct) ⟨[], ks.zip ws⟩ = pure (ps.zip ws.reverse)) (hk : k ≤ j := by first | decide | omega) (hg : Gl X x := by rfl)
    (hall : (backToKw pos (keywordEach kws X.env)).all (·.1.isSome) = true := by rfl) (hks : (backToKw pos (keywordEach kws X.env)).filterMap (·.1) = ks := by rfl) (hdb : (x == ("__debug__" : Str)) = false := by decide)
    (hpl : ((backTo pos (starEach [] X.env)).any (·.1) || (backToKw pos (keywordEach kws X.env)).any (·.1.isNone)) = false := by rfl) : PE X (.Call (.Name x p) [] kws pos) (tCallR ks.length sp (fun _ => E0) ta) := by
  obtain ⟨fd, F, ok⟩ := D
  obtain ⟨oc, od, dV, kV, doc, pm, an, cdv, ct, osl, rfl, lk, hcd, hD, _⟩ := id F.ex
  have hdV : dV = .none := by
    rcases hD with ⟨_, h⟩ | ⟨h, _⟩
    · exact h
    · exact absurd rfl h
  subst hdV
  refine ⟨fun pins s σ H Q I h => wpAny_Call_Name_kw (ld_glob I hg hm ?_ hdb)⟩
  refine PySem.W.callWith_KW0 (h₀ := X.base) I.ok.mod.kin F.kp hall (thn (ha.run pos pins s σ H _ I h) fun ws s1 ⟨zs, H1, I1, rz, l, q⟩ => ⟨I1.kIn, ?_⟩) hpl
  rw [hks]
  refine wpAny_call (codeAny_mono (ok.run X.A X.stack s1 H1 ⟨[], ks.zip ws⟩ ws.reverse zs.reverse Q E0 (hr.mono hk) I1.env0 (.of_eq (hb kV doc pm an cdv ct ws (by rw [← rz.length]; exact l))) (vals_rev rz (by rw [l]; exact hn)) q) fun res s2 hq => ?_)
  match res, hq with
  | .error e, hq => exact False.elim hq
  | .ok (.ret u), hq => exact I1.after hq
  | .ok .next, hq => exact False.elim hq
  | .ok .brk, hq => exact False.elim hq
  | .ok .cont, hq => exact False.elim hq
theorem kb_first_rule : ∀ kV doc pm an cdv ct (ws : List Value), ws.length = (["value", "patterns"] : List Str).length → bindArgs (PySem.W.fnOf "first_rule" "first_rule" (defArgs s63) (defBody s63) (defScope s63) .none kV doc pm an cdv ct) ⟨[], (["value", "patterns"] : List Str).zip ws⟩ = pure ((["patterns", "value"] : List Str).zip ws.reverse)
  | _, _, _, _, _, _, [_, _], _ => rfl
theorem kb_bindings : ∀ kV doc pm an cdv ct (ws : List Value), ws.length = (["value", "pattern"] : List Str).length → bindArgs (PySem.W.fnOf "bindings" "bindings" (defArgs s62) (defBody s62) (defScope s62) .none kV doc pm an cdv ct) ⟨[], (["value", "pattern"] : List Str).zip ws⟩ = pure ((["pattern", "value"] : List Str).zip ws.reverse)
  | _, _, _, _, _, _, [_, _], _ => rfl
theorem kb_is_plain : ∀ kV doc pm an cdv ct (ws : List Value), ws.length = (["value"] : List Str).length → bindArgs (PySem.W.fnOf "is_plain" "is_plain" (defArgs s55) (defBody s55) (defScope s55) .none kV doc pm an cdv ct) ⟨[], (["value"] : List Str).zip ws⟩ = pure ((["value"] : List Str).zip ws.reverse)
  | _, _, _, _, _, _, [_], _ => rfl
end
/-! ### _law_heard(lambda: ..) -/
theorem sc__law_heard : FnScope ["_law_call", "e"] ["_law_call"] (defScope s80) := ⟨rfl, rfl, rfl, by decide +kernel, rfl, by decide +kernel, by decide +kernel⟩
theorem lam_tk {X : Cx} {A : Around} {outer : List Env} {s : Shared} {H : Hp} {E : XK} {scope : Scope} {f c' : Addr} : Takes (LamX.lamCx X A outer s H E scope f c') (fun cls d _ H => E cls d H) := takes_of rfl rfl rfl rfl
theorem pe_heard {X : Cx} {c tab : Addr} {q : Str} {k : Nat} {params : Arguments} {body : Expr} {scope : Scope} {t : XK → TE} {p lpos pos : Pos} (T : Tx X.K X.mg) (R : ErrT X.K) (hgd : X.A.guards = some []) (hr : Room (k + 2) X.A) (TB : LamX.TabB X.base X.mg c tab) (hcode : X.env.code = .ref c) (L : LamX.LamS X.env.scope scope)
    (hbody : ∀ (A : Around) (outer : List Env) (s : Shared) (H : Hp) (E : XK) (f c' : Addr), Room k (A.deeper (LamX.lamEnv X scope s.heap.objs.size f c')) → PE (LamX.lamCx X A outer s H E scope f c') body (t E)) (hq : X.env.qual ++ "<lambda>" = q := by rfl) (hg : Gl X "_law_heard" := by rfl)
    (hdef : defaultsOf params X.env = ([], []) := by rfl)
    (hbind : ∀ (q : Str) (cl : List (Str × Addr)) (pm cv ctv : Value), bindArgs (PySem.W.kla_fn "<lambda>" q params body scope cl pm cv ctv) ⟨[], []⟩ = pure [] := by intros; rfl) :
    PE X (.Call (.Name "_law_heard" p) [.Lambda params body scope lpos] [] pos) (LamX.tLam [(tab, q)] (TTh X.K) t) := by
  obtain ⟨fd, F⟩ := T.f__law_heard
  have hb : L2.Binds X.K fd ["_law_call"] [] := F.bindsN (fun _ _ _ _ _ _ us hl => match us, hl with | [_], _ => rfl)
  obtain ⟨oc, od, dV, kV, doc, pm, an, cdv, ct, osl, rfl, lk, hcd, _, _⟩ := id F.ex
  subst hq
  exact LamX.pe_lamcall hg T.g__law_heard F.kp lk hcd hb sc__law_heard rfl (.inl rfl) (heard_gives (k := 0) T R hgd (hr.mono (by omega))) TB hcode List.mem_cons_self (fun p hp _ => by simp at hp; rw [hp]) hr L hdef hbind hbody
end K25

end

section
set_option maxHeartbeats 4000000
namespace K25
open PySem PySem.Spec PyProof.Rows L2 Evl
/-! ### what repr writes is text that can be laid -/
def Cps (l : List Nat) : Prop := ∀ c ∈ l, c < 0x110000
theorem Cps.app {l m : List Nat} (a : Cps l) (b : Cps m) : Cps (l ++ m) := fun c h => (List.mem_append.mp h).elim (a c) (b c)
theorem strOk_iff {x : Str} : PyData.strOk x = true ↔ Cps x.cps.toList := by
  unfold PyData.strOk Cps
  rw [← Array.all_toList, List.all_eq_true]
  exact ⟨fun h c hc => of_decide_eq_true (h c hc), fun h c hc => decide_eq_true (h c hc)⟩
theorem char_small (c : Char) : c.toNat < 0x110000 := by
  rcases c.valid with h | h
  · exact Nat.lt_trans h (by decide)
  · exact h.2
theorem cps_chars (l : List Char) : Cps (l.map Char.toNat) := fun c h => by
  obtain ⟨d, _, rfl⟩ := List.mem_map.mp h
  exact char_small d
theorem okS (s : String) : Cps (Str.ofString s).cps.toList := by
  rw [Str.ofString_eq_toList]
  exact cps_chars _
theorem okApp {a b : Str} (h : Cps a.cps.toList) (h2 : Cps b.cps.toList) : Cps (a ++ b).cps.toList := by
  have e : (a ++ b).cps.toList = a.cps.toList ++ b.cps.toList := Array.toList_append
  rw [e]
  exact h.app h2
theorem ok_textFrom : ∀ (ts : List Str) (k : Nat) (acc : Str), (∀ t ∈ ts, Cps t.cps.toList) → Cps acc.cps.toList → Cps (textFrom k acc ts).cps.toList
  | [], _, _, _, h => h
  | t :: r, k, acc, ht, h => ok_textFrom r (k + 1) _ (fun x hx => ht x (List.mem_cons_of_mem _ hx)) (okApp (okApp h (okS _)) (ht t List.mem_cons_self))
theorem ok_join : ∀ (ts : List Str), (∀ t ∈ ts, Cps t.cps.toList) → Cps (Str.join ", " ts).cps.toList
  | [], _ => fun _ h => by cases h
  | [x], h => h x List.mem_cons_self
  | x :: y :: r, h => by
    have := ok_join (y :: r) fun t ht => h t (List.mem_cons_of_mem _ ht)
    exact okApp (okApp (h x List.mem_cons_self) (okS _)) this
theorem hex_ok (n c : Nat) : Cps (List.replicate n 48 ++ (Nat.toDigits 16 c).map Char.toNat) := Cps.app (fun x h => by rw [List.eq_of_mem_replicate h]; decide) (cps_chars _)
theorem cps_two {a b : Nat} (ha : a < 0x110000) (hb : b < 0x110000) : Cps [a, b] := fun x h => by
  rcases List.mem_cons.mp h with rfl | h
  · exact ha
  · rw [List.mem_singleton.mp h]
    exact hb
theorem reprChar_ok {q c : Nat} (hc : c < 0x110000) : Cps (Builtin.Str.reprChar q c) := by
  unfold Builtin.Str.reprChar
  dsimp only
  repeat' split
  · exact cps_two (by decide) hc
  · exact cps_two (by decide) (by decide)
  · exact cps_two (by decide) (by decide)
  · exact cps_two (by decide) (by decide)
  · exact fun x h => by rw [List.mem_singleton.mp h]; exact hc
  · exact (cps_two (by decide) (by decide)).app (hex_ok _ _)
  · exact (cps_two (by decide) (by decide)).app (hex_ok _ _)
  · exact (cps_two (by decide) (by decide)).app (hex_ok _ _)
theorem ok_fold {q : Nat} : ∀ (l : List Nat) (acc : Array Nat), Cps l → Cps acc.toList → Cps (l.foldl (fun out c => out ++ (Builtin.Str.reprChar q c).toArray) acc).toList
  | [], _, _, h => h
  | c :: r, acc, hl, h => ok_fold r _ (fun x hx => hl x (List.mem_cons_of_mem _ hx)) (by
      rw [Array.toList_append]
      exact h.app (reprChar_ok (hl c List.mem_cons_self)))
theorem ok_reprText {x : Str} (h : Cps x.cps.toList) : Cps (reprText x).cps.toList := by
  have hq : reprQuote x < 0x110000 := by
    unfold reprQuote
    split <;> decide
  unfold reprText
  rw [Array.toList_push, ← Array.foldl_toList]
  refine Cps.app (ok_fold _ _ h ?_) ?_
  · exact fun c hc => by rw [List.mem_singleton.mp hc]; exact hq
  · exact fun c hc => by rw [List.mem_singleton.mp hc]; exact hq
mutual
theorem shown_cps : ∀ d : PyData, d.canLay0 = true → Cps d.shown.cps.toList
  | .none, _ => by simp only [PyData.shown]; exact okS _
  | .bool b, _ => by
    simp only [PyData.shown]
    split <;> exact okS _
  | .int i, _ => by simp only [PyData.shown]; exact okS _
  | .str x, h => by
    simp only [PyData.shown]
    exact ok_reprText (strOk_iff.mp (by simpa [PyData.canLay0] using h))
  | .list ds, h => by
    simp only [PyData.shown]
    exact okApp (ok_textFrom _ _ _ (shown_all_cps ds (by simpa [PyData.canLay0] using h)) (okS _)) (okS _)
  | .tuple ds, h => by
    simp only [PyData.shown]
    exact okApp (okApp (okS _) (ok_join _ (shown_all_cps ds (by simpa [PyData.canLay0] using h)))) (okS _)
  | .dict _, h => by simp [PyData.canLay0] at h
theorem shown_all_cps : ∀ ds : List PyData, PyData.canLayAll0 ds = true → ∀ t ∈ PyData.shownAll ds, Cps t.cps.toList
  | [], _, t, ht => by cases ht
  | d :: ds, h, t, ht => by
    have h2 : d.canLay0 = true ∧ PyData.canLayAll0 ds = true := by simpa [PyData.canLayAll0] using h
    simp only [PyData.shownAll] at ht
    rcases List.mem_cons.mp ht with rfl | ht
    · exact shown_cps d h2.1
    · exact shown_all_cps ds h2.2 t ht
end
theorem RV.ok {K : PySem.W.Frag} {H : Hp} {v : V} {z : Str} (h : RV K H v z) : PyData.strOk z = true := by
  rcases h with ⟨d, _, h2, rfl⟩ | ⟨_, _, _, rfl⟩
  · exact strOk_iff.mpr (shown_cps d (wf_lay _ _ h2.1).1)
  · decide +kernel
end K25

end

section
set_option maxHeartbeats 4000000
namespace K25
open PySem PySem.Spec PyProof.Rows L2 Evl
/-! ### what the weight is, at most -/
def sl (L b : Nat) : Nat → PyData → Bool
  | _, .none => true
  | _, .bool _ => true
  | _, .int i => decide (i.natAbs < 2 ^ b)
  | _, .str x => decide (x.cps.size ≤ L)
  | n + 1, .list ds => ds.all (sl L b n)
  | n + 1, .tuple ds => ds.all (sl L b n)
  | 0, .list _ => false
  | 0, .tuple _ => false
  | _, .dict _ => false
theorem int_wt {i : Int} {b : Nat} (h : i.natAbs < 2 ^ b) : PyData.weight (.int i) ≤ b := by
  simp only [PyData.weight]
  split
  · omega
  · rename_i h0
    have h1 : i.natAbs ≠ 0 := fun z => h0 (by rw [Int.natAbs_eq_zero.mp z] <;> rfl)
    have := (Nat.log2_lt (n := i.natAbs) (k := b) h1).mpr h
    omega
theorem wts_all {c : Nat} : ∀ ds : List PyData, (∀ x ∈ ds, PyData.weight x + 1 ≤ c * lv x) → PyData.weightAll ds ≤ c * lvs ds
  | [], _ => by simp [PyData.weightAll]
  | x :: r, h => by
    have h1 := h x List.mem_cons_self
    have h2 := wts_all r fun y hy => h y (List.mem_cons_of_mem _ hy)
    simp only [PyData.weightAll, lvs, Nat.mul_add]
    omega
theorem seq_wt {c n : Nat} {ds : List PyData} (h : PyData.weightAll ds ≤ (c + n) * lvs ds) : PyData.weightAll ds + 1 ≤ (c + (n + 1)) * max 1 (lvs ds) := by
  have e : (c + (n + 1)) * max 1 (lvs ds) = (c + n) * max 1 (lvs ds) + max 1 (lvs ds) := by rw [← Nat.add_assoc, Nat.add_mul, Nat.one_mul]
  have h2 : (c + n) * lvs ds ≤ (c + n) * max 1 (lvs ds) := Nat.mul_le_mul_left _ (Nat.le_max_right _ _)
  have h3 : 1 ≤ max 1 (lvs ds) := Nat.le_max_left _ _
  omega
theorem sl_wt {L b : Nat} : ∀ (n : Nat) (d : PyData), sl L b n d = true → PyData.weight d + 1 ≤ (L + b + 1 + n) * lv d
  | n, .none, _ => by simp only [PyData.weight, lv]; omega
  | n, .bool _, _ => by simp only [PyData.weight, lv]; omega
  | n, .int i, h => by
    have := int_wt (i := i) (b := b) (by cases n <;> simpa [sl] using h)
    simp only [lv]
    omega
  | n, .str x, h => by
    have : x.cps.size ≤ L := by cases n <;> simpa [sl] using h
    simp only [PyData.weight, lv]
    omega
  | n + 1, .list ds, h => by
    have h2 : ∀ x ∈ ds, sl L b n x = true := by simpa [sl] using h
    simp only [PyData.weight, lv]
    exact seq_wt (wts_all ds fun x hx => sl_wt n x (h2 x hx))
  | n + 1, .tuple ds, h => by
    have h2 : ∀ x ∈ ds, sl L b n x = true := by simpa [sl] using h
    simp only [PyData.weight, lv]
    exact seq_wt (wts_all ds fun x hx => sl_wt n x (h2 x hx))
  | 0, .list _, h => by cases h
  | 0, .tuple _, h => by cases h
  | n, .dict _, h => by cases n <;> cases h
theorem sl_succ {L b : Nat} : ∀ (n : Nat) (d : PyData), sl L b n d = true → sl L b (n + 1) d = true
  | n, .none, _ => rfl
  | n, .bool _, _ => rfl
  | n, .int i, h => by cases n <;> simpa [sl] using h
  | n, .str x, h => by cases n <;> simpa [sl] using h
  | n + 1, .list ds, h => by
    have h2 : ∀ x ∈ ds, sl L b n x = true := by simpa [sl] using h
    have h3 : ∀ x ∈ ds, sl L b (n + 1) x = true := fun x hx => sl_succ n x (h2 x hx)
    simpa [sl] using h3
  | n + 1, .tuple ds, h => by
    have h2 : ∀ x ∈ ds, sl L b n x = true := by simpa [sl] using h
    have h3 : ∀ x ∈ ds, sl L b (n + 1) x = true := fun x hx => sl_succ n x (h2 x hx)
    simpa [sl] using h3
  | 0, .list _, h => by cases h
  | 0, .tuple _, h => by cases h
  | n, .dict _, h => by cases n <;> cases h
theorem sl_le {L b n m : Nat} {d : PyData} (h : sl L b n d = true) (hm : n ≤ m) : sl L b m d = true := by
  obtain ⟨j, rfl⟩ := Nat.exists_eq_add_of_le hm
  clear hm
  induction j with
  | zero => exact h
  | succ j ih => exact sl_succ _ _ ih
theorem sl_mkT {L b n : Nat} {ds : List PyData} (h : ∀ x ∈ ds, sl L b n x = true) : sl L b (n + 1) (.tuple ds) = true := by simpa [sl] using h
theorem pow_small {i : Int} (h : i.natAbs < 10 ^ 12) : i.natAbs < 2 ^ 40 := Nat.lt_trans h (by decide)
theorem sl_wf : ∀ (n : Nat) (d : PyData), wf n d = true → ism d = true → sl 1000 40 n d = true
  | n, .none, _, _ => by cases n <;> rfl
  | n, .bool _, _, _ => by cases n <;> rfl
  | n, .int i, _, h => by
    have h2 : i.natAbs < 2 ^ 40 := pow_small (by simpa [ism] using h)
    cases n <;> simpa [sl] using h2
  | n, .str x, h, _ => by
    have h1 : PyData.strOk x = true ∧ x.length ≤ 1000 := by cases n <;> simpa [wf] using h
    have h2 : x.cps.size ≤ 1000 := h1.2
    cases n <;> simpa [sl] using h2
  | n + 1, .list ds, h, hi => by
    have h2 : ds.length ≤ 1000 ∧ ∀ x ∈ ds, wf n x = true := by simpa [wf] using h
    have hi2 : ismAll ds = true := by simpa [ism] using hi
    have h3 : ∀ x ∈ ds, sl 1000 40 n x = true := fun x hx => sl_wf n x (h2.2 x hx) (ismAll_mem hi2 x hx)
    simpa [sl] using h3
  | n + 1, .tuple ds, h, hi => by
    have h2 : ds.length ≤ 1000 ∧ ∀ x ∈ ds, wf n x = true := by simpa [wf] using h
    have hi2 : ismAll ds = true := by simpa [ism] using hi
    have h3 : ∀ x ∈ ds, sl 1000 40 n x = true := fun x hx => sl_wf n x (h2.2 x hx) (ismAll_mem hi2 x hx)
    simpa [sl] using h3
  | 0, .list _, h, _ => by cases h
  | 0, .tuple _, h, _ => by cases h
  | n, .dict _, h, _ => by cases n <;> cases h
/-! ### values and patterns -/
theorem num_small {i : Int} (h : isNumD (.int i) = true) : i.natAbs < 10 ^ 12 := by
  have : -2147483648 ≤ i ∧ i ≤ 2147483647 := by simpa [isNumD] using h
  omega
theorem ValD.ism {n : Nat} {d : PyData} (h : ValD n d) : K25.ism d = true := by
  induction h with
  | intP n i h => simpa [intD, K25.ism, ismAll] using num_small h
  | cellP n i h =>
    have : i.natAbs < 10 ^ 12 := by omega
    simpa [cellD, K25.ism, ismAll] using this
  | con1 n s d h hb hd ih => simp [conD, K25.ism, ismAll, ih]
  | tupP n ds h2 h4 hd ih =>
    have := ismAll_of ih
    simp [tupD, K25.ism, ismAll, this]
  | _ => simp [boolD, unitD, conD, K25.ism, ismAll]
theorem PatD.ism {n : Nat} {d : PyData} (h : PatD n d) : K25.ism d = true := by
  induction h with
  | intP n i h => simpa [intD, K25.ism, ismAll] using num_small h
  | con1 n s d h hb hd ih => simp [conD, K25.ism, ismAll, ih]
  | tupP n ds h2 h4 hd ih =>
    have := ismAll_of ih
    simp [tupD, K25.ism, ismAll, this]
  | _ => simp [anyD, bindD, boolD, unitD, conD, K25.ism, ismAll]
theorem con_len : ∀ s ∈ conStrs, s.cps.size ≤ 7 := by decide +kernel
theorem sl_str {b : Nat} {x : Str} (h : x.cps.size ≤ 7) (n : Nat) : sl 7 b n (.str x) = true := by cases n <;> simpa [sl] using h
theorem ValD.sl {n : Nat} {d : PyData} (h : ValD n d) : K25.sl 7 32 (2 * n + 1) d = true := by
  induction h with
  | intP n i h =>
    have h2 : i.natAbs < 2 ^ 32 := by
      have : -2147483648 ≤ i ∧ i ≤ 2147483647 := by simpa [isNumD] using h
      omega
    refine sl_mkT fun x hx => ?_
    simp only [List.mem_cons, List.mem_nil_iff, or_false] at hx
    rcases hx with rfl | rfl
    · exact sl_str (by decide +kernel) _
    · exact sl_le (n := 0) (by simpa [K25.sl] using h2) (Nat.zero_le _)
  | cellP n i h =>
    have h2 : i.natAbs < 2 ^ 32 := by omega
    refine sl_mkT fun x hx => ?_
    simp only [List.mem_cons, List.mem_nil_iff, or_false] at hx
    rcases hx with rfl | rfl
    · exact sl_str (by decide +kernel) _
    · exact sl_le (n := 0) (by simpa [K25.sl] using h2) (Nat.zero_le _)
  | boolP n b =>
    refine sl_mkT fun x hx => ?_
    simp only [List.mem_cons, List.mem_nil_iff, or_false] at hx
    rcases hx with rfl | rfl
    · exact sl_str (by decide +kernel) _
    · exact sl_le (n := 0) rfl (Nat.zero_le _)
  | unitP n =>
    refine sl_mkT fun x hx => ?_
    simp only [List.mem_cons, List.mem_nil_iff, or_false] at hx
    subst hx
    exact sl_str (by decide +kernel) _
  | con0 n s h hb =>
    refine sl_mkT fun x hx => ?_
    simp only [List.mem_cons, List.mem_nil_iff, or_false] at hx
    rcases hx with rfl | rfl | rfl
    · exact sl_str (by decide +kernel) _
    · exact sl_str (con_len _ hb.2) _
    · exact sl_le (n := 0) rfl (Nat.zero_le _)
  | con1 n s d h hb hd ih =>
    refine sl_mkT fun x hx => ?_
    simp only [List.mem_cons, List.mem_nil_iff, or_false] at hx
    rcases hx with rfl | rfl | rfl
    · exact sl_str (by decide +kernel) _
    · exact sl_str (con_len _ hb.2) _
    · exact sl_le ih (by omega)
  | tupP n ds h2 h4 hd ih =>
    refine sl_mkT fun x hx => ?_
    simp only [List.mem_cons, List.mem_nil_iff, or_false] at hx
    rcases hx with rfl | rfl
    · exact sl_str (by decide +kernel) _
    · exact sl_le (n := 2 * n + 2) (sl_mkT fun y hy => ih y hy) (by omega)
theorem vb_four {n : Nat} (hn : n ≤ 4) : vb n ≤ 283 := by
  have : n = 0 ∨ n = 1 ∨ n = 2 ∨ n = 3 ∨ n = 4 := by omega
  rcases this with rfl | rfl | rfl | rfl | rfl <;> decide
theorem ValD.wt {n : Nat} {d : PyData} (hn : n ≤ 4) (h : ValD n d) : PyData.weight d + 1 ≤ 13867 := by
  have h1 := h.facts.1
  have h3 := sl_wt _ d h.sl
  have h4 := vb_four hn
  have h5 : (7 + 32 + 1 + (2 * n + 1)) * lv d ≤ 49 * 283 := Nat.mul_le_mul (by omega) (by omega)
  omega
theorem ValD.rpr {n : Nat} {d : PyData} (hn : n ≤ 4) (h : ValD n d) : Rpr d := by
  obtain ⟨h1, h2⟩ := h.facts
  have h3 := h.wt hn
  exact ⟨wf_le (by omega) (bw_wf _ d (by decide) h2).1, h.ism, by omega⟩
theorem ValD.plQ {n : Nat} {d : PyData} (hn : n ≤ 4) (h : ValD n d) : PlQ d := by
  obtain ⟨h1, h2⟩ := h.facts
  have h4 : vb n ≤ 283 := by
    have : n = 0 ∨ n = 1 ∨ n = 2 ∨ n = 3 ∨ n = 4 := by omega
    rcases this with rfl | rfl | rfl | rfl | rfl <;> decide
  have h5 := szV_lv 32 d
  exact ⟨wf_le (by omega) (bw_wf _ d (by decide) h2).1, by omega⟩
theorem PatD.lv {n : Nat} {d : PyData} (h : PatD n d) : K25.lv d ≤ vb n := by
  induction h with
  | con1 n s d h hb hd ih =>
    have h3 := vb_ge n
    have : K25.lv (conD s d) = max 1 (1 + (1 + (K25.lv d + 0))) := by simp [conD, K25.lv, lvs]
    rw [this, vb]
    omega
  | tupP n ds h2 h4 hd ih =>
    have h3 := vb_ge n
    have h5 : K25.lv (tupD ds) = max 1 (1 + (max 1 (lvs ds) + 0)) := by simp [tupD, K25.lv, lvs]
    have h6 := sz_sum (f := K25.lv) (g := fun _ => vb n) ds fun x hx => ih x hx
    rw [lvs_sum] at h6
    have h7 : (ds.map fun _ => vb n).sum = ds.length * vb n := by
      clear h6 h5 ih hd h2 h4
      induction ds with
      | nil => simp
      | cons x r ihr => rw [List.map_cons, List.sum_cons, ihr, List.length_cons, Nat.add_mul]; omega
    rw [h7] at h6
    have h8 : ds.length * vb n ≤ 3 * vb n := Nat.mul_le_mul_right _ h4
    rw [h5, vb]
    omega
  | anyP n => exact Nat.le_trans (by simp [anyD, K25.lv, lvs]) (vb_ge n)
  | bindP n s h hn => exact Nat.le_trans (by simp [bindD, K25.lv, lvs]) (vb_ge n)
  | intP n i h => exact Nat.le_trans (by simp [intD, K25.lv, lvs]) (vb_ge n)
  | boolP n b => exact Nat.le_trans (by simp [boolD, K25.lv, lvs]) (vb_ge n)
  | unitP n => exact Nat.le_trans (by simp [unitD, K25.lv, lvs]) (vb_ge n)
  | con0 n s h hb => exact Nat.le_trans (by simp [conD, K25.lv, lvs]) (vb_ge n)
theorem PatD.wt {d : PyData} (h : PatD 3 d) : PyData.weight d + 1 ≤ 98606 := by
  have h1 := h.lv
  have h2 := sl_wt _ d (sl_wf 8 d h.wf h.ism)
  have h3 : vb 3 = 94 := by decide
  have h5 : (1000 + 40 + 1 + 8) * K25.lv d ≤ 1049 * 94 := Nat.mul_le_mul (by omega) (by omega)
  omega
theorem wts_le {c : Nat} : ∀ ds : List PyData, (∀ x ∈ ds, PyData.weight x + 1 ≤ c) → PyData.weightAll ds ≤ c * ds.length
  | [], _ => by simp [PyData.weightAll]
  | x :: r, h => by
    have h1 := h x List.mem_cons_self
    have h2 := wts_le r fun y hy => h y (List.mem_cons_of_mem _ hy)
    simp only [PyData.weightAll, List.length_cons, Nat.mul_add]
    omega
theorem both_rpr {ps : List PyData} {d : PyData} (hp : ∀ x ∈ ps, GoodP x) (hl : ps.length ≤ 5) (hd : ValD 4 d) : Rpr (.list [.list ps, d]) := by
  have h1 := wts_le (c := 98606) ps fun x hx => (hp x hx).1.wt
  have h2 := hd.wt (Nat.le_refl 4)
  have h3 : 98606 * ps.length ≤ 98606 * 5 := Nat.mul_le_mul_left _ hl
  have hw : wf 10 d = true := wf_le (by decide) (bw_wf _ d (by decide) hd.facts.2).1
  have hv : ∀ x ∈ ps, wf 9 x = true := fun x hx => wf_le (by decide) (hp x hx).1.wf
  refine ⟨wf_le (n := 11) (by decide) ?_, ?_, ?_⟩
  · have h4 : ps.length ≤ 1000 := by omega
    simp [wf, hw, h4]
    exact hv
  · have h5 := ismAll_of fun x hx => (hp x hx).1.ism
    simp [ism, ismAll, h5, hd.ism]
  · simp only [PyData.weight, PyData.weightAll]
    omega
theorem mch_bndK (k : Nat) : ∀ (n : Nat) (p v : PyData), PatD n p → ValQ v → ∀ ks, mch (n + 1 + k) p v = some ks → Bnd (4 ^ n) ks
  | 0, p, v, hp, hv, ks, e => by
    have e2 : mchF (mch k) p v = some ks := by
      rw [show 0 + 1 + k = k + 1 by omega] at e
      exact e
    have := mchF_bnd (rec := mch k) (c := 1) (Nat.le_refl 1) hp hv (fun p v h => by obtain ⟨m, h, _⟩ := h; omega) ks e2
    simpa using this
  | n + 1, p, v, hp, hv, ks, e => by
    have e2 : mchF (mch (n + 1 + k)) p v = some ks := by
      rw [show n + 1 + 1 + k = (n + 1 + k) + 1 by omega] at e
      exact e
    have := mchF_bnd (rec := mch (n + 1 + k)) (c := 4 ^ n) (Nat.one_le_pow _ _ (by decide)) hp hv (fun p v h hv ks e3 => by
      obtain ⟨m, h, hm⟩ := h
      have : m = n := by omega
      subst this
      exact ⟨mch_bndK k m p v hm hv ks e3, by omega⟩) ks e2
    rw [if_neg (by omega)] at this
    rw [Nat.pow_succ, Nat.mul_comm]
    exact this
theorem binds_rpr {p v : PyData} (hp : PatD 3 p) (hv : ValQ v) : Rpr (oD (mch 5 p v)) := by
  cases e : mch 5 p v with
  | none => exact ⟨rfl, rfl, by simp [oD, PyData.weight]⟩
  | some ks =>
    obtain ⟨h1, h2⟩ := mch_bndK 1 3 p v hp hv ks e
    have h1 : ks.length ≤ 64 := h1
    have one : ∀ x ∈ ks, wf 11 x = true ∧ ism x = true ∧ PyData.weight x + 1 ≤ 13890 := fun x hx => by
      obtain ⟨s, u, rfl, hs, ⟨m, hm, hu⟩, hl⟩ := h2 x hx
      have w1 : wf 10 u = true := wf_le (by omega) (bw_wf _ u (by decide) hu.facts.2).1
      have w2 : wf 10 (.str s) = true := wf_any _ hs
      refine ⟨?_, by simp [ism, ismAll, hu.ism], ?_⟩
      · have : ∀ y ∈ [PyData.str s, u], wf 10 y = true := fun y hy => by
          simp only [List.mem_cons, List.mem_nil_iff, or_false] at hy
          rcases hy with rfl | rfl
          · exact w2
          · exact w1
        simp [wf]
        exact ⟨by simpa [wf] using w2, w1⟩
      · have w3 := hu.wt hm
        have w4 : s.cps.size ≤ 20 := hl
        simp only [PyData.weight, PyData.weightAll]
        omega
    have h3 := wts_le (c := 13890) ks fun x hx => (one x hx).2.2
    have h4 : 13890 * ks.length ≤ 13890 * 64 := Nat.mul_le_mul_left _ h1
    refine ⟨wf_le (n := 12) (by decide) ?_, ?_, ?_⟩
    · have h5 : ks.length ≤ 1000 := by omega
      simp [oD, wf, h5]
      exact fun x hx => (one x hx).1
    · have := ismAll_of fun x hx => (one x hx).2.1
      simpa [oD, ism] using this
    · simp only [oD, PyData.weight]
      omega
end K25

end

section
set_option maxHeartbeats 4000000
namespace K25
open PySem PySem.Spec PyProof.Rows L2 Evl
/-! ### all but tables stay -/
abbrev XN := LamX.ExtN
theorem XN.t {K : PySem.W.Frag} {H H' : Hp} (e : XN H H') {a : Addr} {xs : List V} (h : SqT K H a xs) : SqT K H' a xs := by
  rcases h with (q | ⟨o, q⟩) | q
  · exact .inl (.inl (e _ _ q fun _ z => by cases z))
  · exact .inl (.inr ⟨o, e _ _ q fun _ z => by cases z⟩)
  · exact .inr q
theorem XN.l {K : PySem.W.Frag} {H H' : Hp} (e : XN H H') {a : Addr} {xs : List V} (h : SqL K H a xs) : SqL K H' a xs := by
  rcases h with (q | ⟨o, q⟩) | q
  · exact .inl (.inl (e _ _ q fun _ z => by cases z))
  · exact .inl (.inr ⟨o, e _ _ q fun _ z => by cases z⟩)
  · exact .inr q
mutual
theorem XN.dp {K : PySem.W.Frag} {H H' : Hp} (e : XN H H') : ∀ (d : PyData) (v : V), Dp K H v d → Dp K H' v d
  | .none, _, h => by cases h; exact .non
  | .bool _, _, h => by cases h; exact .bl _
  | .int _, _, h => by cases h; exact .int _
  | .str _, _, h => by cases h; exact .str _
  | .list ds, _, h => by
    cases h with
    | lst hs ha => exact .lst (e.l hs) (XN.dps e ds _ ha)
  | .tuple ds, _, h => by
    cases h with
    | tup hs ha => exact .tup (e.t hs) (XN.dps e ds _ ha)
  | .dict _, _, h => by cases h
theorem XN.dps {K : PySem.W.Frag} {H H' : Hp} (e : XN H H') : ∀ (ds : List PyData) (vs : List V), DpAll K H vs ds → DpAll K H' vs ds
  | [], _, h => by cases h; exact .nil
  | d :: ds, _, h => by
    cases h with
    | cons h1 h2 => exact .cons (XN.dp e d _ h1) (XN.dps e ds _ h2)
end
theorem XN.ex {H H' : Hp} (e : Ex H H') : XN H H' := fun b o h _ => e b o h
/-! ### the odd things, one of a kind -/
/-- stays so, whatever the tables do -/
def Stays (Pr : Hp → V → Prop) : Prop := ∀ H H' v, XN H H' → Pr H v → Pr H' v
def EvP (te : TE) (σ : L2.St) (H : Hp) (Pr : Hp → V → Prop) : Prop := ∀ H1, Ex H H1 → ∀ Q : VK, (∀ v H2, Ex H1 H2 → Pr H2 v → Q v H2) → te σ H1 Q
def EaP (ta : TA) (σ : L2.St) (H : Hp) (Pr : Hp → V → Prop) (n : Nat) : Prop := ∀ H1, Ex H H1 → ∀ Q : List V → Hp → Prop, (∀ vs H2, Ex H1 H2 → (∀ v ∈ vs, Pr H2 v) → vs.length = n → Q vs H2) → ta σ H1 Q
theorem eap_nil {σ : L2.St} {H : Hp} {Pr : Hp → V → Prop} : EaP tNil σ H Pr 0 := fun H1 _ _ q => q [] H1 (Ex.refl H1) (fun _ h => by cases h) rfl
theorem eap_cons {σ : L2.St} {H : Hp} {Pr : Hp → V → Prop} {te : TE} {ta : TA} {n : Nat} (st : Stays Pr) (h : EvP te σ H Pr) (hr : EaP ta σ H Pr n) : EaP (tCons te ta) σ H Pr (n + 1) := fun H1 e _ q =>
  h H1 e _ fun v H2 e2 hv => hr H2 (e.trans e2) _ fun vs H3 e3 hvs hl => q _ H3 (e2.trans e3) (fun x hx => by
    rcases List.mem_cons.mp hx with rfl | hx
    · exact st _ _ _ (.ex e3) hv
    · exact hvs x hx) (by rw [List.length_cons, hl])
/-- data of a kind -/
def DK (K : PySem.W.Frag) (pr : PyData → Prop) : Hp → V → Prop := fun H v => ∃ d, Dp K H v d ∧ Rpr d ∧ pr d
theorem DK.stays {K : PySem.W.Frag} {pr : PyData → Prop} : Stays (DK K pr) := fun _ _ _ e ⟨d, h, r⟩ => ⟨d, e.dp _ _ h, r⟩
theorem evp_d {K : PySem.W.Frag} {σ : L2.St} {H : Hp} {te : TE} {d : PyData} {pr : PyData → Prop} (h : Ed K te σ H d) (hr : Rpr d) (hp : pr d) : EvP te σ H (DK K pr) := fun H1 e Q q => h H1 e _ fun v H2 e2 hd => q v H2 e2 ⟨d, hd, hr, hp⟩
theorem ed_rep {K : PySem.W.Frag} {σ : L2.St} {H : Hp} {ta tb : TE} {n : Nat} {ds : List PyData} (h : En K ta σ H (.list ds)) (hi : Ed K tb σ H (.int (n : Int))) (hn : n ≤ 10 := by decide) (hz : ds.length ≤ 10 := by decide) : Ed K (tOp rRep ta tb) σ H (.list (List.replicate n ds).flatten) := fun H1 e Q q =>
  h H1 e _ fun v H2 e2 hv _ => hi H2 (e.trans e2) _ fun w H3 e3 hw => by
    obtain ⟨p, xs, rfl, hp, ha⟩ := hv.lst
    have hx := dps_len ha
    refine ⟨p, (n : Int), xs, rfl, dp_int hw, e3 _ _ hp, by omega, by omega, ?_, fun l hl => q _ _ ((e2.trans e3).trans (Ex.new hl)) ?_⟩
    · refine sz_of ?_
      rw [Int.toNat_natCast]
      have : xs.length * n ≤ 10 * 10 := Nat.mul_le_mul (by omega) hn
      omega
    · refine .lst (SqL.of upd_same) ?_
      rw [Int.toNat_natCast]
      have ha3 := dpsMono (Ex.new (o := .lst (List.replicate n xs).flatten) hl) _ _ (dpsMono e3 _ _ ha)
      clear hn hw hi q
      generalize upd H3 l (.lst (List.replicate n xs).flatten) = HH at ha3 ⊢
      induction n with
      | zero => exact .nil
      | succ n ih =>
        rw [List.replicate_succ, List.replicate_succ, List.flatten_cons, List.flatten_cons]
        exact dps_app ha3 ih
/-! ### what is heard of a wrong call -/
section
variable {K : PySem.W.Frag} {T0 : List (Addr × Str)} {σ : L2.St} {H : Hp} {te : TE} {w z : Str} {D : Ends} {tz : TS}
theorem RV.xn {H H' : Hp} {v : V} {z : Str} (e : XN H H') (h : RV K H v z) : RV K H' v z := by
  rcases h with ⟨d, h1, h2, h3⟩ | ⟨p, h1, h2, h3⟩
  · exact .inl ⟨d, e.dp _ _ h1, h2, h3⟩
  · exact .inr ⟨p, h1, e _ _ h2 (fun _ z => by cases z), h3⟩
theorem heard_lets {C : Addr} {v : V} {H1 : Hp} {Q : VK} (hs : Said K C w) (hT : LamX.Tabs T0 H1) (hv : RV K H1 v z) (q : ∀ p H3, Ex H1 H3 → LamX.Tabs T0 H3 → H3 p = some (.lst [.str w, .str z, .bl true]) → Q (.ref p) H3) : Lets C v H1 (HeardX K Q) := fun H' dd e hdd =>
  ⟨C, w, dd, v, z, rfl, rfl, hs, upd_same, (hv.mono e).mono (Ex.new hdd), fun p hp => by
    have e3 : Ex H1 (upd (upd H' dd (.xd [(("value" : Str), v)])) p (.lst [.str w, .str z, .bl true])) := (e.trans (Ex.new hdd)).trans (Ex.new hp)
    exact q p _ e3 (hT.ext e3) upd_same⟩
/-- what evaluates to the three words -/
def EvH (K : PySem.W.Frag) (T0 : List (Addr × Str)) (te : TE) (σ : L2.St) (H : Hp) (w z : Str) : Prop := ∀ H1, XN H H1 → LamX.Tabs T0 H1 → ∀ Q : VK, (∀ p H3, XN H1 H3 → LamX.Tabs T0 H3 → H3 p = some (.lst [.str w, .str z, .bl true]) → Q (.ref p) H3) → te σ H1 Q
theorem evh_lam {C : Addr} {v : V} {t : XK → TE} (hs : Said K C w) (hv : RV K H v z) (ht : ∀ H1 E Qn, XN H H1 → Lets C v H1 E → t E σ H1 Qn) : EvH K T0 (LamX.tLam T0 (TTh K) t) σ H w z := fun H1 e T1 Q q =>
  ⟨T1, fun H2 e2 T2 Qn => ht H2 _ Qn (e.trans e2) (heard_lets hs T2 (hv.xn (e.trans e2)) fun p H3 e3 T3 hp => q p H3 (e2.trans (XN.ex e3)) T3 hp)⟩
theorem words_dp {H : Hp} {p : Addr} (h : H p = some (.lst [.str w, .str z, .bl true])) : Dp K H (.ref p) (.list [.str w, .str z, .bool true]) := .lst (SqL.of h) (.cons (.str _) (.cons (.str _) (.cons (.bl _) .nil)))
theorem words_ok (hw : PyData.strOk w = true) (hz : PyData.strOk z = true) : SeqAt.shaped (.list [.str w, .str z, .bool true]) = true := by
  unfold SeqAt.shaped
  simp [PyData.canLay0, PyData.canLayAll0, hw, hz, PyData.depth, PyData.depthAll]
theorem evh_ne (hw : PyData.strOk w = true) (hz : PyData.strOk z = true) (h : EvH K T0 te σ H w z) (h5 : σ[5]? = some (some (.str z))) (hT : LamX.Tabs T0 H) (k : ∀ H3, XN H H3 → LamX.Tabs T0 H3 → D.nx σ H3) :
    tIfS (tTest (tOp (rNeD K) te (tLst (tCons (tC (.str w)) (tCons (tVar 5) (tCons (tC (.bl true)) tNil)))))) (tRet (tC (.bl false))) tNext D σ H := by
  refine h H (LamX.ExtN.refl H) hT _ fun p H3 e3 T3 hp => ⟨.str z, h5, sz_of (by simp), fun p2 hp2 => ?_⟩
  refine ⟨_, _, words_dp (by rw [upd_ne (fun z => by rw [z, hp2] at hp; cases hp)]; exact hp), words_dp upd_same, words_ok hw hz, words_ok hw hz, ?_⟩
  refine ⟨false, ?_, k _ (e3.trans (XN.ex (Ex.new hp2))) (T3.ext (Ex.new hp2))⟩
  simp [PyData.eqv, PyData.eqvAll]
/-- a loop over odd things -/
theorem loopR {Pr : Hp → V → Prop} {ta : TA} {tb : TS} {n : Nat} {a b c d : V} {x4 x5 x6 : Option V} (st : Stays Pr) (hl : EaP ta [some a, some b, some c, some d, x4, x5, x6] H Pr n) (hn : n ≤ 100) (hT : LamX.Tabs T0 H)
    (hb : ∀ x y5 y6 H' N, XN H H' → LamX.Tabs T0 H' → Pr H' x → (∀ y5 y6 H2, XN H' H2 → LamX.Tabs T0 H2 → N [some a, some b, some c, some d, some x, y5, y6] H2) → tb { D with nx := N, ct := N, bk := tz D } [some a, some b, some c, some d, some x, y5, y6] H')
    (hd : ∀ y4 y5 y6 H', XN H H' → LamX.Tabs T0 H' → tz D [some a, some b, some c, some d, y4, y5, y6] H') : tSeq (tFor (iList K (tLst ta)) (gName 4) tb) tz D [some a, some b, some c, some d, x4, x5, x6] H := by
  refine q_forX (hl H (Ex.refl H) _ fun vs H1 e1 hvs hlen => ⟨sz_of (by omega), fun p hp => ⟨p, rfl, ⟨vs, SqL.of upd_same⟩, ?_⟩⟩)
  have e2 := e1.trans (Ex.new (o := .lst vs) hp)
  refine forT_list (xs := vs) (fun _ σ' H' => ∃ y4 y5 y6, σ' = [some a, some b, some c, some d, y4, y5, y6] ∧ XN (upd H1 p (.lst vs)) H' ∧ LamX.Tabs T0 H') ⟨_, _, _, rfl, LamX.ExtN.refl _, hT.ext e2⟩ (fun i σ' H' _ hh => ?_) (fun i x σ' H' hx hh => ?_) (fun σ' H' hh => ?_)
  · obtain ⟨_, _, _, _, h1, _⟩ := hh
    exact h1.l (SqL.of upd_same)
  · obtain ⟨y4, y5, y6, rfl, h1, h2⟩ := hh
    refine hb x y5 y6 H' _ ((XN.ex e2).trans h1) h2 (st _ _ _ ((XN.ex (Ex.new hp)).trans h1) (hvs x (List.mem_of_getElem? hx))) fun z5 z6 H2 e3 T3 => ?_
    exact ⟨_, _, _, rfl, h1.trans e3, T3⟩
  · obtain ⟨y4, y5, y6, rfl, h1, h2⟩ := hh
    exact hd _ _ _ H' ((XN.ex e2).trans h1) h2
end
section
variable {P : Program} {w : World} {K : PySem.W.Frag} {mg : Str → Option Value} {base : Heap}
def lamN : Str := "_law_refused_right.<locals>.<lambda>"
def spRef (K : PySem.W.Frag) (tab : Addr) : Sp := fun vs H Q _ => ∃ v v2 dv dp, vs = [v, v2] ∧ Dp K H v dv ∧ Dp K H v2 dp ∧ ValD 4 dv ∧ GoodP dp ∧ LamX.Tabs [(tab, lamN)] H ∧ ∀ H', Q (.bl true) H'
theorem sc__law_refused_right : FnScope ["_law_value_here", "_law_pattern_here", "_law_told", "_law_twice", "_law_odd", "_law_shown", "_law_heard_here"] ["_law_value_here", "_law_pattern_here"] (defScope s81) := ⟨rfl, rfl, rfl, by decide +kernel, rfl, by decide +kernel, by decide +kernel⟩
theorem odd_no {d : PyData} (h1 : wf 40 d = true) (h2 : patIn d = .none) (h3 : isTupD d = true → frz d = true) : PreP d ∧ isPatF d = false := ⟨⟨h1, .inl ⟨h2, h3⟩⟩, by unfold isPatF; rw [h2]; rfl⟩
def twD : PyData := .tuple [.str "tuple", .tuple [.tuple [.str "bind", .str "a"], .tuple [.str "bind", .str "a"]]]
theorem odd_tw : PreP twD ∧ isPatF twD = false := by
  refine ⟨⟨by decide +kernel, .inr ?_⟩, by decide +kernel⟩
  refine PatD.tupP 3 [bindD "a", bindD "a"] (by decide) (by decide) fun d hd => ?_
  have : d = bindD "a" := by simpa using hd
  subst this
  exact .bindP 3 "a" (by unfold sOk; decide +kernel) (by decide +kernel)
/-- what is no list of patterns -/
def Bad2 (d : PyData) : Prop := (isListD d = false ∧ isTupD d = false) ∨ ∃ ds, (d = .list ds ∨ d = .tuple ds) ∧ ds.length ≤ 1000 ∧ (1 ≤ ds.length → ds.length ≤ 8 → ∀ x ∈ ds, PreP x) ∧ ((decide ((1 : Int) ≤ (ds.length : Int)) && decide ((ds.length : Int) ≤ 8)) && ds.all isPatF) = false
def Pr2 (K : PySem.W.Frag) : Hp → V → Prop := fun H v => DK K Bad2 H v ∨ ∃ p, v = .ref p ∧ H p = some (.dK [])
theorem Pr2.stays {K : PySem.W.Frag} : Stays (Pr2 K) := fun _ _ _ e h => by
  rcases h with h | ⟨p, h1, h2⟩
  · exact .inl (DK.stays _ _ _ e h)
  · exact .inr ⟨p, h1, e _ _ h2 fun _ z => by cases z⟩
theorem ev2 {σ : L2.St} {H : Hp} {te : TE} {d : PyData} (h : Ed K te σ H d) (hr : Rpr d) (hp : Bad2 d) : EvP te σ H (Pr2 K) := fun H1 e Q q => evp_d h hr hp H1 e Q fun v H2 e2 hd => q v H2 e2 (.inl hd)
theorem ev2_dict {σ : L2.St} {H : Hp} : EvP tDNewK σ H (Pr2 K) := fun H1 e Q q p hp => q _ _ (Ex.new hp) (.inr ⟨p, rfl, upd_same⟩)
theorem pre_any : PreP (.tuple [.str "any"]) := ⟨by decide +kernel, .inr (.anyP 4)⟩
theorem Pr2.lets {H : Hp} {x y : V} {Q : VK} {E : XK} (h : Pr2 K H x) (hl : Lets (He.ga K "InvalidPatterns") x H E) : spFirst K [x, y] H Q E := by
  refine ⟨x, y, rfl, ?_⟩
  rcases h with ⟨d, hd, _, h⟩ | ⟨p, rfl, hp⟩
  · rcases h with ⟨h1, h2⟩ | ⟨ds, h1, h2, h3, h4⟩
    · exact .inl ⟨tyD d, tyX_kit hd, (kit_list d).trans (congrArg some h1), (kit_tuple d).trans (congrArg some h2), hl⟩
    · exact .inr ⟨d, ds, hd, h1, h2, h3, .inl ⟨h4, hl⟩⟩
  · exact .inl ⟨"dict", .base (.dK hp), by decide +kernel, by decide +kernel, hl⟩
theorem Pr2.rv {H : Hp} {x : V} (h : Pr2 K H x) : ∃ z, RV K H x z := by
  rcases h with ⟨d, hd, hr, _⟩ | ⟨p, rfl, hp⟩
  · exact ⟨_, .inl ⟨d, hd, hr, rfl⟩⟩
  · exact ⟨_, .inr ⟨p, rfl, hp, rfl⟩⟩
theorem tabs_setL {T0 : List (Addr × Str)} {H : Hp} {l : Addr} {xs ys : List V} (h : LamX.Tabs T0 H) (hl : H l = some (.lst xs)) : LamX.Tabs T0 (upd H l (.lst ys)) := fun p hp => by
  obtain ⟨ps, h1, h2, h3⟩ := h p hp
  refine ⟨ps, by rw [upd_ne (fun z => by rw [z, hl] at h1; cases h1)]; exact h1, h2, fun pos cv hc => ?_⟩
  obtain ⟨c, e1, e2⟩ := h3 pos cv hc
  refine ⟨c, e1, ?_⟩
  rw [upd_ne (fun z => by
    rw [z, hl] at e2
    unfold LamX.CodeO at e2
    cases e2)]
  exact e2
theorem two_ok {w0 z0 : Str} (h : SeqAt.shaped (.list [.str w0, .str z0, .bool true]) = true) : SeqAt.shaped (.list [.list [.str w0, .str z0, .bool true], .list [.str w0, .str z0, .bool true]]) = true := by
  unfold SeqAt.shaped at h ⊢
  simp only [PyData.canLay0, PyData.canLayAll0, PyData.depth, PyData.depthAll, Bool.and_eq_true, decide_eq_true_eq] at h ⊢
  simp_all
theorem pre_told : ∀ y ∈ ([.tuple [.str "any"], .tuple [.str "unit"]] : List PyData), PreP y := fun y hy => by
  rcases List.mem_cons.mp hy with rfl | hy
  · exact pre_any
  · rw [List.mem_singleton.mp hy]
    exact ⟨by decide +kernel, .inr (.unitP 4)⟩
theorem one_plain (d : PyData) : plR 32 (.tuple [.str "tuple", .tuple [d]]) = false := rfl
theorem lst_plain (d : PyData) : plR 32 (.list [d]) = false := rfl
theorem one_wf {n : Nat} {d : PyData} (h : wf n d = true) : wf (n + 2) (.tuple [.str "tuple", .tuple [d]]) = true := by
  have h1 : PyData.strOk "tuple" = true := by decide +kernel
  have h2 : ("tuple" : Str).length ≤ 1000 := by decide +kernel
  simp [wf, h, h1, h2]
theorem lst_wf {n : Nat} {d : PyData} (h : wf n d = true) : wf (n + 1) (.list [d]) = true := by simp [wf, h]
theorem one_rpr {d : PyData} (h : ValD 4 d) : Rpr (.tuple [.str "tuple", .tuple [d]]) := by
  have h1 := h.wt (Nat.le_refl 4)
  have h2 := (bw_wf _ d (by decide) h.facts.2).1
  refine ⟨wf_le (by decide) (one_wf h2), by simp [ism, ismAll, h.ism], ?_⟩
  have : ("tuple" : Str).cps.size = 5 := by decide +kernel
  simp only [PyData.weight, PyData.weightAll, this]
  omega
theorem lst_rpr {d : PyData} (h : ValD 4 d) : Rpr (.list [d]) := by
  have h1 := h.wt (Nat.le_refl 4)
  have h2 := (bw_wf _ d (by decide) h.facts.2).1
  refine ⟨wf_le (by decide) (lst_wf h2), by simp [ism, ismAll, h.ism], ?_⟩
  simp only [PyData.weight, PyData.weightAll]
  omega
theorem one_plQ {d : PyData} (h : ValD 4 d) : PlQ (.tuple [.str "tuple", .tuple [d]]) ∧ plR 32 (.tuple [.str "tuple", .tuple [d]]) = false := by
  have h2 := (bw_wf _ d (by decide) h.facts.2).1
  refine ⟨⟨wf_le (by decide) (one_wf h2), ?_⟩, rfl⟩
  have h3 := szV_lv 32 (.tuple [.str "tuple", .tuple [d]])
  have h4 : lv d ≤ 283 := h.facts.1
  have h5 : lv (.tuple [.str "tuple", .tuple [d]]) ≤ 1 + (1 + (1 + lv d)) := by simp [lv, lvs]; omega
  omega
theorem lst_plQ {d : PyData} (h : ValD 4 d) : PlQ (.list [d]) ∧ plR 32 (.list [d]) = false := by
  have h2 := (bw_wf _ d (by decide) h.facts.2).1
  refine ⟨⟨wf_le (by decide) (lst_wf h2), ?_⟩, rfl⟩
  have h3 := szV_lv 32 (.list [d])
  have h4 : lv d ≤ 283 := h.facts.1
  have h5 : lv (.list [d]) ≤ 1 + lv d := by simp [lv, lvs]; omega
  omega
theorem ok__law_refused_right {c tab : Addr} (T : Tx K mg) (R : ErrT K) (TB : LamX.TabB base mg c tab) (hc : CodeAt K "_law_refused_right" c) : DfG P w K mg base 16 "_law_refused_right" ["_law_value_here", "_law_pattern_here"] (spRef K tab) := by
  have D_bindings := ok_bindings (P := P) (w := w) (base := base) T R
  have D_first_rule := ok_first_rule (P := P) (w := w) (base := base) T R
  have K_first_rule := ok_first_ruleK (P := P) (w := w) (base := base) T R
  refine dfG_ok T.f__law_refused_right T.g__law_refused_right sc__law_refused_right (fun vs H Q E h => by
    obtain ⟨v, v2, _, _, rfl, _⟩ := h
    rfl) (fun _ _ _ _ _ _ us hl => match us, hl with | [_, _], _ => rfl) fun cdv A outer s H vs Q hcd hgd hr h => ?_
  obtain ⟨v, v2, dv, dp, rfl, hv, hv2, hvd, hgp, hT, q⟩ := h
  have hcc := hcd c hc
  clear hcd
  subst hcc
  have nd := sc__law_refused_right.nd
  refine ⟨_, (pss_cons (ps_set (i := 2) nd rfl (Or.inr rfl) (pe_lst (pa_cons (pe_tup (pa_cons pe_str pa_nil)) (pa_cons (pe_tup (pa_cons pe_str pa_nil)) pa_nil))))
      (pss_cons (ps_set (i := 3) nd rfl (Or.inl rfl) (pe_tup (pa_cons pe_str (pa_cons (pe_tup (pa_cons (pe_tup (pa_cons pe_str (pa_cons pe_str pa_nil))) (pa_cons (pe_tup (pa_cons pe_str (pa_cons pe_str pa_nil))) pa_nil))) pa_nil))))
      (pss_cons (ps_for PassesOwn.never rfl (pi_list (pe_lst (pa_cons pe_non (pa_cons pe_int (pa_cons (pe_tup pa_nil) (pa_cons (pe_lst (pa_cons pe_str pa_nil)) (pa_cons (pe_tup (pa_cons pe_str (pa_cons pe_bl pa_nil))) (pa_cons (pe_tup (pa_cons pe_str (pa_cons pe_str pa_nil))) (pa_cons (pe_tup (pa_cons pe_str (pa_cons pe_int pa_nil))) (pa_cons (pv 3) pa_nil)))))))))) (pg_name (i := 4) nd rfl (Or.inr rfl))
      (pss_cons (ps_set (i := 5) nd rfl (Or.inl rfl) (pe_callB (c_rp hgd hr) (by rfl) T.n_repr (by decide +kernel) (pa_cons (pv 4) pa_nil)))
      (pss_one (ps_if (pt_cmpR (op_neD hr.units) (pe_heard (q := lamN) T R hgd hr TB rfl (LamX.lamS_by (sc := defScope s81) (by decide +kernel)) (fun A outer s H E f c hr2 => (pe_dfS D_bindings hr2 lam_tk (pa_cons (pv 4) (pa_cons pe_non pa_nil))))) (pe_lst (pa_cons pe_str (pa_cons (pv 5) (pa_cons pe_bl pa_nil)))) (nomark _)) (pss_one (ps_ret pe_bl)) pss_nil))))
      (pss_cons (ps_for PassesOwn.never rfl (pi_list (pe_lst (pa_cons pe_non (pa_cons pe_int (pa_cons (pe_lst pa_nil) (pa_cons (pe_tup pa_nil) (pa_cons pe_str (pa_cons (pe_op op_rep (pe_lst (pa_cons (pe_tup (pa_cons pe_str pa_nil)) pa_nil)) pe_int) (pa_cons (pe_lst (pa_cons (pe_tup (pa_cons pe_str pa_nil)) (pa_cons (pe_tup (pa_cons pe_str (pa_cons pe_int pa_nil))) pa_nil))) (pa_cons (pe_lst (pa_cons (pv 3) pa_nil)) (pa_cons pe_dnewK pa_nil))))))))))) (pg_name (i := 4) nd rfl (Or.inr rfl))
      (pss_cons (ps_set (i := 5) nd rfl (Or.inl rfl) (pe_callB (c_rp hgd hr) (by rfl) T.n_repr (by decide +kernel) (pa_cons (pv 4) pa_nil)))
      (pss_one (ps_if (pt_cmpR (op_neD hr.units) (pe_heard (q := lamN) T R hgd hr TB rfl (LamX.lamS_by (sc := defScope s81) (by decide +kernel)) (fun A outer s H E f c hr2 => (pe_dfK K_first_rule T.g_first_rule hr2 lam_tk (pk_cons pe_non (pk_cons (pv 4) pk_nil)) (by decide) kb_first_rule))) (pe_lst (pa_cons pe_str (pa_cons (pv 5) (pa_cons pe_bl pa_nil)))) (nomark _)) (pss_one (ps_ret pe_bl)) pss_nil))))
      (pss_cons (ps_for PassesOwn.never rfl (pi_list (pe_lst (pa_cons pe_non (pa_cons (pe_tup (pa_cons pe_str (pa_cons pe_int pa_nil))) (pa_cons (pe_tup (pa_cons pe_str (pa_cons pe_int pa_nil))) (pa_cons (pe_tup (pa_cons pe_str pa_nil)) (pa_cons (pe_tup (pa_cons pe_str (pa_cons (pe_tup (pa_cons (pv 0) pa_nil)) pa_nil))) (pa_cons (pe_lst (pa_cons (pv 0) pa_nil)) pa_nil)))))))) (pg_name (i := 4) nd rfl (Or.inr rfl))
      (pss_cons (ps_set (i := 5) nd rfl (Or.inl rfl) (pe_callB (c_rp hgd hr) (by rfl) T.n_repr (by decide +kernel) (pa_cons (pv 4) pa_nil)))
      (pss_cons (ps_set (i := 6) nd rfl (Or.inl rfl) (pe_lst (pa_cons (pe_heard (q := lamN) T R hgd hr TB rfl (LamX.lamS_by (sc := defScope s81) (by decide +kernel)) (fun A outer s H E f c hr2 => (pe_dfS D_bindings hr2 lam_tk (pa_cons (pv 1) (pa_cons (pv 4) pa_nil))))) pa_nil)))
      (pss_cons (ps_expr (pe_bm PySem.F.plainAttrs_list PySem.F.slot_list_append PySem.F.type_list_append mt_append (pv 6) (pa_cons (pe_heard (q := lamN) T R hgd hr TB rfl (LamX.lamS_by (sc := defScope s81) (by decide +kernel)) (fun A outer s H E f c hr2 => (pe_dfS D_first_rule hr2 lam_tk (pa_cons (pv 2) (pa_cons (pv 4) pa_nil))))) pa_nil)))
      (pss_one (ps_if (pt_cmpR (op_neD hr.units) (pv 6) (pe_op op_rep (pe_lst (pa_cons (pe_lst (pa_cons pe_str (pa_cons (pv 5) (pa_cons pe_bl pa_nil)))) pa_nil)) pe_int) (nomark _)) (pss_one (ps_ret pe_bl)) pss_nil))))))
      (pss_one (ps_ret pe_bl))))))), ?_⟩
  refine q_asgX (ed_lst (K := K) (ea_consD (ed_tup (ea_consD ed_str ea_nilD)) (ea_consD (ed_tup (ea_consD ed_str ea_nilD)) ea_nilD)) (by simp) H (Ex.refl H) _ fun vt H1 e1 ht => ?_)
  refine q_asgX (ed_tup (K := K) (ea_consD ed_str (ea_consD (ed_tup (ea_consD (ed_tup (ea_consD ed_str (ea_consD ed_str ea_nilD))) (ea_consD (ed_tup (ea_consD ed_str (ea_consD ed_str ea_nilD))) ea_nilD))) ea_nilD)) (by simp) H1 (Ex.refl H1) _ fun vw H2 e2 hw => ?_)
  have st1 : Stays (DK K fun d => PreP d ∧ isPatF d = false) := DK.stays
  refine loopR (n := 8) st1 (eap_cons st1 (evp_d ed_non ⟨by decide +kernel, by decide +kernel, by decide +kernel⟩ (odd_no (by decide +kernel) rfl (by decide +kernel))) (eap_cons st1 (evp_d ed_int ⟨by decide +kernel, by decide +kernel, by decide +kernel⟩ (odd_no (by decide +kernel) rfl (by decide +kernel))) (eap_cons st1 (evp_d (ed_tup ea_nilD) ⟨by decide +kernel, by decide +kernel, by decide +kernel⟩ (odd_no (by decide +kernel) rfl (by decide +kernel))) (eap_cons st1 (evp_d (ed_lst (ea_consD ed_str ea_nilD)) ⟨by decide +kernel, by decide +kernel, by decide +kernel⟩ (odd_no (by decide +kernel) rfl (by decide +kernel)))
    (eap_cons st1 (evp_d (ed_tup (ea_consD ed_str (ea_consD ed_bl ea_nilD))) ⟨by decide +kernel, by decide +kernel, by decide +kernel⟩ (odd_no (by decide +kernel) rfl (by decide +kernel))) (eap_cons st1 (evp_d (ed_tup (ea_consD ed_str (ea_consD ed_str ea_nilD))) ⟨by decide +kernel, by decide +kernel, by decide +kernel⟩ (odd_no (by decide +kernel) rfl (by decide +kernel))) (eap_cons st1 (evp_d (ed_tup (ea_consD ed_str (ea_consD ed_int ea_nilD))) ⟨by decide +kernel, by decide +kernel, by decide +kernel⟩ (odd_no (by decide +kernel) rfl (by decide +kernel)))
    (eap_cons st1 (evp_d (d := twD) (ed_var rfl hw) ⟨by decide +kernel, by decide +kernel, by decide +kernel⟩ odd_tw) eap_nil)))))))) (by decide) (hT.ext (e1.trans e2)) (fun x y5 y6 H3 N hx hT3 hp hN => ?_) (fun y4 y5 y6 H3 hx3 hT3 => ?_)
  · obtain ⟨d, hd, hr1, hpre, hnp⟩ := hp
    have rv : RV K H3 x d.shown := .inl ⟨d, hd, hr1, rfl⟩
    refine q_asgX ⟨x, rfl, x, d.shown, rfl, rv, ?_⟩
    exact evh_ne (by decide +kernel) rv.ok (evh_lam (.inl ⟨rfl, rfl⟩) rv fun H4 E Qn e4 hl => ⟨x, rfl, x, .non, d, .none, rfl, e4.dp _ _ hd, .non, hpre, .inl ⟨hnp, hl⟩⟩) rfl hT3 fun H4 e4 T4 => hN _ _ H4 e4 T4
  have hw3 := hx3.dp _ _ hw
  refine loopR (n := 9) Pr2.stays (eap_cons Pr2.stays (ev2 ed_non ⟨by decide +kernel, by decide +kernel, by decide +kernel⟩ (.inl ⟨rfl, rfl⟩)) (eap_cons Pr2.stays (ev2 ed_int ⟨by decide +kernel, by decide +kernel, by decide +kernel⟩ (.inl ⟨rfl, rfl⟩)) (eap_cons Pr2.stays (ev2 (ed_lst ea_nilD) ⟨by decide +kernel, by decide +kernel, by decide +kernel⟩ (.inr ⟨[], .inl rfl, by decide, fun h => absurd h (by decide), rfl⟩))
    (eap_cons Pr2.stays (ev2 (ed_tup ea_nilD) ⟨by decide +kernel, by decide +kernel, by decide +kernel⟩ (.inr ⟨[], .inr rfl, by decide, fun h => absurd h (by decide), rfl⟩)) (eap_cons Pr2.stays (ev2 ed_str ⟨by decide +kernel, by decide +kernel, by decide +kernel⟩ (.inl ⟨rfl, rfl⟩))
    (eap_cons Pr2.stays (ev2 (ed_rep (n := 9) (en_lst (ea_consD (ed_tup (ea_consD ed_str ea_nilD)) ea_nilD)) (ed_int (i := ((9 : Nat) : Int)))) ⟨by decide +kernel, by decide +kernel, by decide +kernel⟩ (.inr ⟨_, .inl rfl, by decide, fun _ h => absurd h (by decide), by decide +kernel⟩))
    (eap_cons Pr2.stays (ev2 (ed_lst (ea_consD (ed_tup (ea_consD ed_str ea_nilD)) (ea_consD (ed_tup (ea_consD ed_str (ea_consD ed_int ea_nilD))) ea_nilD))) ⟨by decide +kernel, by decide +kernel, by decide +kernel⟩ (.inr ⟨_, .inl rfl, by decide, fun _ _ x hx => ?_, by decide +kernel⟩))
    (eap_cons Pr2.stays (ev2 (ed_lst (ea_consD (ed_var rfl hw3) ea_nilD)) ⟨by decide +kernel, by decide +kernel, by decide +kernel⟩ (.inr ⟨[twD], .inl rfl, by decide, fun _ _ x hx => by rw [List.mem_singleton.mp hx]; exact odd_tw.1, by decide +kernel⟩))
    (eap_cons Pr2.stays ev2_dict eap_nil))))))))) (by decide) hT3 (fun x z5 z6 H4 N hx4 hT4 hp hN => ?_) (fun z4 z5 z6 H4 hx4 hT4 => ?_)
  · rcases List.mem_cons.mp hx with rfl | hx
    · exact pre_any
    · rw [List.mem_singleton.mp hx]
      exact ⟨by decide +kernel, .inl ⟨rfl, fun _ => by decide +kernel⟩⟩
  · obtain ⟨z, rv⟩ := hp.rv
    refine q_asgX ⟨x, rfl, x, z, rfl, rv, ?_⟩
    exact evh_ne (by decide +kernel) rv.ok (evh_lam (.inr (.inl ⟨rfl, rfl⟩)) rv fun H5 E Qn e5 hl => ⟨x, rfl, rfl, (Pr2.stays _ _ _ e5 hp).lets hl⟩) rfl hT4 fun H5 e5 T5 => hN _ _ H5 e5 T5
  have hv4 := hx4.dp _ _ (hx3.dp _ _ (dpMono (e1.trans e2) _ _ hv))
  have st3 : Stays (DK K fun d => PlQ d ∧ plR 32 d = false) := DK.stays
  have hf := hvd.facts
  have hwt := hvd.wt (Nat.le_refl 4)
  refine loopR (n := 6) st3 (eap_cons st3 (evp_d ed_non ⟨by decide +kernel, by decide +kernel, by decide +kernel⟩ ⟨⟨by decide +kernel, by decide +kernel⟩, by decide +kernel⟩) (eap_cons st3 (evp_d (ed_tup (ea_consD ed_str (ea_consD ed_int ea_nilD))) ⟨by decide +kernel, by decide +kernel, by decide +kernel⟩ ⟨⟨by decide +kernel, by decide +kernel⟩, by decide +kernel⟩) (eap_cons st3 (evp_d (ed_tup (ea_consD ed_str (ea_consD ed_int ea_nilD))) ⟨by decide +kernel, by decide +kernel, by decide +kernel⟩ ⟨⟨by decide +kernel, by decide +kernel⟩, by decide +kernel⟩)
    (eap_cons st3 (evp_d (ed_tup (ea_consD ed_str ea_nilD)) ⟨by decide +kernel, by decide +kernel, by decide +kernel⟩ ⟨⟨by decide +kernel, by decide +kernel⟩, by decide +kernel⟩) (eap_cons st3 (evp_d (ed_tup (ea_consD ed_str (ea_consD (ed_tup (ea_consD (ed_var rfl hv4) ea_nilD)) ea_nilD))) (one_rpr hvd) (one_plQ hvd))
    (eap_cons st3 (evp_d (ed_lst (ea_consD (ed_var rfl hv4) ea_nilD)) (lst_rpr hvd) (lst_plQ hvd)) eap_nil)))))) (by decide) hT4 (fun x t5 t6 H5 N hx5 hT5 hp hN => ?_) (fun t4 t5 t6 H5 hx5 hT5 => q _)
  obtain ⟨d, hd, hr1, hpq, hpl⟩ := hp
  have rv : RV K H5 x d.shown := .inl ⟨d, hd, hr1, rfl⟩
  have hpt5 := hx5.dp _ _ (hx4.dp _ _ (hx3.dp _ _ (dpMono (e1.trans e2) _ _ hv2)))
  have htl5 := hx5.dp _ _ (hx4.dp _ _ (hx3.dp _ _ (dpMono e2 _ _ ht)))
  refine q_asgX ⟨x, rfl, x, d.shown, rfl, rv, ?_⟩
  refine q_asgX (evh_lam (T0 := [(tab, lamN)]) (.inr (.inr ⟨rfl, rfl⟩)) rv (fun H6 E Qn e6 hl => ⟨v2, rfl, x, rfl, v2, x, dp, d, rfl, e6.dp _ _ hpt5, e6.dp _ _ hd, hgp.pre, .inr ⟨hgp.is, hpq, .inl ⟨hpl, hl⟩⟩⟩) H5 (LamX.ExtN.refl H5) hT5 _ fun p H6 e6 T6 hp6 => ⟨sz_of (by simp), fun l hl => ?_⟩)
  have hpl6 : p ≠ l := fun z => by rw [z, hl] at hp6; cases hp6
  have e7 : XN H5 (upd H6 l (.lst [.ref p])) := e6.trans (XN.ex (Ex.new hl))
  have T7 : LamX.Tabs [(tab, lamN)] (upd H6 l (.lst [.ref p])) := T6.ext (Ex.new hl)
  refine q_dropX ⟨.ref l, rfl, Or.inl ⟨rfl, _, SqL.of upd_same⟩, evh_lam (T0 := [(tab, lamN)]) (.inr (.inr ⟨rfl, rfl⟩)) (rv.xn e7) (fun H7 E Qn e8 hl8 => ⟨vt, rfl, x, rfl, vt, x, rfl, .inr ⟨_, [.tuple [.str "any"], .tuple [.str "unit"]], e8.dp _ _ (e7.dp _ _ htl5), .inl rfl, by decide, fun _ _ => pre_told, .inr ⟨by decide +kernel, d, e8.dp _ _ (e7.dp _ _ hd), hpq, .inl ⟨hpl, hl8⟩⟩⟩⟩) _ (LamX.ExtN.refl _) T7 _ fun p2 H8 e8 T8 hp8 => ?_⟩
  have hl8 : H8 l = some (.lst [.ref p]) := e8 l _ upd_same fun _ z => by cases z
  have hp86 : H8 p = some (.lst [.str "value", .str d.shown, .bl true]) := e8 p _ (by rw [upd_ne hpl6]; exact hp6) fun _ z => by cases z
  have hp2l : p2 ≠ l := fun z => by
    rw [z, hl8] at hp8
    cases hp8
  refine ⟨l, [.ref p], .ref p2, rfl, rfl, hl8, sz_lt (by simp), ?_⟩
  have e9 : XN H5 (upd H8 l (.lst ([.ref p] ++ [.ref p2]))) := fun b o hb hn => by
    have hbl : b ≠ l := fun z => by
      have := e6 b o hb hn
      rw [z, hl] at this
      cases this
    rw [upd_ne hbl]
    exact (e7.trans e8) b o hb hn
  have T9 : LamX.Tabs [(tab, lamN)] (upd H8 l (.lst ([.ref p] ++ [.ref p2]))) := tabs_setL T8 hl8
  have ww : PyData.strOk "value" = true := by decide +kernel
  have hW := words_ok ww rv.ok
  have hL : Dp K (upd H8 l (.lst ([.ref p] ++ [.ref p2]))) (.ref l) (.list [.list [.str "value", .str d.shown, .bool true], .list [.str "value", .str d.shown, .bool true]]) :=
    .lst (SqL.of upd_same) (.cons (words_dp (by rw [upd_ne hpl6]; exact hp86)) (.cons (words_dp (by rw [upd_ne hp2l]; exact hp8)) .nil))
  refine ⟨.ref l, rfl, ed_rep (n := 2) (K := K) (en_lst (ea_consD (ed_lst (ea_consD ed_str (ea_consD (ed_var rfl (.str _)) (ea_consD ed_bl ea_nilD)))) ea_nilD)) (ed_int (i := ((2 : Nat) : Int))) (by decide) (by simp) _ (Ex.refl _) _ fun w9 H9 e10 hw9 => ?_⟩
  refine ⟨_, _, dpMono e10 _ _ hL, hw9, two_ok hW, two_ok hW, false, ?_, hN _ _ H9 (e9.trans (XN.ex e10)) (T9.ext e10)⟩
  simp [PyData.eqv, PyData.eqvAll, List.replicate]
end
end K25

end

section
set_option maxHeartbeats 4000000
namespace K25
open PySem PySem.Spec PyProof.Rows L2 Evl
/-! ### values are plain -/
theorem inn_int (i : Int) : innO (intD i) = if isNumD (.int i) = true then some [] else none := rfl
theorem inn_cell (i : Int) : innO (cellD i) = if isCountD (.int i) = true then some [] else none := rfl
theorem inn_bool (b : Bool) : innO (boolD b) = some [] := rfl
theorem inn_unit : innO unitD = some [] := rfl
theorem inn_con (s : Str) (y : PyData) : innO (conD s y) = if longBigD (.str s) = true then (if isNone y = true then some [] else some [y]) else none := rfl
theorem inn_tup (ds : List PyData) : innO (tupD ds) = if (decide ((2 : Int) ≤ (ds.length : Int)) && decide ((ds.length : Int) ≤ 4)) = true then some ds else none := rfl
theorem plR_of {n : Nat} {d : PyData} {ks : List PyData} (h : innO d = some ks) (hk : ∀ x ∈ ks, plR n x = true) : plR (n + 1) d = true := by
  rw [plR, h]
  simpa using hk
theorem ValD.plain {n : Nat} {d : PyData} (h : ValD n d) : ∀ m, n < m → plR m d = true := by
  induction h with
  | intP n i h =>
    intro m hm
    obtain ⟨m, rfl⟩ : ∃ k, m = k + 1 := ⟨m - 1, by omega⟩
    exact plR_of ((inn_int i).trans (if_pos h)) fun x hx => by cases hx
  | cellP n i h =>
    intro m hm
    obtain ⟨m, rfl⟩ : ∃ k, m = k + 1 := ⟨m - 1, by omega⟩
    exact plR_of ((inn_cell i).trans (if_pos (by simp [isCountD]; omega))) fun x hx => by cases hx
  | boolP n b =>
    intro m hm
    obtain ⟨m, rfl⟩ : ∃ k, m = k + 1 := ⟨m - 1, by omega⟩
    exact plR_of (inn_bool b) fun x hx => by cases hx
  | unitP n =>
    intro m hm
    obtain ⟨m, rfl⟩ : ∃ k, m = k + 1 := ⟨m - 1, by omega⟩
    exact plR_of inn_unit fun x hx => by cases hx
  | con0 n s h hb =>
    intro m hm
    obtain ⟨m, rfl⟩ : ∃ k, m = k + 1 := ⟨m - 1, by omega⟩
    exact plR_of ((inn_con s .none).trans (if_pos hb.1)) fun x hx => by cases hx
  | con1 n s d h hb hd ih =>
    intro m hm
    obtain ⟨m, rfl⟩ : ∃ k, m = k + 1 := ⟨m - 1, by omega⟩
    have hn : isNone d = false := by cases hd <;> rfl
    exact plR_of ((inn_con s d).trans ((if_pos hb.1).trans (if_neg (by rw [hn]; decide)))) fun x hx => by
      rw [List.mem_singleton.mp hx]
      exact ih m (by omega)
  | tupP n ds h2 h4 hd ih =>
    intro m hm
    obtain ⟨m, rfl⟩ : ∃ k, m = k + 1 := ⟨m - 1, by omega⟩
    exact plR_of ((inn_tup ds).trans (if_pos (by simp; omega))) fun x hx => ih x hx m (by omega)
section
variable {P : Program} {w : World} {K : PySem.W.Frag} {mg : Str → Option Value} {base : Heap}
theorem ed_repr {σ : L2.St} {H : Hp} {ta : TE} {d : PyData} (h : Ed K ta σ H d) (hr : Rpr d) : Ed K (tCB (rRp K) (tCons ta tNil)) σ H (.str d.shown) := fun H1 e Q q =>
  h H1 e _ fun v H2 e2 hv => ⟨v, d.shown, rfl, .inl ⟨d, hv, hr, rfl⟩, q _ H2 e2 (.str _)⟩
theorem str_ok {d : PyData} (h : Rpr d) : SeqAt.shaped (.str d.shown) = true := by
  unfold SeqAt.shaped
  simp [PyData.canLay0, PyData.depth, strOk_iff.mpr (shown_cps d (wf_lay _ _ h.1).1)]
theorem ed_notB {σ : L2.St} {H : Hp} {ta tb : TE} {a b : Bool} (h : Ed K ta σ H (.bool a)) (h2 : Ed K tb σ H (.bool b)) : Ed K (tOp rNotB ta tb) σ H (.bool (!decide (a = b))) := fun H1 e Q q =>
  h H1 e _ fun v H2 e2 hv => h2 H2 (e.trans e2) _ fun w H3 e3 hw => ⟨a, b, dp_bl hv, dp_bl hw, q _ H3 (e2.trans e3) (.bl _)⟩
theorem ed_tupleOf {σ : L2.St} {H : Hp} {ta : TE} {ds : List PyData} (h : Ed K ta σ H (.list ds)) :
    Ed K (tCB (fun xs H Q => ∃ p ys, xs = [.ref p] ∧ ((SqL K H p ys ∧ ∀ l, H l = none → Q (.ref l) (upd H l (.tup ys))) ∨ (SqT K H p ys ∧ Q (.ref p) H))) (tCons ta tNil)) σ H (.tuple ds) := fun H1 e Q q =>
  h H1 e _ fun v H2 e2 hv => by
    obtain ⟨a, xs, rfl, hs, ha⟩ := dp_lst hv
    exact ⟨a, xs, rfl, .inl ⟨hs, fun l hl => q _ _ (e2.trans (Ex.new hl)) (.tup (SqT.of upd_same) (dpsMono (Ex.new hl) _ _ ha))⟩⟩
theorem all_pats {ps : List PyData} (hg : ∀ x ∈ ps, GoodP x) (h1 : 1 ≤ ps.length) (h5 : ps.length ≤ 5) : ((decide ((1 : Int) ≤ (ps.length : Int)) && decide ((ps.length : Int) ≤ 8)) && ps.all isPatF) = true := by
  have h2 : ps.all isPatF = true := List.all_eq_true.mpr fun x hx => (hg x hx).is
  rw [h2, Bool.and_true, Bool.and_eq_true]
  exact ⟨decide_eq_true (by omega), decide_eq_true (by omega)⟩
theorem first_does {H : Hp} {x y : V} {dv d : PyData} {ps : List PyData} {Q : VK} {E : XK} (hx : Dp K H x dv) (hl : dv = .list ps ∨ dv = .tuple ps) (hy : Dp K H y d) (hg : ∀ x ∈ ps, GoodP x) (h1 : 1 ≤ ps.length) (h5 : ps.length ≤ 5) (hd : ValD 4 d)
    (q : ∀ r H', Ex H H' → Dp K H' r (firstF ps d) → Q r H') : spFirst K [x, y] H Q E :=
  ⟨x, y, rfl, .inr ⟨dv, ps, hx, hl, by omega, fun _ _ z hz => (hg z hz).pre, .inr ⟨all_pats hg h1 h5, d, hy, hd.plQ (Nat.le_refl 4), .inr ⟨hd.plain 32 (by decide), fun z hz => (hg z hz).four, ⟨4, Nat.le_refl 4, hd⟩, q⟩⟩⟩⟩
theorem ed_first {σ : L2.St} {H : Hp} {ta tb : TE} {W : WX} {d : PyData} {ps : List PyData} (h : Ed K ta σ H (.list ps)) (h2 : Ed K tb σ H d) (hg : ∀ x ∈ ps, GoodP x) (h1 : 1 ≤ ps.length) (h5 : ps.length ≤ 5) (hd : ValD 4 d) :
    Ed K (tCallS (spFirst K) (WE W) (tCons ta (tCons tb tNil))) σ H (firstF ps d) := fun H1 e Q q =>
  h H1 e _ fun v H2 e2 hv => h2 H2 (e.trans e2) _ fun w H3 e3 hw => first_does (dpMono e3 _ _ hv) (.inl rfl) hw hg h1 h5 hd fun r H4 e4 hr => q r H4 ((e2.trans e3).trans e4) hr
theorem ed_firstK {σ : L2.St} {H : Hp} {ta tb : TE} {W : WX} {d : PyData} {ps : List PyData} (h : Ed K ta σ H (.tuple ps)) (h2 : Ed K tb σ H d) (hg : ∀ x ∈ ps, GoodP x) (h1 : 1 ≤ ps.length) (h5 : ps.length ≤ 5) (hd : ValD 4 d) :
    Ed K (tCallR (["value", "patterns"] : List Str).length (spFirst K) (WE W) (tCons tb (tCons ta tNil))) σ H (firstF ps d) := fun H1 e Q q =>
  h2 H1 e _ fun v H2 e2 hv => h H2 (e.trans e2) _ fun w H3 e3 hw => ⟨rfl, first_does hw (.inr rfl) (dpMono e3 _ _ hv) hg h1 h5 hd fun r H4 e4 hr => q r H4 ((e2.trans e3).trans e4) hr⟩
theorem bind_does {H : Hp} {x y : V} {p d : PyData} {Q : VK} {E : XK} (hx : Dp K H x p) (hy : Dp K H y d) (hg : GoodP p) (hd : ValD 4 d) (q : ∀ r H', Ex H H' → Dp K H' r (oD (mch 5 p d)) → Q r H') : spBind K [x, y] H Q E :=
  ⟨x, y, p, d, rfl, hx, hy, hg.pre, .inr ⟨hg.is, hd.plQ (Nat.le_refl 4), .inr ⟨hd.plain 32 (by decide), hg.four, ⟨4, Nat.le_refl 4, hd⟩, fun r H' e hr _ => q r H' e hr.dp⟩⟩⟩
theorem ed_bind {σ : L2.St} {H : Hp} {ta tb : TE} {W : WX} {d p : PyData} (h : Ed K ta σ H p) (h2 : Ed K tb σ H d) (hg : GoodP p) (hd : ValD 4 d) : Ed K (tCallS (spBind K) (WE W) (tCons ta (tCons tb tNil))) σ H (oD (mch 5 p d)) := fun H1 e Q q =>
  h H1 e _ fun v H2 e2 hv => h2 H2 (e.trans e2) _ fun w H3 e3 hw => bind_does (dpMono e3 _ _ hv) hw hg hd fun r H4 e4 hr => q r H4 ((e2.trans e3).trans e4) hr
theorem ed_bindK {σ : L2.St} {H : Hp} {ta tb : TE} {W : WX} {d p : PyData} (h : Ed K ta σ H p) (h2 : Ed K tb σ H d) (hg : GoodP p) (hd : ValD 4 d) : Ed K (tCallR (["value", "pattern"] : List Str).length (spBind K) (WE W) (tCons tb (tCons ta tNil))) σ H (oD (mch 5 p d)) := fun H1 e Q q =>
  h2 H1 e _ fun v H2 e2 hv => h H2 (e.trans e2) _ fun w H3 e3 hw => ⟨rfl, bind_does hw (dpMono e3 _ _ hv) hg hd fun r H4 e4 hr => q r H4 ((e2.trans e3).trans e4) hr⟩
theorem first_small {ps : List PyData} (d : PyData) (h : ps.length ≤ 5) : Rpr (.list [firstF ps d, firstF ps d]) := by
  unfold firstF
  split
  · rename_i i hi
    have h2 : i < ps.length := List.mem_range.mp (List.mem_of_find?_eq_some hi)
    have h3 : (i : Int).natAbs < 2 ^ 3 := by omega
    have h4 := int_wt h3
    refine ⟨by simp [wf], ?_, ?_⟩
    · have : (i : Int).natAbs < 10 ^ 12 := by omega
      simp [ism, ismAll]
      omega
    · simp only [PyData.weight, PyData.weightAll] at h4 ⊢
      omega
  · exact ⟨by decide +kernel, by decide +kernel, by decide +kernel⟩
def spVR (K : PySem.W.Frag) : Sp := fun vs H Q _ => ∃ v v2 ps d, vs = [v, v2] ∧ Dp K H v (.list ps) ∧ Dp K H v2 d ∧ (∀ x ∈ ps, GoodP x) ∧ 1 ≤ ps.length ∧ ps.length ≤ 5 ∧ ValD 4 d ∧ ∀ H', Ex H H' → Q (.bl true) H'
theorem sc__law_value_right : FnScope ["_law_patterns_here", "_law_value_here", "_law_shown", "_law_due", "_law_told", "_law_pattern_here"] ["_law_patterns_here", "_law_value_here"] (defScope s82) := ⟨rfl, rfl, rfl, by decide +kernel, rfl, by decide +kernel, by decide +kernel⟩
theorem ok__law_value_right (T : Tx K mg) (R : ErrT K) : DfG P w K mg base 14 "_law_value_right" ["_law_patterns_here", "_law_value_here"] (spVR K) := by
  have D_bindings := ok_bindings (P := P) (w := w) (base := base) T R
  have D_first_rule := ok_first_rule (P := P) (w := w) (base := base) T R
  have K_bindings := ok_bindingsK (P := P) (w := w) (base := base) T R
  have K_first_rule := ok_first_ruleK (P := P) (w := w) (base := base) T R
  have D_is_plain := ok_is_plain (P := P) (w := w) (base := base) T
  have D__law_first := ok__law_first (P := P) (w := w) (base := base) T
  have D__law_match := ok__law_match (P := P) (w := w) (base := base) T 4 (Nat.le_refl 4)
  refine dfG_ok T.f__law_value_right T.g__law_value_right sc__law_value_right (fun vs H Q E h => by
    obtain ⟨v, v2, _, _, rfl, _⟩ := h
    rfl) (fun _ _ _ _ _ _ us hl => match us, hl with | [_, _], _ => rfl) fun cdv A outer s H vs Q hcd hgd hr h => ?_
  obtain ⟨v, v2, ps, d, rfl, hv, hv2, hg, h1, h5, hd, q⟩ := h
  clear hcd
  have nd := sc__law_value_right.nd
  refine ⟨_, (pss_cons (ps_par (i := 2) (j := 3) (by rfl) nd rfl rfl (by decide) rfl rfl (pa_cons (pe_callB (c_rp hgd hr) (by rfl) T.n_repr (by decide +kernel) (pa_cons (pe_lst (pa_cons (pv 0) (pa_cons (pv 1) pa_nil))) pa_nil)) (pa_cons (pe_df D__law_first hr (pa_cons (pv 0) (pa_cons (pv 1) pa_nil))) pa_nil)) (by rfl))
      (pss_cons (ps_set (i := 4) nd rfl (Or.inl rfl) (pe_lst (pa_cons (pe_dfS D_first_rule hr LamX.takes0 (pa_cons (pv 0) (pa_cons (pv 1) pa_nil))) (pa_cons (pe_dfK K_first_rule T.g_first_rule hr LamX.takes0 (pk_cons (pv 1) (pk_cons (pe_callTy call_tuple_of (by rfl) T.n_tuple b_tuple (pa_cons (pv 0) pa_nil)) pk_nil)) (by decide) kb_first_rule) pa_nil))))
      (pss_cons (ps_if (PW.pt (pw_or (pt_cmpR (op_neD hr.units) (pe_callB (c_rp hgd hr) (by rfl) T.n_repr (by decide +kernel) (pa_cons (pv 4) pa_nil)) (pe_callB (c_rp hgd hr) (by rfl) T.n_repr (by decide +kernel) (pa_cons (pe_lst (pa_cons (pv 3) (pa_cons (pv 3) pa_nil))) pa_nil)) (nomark _)) (pw_or1 (pt_cmpR op_notBl (pe_df D_is_plain hr (pa_cons (pv 1) pa_nil)) pe_bl (nomark _))))) (pss_one (ps_ret pe_bl)) pss_nil)
      (pss_cons (ps_for PassesOwn.never rfl (pi_list (pv 0)) (pg_name (i := 5) nd rfl (Or.inl rfl))
      (pss_cons (ps_set (i := 4) nd rfl (Or.inl rfl) (pe_dfS D_bindings hr LamX.takes0 (pa_cons (pv 5) (pa_cons (pv 1) pa_nil))))
      (pss_cons (ps_if (pt_cmpR (op_neD hr.units) (pe_callB (c_rp hgd hr) (by rfl) T.n_repr (by decide +kernel) (pa_cons (pv 4) pa_nil)) (pe_callB (c_rp hgd hr) (by rfl) T.n_repr (by decide +kernel) (pa_cons (pe_df D__law_match hr (pa_cons (pv 5) (pa_cons (pv 1) pa_nil))) pa_nil)) (nomark _)) (pss_one (ps_ret pe_bl)) pss_nil)
      (pss_one (ps_if (pt_cmpR (op_neD hr.units) (pe_dfK K_bindings T.g_bindings hr LamX.takes0 (pk_cons (pv 1) (pk_cons (pv 5) pk_nil)) (by decide) kb_bindings) (pv 4) (nomark _)) (pss_one (ps_ret pe_bl)) pss_nil)))))
      (pss_one (ps_ret (pe_cmpR (op_eqD hr.units) (pe_callB (c_rp hgd hr) (by rfl) T.n_repr (by decide +kernel) (pa_cons (pe_lst (pa_cons (pv 0) (pa_cons (pv 1) pa_nil))) pa_nil)) (pv 2) (nomark _)))))))), ?_⟩
  have hr2 := first_small d h5
  have hdq : ValQ d := ⟨4, Nat.le_refl 4, hd⟩
  have hfirst : ∀ {σ : L2.St} {H : Hp}, σ[0]? = some (some v) → σ[1]? = some (some v2) → Dp K H v (.list ps) → Dp K H v2 d → Ed K (tCall (fun vs H Q _ => ∃ v v2 d ds, vs = [v, v2] ∧ Dp K H v (.list ds) ∧ Dp K H v2 d ∧ ValQ d ∧ (∀ z ∈ ds, PatD 4 z) ∧ ds.length ≤ 100 ∧ ∀ r H', Ex H H' → Dp K H' r (firstF ds d) → Q r H') [] E0 (tCons (tVar 0) (tCons (tVar 1) tNil))) σ H (firstF ps d) := fun s0 s1 a b H1 e Q q =>
    ⟨v, s0, v2, s1, v, v2, d, ps, rfl, dpMono e _ _ a, dpMono e _ _ b, hdq, fun z hz => (hg z hz).four, by omega, q⟩
  refine q_parX ((ea_consD (ed_repr (ed_lst (ea_consD (ed_var rfl hv) (ea_consD (ed_var rfl hv2) ea_nilD))) (both_rpr hg h5 hd)) (ea_consD (hfirst rfl rfl hv hv2) ea_nilD)) H (Ex.refl H) _ fun vs H1 e1 hds => ?_)
  match vs, hds with
  | [a, b], .cons ha (.cons hb .nil) =>
  refine ⟨a, b, rfl, ?_⟩
  have hv' := dpMono e1 _ _ hv
  have hv2' := dpMono e1 _ _ hv2
  refine q_asgX (ed_lst (ea_consD (ed_first (ed_var rfl hv') (ed_var rfl hv2') hg h1 h5 hd) (ea_consD (ed_firstK (ed_tupleOf (ed_var rfl hv')) (ed_var rfl hv2') hg h1 h5 hd) ea_nilD)) (by simp) H1 (Ex.refl H1) _ fun vt H2 e2 ht => ?_)
  have hv3 := dpMono e2 _ _ hv'
  have hv4 := dpMono e2 _ _ hv2'
  have hb3 := dpMono e2 _ _ hb
  have ha3 := dpMono e2 _ _ ha
  refine q_when (b := false) ?_ (fun z => nomatch z) fun _ H3 e3 => ?_
  · refine et_is (et_or (et_cmp (ed_ne (ed_repr (ed_var rfl ht) hr2) (ed_repr (ed_lst (ea_consD (ed_var rfl hb3) (ea_consD (ed_var rfl hb3) ea_nilD))) hr2) (str_ok hr2) (str_ok hr2)))
      (fun _ => et_cmp (ed_notB (ed_call1 (f := fun d => .bool (plR 32 d)) (ed_var rfl hv4) (hd.plQ (Nat.le_refl 4))) ed_bl))) ?_
    simp [PyData.eqv, hd.plain 32 (by decide)]
  · obtain ⟨la, xs, rfl, hsl, hxs⟩ := dp_lst (dpMono e3 _ _ hv3)
    refine q_forX ⟨.ref la, rfl, la, rfl, ⟨xs, hsl⟩, ?_⟩
    refine forT_list (xs := xs) (fun _ σ' H' => (∃ y4 y5, σ' = [some (.ref la), some v2, some a, some b, y4, y5]) ∧ Ex H3 H') ⟨⟨_, _, rfl⟩, Ex.refl H3⟩ (fun i σ' H' _ hh => ex_l hh.2 hsl) (fun i x σ' H' hx hh => ?_) (fun σ' H' hh => ?_)
    · obtain ⟨⟨y4, y5, rfl⟩, e4⟩ := hh
      obtain ⟨p, hp, hpx⟩ := dps_of i hxs hx
      have hgp := hg p (List.mem_of_getElem? hp)
      have hpx := dpMono e4 _ _ hpx
      have hvd := dpMono (e3.trans e4) _ _ hv4
      have rb := binds_rpr hgp.1 hdq
      refine q_asgX (ed_bind (ed_var rfl hpx) (ed_var rfl hvd) hgp hd H' (Ex.refl H') _ fun vb H5 e5 hb5 => ?_)
      have hpx5 := dpMono e5 _ _ hpx
      have hvd5 := dpMono e5 _ _ hvd
      refine q_when (b := false) (et_is (et_cmp (ed_ne (ed_repr (ed_var rfl hb5) rb) (ed_repr (en_call2 (f := fun p v => oD (mch (4 + 1) p v)) (ed_var rfl hpx5) (ed_var rfl hvd5) ⟨hgp.four, hdq⟩).ed rb) (str_ok rb) (str_ok rb))) (by simp [PyData.eqv])) (fun z => nomatch z) fun _ H6 e6 => ?_
      have sb : SeqAt.shaped (oD (mch 5 p d)) = true := wf_shaped rb.1
      refine s_when (b := false) (et_is (et_cmp (ed_ne (ed_bindK (ed_var rfl (dpMono e6 _ _ hpx5)) (ed_var rfl (dpMono e6 _ _ hvd5)) hgp hd) (ed_var rfl (dpMono e6 _ _ hb5)) sb sb)) (by rw [SeqAt.eqv_refl _ (SeqAt.canLay_of_shaped sb)] <;> rfl)) (fun z => nomatch z) fun _ H7 e7 => ?_
      exact ⟨⟨_, _, rfl⟩, ((e4.trans e5).trans e6).trans e7⟩
    · obtain ⟨⟨y4, y5, rfl⟩, e4⟩ := hh
      have br := both_rpr hg h5 hd
      have e34 := e3.trans e4
      refine ed_eq (ed_repr (ed_lst (ea_consD (ed_var rfl (dpMono e34 _ _ hv3)) (ea_consD (ed_var rfl (dpMono e34 _ _ hv4)) ea_nilD))) br) (ed_var rfl (dpMono e34 _ _ ha3)) (str_ok br) (str_ok br) H' (Ex.refl H') _ fun r H8 e8 hr8 => ?_
      rw [dp_bl hr8]
      have : PyData.eqv (.str (PyData.list [.list ps, d]).shown) (.str (PyData.list [.list ps, d]).shown) = true := by simp [PyData.eqv]
      rw [this]
      exact q H8 (((e1.trans e2).trans e34).trans e8)
end
end K25

end

section
set_option maxHeartbeats 4000000
namespace K25
open PySem PySem.Spec PyProof.Rows L2 Evl
theorem ValD.up {n : Nat} {d : PyData} (h : ValD n d) : ValD (n + 1) d := by
  induction h with
  | intP n i h => exact .intP _ i h
  | boolP n b => exact .boolP _ b
  | unitP n => exact .unitP _
  | cellP n i h => exact .cellP _ i h
  | con0 n s h hb => exact .con0 _ s h hb
  | con1 n s d h hb hd ih => exact .con1 _ s d h hb ih
  | tupP n ds h2 h4 hd ih => exact .tupP _ ds h2 h4 ih
theorem bentPick_ism : ∀ b ∈ bentPick, ism b = true := by
  have h : bentPick.all ism = true := by decide +kernel
  exact List.all_eq_true.mp h
theorem ismAll_app {xs ys : List PyData} (h : ismAll xs = true) (h2 : ismAll ys = true) : ismAll (xs ++ ys) = true := ismAll_of fun d hd => (List.mem_append.mp hd).elim (ismAll_mem h d) (ismAll_mem h2 d)
theorem BentD.ism {d b : PyData} (h : BentD d b) (hd : K25.ism d = true) : K25.ism b = true := by
  induction h with
  | cut ds i =>
    have h1 : ismAll ds = true := by simpa [K25.ism] using hd
    have h2 := ismAll_app (ismAll_of fun x hx => ismAll_mem h1 x (List.mem_of_mem_take hx)) (ismAll_of fun x hx => ismAll_mem h1 x (List.mem_of_mem_drop hx)) (xs := ds.take i) (ys := ds.drop (i + 1))
    simpa [K25.ism] using h2
  | dbl ds i =>
    have h1 : ismAll ds = true := by simpa [K25.ism] using hd
    have h2 := ismAll_app h1 (ismAll_of fun x hx => ismAll_mem h1 x (List.mem_of_mem_drop (List.mem_of_mem_take hx))) (ys := (ds.drop i).take 1)
    simpa [K25.ism] using h2
  | lst ds =>
    have h1 : ismAll ds = true := by simpa [K25.ism] using hd
    simpa [K25.ism] using h1
  | sub ds i d b h hb ih =>
    have h1 : ismAll ds = true := by simpa [K25.ism] using hd
    have h3 := ih (ismAll_mem h1 d (List.mem_of_getElem? h))
    have h2 := ismAll_app (ismAll_app (ismAll_of fun x hx => ismAll_mem h1 x (List.mem_of_mem_take hx)) (ismAll_of fun x hx => by rw [List.mem_singleton.mp hx]; exact h3) (xs := ds.take i) (ys := [b])) (ismAll_of fun x hx => ismAll_mem h1 x (List.mem_of_mem_drop hx)) (ys := ds.drop (i + 1))
    simpa [K25.ism] using h2
  | pick d b h => exact bentPick_ism b h
theorem bent_rpr {d b : PyData} (h : ValD 4 d) (hb : BentD d b) : Rpr b := by
  have h1 := (bent_facts (Nat.le_refl 4) h hb).1
  have h2 := hb.ism h.ism
  have h3 := sl_wt _ b (sl_wf 11 b h1 h2)
  have h4 := hb.lv
  have h5 : lv d ≤ 283 := h.facts.1
  have h6 : (1000 + 40 + 1 + 11) * lv b ≤ 1052 * 566 := Nat.mul_le_mul (by omega) (by omega)
  exact ⟨wf_le (by decide) h1, h2, by omega⟩
theorem bool_rpr (b : Bool) : Rpr (.bool b) := ⟨rfl, rfl, by simp [PyData.weight]⟩
section
variable {P : Program} {w : World} {K : PySem.W.Frag} {mg : Str → Option Value} {base : Heap}
theorem ed_last {σ : L2.St} {H : Hp} {ta : TE} {ds : List PyData} {d : PyData} (h : Ed K ta σ H (.list ds)) (h1 : 1 ≤ ds.length) (hd : ds[ds.length - 1]? = some d) : Ed K (tOp (rIxL K) ta (tUn (rU fun i => .int (-i)) (tC (.int 1)))) σ H d := fun H1 e Q q =>
  h H1 e _ fun v H2 e2 hv => (ed_neg (K := K) ed_int) H2 (e.trans e2) _ fun w H3 e3 hw => by
    obtain ⟨a, xs, rfl, hs, ha⟩ := dp_lst hv
    obtain ⟨z, g1, g2⟩ := dps_at _ ha hd
    have hl := dps_len ha
    have hx : atI xs (-1) = some z := by
      have hne : xs ≠ [] := fun z => by rw [z] at hl; simp at hl; omega
      have e1 := List.dropLast_concat_getLast hne
      have e2 : xs.getLast hne = z := by
        have := List.getLast_eq_getElem hne
        rw [this]
        rw [← hl] at g1
        exact (List.getElem?_eq_some_iff.mp g1).2
      rw [← e1, e2]
      exact atI_last _ z
    exact ⟨a, xs, -1, z, rfl, dp_int hw, ex_l e3 hs, hx, q z H3 (e2.trans e3) (dpMono e3 _ _ g2)⟩
theorem ed_plainK {σ : L2.St} {H : Hp} {ta : TE} {d : PyData} (h : Ed K ta σ H d) (hp : PlQ d) : Ed K (tCallR (["value"] : List Str).length (sp1 K (fun d => .bool (plR 32 d)) fun d => wf 31 d = true ∧ szV 32 d ≤ 600) (fun _ => E0) (tCons ta tNil)) σ H (.bool (plR 32 d)) := fun H1 e Q q =>
  h H1 e _ fun v H2 e2 hv => ⟨rfl, v, d, rfl, hv, hp, fun r H3 e3 hr => q r H3 (e2.trans e3) hr⟩
def spRight (K : PySem.W.Frag) (tab : Addr) : Sp := fun vs H Q _ => ∃ p, vs = [.ref p] ∧ Pot H p ∧ H tab = some (.tbl #[]) ∧ ∀ H', Q (.bl true) H'
theorem sc__law_right : FnScope ["_law_pot_here", "_law_kind_here", "_law_patterns_here", "_law_other", "_law_values", "_law_turn", "_law_value_here", "_law_bent_here", "_law_shown"] ["_law_pot_here"] (defScope s83) := ⟨rfl, rfl, rfl, by decide +kernel, rfl, by decide +kernel, by decide +kernel⟩
theorem ok__law_right {c tab : Addr} (T : Tx K mg) (R : ErrT K) (TB : LamX.TabB base mg c tab) (hc : CodeAt K "_law_refused_right" c) : DfG P w K mg base 17 "_law_right" ["_law_pot_here"] (spRight K tab) := by
  have D__law_kind := ok__law_kind (P := P) (w := w) (base := base) T 2 (by decide)
  have D_kind1 := ok__law_kind (P := P) (w := w) (base := base) T 1 (by decide)
  have D_value3 := ok__law_value (P := P) (w := w) (base := base) T 3 (by decide)
  have D__law_value := ok__law_value (P := P) (w := w) (base := base) T 4 (by decide)
  have D__law_patterns := ok__law_patterns (P := P) (w := w) (base := base) T
  have D__law_filled := ok__law_filled (P := P) (w := w) (base := base) T 3 (by decide)
  have D__law_bent := ok__law_bent (P := P) (w := w) (base := base) T 9 (by decide)
  have D__law_is_plain := ok__law_is_plain (P := P) (w := w) (base := base) T 11 (by decide)
  have K_is_plain := ok_is_plainK (P := P) (w := w) (base := base) T
  have D__law_value_right := ok__law_value_right (P := P) (w := w) (base := base) T R
  have D__law_refused_right := ok__law_refused_right (P := P) (w := w) (base := base) T R TB hc
  refine dfG_ok T.f__law_right T.g__law_right sc__law_right (fun vs H Q E h => by
    obtain ⟨p, rfl, _⟩ := h
    rfl) (fun _ _ _ _ _ _ us hl => match us, hl with | [_], _ => rfl) fun cdv A outer s H vs Q hcd hgd hr h => ?_
  obtain ⟨p, rfl, hp, ht, q⟩ := h
  clear hcd
  have nd := sc__law_right.nd
  refine ⟨_, (pss_cons (ps_set (i := 1) nd rfl (Or.inl rfl) (pe_df D__law_kind hr (pa_cons (pv 0) (pa_cons pe_int pa_nil))))
      (pss_cons (ps_set (i := 2) nd rfl (Or.inl rfl) (pe_df D__law_patterns hr (pa_cons (pv 0) (pa_cons (pv 1) (pa_cons pe_int (pa_cons pe_int pa_nil))))))
      (pss_cons (ps_set (i := 3) nd rfl (Or.inl rfl) (pe_df D_value3 hr (pa_cons (pv 0) (pa_cons (pe_df D_kind1 hr (pa_cons (pv 0) (pa_cons pe_int pa_nil))) (pa_cons pe_int pa_nil)))))
      (pss_cons (ps_set (i := 4) nd rfl (Or.inl rfl) (pe_lst (pa_cons (pv 3) (pa_cons (pe_df D__law_filled hr (pa_cons (pe_ix ix_list (pv 2) pe_int (fun _ _ => rfl)) pa_nil)) (pa_cons (pe_df D__law_filled hr (pa_cons (pe_ix ix_list (pv 2) (pe_un un_neg pe_int) (fun _ _ => rfl)) pa_nil)) pa_nil)))))
      (pss_cons (ps_for PassesOwn.never rfl (pi_range1 rfl T.n_range (pa_cons pe_int pa_nil)) (pg_name (i := 5) nd rfl (Or.inl rfl))
      (pss_one (ps_expr (pe_bm PySem.F.plainAttrs_list PySem.F.slot_list_append PySem.F.type_list_append mt_append (pv 4) (pa_cons (pe_df D__law_value hr (pa_cons (pv 0) (pa_cons (pv 1) (pa_cons pe_int pa_nil)))) pa_nil)))))
      (pss_cons (ps_for PassesOwn.never rfl (pi_list (pv 4)) (pg_name (i := 6) nd rfl (Or.inl rfl))
      (pss_one (ps_if (pt_not (pt_val (pe_dfG D__law_value_right hgd hr (pa_cons (pv 2) (pa_cons (pv 6) pa_nil))))) (pss_one (ps_ret pe_bl)) pss_nil)))
      (pss_cons (ps_for PassesOwn.never rfl (pi_range1 rfl T.n_range (pa_cons pe_int pa_nil)) (pg_name (i := 5) nd rfl (Or.inl rfl))
      (pss_cons (ps_set (i := 7) nd rfl (Or.inl rfl) (pe_df D__law_bent hr (pa_cons (pv 0) (pa_cons (pe_ix ix_list (pv 4) (pe_op op_mod (pv 5) pe_int) (fun _ _ => rfl)) pa_nil))))
      (pss_cons (ps_set (i := 8) nd rfl (Or.inl rfl) (pe_callB (c_rp hgd hr) (by rfl) T.n_repr (by decide +kernel) (pa_cons (pv 7) pa_nil)))
      (pss_one (ps_if (PW.pt (pw_or (pt_cmpR (op_neD hr.units) (pe_callB (c_rp hgd hr) (by rfl) T.n_repr (by decide +kernel) (pa_cons (pe_dfK0 K_is_plain T.g_is_plain hr (pk_cons (pv 7) pk_nil) (by decide) kb_is_plain) pa_nil)) (pe_callB (c_rp hgd hr) (by rfl) T.n_repr (by decide +kernel) (pa_cons (pe_df D__law_is_plain hr (pa_cons (pv 7) pa_nil)) pa_nil)) (nomark _)) (pw_or1 (pt_cmpR (op_neD hr.units) (pe_callB (c_rp hgd hr) (by rfl) T.n_repr (by decide +kernel) (pa_cons (pv 7) pa_nil)) (pv 8) (nomark _))))) (pss_one (ps_ret pe_bl)) pss_nil)))))
      (pss_one (ps_ret (pe_dfG D__law_refused_right hgd hr (pa_cons (pe_ix ix_list (pv 4) pe_int (fun _ _ => rfl)) (pa_cons (pe_ix ix_list (pv 2) pe_int (fun _ _ => rfl)) pa_nil)))))))))))), ?_⟩
  refine q_asgX (t_call (t_cons ⟨.ref p, rfl, t_cons (t_c ⟨p, rfl, hp, fun kv kd H1 hkd hkv k1 hp1 => ?_⟩)⟩))
  refine q_asgX (t_call (t_cons ⟨.ref p, rfl, t_cons ⟨kv, rfl, t_cons (t_c (t_cons (t_c ⟨p, kv, kd, rfl, hp1, hkv, ⟨2, by decide, hkd⟩, fun l xs ds H2 hl hlx hds h1 h5 hg k2 hp2 => ?_⟩)))⟩⟩))
  have hlp : l ≠ p := hp1.ne hl
  have npd : nptAll ds = true := npt_frzAll _ (frz_all fun d hd => (hg d hd).1.frz)
  have pats : ∀ H', Kp [p] H2 H' → Dp K H' (.ref l) (.list ds) := fun H' k => .lst (SqL.of (k l _ (by simpa using hlp) hlx)) (dpsKp hp2 k _ _ npd hds)
  have hkv2 := dpKp hp1 k2 _ _ (npt_frz _ hkd.frz) hkv
  refine q_asgX (t_call (t_cons ⟨.ref p, rfl, t_cons (t_call (t_cons ⟨.ref p, rfl, t_cons (t_c ⟨p, rfl, hp2, fun kv3 kd3 H3 hkd3 hkv3 k3 hp3 => t_cons (t_c ⟨p, kv3, kd3, rfl, hp3, hkv3, ⟨1, by decide, hkd3⟩, fun o od H4 hod hor k4 hp4 => ?_⟩)⟩)⟩))⟩))
  have k34 := k3.trans k4
  obtain ⟨d0, hd0⟩ : ∃ d0, ds[0]? = some d0 := ⟨_, List.getElem?_eq_getElem (by omega)⟩
  obtain ⟨d9, hd9⟩ : ∃ d9, ds[ds.length - 1]? = some d9 := ⟨_, List.getElem?_eq_getElem (by omega)⟩
  have g0 := hg d0 (List.mem_of_getElem? hd0)
  have g9 := hg d9 (List.mem_of_getElem? hd9)
  have hpl4 := pats H4 k34
  refine q_asgX (enf_lst (K := K) (ea_consD (ed_var rfl hor) (ea_consD (ed_call1 (f := filF (3 + 1)) (ed_ixL (n := 0) (ed_var rfl hpl4) ed_int hd0) g0.1) (ea_consD (ed_call1 (f := filF (3 + 1)) (ed_last (ed_var rfl hpl4) h1 hd9) g9.1) ea_nilD))) (by simp) H4 (Ex.refl H4) _ fun vl ws H5 hvl e5 hvl5 hws => ?_)
  have hvp : vl ≠ p := hp4.ne hvl
  have hvl2 : H2 vl = none := kp_none k34 hvl hvp
  have hp5 := hp4.ex e5
  refine q_forX (t_rng (t_cons (t_c ⟨4, rfl, by decide, by decide, ?_⟩)))
  refine forT_range (n := 4) (fun t σ' H' => (∃ x5, σ' = [some (.ref p), some kv, some (.ref l), some o, some (.ref vl), x5, none, none, none]) ∧ Kp [p] H2 H' ∧ Pot H' p ∧ ∃ acc vs, H' vl = some (.lst acc) ∧ DpAll K H' acc vs ∧ vs.length = 3 + t ∧ ∀ d ∈ vs, ValD 4 d)
    ⟨⟨_, rfl⟩, k34.trans (Kp.ex e5), hp5, ws, _, hvl5, hws, rfl, fun d hd => ?_⟩ (fun t σ' H' ht2 hh => ?_) (fun σ' H' hh => ?_)
  · simp only [List.mem_cons, List.mem_nil_iff, or_false] at hd
    rcases hd with rfl | rfl | rfl
    · exact hod.up
    · exact (fil_val 3 d0 g0.1).up
    · exact (fil_val 3 d9 g9.1).up
  · obtain ⟨⟨x5, rfl⟩, k', hp', acc, vs, hacc, hda, hlen, hvs⟩ := hh
    refine ep_app (G := ValD 4) hvp hacc rfl hp' hda (frz_all fun d hd => (hvs d hd).frz) (by omega) (fun d hd => hd.frz) (fun Q' q' => ?_) fun acc' d H6 hd6 hacc6 hda6 k6 hp6 => ⟨⟨_, rfl⟩, k'.two hvl2 k6, hp6, acc', vs ++ [d], hacc6, hda6, by simp [hlen]; omega, fun x hx => ?_⟩
    · exact t_call (t_cons ⟨.ref p, rfl, t_cons ⟨kv, rfl, t_cons (t_c ⟨p, kv, kd, rfl, hp', dpKp hp2 k' _ _ (npt_frz _ hkd.frz) hkv2, ⟨2, by decide, hkd⟩, q'⟩)⟩⟩)
    · rcases List.mem_append.mp hx with hx | hx
      · exact hvs x hx
      · rw [List.mem_singleton.mp hx]
        exact hd6
  obtain ⟨⟨x5, rfl⟩, k', hp', acc, vs, hacc, hda, hlen, hvs⟩ := hh
  refine q_forX ⟨.ref vl, rfl, vl, rfl, ⟨acc, SqL.of hacc⟩, ?_⟩
  refine forT_list (xs := acc) (fun _ σ' H6 => (∃ x5 x6, σ' = [some (.ref p), some kv, some (.ref l), some o, some (.ref vl), x5, x6, none, none]) ∧ Ex H' H6) ⟨⟨_, _, rfl⟩, Ex.refl H'⟩ (fun i σ' H6 _ hh => ex_l hh.2 (SqL.of hacc)) (fun i x σ' H6 hx hh => ?_) (fun σ' H6 hh => ?_)
  · obtain ⟨⟨y5, y6, rfl⟩, e6⟩ := hh
    obtain ⟨d, hdi, hdx⟩ := dps_of i hda hx
    have hdv := hvs d (List.mem_of_getElem? hdi)
    refine s_when (b := false) (et_is (et_not (a := true) (et_B fun H7 e7 Q7 q7 => t_call (t_cons ⟨.ref l, rfl, t_cons ⟨x, rfl, .ref l, x, ds, d, rfl, pats H7 (k'.trans (Kp.ex (e6.trans e7))), dpMono (e6.trans e7) _ _ hdx, hg, h1, h5, hdv, q7⟩⟩))) rfl) (fun z => nomatch z) fun _ H7 e7 => ⟨⟨_, _, rfl⟩, e6.trans e7⟩
  obtain ⟨⟨y5, y6, rfl⟩, e6⟩ := hh
  have hp6 := hp'.ex e6
  have hacc6 := e6 _ _ hacc
  have hda6 := dpsMono e6 _ _ hda
  have npv : nptAll vs = true := npt_frzAll _ (frz_all fun d hd => (hvs d hd).frz)
  have vals : ∀ H7, Kp [p] H6 H7 → Dp K H7 (.ref vl) (.list vs) := fun H7 k => .lst (SqL.of (k vl _ (by simpa using hvp) hacc6)) (dpsKp hp6 k _ _ npv hda6)
  refine q_forX (t_rng (t_cons (t_c ⟨8, rfl, by decide, by decide, ?_⟩)))
  refine forT_range (n := 8) (fun t σ' H7 => (∃ x5 x7 x8, σ' = [some (.ref p), some kv, some (.ref l), some o, some (.ref vl), x5, y6, x7, x8]) ∧ Kp [p] H6 H7 ∧ Pot H7 p) ⟨⟨_, _, _, rfl⟩, Kp.refl _ _, hp6⟩ (fun t σ' H7 ht2 hh => ?_) (fun σ' H7 hh => ?_)
  · obtain ⟨⟨x5, x7, x8, rfl⟩, k7, hp7⟩ := hh
    obtain ⟨d, hdi⟩ : ∃ d, vs[t % 7]? = some d := ⟨_, List.getElem?_eq_getElem (by omega)⟩
    have hdv := hvs d (List.mem_of_getElem? hdi)
    have hwf : wf 9 d = true := (bw_wf _ d (by decide) hdv.facts.2).1
    have hix : Ed K (tOp (rI (fun _ j => 0 < j) fun i j => .int (i % j)) (tVar 5) (tC (.int 7))) [some (.ref p), some kv, some (.ref l), some o, some (.ref vl), some (.int (t : Nat)), y6, x7, x8] H7 (.int ((t % 7 : Nat) : Int)) :=
      ed_ev (ev_modC (ev_var rfl) ev_c (by decide)) (.int _)
    refine q_asgX (t_call (t_cons ⟨.ref p, rfl, t_cons (ed_ixL (n := t % 7) (ed_var rfl (vals H7 k7)) hix hdi H7 (Ex.refl H7) _ fun x H8 e8 hx => ⟨p, x, d, rfl, hp7.ex e8, hx, hwf, hdv.frz, fun r b H9 hb hr9 k9 hp9 => ?_⟩)⟩))
    have rb := bent_rpr hdv hb
    obtain ⟨f1, f2, f3, f4⟩ := bent_facts (Nat.le_refl 4) hdv hb
    refine q_asgX (ed_repr (ed_var rfl hr9) rb H9 (Ex.refl H9) _ fun z H10 e10 hz => ?_)
    have hr10 := dpMono e10 _ _ hr9
    refine s_when (b := false) (et_is (et_or (et_cmp (ed_ne (ed_repr (ed_plainK (ed_var rfl hr10) f3) (bool_rpr _)) (ed_repr (ed_call1 (f := fun d => .bool (lawP (11 + 1) d)) (ed_var rfl hr10) ⟨f1, f2⟩) (bool_rpr _)) (str_ok (bool_rpr _)) (str_ok (bool_rpr _))))
      (fun _ => et_cmp (ed_ne (ed_repr (ed_var rfl hr10) rb) (ed_var rfl hz) (str_ok rb) (str_ok rb)))) (by simp [PyData.eqv, f4])) (fun z => nomatch z) fun _ H11 e11 => ?_
    exact ⟨⟨_, _, _, rfl⟩, (((k7.trans (Kp.ex e8)).trans k9).trans (Kp.ex e10)).trans (Kp.ex e11), (hp9.ex e10).ex e11⟩
  obtain ⟨⟨x5', x7, x8, rfl⟩, k7, hp7⟩ := hh
  obtain ⟨d3, hd3⟩ : ∃ d3, vs[3]? = some d3 := ⟨_, List.getElem?_eq_getElem (by omega)⟩
  have ntp : tab ≠ p := fun z => by
    obtain ⟨_, _, g, _⟩ := hp
    rw [z, g] at ht
    cases ht
  have kk : Kp [p] H2 H7 := (k'.trans (Kp.ex e6)).trans k7
  have ht7 : H7 tab = some (.tbl #[]) := ((k1.trans k2).trans kk) tab _ (by simpa using ntp) ht
  refine s_retX (t_call (t_cons (ed_ixL (n := 3) (ed_var rfl (vals H7 k7)) ed_int hd3 H7 (Ex.refl H7) _ fun a H8 e8 ha => t_cons (ed_ixL (n := 0) (ed_var rfl (pats H8 (kk.trans (Kp.ex e8)))) ed_int hd0 H8 (Ex.refl H8) _ fun b H9 e9 hb => ?_))))
  exact ⟨a, b, d3, d0, rfl, dpMono e9 _ _ ha, hb, hvs d3 (List.mem_of_getElem? hd3), g0, fun y hy => by
    rw [List.mem_singleton.mp hy]
    exact LamX.TabS.nil (e9 _ _ (e8 _ _ ht7)), q⟩
end
end K25

end

section
set_option maxHeartbeats 4000000
namespace K25
open PySem PySem.Spec PyProof.Rows L2 Evl
section
variable {P : Program} {w : World} {K : PySem.W.Frag} {mg : Str → Option Value} {base : Heap}
def spLaw (K : PySem.W.Frag) (tab : Addr) : Sp := fun vs H Q _ => ∃ (a : Addr) (ns : List Int), vs = [.ref a] ∧ SqL K H a (ns.map V.int) ∧ H tab = some (.tbl #[]) ∧ ∀ H', Q (.bl true) H'
theorem sc_law : FnScope ["_law_script"] ["_law_script"] (defScope s84) := ⟨rfl, rfl, rfl, by decide +kernel, rfl, by decide +kernel, by decide +kernel⟩
theorem ok_law {c tab : Addr} (T : Tx K mg) (R : ErrT K) (TB : LamX.TabB base mg c tab) (hc : CodeAt K "_law_refused_right" c) : DfG P w K mg base 18 "law" ["_law_script"] (spLaw K tab) := by
  have D__law_pot := ok__law_pot (P := P) (w := w) (base := base) T
  have D__law_right := ok__law_right (P := P) (w := w) (base := base) T R TB hc
  refine dfG_ok T.f_law T.g_law sc_law (fun vs H Q E h => by
    obtain ⟨a, ns, rfl, _⟩ := h
    rfl) (fun _ _ _ _ _ _ us hl => match us, hl with | [_], _ => rfl) fun cdv A outer s H vs Q hcd hgd hr h => ?_
  obtain ⟨a, ns, rfl, hs, ht, q⟩ := h
  clear hcd
  have nd := sc_law.nd
  refine ⟨_, (pss_one (ps_ret (pe_dfG D__law_right hgd hr (pa_cons (pe_df D__law_pot hr (pa_cons (pv 0) (pa_cons pe_int pa_nil))) pa_nil)))), ?_⟩
  exact s_retX (t_call (t_cons (t_call (t_cons ⟨.ref a, rfl, t_cons (t_c ⟨a, ns, rfl, hs, fun p H1 e1 hp hpot => ⟨p, rfl, hpot, e1 _ _ ht, q⟩⟩)⟩))))
end
/-! ### the end: the law, called by the claim's caller -/
theorem law_end {P : Program} {w : World} {K : PySem.W.Frag} {mg mb : Str → Option Value} {k : Nat} {a c tab : Addr} {x y : Str} {s1 : Shared} {us : List Value} {ns : List Int} (hK : K.In s1.heap) (hM : s1.heap.Ns mainGlobals mg) (hB : s1.heap.Ns builtinsNs mb)
    (hboot : ∀ z : Str, z ≠ "__name__" → mb z = bootBuiltins z) (nolim : s1.heap.NoLimit) (nogen : s1.gens = #[]) (htab : s1.heap.get? tab = some { cls := .none, data := .fields #[] }) (ntab : K.lookup tab = none) (hcode : PySem.W.CodeHd s1.heap c tab)
    (hmain : ∃ (bm : Addr) (ob : Obj), mg "__builtins__" = some (.ref bm) ∧ bm ≠ builtinsNs ∧ s1.heap.get? bm = some ob ∧ ob.cls = .type "module" ∧ ob.dict = some builtinsNs ∧ ob.data = .plain) (hscr : s1.heap.get? a = some { cls := .type "list", data := .seq us.toArray })
    (hint : IntsAre us ns) (hlen : ns.length ≤ sizeLine) (room : Room k callerA) (D : ∀ base : Heap, K.In base → base.Ns mainGlobals mg → LamX.TabB base mg c tab → DfG P w K mg base k x [y] (spLaw K tab)) :
    codeAny (model P w) callerA (.call (.ref (He.ga K x)) ⟨[.ref a], []⟩) (fun r s2 => r = .ok (.ret (.bool true)) ∧ OldK s1.heap s2.heap ∧ s2.os = s1.os ∧ AllBare s2.gens) s1 := by
  have hvals := vals_ints hint
  have nat : a ≠ tab := fun z => by
    rw [z, htab] at hscr
    cases hscr
  let H : Hp := fun b => if b = tab then some (.tbl #[]) else if b = a ∧ K.lookup a = none then some (.frz { cls := .type "list", data := .seq us.toArray } (.lst (ns.map V.int))) else none
  have Htab : H tab = some (.tbl #[]) := if_pos rfl
  have Hcase : ∀ b, H b = none ∨ (b = tab ∧ H b = some (.tbl #[])) ∨ (b = a ∧ K.lookup a = none ∧ H b = some (.frz { cls := .type "list", data := .seq us.toArray } (.lst (ns.map V.int)))) := fun b => by
    by_cases h1 : b = tab
    · exact .inr (.inl ⟨h1, if_pos h1⟩)
    · by_cases h2 : b = a ∧ K.lookup a = none
      · exact .inr (.inr ⟨h2.1, h2.2, (if_neg h1).trans (if_pos h2)⟩)
      · exact .inl ((if_neg h1).trans (if_neg h2))
  have Hseq : SqL K H a (ns.map V.int) := by
    cases hk : K.lookup a with
    | none => exact .inl (.inr ⟨{ cls := .type "list", data := .seq us.toArray }, (if_neg nat).trans (if_pos ⟨rfl, hk⟩)⟩)
    | some o =>
      have g := hK a o hk
      rw [hscr] at g
      cases g
      exact .inr ⟨_, us.toArray, _, hk, rfl, rfl, rfl, by rw [List.size_toArray, hint.length]; exact hlen, by simpa using hvals⟩
  have Hok : HOk P w H s1.heap := fun b u hu => by
    rcases Hcase b with z | ⟨rfl, z⟩ | ⟨rfl, _, z⟩
    · rw [z] at hu
      cases hu
    · rw [z] at hu
      cases hu
      exact htab
    · rw [z] at hu
      cases hu
      exact ⟨hscr, by rw [List.length_map]; exact hlen, us, _, hvals, hscr⟩
  -- what is hidden is no dict, no record of fields, no plain thing
  have clear_ : ∀ {b : Addr} {o : Obj}, s1.heap.get? b = some o → o.data ≠ .fields #[] → (∀ m, o.data ≠ .seq us.toArray m) → H b = none := fun {b o} g n1 n2 => by
    rcases Hcase b with z | ⟨rfl, _⟩ | ⟨rfl, _, _⟩
    · exact z
    · rw [htab] at g
      cases g
      exact absurd rfl n1
    · rw [hscr] at g
      cases g
      exact absurd rfl (n2 _)
  have dict_ : ∀ {b : Addr} {o : Obj} {es : Array DictEntry} {ep : Nat}, s1.heap.get? b = some o → o.data = .dict es ep → H b = none := fun {b o es ep} g gd => clear_ g (by rw [gd]; exact fun z => nomatch z) fun m => by rw [gd]; exact fun z => nomatch z
  have space : ∀ {b : Addr} {m : Str → Option Value}, s1.heap.Ns b m → (hidT s1.heap H).Ns b m := fun {b m} ⟨o, es, ep, g, gd, r⟩ => ⟨o, es, ep, hidT_get g (dict_ g gd), gd, r⟩
  have kin : K.In (hidT s1.heap H) := fun b o g => hidT_get (hK b o g) (by
    rcases Hcase b with z | ⟨rfl, _⟩ | ⟨rfl, z, _⟩
    · exact z
    · rw [ntab] at g
      cases g
    · rw [z] at g
      cases g)
  have M : L2.Mod K mg (hidT s1.heap H) := ⟨kin, space hM, ⟨mb, space hB, hboot⟩, by
    obtain ⟨mc, l1, l2⟩ := nolim
    exact ⟨mc, space l1, l2⟩⟩
  have gl : ∀ b, s1.heap.get? b = some { cls := .none, data := .fields #[] } → mainGlobals ≠ b := fun b g z => by
    obtain ⟨o, es, ep, g2, gd, _⟩ := hM
    rw [z, g] at g2
    cases g2
    cases gd
  have TB : LamX.TabB (hidT s1.heap H) mg c tab := by
    refine ⟨?_, ?_, gl tab htab⟩
    · obtain ⟨o, fs, file, tf, flags, tg, inF, text, tt, g, r1, r2, r3, rest⟩ := hcode
      refine ⟨o, fs, file, tf, flags, tg, inF, text, tt, hidT_get g (clear_ g (fun z => ?_) fun m z => ?_), r1, r2, r3, rest⟩
      · rw [r2] at z
        cases z
        simp at r3
      · rw [r2] at z
        cases z
    · obtain ⟨bm, ob, m1, m2, m3, m4, m5, m6⟩ := hmain
      refine ⟨bm, ob, m1, m2, fun z => ?_, fun z => ?_, hidT_get m3 (clear_ m3 (by rw [m6]; exact fun z => nomatch z) fun m => by rw [m6]; exact fun z => nomatch z), m4, m5, m6⟩
      · obtain ⟨o, es, ep, g2, gd, _⟩ := hM
        rw [← z, m3] at g2
        cases g2
        rw [m6] at gd
        cases gd
      · rw [z, htab] at m3
        cases m3
        cases m6
  obtain ⟨fd, len, run, bnd, kp, hmg⟩ := D _ kin (space hM) TB
  have E : Env0 P w K mg (hidT s1.heap H) callerA [] s1 H := ⟨rfl, M, fun b o g => of_hidT g, Nat.le_of_eq (hidT_size _ _), trivial, fun b hb => (nomatch (show b ∈ ([] : List Addr) from hb)), Hok, .of_eq nogen⟩
  have bt : BindsTo s1 fd ⟨[.ref a], []⟩ (([y] : List Str).zip [.ref a]) := by
    have := bnd s1 [.ref a] hK (by simp)
    simpa using this
  refine codeAny_mono (run callerA [] s1 H [.ref a] [.ref a] (fun v _ => v = .bl true) rfl room E bt (.cons rfl .nil) ⟨a, ns, rfl, Hseq, Htab, fun _ => rfl⟩) fun r s2 h => ?_
  match r, h with
  | .error e, h => exact False.elim h
  | .ok .next, h => exact False.elim h
  | .ok .brk, h => exact False.elim h
  | .ok .cont, h => exact False.elim h
  | .ok (.ret u), h =>
    obtain ⟨v, H2, os, bare, un, hok2, ru, qv⟩ := h
    have qv : v = .bl true := qv
    subst qv
    obtain rfl : u = Value.bool true := ru
    obtain ⟨more, hmore⟩ := un.tbls tab #[] Htab
    have grown : s2.heap.get? tab = some { cls := .none, data := .fields (#[] ++ more) } := hok2 tab _ hmore
    have same : ∀ b o, b ≠ tab → s1.heap.get? b = some o → s2.heap.get? b = some o := fun b o nb g => by
      rcases Hcase b with z | ⟨z, _⟩ | ⟨rfl, _, z⟩
      · exact un.keep b o g z (fun q => (nomatch (show b ∈ ([] : List Addr) from q))) (by simp)
      · exact absurd z nb
      · obtain ⟨g2, _⟩ := hok2 b _ (un.frzs b _ _ z)
        rw [hscr] at g
        cases g
        exact g2
    refine ⟨rfl, ⟨fun b o g => ?_, fun b o g => ?_⟩, os, bare⟩
    · by_cases hb : b = tab
      · subst hb
        rw [htab] at g
        cases g
        exact .inr (.inl ⟨(hcode.tab htab).isCodeTable, rfl, #[], more, rfl, grown⟩)
      · exact .inl (same b o hb g)
    · by_cases hb : b = tab
      · subst hb
        exact ⟨_, grown⟩
      · exact ⟨o, same b o hb g⟩
end K25

end

section
set_option maxHeartbeats 0
namespace K25
open PySem PySem.Spec PyProof.Rows L2 Evl
abbrev refD : He.Defn := ("_law_refused_right", none)
theorem code_at {K : PySem.W.Frag} {mg : Str → Option Value} (T : Tx K mg) : CodeAt K "_law_refused_right" (He.cT K refD).1 := fun o fd ho hd => by
  obtain ⟨fd2, F⟩ := T.f__law_refused_right
  obtain ⟨oc, od, dV, kV, doc, pm, an, cdv, ct, osl, rfl, lk, hcd, _, _⟩ := F.ex
  rw [lk] at ho
  cases ho
  cases hd
  obtain ⟨c, rfl⟩ := He.codeIn_ref hcd
  have e := He.codeOf_eq (K := K) (p := refD) lk rfl
  show Value.ref c = Value.ref (He.codeOf K refD)
  rw [e]
theorem walk_law : PySem.W.WalkO (PySem.W.view R.prog [84]) loose (PySem.W.XL (PySem.W.view R.prog [84]) []) hk.says R.toRowW (HandSHeadRun.topDef R.prog 84) [] (fun f vs => PySem.call f vs) := by
  refine Att.attach_callB (l := PySem.Challenge.rw_changedsame_k25_whole_matching) (n := 63) rfl (by kernel_rfl) fun w s₀ s₁ mg mb f o pm cd doc a vs ns G Y ho hd hcd hmg hobj hints hlen hbits hg => ?_
  obtain ⟨K, KX, S⟩ := Y
  have e : (HandSHeadRun.topDef R.prog 84).name = ("law" : Str) := by kernel_rfl
  rw [e] at hmg
  have T : Tx K mg := tx_of KX G.T.g S.t.d S.more
  have ef := hmg.symm.trans T.g_law
  cases ef
  have mem : refD ∈ tf := by decide +kernel
  exact law_end (k := 18) (c := (He.cT K refD).1) (tab := (He.cT K refD).2) (y := "_law_script") KX G.T.g G.T.b G.T.builtins G.T.nolimit hg (S.empty _ mem) (S.out _ mem) (PySem.W.codeHd_of_K KX (S.hd _ mem)) G.T.bmain hobj hints (Nat.le_trans hlen (by decide)) ⟨rfl, by decide, by decide⟩
    fun base _ _ TB => ok_law T (errT_of T.ex) TB (code_at T)
end K25

end

namespace K25
open PySem PySem.Spec PyProof.Rows L2 Evl
theorem runs (w : World) : HandSHeadRun.RunEq R (PySem.W.view R.prog [84]) hk ob 6000 loose w := PySem.W.byRow2 "special-get-raises" (P := fun w => HandSHeadRun.RunEq R (PySem.W.view R.prog [84]) hk ob 6000 loose w) run0 run1 w
end K25
open PySem PySem.W PySem.Calls PyProof.Rows
theorem PySem.Challenge.cw_changedsame_k25_whole_matching_holds : PySem.Challenge.rw_changedsame_k25_whole_matching.Holds := by
  w_on; o_law
  refine HandSHeadRun.head_any (r := K25.R) (q := view K25.R.prog [84]) (H := K25.hk) (ob := K25.ob) (M := 6000) (loose := K25.loose) (d := HandSHeadRun.topDef K25.R.prog 84) (kwd := []) K25.ob_eq
    (by kernel_rfl) (fun s => by kernel_rfl) K25.runs (by kernel_rfl) (by kernel_rfl) (by kernel_rfl) (by rfl) (by first | assumption | decide +kernel) (by decide +kernel) ⟨rfl, rfl, rfl, rfl, rfl, by decide +kernel⟩ ?hw ?hc
  case hw => w_witness2
  case hc => exact K25.walk_law
