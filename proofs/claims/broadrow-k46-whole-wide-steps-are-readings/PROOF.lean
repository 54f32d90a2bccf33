import PyProof.Rows.All
import Wide.All
import OpenK.AllK
import Wide.FinOn
import KE.KStateDown
import Lean
import HandS.Base
import HandS.Call
import HandS.Ends
import HandS.Exc
import HandS.ExcInit
import HandS.ExcField
import HandS.Words
import HandS.WordsExc
import HandS.Defaults
import HandS.Head0
import HandS.Head1
import HandS.Head2
import HandS.HeadEnd
import HandS.HeadHook1
import HandS.HeadHook2
import HandS.HeadHook4
import PySem.Challenge.RW_broadrow_k46_whole_wide_steps_are_readin
import HandS.ForMost
import HandS.ForExc
import HandS.Walk
import HandS.Conv
import HandS.IsInst
import HandS.Codes
import HandS.TupAny
import HandS.Zip
import HandS.Wide
import HandS.Steps
import HandS.SetFor
import KE.KDictZip
import PyProof.Rows.CountFlat
import HandS.ListItems
import KE.KDictItemsList
import HandS.Zip0
import HandS.TupMul
import KE.GoesZip
import KE.KDictKeyed
import KE.KeyNested
import HandS.CallSlots
import HandS.Small
set_option Elab.async false
set_option linter.all false
set_option maxRecDepth 100000
set_option maxHeartbeats 0
namespace Bw
open PySem PySem.Spec PyProof.Rows L2
/-! the text by places -/
def topS (i : Nat) : Stmt := PySem.Challenge.pw_broadrow_k46_whole_wide_steps_are_readin.main.body.getD i (.Pass ⟨0, 0, 0, 0⟩)
abbrev s_is_whole : Stmt := topS 6
abbrev s_is_number : Stmt := topS 7
abbrev s_is_worth : Stmt := topS 8
abbrev s_size : Stmt := topS 9
abbrev s_flat_of : Stmt := topS 11
abbrev s_parted : Stmt := topS 12
abbrev s_worths_of : Stmt := topS 13
abbrev s_many_in : Stmt := topS 14
abbrev s_far_words : Stmt := topS 20
abbrev s_sum_word : Stmt := topS 21
abbrev s_cut_word : Stmt := topS 22
abbrev s_words_of_two : Stmt := topS 23
abbrev s_words_of : Stmt := topS 24
abbrev s_first_stop : Stmt := topS 25
abbrev s_begins : Stmt := topS 27
abbrev s_numbers_within : Stmt := topS 28
abbrev s_chosen : Stmt := topS 29
abbrev s_taken : Stmt := topS 30
abbrev s_first_ones : Stmt := topS 35
abbrev s_summed_ahead : Stmt := topS 40
abbrev s_of_numbers : Stmt := topS 41
abbrev s_one_parted : Stmt := topS 42
abbrev s_joined : Stmt := topS 45
abbrev s_kept_within : Stmt := topS 46
abbrev s_two_parted : Stmt := topS 47
abbrev s_wide_step : Stmt := topS 48
abbrev s_is_great : Stmt := topS 53
abbrev s_numbered : Stmt := topS 54
abbrev s_divided : Stmt := topS 55
abbrev s_beginnings : Stmt := topS 58
abbrev s_summed : Stmt := topS 59
abbrev s_greatest : Stmt := topS 60
abbrev s_bounded : Stmt := topS 63
abbrev s_cut : Stmt := topS 70
abbrev s_done_one : Stmt := topS 71
abbrev s_done_two : Stmt := topS 72
abbrev s_done_once : Stmt := topS 73
abbrev s_parts : Stmt := topS 78
abbrev s_copied : Stmt := topS 84
abbrev s_width_of : Stmt := topS 86
abbrev s_named : Stmt := topS 88
abbrev s_read : Stmt := topS 89
abbrev s_law_draw : Stmt := topS 91
abbrev s_law_number : Stmt := topS 92
abbrev s_law_kind : Stmt := topS 93
abbrev s_law_worth : Stmt := topS 94
abbrev s_law_alike : Stmt := topS 95
abbrev s_law_kinds : Stmt := topS 96
abbrev s_law_kinds_of_one : Stmt := topS 97
abbrev s_law_long : Stmt := topS 98
abbrev s_law_thing : Stmt := topS 99
abbrev s_law_readings : Stmt := topS 100
abbrev s_law_sign : Stmt := topS 101
abbrev s_law : Stmt := topS 102
abbrev s_reckoned_stops : Stmt := topS 18
abbrev s_behind_taking : Stmt := topS 31
abbrev s_kept_taking : Stmt := topS 33
abbrev s_counted_wide : Stmt := topS 38
abbrev s_picked_wide : Stmt := topS 43
abbrev s_reckoned_single : Stmt := topS 56
abbrev s_counted_single : Stmt := topS 61
abbrev s_behind_single : Stmt := topS 64
abbrev s_picked_single : Stmt := topS 66
abbrev s_kept_single : Stmt := topS 68
abbrev s_Stopped_init : Stmt := inClass (topS 83) 0
abbrev s_Reading_init : Stmt := inClass (topS 87) 0
abbrev s_Reading_note : Stmt := inClass (topS 87) 1
abbrev s_Reading_worth : Stmt := inClass (topS 87) 2
/-! each def as a datum -/
def dG (x nm : Str) (st : Stmt) : He.DefD := ⟨(x, none), nm, nm, defArgs st, defBody st, defScope st, [], []⟩
def dM (c m q : Str) (st : Stmt) : He.DefD := ⟨(c, some m), m, q, defArgs st, defBody st, defScope st, [], []⟩
def d_is_whole : He.DefD := dG "is_whole" "is_whole" s_is_whole
def d_is_number : He.DefD := dG "is_number" "is_number" s_is_number
def d_is_worth : He.DefD := dG "is_worth" "is_worth" s_is_worth
def d_size : He.DefD := dG "size" "size" s_size
def d_flat_of : He.DefD := dG "flat_of" "flat_of" s_flat_of
def d_parted : He.DefD := dG "parted" "parted" s_parted
def d_worths_of : He.DefD := dG "worths_of" "worths_of" s_worths_of
def d_many_in : He.DefD := dG "many_in" "many_in" s_many_in
def d_far_words : He.DefD := dG "far_words" "far_words" s_far_words
def d_sum_word : He.DefD := dG "sum_word" "sum_word" s_sum_word
def d_cut_word : He.DefD := dG "cut_word" "cut_word" s_cut_word
def d_words_of_two : He.DefD := dG "words_of_two" "words_of_two" s_words_of_two
def d_words_of : He.DefD := dG "words_of" "words_of" s_words_of
def d_first_stop : He.DefD := dG "first_stop" "first_stop" s_first_stop
def d_begins : He.DefD := dG "begins" "begins" s_begins
def d_numbers_within : He.DefD := dG "numbers_within" "numbers_within" s_numbers_within
def d_chosen : He.DefD := dG "chosen" "chosen" s_chosen
def d_taken : He.DefD := dG "taken" "taken" s_taken
def d_first_ones : He.DefD := dG "first_ones" "first_ones" s_first_ones
def d_summed_ahead : He.DefD := dG "summed_ahead" "summed_ahead" s_summed_ahead
def d_of_numbers : He.DefD := dG "of_numbers" "of_numbers" s_of_numbers
def d_one_parted : He.DefD := dG "one_parted" "one_parted" s_one_parted
def d_joined : He.DefD := dG "joined" "joined" s_joined
def d_kept_within : He.DefD := dG "kept_within" "kept_within" s_kept_within
def d_two_parted : He.DefD := dG "two_parted" "two_parted" s_two_parted
def d_wide_step : He.DefD := dG "wide_step" "wide_step" s_wide_step
def d_is_great : He.DefD := dG "is_great" "is_great" s_is_great
def d_numbered : He.DefD := dG "numbered" "numbered" s_numbered
def d_divided : He.DefD := dG "divided" "divided" s_divided
def d_beginnings : He.DefD := dG "beginnings" "beginnings" s_beginnings
def d_summed : He.DefD := dG "summed" "summed" s_summed
def d_greatest : He.DefD := dG "greatest" "greatest" s_greatest
def d_bounded : He.DefD := dG "bounded" "bounded" s_bounded
def d_cut : He.DefD := dG "cut" "cut" s_cut
def d_done_one : He.DefD := dG "done_one" "done_one" s_done_one
def d_done_two : He.DefD := dG "done_two" "done_two" s_done_two
def d_done_once : He.DefD := dG "done_once" "done_once" s_done_once
def d_parts : He.DefD := dG "parts" "parts" s_parts
def d_copied : He.DefD := dG "copied" "copied" s_copied
def d_width_of : He.DefD := dG "width_of" "width_of" s_width_of
def d_named : He.DefD := dG "named" "named" s_named
def d_read : He.DefD := dG "read" "read" s_read
def d_law_draw : He.DefD := dG "_law_draw" "_law_draw" s_law_draw
def d_law_number : He.DefD := dG "_law_number" "_law_number" s_law_number
def d_law_kind : He.DefD := dG "_law_kind" "_law_kind" s_law_kind
def d_law_worth : He.DefD := ⟨("_law_worth", none), "_law_worth", "_law_worth", defArgs s_law_worth, defBody s_law_worth, defScope s_law_worth, [.bl true], []⟩
def d_law_alike : He.DefD := dG "_law_alike" "_law_alike" s_law_alike
def d_law_kinds : He.DefD := dG "_law_kinds" "_law_kinds" s_law_kinds
def d_law_kinds_of_one : He.DefD := dG "_law_kinds_of_one" "_law_kinds_of_one" s_law_kinds_of_one
def d_law_long : He.DefD := dG "_law_long" "_law_long" s_law_long
def d_law_thing : He.DefD := dG "_law_thing" "_law_thing" s_law_thing
def d_law_readings : He.DefD := dG "_law_readings" "_law_readings" s_law_readings
def d_law_sign : He.DefD := dG "_law_sign" "_law_sign" s_law_sign
def d_law : He.DefD := dG "law" "law" s_law
def d_reckoned_stops : He.DefD := dG "reckoned_stops" "reckoned" s_reckoned_stops
def d_behind_taking : He.DefD := dG "behind_taking" "behind" s_behind_taking
def d_kept_taking : He.DefD := dG "kept_taking" "kept" s_kept_taking
def d_counted_wide : He.DefD := dG "counted_wide" "counted" s_counted_wide
def d_picked_wide : He.DefD := dG "picked_wide" "picked" s_picked_wide
def d_reckoned_single : He.DefD := dG "reckoned_single" "reckoned" s_reckoned_single
def d_counted_single : He.DefD := dG "counted_single" "counted" s_counted_single
def d_behind_single : He.DefD := dG "behind_single" "behind" s_behind_single
def d_picked_single : He.DefD := dG "picked_single" "picked" s_picked_single
def d_kept_single : He.DefD := dG "kept_single" "kept" s_kept_single
def d_Stopped_init : He.DefD := dM "Stopped" "__init__" "Stopped.__init__" s_Stopped_init
def d_Reading_init : He.DefD := dM "Reading" "__init__" "Reading.__init__" s_Reading_init
def d_Reading_note : He.DefD := dM "Reading" "note" "Reading.note" s_Reading_note
def d_Reading_worth : He.DefD := dM "Reading" "worth" "Reading.worth" s_Reading_worth
/-! the facts -/
def fn0 : List He.DefD := [d_is_whole, d_is_number, d_is_worth, d_size, d_flat_of, d_parted, d_worths_of, d_many_in, d_far_words, d_sum_word, d_cut_word, d_words_of_two, d_words_of, d_first_stop, d_begins, d_numbers_within, d_chosen, d_taken, d_first_ones, d_summed_ahead, d_of_numbers, d_one_parted, d_joined, d_kept_within, d_two_parted, d_wide_step, d_is_great, d_numbered, d_divided, d_beginnings]
def fn1 : List He.DefD := [d_summed, d_greatest, d_bounded, d_cut, d_done_one, d_done_two, d_done_once, d_parts, d_copied, d_width_of, d_named, d_read, d_law_draw, d_law_number, d_law_kind, d_law_worth, d_law_alike, d_law_kinds, d_law_kinds_of_one, d_law_long, d_law_thing, d_law_readings, d_law_sign, d_law, d_reckoned_stops, d_behind_taking, d_kept_taking, d_counted_wide, d_picked_wide, d_reckoned_single]
def fn2 : List He.DefD := [d_counted_single, d_behind_single, d_picked_single, d_kept_single, d_Stopped_init, d_Reading_init, d_Reading_note, d_Reading_worth]
def fn : List He.DefD := fn0 ++ fn1 ++ fn2
def fa0 : List He.Fa := [.glo "is_whole", .glo "is_number", .glo "is_worth", .glo "size", .glo "flat_of", .glo "parted", .glo "worths_of", .glo "many_in", .glo "far_words", .glo "sum_word", .glo "cut_word", .glo "words_of_two", .glo "words_of", .glo "first_stop", .glo "begins", .glo "numbers_within", .glo "chosen", .glo "taken", .glo "first_ones", .glo "summed_ahead", .glo "of_numbers", .glo "one_parted", .glo "joined", .glo "kept_within", .glo "two_parted", .glo "wide_step", .glo "is_great", .glo "numbered", .glo "divided", .glo "beginnings"]
def fa1 : List He.Fa := [.glo "summed", .glo "greatest", .glo "bounded", .glo "cut", .glo "done_one", .glo "done_two", .glo "done_once", .glo "parts", .glo "copied", .glo "width_of", .glo "named", .glo "read", .glo "_law_draw", .glo "_law_number", .glo "_law_kind", .glo "_law_worth", .glo "_law_alike", .glo "_law_kinds", .glo "_law_kinds_of_one", .glo "_law_long", .glo "_law_thing", .glo "_law_readings", .glo "_law_sign", .glo "law", .glo "reckoned_stops", .glo "behind_taking", .glo "kept_taking", .glo "counted_wide", .glo "picked_wide", .glo "reckoned_single"]
def fa2 : List He.Fa := [.glo "counted_single", .glo "behind_single", .glo "picked_single", .glo "kept_single", .glo "BroadError", .glo "NoThing", .glo "Stopped", .glo "Reading", .glo "NUM", .glo "CARRIERS", .glo "BINDERS", .free "isinstance", .free "len", .free "list", .free "sum", .free "zip", .free "range", .free "enumerate", .free "tuple", .free "int", .free "max", .free "min", .free "all", .free "bool", .free "ValueError", .int "GREATEST_worths" 1000000000000000000, .int "MOST_THINGS_worths" 200, .int "MOST_THINGS_stops" 200, .int "GREATEST_single" 1000000000000000000, .int "MOST_THINGS_single" 200]
def fa3 : List He.Fa := [.cls "Reading", .mkr "Reading", .meth "Reading" "note", .meth "Reading" "worth", .noat "Reading" "met", .exm "Stopped" "Stopped" true, .keep "Stopped"]
def fa : List He.Fa := fa0 ++ fa1 ++ fa2 ++ fa3
/-- the exception's class, the top's tuples -/
def oexB (K : PySem.W.Frag) (C : Addr) : Bool := match K.lookup C with
  | some ⟨.type "type", _, .cls cd, sl⟩ => (match cd.mro, sl.toList with
    | .ref C' :: bm, [_, _, _, _, some (.builtin n), _] => C' == C && (n == "ValueError.__new__" && (!cd.hasDel && (cd.hasDict && PySem.HandSPX.refsVE bm)))
    | _, _ => false)
  | _ => false
def eqF (a b : Option (Option Value)) : Bool := decide (a = b)
def exB (K : PySem.W.Frag) : Bool :=
  oexB K (He.ga K "Stopped") && (eqF (PySem.W.findIn K (.ref (He.ga K "Stopped")) "__setattr__") (some (some (.builtin "object.__setattr__"))) &&
  (decide (PySem.W.subIn K (.ref (He.ga K "Stopped")) (.type "BaseException") = some true) && (decide (PySem.W.typeIn K (.ref (He.ga K "Stopped")) = some (.type "type")) &&
  (PySem.W.keepIn K (.ref (He.ga K "Stopped")) && (eqF (PySem.W.findIn K (.ref (He.ga K "Stopped")) "word") (some none) && (eqF (PySem.W.findIn K (.ref (He.ga K "Stopped")) "place") (some none) &&
  (eqF (PySem.W.findIn K (.ref (He.ga K "Stopped")) "turns") (some none) && (eqF (PySem.W.findIn K (.ref (He.ga K "Stopped")) "__init__") (some (some (.ref (He.ma K (He.ga K "Stopped") "__init__")))) &&
  (decide (PySem.W.typeIn K (.ref (He.ma K (He.ga K "Stopped") "__init__")) = some (.type "function")) && (xfB K (He.ga K "Stopped") && (He.tupB K "NUM" [.str "num"] &&
  (He.tupB K "CARRIERS" [.str "num", .str "name", .str "none"] && He.tupB K "BINDERS" [.str "let", .str "each", .str "times"]))))))))))))
/-! the Hook: He's, and one Bool more -/
abbrev AlM : Type := He.AlD × Bool
def obsM (n : Nat) (g : Addr → Option Obj) : AlM := (He.obsD fa fn (He.frG g (He.asD g n)), exB (He.frG g (He.asD g n)))
def SaysM (K : PySem.W.Frag) : Prop := He.SaysD fa fn K ∧ exB K = true
def hk : PySem.W.Hook where
  α := AlM
  obs := fun s => obsM 5 s.heap.get?
  val := fun _ => (He.valD fn, true)
  says := fun _ h => ∃ K : PySem.W.Frag, K.In h ∧ SaysM K
  of := fun _ _ e => ⟨_, He.frG_in, congrArg (fun z : AlM => z.1) e, congrArg (fun z : AlM => z.2) e⟩
  keeps := fun _ _ _ ⟨K, hK, c⟩ k => ⟨K, PySem.W.Frag.In.keeps hK k, c⟩
def ob (s : PySem.W.SharedT) : AlM := obsM 5 (HandSHeadRun.getT s)
theorem ob_eq (s : PySem.W.SharedT) : ob s = hk.obs s.abs := by
  have e : HandSHeadRun.getT s = s.abs.heap.get? := funext (HandSHeadRun.getT_eq s)
  show obsM 5 (HandSHeadRun.getT s) = obsM 5 s.abs.heap.get?
  rw [e]
abbrev R : PySem.W.OpenRow := PySem.W.OpenLaw.row PySem.Challenge.rw_broadrow_k46_whole_wide_steps_are_readin
def loose0 : List PySem.Str := ["BroadError", "NoThing", "GREATEST_worths", "MOST_THINGS_worths", "is_whole", "is_number", "is_worth", "size", "flat_of", "parted", "worths_of", "many_in", "MOST_THINGS_stops", "NUM", "reckoned", "reckoned_stops", "far_words", "sum_word", "cut_word", "words_of_two", "words_of", "first_stop", "begins", "numbers_within", "chosen", "taken", "behind", "behind_taking", "kept", "kept_taking"]
def loose1 : List PySem.Str := ["first_ones", "none_parted", "counted", "counted_wide", "summed_ahead", "of_numbers", "one_parted", "picked", "picked_wide", "joined", "kept_within", "two_parted", "wide_step", "GREATEST_single", "MOST_THINGS_single", "MOST_TURNS", "is_great", "numbered", "divided", "reckoned_single", "beginnings", "summed", "greatest", "counted_single", "bounded", "behind_single", "picked_single", "kept_single", "cut", "done_one"]
def loose2 : List PySem.Str := ["done_two", "done_once", "turns_word", "CARRIERS", "BINDERS", "parts", "binding", "names_in", "free_names", "Stopped", "copied", "sizes_of", "width_of", "Reading", "named", "read", "_law_draw", "_law_number", "_law_kind", "_law_worth", "_law_alike", "_law_kinds", "_law_kinds_of_one", "_law_long", "_law_thing", "_law_readings", "_law_sign"]
def loose : List PySem.Str := loose0 ++ loose1 ++ loose2
theorem run (w : World) : HandSHeadRun.RunEq R (PySem.W.view R.prog [102]) hk ob 4000 loose w := by
  intro os
  kernel_rfl
end Bw
namespace Bw
open PySem PySem.Spec PyProof.Rows L2
/-! ### heaps: G the data heap within H; M what may change -/
structure Xt (M : Addr → Prop) (G H G' H' : Hp) : Prop where
  g : Same G G'
  sub : Same G' H'
  old : ∀ b o, ¬ M b → H b = some o → H' b = some o
  fr : ∀ b, H b ≠ none → G' b = G b
  alive : ∀ b, H b ≠ none → H' b ≠ none
abbrev No : Addr → Prop := fun _ => False
abbrev X0 : Hp → Hp → Hp → Hp → Prop := Xt No
theorem some_ne {α : Type} {x : α} {o : Option α} (h : o = some x) : o ≠ none := fun z => by
  rw [z] at h
  cases h
theorem same_upd {H : Hp} {p : Addr} {o : HO} (h : H p = none) : Same H (upd H p o) := fun b x e => by
  rw [upd_ne (ne_of_none e h)]
  exact e
theorem same_set {H H1 : Hp} {p : Addr} {o : HO} (e : Same H H1) (h : H p = none) : Same H (upd H1 p o) := fun b x q => by
  rw [upd_ne (ne_of_none q h)]
  exact e b x q
theorem same_both {G H : Hp} {p : Addr} {o : HO} (e : Same G H) : Same (upd G p o) (upd H p o) := fun b x q => by
  by_cases hb : b = p
  · subst hb
    rw [upd_same] at q ⊢
    exact q
  · rw [upd_ne hb] at q ⊢
    exact e b x q
theorem same_pub {G H : Hp} {p : Addr} {o : HO} (e : Same G H) (h : H p = some o) : Same (upd G p o) H := fun b x q => by
  by_cases hb : b = p
  · subst hb
    rw [upd_same] at q
    rw [h, q]
  · rw [upd_ne hb] at q
    exact e b x q
section
variable {M : Addr → Prop} {G H G1 H1 G2 H2 : Hp} {p : Addr} {o : HO}
theorem Xt.refl (s : Same G H) : Xt M G H G H := ⟨Same.refl G, s, fun _ _ _ h => h, fun _ _ => rfl, fun _ h => h⟩
theorem Xt.trans (a : Xt M G H G1 H1) (b : Xt M G1 H1 G2 H2) : Xt M G H G2 H2 :=
  ⟨a.g.trans b.g, b.sub, fun c o n h => b.old c o n (a.old c o n h), fun c h => (b.fr c (a.alive c h)).trans (a.fr c h), fun c h => b.alive c (a.alive c h)⟩
theorem Xt.weak (a : X0 G H G1 H1) : Xt M G H G1 H1 := ⟨a.g, a.sub, fun c o _ h => a.old c o (fun z => z) h, a.fr, a.alive⟩
theorem Xt.same (a : X0 G H G1 H1) : Same H H1 := fun c o h => a.old c o (fun z => z) h
theorem Xt.of_same (s : Same G H) (e : Same H H1) : Xt M G H G H1 := ⟨Same.refl G, s.trans e, fun _ _ _ h => e _ _ h, fun _ _ => rfl, fun b h z => by
  cases q : H b with
  | none => exact h q
  | some u =>
    rw [e b u q] at z
    cases z⟩
theorem Xt.new (s : Same G H) (h : H p = none) : Xt M G H (upd G p o) (upd H p o) :=
  ⟨same_upd (s.free h), same_both s, fun b u _ e => same_upd h b u e, fun b n => upd_ne fun z => n (by rw [z]; exact h), fun b n z => n (by
    cases q : H b with
    | none => rfl
    | some u =>
      rw [same_upd h b u q] at z
      cases z)⟩
theorem Xt.loc (s : Same G H) (h : H p = none) : Xt M G H G (upd H p o) := Xt.of_same s (same_upd h)
theorem Xt.set (a : Xt M G H G1 H1) (h : H p = none) (g : G1 p = none) : Xt M G H G1 (upd H1 p o) :=
  ⟨a.g, same_set a.sub g, fun b u n e => by
    rw [upd_ne (ne_of_none e h)]
    exact a.old b u n e, a.fr, fun b n => by
    by_cases hb : b = p
    · exact absurd (by rw [hb]; exact h) n
    · rw [upd_ne hb]
      exact a.alive b n⟩
theorem Xt.mset (a : Xt M G H G1 H1) (m : M p) (g : G1 p = none) : Xt M G H G1 (upd H1 p o) :=
  ⟨a.g, same_set a.sub g, fun b u n e => by
    rw [upd_ne (fun z => n (by rw [z]; exact m))]
    exact a.old b u n e, a.fr, fun b n => by
    by_cases hb : b = p
    · rw [hb, upd_same]
      exact fun z => by cases z
    · rw [upd_ne hb]
      exact a.alive b n⟩
theorem Xt.pub (a : Xt M G H G1 H1) (h : H p = none) (e : H1 p = some o) : Xt M G H (upd G1 p o) H1 :=
  ⟨fun b u q => by
    by_cases hb : b = p
    · subst hb
      rw [upd_same, ← a.sub _ _ (a.g _ _ q), e]
    · rw [upd_ne hb]
      exact a.g b u q, same_pub a.sub e, a.old, fun b n => (upd_ne fun z => n (by rw [z]; exact h)).trans (a.fr b n), a.alive⟩
theorem Xt.pub0 (s : Same G H) (e : Same H H1) (h : H p = none) (q : H1 p = some o) : Xt M G H (upd G p o) H1 := (Xt.of_same s e).pub h q
theorem Xt.free (a : Xt M G H G1 H1) (h : H1 p = none) : H p = none := by
  cases q : H p with
  | none => rfl
  | some u => exact absurd h (a.alive p (some_ne q))
theorem Xt.hid (a : Xt M G H G1 H1) (h : H p = some o) (g : G p = none) : G1 p = none := (a.fr p (some_ne h)).trans g
theorem Xt.hidN (a : Xt M G H G1 H1) (h : H p ≠ none) (g : G p = none) : G1 p = none := (a.fr p h).trans g
end
/-! ### kinds, worths -/
inductive Kd where
  | num | truth | pair (k l : Kd) | row (k : Kd)
def Kd.dep : Kd → Nat
  | .num => 1
  | .truth => 1
  | .pair k l => max k.dep l.dep + 1
  | .row k => k.dep + 1
@[reducible] def Ty : Kd → Type
  | .num => Int
  | .truth => Bool
  | .pair k l => Ty k × Ty l
  | .row k => List (Ty k)
def Kd.nm : Kd → Str
  | .num => "num"
  | .truth => "truth"
  | .pair _ _ => "pair"
  | .row _ => "row"
def KRep (K : PySem.W.Frag) (G : Hp) : Kd → V → Prop
  | .num, v => ∃ a, v = .ref a ∧ SqT K G a [.str "num"]
  | .truth, v => ∃ a, v = .ref a ∧ SqT K G a [.str "truth"]
  | .pair k l, v => ∃ a x y, v = .ref a ∧ SqT K G a [.str "pair", x, y] ∧ KRep K G k x ∧ KRep K G l y
  | .row k, v => ∃ a x, v = .ref a ∧ SqT K G a [.str "row", x] ∧ KRep K G k x
def Rep (G : Hp) : (k : Kd) → Ty k → V → Prop
  | .num, i, v => v = .int i
  | .truth, b, v => v = .bl b
  | .pair k l, p, v => ∃ a x y, v = .ref a ∧ G a = some (.tup [x, y]) ∧ Rep G k p.1 x ∧ Rep G l p.2 y
  | .row k, r, v => ∃ a vs, v = .ref a ∧ G a = some (.lst vs) ∧ Paired (Rep G k) r vs
def FRep (G : Hp) : (k : Kd) → List (Ty k) → V → Prop
  | .num, ws, v => ∃ a, v = .ref a ∧ G a = some (.lst (List.map V.int ws))
  | .truth, ws, v => ∃ a, v = .ref a ∧ G a = some (.lst (List.map V.bl ws))
  | .pair k l, ws, v => ∃ a x y, v = .ref a ∧ G a = some (.tup [x, y]) ∧ FRep G k (List.map Prod.fst ws) x ∧ FRep G l (List.map Prod.snd ws) y
  | .row k, ws, v => ∃ a c y, v = .ref a ∧ G a = some (.tup [.ref c, y]) ∧ G c = some (.lst (List.map (fun r => V.int (List.length r : Nat)) ws)) ∧ FRep G k (List.flatten ws) y
theorem sameT {K : PySem.W.Frag} {H H' : Hp} {a : Addr} {xs : List V} (e : Same H H') (h : SqT K H a xs) : SqT K H' a xs := by
  rcases h with (h | ⟨o, h⟩) | h
  · exact .inl (.inl (e _ _ h))
  · exact .inl (.inr ⟨o, e _ _ h⟩)
  · exact .inr h
theorem KRep.mono {K : PySem.W.Frag} {G G' : Hp} (e : Same G G') : ∀ {k : Kd} {v : V}, KRep K G k v → KRep K G' k v
  | .num, _, ⟨a, h, s⟩ => ⟨a, h, sameT e s⟩
  | .truth, _, ⟨a, h, s⟩ => ⟨a, h, sameT e s⟩
  | .pair k l, _, ⟨a, x, y, h, s, h1, h2⟩ => ⟨a, x, y, h, sameT e s, KRep.mono e h1, KRep.mono e h2⟩
  | .row k, _, ⟨a, x, h, s, h1⟩ => ⟨a, x, h, sameT e s, KRep.mono e h1⟩
theorem Rep.mono {G G' : Hp} (e : Same G G') : ∀ {k : Kd} {w : Ty k} {v : V}, Rep G k w v → Rep G' k w v
  | .num, _, _, h => h
  | .truth, _, _, h => h
  | .pair k l, _, _, ⟨a, x, y, h, s, h1, h2⟩ => ⟨a, x, y, h, e _ _ s, Rep.mono e h1, Rep.mono e h2⟩
  | .row k, _, _, ⟨a, vs, h, s, h1⟩ => ⟨a, vs, h, e _ _ s, L2.Paired.mapP h1 fun _ _ q => Rep.mono e q⟩
abbrev Reps (G : Hp) (k : Kd) : List (Ty k) → List V → Prop := Paired (Rep G k)
theorem Reps.mono {G G' : Hp} (e : Same G G') {k : Kd} {ws : List (Ty k)} {vs : List V} (h : Reps G k ws vs) : Reps G' k ws vs := L2.Paired.mapP h fun _ _ q => Rep.mono e q
theorem FRep.mono {G G' : Hp} (e : Same G G') : ∀ {k : Kd} {ws : List (Ty k)} {v : V}, FRep G k ws v → FRep G' k ws v
  | .num, _, _, ⟨a, h, s⟩ => ⟨a, h, e _ _ s⟩
  | .truth, _, _, ⟨a, h, s⟩ => ⟨a, h, e _ _ s⟩
  | .pair k l, _, _, ⟨a, x, y, h, s, h1, h2⟩ => ⟨a, x, y, h, e _ _ s, FRep.mono e h1, FRep.mono e h2⟩
  | .row k, _, _, ⟨a, c, y, h, s, t, h1⟩ => ⟨a, c, y, h, e _ _ s, e _ _ t, FRep.mono e h1⟩
theorem KRep.nm {K : PySem.W.Frag} {G : Hp} : ∀ {k : Kd} {v : V}, KRep K G k v → ∃ a xs, v = .ref a ∧ SqT K G a xs ∧ xs[0]? = some (.str k.nm)
  | .num, _, ⟨a, h, s⟩ => ⟨a, _, h, s, rfl⟩
  | .truth, _, ⟨a, h, s⟩ => ⟨a, _, h, s, rfl⟩
  | .pair k l, _, ⟨a, x, y, h, s, h1, h2⟩ => ⟨a, _, h, s, rfl⟩
  | .row k, _, ⟨a, x, h, s, h1⟩ => ⟨a, _, h, s, rfl⟩
/-! ### sizes -/
def wsz : (k : Kd) → Ty k → Nat
  | .num, _ => 1
  | .truth, _ => 1
  | .pair k l, p => wsz k p.1 + wsz l p.2
  | .row k, r => 1 + (List.map (wsz k) r).sum
def tot (k : Kd) (ws : List (Ty k)) : Nat := (ws.map (wsz k)).sum
theorem wsz_pos : ∀ (k : Kd) (w : Ty k), 1 ≤ wsz k w
  | .num, _ => Nat.le_refl 1
  | .truth, _ => Nat.le_refl 1
  | .pair k l, p => Nat.le_trans (wsz_pos k p.1) (Nat.le_add_right _ _)
  | .row k, r => Nat.le_add_right 1 _
theorem tot_cons {k : Kd} {w : Ty k} {ws : List (Ty k)} : tot k (w :: ws) = wsz k w + tot k ws := by
  unfold tot
  rw [List.map_cons, List.sum_cons]
theorem tot_nil {k : Kd} : tot k [] = 0 := rfl
theorem tot_app {k : Kd} {ws us : List (Ty k)} : tot k (ws ++ us) = tot k ws + tot k us := by
  unfold tot
  rw [List.map_append, List.sum_append]
theorem len_tot (k : Kd) : ∀ ws : List (Ty k), ws.length ≤ tot k ws
  | [] => Nat.le_refl 0
  | w :: ws => by
    have h1 := wsz_pos k w
    have h2 := len_tot k ws
    rw [tot_cons, List.length_cons]
    omega
theorem tot_pair (k l : Kd) : ∀ ws : List (Ty k × Ty l), tot (.pair k l) ws = tot k (List.map Prod.fst ws) + tot l (List.map Prod.snd ws)
  | [] => rfl
  | w :: ws => by
    have h := tot_pair k l ws
    have e : tot (.pair k l) (w :: ws) = (wsz k w.1 + wsz l w.2) + tot (.pair k l) ws := tot_cons (k := .pair k l)
    rw [e, h, List.map_cons, List.map_cons, tot_cons, tot_cons]
    omega
theorem tot_row (k : Kd) : ∀ ws : List (List (Ty k)), tot (.row k) ws = ws.length + tot k (List.flatten ws)
  | [] => rfl
  | w :: ws => by
    have h := tot_row k ws
    have e : tot (.row k) (w :: ws) = (1 + tot k w) + tot (.row k) ws := tot_cons (k := .row k)
    rw [e, h, List.flatten_cons, tot_app, List.length_cons]
    omega
theorem tot_take (k : Kd) (n : Nat) (ws : List (Ty k)) : tot k (ws.take n) ≤ tot k ws := by
  have e : tot k ws = tot k (ws.take n) + tot k (ws.drop n) := by rw [← tot_app, List.take_append_drop]
  omega
abbrev BIG : Nat := 1000000
theorem big_le {n : Nat} (h : n ≤ BIG) : n ≤ sizeLine := Nat.le_trans h (by decide)
theorem big_lt {n : Nat} (h : n ≤ BIG) : n < sizeLine := Nat.lt_of_le_of_lt h (by decide)
/-! ### pairings -/
theorem pr_get {α β : Type} {F : α → β → Prop} : ∀ {l : List α} {m : List β} {i : Nat} {x : α}, Paired F l m → l[i]? = some x → ∃ y, m[i]? = some y ∧ F x y
  | _, _, _, _, .nil, e => by simp at e
  | _, _, 0, _, .cons r _, e => by
    simp at e
    subst e
    exact ⟨_, rfl, r⟩
  | _, _, i + 1, x, .cons _ t, e => by
    obtain ⟨u, h1, h2⟩ := pr_get (i := i) (x := x) t (by simpa using e)
    exact ⟨u, by simpa using h1, h2⟩
theorem pr_getR {α β : Type} {F : α → β → Prop} : ∀ {l : List α} {m : List β} {i : Nat} {y : β}, Paired F l m → m[i]? = some y → ∃ x, l[i]? = some x ∧ F x y
  | _, _, _, _, .nil, e => by simp at e
  | _, _, 0, _, .cons r _, e => by
    simp at e
    subst e
    exact ⟨_, rfl, r⟩
  | _, _, i + 1, x, .cons _ t, e => by
    obtain ⟨u, h1, h2⟩ := pr_getR (i := i) (y := x) t (by simpa using e)
    exact ⟨u, by simpa using h1, h2⟩
theorem pr_app {α β : Type} {F : α → β → Prop} : ∀ {l : List α} {m : List β} {l' : List α} {m' : List β}, Paired F l m → Paired F l' m' → Paired F (l ++ l') (m ++ m')
  | _, _, _, _, .nil, s => s
  | _, _, _, _, .cons r t, s => .cons r (pr_app t s)
theorem pr_of {α β : Type} {F : α → β → Prop} : ∀ {l : List α} {m : List β}, l.length = m.length → (∀ (i : Nat) (x : α) (y : β), l[i]? = some x → m[i]? = some y → F x y) → Paired F l m
  | [], [], _, _ => .nil
  | [], _ :: _, h, _ => by cases h
  | _ :: _, [], h, _ => by cases h
  | x :: l, y :: m, h, q => .cons (q 0 x y rfl rfl) (pr_of (by simpa using h) fun i a b h1 h2 => q (i + 1) a b (by simpa using h1) (by simpa using h2))
theorem pr_mapL {α β γ : Type} {F : α → β → Prop} {E : γ → β → Prop} {f : α → γ} (h : ∀ a b, F a b → E (f a) b) : ∀ {l : List α} {m : List β}, Paired F l m → Paired E (l.map f) m
  | _, _, .nil => .nil
  | _, _, .cons r t => .cons (h _ _ r) (pr_mapL h t)
/-! ### comprehensions and loops with a data heap -/
section
variable {J : It} {n : Nat} {Gw : Hp → Prop} {Y : Nat → Hp → V → Hp → Prop} {M : Addr → Prop} {G1 H1 : Hp}
/-- a comprehension: I tells of the turn, the list so far, the data heap -/
theorem lc_gen (w : Walk J n Gw Y) {g : TG} {tt : TT} {te : TE} {vs : List Nat} {σ : L2.St} {D : Addr} {Qd : Hp → Prop} (I : Nat → List V → Hp → Hp → Prop) (s : Same G1 H1) (hm : ∀ b, M b → H1 b ≠ none) (hD : H1 D = none) (h0 : I 0 [] G1 (upd H1 D (.lst [])))
    (hI : ∀ i acc G H o, I i acc G H → G D = none → I i acc G (upd H D o))
    (hG : ∀ i acc G H, Xt M G1 H1 G H → H D = some (.lst acc) → I i acc G H → Gw H)
    (hs : ∀ i acc x G H H' (Nx : Hp → Prop), i < n → Xt M G1 H1 G H → H D = some (.lst acc) → G D = none → I i acc G H → Y i H x H' →
      (∀ y G4 H4, Xt M G H G4 H4 → acc.length < sizeLine → I (i + 1) (acc ++ [y]) G4 H4 → ∃ acc', H4 D = some (.lst acc') ∧ acc'.length < sizeLine ∧ Nx (upd H4 D (.lst (acc' ++ [y])))) →
      (∀ G4 H4, Xt M G H G4 H4 → I (i + 1) acc G4 H4 → Nx H4) →
      g x (wipe σ vs) H' fun σ2 H2 => wipe σ2 vs = wipe σ vs ∧ tt σ2 H2 fun b H3 =>
        if b = true then te σ2 H3 fun y H4 => ∃ acc', H4 D = some (.lst acc') ∧ acc'.length < sizeLine ∧ Nx (upd H4 D (.lst (acc' ++ [y]))) else Nx H3)
    (hd : ∀ acc G H, Xt M G1 H1 G H → H D = some (.lst acc) → G D = none → I n acc G H → Qd H) :
    ∃ W : Nat → Nat → Hp → Prop, (∃ m, W 0 m (upd H1 D (.lst []))) ∧ ∀ i m H, W i m H →
      (J.stop i H ∧ Qd H) ∨ (J.go i H ∧ ∃ Nx : Hp → Prop, (∀ H', Nx H' → ∃ m', m' < m ∧ W (i + 1) m' H') ∧ ∀ x H', J.yld i H x H' → g x (wipe σ vs) H' fun σ2 H2 => wipe σ2 vs = wipe σ vs ∧ tt σ2 H2 fun b H3 =>
        if b = true then te σ2 H3 fun y H4 => ∃ acc, H4 D = some (.lst acc) ∧ acc.length < sizeLine ∧ Nx (upd H4 D (.lst (acc ++ [y]))) else Nx H3) := by
  have gD : G1 D = none := s.free hD
  have nD : ¬ M D := fun z => hm D z hD
  refine lc_it w (fun i H => ∃ acc G, Xt M G1 H1 G H ∧ H D = some (.lst acc) ∧ G D = none ∧ I i acc G H) ⟨[], G1, Xt.loc s hD, upd_same, gD, h0⟩ (fun i H _ p => ?_) (fun i x H H' hi p y => ?_) fun H p => ?_
  · obtain ⟨acc, G, e, hl, _, q⟩ := p
    exact hG i acc G H e hl q
  · obtain ⟨acc, G, e, hl, hg, q⟩ := p
    refine hs i acc x G H H' _ hi e hl hg q y (fun y G4 H4 e4 hz q4 => ?_) fun G4 H4 e4 q4 => ?_
    · have hl4 : H4 D = some (.lst acc) := e4.old D _ nD hl
      have hg4 : G4 D = none := e4.hid hl hg
      exact ⟨acc, hl4, hz, acc ++ [y], G4, (e.trans e4).set hD hg4, upd_same, hg4, hI _ _ _ _ _ q4 hg4⟩
    · exact ⟨acc, G4, e.trans e4, e4.old D _ nD hl, e4.hid hl hg, q4⟩
  · obtain ⟨acc, G, e, hl, hg, q⟩ := p
    exact hd acc G H e hl hg q
end
end Bw
namespace Bw
open PySem PySem.Spec PyProof.Rows L2
open C8 (Cal pe_c)
/-! what the top has left, for the walks -/
structure Txt (K : PySem.W.Frag) (mg : Str → Option Value) : Prop where
  d : ∀ d ∈ fn, ∃ fd, FunD K d.name d.qual d.params d.body d.scope (d.dvs K) (d.kws K) (He.fAd K d.at_) fd
  glo : ∀ x, He.Fa.glo x ∈ fa → mg x = some (.ref (He.ga K x))
  «isinstance» : mg "isinstance" = none
  len : mg "len" = none
  list : mg "list" = none
  sum : mg "sum" = none
  zip : mg "zip" = none
  range : mg "range" = none
  enumerate : mg "enumerate" = none
  tuple : mg "tuple" = none
  int : mg "int" = none
  max : mg "max" = none
  min : mg "min" = none
  all : mg "all" = none
  bool : mg "bool" = none
  ve : mg "ValueError" = none
  i_GREATEST_worths : ∃ t, mg "GREATEST_worths" = some (.int 1000000000000000000 t)
  i_MOST_THINGS_worths : ∃ t, mg "MOST_THINGS_worths" = some (.int 200 t)
  i_MOST_THINGS_stops : ∃ t, mg "MOST_THINGS_stops" = some (.int 200 t)
  i_GREATEST_single : ∃ t, mg "GREATEST_single" = some (.int 1000000000000000000 t)
  i_MOST_THINGS_single : ∃ t, mg "MOST_THINGS_single" = some (.int 200 t)
  ex : exB K = true
  fact : ∀ f ∈ fa, f.ok K = true
section
variable {P : Program} {w : World} {K : PySem.W.Frag} {mg : Str → Option Value} {base : Heap}
/-- a def of the text keeps its promise, by its body -/
theorem cal_of {d : He.DefD} {x : Str} {N ps : List Str} {k : Nat} {sp : Sp} (T : Txt K mg) (hd : d ∈ fn) (hx : d.at_ = (x, none)) (hg : He.Fa.glo x ∈ fa) (h0 : d.dfl = []) (h1 : d.kwd = []) (S : FnScope N ps d.scope)
    (hb : ∀ (kV doc pm : Value) (an : Option Addr) (cdv ct : Value) (us : List Value), us.length = ps.length → bindArgs (PySem.W.fnOf d.name d.qual d.params d.body d.scope .none kV doc pm an cdv ct) ⟨us, []⟩ = pure (ps.zip us))
    (len : ∀ vs H Q E, sp vs H Q E → vs.length = ps.length)
    (hbody : ∀ (cdv : Value) (A : Around) (outer : List Env) (s : Shared) (H : Hp) (vs : List V) (Q : VK) (E : XK) (f : Addr), Room k (A.deeper (envOfC d.qual d.scope s.heap.objs.size f cdv)) → sp vs H Q E →
      ∃ t, PSs (cxOf CX0 P w K mg base N d.qual d.scope f cdv A outer s H E).nox d.body t ∧ t { nx := fun _ H' => Q .non H', rt := Q } (start N vs) H) : Cal P w K mg base (k + 1) x sp [] := by
  obtain ⟨fd, F⟩ := T.d d hd
  have e0 : d.dvs K = [] := by unfold He.DefD.dvs; rw [h0]; rfl
  have e1 : d.kws K = [] := by unfold He.DefD.kws; rw [h1]; rfl
  rw [e0, e1, hx] at F
  refine ⟨⟨He.fAd K (x, none), fd, ps, [], F.ok S len fun cdv A outer s H vs Q E hr hsp => ?_, T.glo x hg, F.kp, F.bindsN hb, .nil⟩⟩
  obtain ⟨t, h, q⟩ := hbody cdv A outer s H vs Q E _ hr hsp
  exact ⟨t, h.nox, q⟩
end
theorem mem_fn (i : Nat) {d : He.DefD} (h : fn[i]? = some d := by rfl) : d ∈ fn := List.mem_of_getElem? h
theorem mem_fa (i : Nat) {d : He.Fa} (h : fa[i]? = some d := by rfl) : d ∈ fa := List.mem_of_getElem? h
theorem txt_of {K : PySem.W.Frag} {mg : Str → Option Value} {h : Heap} (X : K.In h) (G : h.Ns mainGlobals mg) (c : SaysM K) : Txt K mg := by
  have fa_ : ∀ f ∈ fa, f.ok K = true := fun f hf => He.SaysD.facts c.1 hf
  have fr : ∀ x, He.Fa.free x ∈ fa → mg x = none := fun x hx => He.free_ok X G (fa_ _ hx)
  have it : ∀ x i, He.Fa.int x i ∈ fa → ∃ t, mg x = some (.int i t) := fun x i hx => He.int_ok X G (fa_ _ hx)
  have dec : ∀ f : He.Fa, (∃ i, fa[i]? = some f) → f ∈ fa := fun f ⟨i, h⟩ => List.mem_of_getElem? h
  exact {
    d := fun d hd => He.SaysD.defs c.1 hd
    glo := fun x hx => He.glo_ok X G (fa_ _ hx)
    «isinstance» := fr _ (dec _ ⟨71, rfl⟩), len := fr _ (dec _ ⟨72, rfl⟩), list := fr _ (dec _ ⟨73, rfl⟩), sum := fr _ (dec _ ⟨74, rfl⟩), zip := fr _ (dec _ ⟨75, rfl⟩), range := fr _ (dec _ ⟨76, rfl⟩), enumerate := fr _ (dec _ ⟨77, rfl⟩),
    tuple := fr _ (dec _ ⟨78, rfl⟩), int := fr _ (dec _ ⟨79, rfl⟩), max := fr _ (dec _ ⟨80, rfl⟩), min := fr _ (dec _ ⟨81, rfl⟩), all := fr _ (dec _ ⟨82, rfl⟩), bool := fr _ (dec _ ⟨83, rfl⟩), ve := fr _ (dec _ ⟨84, rfl⟩),
    i_GREATEST_worths := it _ _ (dec _ ⟨85, rfl⟩), i_MOST_THINGS_worths := it _ _ (dec _ ⟨86, rfl⟩), i_MOST_THINGS_stops := it _ _ (dec _ ⟨87, rfl⟩), i_GREATEST_single := it _ _ (dec _ ⟨88, rfl⟩), i_MOST_THINGS_single := it _ _ (dec _ ⟨89, rfl⟩)
    ex := c.2
    fact := fa_ }
end Bw
namespace Bw
open PySem PySem.Spec PyProof.Rows L2
open C8 (Cal pe_c)
/-! ### answers -/
section
variable {K : PySem.W.Frag} {G H : Hp} {σ : L2.St} {i : Nat} {b : Bool} {D : Ends} {t t1 t2 : TS} {c : TT}
/-- a test whose answer is known, the heap grown meanwhile -/
def AnS (t : TT) (σ : L2.St) (H : Hp) (b : Bool) : Prop := ∀ Q : Bool → Hp → Prop, (∀ H', Same H H' → Q b H') → t σ H Q
theorem anS (h : Ans c σ H b) : AnS c σ H b := fun Q q => h Q (q H (Same.refl H))
theorem if_yes (h : Ans c σ H true) (q : t1 D σ H) : tIfS c t1 t2 D σ H := st_yes h q
theorem if_no (h : Ans c σ H false) (q : t2 D σ H) : tIfS c t1 t2 D σ H := st_no h q
theorem if_yesS (h : AnS c σ H true) (q : ∀ H', Same H H' → t1 D σ H') : tIfS c t1 t2 D σ H := h _ fun H' e => by
  show (if true = true then t1 D σ H' else t2 D σ H')
  rw [if_pos rfl]
  exact q H' e
theorem if_noS (h : AnS c σ H false) (q : ∀ H', Same H H' → t2 D σ H') : tIfS c t1 t2 D σ H := h _ fun H' e => by
  show (if false = true then t1 D σ H' else t2 D σ H')
  rw [if_neg Bool.false_ne_true]
  exact q H' e
/-- if, then the rest -/
theorem sq_yes (h : Ans c σ H true) (q : t1 { D with nx := t D } σ H) : tSeq (tIfS c t1 t2) t D σ H := st_yes h q
theorem sq_no (h : Ans c σ H false) (q : t D σ H) : tSeq (tIfS c t1 tNext) t D σ H := st_no h q
theorem sq_noS (h : AnS c σ H false) (q : ∀ H', Same H H' → t D σ H') : tSeq (tIfS c t1 tNext) t D σ H := if_noS h q
theorem sq_yesS (h : AnS c σ H true) (q : ∀ H', Same H H' → t1 { D with nx := t D } σ H') : tSeq (tIfS c t1 t2) t D σ H := if_yesS h q
theorem a_kind {k : Kd} {v : V} {z : Str} (hk : KRep K G k v) (s : Same G H) (hσ : σ[i]? = some (some v)) (hb : decide (k.nm = z) = b) : Ans (tTest (tOp rEq (tOp (rIxT K) (tVar i) (tC (.int 0))) (tC (.str z)))) σ H b := by
  intro Q q
  obtain ⟨a, xs, rfl, hs, h0⟩ := hk.nm
  refine ⟨_, hσ, a, xs, 0, .str k.nm, rfl, rfl, sameT s hs, atI_nat h0, rfl, b, ?_, q⟩
  show V.bl (decide (V.str k.nm = V.str z)) = V.bl b
  rw [← hb]
  congr 1
  by_cases e : k.nm = z
  · rw [e, decide_eq_true rfl, decide_eq_true rfl]
  · rw [decide_eq_false e, decide_eq_false fun h => e (V.str.inj h)]
theorem a_sg {z y : Str} (hσ : σ[i]? = some (some (.str z))) (hb : decide (z = y) = b) : Ans (tTest (tOp rEq (tVar i) (tC (.str y)))) σ H b := by
  refine ans_eq (val_var hσ) val_c rfl ?_
  rw [← hb]
  by_cases e : z = y
  · rw [e, decide_eq_true rfl, decide_eq_true rfl]
  · rw [decide_eq_false e, decide_eq_false fun h => e (V.str.inj h)]
/-- the i-th of a tuple, of a list at a written place -/
theorem kd1 {k l : Kd} {v : V} (hk : KRep K G (.pair k l) v) : ∃ a x y, v = .ref a ∧ SqT K G a [.str "pair", x, y] ∧ KRep K G k x ∧ KRep K G l y := hk
end
/-! ### calls of built-ins, in short -/
def rLenQ (K : PySem.W.Frag) : List V → Hp → VK → Prop := fun xs H Q => ∃ p ys, xs = [.ref p] ∧ (SqL K H p ys ∨ SqT K H p ys) ∧ Q (.int ys.length) H
def rListQ (K : PySem.W.Frag) : List V → Hp → VK → Prop := fun xs H Q => ∃ p ys, xs = [.ref p] ∧ (SqL K H p ys ∨ SqT K H p ys) ∧ ∀ l, H l = none → Q (.ref l) (upd H l (.lst ys))
def rTupQ (K : PySem.W.Frag) : List V → Hp → VK → Prop := fun xs H Q => ∃ p ys, xs = [.ref p] ∧ ((SqL K H p ys ∧ ∀ l, H l = none → Q (.ref l) (upd H l (.tup ys))) ∨ (SqT K H p ys ∧ Q (.ref p) H))
def rIntQ : List V → Hp → VK → Prop := fun xs H Q => (∃ i, xs = [.int i] ∧ Q (.int i) H) ∨ ∃ k, xs = [.bl k] ∧ Q (.int (if k then 1 else 0)) H
def rMinQ : List V → Hp → VK → Prop := fun xs H Q => ∃ i j, xs = [.int i, .int j] ∧ Q (.int (if j < i then j else i)) H
section
variable {X : Cx} {K : PySem.W.Frag}
theorem i_tup (h : X.K = K := by rfl) : IxR X (rIxT K) := by
  subst h
  exact ix_tup
theorem i_list (h : X.K = K := by rfl) : IxR X (rIxL K) := by
  subst h
  exact ix_list
theorem s_list (h : X.K = K := by rfl) : SlR X (rSlL K) := by
  subst h
  exact sl_list
theorem s_tupA (h : X.K = K := by rfl) : SlR X (rSlA K) := by
  subst h
  exact sl_tupA
theorem o_in (h : X.K = K := by rfl) : OpR X (compareOp .In) (rIn K false) := by
  subst h
  exact op_in_seq
theorem o_catA (h : X.K = K := by rfl) : OpR X (binaryOp .Add) (rCatA K) := by
  subst h
  exact op_catA
theorem o_eqD (hu : X.A.units + 64 < cLine) (h : X.K = K := by rfl) : OpR X (compareOp .Eq) (rEqD K) := by
  subst h
  exact op_eqD hu
theorem o_neD (hu : X.A.units + 64 < cLine) (h : X.K = K := by rfl) : OpR X (compareOp .NotEq) (rNeD K) := by
  subst h
  exact op_neD hu
theorem k_isi (h : X.K = K := by rfl) : CallR X (.builtin "isinstance") (rIsi K) := by
  subst h
  exact call_isi
theorem k_isiT (h : X.K = K := by rfl) : CallR X (.builtin "isinstance") (rIsiT K) := by
  subst h
  exact call_isiT
theorem g_tup {es : List Expr} {k : Nat} {pos : Pos} {t : TGs} {n : Nat} (hc : X.calm = true) (p : PGs X es t) (hn : (assignEach es X.env).length = n := by rfl) (hs : (assignEach es X.env).findIdx? (·.1) = none := by rfl) (h : X.K = K := by rfl) : PG X (.Tuple es k pos) (gTup K n t) := by
  subst h
  exact pg_tup hc p hn hs
end
section
variable {X : Cx} {a b : Expr} {ta tb : TE} {p pos : Pos}
theorem e_len {K : PySem.W.Frag} (m : X.mg "len" = none) (h : PE X a ta) (hK : X.K = K := by rfl) (g : Gl X "len" := by rfl) (he : starEach (a :: []) X.env = (false, eval a X.env) :: starEach [] X.env := by rfl) (hp : (backTo pos (starEach [] X.env)).any (·.1) = false := by rfl) (h2 : starEach (a :: []) X.env = (false, eval a X.env) :: starEach [] X.env := by rfl) :
    PE X (.Call (.Name "len" p) [a] [] pos) (tCB (rLenQ K) (tCons ta tNil)) := by
  subst hK
  exact pe_callB call_len_seq g m (by decide +kernel) (pa_cons h pa_nil h2) (by decide) (by decide) he hp
theorem e_list {K : PySem.W.Frag} (m : X.mg "list" = none) (h : PE X a ta) (hK : X.K = K := by rfl) (g : Gl X "list" := by rfl) (he : starEach (a :: []) X.env = (false, eval a X.env) :: starEach [] X.env := by rfl) (hp : (backTo pos (starEach [] X.env)).any (·.1) = false := by rfl) (h2 : starEach (a :: []) X.env = (false, eval a X.env) :: starEach [] X.env := by rfl) :
    PE X (.Call (.Name "list" p) [a] [] pos) (tCB (rListQ K) (tCons ta tNil)) := by
  subst hK
  exact pe_callTy call_list_of g m (by decide +kernel) (pa_cons h pa_nil h2) (by decide) (by decide) he hp
theorem e_tuple {K : PySem.W.Frag} (m : X.mg "tuple" = none) (h : PE X a ta) (hK : X.K = K := by rfl) (g : Gl X "tuple" := by rfl) (he : starEach (a :: []) X.env = (false, eval a X.env) :: starEach [] X.env := by rfl) (hp : (backTo pos (starEach [] X.env)).any (·.1) = false := by rfl) (h2 : starEach (a :: []) X.env = (false, eval a X.env) :: starEach [] X.env := by rfl) :
    PE X (.Call (.Name "tuple" p) [a] [] pos) (tCB (rTupQ K) (tCons ta tNil)) := by
  subst hK
  exact pe_callTy call_tuple_of g m (by decide +kernel) (pa_cons h pa_nil h2) (by decide) (by decide) he hp
theorem e_int (m : X.mg "int" = none) (h : PE X a ta) (g : Gl X "int" := by rfl) (he : starEach (a :: []) X.env = (false, eval a X.env) :: starEach [] X.env := by rfl) (hp : (backTo pos (starEach [] X.env)).any (·.1) = false := by rfl) (h2 : starEach (a :: []) X.env = (false, eval a X.env) :: starEach [] X.env := by rfl) :
    PE X (.Call (.Name "int" p) [a] [] pos) (tCB rIntQ (tCons ta tNil)) := pe_callTy call_int1 g m (by decide +kernel) (pa_cons h pa_nil h2) (by decide) (by decide) he hp
theorem e_sum {K : PySem.W.Frag} (m : X.mg "sum" = none) (h : PE X a ta) (hK : X.K = K := by rfl) (hc : X.calm = true := by rfl) (g : Gl X "sum" := by rfl) (he : starEach (a :: []) X.env = (false, eval a X.env) :: starEach [] X.env := by rfl) (hp : (backTo pos (starEach [] X.env)).any (·.1) = false := by rfl) (h2 : starEach (a :: []) X.env = (false, eval a X.env) :: starEach [] X.env := by rfl) :
    PE X (.Call (.Name "sum" p) [a] [] pos) (tCB (rSum K) (tCons ta tNil)) := by
  subst hK
  exact pe_callB (cr_sum hc) g m (by decide +kernel) (pa_cons h pa_nil h2) (by decide) (by decide) he hp
theorem e_max {K : PySem.W.Frag} (m : X.mg "max" = none) (h : PE X a ta) (hK : X.K = K := by rfl) (hc : X.calm = true := by rfl) (g : Gl X "max" := by rfl) (he : starEach (a :: []) X.env = (false, eval a X.env) :: starEach [] X.env := by rfl) (hp : (backTo pos (starEach [] X.env)).any (·.1) = false := by rfl) (h2 : starEach (a :: []) X.env = (false, eval a X.env) :: starEach [] X.env := by rfl) :
    PE X (.Call (.Name "max" p) [a] [] pos) (tCB (rMax K) (tCons ta tNil)) := by
  subst hK
  exact pe_callB (cr_max hc) g m (by decide +kernel) (pa_cons h pa_nil h2) (by decide) (by decide) he hp
theorem e_all {K : PySem.W.Frag} (m : X.mg "all" = none) (h : PE X a ta) (hK : X.K = K := by rfl) (hc : X.calm = true := by rfl) (g : Gl X "all" := by rfl) (he : starEach (a :: []) X.env = (false, eval a X.env) :: starEach [] X.env := by rfl) (hp : (backTo pos (starEach [] X.env)).any (·.1) = false := by rfl) (h2 : starEach (a :: []) X.env = (false, eval a X.env) :: starEach [] X.env := by rfl) :
    PE X (.Call (.Name "all" p) [a] [] pos) (tCB (rAll K) (tCons ta tNil)) := by
  subst hK
  exact pe_callB (cr_all hc) g m (by decide +kernel) (pa_cons h pa_nil h2) (by decide) (by decide) he hp
end
section
variable {P : Program} {w : World} {K : PySem.W.Frag} {mg : Str → Option Value} {base : Heap}
/-! ### is_whole, is_number, is_worth -/
def inB (i : Int) : Bool := decide (-1000000000000000000 ≤ i) && decide (i ≤ 1000000000000000000)
def spWhole : Sp := fun vs H Q _ => ∃ i : Int, vs = [.int i] ∧ Q (.bl true) H
def spNumber : Sp := fun vs H Q _ => ∃ i : Int, vs = [.int i] ∧ Q (.bl (inB i)) H
def spWorth (K : PySem.W.Frag) : Sp := fun vs H Q _ => ∃ (i : Int) (v : V), vs = [v, .int i] ∧ KRep K H .num v ∧ Q (.bl (inB i)) H
abbrev N_is_whole : List PySem.Str := ["thing"]
theorem sc_is_whole : FnScope N_is_whole ["thing"] (defScope s_is_whole) := ⟨rfl, rfl, rfl, by decide +kernel, rfl, by decide +kernel, by decide +kernel⟩
theorem c_is_whole (T : Txt K mg) : Cal P w K mg base 1 "is_whole" spWhole [] := by
  refine cal_of (d := d_is_whole) T (mem_fn 0) rfl (mem_fa 0) rfl rfl sc_is_whole (fun _ _ _ _ _ _ us hl => match us, hl with | [_], _ => rfl) (fun vs H Q E h => ?_) (fun cdv A outer s H vs Q E f hr h => ?_)
  · obtain ⟨i, rfl, _⟩ := h
    rfl
  obtain ⟨i, rfl, q⟩ := h
  refine ⟨_, (pss_one (ps_ret (pe_and (pe_callB k_isi rfl T.isinstance (by decide +kernel) (pa_cons (pv 0) (pa_cons (pe_bltn (v := .ty "int") rfl T.int (by decide +kernel) rfl) pa_nil))) (pe_one (pe_not (pe_callB k_isi rfl T.isinstance (by decide +kernel) (pa_cons (pv 0) (pa_cons (pe_bltn (v := .ty "bool") rfl T.bool (by decide +kernel) rfl) pa_nil)))))))), ?_⟩
  refine ⟨_, rfl, _, _, _, _, true, rfl, .ty _, .base (.int i), kit_ty (by decide +kernel), true, rfl, iteT ?_⟩
  exact ⟨_, rfl, _, _, _, _, false, rfl, .ty _, .base (.int i), kit_ty (by decide +kernel), false, rfl, q⟩
abbrev N_is_number : List PySem.Str := ["thing"]
theorem sc_is_number : FnScope N_is_number ["thing"] (defScope s_is_number) := ⟨rfl, rfl, rfl, by decide +kernel, rfl, by decide +kernel, by decide +kernel⟩
theorem c_is_number (T : Txt K mg) (c_is_whole : Cal P w K mg base 1 "is_whole" spWhole []) : Cal P w K mg base 2 "is_number" spNumber [] := by
  refine cal_of (d := d_is_number) T (mem_fn 1) rfl (mem_fa 1) rfl rfl sc_is_number (fun _ _ _ _ _ _ us hl => match us, hl with | [_], _ => rfl) (fun vs H Q E h => ?_) (fun cdv A outer s H vs Q E f hr h => ?_)
  · obtain ⟨i, rfl, _⟩ := h
    rfl
  obtain ⟨i, rfl, q⟩ := h
  refine ⟨_, (pss_one (ps_ret (pe_and (pe_c c_is_whole hr (by decide) rfl (pa_cons (pv 0) pa_nil)) (pe_one (pe_chain op_le op_le (pe_op op_sub pe_int (pe_glob (v := .int 1000000000000000000) rfl (T.i_GREATEST_worths).choose_spec ⟨_, rfl⟩)) (pv 0) (pe_glob (v := .int 1000000000000000000) rfl (T.i_GREATEST_worths).choose_spec ⟨_, rfl⟩)))))), ?_⟩
  refine ⟨_, rfl, i, rfl, true, rfl, iteT ?_⟩
  refine ⟨_, _, rfl, rfl, _, rfl, _, _, rfl, rfl, _, rfl, ?_⟩
  unfold inB at q
  have e : decide ((0 : Int) - 1000000000000000000 ≤ i) = decide (-1000000000000000000 ≤ i) := rfl
  rw [e]
  revert q
  cases decide (-1000000000000000000 ≤ i) with
  | true =>
    intro q
    refine iteT ⟨_, _, rfl, rfl, ?_⟩
    exact q
  | false =>
    intro q
    refine iteF ?_
    exact q
abbrev N_is_worth : List PySem.Str := ["kind", "thing", "one"]
theorem sc_is_worth : FnScope N_is_worth ["kind", "thing"] (defScope s_is_worth) := ⟨rfl, rfl, rfl, by decide +kernel, rfl, by decide +kernel, by decide +kernel⟩
theorem c_is_worth (T : Txt K mg) (c_is_number : Cal P w K mg base 2 "is_number" spNumber []) : Cal P w K mg base 3 "is_worth" (spWorth K) [] := by
  refine cal_of (d := d_is_worth) T (mem_fn 2) rfl (mem_fa 2) rfl rfl sc_is_worth (fun _ _ _ _ _ _ us hl => match us, hl with | [_, _], _ => rfl) (fun vs H Q E h => ?_) (fun cdv A outer s H vs Q E f hr h => ?_)
  · obtain ⟨i, v, rfl, _⟩ := h
    rfl
  obtain ⟨i, v, rfl, hk, q⟩ := h
  refine ⟨_, (pss_cons (ps_if (pt_cmpR op_eq (pe_ix i_tup (pv 0) pe_int (fun _ _ => rfl)) pe_str (nomark _)) (pss_one (ps_ret (pe_c c_is_number hr (by decide) rfl (pa_cons (pv 1) pa_nil)))) pss_nil)
      pss_never), ?_⟩
  refine sq_yes (a_kind hk (Same.refl H) rfl (by decide)) ?_
  exact ⟨_, rfl, i, rfl, q⟩
/-! ### many_in -/
def spMany (K : PySem.W.Frag) (d : Nat) : Sp := fun vs H Q _ => ∃ (k : Kd) (ws : List (Ty k)) (x y : V), vs = [x, y] ∧ KRep K H k x ∧ FRep H k ws y ∧ k.dep ≤ d ∧ Q (.int (ws.length : Nat)) H
abbrev N_many_in : List PySem.Str := ["kind", "flat"]
theorem sc_many_in : FnScope N_many_in ["kind", "flat"] (defScope s_many_in) := ⟨rfl, rfl, rfl, by decide +kernel, rfl, by decide +kernel, by decide +kernel⟩
theorem kd_pos : ∀ k : Kd, 1 ≤ k.dep
  | .num => Nat.le_refl 1
  | .truth => Nat.le_refl 1
  | .pair _ _ => Nat.le_add_left 1 _
  | .row _ => Nat.le_add_left 1 _
theorem c_many_in1 {d : Nat} (T : Txt K mg) (c_many_in : ∀ d', d = d' + 1 → Cal P w K mg base d "many_in" (spMany K d') []) : Cal P w K mg base (d + 1) "many_in" (spMany K d) [] := by
  refine cal_of (d := d_many_in) T (mem_fn 7) rfl (mem_fa 7) rfl rfl sc_many_in (fun _ _ _ _ _ _ us hl => match us, hl with | [_, _], _ => rfl) (fun vs H Q E h => ?_) (fun cdv A outer s H vs Q E f hr h => ?_)
  · obtain ⟨k, ws, x, y, rfl, _⟩ := h
    rfl
  obtain ⟨k, ws, x, y, rfl, hk, hf, hd, q⟩ := h
  obtain ⟨d', rfl⟩ : ∃ d', d = d' + 1 := ⟨d - 1, by have := kd_pos k; omega⟩
  have c_many_in := c_many_in d' rfl
  refine ⟨_, (pss_cons (ps_if (pt_cmpR op_eq (pe_ix i_tup (pv 0) pe_int (fun _ _ => rfl)) pe_str (nomark _)) (pss_one (ps_ret (pe_c c_many_in hr (Nat.le_refl _) rfl (pa_cons (pe_ix i_tup (pv 0) pe_int (fun _ _ => rfl)) (pa_cons (pe_ix i_tup (pv 1) pe_int (fun _ _ => rfl)) pa_nil))))) pss_nil)
      (pss_cons (ps_if (pt_cmpR op_eq (pe_ix i_tup (pv 0) pe_int (fun _ _ => rfl)) pe_str (nomark _)) (pss_one (ps_ret (e_len T.len (pe_ix i_tup (pv 1) pe_int (fun _ _ => rfl))))) pss_nil)
      (pss_one (ps_ret (e_len T.len (pv 1)))))), ?_⟩
  cases k with
  | num =>
    refine sq_no (a_kind hk (Same.refl H) rfl rfl) (sq_no (a_kind hk (Same.refl H) rfl rfl) ?_)
    obtain ⟨a, rfl, ha⟩ := hf
    refine ⟨_, rfl, a, _, rfl, .inl (SqL.of ha), ?_⟩
    rw [List.length_map]
    exact q
  | truth =>
    refine sq_no (a_kind hk (Same.refl H) rfl rfl) (sq_no (a_kind hk (Same.refl H) rfl rfl) ?_)
    obtain ⟨a, rfl, ha⟩ := hf
    refine ⟨_, rfl, a, _, rfl, .inl (SqL.of ha), ?_⟩
    rw [List.length_map]
    exact q
  | pair k l =>
    refine sq_yes (a_kind hk (Same.refl H) rfl rfl) ?_
    obtain ⟨a, x, y, rfl, sk, k1, k2⟩ := hk
    obtain ⟨b, u, v, rfl, sf, f1, f2⟩ := hf
    refine ⟨_, rfl, a, _, 1, _, rfl, rfl, sk, atI_nat (j := 1) rfl, ?_⟩
    refine ⟨_, rfl, b, _, 0, _, rfl, rfl, SqT.of sf, atI_nat (j := 0) rfl, ?_⟩
    refine ⟨k, _, _, _, rfl, k1, f1, by have : max k.dep l.dep + 1 ≤ d' + 1 := hd; omega, ?_⟩
    rw [List.length_map]
    exact q
  | row k =>
    refine sq_no (a_kind hk (Same.refl H) rfl rfl) (sq_yes (a_kind hk (Same.refl H) rfl rfl) ?_)
    obtain ⟨b, c, y, rfl, sf, sc, f1⟩ := hf
    refine ⟨_, rfl, b, _, 0, _, rfl, rfl, SqT.of sf, atI_nat (j := 0) rfl, c, _, rfl, .inl (SqL.of sc), ?_⟩
    rw [List.length_map]
    exact q
theorem c_many_in (T : Txt K mg) : ∀ d, Cal P w K mg base (d + 1) "many_in" (spMany K d) []
  | 0 => c_many_in1 T fun _ h => nomatch h
  | d + 1 => c_many_in1 T fun d' h => by
    cases h
    exact c_many_in T d
end
end Bw
namespace Bw
open PySem PySem.Spec PyProof.Rows L2
open C8 (Cal pe_c)
/-! ### comprehensions whose elements leave the heap -/
section
variable {K : PySem.W.Frag} {J : It} {n : Nat} {Gw : Hp → Prop} {Y : Nat → Hp → V → Hp → Prop} {H1 : Hp}
theorem lc_map (w : Walk J n Gw Y) {g : TG} {te : TE} {vs : List Nat} {σ : L2.St} {D : Addr} {Qd : Hp → Prop} (ys : List V) (hn : ys.length = n) (hz : n ≤ BIG) (hD : H1 D = none) (hG : ∀ H, Same H1 H → Gw H)
    (hs : ∀ i x H H' (KK : VK), i < n → Same H1 H → Y i H x H' → (∀ y H4, Same H H4 → ys[i]? = some y → KK y H4) → g x (wipe σ vs) H' fun σ2 H2 => wipe σ2 vs = wipe σ vs ∧ te σ2 H2 KK)
    (hd : ∀ H, Same H1 H → H D = some (.lst ys) → Qd H) :
    ∃ W : Nat → Nat → Hp → Prop, (∃ m, W 0 m (upd H1 D (.lst []))) ∧ ∀ i m H, W i m H →
      (J.stop i H ∧ Qd H) ∨ (J.go i H ∧ ∃ Nx : Hp → Prop, (∀ H', Nx H' → ∃ m', m' < m ∧ W (i + 1) m' H') ∧ ∀ x H', J.yld i H x H' → g x (wipe σ vs) H' fun σ2 H2 => wipe σ2 vs = wipe σ vs ∧ tYes σ2 H2 fun b H3 =>
        if b = true then te σ2 H3 fun y H4 => ∃ acc, H4 D = some (.lst acc) ∧ acc.length < sizeLine ∧ Nx (upd H4 D (.lst (acc ++ [y]))) else Nx H3) := by
  subst hn
  refine lc_it w (fun i H => Same H1 H ∧ H D = some (.lst (ys.take i))) ⟨same_upd hD, upd_same⟩ (fun i H _ p => hG H p.1) (fun i x H H' hi p y => ?_) fun H p => hd H p.1 (by rw [p.2, List.take_length])
  obtain ⟨e, hl⟩ := p
  have q := hs i x H H' (fun y H4 => ∃ acc, H4 D = some (.lst acc) ∧ acc.length < sizeLine ∧ (Same H1 (upd H4 D (.lst (acc ++ [y]))) ∧ (upd H4 D (.lst (acc ++ [y]))) D = some (.lst (ys.take (i + 1))))) hi e y (fun y H4 e4 hy => ?_)
  · exact q
  · refine ⟨ys.take i, e4 D _ hl, by rw [List.length_take]; exact big_lt (by omega), same_set (e.trans e4) hD, ?_⟩
    rw [upd_same, List.take_add_one, hy]
    rfl
/-- over a list -/
theorem lc_mapL {a : Addr} {xs : List V} {te : TE} {j : Nat} {vs : List Nat} {σ : L2.St} {D : Addr} {Qd : Hp → Prop} (hx : SqL K H1 a xs) (ys : List V) (hn : ys.length = xs.length) (hz : xs.length ≤ BIG) (hD : H1 D = none) (hw : ∀ x, wipe ((wipe σ vs).set j (some x)) vs = wipe σ vs)
    (hs : ∀ (i : Nat) (x y : V) H (KK : VK), xs[i]? = some x → ys[i]? = some y → Same H1 H → (∀ H4, Same H H4 → KK y H4) → te ((wipe σ vs).set j (some x)) H KK) (hd : ∀ H, Same H1 H → H D = some (.lst ys) → Qd H) :
    ∃ W : Nat → Nat → Hp → Prop, (∃ m, W 0 m (upd H1 D (.lst []))) ∧ ∀ i m H, W i m H →
      ((Itl K a).stop i H ∧ Qd H) ∨ ((Itl K a).go i H ∧ ∃ Nx : Hp → Prop, (∀ H', Nx H' → ∃ m', m' < m ∧ W (i + 1) m' H') ∧ ∀ x H', (Itl K a).yld i H x H' → gName j x (wipe σ vs) H' fun σ2 H2 => wipe σ2 vs = wipe σ vs ∧ tYes σ2 H2 fun b H3 =>
        if b = true then te σ2 H3 fun y H4 => ∃ acc, H4 D = some (.lst acc) ∧ acc.length < sizeLine ∧ Nx (upd H4 D (.lst (acc ++ [y]))) else Nx H3) := by
  refine lc_map (walk_list (xs := xs)) ys hn hz hD (fun H e => e.seq hx) (fun i x H H' KK hi e y k => ?_) hd
  obtain ⟨rfl, hxi⟩ := y
  have hy : ys[i]? = some ys[i] := by simp [hn, hi]
  exact ⟨hw x, hs i x _ _ KK hxi hy e fun H4 e4 => k _ H4 e4 hy⟩
/-- a pair's two names -/
theorem g_pair {T : Addr} {H : Hp} {x y v : V} {i j : Nat} {σ : L2.St} {Q : L2.St → Hp → Prop} (hv : v = .ref T) (hT : H T = some (.tup [x, y])) (q : Q ((σ.set i (some x)).set j (some y)) H) : gTup K 2 (gCons (gName i) (gCons (gName j) gNil)) v σ H Q :=
  ⟨T, [x, y], hv, SqT.of hT, rfl, x, [y], rfl, y, [], rfl, rfl, q⟩
/-- over two lists at once -/
theorem lc_mapZ {a b : Addr} {xs zs : List V} {te : TE} {j l : Nat} {vs : List Nat} {σ : L2.St} {D : Addr} {Qd : Hp → Prop} (hx : SqL K H1 a xs) (hx2 : SqL K H1 b zs) (ys : List V) (hn : ys.length = min xs.length zs.length) (hz : min xs.length zs.length ≤ BIG) (hD : H1 D = none) (hw : ∀ x z, wipe (((wipe σ vs).set j (some x)).set l (some z)) vs = wipe σ vs)
    (hs : ∀ (i : Nat) (x z y : V) H (KK : VK), xs[i]? = some x → zs[i]? = some z → ys[i]? = some y → Same H1 H → (∀ H4, Same H H4 → KK y H4) → te (((wipe σ vs).set j (some x)).set l (some z)) H KK) (hd : ∀ H, Same H1 H → H D = some (.lst ys) → Qd H) :
    ∃ W : Nat → Nat → Hp → Prop, (∃ m, W 0 m (upd H1 D (.lst []))) ∧ ∀ i m H, W i m H →
      ((Itz K a b).stop i H ∧ Qd H) ∨ ((Itz K a b).go i H ∧ ∃ Nx : Hp → Prop, (∀ H', Nx H' → ∃ m', m' < m ∧ W (i + 1) m' H') ∧ ∀ x H', (Itz K a b).yld i H x H' → gTup K 2 (gCons (gName j) (gCons (gName l) gNil)) x (wipe σ vs) H' fun σ2 H2 => wipe σ2 vs = wipe σ vs ∧ tYes σ2 H2 fun b H3 =>
        if b = true then te σ2 H3 fun y H4 => ∃ acc, H4 D = some (.lst acc) ∧ acc.length < sizeLine ∧ Nx (upd H4 D (.lst (acc ++ [y]))) else Nx H3) := by
  refine lc_map (walk_zip (xs := xs) (ys := zs) rfl) ys hn hz hD (fun H e => ⟨e.seq hx, e.seq hx2⟩) (fun i x H H' KK hi e y k => ?_) hd
  obtain ⟨T, x, z, rfl, nT, rfl, h1, h2⟩ := y
  have hy : ys[i]? = some ys[i] := by simp [hn]
  refine g_pair rfl upd_same ⟨hw x z, hs i x z _ _ KK h1 h2 hy (e.trans (same_upd nT)) fun H4 e4 => k _ H4 ((same_upd nT).trans e4) hy⟩
end
/-! ### lists as data -/
def LRep (G : Hp) (vs : List V) (v : V) : Prop := ∃ a, v = .ref a ∧ G a = some (.lst vs)
theorem LRep.mono {G G' : Hp} (e : Same G G') {vs : List V} {v : V} (h : LRep G vs v) : LRep G' vs v := let ⟨a, h1, h2⟩ := h; ⟨a, h1, e _ _ h2⟩
theorem LReps.mono {G G' : Hp} (e : Same G G') {vss : List (List V)} {vs : List V} (h : Paired (LRep G) vss vs) : Paired (LRep G') vss vs := L2.Paired.mapP h fun _ _ q => q.mono e
theorem split_pairs {G : Hp} {k l : Kd} : ∀ {ws : List (Ty k × Ty l)} {vs : List V}, Reps G (.pair k l) ws vs →
    ∃ xs ys : List V, Reps G k (ws.map Prod.fst) xs ∧ Reps G l (ws.map Prod.snd) ys ∧ ∀ (i : Nat) (v x y : V), vs[i]? = some v → xs[i]? = some x → ys[i]? = some y → ∃ p, v = .ref p ∧ G p = some (.tup [x, y])
  | [], [], .nil => ⟨[], [], .nil, .nil, fun i v x y h => by simp at h⟩
  | w :: ws, v :: vs, .cons ⟨a, x, y, h, s, h1, h2⟩ t => by
    obtain ⟨xs, ys, r1, r2, q⟩ := split_pairs (ws := ws) t
    refine ⟨x :: xs, y :: ys, .cons h1 r1, .cons h2 r2, fun i v' x' y' e1 e2 e3 => ?_⟩
    cases i with
    | zero =>
      cases e1
      cases e2
      cases e3
      exact ⟨a, h, s⟩
    | succ i => exact q i v' x' y' e1 e2 e3
theorem split_rows {G : Hp} {k : Kd} : ∀ {ws : List (List (Ty k))} {vs : List V}, Reps G (.row k) ws vs → ∃ vss : List (List V), Paired (LRep G) vss vs ∧ Paired (Reps G k) ws vss
  | [], [], .nil => ⟨[], .nil, .nil⟩
  | w :: ws, v :: vs, .cons ⟨a, us, h, s, h1⟩ t => by
    obtain ⟨vss, r1, r2⟩ := split_rows (ws := ws) t
    exact ⟨us :: vss, .cons ⟨a, h, s⟩ r1, .cons h1 r2⟩
theorem join_rows {G : Hp} {k : Kd} : ∀ {ws : List (List (Ty k))} {vss : List (List V)} {vs : List V}, Paired (LRep G) vss vs → Paired (Reps G k) ws vss → Reps G (.row k) ws vs
  | [], [], [], .nil, .nil => .nil
  | _ :: _, _ :: _, _ :: _, .cons ⟨a, h, s⟩ t, .cons h1 t2 => .cons ⟨a, _, h, s, h1⟩ (join_rows t t2)
theorem flat_rows {G : Hp} {k : Kd} : ∀ {ws : List (List (Ty k))} {vss : List (List V)}, Paired (Reps G k) ws vss → Reps G k ws.flatten vss.flatten
  | [], [], .nil => .nil
  | _ :: _, _ :: _, .cons h t => pr_app h (flat_rows t)
theorem lens_rows {G : Hp} {k : Kd} : ∀ {ws : List (List (Ty k))} {vss : List (List V)}, Paired (Reps G k) ws vss → vss.map (fun r => V.int (r.length : Nat)) = ws.map (fun r => V.int (r.length : Nat))
  | [], [], .nil => rfl
  | _ :: _, _ :: _, .cons h t => by
    rw [List.map_cons, List.map_cons, lens_rows t, Paired.length h]
theorem reps_int {G : Hp} : ∀ {ws : List Int} {vs : List V}, Reps G .num ws vs → vs = ws.map V.int
  | [], [], .nil => rfl
  | _ :: _, _ :: _, .cons h t => by
    rw [List.map_cons, reps_int t]
    exact congrArg (fun z => z :: _) h
theorem int_reps {G : Hp} : ∀ ws : List Int, Reps G .num ws (ws.map V.int)
  | [] => .nil
  | _ :: ws => .cons rfl (int_reps ws)
theorem reps_bl {G : Hp} : ∀ {ws : List Bool} {vs : List V}, Reps G .truth ws vs → vs = ws.map V.bl
  | [], [], .nil => rfl
  | _ :: _, _ :: _, .cons h t => by
    rw [List.map_cons, reps_bl t]
    exact congrArg (fun z => z :: _) h
theorem bl_reps {G : Hp} : ∀ ws : List Bool, Reps G .truth ws (ws.map V.bl)
  | [] => .nil
  | _ :: ws => .cons rfl (bl_reps ws)
/-- the slice that is one of the rows -/
theorem cut_at (xs ys zs : List V) : cutV (xs ++ (ys ++ zs)) (some (xs.length : Nat)) (some ((xs.length : Nat) + (ys.length : Nat) : Int)) = ys := by
  unfold cutV
  have e : ((xs.length : Nat) + (ys.length : Nat) : Int) = ((xs.length + ys.length : Nat) : Int) := by omega
  rw [e, show HT.sIx (xs ++ (ys ++ zs)).length 0 (some (xs.length : Int)) = min xs.length (xs ++ (ys ++ zs)).length from HT.sIx_nat _ 0 _, show HT.sIx (xs ++ (ys ++ zs)).length (xs ++ (ys ++ zs)).length (some ((xs.length + ys.length : Nat) : Int)) = min (xs.length + ys.length) (xs ++ (ys ++ zs)).length from HT.sIx_nat _ _ _]
  rw [List.length_append, List.length_append, Nat.min_eq_left (by omega), Nat.min_eq_left (by omega), Nat.add_sub_cancel_left, List.drop_left, List.take_left]
theorem flat_take {α : Type} {vss : List (List α)} {i : Nat} {r : List α} (h : vss[i]? = some r) : vss.flatten = (vss.take i).flatten ++ (r ++ (vss.drop (i + 1)).flatten) := by
  have e : vss = vss.take i ++ (r :: vss.drop (i + 1)) := by
    obtain ⟨hi, he⟩ := List.getElem?_eq_some_iff.mp h
    rw [← he, ← List.drop_eq_getElem_cons hi, List.take_append_drop]
  conv => lhs; rw [e]
  rw [List.flatten_append, List.flatten_cons]
theorem take_next {α : Type} {xs : List α} {i : Nat} {x : α} (h : xs[i]? = some x) : xs.take (i + 1) = xs.take i ++ [x] := by
  rw [List.take_add_one, h]
  rfl
section
variable {P : Program} {w : World} {K : PySem.W.Frag} {mg : Str → Option Value} {base : Heap}
/-! ### parted -/
def spParted : Sp := fun vs H Q _ => ∃ (G : Hp) (a b : Addr) (vss : List (List V)), vs = [.ref a, .ref b] ∧ Same G H ∧ H a = some (.lst (vss.map fun r => .int (r.length : Nat))) ∧ H b = some (.lst vss.flatten) ∧ vss.length ≤ BIG ∧
  ∀ (p : Addr) (rs : List V) (G' H' : Hp), X0 G H G' H' → G' p = some (.lst rs) → Paired (LRep G') vss rs → Q (.ref p) H'
abbrev N_parted : List PySem.Str := ["lengths", "things", "rows", "at", "length"]
theorem sc_parted : FnScope N_parted ["lengths", "things"] (defScope s_parted) := ⟨rfl, rfl, rfl, by decide +kernel, rfl, by decide +kernel, by decide +kernel⟩
theorem c_parted (T : Txt K mg) : Cal P w K mg base 1 "parted" spParted [] := by
  refine cal_of (d := d_parted) T (mem_fn 5) rfl (mem_fa 5) rfl rfl sc_parted (fun _ _ _ _ _ _ us hl => match us, hl with | [_, _], _ => rfl) (fun vs H Q E h => ?_) (fun cdv A outer s H vs Q E f hr h => ?_)
  · obtain ⟨G, a, b, vss, rfl, _⟩ := h
    rfl
  obtain ⟨G, a, b, vss, rfl, sG, ha, hb, hz, q⟩ := h
  refine ⟨_, (pss_cons (ps_set (i := 2) sc_parted.nd rfl (.inl rfl) (pe_lst pa_nil))
      (pss_cons (ps_set (i := 3) sc_parted.nd rfl (.inl rfl) pe_int)
      (pss_cons (ps_for PassesOwn.never rfl (pi_list (pv 0)) (pg_name (i := 4) sc_parted.nd rfl (.inl rfl)) (pss_cons (ps_expr (pe_bm PySem.F.plainAttrs_list PySem.F.slot_list_append PySem.F.type_list_append mt_append (pv 2) (pa_cons (pe_slice s_list (pv 1) (po_some (pv 3)) (po_some (pe_op op_add (pv 3) (pv 4)))) pa_nil)))
      (pss_one (ps_set (i := 3) sc_parted.nd rfl (.inl rfl) (pe_op op_add (pv 3) (pv 4))))))
      (pss_one (ps_ret (pv 2)))))), ?_⟩
  refine ⟨Nat.zero_le _, fun p np => ?_⟩
  refine ⟨_, rfl, a, rfl, ⟨_, SqL.of (same_upd np _ _ ha)⟩, ?_⟩
  refine for_list (xs := vss.map fun r => V.int (r.length : Nat)) (fun i σ H' => ∃ (y : Option V) (rs : List V) (G' : Hp), σ = [some (.ref a), some (.ref b), some (.ref p), some (.int (((vss.take i).flatten.length : Nat) : Int)), y] ∧
    X0 G H G' H' ∧ H' p = some (.lst rs) ∧ G' p = none ∧ Paired (LRep G') (vss.take i) rs) ⟨none, [], G, rfl, Xt.loc sG np, upd_same, sG.free np, .nil⟩ (fun i σ H' _ hv => ?_) (fun i x σ H' hx hv => ?_) fun σ H' hv => ?_
  · obtain ⟨y, rs, G', _, e, _⟩ := hv
    exact SqL.of (e.same _ _ ha)
  · obtain ⟨y, rs, G', rfl, e, hp, gp, hr⟩ := hv
    rw [List.getElem?_map] at hx
    cases hv : vss[i]? with
    | none =>
      rw [hv] at hx
      cases hx
    | some r =>
      rw [hv] at hx
      cases hx
      have hi : i < vss.length := (List.getElem?_eq_some_iff.mp hv).1
      have hlen : rs.length = i := by
        rw [← Paired.length hr, List.length_take]
        omega
      refine ⟨_, rfl, .inl ⟨rfl, rs, SqL.of hp⟩, _, rfl, _, rfl, _, rfl, _, rfl, _, rfl, _, _, rfl, rfl, _, rfl, b, _, rfl, SqL.of (e.same _ _ hb), fun u nu => ?_⟩
      have nup : u ≠ p := fun z => by
        rw [z, hp] at nu
        cases nu
      refine ⟨p, rs, _, rfl, rfl, by rw [upd_ne nup.symm]; exact hp, big_lt (by omega), ?_⟩
      refine ⟨_, rfl, _, rfl, _, _, rfl, rfl, ?_⟩
      have ec : cutV vss.flatten (some ((((vss.take i).flatten.length : Nat) : Int))) (some ((((vss.take i).flatten.length : Nat) : Int) + ((r.length : Nat) : Int))) = r := by
        rw [flat_take hv]
        exact cut_at _ _ _
      rw [ec]
      have e2 : X0 G' H' (upd G' u (.lst r)) (upd H' u (.lst r)) := Xt.new e.sub nu
      refine ⟨some (.int (r.length : Nat)), rs ++ [.ref u], upd G' u (.lst r), ?_, (e.trans e2).set np (by rw [upd_ne nup.symm]; exact gp), upd_same, by rw [upd_ne nup.symm]; exact gp, ?_⟩
      · rw [take_next hv, List.flatten_append, List.length_append]
        show [_, _, _, some (V.int _), _] = [_, _, _, some (V.int _), _]
        rw [show ([r] : List (List V)).flatten.length = r.length by simp]
        rw [show ((((vss.take i).flatten.length + r.length : Nat)) : Int) = (((vss.take i).flatten.length : Nat) : Int) + ((r.length : Nat) : Int) from Int.natCast_add _ _]
      · rw [take_next hv]
        exact pr_app (LReps.mono e2.g hr) (.cons ⟨u, rfl, upd_same⟩ .nil)
  · obtain ⟨y, rs, G', rfl, e, hp, gp, hr⟩ := hv
    rw [List.length_map, List.take_length] at hr
    refine ⟨_, rfl, q p rs _ H' (e.pub np hp) upd_same ?_⟩
    exact LReps.mono (same_upd gp) hr
/-! ### flat_of -/
def spFlatOf (K : PySem.W.Frag) (d : Nat) : Sp := fun vs H Q _ => ∃ (G : Hp) (k : Kd) (ws : List (Ty k)) (x : V) (a : Addr) (us : List V), vs = [x, .ref a] ∧ Same G H ∧ KRep K G k x ∧ G a = some (.lst us) ∧ Reps G k ws us ∧ tot k ws ≤ BIG ∧ k.dep ≤ d ∧
  ∀ (v : V) (G' H' : Hp), X0 G H G' H' → FRep G' k ws v → Q v H'
abbrev N_flat_of : List PySem.Str := ["kind", "worths", "firsts", "seconds", "things", "worth"]
theorem sc_flat_of : FnScope N_flat_of ["kind", "worths"] (defScope s_flat_of) := ⟨rfl, rfl, rfl, by decide +kernel, rfl, by decide +kernel, by decide +kernel⟩
theorem c_flat_of1 {d : Nat} (T : Txt K mg) (c_flat_of : ∀ d', d = d' + 1 → Cal P w K mg base d "flat_of" (spFlatOf K d') []) : Cal P w K mg base (d + 1) "flat_of" (spFlatOf K d) [] := by
  refine cal_of (d := d_flat_of) T (mem_fn 4) rfl (mem_fa 4) rfl rfl sc_flat_of (fun _ _ _ _ _ _ us hl => match us, hl with | [_, _], _ => rfl) (fun vs H Q E h => ?_) (fun cdv A outer s H vs Q E f hr h => ?_)
  · obtain ⟨G, k, ws, x, a, us, rfl, _⟩ := h
    rfl
  obtain ⟨G, k, ws, x, a, us, rfl, sG, hk, ga, hR, ht, hd, q⟩ := h
  obtain ⟨d', rfl⟩ : ∃ d', d = d' + 1 := ⟨d - 1, by have := kd_pos k; omega⟩
  have c_flat_of := c_flat_of d' rfl
  have hlen := Paired.length hR
  have hz : us.length ≤ BIG := by have := len_tot k ws; omega
  refine ⟨_, (pss_cons (ps_if (pt_cmpR op_eq (pe_ix i_tup (pv 0) pe_int (fun _ _ => rfl)) pe_str (nomark _)) (pss_cons (ps_setLc (i := 2) (own := [("worth", 5)]) rfl sc_flat_of.nd rfl rfl (sw_true rfl rfl rfl (by decide +kernel)) (pi_list (pv 1)) (blkOk_by (N := N_flat_of) (sc := defScope s_flat_of) (by decide +kernel)) (fun _ _ _ _ _ => (pg_name (i := 5) sc_flat_of.nd rfl (.inl rfl))) (fun _ _ _ _ _ => pts_nil) (fun _ _ _ _ _ => (pe_ix i_tup (pv 5) pe_int (fun _ _ => rfl))))
      (pss_cons (ps_setLc (i := 3) (own := [("worth", 5)]) rfl sc_flat_of.nd rfl rfl (sw_true rfl rfl rfl (by decide +kernel)) (pi_list (pv 1)) (blkOk_by (N := N_flat_of) (sc := defScope s_flat_of) (by decide +kernel)) (fun _ _ _ _ _ => (pg_name (i := 5) sc_flat_of.nd rfl (.inl rfl))) (fun _ _ _ _ _ => pts_nil) (fun _ _ _ _ _ => (pe_ix i_tup (pv 5) pe_int (fun _ _ => rfl))))
      (pss_one (ps_ret (pe_tup (pa_cons (pe_c c_flat_of hr (Nat.le_refl _) rfl (pa_cons (pe_ix i_tup (pv 0) pe_int (fun _ _ => rfl)) (pa_cons (pv 2) pa_nil))) (pa_cons (pe_c c_flat_of hr (Nat.le_refl _) rfl (pa_cons (pe_ix i_tup (pv 0) pe_int (fun _ _ => rfl)) (pa_cons (pv 3) pa_nil))) pa_nil))))))) pss_nil)
      (pss_cons (ps_if (pt_cmpR op_eq (pe_ix i_tup (pv 0) pe_int (fun _ _ => rfl)) pe_str (nomark _)) (pss_cons (ps_set (i := 4) sc_flat_of.nd rfl (.inl rfl) (pe_lst pa_nil))
      (pss_cons (ps_for PassesOwn.never rfl (pi_list (pv 1)) (pg_name (i := 5) sc_flat_of.nd rfl (.inl rfl)) (pss_one (ps_expr (pe_bm PySem.F.plainAttrs_list PySem.F.slot_list_extend PySem.F.type_list_extend mt_extend (pv 4) (pa_cons (pv 5) pa_nil)))))
      (pss_one (ps_ret (pe_tup (pa_cons (pe_lc (own := [("worth", 5)]) rfl sc_flat_of.nd (pi_list (pv 1)) (blkOk_by (N := N_flat_of) (sc := defScope s_flat_of) (by decide +kernel)) (fun _ _ _ _ _ => (pg_name (i := 5) sc_flat_of.nd rfl (.inl rfl))) (fun _ _ _ _ _ => pts_nil) (fun _ _ _ _ _ => (e_len T.len (pv 5)))) (pa_cons (pe_c c_flat_of hr (Nat.le_refl _) rfl (pa_cons (pe_ix i_tup (pv 0) pe_int (fun _ _ => rfl)) (pa_cons (pv 4) pa_nil))) pa_nil))))))) pss_nil)
      (pss_one (ps_ret (e_list T.list (pv 1)))))), ?_⟩
  have leaf : ∀ o, (∀ p, FRep (upd G p o) k ws (.ref p)) → o = .lst us → (tRet (tCB (rListQ K) (tCons (tVar 1) tNil))) { nx := fun _ H' => Q .non H', rt := Q } (L2.start N_flat_of [x, .ref a]) H := fun o ho e => by
    subst e
    refine ⟨_, rfl, a, us, rfl, .inl (SqL.of (sG _ _ ga)), fun l nl => ?_⟩
    exact q _ _ _ (Xt.new sG nl) (ho l)
  cases k with
  | num =>
    refine sq_no (a_kind hk sG rfl rfl) (sq_no (a_kind hk sG rfl rfl) (leaf _ (fun p => ⟨p, rfl, upd_same⟩) ?_))
    rw [reps_int hR]
  | truth =>
    refine sq_no (a_kind hk sG rfl rfl) (sq_no (a_kind hk sG rfl rfl) (leaf _ (fun p => ⟨p, rfl, upd_same⟩) ?_))
    rw [reps_bl hR]
  | pair k l =>
    refine sq_yes (a_kind hk sG rfl rfl) ?_
    obtain ⟨ka, kx, ky, rfl, sk, k1, k2⟩ := hk
    obtain ⟨xs, ys, r1, r2, hp⟩ := split_pairs hR
    have l1 : xs.length = us.length := by rw [← Paired.length r1, List.length_map, hlen]
    have l2 : ys.length = us.length := by rw [← Paired.length r2, List.length_map, hlen]
    have tp : tot k (ws.map Prod.fst) + tot l (ws.map Prod.snd) ≤ BIG := by rw [← tot_pair]; exact ht
    have hdd : max k.dep l.dep + 1 ≤ d' + 1 := hd
    refine ⟨_, rfl, a, rfl, ⟨us, SqL.of (sG _ _ ga)⟩, fun D1 n1 => ?_⟩
    refine lc_mapL (SqL.of (sG _ _ ga)) xs l1 hz n1 (fun _ => rfl) (fun i v x Hc KK hv hx e kk => ?_) fun H1 e1 hD1 => ?_
    · obtain ⟨y, hy⟩ : ∃ y, ys[i]? = some y := by
        have hi : i < us.length := (List.getElem?_eq_some_iff.mp hv).1
        exact ⟨ys[i]'(by omega), List.getElem?_eq_getElem (by omega)⟩
      obtain ⟨p, rfl, gp⟩ := hp i v x y hv hx hy
      exact ⟨_, rfl, p, _, 0, _, rfl, rfl, SqT.of (e _ _ (sG _ _ gp)), atI_nat (j := 0) rfl, kk _ (Same.refl _)⟩
    have s1 : Same G H1 := sG.trans e1
    refine ⟨_, rfl, a, rfl, ⟨us, SqL.of (s1 _ _ ga)⟩, fun D2 n2 => ?_⟩
    refine lc_mapL (SqL.of (s1 _ _ ga)) ys l2 hz n2 (fun _ => rfl) (fun i v y Hc KK hv hy e kk => ?_) fun H2 e2 hD2 => ?_
    · obtain ⟨x, hx⟩ : ∃ x, xs[i]? = some x := by
        have hi : i < us.length := (List.getElem?_eq_some_iff.mp hv).1
        exact ⟨xs[i]'(by omega), List.getElem?_eq_getElem (by omega)⟩
      obtain ⟨p, rfl, gp⟩ := hp i v x y hv hx hy
      exact ⟨_, rfl, p, _, 1, _, rfl, rfl, SqT.of (e _ _ (s1 _ _ gp)), atI_nat (j := 1) rfl, kk _ (Same.refl _)⟩
    have s2 : Same G H2 := s1.trans e2
    -- the data heap with both lists
    have x1 : X0 G H (upd G D1 (.lst xs)) H2 := Xt.pub0 sG (e1.trans e2) n1 (e2 _ _ hD1)
    have x2 : X0 G H (upd (upd G D1 (.lst xs)) D2 (.lst ys)) H2 := x1.pub (e1.free n2) hD2
    have gD2 : (upd (upd G D1 (.lst xs)) D2 (.lst ys)) D2 = some (.lst ys) := upd_same
    have nD : D1 ≠ D2 := fun z => by
      rw [z] at hD1
      rw [n2] at hD1
      cases hD1
    have gD1 : (upd (upd G D1 (.lst xs)) D2 (.lst ys)) D1 = some (.lst xs) := by rw [upd_ne nD, upd_same]
    refine ⟨_, rfl, ka, _, 1, _, rfl, rfl, sameT s2 sk, atI_nat (j := 1) rfl, _, rfl, ?_⟩
    refine ⟨_, k, _, _, D1, xs, rfl, x2.sub, KRep.mono x2.g k1, gD1, Reps.mono x2.g r1, by omega, by omega, fun v1 G3 H3 x3 f1 => ?_⟩
    refine ⟨_, rfl, ka, _, 2, _, rfl, rfl, sameT (s2.trans x3.same) sk, atI_nat (j := 2) rfl, _, rfl, ?_⟩
    have g3 := x2.g.trans x3.g
    refine ⟨_, l, _, _, D2, ys, rfl, x3.sub, KRep.mono g3 k2, x3.g _ _ gD2, Reps.mono g3 r2, by omega, by omega, fun v2 G4 H4 x4 f2 => ?_⟩
    refine ⟨by show 2 ≤ sizeLine; decide, fun t nt => ?_⟩
    have x5 : X0 G4 H4 (upd G4 t (.tup [v1, v2])) (upd H4 t (.tup [v1, v2])) := Xt.new x4.sub nt
    exact q _ _ _ (((x2.trans x3).trans x4).trans x5) ⟨t, v1, v2, rfl, upd_same, FRep.mono (x4.g.trans x5.g) f1, FRep.mono x5.g f2⟩
  | row k =>
    refine sq_no (a_kind hk sG rfl rfl) (sq_yes (a_kind hk sG rfl rfl) ?_)
    obtain ⟨ka, kx, rfl, sk, k1⟩ := hk
    obtain ⟨vss, rl, rr⟩ := split_rows hR
    have hrl := Paired.length rl
    have hdd : k.dep + 1 ≤ d' + 1 := hd
    have tr : ws.length + tot k ws.flatten ≤ BIG := by rw [← tot_row]; exact ht
    have rf := flat_rows rr
    have hfl : vss.flatten.length ≤ BIG := by
      have h1 := Paired.length rf
      have h2 := len_tot k ws.flatten
      omega
    refine ⟨Nat.zero_le _, fun p np => ?_⟩
    refine ⟨_, rfl, a, rfl, ⟨us, SqL.of (same_upd np _ _ (sG _ _ ga))⟩, ?_⟩
    refine for_list (xs := us) (fun i σ H' => ∃ y : Option V, σ = [some (.ref ka), some (.ref a), none, none, some (.ref p), y] ∧ Same H H' ∧ H' p = some (.lst (vss.take i).flatten)) ⟨none, rfl, same_upd np, upd_same⟩ (fun i σ H' _ hv => ?_) (fun i v σ H' hx hv => ?_) fun σ H' hv => ?_
    · obtain ⟨y, _, e, _⟩ := hv
      exact SqL.of (e _ _ (sG _ _ ga))
    · obtain ⟨y, rfl, e, hp⟩ := hv
      obtain ⟨r, hv, c, rfl, gc⟩ := pr_getR rl hx
      have ef := flat_take hv
      have hl : (vss.take i).flatten.length + r.length ≤ BIG := by
        have h1 := congrArg List.length ef
        rw [List.length_append, List.length_append] at h1
        omega
      refine ⟨_, rfl, .inl ⟨rfl, _, SqL.of hp⟩, _, rfl, p, c, _, _, rfl, rfl, hp, e _ _ (sG _ _ gc), big_le hl, ?_⟩
      refine ⟨_, rfl, same_set e np, ?_⟩
      rw [upd_same, take_next hv, List.flatten_append]
      simp
    · obtain ⟨y, rfl, e, hp⟩ := hv
      rw [← hrl, List.take_length] at hp
      have s1 : Same G H' := sG.trans e
      refine ⟨_, rfl, a, rfl, ⟨us, SqL.of (s1 _ _ ga)⟩, fun D nD => ?_⟩
      refine lc_mapL (SqL.of (s1 _ _ ga)) (vss.map fun r => V.int (r.length : Nat)) (by rw [List.length_map, hrl]) hz nD (fun _ => rfl) (fun i v l Hc KK hv hl e2 kk => ?_) fun H2 e2 hD => ?_
      · obtain ⟨r, h1, c, rfl, gc⟩ := pr_getR rl hv
        rw [List.getElem?_map, h1] at hl
        cases hl
        exact ⟨_, rfl, c, r, rfl, .inl (SqL.of (e2 _ _ (s1 _ _ gc))), kk _ (Same.refl _)⟩
      have x1 : X0 G H (upd G p (.lst vss.flatten)) H2 := Xt.pub0 sG (e.trans e2) np (e2 _ _ hp)
      have x2 : X0 G H (upd (upd G p (.lst vss.flatten)) D (.lst (vss.map fun r => V.int (r.length : Nat)))) H2 := x1.pub (e.free nD) hD
      have npD : p ≠ D := fun z => by
        rw [z] at hp
        rw [nD] at hp
        cases hp
      refine ⟨_, rfl, ka, _, 1, _, rfl, rfl, sameT (s1.trans e2) sk, atI_nat (j := 1) rfl, _, rfl, ?_⟩
      refine ⟨_, k, ws.flatten, _, p, vss.flatten, rfl, x2.sub, KRep.mono x2.g k1, by rw [upd_ne npD, upd_same], Reps.mono x2.g rf, by omega, by omega, fun v1 G3 H3 x3 f1 => ?_⟩
      refine ⟨by show 2 ≤ sizeLine; decide, fun t nt => ?_⟩
      have x5 : X0 G3 H3 (upd G3 t (.tup [.ref D, v1])) (upd H3 t (.tup [.ref D, v1])) := Xt.new x3.sub nt
      refine q _ _ _ ((x2.trans x3).trans x5) ⟨t, D, v1, rfl, upd_same, x5.g _ _ (x3.g _ _ ?_), FRep.mono x5.g f1⟩
      rw [upd_same, lens_rows rr]
theorem c_flat_of (T : Txt K mg) : ∀ d, Cal P w K mg base (d + 1) "flat_of" (spFlatOf K d) []
  | 0 => c_flat_of1 T fun _ h => nomatch h
  | d + 1 => c_flat_of1 T fun d' h => by
    cases h
    exact c_flat_of T d
end
end Bw
namespace Bw
open PySem PySem.Spec PyProof.Rows L2
open C8 (Cal pe_c)
/-! ### numbers of things -/
abbrev nV (n : Nat) : V := .int (n : Int)
def pk {α : Type} (ws : List α) (ns : List Nat) : List α := ns.filterMap fun i => ws[i]?
def nw (lens ns : List Nat) : List Nat := ns.flatMap fun i => (List.range (lens.getD i 0)).map fun j => (lens.take i).sum + j
theorem pk_cons {α : Type} {ws : List α} {n : Nat} {ns : List Nat} {x : α} (h : ws[n]? = some x) : pk ws (n :: ns) = x :: pk ws ns := by
  unfold pk
  rw [List.filterMap_cons, h]
theorem pk_none {α : Type} {ws : List α} {n : Nat} {ns : List Nat} (h : ws[n]? = none) : pk ws (n :: ns) = pk ws ns := by
  unfold pk
  rw [List.filterMap_cons, h]
theorem pk_app {α : Type} {ws : List α} {ns ms : List Nat} : pk ws (ns ++ ms) = pk ws ns ++ pk ws ms := List.filterMap_append
theorem pk_map {α β : Type} (f : α → β) (ws : List α) : ∀ ns : List Nat, pk (ws.map f) ns = (pk ws ns).map f
  | [] => rfl
  | n :: ns => by
    have h := pk_map f ws ns
    cases e : ws[n]? with
    | none => rw [pk_none e, pk_none (by rw [List.getElem?_map, e]; rfl), h]
    | some x => rw [pk_cons e, pk_cons (x := f x) (by rw [List.getElem?_map, e]; rfl), h, List.map_cons]
theorem pk_len {α : Type} {ws : List α} : ∀ {ns : List Nat}, (∀ n ∈ ns, n < ws.length) → (pk ws ns).length = ns.length
  | [], _ => rfl
  | n :: ns, h => by
    have hl : n < ws.length := h n List.mem_cons_self
    have hn : ws[n]? = some ws[n] := List.getElem?_eq_getElem hl
    rw [pk_cons hn, List.length_cons, List.length_cons, pk_len fun m hm => h m (List.mem_cons_of_mem _ hm)]
theorem pk_get {α : Type} {ws : List α} : ∀ {ns : List Nat} {i n : Nat}, (∀ n ∈ ns, n < ws.length) → ns[i]? = some n → (pk ws ns)[i]? = ws[n]?
  | [], i, n, _, h => by simp at h
  | m :: ns, 0, n, h, e => by
    have hl : m < ws.length := h m List.mem_cons_self
    have hn : ws[m]? = some ws[m] := List.getElem?_eq_getElem hl
    cases e
    rw [pk_cons hn, hn]
    rfl
  | m :: ns, i + 1, n, h, e => by
    have hl : m < ws.length := h m List.mem_cons_self
    have hn : ws[m]? = some ws[m] := List.getElem?_eq_getElem hl
    rw [pk_cons hn]
    exact pk_get (i := i) (fun k hk => h k (List.mem_cons_of_mem _ hk)) (by simpa using e)
theorem pk_at {α : Type} (xs ys zs : List α) : pk (xs ++ (ys ++ zs)) ((List.range ys.length).map fun j => xs.length + j) = ys := by
  refine List.ext_getElem? fun i => ?_
  have hb : ∀ n ∈ (List.range ys.length).map (fun j => xs.length + j), n < (xs ++ (ys ++ zs)).length := fun n hn => by
    obtain ⟨j, hj, rfl⟩ := List.mem_map.mp hn
    have := List.mem_range.mp hj
    rw [List.length_append, List.length_append]
    omega
  by_cases hi : i < ys.length
  · have e : ((List.range ys.length).map fun j => xs.length + j)[i]? = some (xs.length + i) := by rw [List.getElem?_map, List.getElem?_range hi]; rfl
    rw [pk_get hb e, List.getElem?_append_right (Nat.le_add_right _ _), Nat.add_sub_cancel_left, List.getElem?_append_left hi]
  · have l := pk_len hb
    rw [List.length_map, List.length_range] at l
    rw [List.getElem?_eq_none (by omega), List.getElem?_eq_none (by omega)]
theorem sum_lens {α : Type} (ws : List (List α)) : (ws.map List.length).sum = ws.flatten.length := by
  rw [List.length_flatten]
theorem pk_nw {α : Type} (ws : List (List α)) : ∀ ns : List Nat, pk ws.flatten (nw (ws.map List.length) ns) = (pk ws ns).flatten
  | [] => rfl
  | n :: ns => by
    have h := pk_nw ws ns
    have e0 : nw (ws.map List.length) (n :: ns) = ((List.range ((ws.map List.length).getD n 0)).map fun j => ((ws.map List.length).take n).sum + j) ++ nw (ws.map List.length) ns := List.flatMap_cons
    rw [e0, pk_app, h]
    cases e : ws[n]? with
    | none =>
      rw [pk_none e, show (ws.map List.length).getD n 0 = 0 by simp [List.getD, e]]
      rfl
    | some r =>
      rw [pk_cons e, List.flatten_cons, show (ws.map List.length).getD n 0 = r.length by simp [List.getD, e], ← List.map_take, sum_lens, flat_take e, pk_at]
theorem nw_lt {α : Type} (ws : List (List α)) (ns : List Nat) : ∀ m ∈ nw (ws.map List.length) ns, m < ws.flatten.length := fun m hm => by
  obtain ⟨i, hi, hj⟩ := List.mem_flatMap.mp hm
  obtain ⟨j, hj2, rfl⟩ := List.mem_map.mp hj
  have hj := List.mem_range.mp hj2
  cases e : ws[i]? with
  | none =>
    rw [show (ws.map List.length).getD i 0 = 0 by simp [List.getD, e]] at hj
    omega
  | some r =>
    rw [show (ws.map List.length).getD i 0 = r.length by simp [List.getD, e]] at hj
    have h := congrArg List.length (flat_take e)
    rw [List.length_append, List.length_append] at h
    rw [← List.map_take, sum_lens]
    omega
theorem take_sum_le (lens : List Nat) (i : Nat) : (lens.take i).sum ≤ lens.sum := by
  have e : lens.sum = (lens.take i).sum + (lens.drop i).sum := by rw [← List.sum_append, List.take_append_drop]
  omega
theorem take_sum_next {lens : List Nat} {i n : Nat} (h : lens[i]? = some n) : (lens.take (i + 1)).sum = (lens.take i).sum + n := by
  rw [take_next h, List.sum_append]
  simp
theorem nw_take {lens ns : List Nat} {i n : Nat} (h : ns[i]? = some n) : nw lens (ns.take (i + 1)) = nw lens (ns.take i) ++ (List.range (lens.getD n 0)).map fun j => (lens.take n).sum + j := by
  unfold nw
  rw [take_next h, List.flatMap_append]
  simp
theorem nw_take_le (lens ns : List Nat) (i : Nat) : (nw lens (ns.take i)).length ≤ (nw lens ns).length := by
  have e : nw lens ns = nw lens (ns.take i) ++ nw lens (ns.drop i) := by
    unfold nw
    rw [← List.flatMap_append, List.take_append_drop]
  rw [e, List.length_append]
  omega
theorem lens_nV {α : Type} (ws : List (List α)) : ws.map (fun r => V.int (r.length : Nat)) = (ws.map List.length).map nV := by
  rw [List.map_map]
  rfl
section
variable {P : Program} {w : World} {K : PySem.W.Frag} {mg : Str → Option Value} {base : Heap}
/-! ### begins, numbers_within -/
def begs (lens : List Nat) : List Nat := (List.range lens.length).map fun i => (lens.take i).sum
def spBegins : Sp := fun vs H Q _ => ∃ (a : Addr) (lens : List Nat), vs = [.ref a] ∧ H a = some (.lst (lens.map nV)) ∧ lens.length ≤ BIG ∧ ∀ p H', Same H H' → H p = none → H' p = some (.lst ((begs lens).map nV)) → Q (.ref p) H'
abbrev N_begins : List PySem.Str := ["lengths", "found", "at", "length"]
theorem sc_begins : FnScope N_begins ["lengths"] (defScope s_begins) := ⟨rfl, rfl, rfl, by decide +kernel, rfl, by decide +kernel, by decide +kernel⟩
theorem begs_next (lens : List Nat) {i : Nat} (hi : i < lens.length) : (begs lens).take (i + 1) = (begs lens).take i ++ [(lens.take i).sum] := take_next (by
  unfold begs
  rw [List.getElem?_map, List.getElem?_range hi]
  rfl)
theorem c_begins (T : Txt K mg) : Cal P w K mg base 1 "begins" spBegins [] := by
  refine cal_of (d := d_begins) T (mem_fn 14) rfl (mem_fa 14) rfl rfl sc_begins (fun _ _ _ _ _ _ us hl => match us, hl with | [_], _ => rfl) (fun vs H Q E h => ?_) (fun cdv A outer s H vs Q E f hr h => ?_)
  · obtain ⟨a, lens, rfl, _⟩ := h
    rfl
  obtain ⟨a, lens, rfl, ha, hz, q⟩ := h
  refine ⟨_, (pss_cons (ps_set (i := 1) sc_begins.nd rfl (.inl rfl) (pe_lst pa_nil))
      (pss_cons (ps_set (i := 2) sc_begins.nd rfl (.inl rfl) pe_int)
      (pss_cons (ps_for PassesOwn.never rfl (pi_list (pv 0)) (pg_name (i := 3) sc_begins.nd rfl (.inl rfl)) (pss_cons (ps_expr (pe_bm PySem.F.plainAttrs_list PySem.F.slot_list_append PySem.F.type_list_append mt_append (pv 1) (pa_cons (pv 2) pa_nil)))
      (pss_one (ps_set (i := 2) sc_begins.nd rfl (.inl rfl) (pe_op op_add (pv 2) (pv 3))))))
      (pss_one (ps_ret (pv 1)))))), ?_⟩
  refine ⟨Nat.zero_le _, fun p np => ?_⟩
  refine ⟨_, rfl, a, rfl, ⟨_, SqL.of (same_upd np _ _ ha)⟩, ?_⟩
  have lb : (begs lens).length = lens.length := by unfold begs; rw [List.length_map, List.length_range]
  refine for_list (xs := lens.map nV) (fun i σ H' => ∃ y : Option V, σ = [some (.ref a), some (.ref p), some (nV (lens.take i).sum), y] ∧ Same H H' ∧ H' p = some (.lst (((begs lens).take i).map nV))) ⟨none, rfl, same_upd np, upd_same⟩ (fun i σ H' _ hv => ?_) (fun i x σ H' hx hv => ?_) fun σ H' hv => ?_
  · obtain ⟨y, _, e, _⟩ := hv
    exact SqL.of (e _ _ ha)
  · obtain ⟨y, rfl, e, hp⟩ := hv
    rw [List.getElem?_map] at hx
    cases hn : lens[i]? with
    | none =>
      rw [hn] at hx
      cases hx
    | some n =>
      rw [hn] at hx
      cases hx
      have hi : i < lens.length := (List.getElem?_eq_some_iff.mp hn).1
      refine ⟨_, rfl, .inl ⟨rfl, _, SqL.of hp⟩, _, rfl, p, _, _, rfl, rfl, hp, by rw [List.length_map, List.length_take]; exact big_lt (by omega), ?_⟩
      refine ⟨_, rfl, _, rfl, _, _, rfl, rfl, some (nV n), ?_, same_set e np, ?_⟩
      · rw [take_sum_next hn]
        rfl
      · rw [upd_same, begs_next lens hi, List.map_append]
        rfl
  · obtain ⟨y, rfl, e, hp⟩ := hv
    rw [List.length_map, ← lb, List.take_length] at hp
    exact ⟨_, rfl, q p H' e np hp⟩
def spNw : Sp := fun vs H Q _ => ∃ (a b : Addr) (lens ns : List Nat), vs = [.ref a, .ref b] ∧ H a = some (.lst (lens.map nV)) ∧ H b = some (.lst (ns.map nV)) ∧ (∀ n ∈ ns, n < lens.length) ∧ lens.length ≤ BIG ∧ lens.sum ≤ BIG ∧ (nw lens ns).length ≤ BIG ∧
  ∀ p H', Same H H' → H p = none → H' p = some (.lst ((nw lens ns).map nV)) → Q (.ref p) H'
abbrev N_numbers_within : List PySem.Str := ["lengths", "numbers", "starts", "found", "number"]
theorem sc_numbers_within : FnScope N_numbers_within ["lengths", "numbers"] (defScope s_numbers_within) := ⟨rfl, rfl, rfl, by decide +kernel, rfl, by decide +kernel, by decide +kernel⟩
theorem rgV_nV (s l : Nat) : rgV (s : Int) ((s : Int) + (l : Int)) = ((List.range l).map fun j => s + j).map nV := by
  unfold rgV
  rw [show ((s : Int) + (l : Int) - (s : Int)).toNat = l by omega, List.map_map]
  rfl
theorem c_numbers_within (T : Txt K mg) (c_begins : Cal P w K mg base 1 "begins" spBegins []) : Cal P w K mg base 2 "numbers_within" spNw [] := by
  refine cal_of (d := d_numbers_within) T (mem_fn 15) rfl (mem_fa 15) rfl rfl sc_numbers_within (fun _ _ _ _ _ _ us hl => match us, hl with | [_, _], _ => rfl) (fun vs H Q E h => ?_) (fun cdv A outer s H vs Q E f hr h => ?_)
  · obtain ⟨a, b, lens, ns, rfl, _⟩ := h
    rfl
  obtain ⟨a, b, lens, ns, rfl, ha, hb, hn, hz, hs, ht, q⟩ := h
  refine ⟨_, (pss_cons (ps_set (i := 2) sc_numbers_within.nd rfl (.inl rfl) (pe_c c_begins hr (by decide) rfl (pa_cons (pv 0) pa_nil)))
      (pss_cons (ps_set (i := 3) sc_numbers_within.nd rfl (.inl rfl) (pe_lst pa_nil))
      (pss_cons (ps_for PassesOwn.never rfl (pi_list (pv 1)) (pg_name (i := 4) sc_numbers_within.nd rfl (.inl rfl)) (pss_one (ps_expr (pe_bm PySem.F.plainAttrs_list PySem.F.slot_list_extend PySem.F.type_list_extend mt_extend (pv 3) (pa_cons (pe_listRg rfl rfl T.list (prg_2 rfl T.range (pe_ix i_list (pv 2) (pv 4) (fun _ _ => rfl)) (pe_op op_add (pe_ix i_list (pv 2) (pv 4) (fun _ _ => rfl)) (pe_ix i_list (pv 0) (pv 4) (fun _ _ => rfl))))) pa_nil)))))
      (pss_one (ps_ret (pv 3)))))), ?_⟩
  refine ⟨_, rfl, a, lens, rfl, ha, hz, fun u H1 e1 nu hu => ?_⟩
  refine ⟨Nat.zero_le _, fun p np => ?_⟩
  have e2 : Same H1 (upd H1 p (.lst [])) := same_upd np
  refine ⟨_, rfl, b, rfl, ⟨_, SqL.of (e2 _ _ (e1 _ _ hb))⟩, ?_⟩
  refine for_list (xs := ns.map nV) (fun i σ H' => ∃ y : Option V, σ = [some (.ref a), some (.ref b), some (.ref u), some (.ref p), y] ∧ Same H1 H' ∧ H' p = some (.lst ((nw lens (ns.take i)).map nV))) ⟨none, rfl, e2, upd_same⟩ (fun i σ H' _ hv => ?_) (fun i x σ H' hx hv => ?_) fun σ H' hv => ?_
  · obtain ⟨y, _, e, _⟩ := hv
    exact SqL.of (e _ _ (e1 _ _ hb))
  · obtain ⟨y, rfl, e, hp⟩ := hv
    rw [List.getElem?_map] at hx
    cases hi : ns[i]? with
    | none =>
      rw [hi] at hx
      cases hx
    | some n =>
      rw [hi] at hx
      cases hx
      have hnl : n < lens.length := hn n (List.mem_of_getElem? hi)
      have hbn : ((begs lens).map nV)[n]? = some (nV (lens.take n).sum) := by
        unfold begs
        rw [List.getElem?_map, List.getElem?_map, List.getElem?_range hnl]
        rfl
      have hln : (lens.map nV)[n]? = some (nV (lens.getD n 0)) := by
        rw [List.getElem?_map, List.getElem?_eq_getElem hnl]
        simp [List.getD, hnl]
      have hsl : (lens.take n).sum + lens.getD n 0 ≤ BIG := by
        have h1 := take_sum_next (lens := lens) (i := n) (n := lens.getD n 0) (by simp [List.getD, hnl])
        have h2 := take_sum_le lens (n + 1)
        omega
      refine ⟨_, rfl, .inl ⟨rfl, _, SqL.of hp⟩, ?_⟩
      refine ⟨_, rfl, _, rfl, u, _, (n : Int), _, rfl, rfl, SqL.of (e _ _ hu), atI_nat hbn, ?_⟩
      refine ⟨_, rfl, _, rfl, u, _, (n : Int), _, rfl, rfl, SqL.of (e _ _ hu), atI_nat hbn, ?_⟩
      refine ⟨_, rfl, _, rfl, a, _, (n : Int), _, rfl, rfl, SqL.of (e _ _ (e1 _ _ ha)), atI_nat hln, ?_⟩
      refine ⟨_, _, rfl, rfl, _, _, rfl, rfl, ?_⟩
      have b1 : BIG ≤ 16777216 := by decide
      refine ⟨.of_le (by omega) (by omega) (by omega) (by omega), fun c nc => ?_⟩
      have npc : p ≠ c := fun z => by
        rw [← z, hp] at nc
        cases nc
      rw [rgV_nV]
      have htk := nw_take (lens := lens) hi
      have hle : (nw lens (ns.take i)).length + lens.getD n 0 ≤ BIG := by
        have h1 := nw_take_le lens ns (i + 1)
        rw [htk, List.length_append, List.length_map, List.length_range] at h1
        omega
      refine ⟨p, c, _, _, rfl, rfl, by rw [upd_ne npc]; exact hp, upd_same, by rw [List.length_map, List.length_map, List.length_map, List.length_range]; exact big_le hle, ?_⟩
      refine ⟨_, rfl, same_set (e.trans (same_upd nc)) np, ?_⟩
      rw [upd_same, htk, List.map_append]
  · obtain ⟨y, rfl, e, hp⟩ := hv
    rw [List.length_map, List.take_length] at hp
    exact ⟨_, rfl, q p H' (e1.trans e) (e1.free np) hp⟩
/-! ### chosen -/
def spChosen (K : PySem.W.Frag) (d : Nat) : Sp := fun vs H Q _ => ∃ (G : Hp) (k : Kd) (ws : List (Ty k)) (x f : V) (b : Addr) (ns : List Nat), vs = [x, f, .ref b] ∧ Same G H ∧ KRep K G k x ∧ FRep G k ws f ∧ H b = some (.lst (ns.map nV)) ∧ (∀ n ∈ ns, n < ws.length) ∧
  tot k ws ≤ BIG ∧ tot k (pk ws ns) ≤ BIG ∧ k.dep ≤ d ∧ ∀ (v : V) (G' H' : Hp), X0 G H G' H' → FRep G' k (pk ws ns) v → Q v H'
abbrev N_chosen : List PySem.Str := ["kind", "flat", "numbers", "lengths", "number"]
theorem sc_chosen : FnScope N_chosen ["kind", "flat", "numbers"] (defScope s_chosen) := ⟨rfl, rfl, rfl, by decide +kernel, rfl, by decide +kernel, by decide +kernel⟩
theorem c_chosen1 {d : Nat} (T : Txt K mg) (c_numbers_within : Cal P w K mg base 2 "numbers_within" spNw []) (c_chosen : ∀ d', d = d' + 1 → Cal P w K mg base (d + 2) "chosen" (spChosen K d') []) : Cal P w K mg base (d + 3) "chosen" (spChosen K d) [] := by
  refine cal_of (d := d_chosen) T (mem_fn 16) rfl (mem_fa 16) rfl rfl sc_chosen (fun _ _ _ _ _ _ us hl => match us, hl with | [_, _, _], _ => rfl) (fun vs H Q E h => ?_) (fun cdv A outer s H vs Q E f hr h => ?_)
  · obtain ⟨G, k, ws, x, fl, b, ns, rfl, _⟩ := h
    rfl
  obtain ⟨G, k, ws, x, fl, b, ns, rfl, sG, hk, hf, hb, hn, ht, hp, hd, q⟩ := h
  obtain ⟨d', rfl⟩ : ∃ d', d = d' + 1 := ⟨d - 1, by have := kd_pos k; omega⟩
  have c_chosen := c_chosen d' rfl
  have hnz : ns.length ≤ BIG := by
    have h1 := pk_len hn
    have h2 := len_tot k (pk ws ns)
    omega
  refine ⟨_, (pss_cons (ps_if (pt_cmpR op_eq (pe_ix i_tup (pv 0) pe_int (fun _ _ => rfl)) pe_str (nomark _)) (pss_one (ps_ret (pe_tup (pa_cons (pe_c c_chosen hr (Nat.le_refl _) rfl (pa_cons (pe_ix i_tup (pv 0) pe_int (fun _ _ => rfl)) (pa_cons (pe_ix i_tup (pv 1) pe_int (fun _ _ => rfl)) (pa_cons (pv 2) pa_nil)))) (pa_cons (pe_c c_chosen hr (Nat.le_refl _) rfl (pa_cons (pe_ix i_tup (pv 0) pe_int (fun _ _ => rfl)) (pa_cons (pe_ix i_tup (pv 1) pe_int (fun _ _ => rfl)) (pa_cons (pv 2) pa_nil)))) pa_nil))))) pss_nil)
      (pss_cons (ps_if (pt_cmpR op_eq (pe_ix i_tup (pv 0) pe_int (fun _ _ => rfl)) pe_str (nomark _)) (pss_cons (ps_setLc (i := 3) (own := [("number", 4)]) rfl sc_chosen.nd rfl rfl (sw_true rfl rfl rfl (by decide +kernel)) (pi_list (pv 2)) (blkOk_by (N := N_chosen) (sc := defScope s_chosen) (by decide +kernel)) (fun _ _ _ _ _ => (pg_name (i := 4) sc_chosen.nd rfl (.inl rfl))) (fun _ _ _ _ _ => pts_nil) (fun _ _ _ _ _ => (pe_ix i_list (pe_ix i_tup (pv 1) pe_int (fun _ _ => rfl)) (pv 4) (fun _ _ => rfl))))
      (pss_one (ps_ret (pe_tup (pa_cons (pv 3) (pa_cons (pe_c c_chosen hr (Nat.le_refl _) rfl (pa_cons (pe_ix i_tup (pv 0) pe_int (fun _ _ => rfl)) (pa_cons (pe_ix i_tup (pv 1) pe_int (fun _ _ => rfl)) (pa_cons (pe_c c_numbers_within hr (Nat.le_add_left 2 _) rfl (pa_cons (pe_ix i_tup (pv 1) pe_int (fun _ _ => rfl)) (pa_cons (pv 2) pa_nil))) pa_nil)))) pa_nil)))))) pss_nil)
      (pss_one (ps_ret (pe_lc (own := [("number", 4)]) rfl sc_chosen.nd (pi_list (pv 2)) (blkOk_by (N := N_chosen) (sc := defScope s_chosen) (by decide +kernel)) (fun _ _ _ _ _ => (pg_name (i := 4) sc_chosen.nd rfl (.inl rfl))) (fun _ _ _ _ _ => pts_nil) (fun _ _ _ _ _ => (pe_ix i_list (pv 1) (pv 4) (fun _ _ => rfl)))))))), ?_⟩
  have leaf : ∀ (us : List V) (a : Addr), G a = some (.lst us) → fl = .ref a → us.length = ws.length → (∀ p, FRep (upd G p (.lst (pk us ns))) k (pk ws ns) (.ref p)) →
      (tRet (tLc (iList K (tVar 2)) (gName 4) tYes (tOp (rIxL K) (tVar 1) (tVar 4)) [4])) { nx := fun _ H' => Q .non H', rt := Q } (L2.start N_chosen [x, fl, .ref b]) H := fun us a ga e hl ho => by
    subst e
    refine ⟨_, rfl, b, rfl, ⟨_, SqL.of hb⟩, fun D nD => ?_⟩
    have hn' : ∀ n ∈ ns, n < us.length := fun n h => by rw [hl]; exact hn n h
    refine lc_mapL (SqL.of hb) (pk us ns) (by rw [pk_len hn', List.length_map]) (by rw [List.length_map]; exact hnz) nD (fun _ => rfl) (fun i v y Hc KK hv hy e kk => ?_) fun H1 e1 hD => ?_
    · rw [List.getElem?_map] at hv
      cases hi : ns[i]? with
      | none =>
        rw [hi] at hv
        cases hv
      | some n =>
        rw [hi] at hv
        cases hv
        rw [pk_get hn' hi] at hy
        exact ⟨_, rfl, _, rfl, a, us, (n : Int), y, rfl, rfl, SqL.of (e _ _ (sG _ _ ga)), atI_nat hy, kk _ (Same.refl _)⟩
    · exact q _ _ _ (Xt.pub0 sG e1 nD hD) (ho D)
  cases k with
  | num =>
    obtain ⟨a, rfl, ga⟩ := hf
    refine sq_no (a_kind hk sG rfl rfl) (sq_no (a_kind hk sG rfl rfl) (leaf _ a ga rfl (List.length_map _) fun p => ⟨p, rfl, ?_⟩))
    rw [upd_same, pk_map]
  | truth =>
    obtain ⟨a, rfl, ga⟩ := hf
    refine sq_no (a_kind hk sG rfl rfl) (sq_no (a_kind hk sG rfl rfl) (leaf _ a ga rfl (List.length_map _) fun p => ⟨p, rfl, ?_⟩))
    rw [upd_same, pk_map]
  | pair k l =>
    refine sq_yes (a_kind hk sG rfl rfl) ?_
    obtain ⟨ka, kx, ky, rfl, sk, k1, k2⟩ := hk
    obtain ⟨a, fx, fy, rfl, ga, f1, f2⟩ := hf
    have hdd : max k.dep l.dep + 1 ≤ d' + 1 := hd
    have t1 : tot k (ws.map Prod.fst) + tot l (ws.map Prod.snd) ≤ BIG := by rw [← tot_pair]; exact ht
    have t2 : tot k (pk (ws.map Prod.fst) ns) + tot l (pk (ws.map Prod.snd) ns) ≤ BIG := by rw [pk_map, pk_map, ← tot_pair]; exact hp
    refine ⟨_, rfl, ka, _, 1, _, rfl, rfl, sameT sG sk, atI_nat (j := 1) rfl, _, rfl, a, _, 0, _, rfl, rfl, SqT.of (sG _ _ ga), atI_nat (j := 0) rfl, _, rfl, ?_⟩
    refine ⟨G, k, ws.map Prod.fst, kx, fx, b, ns, rfl, sG, k1, f1, hb, by rw [List.length_map]; exact hn, by omega, by omega, by omega, fun v1 G1 H1 x1 r1 => ?_⟩
    refine ⟨_, rfl, ka, _, 2, _, rfl, rfl, sameT (sG.trans x1.same) sk, atI_nat (j := 2) rfl, _, rfl, a, _, 1, _, rfl, rfl, SqT.of (x1.same _ _ (sG _ _ ga)), atI_nat (j := 1) rfl, _, rfl, ?_⟩
    refine ⟨G1, l, ws.map Prod.snd, ky, fy, b, ns, rfl, x1.sub, KRep.mono x1.g k2, FRep.mono x1.g f2, x1.same _ _ hb, by rw [List.length_map]; exact hn, by omega, by omega, by omega, fun v2 G2 H2 x2 r2 => ?_⟩
    refine ⟨by show 2 ≤ sizeLine; decide, fun t nt => ?_⟩
    have x5 : X0 G2 H2 (upd G2 t (.tup [v1, v2])) (upd H2 t (.tup [v1, v2])) := Xt.new x2.sub nt
    rw [pk_map] at r1 r2
    exact q _ _ _ ((x1.trans x2).trans x5) ⟨t, v1, v2, rfl, upd_same, FRep.mono (x2.g.trans x5.g) r1, FRep.mono x5.g r2⟩
  | row k =>
    refine sq_no (a_kind hk sG rfl rfl) (sq_yes (a_kind hk sG rfl rfl) ?_)
    obtain ⟨ka, kx, rfl, sk, k1⟩ := hk
    obtain ⟨a, c, fy, rfl, ga, gc, f1⟩ := hf
    have hdd : k.dep + 1 ≤ d' + 1 := hd
    have t1 : ws.length + tot k ws.flatten ≤ BIG := by rw [← tot_row]; exact ht
    have t2 : (pk ws ns).length + tot k (pk ws ns).flatten ≤ BIG := by rw [← tot_row]; exact hp
    rw [lens_nV] at gc
    have hn' : ∀ n ∈ ns, n < ((ws.map List.length).map nV).length := fun n h => by rw [List.length_map, List.length_map]; exact hn n h
    refine ⟨_, rfl, b, rfl, ⟨_, SqL.of hb⟩, fun D nD => ?_⟩
    refine lc_mapL (SqL.of hb) (pk ((ws.map List.length).map nV) ns) (by rw [pk_len hn', List.length_map]) (by rw [List.length_map]; exact hnz) nD (fun _ => rfl) (fun i v y Hc KK hv hy e kk => ?_) fun H1 e1 hD => ?_
    · rw [List.getElem?_map] at hv
      cases hi : ns[i]? with
      | none =>
        rw [hi] at hv
        cases hv
      | some n =>
        rw [hi] at hv
        cases hv
        rw [pk_get hn' hi] at hy
        exact ⟨_, rfl, a, _, 0, _, rfl, rfl, SqT.of (e _ _ (sG _ _ ga)), atI_nat (j := 0) rfl, _, rfl, c, _, (n : Int), y, rfl, rfl, SqL.of (e _ _ (sG _ _ gc)), atI_nat hy, kk _ (Same.refl _)⟩
    rw [pk_map, pk_map] at hD
    have x1 : X0 G H (upd G D (.lst (((pk ws ns).map List.length).map nV))) H1 := Xt.pub0 sG e1 nD hD
    have s1 : Same G H1 := sG.trans e1
    refine ⟨_, rfl, _, rfl, ka, _, 1, _, rfl, rfl, sameT s1 sk, atI_nat (j := 1) rfl, _, rfl, a, _, 1, _, rfl, rfl, SqT.of (s1 _ _ ga), atI_nat (j := 1) rfl, ?_⟩
    refine ⟨_, rfl, a, _, 0, _, rfl, rfl, SqT.of (s1 _ _ ga), atI_nat (j := 0) rfl, _, rfl, ?_⟩
    have hfl : (nw (ws.map List.length) ns).length ≤ BIG := by
      have h1 := pk_len (nw_lt ws ns)
      rw [pk_nw] at h1
      have h2 := len_tot k (pk ws ns).flatten
      omega
    refine ⟨c, b, ws.map List.length, ns, rfl, s1 _ _ gc, e1 _ _ hb, fun n h => by rw [List.length_map]; exact hn n h, by rw [List.length_map]; omega, by rw [sum_lens]; have := len_tot k ws.flatten; omega, hfl, fun u H2 e2 nu hu => ?_⟩
    have x2 : X0 (upd G D (.lst (((pk ws ns).map List.length).map nV))) H1 (upd G D (.lst (((pk ws ns).map List.length).map nV))) H2 := Xt.of_same x1.sub e2
    refine ⟨_, k, ws.flatten, kx, fy, u, nw (ws.map List.length) ns, rfl, x2.sub, KRep.mono x1.g k1, FRep.mono x1.g f1, hu, nw_lt ws ns, by omega, by rw [pk_nw]; omega, by omega, fun v G3 H3 x3 r => ?_⟩
    rw [pk_nw] at r
    refine ⟨by show 2 ≤ sizeLine; decide, fun t nt => ?_⟩
    have x5 : X0 G3 H3 (upd G3 t (.tup [.ref D, v])) (upd H3 t (.tup [.ref D, v])) := Xt.new x3.sub nt
    refine q _ _ _ (((x1.trans x2).trans x3).trans x5) ⟨t, D, v, rfl, upd_same, x5.g _ _ (x3.g _ _ ?_), FRep.mono x5.g r⟩
    rw [upd_same, lens_nV]
theorem c_chosen (T : Txt K mg) (c_numbers_within : Cal P w K mg base 2 "numbers_within" spNw []) : ∀ d, Cal P w K mg base (d + 3) "chosen" (spChosen K d) []
  | 0 => c_chosen1 T c_numbers_within fun _ h => nomatch h
  | d + 1 => c_chosen1 T c_numbers_within fun d' h => by
    cases h
    exact c_chosen T c_numbers_within d
end
end Bw
namespace Bw
open PySem PySem.Spec PyProof.Rows L2
open C8 (Cal pe_c)
theorem pk_range {α : Type} (ws : List α) : ∀ {m : Nat}, m ≤ ws.length → pk ws (List.range m) = ws.take m
  | 0, _ => by rw [List.take_zero]; rfl
  | m + 1, h => by
    have hl : m < ws.length := h
    rw [List.range_succ, pk_app, pk_range ws (by omega), take_next (List.getElem?_eq_getElem hl), pk_cons (List.getElem?_eq_getElem hl)]
    rfl
theorem rgV_range (m : Nat) : rgV 0 (m : Int) = (List.range m).map nV := by
  unfold rgV
  rw [show ((m : Int) - 0).toNat = m by omega]
  refine List.map_congr_left fun i _ => ?_
  show V.int (0 + (i : Int)) = V.int (i : Int)
  rw [Int.zero_add]
/-- the numbers at which truths stand, among the first i -/
def trs (bs : List Bool) (i : Nat) : List Nat := (List.range i).filter fun j => bs.getD j false
abbrev tru (bs : List Bool) : List Nat := trs bs bs.length
theorem trs_yes {bs : List Bool} {i : Nat} (h : bs[i]? = some true) : trs bs (i + 1) = trs bs i ++ [i] := by
  unfold trs
  rw [List.range_succ, List.filter_append, List.filter_cons, if_pos (by simp [List.getD, h])]
  rfl
theorem trs_no {bs : List Bool} {i : Nat} (h : bs[i]? = some false) : trs bs (i + 1) = trs bs i := by
  unfold trs
  rw [List.range_succ, List.filter_append, List.filter_cons, if_neg (by simp [List.getD, h])]
  exact List.append_nil _
theorem trs_len (bs : List Bool) (i : Nat) : (trs bs i).length ≤ i := by
  have h := List.length_filter_le (fun j => bs.getD j false) (List.range i)
  rw [List.length_range] at h
  exact h
theorem trs_lt (bs : List Bool) (i : Nat) : ∀ n ∈ trs bs i, n < i := fun n h => List.mem_range.mp (List.mem_filter.mp h).1
section
variable {P : Program} {w : World} {K : PySem.W.Frag} {mg : Str → Option Value} {base : Heap}
/-! ### taken -/
abbrev N_taken : List PySem.Str := ["kind", "flat", "numbers", "many", "number"]
theorem sc_taken : FnScope N_taken ["kind", "flat", "numbers"] (defScope s_taken) := ⟨rfl, rfl, rfl, by decide +kernel, rfl, by decide +kernel, by decide +kernel⟩
theorem c_taken {d : Nat} (T : Txt K mg) (c_many_in : Cal P w K mg base (d + 1) "many_in" (spMany K d) []) (c_chosen : Cal P w K mg base (d + 3) "chosen" (spChosen K d) []) : Cal P w K mg base (d + 4) "taken" (spChosen K d) [] := by
  refine cal_of (d := d_taken) T (mem_fn 17) rfl (mem_fa 17) rfl rfl sc_taken (fun _ _ _ _ _ _ us hl => match us, hl with | [_, _, _], _ => rfl) (fun vs H Q E h => ?_) (fun cdv A outer s H vs Q E f hr h => ?_)
  · obtain ⟨G, k, ws, x, fl, b, ns, rfl, _⟩ := h
    rfl
  obtain ⟨G, k, ws, x, fl, b, ns, rfl, sG, hk, hf, hb, hn, ht, hp, hd, q⟩ := h
  refine ⟨_, (pss_cons (ps_set (i := 3) sc_taken.nd rfl (.inl rfl) (pe_c c_many_in hr (by omega) rfl (pa_cons (pv 0) (pa_cons (pv 1) pa_nil))))
      (pss_cons (ps_for PassesOwn.never rfl (pi_list (pv 2)) (pg_name (i := 4) sc_taken.nd rfl (.inl rfl)) (pss_one (ps_if (pt_not (pt_chain op_le op_lt pe_int (pv 4) (pv 3))) (pss_one ps_never) pss_nil)))
      (pss_one (ps_ret (pe_c c_chosen hr (Nat.le_refl _) rfl (pa_cons (pv 0) (pa_cons (pv 1) (pa_cons (pv 2) pa_nil)))))))), ?_⟩
  refine ⟨_, rfl, _, rfl, k, ws, x, fl, rfl, KRep.mono sG hk, FRep.mono sG hf, hd, ?_⟩
  refine ⟨_, rfl, b, rfl, ⟨_, SqL.of hb⟩, ?_⟩
  refine for_list (xs := ns.map nV) (fun i σ H' => ∃ y : Option V, σ = [some x, some fl, some (.ref b), some (nV ws.length), y] ∧ H' = H) ⟨none, rfl, rfl⟩ (fun i σ H' _ hv => ?_) (fun i v σ H' hx hv => ?_) fun σ H' hv => ?_
  · obtain ⟨y, _, rfl⟩ := hv
    exact SqL.of hb
  · obtain ⟨y, rfl, rfl⟩ := hv
    rw [List.getElem?_map] at hx
    cases hi : ns[i]? with
    | none =>
      rw [hi] at hx
      cases hx
    | some n =>
      rw [hi] at hx
      cases hx
      have hnl := hn n (List.mem_of_getElem? hi)
      refine ⟨_, rfl, _, _, rfl, rfl, _, rfl, ?_⟩
      rw [decide_eq_true (show (0 : Int) ≤ (n : Int) by omega)]
      refine iteT ⟨_, rfl, _, _, rfl, rfl, _, rfl, ?_⟩
      rw [decide_eq_true (show (n : Int) < (ws.length : Int) by omega)]
      exact iteF ⟨_, rfl, rfl⟩
  · obtain ⟨y, rfl, rfl⟩ := hv
    exact ⟨_, rfl, _, rfl, _, rfl, G, k, ws, x, fl, b, ns, rfl, sG, hk, hf, hb, hn, ht, hp, hd, q⟩
/-! ### first_ones -/
def spFirst (K : PySem.W.Frag) (d : Nat) : Sp := fun vs H Q _ => ∃ (G : Hp) (k : Kd) (ws : List (Ty k)) (x f : V) (m : Nat), vs = [x, f, nV m] ∧ Same G H ∧ KRep K G k x ∧ FRep G k ws f ∧ m ≤ ws.length ∧ tot k ws ≤ BIG ∧ k.dep ≤ d ∧
  ∀ (v : V) (G' H' : Hp), X0 G H G' H' → FRep G' k (ws.take m) v → Q v H'
abbrev N_first_ones : List PySem.Str := ["kind", "flat", "many"]
theorem sc_first_ones : FnScope N_first_ones ["kind", "flat", "many"] (defScope s_first_ones) := ⟨rfl, rfl, rfl, by decide +kernel, rfl, by decide +kernel, by decide +kernel⟩
theorem c_first_ones {d : Nat} (T : Txt K mg) (c_chosen : Cal P w K mg base (d + 3) "chosen" (spChosen K d) []) : Cal P w K mg base (d + 4) "first_ones" (spFirst K d) [] := by
  refine cal_of (d := d_first_ones) T (mem_fn 18) rfl (mem_fa 18) rfl rfl sc_first_ones (fun _ _ _ _ _ _ us hl => match us, hl with | [_, _, _], _ => rfl) (fun vs H Q E h => ?_) (fun cdv A outer s H vs Q E f hr h => ?_)
  · obtain ⟨G, k, ws, x, fl, m, rfl, _⟩ := h
    rfl
  obtain ⟨G, k, ws, x, fl, m, rfl, sG, hk, hf, hm, ht, hd, q⟩ := h
  refine ⟨_, (pss_one (ps_ret (pe_c c_chosen hr (Nat.le_refl _) rfl (pa_cons (pv 0) (pa_cons (pv 1) (pa_cons (pe_listRg rfl rfl T.list (prg_1 rfl T.range (pv 2))) pa_nil)))))), ?_⟩
  have b1 : BIG ≤ 16777216 := by decide
  have hz := len_tot k ws
  refine ⟨_, rfl, _, rfl, _, rfl, (m : Int), rfl, .of_le (by omega) (by omega) (by omega) (by omega), fun c nc => ?_⟩
  rw [rgV_range]
  have x1 : X0 G H G (upd H c (.lst ((List.range m).map nV))) := Xt.loc sG nc
  refine ⟨G, k, ws, x, fl, c, List.range m, rfl, x1.sub, hk, hf, upd_same, fun n hn => by have := List.mem_range.mp hn; omega, ht, ?_, hd, fun v G' H' x2 r => ?_⟩
  · rw [pk_range ws hm]
    exact Nat.le_trans (tot_take k m ws) ht
  · rw [pk_range ws hm] at r
    exact q v G' H' (x1.trans x2) r
/-! ### kept -/
def spKept (K : PySem.W.Frag) (d : Nat) : Sp := fun vs H Q _ => ∃ (G : Hp) (k : Kd) (ws : List (Ty k)) (x f : V) (b : Addr) (bs : List Bool), vs = [x, f, .ref b] ∧ Same G H ∧ KRep K G k x ∧ FRep G k ws f ∧ H b = some (.lst (bs.map V.bl)) ∧ bs.length = ws.length ∧
  tot k ws ≤ BIG ∧ tot k (pk ws (tru bs)) ≤ BIG ∧ k.dep ≤ d ∧ ∀ (v : V) (G' H' : Hp), X0 G H G' H' → FRep G' k (pk ws (tru bs)) v → Q v H'
abbrev N_kept_taking : List PySem.Str := ["kind", "flat", "truths", "number", "truth"]
theorem sc_kept_taking : FnScope N_kept_taking ["kind", "flat", "truths"] (defScope s_kept_taking) := ⟨rfl, rfl, rfl, by decide +kernel, rfl, by decide +kernel, by decide +kernel⟩
theorem c_kept_taking {d : Nat} (T : Txt K mg) (c_chosen : Cal P w K mg base (d + 3) "chosen" (spChosen K d) []) : Cal P w K mg base (d + 4) "kept_taking" (spKept K d) [] := by
  refine cal_of (d := d_kept_taking) T (mem_fn 56) rfl (mem_fa 56) rfl rfl sc_kept_taking (fun _ _ _ _ _ _ us hl => match us, hl with | [_, _, _], _ => rfl) (fun vs H Q E h => ?_) (fun cdv A outer s H vs Q E f hr h => ?_)
  · obtain ⟨G, k, ws, x, fl, b, bs, rfl, _⟩ := h
    rfl
  obtain ⟨G, k, ws, x, fl, b, bs, rfl, sG, hk, hf, hb, hl, ht, hp, hd, q⟩ := h
  have hz := len_tot k ws
  refine ⟨_, (pss_one (ps_ret (pe_c c_chosen hr (Nat.le_refl _) rfl (pa_cons (pv 0) (pa_cons (pv 1) (pa_cons (pe_lc (own := [("number", 3), ("truth", 4)]) rfl sc_kept_taking.nd (pi_enum rfl T.enumerate (pa_cons (pv 2) pa_nil)) (blkOk_by (N := N_kept_taking) (sc := defScope s_kept_taking) (by decide +kernel)) (fun _ _ _ _ _ => (g_tup (n := 2) rfl (pgs_cons (pg_name (i := 3) sc_kept_taking.nd rfl (.inl rfl)) (pgs_cons (pg_name (i := 4) sc_kept_taking.nd rfl (.inl rfl)) pgs_nil)))) (fun _ _ _ _ _ => pts_one (pt_val (pv 4))) (fun _ _ _ _ _ => (pv 3))) pa_nil)))))), ?_⟩
  refine ⟨_, rfl, _, rfl, _, rfl, b, _, rfl, SqL.of hb, fun D nD => ?_⟩
  have hlb : (bs.map V.bl).length = bs.length := List.length_map _
  refine lc_gen (M := No) (G1 := G) (walk_enum (xs := bs.map V.bl)) (fun i acc G' _ => G' = G ∧ acc = (trs bs i).map nV) sG (fun _ z => z.elim) nD ⟨rfl, rfl⟩ (fun i acc G' H' o z _ => z) (fun i acc G' H' e _ _ => SqL.of (e.same _ _ hb)) (fun i acc v G' H' H'' Nx hi e hD gD hI hY k1 k2 => ?_) fun acc G' H' e hD gD hI => ?_
  · obtain ⟨rfl, rfl⟩ := hI
    obtain ⟨u, y, z, rfl, nu, rfl, h1, h2⟩ := hY
    cases h1
    have h2 : (bs.map V.bl)[i]? = some z := h2
    rw [List.getElem?_map] at h2
    have x1 : X0 G' H' G' (upd H' u (.tup [.int (i : Nat), z])) := Xt.loc e.sub nu
    refine g_pair rfl upd_same ⟨rfl, _, rfl, ?_⟩
    cases hb2 : bs[i]? with
    | none =>
      rw [hb2] at h2
      cases h2
    | some t =>
      rw [hb2] at h2
      cases h2
      refine ⟨t, rfl, ?_⟩
      cases t with
      | true =>
        refine iteT ⟨_, rfl, k1 _ G' _ x1 ?_ ⟨rfl, ?_⟩⟩
        · rw [List.length_map]
          have := trs_len bs i
          exact big_lt (by omega)
        · rw [trs_yes hb2, List.map_append]
          rfl
      | false =>
        refine iteF (k2 G' _ x1 ⟨rfl, ?_⟩)
        rw [trs_no hb2]
  · obtain ⟨rfl, rfl⟩ := hI
    rw [hlb] at hD
    refine ⟨G', k, ws, x, fl, D, tru bs, rfl, e.sub, hk, hf, hD, fun n hn => by have := trs_lt bs bs.length n hn; omega, ht, hp, hd, fun v G2 H2 x2 r => q v G2 H2 (e.trans x2) r⟩
/-! ### behind -/
def spBehind (K : PySem.W.Frag) (d : Nat) : Sp := fun vs H Q _ => ∃ (G : Hp) (k : Kd) (ws us : List (Ty k)) (x f g : V), vs = [x, f, g] ∧ Same G H ∧ KRep K G k x ∧ FRep G k ws f ∧ FRep G k us g ∧ tot k ws + tot k us ≤ BIG ∧ k.dep ≤ d ∧
  ∀ (v : V) (G' H' : Hp), X0 G H G' H' → FRep G' k (ws ++ us) v → Q v H'
abbrev N_behind_taking : List PySem.Str := ["kind", "one", "other"]
theorem sc_behind_taking : FnScope N_behind_taking ["kind", "one", "other"] (defScope s_behind_taking) := ⟨rfl, rfl, rfl, by decide +kernel, rfl, by decide +kernel, by decide +kernel⟩
theorem c_behind_taking1 {d : Nat} (T : Txt K mg) (c_behind_taking : ∀ d', d = d' + 1 → Cal P w K mg base d "behind_taking" (spBehind K d') []) : Cal P w K mg base (d + 1) "behind_taking" (spBehind K d) [] := by
  refine cal_of (d := d_behind_taking) T (mem_fn 55) rfl (mem_fa 55) rfl rfl sc_behind_taking (fun _ _ _ _ _ _ us hl => match us, hl with | [_, _, _], _ => rfl) (fun vs H Q E h => ?_) (fun cdv A outer s H vs Q E f hr h => ?_)
  · obtain ⟨G, k, ws, us, x, fl, gl, rfl, _⟩ := h
    rfl
  obtain ⟨G, k, ws, us, x, fl, gl, rfl, sG, hk, hf, hg, ht, hd, q⟩ := h
  obtain ⟨d', rfl⟩ : ∃ d', d = d' + 1 := ⟨d - 1, by have := kd_pos k; omega⟩
  have c_behind_taking := c_behind_taking d' rfl
  have z1 := len_tot k ws
  have z2 := len_tot k us
  refine ⟨_, (pss_cons (ps_if (pt_cmpR op_eq (pe_ix i_tup (pv 0) pe_int (fun _ _ => rfl)) pe_str (nomark _)) (pss_one (ps_ret (pe_tup (pa_cons (pe_c c_behind_taking hr (Nat.le_refl _) rfl (pa_cons (pe_ix i_tup (pv 0) pe_int (fun _ _ => rfl)) (pa_cons (pe_ix i_tup (pv 1) pe_int (fun _ _ => rfl)) (pa_cons (pe_ix i_tup (pv 2) pe_int (fun _ _ => rfl)) pa_nil)))) (pa_cons (pe_c c_behind_taking hr (Nat.le_refl _) rfl (pa_cons (pe_ix i_tup (pv 0) pe_int (fun _ _ => rfl)) (pa_cons (pe_ix i_tup (pv 1) pe_int (fun _ _ => rfl)) (pa_cons (pe_ix i_tup (pv 2) pe_int (fun _ _ => rfl)) pa_nil)))) pa_nil))))) pss_nil)
      (pss_cons (ps_if (pt_cmpR op_eq (pe_ix i_tup (pv 0) pe_int (fun _ _ => rfl)) pe_str (nomark _)) (pss_one (ps_ret (pe_tup (pa_cons (pe_op op_cat (pe_ix i_tup (pv 1) pe_int (fun _ _ => rfl)) (pe_ix i_tup (pv 2) pe_int (fun _ _ => rfl))) (pa_cons (pe_c c_behind_taking hr (Nat.le_refl _) rfl (pa_cons (pe_ix i_tup (pv 0) pe_int (fun _ _ => rfl)) (pa_cons (pe_ix i_tup (pv 1) pe_int (fun _ _ => rfl)) (pa_cons (pe_ix i_tup (pv 2) pe_int (fun _ _ => rfl)) pa_nil)))) pa_nil))))) pss_nil)
      (pss_one (ps_ret (pe_op op_cat (pv 1) (pv 2)))))), ?_⟩
  cases k with
  | num =>
    obtain ⟨a, rfl, ga⟩ := hf
    obtain ⟨b, rfl, gb⟩ := hg
    refine sq_no (a_kind hk sG rfl rfl) (sq_no (a_kind hk sG rfl rfl) ?_)
    refine ⟨_, rfl, _, rfl, a, b, _, _, rfl, rfl, sG _ _ ga, sG _ _ gb, by rw [List.length_map, List.length_map]; exact big_le (by omega), fun p np => ?_⟩
    refine q _ _ _ (Xt.new sG np) ⟨p, rfl, ?_⟩
    rw [upd_same, List.map_append]
  | truth =>
    obtain ⟨a, rfl, ga⟩ := hf
    obtain ⟨b, rfl, gb⟩ := hg
    refine sq_no (a_kind hk sG rfl rfl) (sq_no (a_kind hk sG rfl rfl) ?_)
    refine ⟨_, rfl, _, rfl, a, b, _, _, rfl, rfl, sG _ _ ga, sG _ _ gb, by rw [List.length_map, List.length_map]; exact big_le (by omega), fun p np => ?_⟩
    refine q _ _ _ (Xt.new sG np) ⟨p, rfl, ?_⟩
    rw [upd_same, List.map_append]
  | pair k l =>
    refine sq_yes (a_kind hk sG rfl rfl) ?_
    obtain ⟨ka, kx, ky, rfl, sk, k1, k2⟩ := hk
    obtain ⟨a, fx, fy, rfl, ga, f1, f2⟩ := hf
    obtain ⟨b, gx, gy, rfl, gb, g1, g2⟩ := hg
    have hdd : max k.dep l.dep + 1 ≤ d' + 1 := hd
    have t1 := tot_pair k l ws
    have t2 := tot_pair k l us
    refine ⟨_, rfl, ka, _, 1, _, rfl, rfl, sameT sG sk, atI_nat (j := 1) rfl, _, rfl, a, _, 0, _, rfl, rfl, SqT.of (sG _ _ ga), atI_nat (j := 0) rfl, _, rfl, b, _, 0, _, rfl, rfl, SqT.of (sG _ _ gb), atI_nat (j := 0) rfl, ?_⟩
    refine ⟨G, k, ws.map Prod.fst, us.map Prod.fst, kx, fx, gx, rfl, sG, k1, f1, g1, by omega, by omega, fun v1 G1 H1 x1 r1 => ?_⟩
    have s1 := sG.trans x1.same
    refine ⟨_, rfl, ka, _, 2, _, rfl, rfl, sameT s1 sk, atI_nat (j := 2) rfl, _, rfl, a, _, 1, _, rfl, rfl, SqT.of (s1 _ _ ga), atI_nat (j := 1) rfl, _, rfl, b, _, 1, _, rfl, rfl, SqT.of (s1 _ _ gb), atI_nat (j := 1) rfl, ?_⟩
    refine ⟨G1, l, ws.map Prod.snd, us.map Prod.snd, ky, fy, gy, rfl, x1.sub, KRep.mono x1.g k2, FRep.mono x1.g f2, FRep.mono x1.g g2, by omega, by omega, fun v2 G2 H2 x2 r2 => ?_⟩
    refine ⟨by show 2 ≤ sizeLine; decide, fun t nt => ?_⟩
    have x5 : X0 G2 H2 (upd G2 t (.tup [v1, v2])) (upd H2 t (.tup [v1, v2])) := Xt.new x2.sub nt
    rw [← List.map_append] at r1 r2
    exact q _ _ _ ((x1.trans x2).trans x5) ⟨t, v1, v2, rfl, upd_same, FRep.mono (x2.g.trans x5.g) r1, FRep.mono x5.g r2⟩
  | row k =>
    refine sq_no (a_kind hk sG rfl rfl) (sq_yes (a_kind hk sG rfl rfl) ?_)
    obtain ⟨ka, kx, rfl, sk, k1⟩ := hk
    obtain ⟨a, c, fy, rfl, ga, gc, f1⟩ := hf
    obtain ⟨b, e, gy, rfl, gb, ge, g1⟩ := hg
    have hdd : k.dep + 1 ≤ d' + 1 := hd
    have t1 := tot_row k ws
    have t2 := tot_row k us
    refine ⟨_, rfl, a, _, 0, _, rfl, rfl, SqT.of (sG _ _ ga), atI_nat (j := 0) rfl, _, rfl, b, _, 0, _, rfl, rfl, SqT.of (sG _ _ gb), atI_nat (j := 0) rfl, ?_⟩
    refine ⟨c, e, _, _, rfl, rfl, sG _ _ gc, sG _ _ ge, by rw [List.length_map, List.length_map]; exact big_le (by omega), fun p np => ?_⟩
    have x1 := Xt.new (M := No) (o := .lst (ws.map (fun r => V.int (r.length : Nat)) ++ us.map (fun r => V.int (r.length : Nat)))) sG np
    have s1 := sG.trans x1.same
    refine ⟨_, rfl, ka, _, 1, _, rfl, rfl, sameT s1 sk, atI_nat (j := 1) rfl, _, rfl, a, _, 1, _, rfl, rfl, SqT.of (s1 _ _ ga), atI_nat (j := 1) rfl, _, rfl, b, _, 1, _, rfl, rfl, SqT.of (s1 _ _ gb), atI_nat (j := 1) rfl, ?_⟩
    refine ⟨_, k, ws.flatten, us.flatten, kx, fy, gy, rfl, x1.sub, KRep.mono x1.g k1, FRep.mono x1.g f1, FRep.mono x1.g g1, by omega, by omega, fun v G3 H3 x3 r => ?_⟩
    refine ⟨by show 2 ≤ sizeLine; decide, fun t nt => ?_⟩
    have x5 : X0 G3 H3 (upd G3 t (.tup [.ref p, v])) (upd H3 t (.tup [.ref p, v])) := Xt.new x3.sub nt
    rw [← List.flatten_append] at r
    refine q _ _ _ ((x1.trans x3).trans x5) ⟨t, p, v, rfl, upd_same, x5.g _ _ (x3.g _ _ ?_), FRep.mono x5.g r⟩
    rw [upd_same, List.map_append]
theorem c_behind_taking (T : Txt K mg) : ∀ d, Cal P w K mg base (d + 1) "behind_taking" (spBehind K d) []
  | 0 => c_behind_taking1 T fun _ h => nomatch h
  | d + 1 => c_behind_taking1 T fun d' h => by
    cases h
    exact c_behind_taking T d
end
end Bw
namespace Bw
open PySem PySem.Spec PyProof.Rows L2
open C8 (Cal pe_c)
/-! ### words, signs -/
def wV : Option Str → V
  | none => .non
  | some z => .str z
def grW (i : Int) : Option Str := if inB i = true then none else some "great"
def farW (i : Int) : Option Str := if (decide (0 ≤ i) && decide (i ≤ 200)) = true then none else some "far"
def sumOk : Int → List Int → Bool
  | _, [] => true
  | a, x :: r => inB (a + x) && sumOk (a + x) r
def aheads : Int → List Int → List Int
  | _, [] => []
  | a, x :: r => a :: aheads (a + x) r
def maxL : List Int → Int
  | [] => 0
  | x :: r => r.foldl max x
def cutL {α : Type} : List α → List Int → List (List α)
  | _, [] => []
  | xs, n :: ns => xs.take n.toNat :: cutL (xs.drop n.toNat) ns
def cutOk (long : Nat) (ns : List Int) : Bool := (ns.all fun n => decide (0 ≤ n)) && decide (ns.sum = (long : Int))
def dflt : (k : Kd) → Ty k
  | .num => (0 : Int)
  | .truth => false
  | .pair k l => (dflt k, dflt l)
  | .row _ => []
inductive Sg where
  | not | first (k l : Kd) | second (k l : Kd) | one (k : Kd) | upto | long (k : Kd) | sum | sums | most | flat (k : Kd)
  | add | sub | mul | div | rest | less | sameN | sameT | both | pair (k l : Kd) | pick (k : Kd) | join (k : Kd) | keep (k : Kd) | cut (k : Kd)
def Sg.nm : Sg → Str
  | .not => "not" | .first _ _ => "first" | .second _ _ => "second" | .one _ => "one" | .upto => "upto" | .long _ => "long" | .sum => "sum" | .sums => "sums" | .most => "most" | .flat _ => "flat"
  | .add => "add" | .sub => "sub" | .mul => "mul" | .div => "div" | .rest => "rest" | .less => "less" | .sameN => "same" | .sameT => "same" | .both => "both" | .pair _ _ => "pair" | .pick _ => "pick" | .join _ => "join" | .keep _ => "keep" | .cut _ => "cut"
@[reducible] def Sg.ks : Sg → List Kd
  | .not => [.truth] | .first k l => [.pair k l] | .second k l => [.pair k l] | .one k => [k] | .upto => [.num] | .long k => [.row k] | .sum => [.row .num] | .sums => [.row .num] | .most => [.row .num] | .flat k => [.row (.row k)]
  | .add => [.num, .num] | .sub => [.num, .num] | .mul => [.num, .num] | .div => [.num, .num] | .rest => [.num, .num] | .less => [.num, .num] | .sameN => [.num, .num] | .sameT => [.truth, .truth] | .both => [.truth, .truth]
  | .pair k l => [k, l] | .pick k => [.row k, .num] | .join k => [.row k, .row k] | .keep k => [.row k, .row .truth] | .cut k => [.row k, .row .num]
@[reducible] def Sg.res : Sg → Kd
  | .not => .truth | .first k _ => k | .second _ l => l | .one k => .row k | .upto => .row .num | .long _ => .num | .sum => .num | .sums => .row .num | .most => .num | .flat k => .row k
  | .add => .num | .sub => .num | .mul => .num | .div => .num | .rest => .num | .less => .truth | .sameN => .truth | .sameT => .truth | .both => .truth
  | .pair k l => .pair k l | .pick k => k | .join k => .row k | .keep k => .row k | .cut k => .row (.row k)
@[reducible] def Tys : List Kd → Type
  | [] => Unit
  | k :: ks => Ty k × Tys ks
def pickW (i : Int) (n : Nat) : Option Str := if (decide (0 ≤ i) && decide (i < (n : Int))) = true then none else some "beyond"
def Sg.wd : (s : Sg) → Tys s.ks → Option Str
  | .not, _ => none
  | .first _ _, _ => none
  | .second _ _, _ => none
  | .one _, _ => none
  | .upto, t => farW t.1
  | .long _, _ => none
  | .sum, t => if sumOk 0 t.1 = true then none else some "great"
  | .sums, t => if sumOk 0 t.1 = true then none else some "great"
  | .most, t => if (t.1 : List Int).length = 0 then some "empty" else none
  | .flat k, t => farW ((List.flatten t.1).length : Nat)
  | .add, t => grW ((t.1 : Int) + (t.2.1 : Int))
  | .sub, t => grW ((t.1 : Int) - (t.2.1 : Int))
  | .mul, t => grW ((t.1 : Int) * (t.2.1 : Int))
  | .div, t => if (t.2.1 : Int) = 0 then some "nought" else none
  | .rest, t => if (t.2.1 : Int) = 0 then some "nought" else none
  | .less, _ => none
  | .sameN, _ => none
  | .sameT, _ => none
  | .both, _ => none
  | .pair _ _, _ => none
  | .pick k, t => pickW t.2.1 (List.length t.1)
  | .join k, t => farW (((List.length t.1 : Nat) : Int) + ((List.length t.2.1 : Nat) : Int))
  | .keep k, t => if List.length t.1 = List.length t.2.1 then none else some "unlike"
  | .cut k, t => if cutOk (List.length t.1) t.2.1 = true then none else some "unlike"
def Sg.vl : (s : Sg) → Tys s.ks → Ty s.res
  | .not, t => !(t.1 : Bool)
  | .first _ _, t => t.1.1
  | .second _ _, t => t.1.2
  | .one _, t => [t.1]
  | .upto, t => (List.range (Int.toNat t.1)).map Int.ofNat
  | .long _, t => ((List.length t.1 : Nat) : Int)
  | .sum, t => List.sum (t.1 : List Int)
  | .sums, t => aheads 0 t.1
  | .most, t => maxL t.1
  | .flat k, t => List.flatten t.1
  | .add, t => (t.1 : Int) + (t.2.1 : Int)
  | .sub, t => (t.1 : Int) - (t.2.1 : Int)
  | .mul, t => (t.1 : Int) * (t.2.1 : Int)
  | .div, t => Int.fdiv t.1 t.2.1
  | .rest, t => Int.fmod t.1 t.2.1
  | .less, t => decide ((t.1 : Int) < (t.2.1 : Int))
  | .sameN, t => decide ((t.1 : Int) = (t.2.1 : Int))
  | .sameT, t => decide ((t.1 : Bool) = (t.2.1 : Bool))
  | .both, t => (t.1 : Bool) && (t.2.1 : Bool)
  | .pair _ _, t => (t.1, t.2.1)
  | .pick k, t => List.getD t.1 (Int.toNat t.2.1) (dflt k)
  | .join k, t => List.append t.1 t.2.1
  | .keep k, t => pk t.1 (tru t.2.1)
  | .cut k, t => cutL t.1 t.2.1
/-! ### several flats -/
def FReps (G : Hp) : (ks : List Kd) → List (Tys ks) → List V → Prop
  | [], _, fs => fs = []
  | k :: ks, ts, fs => ∃ f r, fs = f :: r ∧ FRep G k (ts.map Prod.fst) f ∧ FReps G ks (ts.map Prod.snd) r
def tots : (ks : List Kd) → List (Tys ks) → Nat
  | [], _ => 0
  | k :: ks, ts => tot k (ts.map Prod.fst) + tots ks (ts.map Prod.snd)
theorem FReps.mono {G G' : Hp} (e : Same G G') : ∀ {ks : List Kd} {ts : List (Tys ks)} {fs : List V}, FReps G ks ts fs → FReps G' ks ts fs
  | [], _, _, h => h
  | _ :: _, _, _, ⟨f, r, h, h1, h2⟩ => ⟨f, r, h, FRep.mono e h1, FReps.mono e h2⟩
def NB : (k : Kd) → Ty k → Prop
  | .num, i => -1000000000000000000 ≤ (i : Int) ∧ (i : Int) ≤ 1000000000000000000
  | _, _ => True
def NBs : (ks : List Kd) → Tys ks → Prop
  | [], _ => True
  | k :: ks, t => NB k t.1 ∧ NBs ks t.2
theorem zw {α β γ δ : Type} (f : α → β → γ) (g : δ → α) (h : δ → β) : ∀ ts : List δ, List.zipWith f (ts.map g) (ts.map h) = ts.map fun t => f (g t) (h t)
  | [] => rfl
  | t :: ts => by rw [List.map_cons, List.map_cons, List.zipWith_cons_cons, zw f g h ts, List.map_cons]
section
variable {K : PySem.W.Frag} {σ : L2.St} {H : Hp} {i : Nat} {b : Bool}
/-- a sign in a written tuple of signs -/
theorem a_inS {z : Str} {zs : List Str} {t : TA} (hσ : σ[i]? = some (some (.str z))) (ht : ∀ Q, Q (zs.map V.str) H → t σ H Q) (hl : zs.length ≤ 100) (hb : inV (.str z) (zs.map V.str) = b) : AnS (tTest (tOp (rIn K false) (tVar i) (tTup t))) σ H b := by
  intro Q q
  refine ⟨_, hσ, ?_⟩
  refine ht _ ⟨by rw [List.length_map]; exact Nat.le_trans hl (by decide), fun p np => ?_⟩
  refine ⟨p, zs.map V.str, rfl, .inr (SqT.of upd_same), rfl, ?_, b, ?_, q _ (same_upd np)⟩
  · refine List.all_eq_true.mpr fun x hx => ?_
    obtain ⟨y, _, rfl⟩ := List.mem_map.mp hx
    rfl
  · show V.bl (if false = true then !inV (.str z) (zs.map V.str) else inV (.str z) (zs.map V.str)) = V.bl b
    rw [if_neg Bool.false_ne_true, hb]
end
/-! ### division by any number that is not nought -/
def CDivX (_ j : Int) : Prop := j ≠ 0 ∧ -1000000000000000000 ≤ j ∧ j ≤ 1000000000000000000
theorem op_fdivX {X : Cx} : OpR X (binaryOp .FloorDiv) (rI CDivX fun i j => .int (i.fdiv j)) := opI fun i j _ _ _ _ _ hc q => by
  have h0 : j ≠ 0 := hc.1
  have h1 : j.natAbs < 2 ^ 60 := by
    have e1 := hc.2.1
    have e2 := hc.2.2
    have e3 : (2 : Nat) ^ 60 = 1152921504606846976 := by decide
    omega
  exact floordiv_int h0 q (.inl (PyProof.noPylong_of_log2 (Nat.lt_trans (PySem.Flt.log2_lt_of (by decide) h1) (by decide))))
section
variable {P : Program} {w : World} {K : PySem.W.Frag} {mg : Str → Option Value} {base : Heap}
/-! ### reckoned -/
inductive Ar where
  | add | sub | mul | div | rest
def Ar.nm : Ar → Str
  | .add => "add" | .sub => "sub" | .mul => "mul" | .div => "div" | .rest => "rest"
def Ar.f : Ar → Int → Int → Int
  | .add, i, j => i + j
  | .sub, i, j => i - j
  | .mul, i, j => i * j
  | .div, i, j => i.fdiv j
  | .rest, i, j => i.fmod j
def Ar.ok : Ar → Int → Int → Prop
  | .add, _, _ => True
  | .sub, _, _ => True
  | .mul, i, _ => -1000000000000000000 ≤ i ∧ i ≤ 1000000000000000000
  | .div, _, j => j ≠ 0 ∧ -1000000000000000000 ≤ j ∧ j ≤ 1000000000000000000
  | .rest, _, j => j ≠ 0 ∧ -1000000000000000000 ≤ j ∧ j ≤ 1000000000000000000
def spReck : Sp := fun vs H Q _ => ∃ (s : Ar) (a b : Addr) (xs ys : List Int), vs = [.str s.nm, .ref a, .ref b] ∧ H a = some (.lst (xs.map V.int)) ∧ H b = some (.lst (ys.map V.int)) ∧ xs.length = ys.length ∧ xs.length ≤ BIG ∧
  (∀ (i : Nat) (x y : Int), xs[i]? = some x → ys[i]? = some y → s.ok x y) ∧ ∀ p H', Same H H' → H p = none → H' p = some (.lst ((List.zipWith s.f xs ys).map V.int)) → Q (.ref p) H'
abbrev N_reckoned_stops : List PySem.Str := ["sign", "ones", "others", "found", "one", "other"]
theorem sc_reckoned_stops : FnScope N_reckoned_stops ["sign", "ones", "others"] (defScope s_reckoned_stops) := ⟨rfl, rfl, rfl, by decide +kernel, rfl, by decide +kernel, by decide +kernel⟩
theorem zw_take {xs ys : List Int} {f : Int → Int → Int} {i : Nat} {x y : Int} (h1 : xs[i]? = some x) (h2 : ys[i]? = some y) : ((List.zipWith f xs ys).take (i + 1)).map V.int = ((List.zipWith f xs ys).take i).map V.int ++ [V.int (f x y)] := by
  have e : (List.zipWith f xs ys)[i]? = some (f x y) := by rw [List.getElem?_zipWith, h1, h2]
  rw [take_next e, List.map_append]
  rfl
theorem map_some {α β : Type} {f : α → β} {xs : List α} {i : Nat} {v : β} (h : (xs.map f)[i]? = some v) : ∃ x, xs[i]? = some x ∧ v = f x := by
  rw [List.getElem?_map] at h
  cases e : xs[i]? with
  | none =>
    rw [e] at h
    cases h
  | some x =>
    rw [e] at h
    cases h
    exact ⟨x, rfl, rfl⟩
theorem c_reckoned_stops (T : Txt K mg) : Cal P w K mg base 1 "reckoned_stops" spReck [] := by
  refine cal_of (d := d_reckoned_stops) T (mem_fn 54) rfl (mem_fa 54) rfl rfl sc_reckoned_stops (fun _ _ _ _ _ _ us hl => match us, hl with | [_, _, _], _ => rfl) (fun vs H Q E h => ?_) (fun cdv A outer s H vs Q E f hr h => ?_)
  · obtain ⟨s, a, b, xs, ys, rfl, _⟩ := h
    rfl
  obtain ⟨sg, a, b, xs, ys, rfl, ha, hb, hl, hz, hok, q⟩ := h
  refine ⟨_, (pss_cons (ps_set (i := 3) sc_reckoned_stops.nd rfl (.inl rfl) (pe_lst pa_nil))
      (pss_cons (ps_for PassesOwn.never rfl (pi_zip rfl T.zip (pa_cons (pv 1) (pa_cons (pv 2) pa_nil))) (g_tup (n := 2) rfl (pgs_cons (pg_name (i := 4) sc_reckoned_stops.nd rfl (.inl rfl)) (pgs_cons (pg_name (i := 5) sc_reckoned_stops.nd rfl (.inl rfl)) pgs_nil))) (pss_one (ps_if (pt_cmpR op_eq (pv 0) pe_str (nomark _)) (pss_one (ps_expr (pe_bm PySem.F.plainAttrs_list PySem.F.slot_list_append PySem.F.type_list_append mt_append (pv 3) (pa_cons (pe_op op_add (pv 4) (pv 5)) pa_nil)))) (pss_one (ps_if (pt_cmpR op_eq (pv 0) pe_str (nomark _)) (pss_one (ps_expr (pe_bm PySem.F.plainAttrs_list PySem.F.slot_list_append PySem.F.type_list_append mt_append (pv 3) (pa_cons (pe_op op_sub (pv 4) (pv 5)) pa_nil)))) (pss_one (ps_if (pt_cmpR op_eq (pv 0) pe_str (nomark _)) (pss_one (ps_expr (pe_bm PySem.F.plainAttrs_list PySem.F.slot_list_append PySem.F.type_list_append mt_append (pv 3) (pa_cons (pe_op op_mul (pv 4) (pv 5)) pa_nil)))) (pss_one (ps_if (pt_cmpR op_eq (pv 0) pe_str (nomark _)) (pss_one (ps_expr (pe_bm PySem.F.plainAttrs_list PySem.F.slot_list_append PySem.F.type_list_append mt_append (pv 3) (pa_cons (pe_op op_fdivX (pv 4) (pv 5)) pa_nil)))) (pss_one (ps_expr (pe_bm PySem.F.plainAttrs_list PySem.F.slot_list_append PySem.F.type_list_append mt_append (pv 3) (pa_cons (pe_op op_modN (pv 4) (pv 5)) pa_nil)))))))))))))
      (pss_one (ps_ret (pv 3))))), ?_⟩
  refine ⟨Nat.zero_le _, fun p np => ?_⟩
  have e0 : Same H (upd H p (.lst [])) := same_upd np
  refine ⟨_, rfl, _, rfl, a, b, _, _, rfl, SqL.of (e0 _ _ ha), SqL.of (e0 _ _ hb), ?_⟩
  refine for_it (walk_zip (xs := xs.map V.int) (ys := ys.map V.int) (n := xs.length) (by rw [List.length_map, List.length_map, ← hl, Nat.min_self])) (fun i σ H' => ∃ y1 y2 : Option V, σ = [some (.str sg.nm), some (.ref a), some (.ref b), some (.ref p), y1, y2] ∧ Same H H' ∧ H' p = some (.lst (((List.zipWith sg.f xs ys).take i).map V.int)))
    ⟨none, none, rfl, e0, upd_same⟩ (fun i σ H' _ hv => ?_) (fun i v σ H' H'' hi hv hY => ?_) fun σ H' hv => ?_
  · obtain ⟨y1, y2, _, e, _⟩ := hv
    exact ⟨SqL.of (e _ _ ha), SqL.of (e _ _ hb)⟩
  · obtain ⟨y1, y2, rfl, e, hp⟩ := hv
    obtain ⟨u, v1, v2, rfl, nu, rfl, h1, h2⟩ := hY
    have h1 : (xs.map V.int)[i]? = some v1 := h1
    have h2 : (ys.map V.int)[i]? = some v2 := h2
    obtain ⟨x, hx, rfl⟩ := map_some h1
    obtain ⟨y, hy, rfl⟩ := map_some h2
    have ok := hok i x y hx hy
    have npu : p ≠ u := fun z => by
      rw [← z, hp] at nu
      cases nu
    have hpu : upd H' u (.tup [.int x, .int y]) p = some (.lst (((List.zipWith sg.f xs ys).take i).map V.int)) := by rw [upd_ne npu]; exact hp
    have e2 : Same H (upd H' u (.tup [.int x, .int y])) := e.trans (same_upd nu)
    have hz2 : (((List.zipWith sg.f xs ys).take i).map V.int).length < sizeLine := by
      rw [List.length_map, List.length_take]
      exact big_lt (by omega)
    refine g_pair rfl upd_same ?_
    have fin : ∀ z : Int, z = sg.f x y → (∃ y1 y2 : Option V, [some (V.str sg.nm), some (.ref a), some (.ref b), some (.ref p), some (.int x), some (.int y)] = [some (.str sg.nm), some (.ref a), some (.ref b), some (.ref p), y1, y2] ∧
        Same H (upd (upd H' u (.tup [.int x, .int y])) p (.lst (((List.zipWith sg.f xs ys).take i).map V.int ++ [.int z]))) ∧ upd (upd H' u (.tup [.int x, .int y])) p (.lst (((List.zipWith sg.f xs ys).take i).map V.int ++ [.int z])) p = some (.lst (((List.zipWith sg.f xs ys).take (i + 1)).map V.int))) := fun z ez => by
      refine ⟨_, _, rfl, same_set e2 np, ?_⟩
      rw [upd_same, zw_take hx hy, ez]
    cases sg with
    | add =>
      refine if_yes (a_sg rfl rfl) ?_
      exact ⟨_, rfl, .inl ⟨rfl, _, SqL.of hpu⟩, _, rfl, _, rfl, _, _, rfl, rfl, p, _, _, rfl, rfl, hpu, hz2, fin _ rfl⟩
    | sub =>
      refine if_no (a_sg rfl rfl) (if_yes (a_sg rfl rfl) ?_)
      exact ⟨_, rfl, .inl ⟨rfl, _, SqL.of hpu⟩, _, rfl, _, rfl, _, _, rfl, rfl, p, _, _, rfl, rfl, hpu, hz2, fin _ rfl⟩
    | mul =>
      refine if_no (a_sg rfl rfl) (if_no (a_sg rfl rfl) (if_yes (a_sg rfl rfl) ?_))
      refine ⟨_, rfl, .inl ⟨rfl, _, SqL.of hpu⟩, _, rfl, _, rfl, _, _, rfl, rfl, .inl ?_, p, _, _, rfl, rfl, hpu, hz2, fin _ rfl⟩
      have h3 : -1000000000000000000 ≤ x ∧ x ≤ 1000000000000000000 := ok
      omega
    | div =>
      refine if_no (a_sg rfl rfl) (if_no (a_sg rfl rfl) (if_no (a_sg rfl rfl) (if_yes (a_sg rfl rfl) ?_)))
      exact ⟨_, rfl, .inl ⟨rfl, _, SqL.of hpu⟩, _, rfl, _, rfl, _, _, rfl, rfl, ok, p, _, _, rfl, rfl, hpu, hz2, fin _ rfl⟩
    | rest =>
      refine if_no (a_sg rfl rfl) (if_no (a_sg rfl rfl) (if_no (a_sg rfl rfl) (if_no (a_sg rfl rfl) ?_)))
      exact ⟨_, rfl, .inl ⟨rfl, _, SqL.of hpu⟩, _, rfl, _, rfl, _, _, rfl, rfl, ok.1, p, _, _, rfl, rfl, hpu, hz2, fin _ rfl⟩
  · obtain ⟨y1, y2, rfl, e, hp⟩ := hv
    rw [List.take_of_length_le (by rw [List.length_zipWith]; omega)] at hp
    exact ⟨_, rfl, q p H' e np hp⟩
/-! ### far_words -/
def farM (most i : Int) : Option Str := if (decide (0 ≤ i) && decide (i ≤ most)) = true then none else some "far"
def spFarWords : Sp := fun vs H Q _ => ∃ (a : Addr) (xs : List Int) (m : Int), vs = [.ref a, .int m] ∧ H a = some (.lst (xs.map V.int)) ∧ xs.length ≤ BIG ∧ ∀ p H', Same H H' → H p = none → H' p = some (.lst (xs.map fun x => wV (farM m x))) → Q (.ref p) H'
abbrev N_far_words : List PySem.Str := ["numbers", "most", "number"]
theorem sc_far_words : FnScope N_far_words ["numbers", "most"] (defScope s_far_words) := ⟨rfl, rfl, rfl, by decide +kernel, rfl, by decide +kernel, by decide +kernel⟩
theorem c_far_words (T : Txt K mg) : Cal P w K mg base 1 "far_words" spFarWords [] := by
  refine cal_of (d := d_far_words) T (mem_fn 8) rfl (mem_fa 8) rfl rfl sc_far_words (fun _ _ _ _ _ _ us hl => match us, hl with | [_, _], _ => rfl) (fun vs H Q E h => ?_) (fun cdv A outer s H vs Q E f hr h => ?_)
  · obtain ⟨a, xs, m, rfl, _⟩ := h
    rfl
  obtain ⟨a, xs, m, rfl, ha, hz, q⟩ := h
  refine ⟨_, (pss_one (ps_ret (pe_lc (own := [("number", 2)]) rfl sc_far_words.nd (pi_list (pv 0)) (blkOk_by (N := N_far_words) (sc := defScope s_far_words) (by decide +kernel)) (fun _ _ _ _ _ => (pg_name (i := 2) sc_far_words.nd rfl (.inl rfl))) (fun _ _ _ _ _ => pts_nil) (fun _ _ _ _ _ => (pe_ifExp (pt_chain op_le op_le pe_int (pv 2) (pv 1)) pe_non pe_str))))), ?_⟩
  refine ⟨_, rfl, a, rfl, ⟨_, SqL.of ha⟩, fun D nD => ?_⟩
  refine lc_mapL (SqL.of ha) (xs.map fun x => wV (farM m x)) (by rw [List.length_map, List.length_map]) (by rw [List.length_map]; exact hz) nD (fun _ => rfl) (fun i v y Hc KK hv hy e kk => ?_) fun H1 e hD => q D H1 e nD hD
  obtain ⟨x, hx, rfl⟩ := map_some hv
  obtain ⟨x', hx', rfl⟩ := map_some hy
  rw [hx] at hx'
  cases hx'
  have kk := kk _ (Same.refl _)
  unfold farM at kk
  refine ⟨_, rfl, _, _, rfl, rfl, _, rfl, ?_⟩
  cases h0 : decide (0 ≤ x) with
  | false =>
    rw [h0] at kk
    exact iteF ⟨false, rfl, iteF kk⟩
  | true =>
    rw [h0] at kk
    refine iteT ⟨_, rfl, _, _, rfl, rfl, _, rfl, ?_⟩
    cases h1 : decide (x ≤ m) with
    | false =>
      rw [h1] at kk
      exact iteF kk
    | true =>
      rw [h1] at kk
      exact iteT kk
/-! ### sum_word -/
def spSumWord : Sp := fun vs H Q _ => ∃ (a : Addr) (xs : List Int), vs = [.ref a] ∧ H a = some (.lst (xs.map V.int)) ∧ Q (wV (if sumOk 0 xs = true then none else some "great")) H
abbrev N_sum_word : List PySem.Str := ["row", "total", "number"]
theorem sc_sum_word : FnScope N_sum_word ["row"] (defScope s_sum_word) := ⟨rfl, rfl, rfl, by decide +kernel, rfl, by decide +kernel, by decide +kernel⟩
theorem Txt.num (T : Txt K mg) (H : Hp) : KRep K H .num (.ref (He.ga K "NUM")) := ⟨_, rfl, by
  have h := T.ex
  unfold exB at h
  simp only [Bool.and_eq_true] at h
  exact He.tupB_ok h.2.2.2.2.2.2.2.2.2.2.2.1 H⟩
theorem drop_cons {α : Type} {xs : List α} {i : Nat} {x : α} (h : xs[i]? = some x) : xs.drop i = x :: xs.drop (i + 1) := by
  obtain ⟨hi, he⟩ := List.getElem?_eq_some_iff.mp h
  rw [← he]
  exact List.drop_eq_getElem_cons hi
theorem c_sum_word (T : Txt K mg) (c_is_worth : Cal P w K mg base 3 "is_worth" (spWorth K) []) : Cal P w K mg base 4 "sum_word" spSumWord [] := by
  refine cal_of (d := d_sum_word) T (mem_fn 9) rfl (mem_fa 9) rfl rfl sc_sum_word (fun _ _ _ _ _ _ us hl => match us, hl with | [_], _ => rfl) (fun vs H Q E h => ?_) (fun cdv A outer s H vs Q E f hr h => ?_)
  · obtain ⟨a, xs, rfl, _⟩ := h
    rfl
  obtain ⟨a, xs, rfl, ha, q⟩ := h
  refine ⟨_, (pss_cons (ps_set (i := 1) sc_sum_word.nd rfl (.inl rfl) pe_int)
      (pss_cons (ps_for PassesOwn.never rfl (pi_list (pv 0)) (pg_name (i := 2) sc_sum_word.nd rfl (.inl rfl)) (pss_cons (ps_set (i := 1) sc_sum_word.nd rfl (.inl rfl) (pe_op op_add (pv 1) (pv 2)))
      (pss_one (ps_if (pt_not (pt_val (pe_c c_is_worth hr (by decide) rfl (pa_cons (pe_glob (v := .ref (He.ga K "NUM")) rfl (T.glo "NUM" (mem_fa 68)) rfl) (pa_cons (pv 1) pa_nil))))) (pss_one (ps_ret pe_str)) pss_nil))))
      (pss_one (ps_ret pe_non)))), ?_⟩
  refine ⟨_, rfl, a, rfl, ⟨_, SqL.of ha⟩, ?_⟩
  refine for_list (xs := xs.map V.int) (fun i σ H' => ∃ (y : Option V) (t : Int), σ = [some (.ref a), some (.int t), y] ∧ H' = H ∧ sumOk 0 xs = sumOk t (xs.drop i)) ⟨none, 0, rfl, rfl, rfl⟩ (fun i σ H' _ hv => ?_) (fun i v σ H' hx hv => ?_) fun σ H' hv => ?_
  · obtain ⟨y, t, _, rfl, _⟩ := hv
    exact SqL.of ha
  · obtain ⟨y, t, rfl, rfl, hS⟩ := hv
    obtain ⟨x, hxi, rfl⟩ := map_some hx
    rw [drop_cons hxi] at hS
    have hS : sumOk 0 xs = (inB (t + x) && sumOk (t + x) (xs.drop (i + 1))) := hS
    refine ⟨_, rfl, _, rfl, _, _, rfl, rfl, ?_⟩
    refine ⟨_, rfl, t + x, _, rfl, T.num _, _, rfl, ?_⟩
    cases hb : inB (t + x) with
    | true =>
      rw [hb, Bool.true_and] at hS
      exact iteF ⟨_, _, rfl, rfl, hS⟩
    | false =>
      rw [hb, Bool.false_and] at hS
      rw [hS] at q
      exact iteT q
  · obtain ⟨y, t, rfl, rfl, hS⟩ := hv
    rw [List.length_map, List.drop_length] at hS
    rw [show sumOk 0 xs = true from hS] at q
    exact q
/-! ### cut_word -/
def spCutWord : Sp := fun vs H Q _ => ∃ (a : Addr) (n : Nat) (xs : List Int), vs = [nV n, .ref a] ∧ H a = some (.lst (xs.map V.int)) ∧ xs.length ≤ BIG ∧ ∀ H', Same H H' → Q (wV (if cutOk n xs = true then none else some "unlike")) H'
abbrev N_cut_word : List PySem.Str := ["long", "lengths", "length"]
theorem sc_cut_word : FnScope N_cut_word ["long", "lengths"] (defScope s_cut_word) := ⟨rfl, rfl, rfl, by decide +kernel, rfl, by decide +kernel, by decide +kernel⟩
/-- [x for x in xs if x < 0]: the first of the lists that the loop makes -/
theorem negs_len (xs : List Int) : decide ((0 : Int) < (((xs.filter fun x => decide (x < 0)).map V.int).length : Nat)) = !(xs.all fun n => decide (0 ≤ n)) := by
  rw [List.length_map]
  cases h : xs.all fun n => decide (0 ≤ n) with
  | true =>
    have e : xs.filter (fun x => decide (x < 0)) = [] := List.filter_eq_nil_iff.mpr fun x hx => by
      have := of_decide_eq_true (List.all_eq_true.mp h x hx)
      simp
      omega
    rw [e]
    rfl
  | false =>
    refine decide_eq_true ?_
    have e : xs.filter (fun x => decide (x < 0)) ≠ [] := fun z => by
      have h2 := List.filter_eq_nil_iff.mp z
      have h3 : (xs.all fun n => decide (0 ≤ n)) = true := List.all_eq_true.mpr fun x hx => decide_eq_true (by
        have := h2 x hx
        simp at this
        exact this)
      rw [h] at h3
      cases h3
    have := List.length_pos_iff.mpr e
    omega
end
section
variable {K : PySem.W.Frag}
/-- a comprehension that only leaves out -/
theorem lc_negs {H1 : Hp} {a : Addr} {xs : List Int} {j : Nat} {σ : L2.St} {D : Addr} {Qd : Hp → Prop} (hx : SqL K H1 a (xs.map V.int)) (hz : xs.length ≤ BIG) (hD : H1 D = none) (hj : j < σ.length) (hd : ∀ H, Same H1 H → H D = some (.lst ((xs.filter fun x => decide (x < 0)).map V.int)) → Qd H) :
    ∃ W : Nat → Nat → Hp → Prop, (∃ m, W 0 m (upd H1 D (.lst []))) ∧ ∀ i m H, W i m H →
      ((Itl K a).stop i H ∧ Qd H) ∨ ((Itl K a).go i H ∧ ∃ Nx : Hp → Prop, (∀ H', Nx H' → ∃ m', m' < m ∧ W (i + 1) m' H') ∧ ∀ x H', (Itl K a).yld i H x H' → gName j x (wipe σ [j]) H' fun σ2 H2 => wipe σ2 [j] = wipe σ [j] ∧ tTest (tOp (rI0 fun i j => .bl (decide (i < j))) (tVar j) (tC (.int 0))) σ2 H2 fun b H3 =>
        if b = true then tVar j σ2 H3 fun y H4 => ∃ acc, H4 D = some (.lst acc) ∧ acc.length < sizeLine ∧ Nx (upd H4 D (.lst (acc ++ [y]))) else Nx H3) := by
  refine lc_list (K := K) (xs := xs.map V.int) (fun i H => Same H1 H ∧ H D = some (.lst (((xs.take i).filter fun x => decide (x < 0)).map V.int))) ⟨same_upd hD, upd_same⟩ (fun i H _ p => p.1.seq hx) (fun i v H hv p => ?_) fun H p => ?_
  · obtain ⟨e, hl⟩ := p
    obtain ⟨x, hxi, rfl⟩ := map_some hv
    have hlt : i < xs.length := (List.getElem?_eq_some_iff.mp hxi).1
    have hw : wipe ((wipe σ [j]).set j (some (V.int x))) [j] = wipe σ [j] := by
      show ((σ.set j none).set j (some (V.int x))).set j none = σ.set j none
      rw [List.set_set, List.set_set]
    have hget : ((wipe σ [j]).set j (some (V.int x)))[j]? = some (some (V.int x)) := by
      show ((σ.set j none).set j (some (V.int x)))[j]? = _
      rw [List.set_set, List.getElem?_set_self hj]
    refine ⟨hw, _, hget, x, 0, rfl, rfl, _, rfl, ?_⟩
    have hln : (((xs.take i).filter fun x => decide (x < 0)).map V.int).length < sizeLine := by
      rw [List.length_map]
      have h1 := List.length_filter_le (fun x : Int => decide (x < 0)) (xs.take i)
      rw [List.length_take] at h1
      exact big_lt (by omega)
    cases hc : decide (x < 0) with
    | true =>
      refine iteT ⟨_, hget, _, hl, hln, same_set e hD, ?_⟩
      rw [upd_same, take_next hxi, List.filter_append, List.map_append]
      simp [List.filter_cons, hc]
    | false =>
      refine iteF ⟨e, ?_⟩
      rw [hl, take_next hxi, List.filter_append, List.map_append]
      simp [List.filter_cons, hc]
  · obtain ⟨e, hl⟩ := p
    rw [List.length_map, List.take_length] at hl
    exact hd H e hl
end
section
variable {P : Program} {w : World} {K : PySem.W.Frag} {mg : Str → Option Value} {base : Heap}
theorem c_cut_word (T : Txt K mg) : Cal P w K mg base 1 "cut_word" spCutWord [] := by
  refine cal_of (d := d_cut_word) T (mem_fn 10) rfl (mem_fa 10) rfl rfl sc_cut_word (fun _ _ _ _ _ _ us hl => match us, hl with | [_, _], _ => rfl) (fun vs H Q E h => ?_) (fun cdv A outer s H vs Q E f hr h => ?_)
  · obtain ⟨a, n, xs, rfl, _⟩ := h
    rfl
  obtain ⟨a, n, xs, rfl, ha, hz, q⟩ := h
  refine ⟨_, (pss_cons (ps_if (PW.pt (pw_or (pt_cmpR op_gt (e_len T.len (pe_lc (own := [("length", 2)]) rfl sc_cut_word.nd (pi_list (pv 1)) (blkOk_by (N := N_cut_word) (sc := defScope s_cut_word) (by decide +kernel)) (fun _ _ _ _ _ => (pg_name (i := 2) sc_cut_word.nd rfl (.inl rfl))) (fun _ _ _ _ _ => pts_one (pt_cmpR op_lt (pv 2) pe_int (nomark _))) (fun _ _ _ _ _ => (pv 2)))) pe_int (nomark _)) (pw_or1 (pt_cmpR op_ne (e_sum T.sum (pv 1)) (pv 0) (nomark _))))) (pss_one (ps_ret pe_str)) pss_nil)
      (pss_one (ps_ret pe_non))), ?_⟩
  refine ⟨_, rfl, a, rfl, ⟨_, SqL.of ha⟩, fun D nD => ?_⟩
  refine lc_negs (SqL.of ha) hz nD (by show 2 < 3; decide) fun H1 e hD => ?_
  refine ⟨D, _, rfl, .inl (SqL.of hD), _, _, rfl, rfl, _, rfl, ?_⟩
  have q := q H1 e
  unfold cutOk at q
  rw [negs_len]
  cases hc : xs.all fun n => decide (0 ≤ n) with
  | false =>
    rw [hc, Bool.false_and] at q
    exact iteT (iteT q)
  | true =>
    rw [hc, Bool.true_and] at q
    refine iteF ⟨_, rfl, a, xs, rfl, SqL.of (e _ _ ha), _, rfl, rfl, _, rfl, ?_⟩
    by_cases hs : xs.sum = (n : Int)
    · rw [decide_eq_true hs] at q
      rw [hs, decide_eq_true rfl]
      exact iteF q
    · rw [decide_eq_false hs] at q
      rw [decide_eq_false (fun z => hs (V.int.inj z))]
      exact iteT q
/-! ### first_stop -/
def firstW : List (Option Str) → Nat × Option Str
  | [] => (0, none)
  | none :: r => ((firstW r).1 + 1, (firstW r).2)
  | some z :: _ => (0, some z)
def spFirstStop : Sp := fun vs H Q _ => ∃ (a : Addr) (ws : List (Option Str)), vs = [.ref a] ∧ H a = some (.lst (ws.map wV)) ∧ ∀ p H', Same H H' → H p = none → H' p = some (.tup [nV (firstW ws).1, wV (firstW ws).2]) → Q (.ref p) H'
abbrev N_first_stop : List PySem.Str := ["words", "number", "word"]
theorem sc_first_stop : FnScope N_first_stop ["words"] (defScope s_first_stop) := ⟨rfl, rfl, rfl, by decide +kernel, rfl, by decide +kernel, by decide +kernel⟩
theorem c_first_stop (T : Txt K mg) : Cal P w K mg base 1 "first_stop" spFirstStop [] := by
  refine cal_of (d := d_first_stop) T (mem_fn 13) rfl (mem_fa 13) rfl rfl sc_first_stop (fun _ _ _ _ _ _ us hl => match us, hl with | [_], _ => rfl) (fun vs H Q E h => ?_) (fun cdv A outer s H vs Q E f hr h => ?_)
  · obtain ⟨a, ws, rfl, _⟩ := h
    rfl
  obtain ⟨a, ws, rfl, ha, q⟩ := h
  refine ⟨_, (pss_cons (ps_for PassesOwn.never rfl (pi_enum rfl T.enumerate (pa_cons (pv 0) pa_nil)) (g_tup (n := 2) rfl (pgs_cons (pg_name (i := 1) sc_first_stop.nd rfl (.inl rfl)) (pgs_cons (pg_name (i := 2) sc_first_stop.nd rfl (.inl rfl)) pgs_nil))) (pss_one (ps_if (pt_cmpR op_notN (pv 2) pe_non (nomark _)) (pss_one (ps_ret (pe_tup (pa_cons (pv 1) (pa_cons (pv 2) pa_nil))))) pss_nil)))
      (pss_one (ps_ret (pe_tup (pa_cons (e_len T.len (pv 0)) (pa_cons pe_non pa_nil)))))), ?_⟩
  refine ⟨_, rfl, a, _, rfl, SqL.of ha, ?_⟩
  refine for_it (walk_enum (xs := ws.map wV)) (fun i σ H' => ∃ y1 y2 : Option V, σ = [some (.ref a), y1, y2] ∧ Same H H' ∧ (firstW ws) = (i + (firstW (ws.drop i)).1, (firstW (ws.drop i)).2)) ⟨none, none, rfl, Same.refl H, by simp⟩ (fun i σ H' _ hv => ?_) (fun i v σ H' H'' hi hv hY => ?_) fun σ H' hv => ?_
  · obtain ⟨y1, y2, _, e, _⟩ := hv
    exact SqL.of (e _ _ ha)
  · obtain ⟨y1, y2, rfl, e, hF⟩ := hv
    obtain ⟨u, v1, v2, rfl, nu, rfl, h1, h2⟩ := hY
    have h2 : (ws.map wV)[i]? = some v2 := h2
    obtain ⟨x, hx, rfl⟩ := map_some h2
    cases h1
    rw [drop_cons hx] at hF
    have e2 : Same H (upd H' u (.tup [.int (i : Nat), wV x])) := e.trans (same_upd nu)
    refine g_pair rfl upd_same ?_
    refine ⟨_, rfl, rfl, ?_⟩
    cases x with
    | none =>
      refine ⟨false, rfl, iteF ⟨_, _, rfl, e2, ?_⟩⟩
      rw [hF]
      show (i + ((firstW (ws.drop (i + 1))).1 + 1), (firstW (ws.drop (i + 1))).2) = (i + 1 + (firstW (ws.drop (i + 1))).1, (firstW (ws.drop (i + 1))).2)
      rw [show i + ((firstW (ws.drop (i + 1))).1 + 1) = i + 1 + (firstW (ws.drop (i + 1))).1 by omega]
    | some z =>
      refine ⟨true, rfl, iteT ⟨_, rfl, _, rfl, by show 2 ≤ sizeLine; decide, fun t nt => ?_⟩⟩
      refine q t _ (e2.trans (same_upd nt)) (e2.free nt) ?_
      rw [upd_same, hF]
      rfl
  · obtain ⟨y1, y2, rfl, e, hF⟩ := hv
    rw [List.length_map, List.drop_length] at hF
    refine ⟨_, rfl, a, _, rfl, .inl (SqL.of (e _ _ ha)), by show 2 ≤ sizeLine; decide, fun t nt => ?_⟩
    refine q t _ (e.trans (same_upd nt)) (e.free nt) ?_
    rw [upd_same, hF, List.length_map]
    rfl
end
end Bw
namespace Bw
open PySem PySem.Spec PyProof.Rows L2
open C8 (Cal pe_c)
theorem map_at {α β : Type} {f : α → β} {xs : List α} {i : Nat} {x : α} {v : β} (hx : xs[i]? = some x) (h : (xs.map f)[i]? = some v) : v = f x := by
  rw [List.getElem?_map, hx] at h
  cases h
  rfl
theorem len_tots {k : Kd} {ks : List Kd} (ts : List (Ty k × Tys ks)) : ts.length ≤ tots (k :: ks) ts := by
  have h := len_tot k (ts.map Prod.fst)
  rw [List.length_map] at h
  have e : tots (k :: ks) ts = tot k (ts.map Prod.fst) + tots ks (ts.map Prod.snd) := rfl
  omega
/-- rows of numbers as rows of values -/
theorem rows_int (ws : List (List Int)) : (ws.map fun r => r.map V.int).flatten = ws.flatten.map V.int := by rw [List.map_flatten]
theorem rows_len (ws : List (List Int)) : (ws.map fun r => r.map V.int).map (fun r => V.int (r.length : Nat)) = ws.map (fun r => V.int (r.length : Nat)) := by
  rw [List.map_map]
  refine List.map_congr_left fun r _ => ?_
  show V.int (((r.map V.int).length : Nat) : Int) = _
  rw [List.length_map]
theorem rows_bl (ws : List (List Bool)) : (ws.map fun r => r.map V.bl).flatten = ws.flatten.map V.bl := by rw [List.map_flatten]
theorem rows_lenB (ws : List (List Bool)) : (ws.map fun r => r.map V.bl).map (fun r => V.int (r.length : Nat)) = ws.map (fun r => V.int (r.length : Nat)) := by
  rw [List.map_map]
  refine List.map_congr_left fun r _ => ?_
  show V.int (((r.map V.bl).length : Nat) : Int) = _
  rw [List.length_map]
def isAr : Sg → Bool
  | .add => true | .sub => true | .mul => true | .div => true | .rest => true
  | _ => false
section
variable {P : Program} {w : World} {K : PySem.W.Frag} {mg : Str → Option Value} {base : Heap}
/-! ### words_of_two -/
def spWords2 : Sp := fun vs H Q _ => ∃ (G : Hp) (s : Sg) (ts : List (Tys s.ks)) (f g : V), vs = [.str s.nm, f, g, nV ts.length] ∧ Same G H ∧ FReps G s.ks ts [f, g] ∧ isAr s = false ∧ tots s.ks ts ≤ BIG ∧
  ∀ p H', Same H H' → H p = none → H' p = some (.lst (ts.map fun t => wV (s.wd t))) → Q (.ref p) H'
abbrev N_words_of_two : List PySem.Str := ["sign", "one", "other", "many", "long", "number", "more", "lengths"]
theorem sc_words_of_two : FnScope N_words_of_two ["sign", "one", "other", "many"] (defScope s_words_of_two) := ⟨rfl, rfl, rfl, by decide +kernel, rfl, by decide +kernel, by decide +kernel⟩
theorem rep_none {α : Type} (ts : List α) (n : Int) (h : n = (ts.length : Int)) : (List.replicate n.toNat [V.non]).flatten = ts.map fun _ => V.non := by
  subst h
  rw [show ((ts.length : Int)).toNat = ts.length by omega]
  induction ts with
  | nil => rfl
  | cons t ts ih => rw [List.length_cons, List.replicate_succ, List.flatten_cons, ih]; rfl
theorem c_words_of_two (T : Txt K mg) (c_far_words : Cal P w K mg base 1 "far_words" spFarWords []) (c_parted : Cal P w K mg base 1 "parted" spParted []) (c_cut_word : Cal P w K mg base 1 "cut_word" spCutWord []) : Cal P w K mg base 2 "words_of_two" spWords2 [] := by
  refine cal_of (d := d_words_of_two) T (mem_fn 11) rfl (mem_fa 11) rfl rfl sc_words_of_two (fun _ _ _ _ _ _ us hl => match us, hl with | [_, _, _, _], _ => rfl) (fun vs H Q E h => ?_) (fun cdv A outer s H vs Q E f hr h => ?_)
  · obtain ⟨G, s, ts, f, g, rfl, _⟩ := h
    rfl
  obtain ⟨G, sg, ts, fv, gv, rfl, sG, hF, hA, ht, q⟩ := h
  refine ⟨_, (pss_cons (ps_if (pt_cmpR op_eq (pv 0) pe_str (nomark _)) (pss_one (ps_ret (pe_lc (own := [("long", 4), ("number", 5)]) rfl sc_words_of_two.nd (pi_zip rfl T.zip (pa_cons (pe_ix i_tup (pv 1) pe_int (fun _ _ => rfl)) (pa_cons (pv 2) pa_nil))) (blkOk_by (N := N_words_of_two) (sc := defScope s_words_of_two) (by decide +kernel)) (fun _ _ _ _ _ => (g_tup (n := 2) rfl (pgs_cons (pg_name (i := 4) sc_words_of_two.nd rfl (.inl rfl)) (pgs_cons (pg_name (i := 5) sc_words_of_two.nd rfl (.inl rfl)) pgs_nil)))) (fun _ _ _ _ _ => pts_nil) (fun _ _ _ _ _ => (pe_ifExp (pt_chain op_le op_lt pe_int (pv 5) (pv 4)) pe_non pe_str))))) pss_nil)
      (pss_cons (ps_if (pt_cmpR op_eq (pv 0) pe_str (nomark _)) (pss_one (ps_ret (pe_c c_far_words hr (by decide) rfl (pa_cons (pe_lc (own := [("long", 4), ("more", 6)]) rfl sc_words_of_two.nd (pi_zip rfl T.zip (pa_cons (pe_ix i_tup (pv 1) pe_int (fun _ _ => rfl)) (pa_cons (pe_ix i_tup (pv 2) pe_int (fun _ _ => rfl)) pa_nil))) (blkOk_by (N := N_words_of_two) (sc := defScope s_words_of_two) (by decide +kernel)) (fun _ _ _ _ _ => (g_tup (n := 2) rfl (pgs_cons (pg_name (i := 4) sc_words_of_two.nd rfl (.inl rfl)) (pgs_cons (pg_name (i := 6) sc_words_of_two.nd rfl (.inl rfl)) pgs_nil)))) (fun _ _ _ _ _ => pts_nil) (fun _ _ _ _ _ => (pe_op op_add (pv 4) (pv 6)))) (pa_cons (pe_glob (v := .int 200) rfl (T.i_MOST_THINGS_stops).choose_spec ⟨_, rfl⟩) pa_nil))))) pss_nil)
      (pss_cons (ps_if (pt_cmpR op_eq (pv 0) pe_str (nomark _)) (pss_one (ps_ret (pe_lc (own := [("long", 4), ("more", 6)]) rfl sc_words_of_two.nd (pi_zip rfl T.zip (pa_cons (pe_ix i_tup (pv 1) pe_int (fun _ _ => rfl)) (pa_cons (pe_ix i_tup (pv 2) pe_int (fun _ _ => rfl)) pa_nil))) (blkOk_by (N := N_words_of_two) (sc := defScope s_words_of_two) (by decide +kernel)) (fun _ _ _ _ _ => (g_tup (n := 2) rfl (pgs_cons (pg_name (i := 4) sc_words_of_two.nd rfl (.inl rfl)) (pgs_cons (pg_name (i := 6) sc_words_of_two.nd rfl (.inl rfl)) pgs_nil)))) (fun _ _ _ _ _ => pts_nil) (fun _ _ _ _ _ => (pe_ifExp (pt_cmpR op_eq (pv 4) (pv 6) (nomark _)) pe_non pe_str))))) pss_nil)
      (pss_cons (ps_if (pt_cmpR op_eq (pv 0) pe_str (nomark _)) (pss_one (ps_ret (pe_lc (own := [("long", 4), ("lengths", 7)]) rfl sc_words_of_two.nd (pi_zip rfl T.zip (pa_cons (pe_ix i_tup (pv 1) pe_int (fun _ _ => rfl)) (pa_cons (pe_c c_parted hr (by decide) rfl (pa_cons (pe_ix i_tup (pv 2) pe_int (fun _ _ => rfl)) (pa_cons (pe_ix i_tup (pv 2) pe_int (fun _ _ => rfl)) pa_nil))) pa_nil))) (blkOk_by (N := N_words_of_two) (sc := defScope s_words_of_two) (by decide +kernel)) (fun _ _ _ _ _ => (g_tup (n := 2) rfl (pgs_cons (pg_name (i := 4) sc_words_of_two.nd rfl (.inl rfl)) (pgs_cons (pg_name (i := 7) sc_words_of_two.nd rfl (.inl rfl)) pgs_nil)))) (fun _ _ _ _ _ => pts_nil) (fun _ _ _ _ _ => (pe_c c_cut_word hr (by decide) rfl (pa_cons (pv 4) (pa_cons (pv 7) pa_nil))))))) pss_nil)
      (pss_one (ps_ret (pe_op op_rep (pe_lst (pa_cons pe_non pa_nil)) (pv 3)))))))), ?_⟩
  have nons : ∀ (s : Sg) (ts : List (Tys s.ks)) (f g : V), ts.length ≤ BIG → (∀ t, s.wd t = none) → (∀ p H', Same H H' → H p = none → H' p = some (.lst (ts.map fun t => wV (s.wd t))) → Q (.ref p) H') →
      tRet (tOp rRep (tLst (tCons (tC .non) tNil)) (tVar 3)) { nx := fun _ H' => Q .non H', rt := Q } (L2.start N_words_of_two [.str s.nm, f, g, nV ts.length]) H := fun s ts f g hz hw q => by
    have hB : BIG = 1000000 := rfl
    refine ⟨by show 1 ≤ sizeLine; decide, fun u nu => ⟨_, rfl, u, _, _, rfl, rfl, upd_same, by omega, by omega, ?_, fun p np => ?_⟩⟩
    · rw [show ((ts.length : Int)).toNat = ts.length by omega, List.length_singleton, Nat.one_mul]
      exact big_le hz
    · refine q p _ ((same_upd nu).trans (same_upd np)) ((Xt.loc (M := No) (Same.refl H) nu).free np) ?_
      rw [upd_same, rep_none ts _ rfl]
      refine congrArg (fun z => some (HO.lst z)) (List.map_congr_left fun t _ => ?_)
      rw [hw t]
      rfl
  cases sg with
  | not => obtain ⟨f1, r1, e1, _, e2⟩ := hF; cases e2; cases e1
  | first k l => obtain ⟨f1, r1, e1, _, e2⟩ := hF; cases e2; cases e1
  | second k l => obtain ⟨f1, r1, e1, _, e2⟩ := hF; cases e2; cases e1
  | one k => obtain ⟨f1, r1, e1, _, e2⟩ := hF; cases e2; cases e1
  | upto => obtain ⟨f1, r1, e1, _, e2⟩ := hF; cases e2; cases e1
  | long k => obtain ⟨f1, r1, e1, _, e2⟩ := hF; cases e2; cases e1
  | sum => obtain ⟨f1, r1, e1, _, e2⟩ := hF; cases e2; cases e1
  | sums => obtain ⟨f1, r1, e1, _, e2⟩ := hF; cases e2; cases e1
  | most => obtain ⟨f1, r1, e1, _, e2⟩ := hF; cases e2; cases e1
  | flat k => obtain ⟨f1, r1, e1, _, e2⟩ := hF; cases e2; cases e1
  | add => cases hA
  | sub => cases hA
  | mul => cases hA
  | div => cases hA
  | rest => cases hA
  | less => exact sq_no (a_sg rfl rfl) (sq_no (a_sg rfl rfl) (sq_no (a_sg rfl rfl) (sq_no (a_sg rfl rfl) (nons .less ts fv gv (Nat.le_trans (len_tots ts) ht) (fun _ => rfl) q))))
  | sameN => exact sq_no (a_sg rfl rfl) (sq_no (a_sg rfl rfl) (sq_no (a_sg rfl rfl) (sq_no (a_sg rfl rfl) (nons .sameN ts fv gv (Nat.le_trans (len_tots ts) ht) (fun _ => rfl) q))))
  | sameT => exact sq_no (a_sg rfl rfl) (sq_no (a_sg rfl rfl) (sq_no (a_sg rfl rfl) (sq_no (a_sg rfl rfl) (nons .sameT ts fv gv (Nat.le_trans (len_tots ts) ht) (fun _ => rfl) q))))
  | both => exact sq_no (a_sg rfl rfl) (sq_no (a_sg rfl rfl) (sq_no (a_sg rfl rfl) (sq_no (a_sg rfl rfl) (nons .both ts fv gv (Nat.le_trans (len_tots ts) ht) (fun _ => rfl) q))))
  | pair k l => exact sq_no (a_sg rfl rfl) (sq_no (a_sg rfl rfl) (sq_no (a_sg rfl rfl) (sq_no (a_sg rfl rfl) (nons (.pair k l) ts fv gv (Nat.le_trans (len_tots ts) ht) (fun _ => rfl) q))))
  | pick k =>
    have hz : ts.length ≤ BIG := Nat.le_trans (len_tots ts) ht
    refine sq_yes (a_sg rfl rfl) ?_
    obtain ⟨f1, r1, e1, h1, f2, r2, e2, h2, e3⟩ := hF
    cases e3; cases e2; cases e1
    obtain ⟨a, c, y, rfl, ga, gc, _⟩ := h1
    obtain ⟨b, rfl, gb⟩ := h2
    refine ⟨_, rfl, a, _, 0, _, rfl, rfl, SqT.of (sG _ _ ga), atI_nat (j := 0) rfl, _, rfl, c, b, _, _, rfl, SqL.of (sG _ _ gc), SqL.of (sG _ _ gb), fun D nD => ?_⟩
    refine lc_mapZ (SqL.of (sG _ _ gc)) (SqL.of (sG _ _ gb)) (ts.map fun t => wV ((Sg.pick k).wd t)) (by simp) (by simp; omega) nD (fun _ _ => rfl) (fun i x z y Hc KK hx hz2 hy e kk => ?_) fun H1 e hD => q D H1 e nD hD
    obtain ⟨t, hti, rfl⟩ := map_some hy
    rw [List.map_map] at hx hz2
    rw [List.map_map] at hz2
    have ex := map_at hti hx
    have ez := map_at hti hz2
    subst ex ez
    have kk := kk _ (Same.refl _)
    have kk : KK (wV (pickW t.2.1 (List.length t.1))) Hc := kk
    unfold pickW at kk
    refine ⟨_, rfl, _, _, rfl, rfl, _, rfl, ?_⟩
    cases h0 : decide ((0 : Int) ≤ t.2.1) with
    | false =>
      rw [h0] at kk
      exact iteF ⟨false, rfl, iteF kk⟩
    | true =>
      rw [h0] at kk
      refine iteT ⟨_, rfl, _, _, rfl, rfl, _, rfl, ?_⟩
      cases h1 : decide ((t.2.1 : Int) < ((List.length t.1 : Nat) : Int)) with
      | false =>
        rw [h1] at kk
        exact iteF kk
      | true =>
        rw [h1] at kk
        exact iteT kk
  | join k =>
    have hz : ts.length ≤ BIG := Nat.le_trans (len_tots ts) ht
    refine sq_no (a_sg rfl rfl) (sq_yes (a_sg rfl rfl) ?_)
    obtain ⟨f1, r1, e1, h1, f2, r2, e2, h2, e3⟩ := hF
    cases e3; cases e2; cases e1
    obtain ⟨a, c, y, rfl, ga, gc, _⟩ := h1
    obtain ⟨b, d, y2, rfl, gb, gd, _⟩ := h2
    refine ⟨_, rfl, a, _, 0, _, rfl, rfl, SqT.of (sG _ _ ga), atI_nat (j := 0) rfl, _, rfl, b, _, 0, _, rfl, rfl, SqT.of (sG _ _ gb), atI_nat (j := 0) rfl, c, d, _, _, rfl, SqL.of (sG _ _ gc), SqL.of (sG _ _ gd), fun D nD => ?_⟩
    refine lc_mapZ (SqL.of (sG _ _ gc)) (SqL.of (sG _ _ gd)) ((ts.map fun t => ((List.length t.1 : Nat) : Int) + ((List.length t.2.1 : Nat) : Int)).map V.int) (by simp) (by simp; omega) nD (fun _ _ => rfl) (fun i x z y Hc KK hx hz2 hy e kk => ?_) fun H1 e hD => ?_
    · obtain ⟨u, hu, rfl⟩ := map_some hy
      obtain ⟨t, hti, rfl⟩ := map_some hu
      rw [List.map_map] at hx hz2
      rw [List.map_map] at hz2
      have ex := map_at hti hx
      have ez := map_at hti hz2
      subst ex ez
      exact ⟨_, rfl, _, rfl, _, _, rfl, rfl, kk _ (Same.refl _)⟩
    · refine ⟨D, _, 200, rfl, hD, by rw [List.length_map]; exact hz, fun p H2 e2 np hp => q p H2 (e.trans e2) ((Xt.of_same (M := No) (Same.refl H) e).free np) ?_⟩
      rw [hp, List.map_map]
      rfl
  | keep k =>
    have hz : ts.length ≤ BIG := Nat.le_trans (len_tots ts) ht
    refine sq_no (a_sg rfl rfl) (sq_no (a_sg rfl rfl) (sq_yes (a_sg rfl rfl) ?_))
    obtain ⟨f1, r1, e1, h1, f2, r2, e2, h2, e3⟩ := hF
    cases e3; cases e2; cases e1
    obtain ⟨a, c, y, rfl, ga, gc, _⟩ := h1
    obtain ⟨b, d, y2, rfl, gb, gd, _⟩ := h2
    refine ⟨_, rfl, a, _, 0, _, rfl, rfl, SqT.of (sG _ _ ga), atI_nat (j := 0) rfl, _, rfl, b, _, 0, _, rfl, rfl, SqT.of (sG _ _ gb), atI_nat (j := 0) rfl, c, d, _, _, rfl, SqL.of (sG _ _ gc), SqL.of (sG _ _ gd), fun D nD => ?_⟩
    refine lc_mapZ (SqL.of (sG _ _ gc)) (SqL.of (sG _ _ gd)) (ts.map fun t => wV ((Sg.keep k).wd t)) (by simp) (by simp; omega) nD (fun _ _ => rfl) (fun i x z y Hc KK hx hz2 hy e kk => ?_) fun H1 e hD => q D H1 e nD hD
    obtain ⟨t, hti, rfl⟩ := map_some hy
    rw [List.map_map] at hx hz2
    rw [List.map_map] at hz2
    have ex := map_at hti hx
    have ez := map_at hti hz2
    subst ex ez
    have kk := kk _ (Same.refl _)
    have kk : KK (wV (if List.length t.1 = List.length t.2.1 then none else some "unlike")) Hc := kk
    by_cases hc : List.length t.1 = List.length t.2.1
    · rw [if_pos hc] at kk
      exact ⟨_, rfl, _, rfl, rfl, true, congrArg V.bl (decide_eq_true (show V.int ((List.length t.1 : Nat) : Int) = V.int ((List.length t.2.1 : Nat) : Int) by rw [hc])), iteT kk⟩
    · rw [if_neg hc] at kk
      exact ⟨_, rfl, _, rfl, rfl, false, congrArg V.bl (decide_eq_false (show ¬ V.int ((List.length t.1 : Nat) : Int) = V.int ((List.length t.2.1 : Nat) : Int) from fun z => hc (by have := V.int.inj z; omega))), iteF kk⟩
  | cut k =>
    have hz : ts.length ≤ BIG := Nat.le_trans (len_tots ts) ht
    refine sq_no (a_sg rfl rfl) (sq_no (a_sg rfl rfl) (sq_no (a_sg rfl rfl) (sq_yes (a_sg rfl rfl) ?_)))
    obtain ⟨f1, r1, e1, h1, f2, r2, e2, h2, e3⟩ := hF
    cases e3; cases e2; cases e1
    obtain ⟨a, c, y, rfl, ga, gc, _⟩ := h1
    obtain ⟨b, d, y2, rfl, gb, gd, u, rfl, gu⟩ := h2
    refine ⟨_, rfl, a, _, 0, _, rfl, rfl, SqT.of (sG _ _ ga), atI_nat (j := 0) rfl, _, rfl, b, _, 0, _, rfl, rfl, SqT.of (sG _ _ gb), atI_nat (j := 0) rfl, _, rfl, b, _, 1, _, rfl, rfl, SqT.of (sG _ _ gb), atI_nat (j := 1) rfl, ?_⟩
    refine ⟨G, d, u, ((ts.map Prod.snd).map Prod.fst).map (fun r => r.map V.int), rfl, sG, by rw [rows_len]; exact sG _ _ gd, by rw [rows_int]; exact sG _ _ gu, by simp; omega, fun p rs G1 H1 x1 g1 hr1 => ?_⟩
    have s1 : Same G H1 := sG.trans x1.same
    have hrl := Paired.length hr1
    refine ⟨c, p, _, _, rfl, SqL.of (s1 _ _ gc), SqL.of (x1.sub _ _ g1), fun D nD => ?_⟩
    refine lc_mapZ (SqL.of (s1 _ _ gc)) (SqL.of (x1.sub _ _ g1)) (ts.map fun t => wV ((Sg.cut k).wd t)) (by simp at hrl; simp; omega) (by simp; omega) nD (fun _ _ => rfl) (fun i x z y Hc KK hx hz2 hy e kk => ?_) fun H2 e hD => q D H2 (x1.same.trans e) (x1.free nD) hD
    obtain ⟨t, hti, rfl⟩ := map_some hy
    rw [List.map_map] at hx
    have ex := map_at hti hx
    subst ex
    obtain ⟨vr, hvr, c2, rfl, gc2⟩ := pr_getR hr1 hz2
    rw [List.map_map, List.map_map] at hvr
    have ev := map_at hti hvr
    subst ev
    have hl2 : List.length t.2.1 ≤ BIG := by
      have h1 := tot_row .num ((ts.map Prod.snd).map Prod.fst)
      have h2 := len_tot .num (List.flatten ((ts.map Prod.snd).map Prod.fst))
      have h3 : ((ts.map Prod.snd).map Prod.fst)[i]? = some t.2.1 := by rw [List.getElem?_map, List.getElem?_map, hti]; rfl
      have h4 := congrArg List.length (flat_take h3)
      rw [List.length_append, List.length_append] at h4
      have h5 : tots (Sg.cut k).ks ts = tot (.row k) (ts.map Prod.fst) + (tot (.row .num) ((ts.map Prod.snd).map Prod.fst) + 0) := rfl
      omega
    refine ⟨_, rfl, _, rfl, c2, List.length t.1, t.2.1, rfl, e _ _ (x1.sub _ _ gc2), hl2, fun H3 e3 => kk H3 e3⟩
end
end Bw
namespace Bw
open PySem PySem.Spec PyProof.Rows L2
open C8 (Cal pe_c)
theorem sum_natlens {α : Type} : ∀ rows : List (List α), (List.map (fun u => ((List.length u : Nat) : Int)) rows).sum = ((List.length (List.flatten rows) : Nat) : Int)
  | [] => rfl
  | r :: rows => by
    rw [List.map_cons, List.sum_cons, sum_natlens rows, List.flatten_cons, List.length_append]
    omega
section
variable {P : Program} {w : World} {K : PySem.W.Frag} {mg : Str → Option Value} {base : Heap}
/-! ### words_of -/
def spWordsOf : Sp := fun vs H Q _ => ∃ (G : Hp) (s : Sg) (ts : List (Tys s.ks)) (b : Addr) (fs : List V), vs = [.str s.nm, .ref b, nV ts.length] ∧ Same G H ∧ H b = some (.lst fs) ∧ FReps G s.ks ts fs ∧ tots s.ks ts ≤ BIG ∧ (∀ t ∈ ts, NBs s.ks t) ∧
  ∀ p H', Same H H' → H p = none → H' p = some (.lst (ts.map fun t => wV (s.wd t))) → Q (.ref p) H'
abbrev N_words_of : List PySem.Str := ["sign", "flats", "many", "number", "row", "long"]
theorem sc_words_of : FnScope N_words_of ["sign", "flats", "many"] (defScope s_words_of) := ⟨rfl, rfl, rfl, by decide +kernel, rfl, by decide +kernel, by decide +kernel⟩
/-- [None if is_worth(NUM, number) else 'great' for number in ..] -/
theorem c_words_of (T : Txt K mg) (c_reckoned_stops : Cal P w K mg base 1 "reckoned_stops" spReck []) (c_is_worth : Cal P w K mg base 3 "is_worth" (spWorth K) []) (c_parted : Cal P w K mg base 1 "parted" spParted []) (c_sum_word : Cal P w K mg base 4 "sum_word" spSumWord [])
    (c_far_words : Cal P w K mg base 1 "far_words" spFarWords []) (c_words_of_two : Cal P w K mg base 2 "words_of_two" spWords2 []) : Cal P w K mg base 5 "words_of" spWordsOf [] := by
  refine cal_of (d := d_words_of) T (mem_fn 12) rfl (mem_fa 12) rfl rfl sc_words_of (fun _ _ _ _ _ _ us hl => match us, hl with | [_, _, _], _ => rfl) (fun vs H Q E h => ?_) (fun cdv A outer s H vs Q E f hr h => ?_)
  · obtain ⟨G, s, ts, b, fs, rfl, _⟩ := h
    rfl
  obtain ⟨G, sg, ts, b, fs, rfl, sG, hb, hF, ht, hN, q⟩ := h
  refine ⟨_, (pss_cons (ps_if (pt_cmpR o_in (pv 0) (pe_tup (pa_cons pe_str (pa_cons pe_str (pa_cons pe_str pa_nil)))) (by rfl)) (pss_one (ps_ret (pe_lc (own := [("number", 3)]) rfl sc_words_of.nd (pi_list (pe_c c_reckoned_stops hr (by decide) rfl (pa_cons (pv 0) (pa_cons (pe_ix i_list (pv 1) pe_int (fun _ _ => rfl)) (pa_cons (pe_ix i_list (pv 1) pe_int (fun _ _ => rfl)) pa_nil))))) (blkOk_by (N := N_words_of) (sc := defScope s_words_of) (by decide +kernel)) (fun _ _ _ _ _ => (pg_name (i := 3) sc_words_of.nd rfl (.inl rfl))) (fun _ _ _ _ _ => pts_nil) (fun _ _ _ _ _ => (pe_ifExp (pt_val (pe_c c_is_worth hr (by decide) rfl (pa_cons (pe_glob (v := .ref (He.ga K "NUM")) rfl (T.glo "NUM" (mem_fa 68)) rfl) (pa_cons (pv 3) pa_nil)))) pe_non pe_str))))) pss_nil)
      (pss_cons (ps_if (pt_cmpR o_in (pv 0) (pe_tup (pa_cons pe_str (pa_cons pe_str pa_nil))) (by rfl)) (pss_one (ps_ret (pe_lc (own := [("number", 3)]) rfl sc_words_of.nd (pi_list (pe_ix i_list (pv 1) pe_int (fun _ _ => rfl))) (blkOk_by (N := N_words_of) (sc := defScope s_words_of) (by decide +kernel)) (fun _ _ _ _ _ => (pg_name (i := 3) sc_words_of.nd rfl (.inl rfl))) (fun _ _ _ _ _ => pts_nil) (fun _ _ _ _ _ => (pe_ifExp (pt_cmpR op_eq (pv 3) pe_int (nomark _)) pe_str pe_non))))) pss_nil)
      (pss_cons (ps_if (pt_cmpR o_in (pv 0) (pe_tup (pa_cons pe_str (pa_cons pe_str pa_nil))) (by rfl)) (pss_one (ps_ret (pe_lc (own := [("row", 4)]) rfl sc_words_of.nd (pi_list (pe_c c_parted hr (by decide) rfl (pa_cons (pe_ix i_tup (pe_ix i_list (pv 1) pe_int (fun _ _ => rfl)) pe_int (fun _ _ => rfl)) (pa_cons (pe_ix i_tup (pe_ix i_list (pv 1) pe_int (fun _ _ => rfl)) pe_int (fun _ _ => rfl)) pa_nil)))) (blkOk_by (N := N_words_of) (sc := defScope s_words_of) (by decide +kernel)) (fun _ _ _ _ _ => (pg_name (i := 4) sc_words_of.nd rfl (.inl rfl))) (fun _ _ _ _ _ => pts_nil) (fun _ _ _ _ _ => (pe_c c_sum_word hr (by decide) rfl (pa_cons (pv 4) pa_nil)))))) pss_nil)
      (pss_cons (ps_if (pt_cmpR op_eq (pv 0) pe_str (nomark _)) (pss_one (ps_ret (pe_lc (own := [("long", 5)]) rfl sc_words_of.nd (pi_list (pe_ix i_tup (pe_ix i_list (pv 1) pe_int (fun _ _ => rfl)) pe_int (fun _ _ => rfl))) (blkOk_by (N := N_words_of) (sc := defScope s_words_of) (by decide +kernel)) (fun _ _ _ _ _ => (pg_name (i := 5) sc_words_of.nd rfl (.inl rfl))) (fun _ _ _ _ _ => pts_nil) (fun _ _ _ _ _ => (pe_ifExp (pt_cmpR op_eq (pv 5) pe_int (nomark _)) pe_str pe_non))))) pss_nil)
      (pss_cons (ps_if (pt_cmpR op_eq (pv 0) pe_str (nomark _)) (pss_one (ps_ret (pe_c c_far_words hr (by decide) rfl (pa_cons (pe_ix i_list (pv 1) pe_int (fun _ _ => rfl)) (pa_cons (pe_glob (v := .int 200) rfl (T.i_MOST_THINGS_stops).choose_spec ⟨_, rfl⟩) pa_nil))))) pss_nil)
      (pss_cons (ps_if (pt_cmpR op_eq (pv 0) pe_str (nomark _)) (pss_one (ps_ret (pe_c c_far_words hr (by decide) rfl (pa_cons (pe_lc (own := [("row", 4)]) rfl sc_words_of.nd (pi_list (pe_c c_parted hr (by decide) rfl (pa_cons (pe_ix i_tup (pe_ix i_list (pv 1) pe_int (fun _ _ => rfl)) pe_int (fun _ _ => rfl)) (pa_cons (pe_ix i_tup (pe_ix i_tup (pe_ix i_list (pv 1) pe_int (fun _ _ => rfl)) pe_int (fun _ _ => rfl)) pe_int (fun _ _ => rfl)) pa_nil)))) (blkOk_by (N := N_words_of) (sc := defScope s_words_of) (by decide +kernel)) (fun _ _ _ _ _ => (pg_name (i := 4) sc_words_of.nd rfl (.inl rfl))) (fun _ _ _ _ _ => pts_nil) (fun _ _ _ _ _ => (e_sum T.sum (pv 4)))) (pa_cons (pe_glob (v := .int 200) rfl (T.i_MOST_THINGS_stops).choose_spec ⟨_, rfl⟩) pa_nil))))) pss_nil)
      (pss_cons (ps_if (pt_cmpR op_eq (e_len T.len (pv 1)) pe_int (nomark _)) (pss_one (ps_ret (pe_c c_words_of_two hr (by decide) rfl (pa_cons (pv 0) (pa_cons (pe_ix i_list (pv 1) pe_int (fun _ _ => rfl)) (pa_cons (pe_ix i_list (pv 1) pe_int (fun _ _ => rfl)) (pa_cons (pv 2) pa_nil))))))) pss_nil)
      (pss_one (ps_ret (pe_op op_rep (pe_lst (pa_cons pe_non pa_nil)) (pv 2))))))))))), ?_⟩
  have hz0 : ∀ (k : Kd) (ks : List Kd) (e : sg.ks = k :: ks), ts.length ≤ BIG := fun k ks e => by
    have h : ∀ (ls : List Kd) (us : List (Tys ls)), ls = k :: ks → us.length ≤ tots ls us := fun ls us e => by
      subst e
      exact len_tots us
    exact Nat.le_trans (h _ ts e) ht
  -- the arithmetic ones
  have arith : ∀ (a : Ar) (xs ys : List Int) (f g : Addr) (ws : List V), fs = [.ref f, .ref g] → G f = some (.lst (xs.map V.int)) → G g = some (.lst (ys.map V.int)) → xs.length = ys.length → xs.length ≤ BIG → a.nm = sg.nm →
      (∀ (i : Nat) (x y : Int), xs[i]? = some x → ys[i]? = some y → a.ok x y) → (List.zipWith a.f xs ys).map (fun n => wV (grW n)) = ts.map (fun t => wV (sg.wd t)) → ∀ H', Same H H' →
      (tRet (tLc (iList K (tCall spReck [] C8.E0 (tCons (tVar 0) (tCons (tOp (rIxL K) (tVar 1) (tC (.int 0))) (tCons (tOp (rIxL K) (tVar 1) (tC (.int 1))) tNil))))) (gName 3) tYes (tIf (tB (tCall (spWorth K) [] C8.E0 (tCons (tC (.ref (He.ga K "NUM"))) (tCons (tVar 3) tNil)))) (tC .non) (tC (.str "great"))) [3]))
        { nx := fun _ H' => Q .non H', rt := Q } (L2.start N_words_of [.str sg.nm, .ref b, nV ts.length]) H' := fun a xs ys f g ws ef gf gg hl hz en ok ew H' e => by
    subst ef
    refine ⟨_, rfl, _, rfl, b, _, 0, _, rfl, rfl, SqL.of (e _ _ hb), atI_nat (j := 0) rfl, _, rfl, b, _, 1, _, rfl, rfl, SqL.of (e _ _ hb), atI_nat (j := 1) rfl, ?_⟩
    have s1 := sG.trans e
    refine ⟨a, f, g, xs, ys, ?_, s1 _ _ gf, s1 _ _ gg, hl, hz, ok, fun p H1 e1 np hp => ?_⟩
    · rw [en]
      rfl
    have hlz : (List.zipWith a.f xs ys).length ≤ BIG := by rw [List.length_zipWith]; omega
    refine ⟨p, rfl, ⟨_, SqL.of hp⟩, fun D nD => ?_⟩
    refine lc_mapL (SqL.of hp) ((List.zipWith a.f xs ys).map fun n => wV (grW n)) (by rw [List.length_map, List.length_map]) (by rw [List.length_map]; exact hlz) nD (fun _ => rfl) (fun i v y Hc KK hv hy e2 kk => ?_) fun H2 e2 hD => ?_
    · obtain ⟨n, hn, rfl⟩ := map_some hv
      have ey := map_at hn hy
      subst ey
      have kk := kk _ (Same.refl _)
      unfold grW at kk
      refine ⟨_, rfl, n, _, rfl, T.num _, _, rfl, ?_⟩
      cases hc : inB n with
      | true =>
        rw [hc] at kk
        exact iteT kk
      | false =>
        rw [hc] at kk
        exact iteF kk
    · rw [ew] at hD
      exact q D H2 ((e.trans e1).trans e2) ((Xt.of_same (M := No) (Same.refl H) (e.trans e1)).free nD) hD
  -- the two that stop at nought
  have nought : ∀ (ys : List Int) (f : V) (g : Addr), fs = [f, .ref g] → G g = some (.lst (ys.map V.int)) → ys.length ≤ BIG → ys.map (fun n => wV (if n = 0 then some "nought" else none)) = ts.map (fun t => wV (sg.wd t)) → ∀ H', Same H H' →
      (tRet (tLc (iList K (tOp (rIxL K) (tVar 1) (tC (.int 1)))) (gName 3) tYes (tIf (tTest (tOp rEq (tVar 3) (tC (.int 0)))) (tC (.str "nought")) (tC .non)) [3]))
        { nx := fun _ H' => Q .non H', rt := Q } (L2.start N_words_of [.str sg.nm, .ref b, nV ts.length]) H' := fun ys f g ef gg hz ew H' e => by
    subst ef
    have s1 := sG.trans e
    refine ⟨_, rfl, b, _, 1, _, rfl, rfl, SqL.of (e _ _ hb), atI_nat (j := 1) rfl, g, rfl, ⟨_, SqL.of (s1 _ _ gg)⟩, fun D nD => ?_⟩
    refine lc_mapL (SqL.of (s1 _ _ gg)) (ys.map fun n => wV (if n = 0 then some "nought" else none)) (by rw [List.length_map, List.length_map]) (by rw [List.length_map]; exact hz) nD (fun _ => rfl) (fun i v y Hc KK hv hy e2 kk => ?_) fun H2 e2 hD => ?_
    · obtain ⟨n, hn, rfl⟩ := map_some hv
      have ey := map_at hn hy
      subst ey
      have kk := kk _ (Same.refl _)
      by_cases hc : n = 0
      · subst hc
        exact ⟨_, rfl, rfl, true, rfl, iteT kk⟩
      · rw [if_neg hc] at kk
        exact ⟨_, rfl, rfl, false, congrArg V.bl (decide_eq_false fun z => hc (V.int.inj z)), iteF kk⟩
    · rw [ew] at hD
      exact q D H2 (e.trans e2) ((Xt.of_same (M := No) (Same.refl H) e).free nD) hD
  -- sum, sums
  have sums : ∀ (rows : List (List Int)) (f c g : Addr), fs = [.ref f] → G f = some (.tup [.ref c, .ref g]) → G c = some (.lst (rows.map fun r => V.int (r.length : Nat))) → G g = some (.lst (rows.flatten.map V.int)) → rows.length ≤ BIG →
      rows.map (fun r => wV (if sumOk 0 r = true then none else some "great")) = ts.map (fun t => wV (sg.wd t)) → ∀ H', Same H H' →
      (tRet (tLc (iList K (tCall spParted [] C8.E0 (tCons (tOp (rIxT K) (tOp (rIxL K) (tVar 1) (tC (.int 0))) (tC (.int 0))) (tCons (tOp (rIxT K) (tOp (rIxL K) (tVar 1) (tC (.int 0))) (tC (.int 1))) tNil)))) (gName 4) tYes (tCall spSumWord [] C8.E0 (tCons (tVar 4) tNil)) [4]))
        { nx := fun _ H' => Q .non H', rt := Q } (L2.start N_words_of [.str sg.nm, .ref b, nV ts.length]) H' := fun rows f c g ef gf gc gg hz ew H' e => by
    subst ef
    have s1 := sG.trans e
    refine ⟨_, rfl, b, _, 0, _, rfl, rfl, SqL.of (e _ _ hb), atI_nat (j := 0) rfl, f, _, 0, _, rfl, rfl, SqT.of (s1 _ _ gf), atI_nat (j := 0) rfl, _, rfl, b, _, 0, _, rfl, rfl, SqL.of (e _ _ hb), atI_nat (j := 0) rfl, f, _, 1, _, rfl, rfl, SqT.of (s1 _ _ gf), atI_nat (j := 1) rfl, ?_⟩
    refine ⟨G, c, g, rows.map (fun r => r.map V.int), rfl, s1, by rw [rows_len]; exact s1 _ _ gc, by rw [rows_int]; exact s1 _ _ gg, by rw [List.length_map]; exact hz, fun p rs G1 H1 x1 g1 hr1 => ?_⟩
    have hrl := Paired.length hr1
    rw [List.length_map] at hrl
    refine ⟨p, rfl, ⟨_, SqL.of (x1.sub _ _ g1)⟩, fun D nD => ?_⟩
    refine lc_mapL (SqL.of (x1.sub _ _ g1)) (rows.map fun r => wV (if sumOk 0 r = true then none else some "great")) (by rw [List.length_map]; exact hrl) (by omega) nD (fun _ => rfl) (fun i v y Hc KK hv hy e2 kk => ?_) fun H2 e2 hD => ?_
    · obtain ⟨r, hri, rfl⟩ := map_some hy
      obtain ⟨vr, hvr, c2, rfl, gc2⟩ := pr_getR hr1 hv
      have ev := map_at hri hvr
      subst ev
      exact ⟨_, rfl, c2, r, rfl, e2 _ _ (x1.sub _ _ gc2), kk _ (Same.refl _)⟩
    · rw [ew] at hD
      exact q D H2 ((e.trans x1.same).trans e2) ((Xt.of_same (M := No) (Same.refl H) (e.trans x1.same)).free nD) hD
  -- signs of one part that never stop
  have ones : ∀ f : V, fs = [f] → ts.length ≤ BIG → (∀ t, sg.wd t = none) → ∀ H', Same H H' →
      (tSeq (tIfS (tTest (tOp rEq (tCB (rLenQ K) (tCons (tVar 1) tNil)) (tC (.int 2)))) (tRet (tCall spWords2 [] C8.E0 (tCons (tVar 0) (tCons (tOp (rIxL K) (tVar 1) (tC (.int 0))) (tCons (tOp (rIxL K) (tVar 1) (tC (.int 1))) (tCons (tVar 2) tNil)))))) tNext) (tRet (tOp rRep (tLst (tCons (tC .non) tNil)) (tVar 2))))
        { nx := fun _ H' => Q .non H', rt := Q } (L2.start N_words_of [.str sg.nm, .ref b, nV ts.length]) H' := fun f ef hz hw H' e => by
    subst ef
    have hB : BIG = 1000000 := rfl
    refine ⟨_, rfl, b, _, rfl, .inl (SqL.of (e _ _ hb)), rfl, false, rfl, iteF ?_⟩
    refine ⟨by show 1 ≤ sizeLine; decide, fun u nu => ⟨_, rfl, u, _, _, rfl, rfl, upd_same, by omega, by omega, ?_, fun p np => ?_⟩⟩
    · rw [show ((ts.length : Int)).toNat = ts.length by omega, List.length_singleton, Nat.one_mul]
      exact big_le hz
    · have e2 := (e.trans (same_upd (o := .lst [.non]) nu))
      refine q p _ (e2.trans (same_upd np)) ((Xt.of_same (M := No) (Same.refl H) e2).free np) ?_
      rw [upd_same, rep_none ts _ rfl]
      refine congrArg (fun z => some (HO.lst z)) (List.map_congr_left fun t _ => ?_)
      rw [hw t]
      rfl
  have twos : ∀ f g : V, fs = [f, g] → isAr sg = false → ∀ H', Same H H' →
      (tSeq (tIfS (tTest (tOp rEq (tCB (rLenQ K) (tCons (tVar 1) tNil)) (tC (.int 2)))) (tRet (tCall spWords2 [] C8.E0 (tCons (tVar 0) (tCons (tOp (rIxL K) (tVar 1) (tC (.int 0))) (tCons (tOp (rIxL K) (tVar 1) (tC (.int 1))) (tCons (tVar 2) tNil)))))) tNext) (tRet (tOp rRep (tLst (tCons (tC .non) tNil)) (tVar 2))))
        { nx := fun _ H' => Q .non H', rt := Q } (L2.start N_words_of [.str sg.nm, .ref b, nV ts.length]) H' := fun f g ef hA H' e => by
    subst ef
    refine ⟨_, rfl, b, _, rfl, .inl (SqL.of (e _ _ hb)), rfl, true, rfl, iteT ?_⟩
    refine ⟨_, rfl, _, rfl, b, _, 0, _, rfl, rfl, SqL.of (e _ _ hb), atI_nat (j := 0) rfl, _, rfl, b, _, 1, _, rfl, rfl, SqL.of (e _ _ hb), atI_nat (j := 1) rfl, _, rfl, ?_⟩
    exact ⟨G, sg, ts, f, g, rfl, sG.trans e, hF, hA, ht, fun p H1 e1 np hp => q p H1 (e.trans e1) ((Xt.of_same (M := No) (Same.refl H) e).free np) hp⟩
  have in1 : ∀ {σ : L2.St} {H : Hp} {z : Str} {t : TA} {zs : List Str} {D : Ends} {t1 u : TS}, σ[0]? = some (some (.str z)) → (∀ Q, Q (zs.map V.str) H → t σ H Q) → zs.length ≤ 100 → inV (.str z) (zs.map V.str) = false → (∀ H', Same H H' → u D σ H') →
      tSeq (tIfS (tTest (tOp (rIn K false) (tVar 0) (tTup t))) t1 tNext) u D σ H := fun h1 h2 h3 h4 h5 => sq_noS (a_inS h1 h2 h3 h4) h5
  cases sg with
  | add =>
    obtain ⟨f1, r1, e1, h1, f2, r2, e2, h2, e3⟩ := hF
    cases e3; cases e2; cases e1
    obtain ⟨a, rfl, ga⟩ := h1
    obtain ⟨c, rfl, gc⟩ := h2
    refine sq_yesS (a_inS (zs := ["add", "sub", "mul"]) rfl (fun _ q => q) (by show _ ≤ 100; decide) rfl) fun H1 e1 => arith .add _ _ a c [] rfl ga gc (by simp) (by rw [List.length_map]; exact hz0 _ _ rfl) rfl (fun i x y hx hy => trivial) ?_ H1 e1
    rw [List.map_map, zw, List.map_map]
    rfl
  | sub =>
    obtain ⟨f1, r1, e1, h1, f2, r2, e2, h2, e3⟩ := hF
    cases e3; cases e2; cases e1
    obtain ⟨a, rfl, ga⟩ := h1
    obtain ⟨c, rfl, gc⟩ := h2
    refine sq_yesS (a_inS (zs := ["add", "sub", "mul"]) rfl (fun _ q => q) (by show _ ≤ 100; decide) rfl) fun H1 e1 => arith .sub _ _ a c [] rfl ga gc (by simp) (by rw [List.length_map]; exact hz0 _ _ rfl) rfl (fun i x y hx hy => trivial) ?_ H1 e1
    rw [List.map_map, zw, List.map_map]
    rfl
  | mul =>
    obtain ⟨f1, r1, e1, h1, f2, r2, e2, h2, e3⟩ := hF
    cases e3; cases e2; cases e1
    obtain ⟨a, rfl, ga⟩ := h1
    obtain ⟨c, rfl, gc⟩ := h2
    refine sq_yesS (a_inS (zs := ["add", "sub", "mul"]) rfl (fun _ q => q) (by show _ ≤ 100; decide) rfl) fun H1 e1 => arith .mul _ _ a c [] rfl ga gc (by simp) (by rw [List.length_map]; exact hz0 _ _ rfl) rfl (fun i x y hx hy => by
      obtain ⟨t, hti, rfl⟩ := map_some hx
      exact (hN t (List.mem_of_getElem? hti)).1) ?_ H1 e1
    rw [List.map_map, zw, List.map_map]
    rfl
  | div =>
    obtain ⟨f1, r1, e1, h1, f2, r2, e2, h2, e3⟩ := hF
    cases e3; cases e2; cases e1
    obtain ⟨c, rfl, gc⟩ := h2
    refine in1 (zs := ["add", "sub", "mul"]) rfl (fun _ q => q) (by show _ ≤ 100; decide) rfl fun H1 e1 => sq_yesS (a_inS (zs := ["div", "rest"]) rfl (fun _ q => q) (by show _ ≤ 100; decide) rfl) fun H2 e2 => nought ((ts.map Prod.snd).map Prod.fst) _ c rfl gc (by simp; exact hz0 _ _ rfl) ?_ H2 (e1.trans e2)
    rw [List.map_map, List.map_map]
    rfl
  | rest =>
    obtain ⟨f1, r1, e1, h1, f2, r2, e2, h2, e3⟩ := hF
    cases e3; cases e2; cases e1
    obtain ⟨c, rfl, gc⟩ := h2
    refine in1 (zs := ["add", "sub", "mul"]) rfl (fun _ q => q) (by show _ ≤ 100; decide) rfl fun H1 e1 => sq_yesS (a_inS (zs := ["div", "rest"]) rfl (fun _ q => q) (by show _ ≤ 100; decide) rfl) fun H2 e2 => nought ((ts.map Prod.snd).map Prod.fst) _ c rfl gc (by simp; exact hz0 _ _ rfl) ?_ H2 (e1.trans e2)
    rw [List.map_map, List.map_map]
    rfl
  | sum =>
    obtain ⟨f1, r1, e1, h1, e2⟩ := hF
    cases e2; cases e1
    obtain ⟨a, c, y, rfl, ga, gc, g, rfl, gg⟩ := h1
    refine in1 (zs := ["add", "sub", "mul"]) rfl (fun _ q => q) (by show _ ≤ 100; decide) rfl fun H1 e1 => in1 (zs := ["div", "rest"]) rfl (fun _ q => q) (by show _ ≤ 100; decide) rfl fun H2 e2 => sq_yesS (a_inS (zs := ["sum", "sums"]) rfl (fun _ q => q) (by show _ ≤ 100; decide) rfl) fun H3 e3 => sums (ts.map Prod.fst) a c g rfl ga gc gg (by simp; exact hz0 _ _ rfl) ?_ H3 ((e1.trans e2).trans e3)
    rw [List.map_map]
    rfl
  | sums =>
    obtain ⟨f1, r1, e1, h1, e2⟩ := hF
    cases e2; cases e1
    obtain ⟨a, c, y, rfl, ga, gc, g, rfl, gg⟩ := h1
    refine in1 (zs := ["add", "sub", "mul"]) rfl (fun _ q => q) (by show _ ≤ 100; decide) rfl fun H1 e1 => in1 (zs := ["div", "rest"]) rfl (fun _ q => q) (by show _ ≤ 100; decide) rfl fun H2 e2 => sq_yesS (a_inS (zs := ["sum", "sums"]) rfl (fun _ q => q) (by show _ ≤ 100; decide) rfl) fun H3 e3 => sums (ts.map Prod.fst) a c g rfl ga gc gg (by simp; exact hz0 _ _ rfl) ?_ H3 ((e1.trans e2).trans e3)
    rw [List.map_map]
    rfl
  | not  =>
    obtain ⟨f1, r1, e1, h1, e2⟩ := hF
    cases e2; cases e1
    refine in1 (zs := ["add", "sub", "mul"]) rfl (fun _ q => q) (by show _ ≤ 100; decide) rfl fun H1 e1 => in1 (zs := ["div", "rest"]) rfl (fun _ q => q) (by show _ ≤ 100; decide) rfl fun H2 e2 => in1 (zs := ["sum", "sums"]) rfl (fun _ q => q) (by show _ ≤ 100; decide) rfl fun H3 e3 => sq_no (a_sg rfl rfl) (sq_no (a_sg rfl rfl) (sq_no (a_sg rfl rfl) (ones _ rfl (hz0 _ _ rfl) (fun _ => rfl) H3 ((e1.trans e2).trans e3))))
  | first k l =>
    obtain ⟨f1, r1, e1, h1, e2⟩ := hF
    cases e2; cases e1
    refine in1 (zs := ["add", "sub", "mul"]) rfl (fun _ q => q) (by show _ ≤ 100; decide) rfl fun H1 e1 => in1 (zs := ["div", "rest"]) rfl (fun _ q => q) (by show _ ≤ 100; decide) rfl fun H2 e2 => in1 (zs := ["sum", "sums"]) rfl (fun _ q => q) (by show _ ≤ 100; decide) rfl fun H3 e3 => sq_no (a_sg rfl rfl) (sq_no (a_sg rfl rfl) (sq_no (a_sg rfl rfl) (ones _ rfl (hz0 _ _ rfl) (fun _ => rfl) H3 ((e1.trans e2).trans e3))))
  | second k l =>
    obtain ⟨f1, r1, e1, h1, e2⟩ := hF
    cases e2; cases e1
    refine in1 (zs := ["add", "sub", "mul"]) rfl (fun _ q => q) (by show _ ≤ 100; decide) rfl fun H1 e1 => in1 (zs := ["div", "rest"]) rfl (fun _ q => q) (by show _ ≤ 100; decide) rfl fun H2 e2 => in1 (zs := ["sum", "sums"]) rfl (fun _ q => q) (by show _ ≤ 100; decide) rfl fun H3 e3 => sq_no (a_sg rfl rfl) (sq_no (a_sg rfl rfl) (sq_no (a_sg rfl rfl) (ones _ rfl (hz0 _ _ rfl) (fun _ => rfl) H3 ((e1.trans e2).trans e3))))
  | one k =>
    obtain ⟨f1, r1, e1, h1, e2⟩ := hF
    cases e2; cases e1
    refine in1 (zs := ["add", "sub", "mul"]) rfl (fun _ q => q) (by show _ ≤ 100; decide) rfl fun H1 e1 => in1 (zs := ["div", "rest"]) rfl (fun _ q => q) (by show _ ≤ 100; decide) rfl fun H2 e2 => in1 (zs := ["sum", "sums"]) rfl (fun _ q => q) (by show _ ≤ 100; decide) rfl fun H3 e3 => sq_no (a_sg rfl rfl) (sq_no (a_sg rfl rfl) (sq_no (a_sg rfl rfl) (ones _ rfl (hz0 _ _ rfl) (fun _ => rfl) H3 ((e1.trans e2).trans e3))))
  | long k =>
    obtain ⟨f1, r1, e1, h1, e2⟩ := hF
    cases e2; cases e1
    refine in1 (zs := ["add", "sub", "mul"]) rfl (fun _ q => q) (by show _ ≤ 100; decide) rfl fun H1 e1 => in1 (zs := ["div", "rest"]) rfl (fun _ q => q) (by show _ ≤ 100; decide) rfl fun H2 e2 => in1 (zs := ["sum", "sums"]) rfl (fun _ q => q) (by show _ ≤ 100; decide) rfl fun H3 e3 => sq_no (a_sg rfl rfl) (sq_no (a_sg rfl rfl) (sq_no (a_sg rfl rfl) (ones _ rfl (hz0 _ _ rfl) (fun _ => rfl) H3 ((e1.trans e2).trans e3))))
  | less  =>
    obtain ⟨f1, r1, e1, f2, r2, e2, e3⟩ : ∃ f1 r1, fs = f1 :: r1 ∧ ∃ f2 r2, r1 = f2 :: r2 ∧ r2 = [] := by
      obtain ⟨f1, r1, e1, h1, f2, r2, e2, h2, e3⟩ := hF
      exact ⟨f1, r1, e1, f2, r2, e2, e3⟩
    cases e3; cases e2; cases e1
    refine in1 (zs := ["add", "sub", "mul"]) rfl (fun _ q => q) (by show _ ≤ 100; decide) rfl fun H1 e1 => in1 (zs := ["div", "rest"]) rfl (fun _ q => q) (by show _ ≤ 100; decide) rfl fun H2 e2 => in1 (zs := ["sum", "sums"]) rfl (fun _ q => q) (by show _ ≤ 100; decide) rfl fun H3 e3 => sq_no (a_sg rfl rfl) (sq_no (a_sg rfl rfl) (sq_no (a_sg rfl rfl) (twos _ _ rfl rfl H3 ((e1.trans e2).trans e3))))
  | sameN  =>
    obtain ⟨f1, r1, e1, f2, r2, e2, e3⟩ : ∃ f1 r1, fs = f1 :: r1 ∧ ∃ f2 r2, r1 = f2 :: r2 ∧ r2 = [] := by
      obtain ⟨f1, r1, e1, h1, f2, r2, e2, h2, e3⟩ := hF
      exact ⟨f1, r1, e1, f2, r2, e2, e3⟩
    cases e3; cases e2; cases e1
    refine in1 (zs := ["add", "sub", "mul"]) rfl (fun _ q => q) (by show _ ≤ 100; decide) rfl fun H1 e1 => in1 (zs := ["div", "rest"]) rfl (fun _ q => q) (by show _ ≤ 100; decide) rfl fun H2 e2 => in1 (zs := ["sum", "sums"]) rfl (fun _ q => q) (by show _ ≤ 100; decide) rfl fun H3 e3 => sq_no (a_sg rfl rfl) (sq_no (a_sg rfl rfl) (sq_no (a_sg rfl rfl) (twos _ _ rfl rfl H3 ((e1.trans e2).trans e3))))
  | sameT  =>
    obtain ⟨f1, r1, e1, f2, r2, e2, e3⟩ : ∃ f1 r1, fs = f1 :: r1 ∧ ∃ f2 r2, r1 = f2 :: r2 ∧ r2 = [] := by
      obtain ⟨f1, r1, e1, h1, f2, r2, e2, h2, e3⟩ := hF
      exact ⟨f1, r1, e1, f2, r2, e2, e3⟩
    cases e3; cases e2; cases e1
    refine in1 (zs := ["add", "sub", "mul"]) rfl (fun _ q => q) (by show _ ≤ 100; decide) rfl fun H1 e1 => in1 (zs := ["div", "rest"]) rfl (fun _ q => q) (by show _ ≤ 100; decide) rfl fun H2 e2 => in1 (zs := ["sum", "sums"]) rfl (fun _ q => q) (by show _ ≤ 100; decide) rfl fun H3 e3 => sq_no (a_sg rfl rfl) (sq_no (a_sg rfl rfl) (sq_no (a_sg rfl rfl) (twos _ _ rfl rfl H3 ((e1.trans e2).trans e3))))
  | both  =>
    obtain ⟨f1, r1, e1, f2, r2, e2, e3⟩ : ∃ f1 r1, fs = f1 :: r1 ∧ ∃ f2 r2, r1 = f2 :: r2 ∧ r2 = [] := by
      obtain ⟨f1, r1, e1, h1, f2, r2, e2, h2, e3⟩ := hF
      exact ⟨f1, r1, e1, f2, r2, e2, e3⟩
    cases e3; cases e2; cases e1
    refine in1 (zs := ["add", "sub", "mul"]) rfl (fun _ q => q) (by show _ ≤ 100; decide) rfl fun H1 e1 => in1 (zs := ["div", "rest"]) rfl (fun _ q => q) (by show _ ≤ 100; decide) rfl fun H2 e2 => in1 (zs := ["sum", "sums"]) rfl (fun _ q => q) (by show _ ≤ 100; decide) rfl fun H3 e3 => sq_no (a_sg rfl rfl) (sq_no (a_sg rfl rfl) (sq_no (a_sg rfl rfl) (twos _ _ rfl rfl H3 ((e1.trans e2).trans e3))))
  | pair k l =>
    obtain ⟨f1, r1, e1, f2, r2, e2, e3⟩ : ∃ f1 r1, fs = f1 :: r1 ∧ ∃ f2 r2, r1 = f2 :: r2 ∧ r2 = [] := by
      obtain ⟨f1, r1, e1, h1, f2, r2, e2, h2, e3⟩ := hF
      exact ⟨f1, r1, e1, f2, r2, e2, e3⟩
    cases e3; cases e2; cases e1
    refine in1 (zs := ["add", "sub", "mul"]) rfl (fun _ q => q) (by show _ ≤ 100; decide) rfl fun H1 e1 => in1 (zs := ["div", "rest"]) rfl (fun _ q => q) (by show _ ≤ 100; decide) rfl fun H2 e2 => in1 (zs := ["sum", "sums"]) rfl (fun _ q => q) (by show _ ≤ 100; decide) rfl fun H3 e3 => sq_no (a_sg rfl rfl) (sq_no (a_sg rfl rfl) (sq_no (a_sg rfl rfl) (twos _ _ rfl rfl H3 ((e1.trans e2).trans e3))))
  | pick k =>
    obtain ⟨f1, r1, e1, f2, r2, e2, e3⟩ : ∃ f1 r1, fs = f1 :: r1 ∧ ∃ f2 r2, r1 = f2 :: r2 ∧ r2 = [] := by
      obtain ⟨f1, r1, e1, h1, f2, r2, e2, h2, e3⟩ := hF
      exact ⟨f1, r1, e1, f2, r2, e2, e3⟩
    cases e3; cases e2; cases e1
    refine in1 (zs := ["add", "sub", "mul"]) rfl (fun _ q => q) (by show _ ≤ 100; decide) rfl fun H1 e1 => in1 (zs := ["div", "rest"]) rfl (fun _ q => q) (by show _ ≤ 100; decide) rfl fun H2 e2 => in1 (zs := ["sum", "sums"]) rfl (fun _ q => q) (by show _ ≤ 100; decide) rfl fun H3 e3 => sq_no (a_sg rfl rfl) (sq_no (a_sg rfl rfl) (sq_no (a_sg rfl rfl) (twos _ _ rfl rfl H3 ((e1.trans e2).trans e3))))
  | join k =>
    obtain ⟨f1, r1, e1, f2, r2, e2, e3⟩ : ∃ f1 r1, fs = f1 :: r1 ∧ ∃ f2 r2, r1 = f2 :: r2 ∧ r2 = [] := by
      obtain ⟨f1, r1, e1, h1, f2, r2, e2, h2, e3⟩ := hF
      exact ⟨f1, r1, e1, f2, r2, e2, e3⟩
    cases e3; cases e2; cases e1
    refine in1 (zs := ["add", "sub", "mul"]) rfl (fun _ q => q) (by show _ ≤ 100; decide) rfl fun H1 e1 => in1 (zs := ["div", "rest"]) rfl (fun _ q => q) (by show _ ≤ 100; decide) rfl fun H2 e2 => in1 (zs := ["sum", "sums"]) rfl (fun _ q => q) (by show _ ≤ 100; decide) rfl fun H3 e3 => sq_no (a_sg rfl rfl) (sq_no (a_sg rfl rfl) (sq_no (a_sg rfl rfl) (twos _ _ rfl rfl H3 ((e1.trans e2).trans e3))))
  | keep k =>
    obtain ⟨f1, r1, e1, f2, r2, e2, e3⟩ : ∃ f1 r1, fs = f1 :: r1 ∧ ∃ f2 r2, r1 = f2 :: r2 ∧ r2 = [] := by
      obtain ⟨f1, r1, e1, h1, f2, r2, e2, h2, e3⟩ := hF
      exact ⟨f1, r1, e1, f2, r2, e2, e3⟩
    cases e3; cases e2; cases e1
    refine in1 (zs := ["add", "sub", "mul"]) rfl (fun _ q => q) (by show _ ≤ 100; decide) rfl fun H1 e1 => in1 (zs := ["div", "rest"]) rfl (fun _ q => q) (by show _ ≤ 100; decide) rfl fun H2 e2 => in1 (zs := ["sum", "sums"]) rfl (fun _ q => q) (by show _ ≤ 100; decide) rfl fun H3 e3 => sq_no (a_sg rfl rfl) (sq_no (a_sg rfl rfl) (sq_no (a_sg rfl rfl) (twos _ _ rfl rfl H3 ((e1.trans e2).trans e3))))
  | cut k =>
    obtain ⟨f1, r1, e1, f2, r2, e2, e3⟩ : ∃ f1 r1, fs = f1 :: r1 ∧ ∃ f2 r2, r1 = f2 :: r2 ∧ r2 = [] := by
      obtain ⟨f1, r1, e1, h1, f2, r2, e2, h2, e3⟩ := hF
      exact ⟨f1, r1, e1, f2, r2, e2, e3⟩
    cases e3; cases e2; cases e1
    refine in1 (zs := ["add", "sub", "mul"]) rfl (fun _ q => q) (by show _ ≤ 100; decide) rfl fun H1 e1 => in1 (zs := ["div", "rest"]) rfl (fun _ q => q) (by show _ ≤ 100; decide) rfl fun H2 e2 => in1 (zs := ["sum", "sums"]) rfl (fun _ q => q) (by show _ ≤ 100; decide) rfl fun H3 e3 => sq_no (a_sg rfl rfl) (sq_no (a_sg rfl rfl) (sq_no (a_sg rfl rfl) (twos _ _ rfl rfl H3 ((e1.trans e2).trans e3))))
  | most =>
    have hz := hz0 _ _ rfl
    obtain ⟨f1, r1, e1, h1, e2⟩ := hF
    cases e2; cases e1
    obtain ⟨a, c, y, rfl, ga, gc, _⟩ := h1
    refine in1 (zs := ["add", "sub", "mul"]) rfl (fun _ q => q) (by show _ ≤ 100; decide) rfl fun H1 e1 => in1 (zs := ["div", "rest"]) rfl (fun _ q => q) (by show _ ≤ 100; decide) rfl fun H2 e2 => in1 (zs := ["sum", "sums"]) rfl (fun _ q => q) (by show _ ≤ 100; decide) rfl fun H3 e3 => sq_yes (a_sg rfl rfl) ?_
    have e := ((e1.trans e2).trans e3)
    have s1 := sG.trans e
    refine ⟨_, rfl, b, _, 0, _, rfl, rfl, SqL.of (e _ _ hb), atI_nat (j := 0) rfl, a, _, 0, _, rfl, rfl, SqT.of (s1 _ _ ga), atI_nat (j := 0) rfl, c, rfl, ⟨_, SqL.of (s1 _ _ gc)⟩, fun D nD => ?_⟩
    refine lc_mapL (SqL.of (s1 _ _ gc)) (ts.map fun t => wV (Sg.most.wd t)) (by simp) (by simp; exact hz) nD (fun _ => rfl) (fun i v y Hc KK hv hy e2 kk => ?_) fun H2 e2 hD => q D H2 (e.trans e2) ((Xt.of_same (M := No) (Same.refl H) e).free nD) hD
    obtain ⟨t, hti, rfl⟩ := map_some hy
    rw [List.map_map] at hv
    have ev := map_at hti hv
    subst ev
    have kk := kk _ (Same.refl _)
    have kk : KK (wV (if (t.1 : List Int).length = 0 then some "empty" else none)) Hc := kk
    by_cases hc : (t.1 : List Int).length = 0
    · rw [if_pos hc] at kk
      exact ⟨_, rfl, rfl, true, congrArg V.bl (decide_eq_true (show V.int (((t.1 : List Int).length : Nat) : Int) = V.int 0 by rw [hc]; rfl)), iteT kk⟩
    · rw [if_neg hc] at kk
      exact ⟨_, rfl, rfl, false, congrArg V.bl (decide_eq_false (show ¬ V.int (((t.1 : List Int).length : Nat) : Int) = V.int 0 from fun z => hc (by have := V.int.inj z; omega))), iteF kk⟩
  | upto =>
    have hz := hz0 _ _ rfl
    obtain ⟨f1, r1, e1, h1, e2⟩ := hF
    cases e2; cases e1
    obtain ⟨a, rfl, ga⟩ := h1
    refine in1 (zs := ["add", "sub", "mul"]) rfl (fun _ q => q) (by show _ ≤ 100; decide) rfl fun H1 e1 => in1 (zs := ["div", "rest"]) rfl (fun _ q => q) (by show _ ≤ 100; decide) rfl fun H2 e2 => in1 (zs := ["sum", "sums"]) rfl (fun _ q => q) (by show _ ≤ 100; decide) rfl fun H3 e3 => sq_no (a_sg rfl rfl) (sq_yes (a_sg rfl rfl) ?_)
    have e := ((e1.trans e2).trans e3)
    have s1 := sG.trans e
    refine ⟨_, rfl, b, _, 0, _, rfl, rfl, SqL.of (e _ _ hb), atI_nat (j := 0) rfl, ?_⟩
    refine ⟨a, _, 200, rfl, s1 _ _ ga, by rw [List.length_map]; exact hz, fun p H4 e4 np hp => q p H4 (e.trans e4) ((Xt.of_same (M := No) (Same.refl H) e).free np) ?_⟩
    rw [hp, List.map_map]
    rfl
  | flat k =>
    have hz := hz0 _ _ rfl
    have ht : tot (.row (.row k)) (ts.map Prod.fst) + 0 ≤ BIG := ht
    obtain ⟨f1, r1, e1, h1, e2⟩ := hF
    cases e2; cases e1
    obtain ⟨a, c, y, rfl, ga, gc, a2, c2, y2, rfl, ga2, gc2, _⟩ := h1
    refine in1 (zs := ["add", "sub", "mul"]) rfl (fun _ q => q) (by show _ ≤ 100; decide) rfl fun H1 e1 => in1 (zs := ["div", "rest"]) rfl (fun _ q => q) (by show _ ≤ 100; decide) rfl fun H2 e2 => in1 (zs := ["sum", "sums"]) rfl (fun _ q => q) (by show _ ≤ 100; decide) rfl fun H3 e3 => sq_no (a_sg rfl rfl) (sq_no (a_sg rfl rfl) (sq_yes (a_sg rfl rfl) ?_))
    have e := ((e1.trans e2).trans e3)
    have s1 := sG.trans e
    refine ⟨_, rfl, b, _, 0, _, rfl, rfl, SqL.of (e _ _ hb), atI_nat (j := 0) rfl, a, _, 0, _, rfl, rfl, SqT.of (s1 _ _ ga), atI_nat (j := 0) rfl, ?_⟩
    refine ⟨_, rfl, b, _, 0, _, rfl, rfl, SqL.of (e _ _ hb), atI_nat (j := 0) rfl, a, _, 1, _, rfl, rfl, SqT.of (s1 _ _ ga), atI_nat (j := 1) rfl, a2, _, 0, _, rfl, rfl, SqT.of (s1 _ _ ga2), atI_nat (j := 0) rfl, ?_⟩
    have lens : ((ts.map Prod.fst).map fun r => List.map (fun u => ((List.length u : Nat) : Int)) r).flatten.map V.int = List.map (fun r => V.int (List.length r : Nat)) (List.flatten (ts.map Prod.fst)) := by
      rw [← List.map_flatten, List.map_map]
      rfl
    refine ⟨G, c, c2, ((ts.map Prod.fst).map fun r => List.map (fun u => ((List.length u : Nat) : Int)) r).map (fun r => r.map V.int), rfl, s1, ?_, ?_, by simp; exact hz, fun p rs G1 H4 x1 g1 hr1 => ?_⟩
    · rw [rows_len, List.map_map]
      have h2 := s1 _ _ gc
      rw [h2]
      refine congrArg (fun z => some (HO.lst z)) (List.map_congr_left fun r _ => ?_)
      show V.int _ = V.int (((List.map (fun u => ((List.length u : Nat) : Int)) r).length : Nat) : Int)
      rw [List.length_map]
    · rw [rows_int, lens]
      exact s1 _ _ gc2
    have hrl := Paired.length hr1
    rw [List.length_map, List.length_map, List.length_map] at hrl
    refine ⟨p, rfl, ⟨_, SqL.of (x1.sub _ _ g1)⟩, fun D nD => ?_⟩
    refine lc_mapL (SqL.of (x1.sub _ _ g1)) ((ts.map fun t => ((List.length (List.flatten t.1) : Nat) : Int)).map V.int) (by rw [List.length_map, List.length_map]; exact hrl) (by omega) nD (fun _ => rfl) (fun i v y Hc KK hv hy e5 kk => ?_) fun H5 e5 hD => ?_
    · obtain ⟨u, hu, rfl⟩ := map_some hy
      obtain ⟨t, hti, rfl⟩ := map_some hu
      obtain ⟨vr, hvr, c3, rfl, gc3⟩ := pr_getR hr1 hv
      rw [List.map_map, List.map_map] at hvr
      have ev := map_at hti hvr
      subst ev
      refine ⟨_, rfl, c3, List.map (fun u => ((List.length u : Nat) : Int)) t.1, rfl, SqL.of (e5 _ _ (x1.sub _ _ gc3)), ?_⟩
      rw [sum_natlens]
      exact kk _ (Same.refl _)
    · refine ⟨D, _, 200, rfl, hD, by rw [List.length_map]; exact hz, fun p6 H6 e6 np hp => q p6 H6 (((e.trans x1.same).trans e5).trans e6) ((Xt.of_same (M := No) (Same.refl H) ((e.trans x1.same).trans e5)).free np) ?_⟩
      rw [hp, List.map_map]
      rfl
end
end Bw
namespace Bw
open PySem PySem.Spec PyProof.Rows L2
open C8 (Cal pe_c)
theorem aheads_len : ∀ (xs : List Int) (a : Int), (aheads a xs).length = xs.length
  | [], _ => rfl
  | x :: xs, a => by
    rw [show aheads a (x :: xs) = a :: aheads (a + x) xs from rfl, List.length_cons, List.length_cons, aheads_len xs]
theorem foldl_max_ge : ∀ (r : List Int) (x : Int), x ≤ r.foldl max x ∧ ∀ y ∈ r, y ≤ r.foldl max x
  | [], x => ⟨Int.le_refl x, fun _ h => by cases h⟩
  | z :: r, x => by
    obtain ⟨h1, h2⟩ := foldl_max_ge r (max x z)
    rw [List.foldl_cons]
    refine ⟨by omega, fun y hy => ?_⟩
    rcases List.mem_cons.mp hy with rfl | hy
    · omega
    · exact h2 y hy
theorem foldl_max_mem : ∀ (r : List Int) (x : Int), r.foldl max x ∈ x :: r
  | [], x => List.mem_cons_self
  | z :: r, x => by
    have h := foldl_max_mem r (max x z)
    rw [List.foldl_cons]
    rcases List.mem_cons.mp h with h | h
    · rw [h]
      by_cases hz : x ≤ z
      · rw [Int.max_eq_right hz]
        exact List.mem_cons_of_mem _ List.mem_cons_self
      · rw [Int.max_eq_left (by omega)]
        exact List.mem_cons_self
    · exact List.mem_cons_of_mem _ (List.mem_cons_of_mem _ h)
theorem maxL_of {r : List Int} {m : Int} (h : m ∈ r) (hm : ∀ y, y ∈ r → y ≤ m) : m = maxL r := by
  cases r with
  | nil => cases h
  | cons x r =>
    have h1 := foldl_max_mem r x
    have h2 := hm _ h1
    obtain ⟨h3, h4⟩ := foldl_max_ge r x
    have h5 : m ≤ maxL (x :: r) := by
      rcases List.mem_cons.mp h with rfl | h
      · exact h3
      · exact h4 m h
    have h6 : maxL (x :: r) ≤ m := h2
    omega
def upV (x : Int) : List Int := (List.range x.toNat).map Int.ofNat
theorem upV_V (x : Int) (h : 0 ≤ x) : (rgV 0 x) = (upV x).map V.int := by
  obtain ⟨n, rfl⟩ : ∃ n : Nat, x = (n : Int) := ⟨x.toNat, by omega⟩
  rw [rgV_range]
  unfold upV
  rw [List.map_map, Int.toNat_natCast]
  rfl
theorem flat_map_fst {α β : Type} (f : α → β) (ts : List α) : (ts.map fun t => [f t]).flatten = ts.map f := by
  induction ts with
  | nil => rfl
  | cons t ts ih =>
    rw [List.map_cons, List.flatten_cons, ih]
    rfl
theorem flat_map2 {α β : Type} (f : α → List (List β)) (ts : List α) : (ts.map fun t => (f t).flatten).flatten = ((ts.map f).flatten).flatten := by
  induction ts with
  | nil => rfl
  | cons t ts ih =>
    rw [List.map_cons, List.flatten_cons, List.map_cons, List.flatten_cons, List.flatten_append, ih]
section
variable {P : Program} {w : World} {K : PySem.W.Frag} {mg : Str → Option Value} {base : Heap}
/-! ### counted, summed_ahead -/
def spCounted : Sp := fun vs H Q _ => ∃ (G : Hp) (a : Addr) (xs : List Int), vs = [.ref a] ∧ Same G H ∧ G a = some (.lst (xs.map V.int)) ∧ (∀ x ∈ xs, 0 ≤ x ∧ x ≤ 200) ∧ (xs.map upV).flatten.length ≤ BIG ∧ ∀ (v : V) (G' H' : Hp), X0 G H G' H' → FRep G' (.row .num) (xs.map upV) v → Q v H'
abbrev N_counted_wide : List PySem.Str := ["numbers", "things", "number"]
theorem sc_counted_wide : FnScope N_counted_wide ["numbers"] (defScope s_counted_wide) := ⟨rfl, rfl, rfl, by decide +kernel, rfl, by decide +kernel, by decide +kernel⟩
theorem c_counted_wide (T : Txt K mg) : Cal P w K mg base 1 "counted_wide" spCounted [] := by
  refine cal_of (d := d_counted_wide) T (mem_fn 57) rfl (mem_fa 57) rfl rfl sc_counted_wide (fun _ _ _ _ _ _ us hl => match us, hl with | [_], _ => rfl) (fun vs H Q E h => ?_) (fun cdv A outer s H vs Q E f hr h => ?_)
  · obtain ⟨G, a, xs, rfl, _⟩ := h
    rfl
  obtain ⟨G, a, xs, rfl, sG, ga, hx, hz, q⟩ := h
  refine ⟨_, (pss_cons (ps_set (i := 1) sc_counted_wide.nd rfl (.inl rfl) (pe_lst pa_nil))
      (pss_cons (ps_for PassesOwn.never rfl (pi_list (pv 0)) (pg_name (i := 2) sc_counted_wide.nd rfl (.inl rfl)) (pss_one (ps_expr (pe_bm PySem.F.plainAttrs_list PySem.F.slot_list_extend PySem.F.type_list_extend mt_extend (pv 1) (pa_cons (pe_listRg rfl rfl T.list (prg_1 rfl T.range (pv 2))) pa_nil)))))
      (pss_one (ps_ret (pe_tup (pa_cons (pv 0) (pa_cons (pv 1) pa_nil))))))), ?_⟩
  refine ⟨Nat.zero_le _, fun p np => ?_⟩
  refine ⟨_, rfl, a, rfl, ⟨_, SqL.of (same_upd np _ _ (sG _ _ ga))⟩, ?_⟩
  refine for_list (xs := xs.map V.int) (fun i σ H' => ∃ y : Option V, σ = [some (.ref a), some (.ref p), y] ∧ Same H H' ∧ H' p = some (.lst (((xs.map upV).take i).flatten.map V.int))) ⟨none, rfl, same_upd np, upd_same⟩ (fun i σ H' _ hv => ?_) (fun i v σ H' hxi hv => ?_) fun σ H' hv => ?_
  · obtain ⟨y, _, e, _⟩ := hv
    exact SqL.of (e _ _ (sG _ _ ga))
  · obtain ⟨y, rfl, e, hp⟩ := hv
    obtain ⟨x, hxe, rfl⟩ := map_some hxi
    have hb := hx x (List.mem_of_getElem? hxe)
    have b1 : BIG ≤ 16777216 := by decide
    have hu : (xs.map upV)[i]? = some (upV x) := by rw [List.getElem?_map, hxe]; rfl
    have hl : ((xs.map upV).take i).flatten.length + (upV x).length ≤ BIG := by
      have h1 := congrArg List.length (flat_take hu)
      rw [List.length_append, List.length_append] at h1
      omega
    refine ⟨_, rfl, .inl ⟨rfl, _, SqL.of hp⟩, ?_⟩
    refine ⟨_, rfl, x, rfl, .of_le (by omega) (by omega) (by omega) (by omega), fun c nc => ?_⟩
    have npc : p ≠ c := fun z => by
      rw [← z, hp] at nc
      cases nc
    rw [upV_V x hb.1]
    refine ⟨p, c, _, _, rfl, rfl, by rw [upd_ne npc]; exact hp, upd_same, by rw [List.length_map, List.length_map]; exact big_le hl, ?_⟩
    refine ⟨_, rfl, same_set (e.trans (same_upd nc)) np, ?_⟩
    rw [upd_same, take_next hu, List.flatten_append, List.map_append]
    simp
  · obtain ⟨y, rfl, e, hp⟩ := hv
    rw [List.take_of_length_le (by rw [List.length_map, List.length_map]; exact Nat.le_refl _)] at hp
    refine ⟨_, rfl, _, rfl, by show 2 ≤ sizeLine; decide, fun t nt => ?_⟩
    have x1 : X0 G H (upd G p (.lst ((xs.map upV).flatten.map V.int))) H' := Xt.pub0 sG e np hp
    have x2 : X0 _ _ (upd (upd G p (.lst ((xs.map upV).flatten.map V.int))) t (.tup [.ref a, .ref p])) _ := Xt.new x1.sub nt
    refine q _ _ _ (x1.trans x2) ⟨t, a, .ref p, rfl, upd_same, x2.g _ _ (x1.g _ _ ?_), p, rfl, x2.g _ _ upd_same⟩
    rw [ga, List.map_map]
    refine congrArg (fun z => some (HO.lst z)) (List.map_congr_left fun x hxm => ?_)
    have hb := hx x hxm
    show V.int x = V.int (((upV x).length : Nat) : Int)
    unfold upV
    rw [List.length_map, List.length_range, Int.toNat_of_nonneg hb.1]
def spAhead : Sp := fun vs H Q _ => ∃ (a : Addr) (xs : List Int), vs = [.ref a] ∧ H a = some (.lst (xs.map V.int)) ∧ xs.length ≤ BIG ∧ ∀ p H', Same H H' → H p = none → H' p = some (.lst ((aheads 0 xs).map V.int)) → Q (.ref p) H'
abbrev N_summed_ahead : List PySem.Str := ["row", "found", "total", "number"]
theorem sc_summed_ahead : FnScope N_summed_ahead ["row"] (defScope s_summed_ahead) := ⟨rfl, rfl, rfl, by decide +kernel, rfl, by decide +kernel, by decide +kernel⟩
theorem c_summed_ahead (T : Txt K mg) : Cal P w K mg base 1 "summed_ahead" spAhead [] := by
  refine cal_of (d := d_summed_ahead) T (mem_fn 19) rfl (mem_fa 19) rfl rfl sc_summed_ahead (fun _ _ _ _ _ _ us hl => match us, hl with | [_], _ => rfl) (fun vs H Q E h => ?_) (fun cdv A outer s H vs Q E f hr h => ?_)
  · obtain ⟨a, xs, rfl, _⟩ := h
    rfl
  obtain ⟨a, xs, rfl, ha, hz, q⟩ := h
  refine ⟨_, (pss_cons (ps_set (i := 1) sc_summed_ahead.nd rfl (.inl rfl) (pe_lst pa_nil))
      (pss_cons (ps_set (i := 2) sc_summed_ahead.nd rfl (.inl rfl) pe_int)
      (pss_cons (ps_for PassesOwn.never rfl (pi_list (pv 0)) (pg_name (i := 3) sc_summed_ahead.nd rfl (.inl rfl)) (pss_cons (ps_expr (pe_bm PySem.F.plainAttrs_list PySem.F.slot_list_append PySem.F.type_list_append mt_append (pv 1) (pa_cons (pv 2) pa_nil)))
      (pss_one (ps_set (i := 2) sc_summed_ahead.nd rfl (.inl rfl) (pe_op op_add (pv 2) (pv 3))))))
      (pss_one (ps_ret (pv 1)))))), ?_⟩
  refine ⟨Nat.zero_le _, fun p np => ?_⟩
  refine ⟨_, rfl, a, rfl, ⟨_, SqL.of (same_upd np _ _ ha)⟩, ?_⟩
  refine for_list (xs := xs.map V.int) (fun i σ H' => ∃ (y : Option V) (acc : List Int) (t : Int), σ = [some (.ref a), some (.ref p), some (.int t), y] ∧ Same H H' ∧ H' p = some (.lst (acc.map V.int)) ∧ acc.length = i ∧ aheads 0 xs = acc ++ aheads t (xs.drop i)) ⟨none, [], 0, rfl, same_upd np, upd_same, rfl, rfl⟩ (fun i σ H' _ hv => ?_) (fun i v σ H' hxi hv => ?_) fun σ H' hv => ?_
  · obtain ⟨y, acc, t, _, e, _⟩ := hv
    exact SqL.of (e _ _ ha)
  · obtain ⟨y, acc, t, rfl, e, hp, hl, hA⟩ := hv
    obtain ⟨x, hxe, rfl⟩ := map_some hxi
    have hi : i < xs.length := (List.getElem?_eq_some_iff.mp hxe).1
    rw [drop_cons hxe] at hA
    refine ⟨_, rfl, .inl ⟨rfl, _, SqL.of hp⟩, _, rfl, p, _, _, rfl, rfl, hp, by rw [List.length_map]; exact big_lt (by omega), ?_⟩
    refine ⟨_, rfl, _, rfl, _, _, rfl, rfl, _, acc ++ [t], t + x, rfl, same_set e np, ?_, by rw [List.length_append, hl]; rfl, ?_⟩
    · rw [upd_same, List.map_append]
      rfl
    · rw [hA, List.append_assoc]
      rfl
  · obtain ⟨y, acc, t, rfl, e, hp, hl, hA⟩ := hv
    rw [List.length_map, List.drop_length] at hA
    rw [show aheads t [] = [] from rfl, List.append_nil] at hA
    refine ⟨_, rfl, q p H' e np ?_⟩
    rw [hA]
    exact hp
/-! ### of_numbers -/
def spOfNumbers : Sp := fun vs H Q _ => ∃ (G : Hp) (s : Sg) (c g : Addr) (rows : List (List Int)), vs = [.str s.nm, .ref c, .ref g] ∧ Same G H ∧ G c = some (.lst (rows.map fun r => V.int (r.length : Nat))) ∧ G g = some (.lst (rows.flatten.map V.int)) ∧ rows.length ≤ BIG ∧ rows.flatten.length ≤ BIG ∧
  ((s = .sum ∧ ∀ (v : V) (G' H' : Hp), X0 G H G' H' → FRep G' .num (rows.map List.sum) v → Q v H') ∨ (s = .most ∧ (∀ r ∈ rows, r.length ≠ 0) ∧ ∀ (v : V) (G' H' : Hp), X0 G H G' H' → FRep G' .num (rows.map maxL) v → Q v H') ∨
    (s = .sums ∧ ∀ (v : V) (G' H' : Hp), X0 G H G' H' → FRep G' (.row .num) (rows.map (aheads 0)) v → Q v H'))
abbrev N_of_numbers : List PySem.Str := ["sign", "lengths", "numbers", "rows", "things", "row"]
theorem sc_of_numbers : FnScope N_of_numbers ["sign", "lengths", "numbers"] (defScope s_of_numbers) := ⟨rfl, rfl, rfl, by decide +kernel, rfl, by decide +kernel, by decide +kernel⟩
theorem aheads_flat : ∀ rows : List (List Int), (rows.map (aheads 0)).flatten.length = rows.flatten.length
  | [] => rfl
  | r :: rows => by rw [List.map_cons, List.flatten_cons, List.length_append, aheads_flat rows, aheads_len, List.flatten_cons, List.length_append]
theorem c_of_numbers (T : Txt K mg) (c_parted : Cal P w K mg base 1 "parted" spParted []) (c_summed_ahead : Cal P w K mg base 1 "summed_ahead" spAhead []) : Cal P w K mg base 2 "of_numbers" spOfNumbers [] := by
  refine cal_of (d := d_of_numbers) T (mem_fn 20) rfl (mem_fa 20) rfl rfl sc_of_numbers (fun _ _ _ _ _ _ us hl => match us, hl with | [_, _, _], _ => rfl) (fun vs H Q E h => ?_) (fun cdv A outer s H vs Q E f hr h => ?_)
  · obtain ⟨G, s, c, g, rows, rfl, _⟩ := h
    rfl
  obtain ⟨G, sg, c, g, rows, rfl, sG, gc, gg, hz, hzf, q⟩ := h
  refine ⟨_, (pss_cons (ps_set (i := 3) sc_of_numbers.nd rfl (.inl rfl) (pe_c c_parted hr (by decide) rfl (pa_cons (pv 1) (pa_cons (pv 2) pa_nil))))
      (pss_cons (ps_if (pt_cmpR op_eq (pv 0) pe_str (nomark _)) (pss_one (ps_ret (pe_lc (own := [("row", 5)]) rfl sc_of_numbers.nd (pi_list (pv 3)) (blkOk_by (N := N_of_numbers) (sc := defScope s_of_numbers) (by decide +kernel)) (fun _ _ _ _ _ => (pg_name (i := 5) sc_of_numbers.nd rfl (.inl rfl))) (fun _ _ _ _ _ => pts_nil) (fun _ _ _ _ _ => (e_sum T.sum (pv 5)))))) pss_nil)
      (pss_cons (ps_if (pt_cmpR op_eq (pv 0) pe_str (nomark _)) (pss_one (ps_ret (pe_lc (own := [("row", 5)]) rfl sc_of_numbers.nd (pi_list (pv 3)) (blkOk_by (N := N_of_numbers) (sc := defScope s_of_numbers) (by decide +kernel)) (fun _ _ _ _ _ => (pg_name (i := 5) sc_of_numbers.nd rfl (.inl rfl))) (fun _ _ _ _ _ => pts_nil) (fun _ _ _ _ _ => (e_max T.max (pv 5)))))) pss_nil)
      (pss_cons (ps_set (i := 4) sc_of_numbers.nd rfl (.inl rfl) (pe_lst pa_nil))
      (pss_cons (ps_for PassesOwn.never rfl (pi_list (pv 3)) (pg_name (i := 5) sc_of_numbers.nd rfl (.inl rfl)) (pss_one (ps_expr (pe_bm PySem.F.plainAttrs_list PySem.F.slot_list_extend PySem.F.type_list_extend mt_extend (pv 4) (pa_cons (pe_c c_summed_ahead hr (by decide) rfl (pa_cons (pv 5) pa_nil)) pa_nil)))))
      (pss_one (ps_ret (pe_tup (pa_cons (pv 1) (pa_cons (pv 4) pa_nil)))))))))), ?_⟩
  refine ⟨_, rfl, _, rfl, ?_⟩
  refine ⟨G, c, g, rows.map (fun r => r.map V.int), rfl, sG, by rw [rows_len]; exact sG _ _ gc, by rw [rows_int]; exact sG _ _ gg, by rw [List.length_map]; exact hz, fun p rs G1 H1 x1 g1 hr1 => ?_⟩
  have hrl := Paired.length hr1
  rw [List.length_map] at hrl
  have rowAt : ∀ (i : Nat) (v : V), rs[i]? = some v → ∃ (r : List Int) (c2 : Addr), rows[i]? = some r ∧ v = .ref c2 ∧ G1 c2 = some (.lst (r.map V.int)) := fun i v hv => by
    obtain ⟨vr, hvr, c2, rfl, gc2⟩ := pr_getR hr1 hv
    obtain ⟨r, hri, rfl⟩ := map_some hvr
    exact ⟨r, c2, hri, rfl, gc2⟩
  rcases q with ⟨rfl, q⟩ | ⟨rfl, hne, q⟩ | ⟨rfl, q⟩
  · refine sq_yes (a_sg rfl rfl) ?_
    refine ⟨_, rfl, p, rfl, ⟨_, SqL.of (x1.sub _ _ g1)⟩, fun D nD => ?_⟩
    refine lc_mapL (SqL.of (x1.sub _ _ g1)) ((rows.map List.sum).map V.int) (by rw [List.length_map, List.length_map]; exact hrl) (by omega) nD (fun _ => rfl) (fun i v y Hc KK hv hy e kk => ?_) fun H2 e2 hD => q _ _ _ (x1.trans (Xt.pub0 x1.sub e2 nD hD)) ⟨D, rfl, upd_same⟩
    obtain ⟨r, c2, hri, rfl, gc2⟩ := rowAt i v hv
    rw [List.map_map] at hy
    have ey := map_at hri hy
    subst ey
    exact ⟨_, rfl, c2, r, rfl, SqL.of (e _ _ (x1.sub _ _ gc2)), kk _ (Same.refl _)⟩
  · refine sq_no (a_sg rfl rfl) (sq_yes (a_sg rfl rfl) ?_)
    refine ⟨_, rfl, p, rfl, ⟨_, SqL.of (x1.sub _ _ g1)⟩, fun D nD => ?_⟩
    refine lc_mapL (SqL.of (x1.sub _ _ g1)) ((rows.map maxL).map V.int) (by rw [List.length_map, List.length_map]; exact hrl) (by omega) nD (fun _ => rfl) (fun i v y Hc KK hv hy e kk => ?_) fun H2 e2 hD => q _ _ _ (x1.trans (Xt.pub0 x1.sub e2 nD hD)) ⟨D, rfl, upd_same⟩
    obtain ⟨r, c2, hri, rfl, gc2⟩ := rowAt i v hv
    rw [List.map_map] at hy
    have ey := map_at hri hy
    subst ey
    have h0 := hne r (List.mem_of_getElem? hri)
    refine ⟨_, rfl, c2, r, rfl, SqL.of (e _ _ (x1.sub _ _ gc2)), by omega, fun m hm hb => ?_⟩
    rw [maxL_of hm hb]
    exact kk _ (Same.refl _)
  · refine sq_no (a_sg rfl rfl) (sq_no (a_sg rfl rfl) ?_)
    refine ⟨Nat.zero_le _, fun u nu => ?_⟩
    have e0 : Same H1 (upd H1 u (.lst [])) := same_upd nu
    refine ⟨_, rfl, p, rfl, ⟨_, SqL.of (e0 _ _ (x1.sub _ _ g1))⟩, ?_⟩
    refine for_list (xs := rs) (fun i σ H' => ∃ y : Option V, σ = [some (.str "sums"), some (.ref c), some (.ref g), some (.ref p), some (.ref u), y] ∧ Same H1 H' ∧ H' u = some (.lst (((rows.map (aheads 0)).take i).flatten.map V.int))) ⟨none, rfl, e0, upd_same⟩ (fun i σ H' _ hv => ?_) (fun i v σ H' hxi hv => ?_) fun σ H' hv => ?_
    · obtain ⟨y, _, e, _⟩ := hv
      exact SqL.of (e _ _ (x1.sub _ _ g1))
    · obtain ⟨y, rfl, e, hu⟩ := hv
      obtain ⟨r, c2, hri, rfl, gc2⟩ := rowAt i v hxi
      have hui : (rows.map (aheads 0))[i]? = some (aheads 0 r) := by rw [List.getElem?_map, hri]; rfl
      have hl : ((rows.map (aheads 0)).take i).flatten.length + (aheads 0 r).length ≤ BIG := by
        have h1 := congrArg List.length (flat_take hui)
        rw [List.length_append, List.length_append, aheads_flat] at h1
        omega
      have hrz : r.length ≤ BIG := by
        rw [aheads_len] at hl
        omega
      refine ⟨_, rfl, .inl ⟨rfl, _, SqL.of hu⟩, _, rfl, c2, r, rfl, e _ _ (x1.sub _ _ gc2), hrz, fun b H2 e2 nb hb => ?_⟩
      have hu2 := e2 _ _ hu
      refine ⟨u, b, _, _, rfl, rfl, hu2, hb, by rw [List.length_map, List.length_map]; exact big_le hl, ?_⟩
      refine ⟨_, rfl, same_set (e.trans e2) nu, ?_⟩
      rw [upd_same, take_next hui, List.flatten_append, List.map_append]
      simp
    · obtain ⟨y, rfl, e, hu⟩ := hv
      rw [← hrl, ← List.length_map (f := aheads 0), List.take_length] at hu
      refine ⟨_, rfl, _, rfl, by show 2 ≤ sizeLine; decide, fun t nt => ?_⟩
      have x2 := x1.trans (Xt.pub0 (M := No) x1.sub e nu hu)
      have x3 : X0 _ _ (upd (upd G1 u (.lst ((rows.map (aheads 0)).flatten.map V.int))) t (.tup [.ref c, .ref u])) _ := Xt.new x2.sub nt
      refine q _ _ _ (x2.trans x3) ⟨t, c, .ref u, rfl, upd_same, ?_, u, rfl, x3.g _ _ upd_same⟩
      rw [x3.g _ _ (x2.g _ _ gc), List.map_map]
      refine congrArg (fun z => some (HO.lst z)) (List.map_congr_left fun r _ => ?_)
      show V.int _ = V.int (((aheads 0 r).length : Nat) : Int)
      rw [aheads_len]
/-! ### one_parted -/
def spOne1 : Sp := fun vs H Q _ => ∃ (G : Hp) (s : Sg) (ts : List (Tys s.ks)) (f : V), vs = [.str s.nm, f, nV ts.length] ∧ Same G H ∧ FReps G s.ks ts [f] ∧ tots s.ks ts ≤ BIG ∧ tot s.res (ts.map s.vl) ≤ BIG ∧ (∀ t ∈ ts, s.wd t = none) ∧
  ∀ (v : V) (G' H' : Hp), X0 G H G' H' → FRep G' s.res (ts.map s.vl) v → Q v H'
abbrev N_one_parted : List PySem.Str := ["sign", "flat", "many", "truth", "row"]
theorem sc_one_parted : FnScope N_one_parted ["sign", "flat", "many"] (defScope s_one_parted) := ⟨rfl, rfl, rfl, by decide +kernel, rfl, by decide +kernel, by decide +kernel⟩
theorem far_none {i : Int} (h : farW i = none) : 0 ≤ i ∧ i ≤ 200 := by
  unfold farW at h
  by_cases c : (decide (0 ≤ i) && decide (i ≤ 200)) = true
  · rw [Bool.and_eq_true] at c
    exact ⟨of_decide_eq_true c.1, of_decide_eq_true c.2⟩
  · rw [if_neg c] at h
    cases h
theorem rep_one {α : Type} (ts : List α) (v : V) (n : Nat) (h : n = ts.length) : (List.replicate n [v]).flatten = ts.map fun _ => v := by
  subst h
  induction ts with
  | nil => rfl
  | cons t ts ih =>
    rw [List.length_cons, List.replicate_succ, List.flatten_cons, ih]
    rfl
theorem c_one_parted (T : Txt K mg) (c_counted_wide : Cal P w K mg base 1 "counted_wide" spCounted []) (c_parted : Cal P w K mg base 1 "parted" spParted []) (c_of_numbers : Cal P w K mg base 2 "of_numbers" spOfNumbers []) : Cal P w K mg base 3 "one_parted" spOne1 [] := by
  refine cal_of (d := d_one_parted) T (mem_fn 21) rfl (mem_fa 21) rfl rfl sc_one_parted (fun _ _ _ _ _ _ us hl => match us, hl with | [_, _, _], _ => rfl) (fun vs H Q E h => ?_) (fun cdv A outer s H vs Q E f hr h => ?_)
  · obtain ⟨G, s, ts, fl, rfl, _⟩ := h
    rfl
  obtain ⟨G, sg, ts, fl, rfl, sG, hF, ht, hto, hw, q⟩ := h
  refine ⟨_, (pss_cons (ps_if (pt_cmpR op_eq (pv 0) pe_str (nomark _)) (pss_one (ps_ret (pe_lc (own := [("truth", 3)]) rfl sc_one_parted.nd (pi_list (pv 1)) (blkOk_by (N := N_one_parted) (sc := defScope s_one_parted) (by decide +kernel)) (fun _ _ _ _ _ => (pg_name (i := 3) sc_one_parted.nd rfl (.inl rfl))) (fun _ _ _ _ _ => pts_nil) (fun _ _ _ _ _ => (pe_not (pv 3)))))) pss_nil)
      (pss_cons (ps_if (pt_cmpR op_eq (pv 0) pe_str (nomark _)) (pss_one (ps_ret (pe_ix i_tup (pv 1) pe_int (fun _ _ => rfl)))) pss_nil)
      (pss_cons (ps_if (pt_cmpR op_eq (pv 0) pe_str (nomark _)) (pss_one (ps_ret (pe_ix i_tup (pv 1) pe_int (fun _ _ => rfl)))) pss_nil)
      (pss_cons (ps_if (pt_cmpR op_eq (pv 0) pe_str (nomark _)) (pss_one (ps_ret (pe_tup (pa_cons (pe_op op_rep (pe_lst (pa_cons pe_int pa_nil)) (pv 2)) (pa_cons (pv 1) pa_nil))))) pss_nil)
      (pss_cons (ps_if (pt_cmpR op_eq (pv 0) pe_str (nomark _)) (pss_one (ps_ret (pe_c c_counted_wide hr (by decide) rfl (pa_cons (pv 1) pa_nil)))) pss_nil)
      (pss_cons (ps_if (pt_cmpR op_eq (pv 0) pe_str (nomark _)) (pss_one (ps_ret (pe_ix i_tup (pv 1) pe_int (fun _ _ => rfl)))) pss_nil)
      (pss_cons (ps_if (pt_cmpR op_eq (pv 0) pe_str (nomark _)) (pss_one (ps_ret (pe_tup (pa_cons (pe_lc (own := [("row", 4)]) rfl sc_one_parted.nd (pi_list (pe_c c_parted hr (by decide) rfl (pa_cons (pe_ix i_tup (pv 1) pe_int (fun _ _ => rfl)) (pa_cons (pe_ix i_tup (pe_ix i_tup (pv 1) pe_int (fun _ _ => rfl)) pe_int (fun _ _ => rfl)) pa_nil)))) (blkOk_by (N := N_one_parted) (sc := defScope s_one_parted) (by decide +kernel)) (fun _ _ _ _ _ => (pg_name (i := 4) sc_one_parted.nd rfl (.inl rfl))) (fun _ _ _ _ _ => pts_nil) (fun _ _ _ _ _ => (e_sum T.sum (pv 4)))) (pa_cons (pe_ix i_tup (pe_ix i_tup (pv 1) pe_int (fun _ _ => rfl)) pe_int (fun _ _ => rfl)) pa_nil))))) pss_nil)
      (pss_one (ps_ret (pe_c c_of_numbers hr (by decide) rfl (pa_cons (pv 0) (pa_cons (pe_ix i_tup (pv 1) pe_int (fun _ _ => rfl)) (pa_cons (pe_ix i_tup (pv 1) pe_int (fun _ _ => rfl)) pa_nil))))))))))))), ?_⟩
  have hB : BIG = 1000000 := rfl
  have hz0 : ts.length ≤ BIG := by
    have h1 := len_tot sg.res (ts.map sg.vl)
    rw [List.length_map] at h1
    omega
  cases sg with
  | not =>
    obtain ⟨f1, r1, e1, h1, e2⟩ := hF
    cases e2; cases e1
    obtain ⟨a, rfl, ga⟩ := h1
    refine sq_yes (a_sg rfl rfl) ?_
    refine ⟨_, rfl, a, rfl, ⟨_, SqL.of (sG _ _ ga)⟩, fun D nD => ?_⟩
    refine lc_mapL (SqL.of (sG _ _ ga)) ((ts.map Sg.not.vl).map V.bl) (by simp) (by simp; exact hz0) nD (fun _ => rfl) (fun i v y Hc KK hv hy e kk => ?_) fun H1 e1 hD => q _ _ _ (Xt.pub0 sG e1 nD hD) ⟨D, rfl, upd_same⟩
    obtain ⟨u, hu, rfl⟩ := map_some hy
    obtain ⟨t, ht, rfl⟩ := map_some hu
    rw [List.map_map] at hv
    have ev := map_at ht hv
    subst ev
    exact ⟨_, rfl, _, rfl, kk _ (Same.refl _)⟩
  | first k l =>
    obtain ⟨f1, r1, e1, h1, e2⟩ := hF
    cases e2; cases e1
    obtain ⟨a, x, y, rfl, ga, h1, h2⟩ := h1
    refine sq_no (a_sg rfl rfl) (sq_yes (a_sg rfl rfl) ?_)
    rw [List.map_map] at h1
    exact ⟨_, rfl, a, _, 0, _, rfl, rfl, SqT.of (sG _ _ ga), atI_nat (j := 0) rfl, q x G H (Xt.refl sG) h1⟩
  | second k l =>
    obtain ⟨f1, r1, e1, h1, e2⟩ := hF
    cases e2; cases e1
    obtain ⟨a, x, y, rfl, ga, h1, h2⟩ := h1
    refine sq_no (a_sg rfl rfl) (sq_no (a_sg rfl rfl) (sq_yes (a_sg rfl rfl) ?_))
    rw [List.map_map] at h2
    exact ⟨_, rfl, a, _, 1, _, rfl, rfl, SqT.of (sG _ _ ga), atI_nat (j := 1) rfl, q y G H (Xt.refl sG) h2⟩
  | one k =>
    obtain ⟨f1, r1, e1, h1, e2⟩ := hF
    cases e2; cases e1
    refine sq_no (a_sg rfl rfl) (sq_no (a_sg rfl rfl) (sq_no (a_sg rfl rfl) (sq_yes (a_sg rfl rfl) ?_)))
    refine ⟨by show 1 ≤ sizeLine; decide, fun u nu => ⟨_, rfl, u, _, _, rfl, rfl, upd_same, by omega, by omega, ?_, fun p np => ?_⟩⟩
    · rw [show ((ts.length : Int)).toNat = ts.length by omega, List.length_singleton, Nat.one_mul]
      exact big_le hz0
    · refine ⟨_, rfl, by show 2 ≤ sizeLine; decide, fun t nt => ?_⟩
      have x1 : X0 G H G (upd H u (.lst [.int 1])) := Xt.loc sG nu
      have x2 := Xt.new (M := No) (o := .lst (List.replicate ((ts.length : Int)).toNat [V.int 1]).flatten) x1.sub np
      have x3 := Xt.new (M := No) (o := .tup [.ref p, fl]) x2.sub nt
      refine q _ _ _ ((x1.trans x2).trans x3) ⟨t, p, fl, rfl, upd_same, ?_, FRep.mono (x2.g.trans x3.g) ?_⟩
      · rw [x3.g _ _ upd_same, rep_one ts _ _ (by omega), List.map_map]
        rfl
      · rw [show ((ts.map (Sg.one k).vl).flatten : List (Ty k)) = ts.map Prod.fst from flat_map_fst _ _]
        exact h1
  | upto =>
    obtain ⟨f1, r1, e1, h1, e2⟩ := hF
    cases e2; cases e1
    obtain ⟨a, rfl, ga⟩ := h1
    refine sq_no (a_sg rfl rfl) (sq_no (a_sg rfl rfl) (sq_no (a_sg rfl rfl) (sq_no (a_sg rfl rfl) (sq_yes (a_sg rfl rfl) ?_))))
    have ev : (ts.map Prod.fst).map upV = ts.map Sg.upto.vl := by rw [List.map_map]; rfl
    refine ⟨_, rfl, G, a, ts.map Prod.fst, rfl, sG, ga, fun x hx => ?_, ?_, fun v G' H' x r => ?_⟩
    · obtain ⟨t, htm, rfl⟩ := List.mem_map.mp hx
      exact far_none (hw t htm)
    · rw [ev]
      have h1 := tot_row .num (ts.map Sg.upto.vl)
      have h2 := len_tot .num (ts.map Sg.upto.vl).flatten
      have h3 : tot (.row .num) (ts.map Sg.upto.vl) ≤ BIG := hto
      omega
    · rw [ev] at r
      exact q v G' H' x r
  | long k =>
    obtain ⟨f1, r1, e1, h1, e2⟩ := hF
    cases e2; cases e1
    obtain ⟨a, c, y, rfl, ga, gc, h1⟩ := h1
    refine sq_no (a_sg rfl rfl) (sq_no (a_sg rfl rfl) (sq_no (a_sg rfl rfl) (sq_no (a_sg rfl rfl) (sq_no (a_sg rfl rfl) (sq_yes (a_sg rfl rfl) ?_)))))
    refine ⟨_, rfl, a, _, 0, _, rfl, rfl, SqT.of (sG _ _ ga), atI_nat (j := 0) rfl, q _ G H (Xt.refl sG) ⟨c, rfl, ?_⟩⟩
    rw [gc, List.map_map, List.map_map]
    rfl
  | flat k =>
    obtain ⟨f1, r1, e1, h1, e2⟩ := hF
    cases e2; cases e1
    obtain ⟨a, c, y, rfl, ga, gc, a2, c2, y2, rfl, ga2, gc2, h2⟩ := h1
    refine sq_no (a_sg rfl rfl) (sq_no (a_sg rfl rfl) (sq_no (a_sg rfl rfl) (sq_no (a_sg rfl rfl) (sq_no (a_sg rfl rfl) (sq_no (a_sg rfl rfl) (sq_yes (a_sg rfl rfl) ?_))))))
    refine ⟨_, rfl, a, _, 0, _, rfl, rfl, SqT.of (sG _ _ ga), atI_nat (j := 0) rfl, ?_⟩
    refine ⟨_, rfl, a, _, 1, _, rfl, rfl, SqT.of (sG _ _ ga), atI_nat (j := 1) rfl, a2, _, 0, _, rfl, rfl, SqT.of (sG _ _ ga2), atI_nat (j := 0) rfl, ?_⟩
    have lens : ((ts.map Prod.fst).map fun r => List.map (fun u => ((List.length u : Nat) : Int)) r).flatten.map V.int = List.map (fun r => V.int (List.length r : Nat)) (List.flatten (ts.map Prod.fst)) := by
      rw [← List.map_flatten, List.map_map]
      rfl
    refine ⟨G, c, c2, ((ts.map Prod.fst).map fun r => List.map (fun u => ((List.length u : Nat) : Int)) r).map (fun r => r.map V.int), rfl, sG, ?_, ?_, by simp; exact hz0, fun p rs G1 H1 x1 g1 hr1 => ?_⟩
    · rw [rows_len, List.map_map]
      have h2 := sG _ _ gc
      rw [h2]
      refine congrArg (fun z => some (HO.lst z)) (List.map_congr_left fun r _ => ?_)
      show V.int _ = V.int (((List.map (fun u => ((List.length u : Nat) : Int)) r).length : Nat) : Int)
      rw [List.length_map]
    · rw [rows_int, lens]
      exact sG _ _ gc2
    have hrl := Paired.length hr1
    rw [List.length_map, List.length_map, List.length_map] at hrl
    refine ⟨p, rfl, ⟨_, SqL.of (x1.sub _ _ g1)⟩, fun D nD => ?_⟩
    refine lc_mapL (SqL.of (x1.sub _ _ g1)) ((ts.map fun t => ((List.length (List.flatten t.1) : Nat) : Int)).map V.int) (by rw [List.length_map, List.length_map]; exact hrl) (by omega) nD (fun _ => rfl) (fun i v y Hc KK hv hy e5 kk => ?_) fun H5 e5 hD => ?_
    · obtain ⟨u, hu, rfl⟩ := map_some hy
      obtain ⟨t, hti, rfl⟩ := map_some hu
      obtain ⟨vr, hvr, c3, rfl, gc3⟩ := pr_getR hr1 hv
      rw [List.map_map, List.map_map] at hvr
      have ev := map_at hti hvr
      subst ev
      refine ⟨_, rfl, c3, List.map (fun u => ((List.length u : Nat) : Int)) t.1, rfl, SqL.of (e5 _ _ (x1.sub _ _ gc3)), ?_⟩
      rw [sum_natlens]
      exact kk _ (Same.refl _)
    · have s5 := (sG.trans x1.same).trans e5
      refine ⟨_, rfl, a, _, 1, _, rfl, rfl, SqT.of (s5 _ _ ga), atI_nat (j := 1) rfl, a2, _, 1, _, rfl, rfl, SqT.of (s5 _ _ ga2), atI_nat (j := 1) rfl, by show 2 ≤ sizeLine; decide, fun t nt => ?_⟩
      have x2 := x1.trans (Xt.pub0 (M := No) x1.sub e5 nD hD)
      have x3 := Xt.new (M := No) (o := .tup [.ref D, y2]) x2.sub nt
      refine q _ _ _ (x2.trans x3) ⟨t, D, y2, rfl, upd_same, ?_, FRep.mono (x2.g.trans x3.g) ?_⟩
      · rw [x3.g _ _ upd_same, List.map_map, List.map_map]
        rfl
      · rw [show ((ts.map (Sg.flat k).vl).flatten : List (Ty k)) = ((ts.map Prod.fst).flatten).flatten from flat_map2 _ _]
        exact h2
  | sum =>
    obtain ⟨f1, r1, e1, h1, e2⟩ := hF
    cases e2; cases e1
    have ht : tot (.row .num) (ts.map Prod.fst) + 0 ≤ BIG := ht
    have t1 := tot_row .num (ts.map Prod.fst)
    have t2 := len_tot .num (ts.map Prod.fst).flatten
    obtain ⟨a, c, y, rfl, ga, gc, g, rfl, gg⟩ := h1
    refine sq_no (a_sg rfl rfl) (sq_no (a_sg rfl rfl) (sq_no (a_sg rfl rfl) (sq_no (a_sg rfl rfl) (sq_no (a_sg rfl rfl) (sq_no (a_sg rfl rfl) (sq_no (a_sg rfl rfl) ?_))))))
    refine ⟨_, rfl, _, rfl, a, _, 0, _, rfl, rfl, SqT.of (sG _ _ ga), atI_nat (j := 0) rfl, _, rfl, a, _, 1, _, rfl, rfl, SqT.of (sG _ _ ga), atI_nat (j := 1) rfl, ?_⟩
    refine ⟨G, .sum, c, g, ts.map Prod.fst, rfl, sG, gc, gg, by simp; exact hz0, by omega, .inl ⟨rfl, fun v G' H' x r => q v G' H' x ?_⟩⟩
    rw [List.map_map] at r
    exact r
  | sums =>
    obtain ⟨f1, r1, e1, h1, e2⟩ := hF
    cases e2; cases e1
    have ht : tot (.row .num) (ts.map Prod.fst) + 0 ≤ BIG := ht
    have t1 := tot_row .num (ts.map Prod.fst)
    have t2 := len_tot .num (ts.map Prod.fst).flatten
    obtain ⟨a, c, y, rfl, ga, gc, g, rfl, gg⟩ := h1
    refine sq_no (a_sg rfl rfl) (sq_no (a_sg rfl rfl) (sq_no (a_sg rfl rfl) (sq_no (a_sg rfl rfl) (sq_no (a_sg rfl rfl) (sq_no (a_sg rfl rfl) (sq_no (a_sg rfl rfl) ?_))))))
    refine ⟨_, rfl, _, rfl, a, _, 0, _, rfl, rfl, SqT.of (sG _ _ ga), atI_nat (j := 0) rfl, _, rfl, a, _, 1, _, rfl, rfl, SqT.of (sG _ _ ga), atI_nat (j := 1) rfl, ?_⟩
    refine ⟨G, .sums, c, g, ts.map Prod.fst, rfl, sG, gc, gg, by simp; exact hz0, by omega, .inr (.inr ⟨rfl, fun v G' H' x r => q v G' H' x ?_⟩)⟩
    rw [List.map_map] at r
    exact r
  | most =>
    obtain ⟨f1, r1, e1, h1, e2⟩ := hF
    cases e2; cases e1
    have ht : tot (.row .num) (ts.map Prod.fst) + 0 ≤ BIG := ht
    have t1 := tot_row .num (ts.map Prod.fst)
    have t2 := len_tot .num (ts.map Prod.fst).flatten
    obtain ⟨a, c, y, rfl, ga, gc, g, rfl, gg⟩ := h1
    refine sq_no (a_sg rfl rfl) (sq_no (a_sg rfl rfl) (sq_no (a_sg rfl rfl) (sq_no (a_sg rfl rfl) (sq_no (a_sg rfl rfl) (sq_no (a_sg rfl rfl) (sq_no (a_sg rfl rfl) ?_))))))
    refine ⟨_, rfl, _, rfl, a, _, 0, _, rfl, rfl, SqT.of (sG _ _ ga), atI_nat (j := 0) rfl, _, rfl, a, _, 1, _, rfl, rfl, SqT.of (sG _ _ ga), atI_nat (j := 1) rfl, ?_⟩
    refine ⟨G, .most, c, g, ts.map Prod.fst, rfl, sG, gc, gg, by simp; exact hz0, by omega, .inr (.inl ⟨rfl, fun r hrm => ?_, fun v G' H' x r => q v G' H' x ?_⟩)⟩
    · obtain ⟨t, htm, rfl⟩ := List.mem_map.mp hrm
      have h3 : (if (t.1 : List Int).length = 0 then some ("empty" : Str) else none) = none := hw t htm
      intro h0
      rw [if_pos h0] at h3
      cases h3
    · rw [List.map_map] at r
      exact r
  | _ =>
    obtain ⟨f1, r1, e1, h1, f2, r2, e2, h2, e3⟩ := hF
    subst e2
    cases e1
end
end Bw
namespace Bw
open PySem PySem.Spec PyProof.Rows L2
/-! ### list.count(True) of truths -/
theorem cntB_at (k : Bool) : ∀ (bs : List Bool), ∀ y ∈ bs.map Value.bool, ∀ (A : Around) (s : Shared), SeqAt.EqAt A s y (.bool k) (isBoolOf k y)
  | [], y, hy, _, _ => by cases hy
  | b :: bs, y, hy, A, s => by
    rcases List.mem_cons.mp hy with e | e
    · rw [e]
      exact SeqAt.EqAt.bool_bool b k
    · exact cntB_at k bs y e A s
theorem cntB_eq (k : Bool) : ∀ (bs : List Bool), (bs.map Value.bool).countP (isBoolOf k) = bs.count k
  | [] => rfl
  | b :: bs => by
    have ih := cntB_eq k bs
    rw [List.map_cons, List.countP_cons, List.count_cons, ih] <;> rfl
def rCntB (K : PySem.W.Frag) : V → List V → Hp → VK → Prop := fun x xs H Q => ∃ (p : Addr) (bs : List Bool) (k : Bool), x = .ref p ∧ xs = [.bl k] ∧ SqL K H p (bs.map V.bl) ∧ Q (.int (bs.count k : Nat)) H
theorem mt_countBX {X : Cx} : MtR X "list.count" (rCntB X.K) := by
  intro pins s σ H x xs v us Q I rx rxs h
  obtain ⟨p, bs, k, rfl, rfl, hs, q⟩ := h
  cases rx
  obtain ⟨u, rfl, ru⟩ := rxs.one
  cases ru
  obtain ⟨its, rv, ⟨⟨cls, dd, data, sl⟩, n, ho, hc, hdn, hd⟩, hlen⟩ := I.list hs
  simp only at hc hd
  subst hc hd
  have hb := rv.bls
  subst hb
  refine call_meets PySem.F.slot_list_count ⟨_, ho, rfl⟩ PySem.F.entry_list_count (PySem.F.args_list_count_2 _ _)
    (SeqAt.list_countAt p (bs.map Value.bool).toArray n dd sl (.bool k) (isBoolOf k)) ⟨ho, fun y hy => cntB_at k bs y (by simpa using hy) _ _, ?_⟩
  have ec : (bs.map Value.bool).toArray.toList.countP (isBoolOf k) = bs.count k := cntB_eq k bs
  refine ⟨.int (bs.count k : Nat), H, I.tok _, ⟨s.toks, ?_⟩, q⟩
  show Value.int (((bs.map Value.bool).toArray.toList.countP (isBoolOf k) : Nat) : Int) s.toks = Value.int ((bs.count k : Nat) : Int) s.toks
  rw [ec]
theorem mt_countB {X : Cx} {K : PySem.W.Frag} (h : X.K = K := by rfl) : MtR X "list.count" (rCntB K) := by
  subst h
  exact mt_countBX
theorem e_countB {X : Cx} {K : PySem.W.Frag} {o e : Expr} {to te : TE} {apos cpos : Pos} (ho : PE X o to) (ha : PE X e te) (hK : X.K = K := by rfl)
    (hbase : attributeBase o "count" X.env (eval o X.env) = eval o X.env := by rfl)
    (hfew : ((backTo cpos (starEach [e] X.env)).all (fun x => !x.1) && (backToKw cpos (keywordEach [] X.env)).all (fun x => x.1.isSome)
      && decide ([e].length + ([] : List Keyword).length + (if ([] : List Keyword).isEmpty then 0 else 1) < 30)) = true := by rfl)
    (hline : (apos.endLine == cpos.line) = true := by rfl) (hs : starEach [e] X.env = (false, eval e X.env) :: starEach [] X.env := by rfl) (hplain : (backTo cpos (starEach [] X.env)).any (·.1) = false := by rfl) :
    PE X (.Call (.Attribute o "count" apos) [e] [] cpos) (tBM K "list" (rCntB K) to (tCons te tNil)) := by
  subst hK
  exact pe_bm PySem.F.plainAttrs_list PySem.F.slot_list_count PySem.F.type_list_count mt_countBX ho (pa_cons ha pa_nil hs) hbase hfew hline hs hplain
end Bw
namespace Bw
open PySem PySem.Spec PyProof.Rows L2
open C8 (Cal pe_c)
/-! ### plain: picking -/
def pickD {α : Type} (d : α) (r : List α) (n : Int) : α := r.getD n.toNat d
def founds {α : Type} : List (List α) → List Int → Nat → List Nat
  | w :: ws, n :: ns, s => (s + n.toNat) :: founds ws ns (s + w.length)
  | _, _, _ => []
theorem pk_founds {α : Type} (d : α) : ∀ (ws : List (List α)) (ns : List Int) (pre : List α), ws.length = ns.length → (∀ (i : Nat) (r : List α) (n : Int), ws[i]? = some r → ns[i]? = some n → 0 ≤ n ∧ n < (r.length : Int)) →
    pk (pre ++ ws.flatten) (founds ws ns pre.length) = List.zipWith (pickD d) ws ns ∧ (∀ m ∈ founds ws ns pre.length, m < (pre ++ ws.flatten).length) ∧ (founds ws ns pre.length).length = ws.length
  | [], [], pre, _, _ => ⟨rfl, (fun _ h => by cases h), rfl⟩
  | w :: ws, n :: ns, pre, hl, hb => by
    have h0 := hb 0 w n rfl rfl
    obtain ⟨i1, i2, i3⟩ := pk_founds d ws ns (pre ++ w) (by simpa using hl) fun i r n h1 h2 => hb (i + 1) r n h1 h2
    have e1 : pre ++ (w :: ws).flatten = (pre ++ w) ++ ws.flatten := by rw [List.flatten_cons, List.append_assoc]
    have e2 : founds (w :: ws) (n :: ns) pre.length = (pre.length + n.toNat) :: founds ws ns (pre ++ w).length := by
      rw [List.length_append]
      rfl
    have hn : n.toNat < w.length := by omega
    have e3 : (pre ++ w ++ ws.flatten)[pre.length + n.toNat]? = some (pickD d w n) := by
      rw [List.append_assoc, List.getElem?_append_right (Nat.le_add_right _ _), Nat.add_sub_cancel_left, List.getElem?_append_left hn]
      unfold pickD
      simp [List.getD, hn]
    rw [e1, e2]
    refine ⟨?_, fun m hm => ?_, ?_⟩
    · rw [pk_cons e3, i1]
      rfl
    · rcases List.mem_cons.mp hm with rfl | hm
      · rw [List.length_append, List.length_append]
        omega
      · exact i2 m hm
    · rw [List.length_cons, i3, List.length_cons]
/-! ### plain: joining -/
def jn {α : Type} : List (List α) → List (List α) → Nat → Nat → List Nat
  | w :: ws, u :: us, a, b => ((List.range w.length).map (fun j => a + j) ++ (List.range u.length).map (fun j => b + j)) ++ jn ws us (a + w.length) (b + u.length)
  | _, _, _, _ => []
theorem pk_jn {α : Type} : ∀ (ws us : List (List α)) (pre mid : List α), ws.length = us.length →
    pk (pre ++ (ws.flatten ++ (mid ++ us.flatten))) (jn ws us pre.length (pre.length + ws.flatten.length + mid.length)) = (List.zipWith (fun a b => a ++ b) ws us).flatten ∧
      (∀ m ∈ jn ws us pre.length (pre.length + ws.flatten.length + mid.length), m < (pre ++ (ws.flatten ++ (mid ++ us.flatten))).length) ∧ (jn ws us pre.length (pre.length + ws.flatten.length + mid.length)).length = ws.flatten.length + us.flatten.length
  | [], [], pre, mid, _ => ⟨rfl, (fun _ h => by cases h), rfl⟩
  | w :: ws, u :: us, pre, mid, hl => by
    obtain ⟨i1, i2, i3⟩ := pk_jn ws us (pre ++ w) (mid ++ u) (by simpa using hl)
    have eL : pre ++ ((w :: ws).flatten ++ (mid ++ (u :: us).flatten)) = (pre ++ w) ++ (ws.flatten ++ ((mid ++ u) ++ us.flatten)) := by simp
    have eJ : jn (w :: ws) (u :: us) pre.length (pre.length + (w :: ws).flatten.length + mid.length) =
        ((List.range w.length).map (fun j => pre.length + j) ++ (List.range u.length).map (fun j => (pre.length + (w :: ws).flatten.length + mid.length) + j)) ++ jn ws us (pre ++ w).length ((pre ++ w).length + ws.flatten.length + (mid ++ u).length) := by
      have e1 : pre.length + (w :: ws).flatten.length + mid.length + u.length = (pre ++ w).length + ws.flatten.length + (mid ++ u).length := by
        rw [List.flatten_cons, List.length_append, List.length_append, List.length_append]
        omega
      rw [← e1, List.length_append]
      rfl
    rw [eJ, eL]
    refine ⟨?_, fun m hm => ?_, ?_⟩
    · rw [pk_app, pk_app, i1]
      have h1 : pk ((pre ++ w) ++ (ws.flatten ++ ((mid ++ u) ++ us.flatten))) ((List.range w.length).map fun j => pre.length + j) = w := by
        rw [List.append_assoc]
        exact pk_at pre w _
      have h2 : pk ((pre ++ w) ++ (ws.flatten ++ ((mid ++ u) ++ us.flatten))) ((List.range u.length).map fun j => (pre.length + (w :: ws).flatten.length + mid.length) + j) = u := by
        have e2 : (pre ++ w) ++ (ws.flatten ++ ((mid ++ u) ++ us.flatten)) = (pre ++ (w ++ (ws.flatten ++ mid))) ++ (u ++ us.flatten) := by simp
        have e3 : pre.length + (w :: ws).flatten.length + mid.length = (pre ++ (w ++ (ws.flatten ++ mid))).length := by
          rw [List.flatten_cons]
          simp only [List.length_append]
          omega
        rw [e2, e3]
        exact pk_at _ u _
      rw [h1, h2, List.zipWith_cons_cons, List.flatten_cons]
    · rcases List.mem_append.mp hm with hm | hm
      · rw [← eL]
        rcases List.mem_append.mp hm with hm | hm
        · obtain ⟨j, hj, rfl⟩ := List.mem_map.mp hm
          have := List.mem_range.mp hj
          simp only [List.flatten_cons, List.length_append]
          omega
        · obtain ⟨j, hj, rfl⟩ := List.mem_map.mp hm
          have := List.mem_range.mp hj
          simp only [List.flatten_cons, List.length_append]
          omega
      · exact i2 m hm
    · rw [List.length_append, i3, List.length_append, List.length_map, List.length_map, List.length_range, List.length_range, List.flatten_cons, List.flatten_cons, List.length_append, List.length_append]
      omega
/-! ### plain: keeping -/
def kp {α : Type} : List α → List Bool → List α
  | x :: xs, b :: bs => if b = true then x :: kp xs bs else kp xs bs
  | _, _ => []
theorem kp_app {α : Type} : ∀ (xs : List α) (bs : List Bool) (ys : List α) (cs : List Bool), xs.length = bs.length → kp (xs ++ ys) (bs ++ cs) = kp xs bs ++ kp ys cs
  | [], [], ys, cs, _ => rfl
  | x :: xs, b :: bs, ys, cs, h => by
    have ih := kp_app xs bs ys cs (by simpa using h)
    cases b with
    | true =>
      show x :: kp (xs ++ ys) (bs ++ cs) = x :: kp xs bs ++ kp ys cs
      rw [ih]
      rfl
    | false => exact ih
theorem pk_trs {α : Type} (xs : List α) (bs : List Bool) (h : xs.length = bs.length) : ∀ i, i ≤ bs.length → pk xs (trs bs i) = kp (xs.take i) (bs.take i) ∧ (trs bs i).length = (bs.take i).count true
  | 0, _ => ⟨rfl, rfl⟩
  | i + 1, hi => by
    obtain ⟨h1, h2⟩ := pk_trs xs bs h i (by omega)
    have hb : bs[i]? = some bs[i] := List.getElem?_eq_getElem (by omega)
    have hx : xs[i]? = some xs[i] := List.getElem?_eq_getElem (by omega)
    have hk : kp (xs.take i ++ [xs[i]]) (bs.take i ++ [bs[i]]) = kp (xs.take i) (bs.take i) ++ kp [xs[i]] [bs[i]] := kp_app _ _ _ _ (by rw [List.length_take, List.length_take, h])
    rw [take_next hb, take_next hx, hk, List.count_append]
    cases hc : bs[i] with
    | true =>
      rw [hc] at hb
      rw [trs_yes hb, pk_app, h1, List.length_append, h2, pk_cons hx]
      exact ⟨rfl, rfl⟩
    | false =>
      rw [hc] at hb
      rw [trs_no hb, h1, h2]
      exact ⟨(List.append_nil _).symm, rfl⟩
theorem pk_tru {α : Type} (xs : List α) (bs : List Bool) (h : xs.length = bs.length) : pk xs (tru bs) = kp xs bs := by
  have h1 := (pk_trs xs bs h bs.length (Nat.le_refl _)).1
  rw [List.take_length, ← h, List.take_length] at h1
  rw [← h1, h]
theorem kp_len {α : Type} (xs : List α) (bs : List Bool) (h : xs.length = bs.length) : (kp xs bs).length = bs.count true := by
  have h2 := (pk_trs xs bs h bs.length (Nat.le_refl _)).2
  rw [List.take_length] at h2
  rw [← pk_tru xs bs h, pk_len fun n hn => by have := trs_lt bs bs.length n hn; omega, h2]
theorem kp_flat {α : Type} : ∀ (ws : List (List α)) (bss : List (List Bool)), ws.length = bss.length → (∀ (i : Nat) (r : List α) (b : List Bool), ws[i]? = some r → bss[i]? = some b → r.length = b.length) → kp ws.flatten bss.flatten = (List.zipWith kp ws bss).flatten ∧ ws.flatten.length = bss.flatten.length ∧ ws.map List.length = bss.map List.length
  | [], [], _, _ => ⟨rfl, rfl, rfl⟩
  | w :: ws, b :: bss, hl, he => by
    have h0 := he 0 w b rfl rfl
    obtain ⟨i1, i2, i3⟩ := kp_flat ws bss (by simpa using hl) fun i r b h1 h2 => he (i + 1) r b h1 h2
    rw [List.flatten_cons, List.flatten_cons, kp_app _ _ _ _ h0, i1, List.zipWith_cons_cons, List.flatten_cons]
    exact ⟨rfl, by rw [List.length_append, List.length_append, h0, i2], by rw [List.map_cons, List.map_cons, h0, i3]⟩
section
variable {P : Program} {w : World} {K : PySem.W.Frag} {mg : Str → Option Value} {base : Heap}
/-! ### picked -/
def spPicked (K : PySem.W.Frag) (d : Nat) : Sp := fun vs H Q _ => ∃ (G : Hp) (k : Kd) (ws : List (List (Ty k))) (ns : List Int) (x f : V) (b : Addr), vs = [x, f, .ref b] ∧ Same G H ∧ KRep K G k x ∧ FRep G (.row k) ws f ∧ G b = some (.lst (ns.map V.int)) ∧ ws.length = ns.length ∧
  (∀ (i : Nat) (r : List (Ty k)) (n : Int), ws[i]? = some r → ns[i]? = some n → 0 ≤ n ∧ n < (r.length : Int)) ∧ tot (.row k) ws ≤ BIG ∧ tot k (List.zipWith (pickD (dflt k)) ws ns) ≤ BIG ∧ k.dep ≤ d ∧ ∀ (v : V) (G' H' : Hp), X0 G H G' H' → FRep G' k (List.zipWith (pickD (dflt k)) ws ns) v → Q v H'
abbrev N_picked_wide : List PySem.Str := ["kind", "rows", "numbers", "found", "start", "long", "number"]
theorem sc_picked_wide : FnScope N_picked_wide ["kind", "rows", "numbers"] (defScope s_picked_wide) := ⟨rfl, rfl, rfl, by decide +kernel, rfl, by decide +kernel, by decide +kernel⟩
theorem c_picked_wide {d : Nat} (T : Txt K mg) (c_taken : Cal P w K mg base (d + 4) "taken" (spChosen K d) []) : Cal P w K mg base (d + 5) "picked_wide" (spPicked K d) [] := by
  refine cal_of (d := d_picked_wide) T (mem_fn 58) rfl (mem_fa 58) rfl rfl sc_picked_wide (fun _ _ _ _ _ _ us hl => match us, hl with | [_, _, _], _ => rfl) (fun vs H Q E h => ?_) (fun cdv A outer s H vs Q E f hr h => ?_)
  · obtain ⟨G, k, ws, ns, x, fl, b, rfl, _⟩ := h
    rfl
  obtain ⟨G, k, ws, ns, x, fl, b, rfl, sG, hk, hf, gb, hl, hb, ht, htp, hd, q⟩ := h
  refine ⟨_, (pss_cons (ps_set (i := 3) sc_picked_wide.nd rfl (.inl rfl) (pe_lst pa_nil))
      (pss_cons (ps_set (i := 4) sc_picked_wide.nd rfl (.inl rfl) pe_int)
      (pss_cons (ps_for PassesOwn.never rfl (pi_zip rfl T.zip (pa_cons (pe_ix i_tup (pv 1) pe_int (fun _ _ => rfl)) (pa_cons (pv 2) pa_nil))) (g_tup (n := 2) rfl (pgs_cons (pg_name (i := 5) sc_picked_wide.nd rfl (.inl rfl)) (pgs_cons (pg_name (i := 6) sc_picked_wide.nd rfl (.inl rfl)) pgs_nil))) (pss_cons (ps_expr (pe_bm PySem.F.plainAttrs_list PySem.F.slot_list_append PySem.F.type_list_append mt_append (pv 3) (pa_cons (pe_op op_add (pv 4) (pv 6)) pa_nil)))
      (pss_one (ps_set (i := 4) sc_picked_wide.nd rfl (.inl rfl) (pe_op op_add (pv 4) (pv 5))))))
      (pss_one (ps_ret (pe_c c_taken hr (Nat.le_refl _) rfl (pa_cons (pv 0) (pa_cons (pe_ix i_tup (pv 1) pe_int (fun _ _ => rfl)) (pa_cons (pv 3) pa_nil))))))))), ?_⟩
  obtain ⟨a, c, y, rfl, ga, gc, f1⟩ := hf
  have tr := tot_row k ws
  have hz1 := len_tot (.row k) ws
  have hz2 := len_tot k ws.flatten
  refine ⟨Nat.zero_le _, fun p np => ?_⟩
  have x0 : X0 G H G (upd H p (.lst [])) := Xt.loc sG np
  have e0 := x0.same
  refine ⟨_, rfl, a, _, 0, _, rfl, rfl, SqT.of (e0 _ _ (sG _ _ ga)), atI_nat (j := 0) rfl, _, rfl, c, b, _, _, rfl, SqL.of (e0 _ _ (sG _ _ gc)), SqL.of (e0 _ _ (sG _ _ gb)), ?_⟩
  refine for_it (walk_zip (xs := ws.map fun r => V.int (r.length : Nat)) (ys := ns.map V.int) (n := ws.length) (by rw [List.length_map, List.length_map, ← hl, Nat.min_self])) (fun i σ H' => ∃ (y1 y2 : Option V) (acc : List Nat), σ = [some x, some (.ref a), some (.ref b), some (.ref p), some (nV (ws.take i).flatten.length), y1, y2] ∧
    Same H H' ∧ H' p = some (.lst (acc.map nV)) ∧ acc.length = i ∧ founds ws ns 0 = acc ++ founds (ws.drop i) (ns.drop i) (ws.take i).flatten.length) ⟨none, none, [], rfl, e0, upd_same, rfl, rfl⟩ (fun i σ H' _ hv => ?_) (fun i v σ H' H'' hi hv hY => ?_) fun σ H' hv => ?_
  · obtain ⟨y1, y2, acc, _, e, _⟩ := hv
    exact ⟨SqL.of (e _ _ (sG _ _ gc)), SqL.of (e _ _ (sG _ _ gb))⟩
  · obtain ⟨y1, y2, acc, rfl, e, hp, hal, hF⟩ := hv
    obtain ⟨u, v1, v2, rfl, nu, rfl, h1, h2⟩ := hY
    have h1 : (ws.map fun r => V.int (r.length : Nat))[i]? = some v1 := h1
    have h2 : (ns.map V.int)[i]? = some v2 := h2
    obtain ⟨r, hri, rfl⟩ := map_some h1
    obtain ⟨n, hni, rfl⟩ := map_some h2
    obtain ⟨hn0, hn1⟩ := hb i r n hri hni
    have npu : p ≠ u := fun z => by
      rw [← z, hp] at nu
      cases nu
    have hpu : upd H' u (.tup [V.int (r.length : Nat), .int n]) p = some (.lst (acc.map nV)) := by rw [upd_ne npu]; exact hp
    have e2 : Same H (upd H' u (.tup [V.int (r.length : Nat), .int n])) := e.trans (same_upd nu)
    refine g_pair rfl upd_same ?_
    rw [drop_cons hri, drop_cons hni] at hF
    have hF : founds ws ns 0 = acc ++ (((ws.take i).flatten.length + n.toNat) :: founds (ws.drop (i + 1)) (ns.drop (i + 1)) ((ws.take i).flatten.length + r.length)) := hF
    have hlt : (ws.take (i + 1)).flatten.length = (ws.take i).flatten.length + r.length := by
      rw [take_next hri, List.flatten_append, List.length_append]
      simp
    refine ⟨_, rfl, .inl ⟨rfl, _, SqL.of hpu⟩, _, rfl, _, rfl, _, _, rfl, rfl, p, _, _, rfl, rfl, hpu, by rw [List.length_map]; exact big_lt (by omega), ?_⟩
    refine ⟨_, rfl, _, rfl, _, _, rfl, rfl, some (V.int (r.length : Nat)), some (V.int n), acc ++ [(ws.take i).flatten.length + n.toNat], ?_, same_set e2 np, ?_, by rw [List.length_append, hal]; rfl, ?_⟩
    · rw [hlt]
      show [_, _, _, _, some (V.int _), _, _] = [_, _, _, _, some (V.int _), _, _]
      rw [show (((ws.take i).flatten.length + r.length : Nat) : Int) = (((ws.take i).flatten.length : Nat) : Int) + ((r.length : Nat) : Int) from Int.natCast_add _ _]
    · rw [upd_same, List.map_append]
      show some (HO.lst (acc.map nV ++ [V.int _])) = some (HO.lst (acc.map nV ++ [V.int _]))
      rw [show (((ws.take i).flatten.length + n.toNat : Nat) : Int) = (((ws.take i).flatten.length : Nat) : Int) + n by omega]
    · rw [hF, hlt, List.append_assoc]
      rfl
  · obtain ⟨y1, y2, acc, rfl, e, hp, hal, hF⟩ := hv
    have hF : founds ws ns 0 = acc := by
      rw [hF, List.drop_length]
      exact List.append_nil _
    obtain ⟨i1, i2, i3⟩ := pk_founds (dflt k) ws ns [] hl hb
    rw [List.nil_append] at i1 i2
    have i1 : pk ws.flatten (founds ws ns 0) = List.zipWith (pickD (dflt k)) ws ns := i1
    have i2 : ∀ m ∈ founds ws ns 0, m < ws.flatten.length := i2
    rw [hF] at i1 i2
    refine ⟨_, rfl, _, rfl, a, _, 1, _, rfl, rfl, SqT.of (e _ _ (sG _ _ ga)), atI_nat (j := 1) rfl, _, rfl, ?_⟩
    have x1 : X0 G H G H' := Xt.of_same sG e
    refine ⟨G, k, ws.flatten, x, y, p, acc, rfl, sG.trans e, hk, f1, hp, i2, by omega, by rw [i1]; exact htp, hd, fun v G2 H2 x2 r => ?_⟩
    rw [i1] at r
    exact q v G2 H2 (x1.trans x2) r
/-! ### joined -/
abbrev appW {α : Type} (ws us : List (List α)) : List (List α) := List.zipWith (fun a b => a ++ b) ws us
def spJoined (K : PySem.W.Frag) (d : Nat) : Sp := fun vs H Q _ => ∃ (G : Hp) (k : Kd) (ws us : List (List (Ty k))) (x f g : V), vs = [x, f, g] ∧ Same G H ∧ KRep K G k x ∧ FRep G (.row k) ws f ∧ FRep G (.row k) us g ∧ ws.length = us.length ∧ tot (.row k) ws + tot (.row k) us ≤ BIG ∧
  tot (.row k) (appW ws us) ≤ BIG ∧ k.dep ≤ d ∧ ∀ (v : V) (G' H' : Hp), X0 G H G' H' → FRep G' (.row k) (appW ws us) v → Q v H'
abbrev N_joined : List PySem.Str := ["kind", "one", "other", "numbers", "first", "second", "lengths", "long", "more"]
theorem sc_joined : FnScope N_joined ["kind", "one", "other"] (defScope s_joined) := ⟨rfl, rfl, rfl, by decide +kernel, rfl, by decide +kernel, by decide +kernel⟩
theorem c_joined {d : Nat} (T : Txt K mg) (c_taken : Cal P w K mg base (d + 4) "taken" (spChosen K d) []) (c_behind_taking : Cal P w K mg base (d + 1) "behind_taking" (spBehind K d) []) : Cal P w K mg base (d + 5) "joined" (spJoined K d) [] := by
  refine cal_of (d := d_joined) T (mem_fn 22) rfl (mem_fa 22) rfl rfl sc_joined (fun _ _ _ _ _ _ us hl => match us, hl with | [_, _, _], _ => rfl) (fun vs H Q E h => ?_) (fun cdv A outer s H vs Q E f hr h => ?_)
  · obtain ⟨G, k, ws, us, x, fl, gl, rfl, _⟩ := h
    rfl
  obtain ⟨G, k, ws, us, x, fl, gl, rfl, sG, hk, hf, hg, hl, ht, htp, hd, q⟩ := h
  refine ⟨_, (pss_cons (ps_set (i := 3) sc_joined.nd rfl (.inl rfl) (pe_lst pa_nil))
      (pss_cons (ps_set (i := 4) sc_joined.nd rfl (.inl rfl) pe_int)
      (pss_cons (ps_set (i := 5) sc_joined.nd rfl (.inl rfl) (e_sum T.sum (pe_ix i_tup (pv 1) pe_int (fun _ _ => rfl))))
      (pss_cons (ps_for PassesOwn.never rfl (pi_zip rfl T.zip (pa_cons (pe_ix i_tup (pv 1) pe_int (fun _ _ => rfl)) (pa_cons (pe_ix i_tup (pv 2) pe_int (fun _ _ => rfl)) pa_nil))) (g_tup (n := 2) rfl (pgs_cons (pg_name (i := 7) sc_joined.nd rfl (.inl rfl)) (pgs_cons (pg_name (i := 8) sc_joined.nd rfl (.inl rfl)) pgs_nil))) (pss_cons (ps_expr (pe_bm PySem.F.plainAttrs_list PySem.F.slot_list_extend PySem.F.type_list_extend mt_extend (pv 3) (pa_cons (pe_op op_cat (pe_listRg rfl rfl T.list (prg_2 rfl T.range (pv 4) (pe_op op_add (pv 4) (pv 7)))) (pe_listRg rfl rfl T.list (prg_2 rfl T.range (pv 5) (pe_op op_add (pv 5) (pv 8))))) pa_nil)))
      (pss_cons (ps_set (i := 4) sc_joined.nd rfl (.inl rfl) (pe_op op_add (pv 4) (pv 7)))
      (pss_one (ps_set (i := 5) sc_joined.nd rfl (.inl rfl) (pe_op op_add (pv 5) (pv 8)))))))
      (pss_cons (ps_setLc (i := 6) (own := [("long", 7), ("more", 8)]) rfl sc_joined.nd rfl rfl (sw_true rfl rfl rfl (by decide +kernel)) (pi_zip rfl T.zip (pa_cons (pe_ix i_tup (pv 1) pe_int (fun _ _ => rfl)) (pa_cons (pe_ix i_tup (pv 2) pe_int (fun _ _ => rfl)) pa_nil))) (blkOk_by (N := N_joined) (sc := defScope s_joined) (by decide +kernel)) (fun _ _ _ _ _ => (g_tup (n := 2) rfl (pgs_cons (pg_name (i := 7) sc_joined.nd rfl (.inl rfl)) (pgs_cons (pg_name (i := 8) sc_joined.nd rfl (.inl rfl)) pgs_nil)))) (fun _ _ _ _ _ => pts_nil) (fun _ _ _ _ _ => (pe_op op_add (pv 7) (pv 8))))
      (pss_one (ps_ret (pe_tup (pa_cons (pv 6) (pa_cons (pe_c c_taken hr (by omega) rfl (pa_cons (pv 0) (pa_cons (pe_c c_behind_taking hr (by omega) rfl (pa_cons (pv 0) (pa_cons (pe_ix i_tup (pv 1) pe_int (fun _ _ => rfl)) (pa_cons (pe_ix i_tup (pv 2) pe_int (fun _ _ => rfl)) pa_nil)))) (pa_cons (pv 3) pa_nil)))) pa_nil)))))))))), ?_⟩
  obtain ⟨a, c, y, rfl, ga, gc, f1⟩ := hf
  obtain ⟨a2, c2, y2, rfl, ga2, gc2, f2⟩ := hg
  have hB : BIG = 1000000 := rfl
  have tr1 := tot_row k ws
  have tr2 := tot_row k us
  have hz1 := len_tot k ws.flatten
  have hz2 := len_tot k us.flatten
  refine ⟨Nat.zero_le _, fun p np => ?_⟩
  have x0 : X0 G H G (upd H p (.lst [])) := Xt.loc sG np
  have e0 := x0.same
  have lensI : (ws.map fun r => V.int (r.length : Nat)) = (ws.map fun r => ((r.length : Nat) : Int)).map V.int := by rw [List.map_map]; rfl
  refine ⟨_, rfl, a, _, 0, _, rfl, rfl, SqT.of (e0 _ _ (sG _ _ ga)), atI_nat (j := 0) rfl, c, ws.map fun r => ((r.length : Nat) : Int), rfl, by rw [← lensI]; exact SqL.of (e0 _ _ (sG _ _ gc)), ?_⟩
  rw [sum_natlens]
  refine ⟨_, rfl, a, _, 0, _, rfl, rfl, SqT.of (e0 _ _ (sG _ _ ga)), atI_nat (j := 0) rfl, _, rfl, a2, _, 0, _, rfl, rfl, SqT.of (e0 _ _ (sG _ _ ga2)), atI_nat (j := 0) rfl, c, c2, _, _, rfl, SqL.of (e0 _ _ (sG _ _ gc)), SqL.of (e0 _ _ (sG _ _ gc2)), ?_⟩
  obtain ⟨j1, j2, j3⟩ := pk_jn ws us [] [] hl
  rw [List.nil_append, List.nil_append] at j1 j2
  have eN : ([] : List (Ty k)).length + ws.flatten.length + ([] : List (Ty k)).length = ws.flatten.length := by simp
  rw [eN] at j1 j2 j3
  have j1 : pk (ws.flatten ++ us.flatten) (jn ws us 0 ws.flatten.length) = (appW ws us).flatten := j1
  have j2 : ∀ m ∈ jn ws us 0 ws.flatten.length, m < (ws.flatten ++ us.flatten).length := j2
  have j3 : (jn ws us 0 ws.flatten.length).length = ws.flatten.length + us.flatten.length := j3
  refine for_it (walk_zip (xs := ws.map fun r => V.int (r.length : Nat)) (ys := us.map fun r => V.int (r.length : Nat)) (n := ws.length) (by rw [List.length_map, List.length_map, ← hl, Nat.min_self])) (fun i σ H' => ∃ (y1 y2 : Option V) (acc : List Nat),
    σ = [some x, some (.ref a), some (.ref a2), some (.ref p), some (nV (ws.take i).flatten.length), some (nV (ws.flatten.length + (us.take i).flatten.length)), none, y1, y2] ∧
    Same H H' ∧ H' p = some (.lst (acc.map nV)) ∧ jn ws us 0 ws.flatten.length = acc ++ jn (ws.drop i) (us.drop i) (ws.take i).flatten.length (ws.flatten.length + (us.take i).flatten.length)) ⟨none, none, [], by simp; rfl, e0, upd_same, rfl⟩ (fun i σ H' _ hv => ?_) (fun i v σ H' H'' hi hv hY => ?_) fun σ H' hv => ?_
  · obtain ⟨y1, y2, acc, _, e, _⟩ := hv
    exact ⟨SqL.of (e _ _ (sG _ _ gc)), SqL.of (e _ _ (sG _ _ gc2))⟩
  · obtain ⟨y1, y2, acc, rfl, e, hp, hF⟩ := hv
    obtain ⟨u, v1, v2, rfl, nu, rfl, h1, h2⟩ := hY
    have h1 : (ws.map fun r => V.int (r.length : Nat))[i]? = some v1 := h1
    have h2 : (us.map fun r => V.int (r.length : Nat))[i]? = some v2 := h2
    obtain ⟨r, hri, rfl⟩ := map_some h1
    obtain ⟨r2, hri2, rfl⟩ := map_some h2
    have hlt : (ws.take (i + 1)).flatten.length = (ws.take i).flatten.length + r.length := by
      rw [take_next hri, List.flatten_append, List.length_append]
      simp
    have hlt2 : (us.take (i + 1)).flatten.length = (us.take i).flatten.length + r2.length := by
      rw [take_next hri2, List.flatten_append, List.length_append]
      simp
    have hw : (ws.take i).flatten.length + r.length ≤ ws.flatten.length := by
      have h1 := congrArg List.length (flat_take hri)
      rw [List.length_append, List.length_append] at h1
      omega
    have hw2 : (us.take i).flatten.length + r2.length ≤ us.flatten.length := by
      have h1 := congrArg List.length (flat_take hri2)
      rw [List.length_append, List.length_append] at h1
      omega
    rw [drop_cons hri, drop_cons hri2] at hF
    have hF : jn ws us 0 ws.flatten.length = acc ++ (((List.range r.length).map (fun j => (ws.take i).flatten.length + j) ++ (List.range r2.length).map (fun j => (ws.flatten.length + (us.take i).flatten.length) + j)) ++
        jn (ws.drop (i + 1)) (us.drop (i + 1)) ((ws.take i).flatten.length + r.length) ((ws.flatten.length + (us.take i).flatten.length) + r2.length)) := hF
    have hacc : acc.length + (r.length + r2.length) ≤ BIG := by
      have h1 := congrArg List.length hF
      rw [j3] at h1
      simp only [List.length_append, List.length_map, List.length_range] at h1
      omega
    have npu : p ≠ u := fun z => by
      rw [← z, hp] at nu
      cases nu
    have hpu : upd H' u (.tup [V.int (r.length : Nat), .int (r2.length : Nat)]) p = some (.lst (acc.map nV)) := by rw [upd_ne npu]; exact hp
    have e2 : Same H (upd H' u (.tup [V.int (r.length : Nat), .int (r2.length : Nat)])) := e.trans (same_upd nu)
    refine g_pair rfl upd_same ?_
    refine ⟨_, rfl, .inl ⟨rfl, _, SqL.of hpu⟩, ?_⟩
    refine ⟨_, rfl, _, rfl, _, rfl, _, _, rfl, rfl, _, _, rfl, rfl, .of_le (by omega) (by omega) (by omega) (by omega), fun l1 nl1 => ?_⟩
    have n1 : p ≠ l1 := fun z => by
      rw [← z, hpu] at nl1
      cases nl1
    refine ⟨_, rfl, _, rfl, _, rfl, _, _, rfl, rfl, _, _, rfl, rfl, .of_le (by omega) (by omega) (by omega) (by omega), fun l2 nl2 => ?_⟩
    have n12 : l1 ≠ l2 := fun z => by
      rw [← z, upd_same] at nl2
      cases nl2
    have n2 : p ≠ l2 := fun z => by
      rw [← z, upd_ne n1, hpu] at nl2
      cases nl2
    rw [rgV_nV] at nl2
    rw [rgV_nV, show (((ws.flatten.length + (us.take i).flatten.length : Nat)) : Int) + ((r2.length : Nat) : Int) = ((ws.flatten.length + (us.take i).flatten.length : Nat) : Int) + (r2.length : Int) from rfl, rgV_nV]
    refine ⟨l1, l2, _, _, rfl, rfl, by rw [upd_ne n12, upd_same], upd_same, by simp only [List.length_map, List.length_range]; exact big_le (by omega), fun l3 nl3 => ?_⟩
    have n3 : p ≠ l3 := fun z => by
      rw [← z, upd_ne n2, upd_ne n1, hpu] at nl3
      cases nl3
    refine ⟨p, l3, _, _, rfl, rfl, by rw [upd_ne n3, upd_ne n2, upd_ne n1]; exact hpu, upd_same, by simp only [List.length_map, List.length_range, List.length_append]; exact big_le hacc, ?_⟩
    refine ⟨_, rfl, _, rfl, _, _, rfl, rfl, _, rfl, _, rfl, _, _, rfl, rfl, ?_⟩
    refine ⟨some (V.int (r.length : Nat)), some (V.int (r2.length : Nat)), acc ++ ((List.range r.length).map (fun j => (ws.take i).flatten.length + j) ++ (List.range r2.length).map (fun j => (ws.flatten.length + (us.take i).flatten.length) + j)), ?_, same_set (((e2.trans (same_upd nl1)).trans (same_upd nl2)).trans (same_upd nl3)) np, ?_, ?_⟩
    · rw [hlt, hlt2]
      show [_, _, _, _, some (V.int _), some (V.int _), _, _, _] = [_, _, _, _, some (V.int _), some (V.int _), _, _, _]
      rw [show (((ws.take i).flatten.length + r.length : Nat) : Int) = (((ws.take i).flatten.length : Nat) : Int) + ((r.length : Nat) : Int) from Int.natCast_add _ _,
        show ((ws.flatten.length + ((us.take i).flatten.length + r2.length) : Nat) : Int) = ((ws.flatten.length + (us.take i).flatten.length : Nat) : Int) + ((r2.length : Nat) : Int) by omega]
    · rw [upd_same, List.map_append, List.map_append]
    · rw [hF, hlt, hlt2, ← List.append_assoc, ← Nat.add_assoc]
  · obtain ⟨y1, y2', acc, rfl, e, hp, hF⟩ := hv
    have hF : jn ws us 0 ws.flatten.length = acc := by
      rw [hF, List.drop_length]
      exact List.append_nil _
    rw [hF] at j1 j2 j3
    refine ⟨_, rfl, a, _, 0, _, rfl, rfl, SqT.of (e _ _ (sG _ _ ga)), atI_nat (j := 0) rfl, _, rfl, a2, _, 0, _, rfl, rfl, SqT.of (e _ _ (sG _ _ ga2)), atI_nat (j := 0) rfl, c, c2, _, _, rfl, SqL.of (e _ _ (sG _ _ gc)), SqL.of (e _ _ (sG _ _ gc2)), fun D nD => ?_⟩
    refine lc_mapZ (SqL.of (e _ _ (sG _ _ gc))) (SqL.of (e _ _ (sG _ _ gc2))) ((appW ws us).map fun r => V.int (r.length : Nat)) (by simp) (by simp; omega) nD (fun _ _ => rfl) (fun i v1 v2 y Hc KK hv1 hv2 hy e2 kk => ?_) fun H2 e2 hD => ?_
    · obtain ⟨r, hri, rfl⟩ := map_some hv1
      obtain ⟨r2, hri2, rfl⟩ := map_some hv2
      obtain ⟨r3, hri3, rfl⟩ := map_some hy
      rw [List.getElem?_zipWith, hri, hri2] at hri3
      cases hri3
      refine ⟨_, rfl, _, rfl, _, _, rfl, rfl, ?_⟩
      have kk := kk _ (Same.refl _)
      rw [List.length_append, Int.natCast_add] at kk
      exact kk
    · have x1 : X0 G H (upd G D (.lst ((appW ws us).map fun r => V.int (r.length : Nat)))) H2 := (Xt.of_same sG e).trans (Xt.pub0 (sG.trans e) e2 nD hD)
      have s2 := x1.same
      refine ⟨_, rfl, _, rfl, _, rfl, _, rfl, a, _, 1, _, rfl, rfl, SqT.of (s2 _ _ (sG _ _ ga)), atI_nat (j := 1) rfl, _, rfl, a2, _, 1, _, rfl, rfl, SqT.of (s2 _ _ (sG _ _ ga2)), atI_nat (j := 1) rfl, ?_⟩
      refine ⟨_, k, ws.flatten, us.flatten, x, y, y2, rfl, x1.sub, KRep.mono x1.g hk, FRep.mono x1.g f1, FRep.mono x1.g f2, by omega, hd, fun v3 G3 H3 x3 r3 => ?_⟩
      refine ⟨_, rfl, ?_⟩
      have hp3 : H3 p = some (.lst (acc.map nV)) := x3.same _ _ (e2 _ _ hp)
      have tr3 := tot_row k (appW ws us)
      refine ⟨G3, k, ws.flatten ++ us.flatten, x, v3, p, acc, rfl, x3.sub, KRep.mono (x1.g.trans x3.g) hk, r3, hp3, j2, by rw [tot_app]; omega, by rw [j1]; omega, hd, fun v4 G4 H4 x4 r4 => ?_⟩
      rw [j1] at r4
      refine ⟨by show 2 ≤ sizeLine; decide, fun t nt => ?_⟩
      have x5 : X0 G4 H4 (upd G4 t (.tup [.ref D, v4])) (upd H4 t (.tup [.ref D, v4])) := Xt.new x4.sub nt
      exact q _ _ _ (((x1.trans x3).trans x4).trans x5) ⟨t, D, v4, rfl, upd_same, x5.g _ _ (x4.g _ _ (x3.g _ _ upd_same)), FRep.mono x5.g r4⟩
/-! ### kept_within -/
def spKeptW (K : PySem.W.Frag) (d : Nat) : Sp := fun vs H Q _ => ∃ (G : Hp) (k : Kd) (ws : List (List (Ty k))) (bss : List (List Bool)) (x f : V) (b : Addr), vs = [x, f, .ref b] ∧ Same G H ∧ KRep K G k x ∧ FRep G (.row k) ws f ∧ G b = some (.lst (bss.flatten.map V.bl)) ∧ ws.length = bss.length ∧
  (∀ (i : Nat) (r : List (Ty k)) (b : List Bool), ws[i]? = some r → bss[i]? = some b → r.length = b.length) ∧ tot (.row k) ws ≤ BIG ∧ tot (.row k) (List.zipWith kp ws bss) ≤ BIG ∧ k.dep ≤ d ∧ ∀ (v : V) (G' H' : Hp), X0 G H G' H' → FRep G' (.row k) (List.zipWith kp ws bss) v → Q v H'
abbrev N_kept_within : List PySem.Str := ["kind", "one", "truths", "lengths", "row"]
theorem sc_kept_within : FnScope N_kept_within ["kind", "one", "truths"] (defScope s_kept_within) := ⟨rfl, rfl, rfl, by decide +kernel, rfl, by decide +kernel, by decide +kernel⟩
theorem c_kept_within {d : Nat} (T : Txt K mg) (c_parted : Cal P w K mg base 1 "parted" spParted []) (c_kept_taking : Cal P w K mg base (d + 4) "kept_taking" (spKept K d) []) : Cal P w K mg base (d + 5) "kept_within" (spKeptW K d) [] := by
  refine cal_of (d := d_kept_within) T (mem_fn 23) rfl (mem_fa 23) rfl rfl sc_kept_within (fun _ _ _ _ _ _ us hl => match us, hl with | [_, _, _], _ => rfl) (fun vs H Q E h => ?_) (fun cdv A outer s H vs Q E f hr h => ?_)
  · obtain ⟨G, k, ws, bss, x, fl, b, rfl, _⟩ := h
    rfl
  obtain ⟨G, k, ws, bss, x, fl, b, rfl, sG, hk, hf, gb, hl, hE, ht, htp, hd, q⟩ := h
  refine ⟨_, (pss_cons (ps_setLc (i := 3) (own := [("row", 4)]) rfl sc_kept_within.nd rfl rfl (sw_true rfl rfl rfl (by decide +kernel)) (pi_list (pe_c c_parted hr (by omega) rfl (pa_cons (pe_ix i_tup (pv 1) pe_int (fun _ _ => rfl)) (pa_cons (pv 2) pa_nil)))) (blkOk_by (N := N_kept_within) (sc := defScope s_kept_within) (by decide +kernel)) (fun _ _ _ _ _ => (pg_name (i := 4) sc_kept_within.nd rfl (.inl rfl))) (fun _ _ _ _ _ => pts_nil) (fun _ _ _ _ _ => (e_countB (pv 4) pe_bl)))
      (pss_one (ps_ret (pe_tup (pa_cons (pv 3) (pa_cons (pe_c c_kept_taking hr (Nat.le_refl _) rfl (pa_cons (pv 0) (pa_cons (pe_ix i_tup (pv 1) pe_int (fun _ _ => rfl)) (pa_cons (pv 2) pa_nil)))) pa_nil)))))), ?_⟩
  obtain ⟨a, c, y, rfl, ga, gc, f1⟩ := hf
  have hB : BIG = 1000000 := rfl
  have tr1 := tot_row k ws
  obtain ⟨k1, k2, k3⟩ := kp_flat ws bss hl hE
  have lensE : (ws.map fun r => V.int (r.length : Nat)) = (bss.map fun r => r.map V.bl).map (fun r => V.int (r.length : Nat)) := by
    rw [rows_lenB, lens_nV, lens_nV, k3]
  refine ⟨_, rfl, a, _, 0, _, rfl, rfl, SqT.of (sG _ _ ga), atI_nat (j := 0) rfl, _, rfl, ?_⟩
  refine ⟨G, c, b, bss.map (fun r => r.map V.bl), rfl, sG, by rw [← lensE]; exact sG _ _ gc, by rw [rows_bl]; exact sG _ _ gb, by rw [List.length_map]; omega, fun p rs G1 H1 x1 g1 hr1 => ?_⟩
  have hrl := Paired.length hr1
  rw [List.length_map] at hrl
  refine ⟨p, rfl, ⟨_, SqL.of (x1.sub _ _ g1)⟩, fun D nD => ?_⟩
  refine lc_mapL (SqL.of (x1.sub _ _ g1)) ((List.zipWith kp ws bss).map fun r => V.int (r.length : Nat)) (by rw [List.length_map, List.length_zipWith, hl, Nat.min_self]; exact hrl) (by omega) nD (fun _ => rfl) (fun i v y Hc KK hv hy e kk => ?_) fun H2 e2 hD => ?_
  · obtain ⟨vr, hvr, c3, rfl, gc3⟩ := pr_getR hr1 hv
    obtain ⟨bs, hbi, rfl⟩ := map_some hvr
    obtain ⟨r3, hri3, rfl⟩ := map_some hy
    have hi : i < ws.length := by
      have := (List.getElem?_eq_some_iff.mp hbi).1
      omega
    have hwi : ws[i]? = some ws[i] := List.getElem?_eq_getElem hi
    rw [List.getElem?_zipWith, hwi, hbi] at hri3
    cases hri3
    have hlen := hE i _ _ hwi hbi
    refine ⟨_, rfl, .inl ⟨rfl, _, SqL.of (e _ _ (x1.sub _ _ gc3))⟩, ?_⟩
    refine ⟨c3, bs, true, rfl, rfl, SqL.of (e _ _ (x1.sub _ _ gc3)), ?_⟩
    rw [← kp_len ws[i] bs hlen]
    exact kk _ (Same.refl _)
  · have x2 := x1.trans (Xt.pub0 (M := No) x1.sub e2 nD hD)
    have s2 := x2.same
    have tr3 := tot_row k (List.zipWith kp ws bss)
    have kE : pk ws.flatten (tru bss.flatten) = (List.zipWith kp ws bss).flatten := by rw [pk_tru _ _ k2, k1]
    refine ⟨_, rfl, _, rfl, _, rfl, a, _, 1, _, rfl, rfl, SqT.of (s2 _ _ (sG _ _ ga)), atI_nat (j := 1) rfl, _, rfl, ?_⟩
    refine ⟨_, k, ws.flatten, x, y, b, bss.flatten, rfl, x2.sub, KRep.mono x2.g hk, FRep.mono x2.g f1, s2 _ _ (sG _ _ gb), k2.symm, by omega, by rw [kE]; omega, hd, fun v3 G3 H3 x3 r3 => ?_⟩
    rw [kE] at r3
    refine ⟨by show 2 ≤ sizeLine; decide, fun t nt => ?_⟩
    have x5 : X0 G3 H3 (upd G3 t (.tup [.ref D, v3])) (upd H3 t (.tup [.ref D, v3])) := Xt.new x3.sub nt
    exact q _ _ _ ((x2.trans x3).trans x5) ⟨t, D, v3, rfl, upd_same, x5.g _ _ (x3.g _ _ upd_same), FRep.mono x5.g r3⟩
end
end Bw
namespace Bw
open PySem PySem.Spec PyProof.Rows L2
open C8 (Cal pe_c)
/-! ### several kinds, several flats -/
abbrev KReps (K : PySem.W.Frag) (G : Hp) : List Kd → List V → Prop := Paired (KRep K G)
theorem KReps.mono {K : PySem.W.Frag} {G G' : Hp} (e : Same G G') {ks : List Kd} {vs : List V} (h : KReps K G ks vs) : KReps K G' ks vs := L2.Paired.mapP h fun _ _ q => KRep.mono e q
def items : (ks : List Kd) → List (Tys ks) → List (Sigma fun k => List (Ty k))
  | [], _ => []
  | k :: ks, ts => ⟨k, ts.map Prod.fst⟩ :: items ks (ts.map Prod.snd)
abbrev FIt (G : Hp) (p : Sigma fun k => List (Ty k)) (f : V) : Prop := FRep G p.1 p.2 f
theorem items_of {G : Hp} : ∀ {ks : List Kd} {ts : List (Tys ks)} {fs : List V}, FReps G ks ts fs → Paired (FIt G) (items ks ts) fs
  | [], _, _, h => by
    cases h
    exact .nil
  | k :: ks, ts, _, ⟨f, r, h, h1, h2⟩ => by
    cases h
    exact .cons h1 (items_of h2)
theorem of_items {G : Hp} : ∀ {ks : List Kd} {ts : List (Tys ks)} {fs : List V}, Paired (FIt G) (items ks ts) fs → FReps G ks ts fs
  | [], _, [], _ => rfl
  | k :: ks, ts, f :: fs, .cons h t => ⟨f, fs, rfl, h, of_items t⟩
theorem items_kinds : ∀ (ks : List Kd) (ts : List (Tys ks)), (items ks ts).map Sigma.fst = ks
  | [], _ => rfl
  | k :: ks, ts => by
    show k :: (items ks (ts.map Prod.snd)).map Sigma.fst = k :: ks
    rw [items_kinds ks]
theorem items_take : ∀ (ks : List Kd) (ts : List (Tys ks)) (n : Nat), items ks (ts.take n) = (items ks ts).map fun p => ⟨p.1, p.2.take n⟩
  | [], _, _ => rfl
  | k :: ks, ts, n => by
    have ih := items_take ks (ts.map Prod.snd) n
    show (⟨k, (ts.take n).map Prod.fst⟩ : Sigma fun k => List (Ty k)) :: items ks ((ts.take n).map Prod.snd) = ⟨k, (ts.map Prod.fst).take n⟩ :: _
    rw [List.map_take, List.map_take, ih]
theorem items_len : ∀ (ks : List Kd) (ts : List (Tys ks)), ∀ p ∈ items ks ts, p.2.length = ts.length ∧ tot p.1 p.2 ≤ tots ks ts
  | [], _, p, h => by cases h
  | k :: ks, ts, p, h => by
    have e : tots (k :: ks) ts = tot k (ts.map Prod.fst) + tots ks (ts.map Prod.snd) := rfl
    rcases List.mem_cons.mp h with rfl | h
    · exact ⟨List.length_map _, by rw [e]; exact Nat.le_add_right _ _⟩
    · obtain ⟨h1, h2⟩ := items_len ks (ts.map Prod.snd) p h
      exact ⟨by rw [h1, List.length_map], by rw [e]; omega⟩
theorem tots_take : ∀ (ks : List Kd) (ts : List (Tys ks)) (n : Nat), tots ks (ts.take n) ≤ tots ks ts
  | [], _, _ => Nat.le_refl 0
  | k :: ks, ts, n => by
    have e1 : tots (k :: ks) ts = tot k (ts.map Prod.fst) + tots ks (ts.map Prod.snd) := rfl
    have e2 : tots (k :: ks) (ts.take n) = tot k ((ts.map Prod.fst).take n) + tots ks ((ts.map Prod.snd).take n) := by
      show tot k ((ts.take n).map Prod.fst) + tots ks ((ts.take n).map Prod.snd) = _
      rw [List.map_take, List.map_take]
    have h1 := tot_take k n (ts.map Prod.fst)
    have h2 := tots_take ks (ts.map Prod.snd) n
    omega
theorem firstW_ahead : ∀ (ws : List (Option Str)), (firstW ws).1 ≤ ws.length ∧ ∀ w ∈ ws.take (firstW ws).1, w = none
  | [] => ⟨Nat.le_refl 0, fun _ h => by cases h⟩
  | none :: r => by
    obtain ⟨h1, h2⟩ := firstW_ahead r
    have e : (firstW (none :: r)).1 = (firstW r).1 + 1 := rfl
    rw [e]
    refine ⟨Nat.succ_le_succ h1, fun w hw => ?_⟩
    rw [List.take_succ_cons] at hw
    rcases List.mem_cons.mp hw with h | h
    · exact h
    · exact h2 w h
  | some z :: r => ⟨Nat.zero_le _, fun _ h => by cases h⟩
theorem wd_ahead {α : Type} (f : α → Option Str) (ts : List α) : ∀ t ∈ ts.take (firstW (ts.map f)).1, f t = none := fun t h =>
  (firstW_ahead (ts.map f)).2 (f t) (by rw [← List.map_take]; exact List.mem_map_of_mem h)
/-! ### plain: cutting -/
theorem cutL_of {α : Type} : ∀ (ns : List Int) (r : List α), (∀ n ∈ ns, 0 ≤ n) → ns.sum = ((r.length : Nat) : Int) → (cutL r ns).flatten = r ∧ (cutL r ns).length = ns.length ∧ (cutL r ns).map (fun u => ((u.length : Nat) : Int)) = ns
  | [], r, _, h => by
    have h : (0 : Int) = ((r.length : Nat) : Int) := h
    have h0 : r.length = 0 := by omega
    rw [List.eq_nil_of_length_eq_zero h0]
    exact ⟨rfl, rfl, rfl⟩
  | n :: ns, r, h, hs => by
    have hn := h n List.mem_cons_self
    have hp : 0 ≤ ns.sum := by
      clear hs
      have hh : ∀ m ∈ ns, 0 ≤ m := fun m hm => h m (List.mem_cons_of_mem _ hm)
      clear h hn
      induction ns with
      | nil => exact Int.le_refl 0
      | cons m ns ih =>
        have h1 := hh m List.mem_cons_self
        have h2 := ih fun x hx => hh x (List.mem_cons_of_mem _ hx)
        rw [List.sum_cons]
        omega
    rw [List.sum_cons] at hs
    obtain ⟨i1, i2, i3⟩ := cutL_of ns (r.drop n.toNat) (fun m hm => h m (List.mem_cons_of_mem _ hm)) (by rw [List.length_drop]; omega)
    have e : cutL r (n :: ns) = r.take n.toNat :: cutL (r.drop n.toNat) ns := rfl
    rw [e, List.flatten_cons, i1, List.take_append_drop, List.length_cons, i2, List.map_cons, i3, List.length_take]
    refine ⟨rfl, rfl, ?_⟩
    rw [show ((min n.toNat r.length : Nat) : Int) = n by omega]
theorem cutOk_of {n : Nat} {ns : List Int} (h : cutOk n ns = true) : (∀ m ∈ ns, 0 ≤ m) ∧ ns.sum = (n : Int) := by
  unfold cutOk at h
  rw [Bool.and_eq_true] at h
  exact ⟨fun m hm => of_decide_eq_true (List.all_eq_true.mp h.1 m hm), of_decide_eq_true h.2⟩
theorem ite_none {b : Bool} {z : Str} (h : (if b = true then none else some z) = none) : b = true := by
  cases b with
  | true => rfl
  | false => cases h
theorem ite_none2 {p : Prop} [Decidable p] {z : Str} (h : (if p then none else some z) = none) : p := by
  by_cases hp : p
  · exact hp
  · rw [if_neg hp] at h
    cases h
theorem ite_none3 {p : Prop} [Decidable p] {z : Str} (h : (if p then some z else none) = none) : ¬ p := fun hp => by
  rw [if_pos hp] at h
  cases h
theorem mem_get {α : Type} {xs : List α} {i : Nat} {x : α} (h : xs[i]? = some x) : x ∈ xs := List.mem_of_getElem? h
section
variable {P : Program} {w : World} {K : PySem.W.Frag} {mg : Str → Option Value} {base : Heap}
/-! ### two_parted -/
def spTwo (K : PySem.W.Frag) (d : Nat) : Sp := fun vs H Q _ => ∃ (G : Hp) (s : Sg) (ts : List (Tys s.ks)) (x z f g : V), vs = [.str s.nm, x, f, g] ∧ Same G H ∧ KReps K G s.ks [x, z] ∧ FReps G s.ks ts [f, g] ∧ tots s.ks ts ≤ BIG ∧ tot s.res (ts.map s.vl) ≤ BIG ∧
  (∀ t ∈ ts, NBs s.ks t) ∧ (∀ t ∈ ts, s.wd t = none) ∧ (∀ k ∈ s.ks, k.dep ≤ d) ∧ ∀ (v : V) (G' H' : Hp), X0 G H G' H' → FRep G' s.res (ts.map s.vl) v → Q v H'
abbrev N_two_parted : List PySem.Str := ["sign", "kind", "one", "other", "here", "there"]
theorem sc_two_parted : FnScope N_two_parted ["sign", "kind", "one", "other"] (defScope s_two_parted) := ⟨rfl, rfl, rfl, by decide +kernel, rfl, by decide +kernel, by decide +kernel⟩
theorem c_two_parted {d : Nat} (T : Txt K mg) (c_picked_wide : Cal P w K mg base (d + 5) "picked_wide" (spPicked K d) []) (c_joined : Cal P w K mg base (d + 5) "joined" (spJoined K d) []) (c_kept_within : Cal P w K mg base (d + 5) "kept_within" (spKeptW K d) []) (c_reckoned_stops : Cal P w K mg base 1 "reckoned_stops" spReck []) :
    Cal P w K mg base (d + 6) "two_parted" (spTwo K d) [] := by
  refine cal_of (d := d_two_parted) T (mem_fn 24) rfl (mem_fa 24) rfl rfl sc_two_parted (fun _ _ _ _ _ _ us hl => match us, hl with | [_, _, _, _], _ => rfl) (fun vs H Q E h => ?_) (fun cdv A outer s H vs Q E f hr h => ?_)
  · obtain ⟨G, s, ts, x, z, fl, gl, rfl, _⟩ := h
    rfl
  obtain ⟨G, sg, ts, x, z, fv, gv, rfl, sG, hK, hF, ht, hto, hN, hw, hd, q⟩ := h
  refine ⟨_, (pss_cons (ps_if (pt_cmpR op_eq (pv 0) pe_str (nomark _)) (pss_one (ps_ret (pe_lc (own := [("here", 4), ("there", 5)]) rfl sc_two_parted.nd (pi_zip rfl T.zip (pa_cons (pv 2) (pa_cons (pv 3) pa_nil))) (blkOk_by (N := N_two_parted) (sc := defScope s_two_parted) (by decide +kernel)) (fun _ _ _ _ _ => (g_tup (n := 2) rfl (pgs_cons (pg_name (i := 4) sc_two_parted.nd rfl (.inl rfl)) (pgs_cons (pg_name (i := 5) sc_two_parted.nd rfl (.inl rfl)) pgs_nil)))) (fun _ _ _ _ _ => pts_nil) (fun _ _ _ _ _ => (pe_cmpR op_lt (pv 4) (pv 5) (nomark _)))))) pss_nil)
      (pss_cons (ps_if (pt_cmpR op_eq (pv 0) pe_str (nomark _)) (pss_one (ps_ret (pe_lc (own := [("here", 4), ("there", 5)]) rfl sc_two_parted.nd (pi_zip rfl T.zip (pa_cons (pv 2) (pa_cons (pv 3) pa_nil))) (blkOk_by (N := N_two_parted) (sc := defScope s_two_parted) (by decide +kernel)) (fun _ _ _ _ _ => (g_tup (n := 2) rfl (pgs_cons (pg_name (i := 4) sc_two_parted.nd rfl (.inl rfl)) (pgs_cons (pg_name (i := 5) sc_two_parted.nd rfl (.inl rfl)) pgs_nil)))) (fun _ _ _ _ _ => pts_nil) (fun _ _ _ _ _ => (pe_cmpR op_eq (pv 4) (pv 5) (nomark _)))))) pss_nil)
      (pss_cons (ps_if (pt_cmpR op_eq (pv 0) pe_str (nomark _)) (pss_one (ps_ret (pe_lc (own := [("here", 4), ("there", 5)]) rfl sc_two_parted.nd (pi_zip rfl T.zip (pa_cons (pv 2) (pa_cons (pv 3) pa_nil))) (blkOk_by (N := N_two_parted) (sc := defScope s_two_parted) (by decide +kernel)) (fun _ _ _ _ _ => (g_tup (n := 2) rfl (pgs_cons (pg_name (i := 4) sc_two_parted.nd rfl (.inl rfl)) (pgs_cons (pg_name (i := 5) sc_two_parted.nd rfl (.inl rfl)) pgs_nil)))) (fun _ _ _ _ _ => pts_nil) (fun _ _ _ _ _ => (pe_and (pv 4) (pe_one (pv 5))))))) pss_nil)
      (pss_cons (ps_if (pt_cmpR op_eq (pv 0) pe_str (nomark _)) (pss_one (ps_ret (pe_tup (pa_cons (pv 2) (pa_cons (pv 3) pa_nil))))) pss_nil)
      (pss_cons (ps_if (pt_cmpR op_eq (pv 0) pe_str (nomark _)) (pss_one (ps_ret (pe_c c_picked_wide hr (Nat.le_refl _) rfl (pa_cons (pe_ix i_tup (pv 1) pe_int (fun _ _ => rfl)) (pa_cons (pv 2) (pa_cons (pv 3) pa_nil)))))) pss_nil)
      (pss_cons (ps_if (pt_cmpR op_eq (pv 0) pe_str (nomark _)) (pss_one (ps_ret (pe_c c_joined hr (Nat.le_refl _) rfl (pa_cons (pe_ix i_tup (pv 1) pe_int (fun _ _ => rfl)) (pa_cons (pv 2) (pa_cons (pv 3) pa_nil)))))) pss_nil)
      (pss_cons (ps_if (pt_cmpR op_eq (pv 0) pe_str (nomark _)) (pss_one (ps_ret (pe_c c_kept_within hr (Nat.le_refl _) rfl (pa_cons (pe_ix i_tup (pv 1) pe_int (fun _ _ => rfl)) (pa_cons (pv 2) (pa_cons (pe_ix i_tup (pv 3) pe_int (fun _ _ => rfl)) pa_nil)))))) pss_nil)
      (pss_cons (ps_if (pt_cmpR op_eq (pv 0) pe_str (nomark _)) (pss_one (ps_ret (pe_tup (pa_cons (pe_ix i_tup (pv 3) pe_int (fun _ _ => rfl)) (pa_cons (pe_tup (pa_cons (pe_ix i_tup (pv 3) pe_int (fun _ _ => rfl)) (pa_cons (pe_ix i_tup (pv 2) pe_int (fun _ _ => rfl)) pa_nil))) pa_nil))))) pss_nil)
      (pss_one (ps_ret (pe_c c_reckoned_stops hr (by omega) rfl (pa_cons (pv 0) (pa_cons (pv 2) (pa_cons (pv 3) pa_nil)))))))))))))), ?_⟩
  have hB : BIG = 1000000 := rfl
  have hz0 : ts.length ≤ BIG := by
    have h1 := len_tot sg.res (ts.map sg.vl)
    rw [List.length_map] at h1
    omega
  have arith : ∀ (a : Ar) (xs ys : List Int) (f g : Addr), fv = .ref f → gv = .ref g → G f = some (.lst (xs.map V.int)) → G g = some (.lst (ys.map V.int)) → xs.length = ys.length → xs.length ≤ BIG → a.nm = sg.nm → (∀ (i : Nat) (x y : Int), xs[i]? = some x → ys[i]? = some y → a.ok x y) →
      (∀ (G' : Hp) (p : Addr), G' p = some (.lst ((List.zipWith a.f xs ys).map V.int)) → FRep G' sg.res (ts.map sg.vl) (.ref p)) →
      tRet (tCall spReck [] C8.E0 (tCons (tVar 0) (tCons (tVar 2) (tCons (tVar 3) tNil)))) { nx := fun _ H' => Q .non H', rt := Q } (L2.start N_two_parted [.str sg.nm, x, fv, gv]) H := fun a xs ys f g ef eg gf gg hl hz en ok fin => by
    subst ef
    subst eg
    refine ⟨_, rfl, _, rfl, _, rfl, a, f, g, xs, ys, by rw [en]; rfl, sG _ _ gf, sG _ _ gg, hl, hz, ok, fun p H1 e1 np hp => ?_⟩
    exact q _ _ _ (Xt.pub0 sG e1 np hp) (fin _ p upd_same)
  cases sg with
  | less =>
    obtain ⟨f1, r1, e1, h1, f2, r2, e2, h2, e3⟩ := hF
    cases e3; cases e2; cases e1
    obtain ⟨a, rfl, ga⟩ := h1
    obtain ⟨b, rfl, gb⟩ := h2
    refine sq_yes (a_sg rfl rfl) ?_
    refine ⟨_, rfl, _, rfl, a, b, _, _, rfl, SqL.of (sG _ _ ga), SqL.of (sG _ _ gb), fun D nD => ?_⟩
    refine lc_mapZ (SqL.of (sG _ _ ga)) (SqL.of (sG _ _ gb)) ((ts.map Sg.less.vl).map V.bl) (by simp) (by simp; exact hz0) nD (fun _ _ => rfl) (fun i v1 v2 y Hc KK hv1 hv2 hy e kk => ?_) fun H2 e2 hD => q _ _ _ (Xt.pub0 sG e2 nD hD) ⟨D, rfl, upd_same⟩
    obtain ⟨u, hu, rfl⟩ := map_some hy
    obtain ⟨t, hti, rfl⟩ := map_some hu
    rw [List.map_map] at hv1
    rw [List.map_map, List.map_map] at hv2
    have ev1 := map_at hti hv1
    have ev2 := map_at hti hv2
    subst ev1 ev2
    exact ⟨_, rfl, _, rfl, _, _, rfl, rfl, kk _ (Same.refl _)⟩
  | sameN =>
    obtain ⟨f1, r1, e1, h1, f2, r2, e2, h2, e3⟩ := hF
    cases e3; cases e2; cases e1
    obtain ⟨a, rfl, ga⟩ := h1
    obtain ⟨b, rfl, gb⟩ := h2
    refine sq_no (a_sg rfl rfl) (sq_yes (a_sg rfl rfl) ?_)
    refine ⟨_, rfl, _, rfl, a, b, _, _, rfl, SqL.of (sG _ _ ga), SqL.of (sG _ _ gb), fun D nD => ?_⟩
    refine lc_mapZ (SqL.of (sG _ _ ga)) (SqL.of (sG _ _ gb)) ((ts.map Sg.sameN.vl).map V.bl) (by simp) (by simp; exact hz0) nD (fun _ _ => rfl) (fun i v1 v2 y Hc KK hv1 hv2 hy e kk => ?_) fun H2 e2 hD => q _ _ _ (Xt.pub0 sG e2 nD hD) ⟨D, rfl, upd_same⟩
    obtain ⟨u, hu, rfl⟩ := map_some hy
    obtain ⟨t, hti, rfl⟩ := map_some hu
    rw [List.map_map] at hv1
    rw [List.map_map, List.map_map] at hv2
    have ev1 := map_at hti hv1
    have ev2 := map_at hti hv2
    subst ev1 ev2
    refine ⟨_, rfl, _, rfl, rfl, ?_⟩
    have kk := kk _ (Same.refl _)
    have e : decide (V.int t.1 = V.int t.2.1) = decide (t.1 = t.2.1) := by
      by_cases hc : (t.1 : Int) = t.2.1
      · rw [decide_eq_true hc, decide_eq_true (congrArg V.int hc)]
      · rw [decide_eq_false hc, decide_eq_false fun z => hc (V.int.inj z)]
    show KK (.bl (decide (V.int t.1 = V.int t.2.1))) Hc
    rw [e]
    exact kk
  | sameT =>
    obtain ⟨f1, r1, e1, h1, f2, r2, e2, h2, e3⟩ := hF
    cases e3; cases e2; cases e1
    obtain ⟨a, rfl, ga⟩ := h1
    obtain ⟨b, rfl, gb⟩ := h2
    refine sq_no (a_sg rfl rfl) (sq_yes (a_sg rfl rfl) ?_)
    refine ⟨_, rfl, _, rfl, a, b, _, _, rfl, SqL.of (sG _ _ ga), SqL.of (sG _ _ gb), fun D nD => ?_⟩
    refine lc_mapZ (SqL.of (sG _ _ ga)) (SqL.of (sG _ _ gb)) ((ts.map Sg.sameT.vl).map V.bl) (by simp) (by simp; exact hz0) nD (fun _ _ => rfl) (fun i v1 v2 y Hc KK hv1 hv2 hy e kk => ?_) fun H2 e2 hD => q _ _ _ (Xt.pub0 sG e2 nD hD) ⟨D, rfl, upd_same⟩
    obtain ⟨u, hu, rfl⟩ := map_some hy
    obtain ⟨t, hti, rfl⟩ := map_some hu
    rw [List.map_map] at hv1
    rw [List.map_map, List.map_map] at hv2
    have ev1 := map_at hti hv1
    have ev2 := map_at hti hv2
    subst ev1 ev2
    refine ⟨_, rfl, _, rfl, rfl, ?_⟩
    have kk := kk _ (Same.refl _)
    have e : decide (V.bl t.1 = V.bl t.2.1) = decide (t.1 = t.2.1) := by
      by_cases hc : (t.1 : Bool) = t.2.1
      · rw [decide_eq_true hc, decide_eq_true (congrArg V.bl hc)]
      · rw [decide_eq_false hc, decide_eq_false fun z => hc (V.bl.inj z)]
    show KK (.bl (decide (V.bl t.1 = V.bl t.2.1))) Hc
    rw [e]
    exact kk
  | both =>
    obtain ⟨f1, r1, e1, h1, f2, r2, e2, h2, e3⟩ := hF
    cases e3; cases e2; cases e1
    obtain ⟨a, rfl, ga⟩ := h1
    obtain ⟨b, rfl, gb⟩ := h2
    refine sq_no (a_sg rfl rfl) (sq_no (a_sg rfl rfl) (sq_yes (a_sg rfl rfl) ?_))
    refine ⟨_, rfl, _, rfl, a, b, _, _, rfl, SqL.of (sG _ _ ga), SqL.of (sG _ _ gb), fun D nD => ?_⟩
    refine lc_mapZ (SqL.of (sG _ _ ga)) (SqL.of (sG _ _ gb)) ((ts.map Sg.both.vl).map V.bl) (by simp) (by simp; exact hz0) nD (fun _ _ => rfl) (fun i v1 v2 y Hc KK hv1 hv2 hy e kk => ?_) fun H2 e2 hD => q _ _ _ (Xt.pub0 sG e2 nD hD) ⟨D, rfl, upd_same⟩
    obtain ⟨u, hu, rfl⟩ := map_some hy
    obtain ⟨t, hti, rfl⟩ := map_some hu
    rw [List.map_map] at hv1
    rw [List.map_map, List.map_map] at hv2
    have ev1 := map_at hti hv1
    have ev2 := map_at hti hv2
    subst ev1 ev2
    have kk : KK (.bl ((t.1 : Bool) && (t.2.1 : Bool))) Hc := kk _ (Same.refl _)
    refine ⟨_, rfl, t.1, rfl, ?_⟩
    cases hc : (t.1 : Bool) with
    | true =>
      rw [hc, Bool.true_and] at kk
      exact iteT ⟨_, rfl, kk⟩
    | false =>
      rw [hc, Bool.false_and] at kk
      exact iteF kk
  | pair k l =>
    obtain ⟨f1, r1, e1, h1, f2, r2, e2, h2, e3⟩ := hF
    cases e3; cases e2; cases e1
    refine sq_no (a_sg rfl rfl) (sq_no (a_sg rfl rfl) (sq_no (a_sg rfl rfl) (sq_yes (a_sg rfl rfl) ?_)))
    refine ⟨_, rfl, _, rfl, by show 2 ≤ sizeLine; decide, fun t nt => ?_⟩
    have x5 : X0 G H (upd G t (.tup [fv, gv])) (upd H t (.tup [fv, gv])) := Xt.new sG nt
    refine q _ _ _ x5 ⟨t, fv, gv, rfl, upd_same, ?_, ?_⟩
    · rw [List.map_map]
      exact FRep.mono x5.g h1
    · rw [List.map_map]
      rw [List.map_map] at h2
      exact FRep.mono x5.g h2
  | pick k =>
    obtain ⟨f1, r1, e1, h1, f2, r2, e2, h2, e3⟩ := hF
    cases e3; cases e2; cases e1
    obtain ⟨b, rfl, gb⟩ := h2
    refine sq_no (a_sg rfl rfl) (sq_no (a_sg rfl rfl) (sq_no (a_sg rfl rfl) (sq_no (a_sg rfl rfl) (sq_yes (a_sg rfl rfl) ?_))))
    cases hK with
    | cons hk1 hk2 =>
      obtain ⟨ka, kx, rfl, sk, hk⟩ := hk1
      have hdd : (Kd.row k).dep ≤ d := hd _ List.mem_cons_self
      have hdd : k.dep + 1 ≤ d := hdd
      have ht : tot (.row k) (ts.map Prod.fst) + (tot .num ((ts.map Prod.snd).map Prod.fst) + 0) ≤ BIG := ht
      have eZ : List.zipWith (pickD (dflt k)) (ts.map Prod.fst) ((ts.map Prod.snd).map Prod.fst) = ts.map (Sg.pick k).vl := by
        rw [List.map_map, zw]
        rfl
      refine ⟨_, rfl, ka, _, 1, _, rfl, rfl, sameT sG sk, atI_nat (j := 1) rfl, _, rfl, _, rfl, ?_⟩
      refine ⟨G, k, ts.map Prod.fst, (ts.map Prod.snd).map Prod.fst, kx, fv, b, rfl, sG, hk, h1, gb, by simp, fun i r n hri hni => ?_, by omega, by rw [eZ]; exact hto, by omega, fun v G' H' x r => ?_⟩
      · obtain ⟨t, hti, rfl⟩ := map_some hri
        rw [List.map_map] at hni
        have en := map_at hti hni
        subst en
        have h3 : pickW t.2.1 (List.length t.1) = none := hw t (mem_get hti)
        unfold pickW at h3
        have h4 := ite_none h3
        rw [Bool.and_eq_true] at h4
        exact ⟨of_decide_eq_true h4.1, of_decide_eq_true h4.2⟩
      · rw [eZ] at r
        exact q v G' H' x r
  | join k =>
    obtain ⟨f1, r1, e1, h1, f2, r2, e2, h2, e3⟩ := hF
    cases e3; cases e2; cases e1
    refine sq_no (a_sg rfl rfl) (sq_no (a_sg rfl rfl) (sq_no (a_sg rfl rfl) (sq_no (a_sg rfl rfl) (sq_no (a_sg rfl rfl) (sq_yes (a_sg rfl rfl) ?_)))))
    cases hK with
    | cons hk1 hk2 =>
      obtain ⟨ka, kx, rfl, sk, hk⟩ := hk1
      have hdd : (Kd.row k).dep ≤ d := hd _ List.mem_cons_self
      have hdd : k.dep + 1 ≤ d := hdd
      have ht : tot (.row k) (ts.map Prod.fst) + (tot (.row k) ((ts.map Prod.snd).map Prod.fst) + 0) ≤ BIG := ht
      have eZ : appW (ts.map Prod.fst) ((ts.map Prod.snd).map Prod.fst) = ts.map (Sg.join k).vl := by
        unfold appW
        rw [List.map_map, zw]
        rfl
      refine ⟨_, rfl, ka, _, 1, _, rfl, rfl, sameT sG sk, atI_nat (j := 1) rfl, _, rfl, _, rfl, ?_⟩
      refine ⟨G, k, ts.map Prod.fst, (ts.map Prod.snd).map Prod.fst, kx, fv, gv, rfl, sG, hk, h1, h2, by simp, by omega, by rw [eZ]; exact hto, by omega, fun v G' H' x r => ?_⟩
      rw [eZ] at r
      exact q v G' H' x r
  | keep k =>
    obtain ⟨f1, r1, e1, h1, f2, r2, e2, h2, e3⟩ := hF
    cases e3; cases e2; cases e1
    refine sq_no (a_sg rfl rfl) (sq_no (a_sg rfl rfl) (sq_no (a_sg rfl rfl) (sq_no (a_sg rfl rfl) (sq_no (a_sg rfl rfl) (sq_no (a_sg rfl rfl) (sq_yes (a_sg rfl rfl) ?_))))))
    cases hK with
    | cons hk1 hk2 =>
      obtain ⟨ka, kx, rfl, sk, hk⟩ := hk1
      have hdd : (Kd.row k).dep ≤ d := hd _ List.mem_cons_self
      have hdd : k.dep + 1 ≤ d := hdd
      have ht : tot (.row k) (ts.map Prod.fst) + (tot (.row .truth) ((ts.map Prod.snd).map Prod.fst) + 0) ≤ BIG := ht
      obtain ⟨a2, c2, y2, rfl, ga2, gc2, b, rfl, gb⟩ := h2
      have hlen : ∀ t ∈ ts, List.length t.1 = List.length t.2.1 := fun t htm => ite_none2 (hw t htm)
      have eZ : List.zipWith kp (ts.map Prod.fst) ((ts.map Prod.snd).map Prod.fst) = ts.map (Sg.keep k).vl := by
        rw [List.map_map, zw]
        refine List.map_congr_left fun t htm => ?_
        exact (pk_tru t.1 t.2.1 (hlen t htm)).symm
      refine ⟨_, rfl, ka, _, 1, _, rfl, rfl, sameT sG sk, atI_nat (j := 1) rfl, _, rfl, _, rfl, a2, _, 1, _, rfl, rfl, SqT.of (sG _ _ ga2), atI_nat (j := 1) rfl, ?_⟩
      refine ⟨G, k, ts.map Prod.fst, (ts.map Prod.snd).map Prod.fst, kx, fv, b, rfl, sG, hk, h1, gb, by simp, fun i r n hri hni => ?_, by omega, by rw [eZ]; exact hto, by omega, fun v G' H' x r => ?_⟩
      · obtain ⟨t, hti, rfl⟩ := map_some hri
        rw [List.map_map] at hni
        have en := map_at hti hni
        subst en
        exact hlen t (mem_get hti)
      · rw [eZ] at r
        exact q v G' H' x r
  | cut k =>
    obtain ⟨f1, r1, e1, h1, f2, r2, e2, h2, e3⟩ := hF
    cases e3; cases e2; cases e1
    refine sq_no (a_sg rfl rfl) (sq_no (a_sg rfl rfl) (sq_no (a_sg rfl rfl) (sq_no (a_sg rfl rfl) (sq_no (a_sg rfl rfl) (sq_no (a_sg rfl rfl) (sq_no (a_sg rfl rfl) (sq_yes (a_sg rfl rfl) ?_)))))))
    obtain ⟨a, c, y, rfl, ga, gc, h1⟩ := h1
    obtain ⟨a2, c2, y2, rfl, ga2, gc2, b, rfl, gb⟩ := h2
    have hC : ∀ t ∈ ts, (cutL t.1 t.2.1).flatten = t.1 ∧ (cutL t.1 t.2.1).length = List.length t.2.1 ∧ (cutL t.1 t.2.1).map (fun u => ((u.length : Nat) : Int)) = t.2.1 := fun t htm => by
      have h3 := cutOk_of (ite_none (hw t htm))
      exact cutL_of t.2.1 t.1 h3.1 h3.2
    refine ⟨_, rfl, a2, _, 0, _, rfl, rfl, SqT.of (sG _ _ ga2), atI_nat (j := 0) rfl, _, rfl, a2, _, 1, _, rfl, rfl, SqT.of (sG _ _ ga2), atI_nat (j := 1) rfl, _, rfl, a, _, 1, _, rfl, rfl, SqT.of (sG _ _ ga), atI_nat (j := 1) rfl, by show 2 ≤ sizeLine; decide, fun u nu => ?_⟩
    refine ⟨by show 2 ≤ sizeLine; decide, fun t nt => ?_⟩
    have x1 : X0 G H _ _ := Xt.new (o := .tup [.ref b, y]) sG nu
    have x2 := Xt.new (M := No) (o := .tup [.ref c2, .ref u]) x1.sub nt
    have g2 := x1.g.trans x2.g
    refine q _ _ _ (x1.trans x2) ⟨t, c2, .ref u, rfl, upd_same, ?_, u, b, y, rfl, x2.g _ _ upd_same, ?_, FRep.mono g2 ?_⟩
    · rw [g2 _ _ gc2, List.map_map, List.map_map, List.map_map]
      refine congrArg (fun z => some (HO.lst z)) (List.map_congr_left fun t htm => ?_)
      show V.int _ = V.int (((cutL t.1 t.2.1).length : Nat) : Int)
      rw [(hC t htm).2.1]
    · rw [g2 _ _ gb]
      have e : ((ts.map Prod.snd).map Prod.fst).flatten = ((ts.map (Sg.cut k).vl).flatten).map fun u => (((List.length u : Nat)) : Int) := by
        rw [List.map_flatten, List.map_map, List.map_map]
        refine congrArg List.flatten (List.map_congr_left fun t htm => ?_)
        exact (hC t htm).2.2.symm
      show some (HO.lst (List.map V.int (((ts.map Prod.snd).map Prod.fst).flatten))) = _
      rw [e, List.map_map]
      rfl
    · have e : ((ts.map (Sg.cut k).vl).flatten).flatten = (ts.map Prod.fst).flatten := by
        rw [← flat_map2]
        refine congrArg List.flatten (List.map_congr_left fun t htm => ?_)
        exact (hC t htm).1
      rw [e]
      exact h1
  | add =>
    obtain ⟨f1, r1, e1, h1, f2, r2, e2, h2, e3⟩ := hF
    cases e3; cases e2; cases e1
    obtain ⟨a, rfl, ga⟩ := h1
    obtain ⟨b, rfl, gb⟩ := h2
    refine sq_no (a_sg rfl rfl) (sq_no (a_sg rfl rfl) (sq_no (a_sg rfl rfl) (sq_no (a_sg rfl rfl) (sq_no (a_sg rfl rfl) (sq_no (a_sg rfl rfl) (sq_no (a_sg rfl rfl) (sq_no (a_sg rfl rfl) (arith .add _ _ a b rfl rfl ga gb (by simp) (by rw [List.length_map]; exact hz0) rfl (fun i x y hx hy => trivial) (fun G' p hp => ⟨p, rfl, ?_⟩)))))))))
    rw [hp, List.map_map, zw]
    rfl
  | sub =>
    obtain ⟨f1, r1, e1, h1, f2, r2, e2, h2, e3⟩ := hF
    cases e3; cases e2; cases e1
    obtain ⟨a, rfl, ga⟩ := h1
    obtain ⟨b, rfl, gb⟩ := h2
    refine sq_no (a_sg rfl rfl) (sq_no (a_sg rfl rfl) (sq_no (a_sg rfl rfl) (sq_no (a_sg rfl rfl) (sq_no (a_sg rfl rfl) (sq_no (a_sg rfl rfl) (sq_no (a_sg rfl rfl) (sq_no (a_sg rfl rfl) (arith .sub _ _ a b rfl rfl ga gb (by simp) (by rw [List.length_map]; exact hz0) rfl (fun i x y hx hy => trivial) (fun G' p hp => ⟨p, rfl, ?_⟩)))))))))
    rw [hp, List.map_map, zw]
    rfl
  | mul =>
    obtain ⟨f1, r1, e1, h1, f2, r2, e2, h2, e3⟩ := hF
    cases e3; cases e2; cases e1
    obtain ⟨a, rfl, ga⟩ := h1
    obtain ⟨b, rfl, gb⟩ := h2
    refine sq_no (a_sg rfl rfl) (sq_no (a_sg rfl rfl) (sq_no (a_sg rfl rfl) (sq_no (a_sg rfl rfl) (sq_no (a_sg rfl rfl) (sq_no (a_sg rfl rfl) (sq_no (a_sg rfl rfl) (sq_no (a_sg rfl rfl) (arith .mul _ _ a b rfl rfl ga gb (by simp) (by rw [List.length_map]; exact hz0) rfl (fun i x y hx hy => ?_) (fun G' p hp => ⟨p, rfl, ?_⟩)))))))))
    · obtain ⟨t, hti, rfl⟩ := map_some hx
      exact (hN t (mem_get hti)).1
    · rw [hp, List.map_map, zw]
      rfl
  | div =>
    obtain ⟨f1, r1, e1, h1, f2, r2, e2, h2, e3⟩ := hF
    cases e3; cases e2; cases e1
    obtain ⟨a, rfl, ga⟩ := h1
    obtain ⟨b, rfl, gb⟩ := h2
    refine sq_no (a_sg rfl rfl) (sq_no (a_sg rfl rfl) (sq_no (a_sg rfl rfl) (sq_no (a_sg rfl rfl) (sq_no (a_sg rfl rfl) (sq_no (a_sg rfl rfl) (sq_no (a_sg rfl rfl) (sq_no (a_sg rfl rfl) (arith .div _ _ a b rfl rfl ga gb (by simp) (by rw [List.length_map]; exact hz0) rfl (fun i x y hx hy => ?_) (fun G' p hp => ⟨p, rfl, ?_⟩)))))))))
    · obtain ⟨t, hti, rfl⟩ := map_some hx
      rw [List.map_map] at hy
      have ey := map_at hti hy
      subst ey
      exact ⟨ite_none3 (hw t (mem_get hti)), (hN t (mem_get hti)).2.1⟩
    · rw [hp, List.map_map, zw]
      rfl
  | rest =>
    obtain ⟨f1, r1, e1, h1, f2, r2, e2, h2, e3⟩ := hF
    cases e3; cases e2; cases e1
    obtain ⟨a, rfl, ga⟩ := h1
    obtain ⟨b, rfl, gb⟩ := h2
    refine sq_no (a_sg rfl rfl) (sq_no (a_sg rfl rfl) (sq_no (a_sg rfl rfl) (sq_no (a_sg rfl rfl) (sq_no (a_sg rfl rfl) (sq_no (a_sg rfl rfl) (sq_no (a_sg rfl rfl) (sq_no (a_sg rfl rfl) (arith .rest _ _ a b rfl rfl ga gb (by simp) (by rw [List.length_map]; exact hz0) rfl (fun i x y hx hy => ?_) (fun G' p hp => ⟨p, rfl, ?_⟩)))))))))
    · obtain ⟨t, hti, rfl⟩ := map_some hx
      rw [List.map_map] at hy
      have ey := map_at hti hy
      subst ey
      exact ⟨ite_none3 (hw t (mem_get hti)), (hN t (mem_get hti)).2.1⟩
    · rw [hp, List.map_map, zw]
      rfl
  | _ =>
    obtain ⟨f1, r1, e1, h1, e2⟩ := hF
    cases e2
    cases e1
/-! ### wide_step -/
abbrev ahd (s : Sg) (ts : List (Tys s.ks)) : Nat := (firstW (ts.map s.wd)).1
abbrev FTk (G : Hp) (n : Nat) (p : Sigma fun k => List (Ty k)) (f : V) : Prop := FRep G p.1 (p.2.take n) f
abbrev stp (s : Sg) (ts : List (Tys s.ks)) : Option Str := (firstW (ts.map s.wd)).2
def spWide (K : PySem.W.Frag) (d : Nat) : Sp := fun vs H Q _ => ∃ (G : Hp) (s : Sg) (ts : List (Tys s.ks)) (pc b1 b2 : Addr) (rest ks fs : List V), vs = [.ref pc, .ref b1, .ref b2, nV ts.length] ∧ Same G H ∧ SqT K H pc (.str s.nm :: rest) ∧ H b1 = some (.lst ks) ∧ KReps K G s.ks ks ∧ H b2 = some (.lst fs) ∧ FReps G s.ks ts fs ∧
  tots s.ks ts ≤ BIG ∧ tot s.res ((ts.take (ahd s ts)).map s.vl) ≤ BIG ∧ (∀ t ∈ ts, NBs s.ks t) ∧ (∀ k ∈ s.ks, k.dep ≤ d) ∧
  ∀ (p : Addr) (v : V) (G' H' : Hp), X0 G H G' H' → G' p = some (.tup [v, nV (ahd s ts), wV (stp s ts)]) → FRep G' s.res ((ts.take (ahd s ts)).map s.vl) v → Q (.ref p) H'
abbrev N_wide_step : List PySem.Str := ["piece", "kinds", "flats", "many", "some", "ahead", "word", "kind", "flat"]
theorem sc_wide_step : FnScope N_wide_step ["piece", "kinds", "flats", "many"] (defScope s_wide_step) := ⟨rfl, rfl, rfl, by decide +kernel, rfl, by decide +kernel, by decide +kernel⟩
theorem ks_two (s : Sg) : s.ks.length = 1 ∨ s.ks.length = 2 := by cases s <;> first | exact .inl rfl | exact .inr rfl
theorem c_wide_step {d : Nat} (T : Txt K mg) (c_first_stop : Cal P w K mg base 1 "first_stop" spFirstStop []) (c_words_of : Cal P w K mg base 5 "words_of" spWordsOf []) (c_first_ones : Cal P w K mg base (d + 4) "first_ones" (spFirst K d) []) (c_one_parted : Cal P w K mg base 3 "one_parted" spOne1 [])
    (c_two_parted : Cal P w K mg base (d + 6) "two_parted" (spTwo K d) []) : Cal P w K mg base (d + 7) "wide_step" (spWide K d) [] := by
  refine cal_of (d := d_wide_step) T (mem_fn 25) rfl (mem_fa 25) rfl rfl sc_wide_step (fun _ _ _ _ _ _ us hl => match us, hl with | [_, _, _, _], _ => rfl) (fun vs H Q E h => ?_) (fun cdv A outer s H vs Q E f hr h => ?_)
  · obtain ⟨G, s, ts, pc, b1, b2, rest, ks, fs, rfl, _⟩ := h
    rfl
  obtain ⟨G, sg, ts, pc, b1, b2, rest, ks, fs, rfl, sG, hpc, hb1, hK, hb2, hF, ht, hto, hN, hd, q⟩ := h
  refine ⟨_, (pss_cons (ps_asg (pe_c c_first_stop hr (by omega) rfl (pa_cons (pe_c c_words_of hr (by omega) rfl (pa_cons (pe_ix i_tup (pv 0) pe_int (fun _ _ => rfl)) (pa_cons (pv 2) (pa_cons (pv 3) pa_nil)))) pa_nil)) (g_tup (n := 2) rfl (pgs_cons (pg_name (i := 5) sc_wide_step.nd rfl (.inr rfl)) (pgs_cons (pg_name (i := 6) sc_wide_step.nd rfl (.inl rfl)) pgs_nil))))
      (pss_cons (ps_setLc (i := 4) (own := [("kind", 7), ("flat", 8)]) rfl sc_wide_step.nd rfl rfl (sw_true rfl rfl rfl (by decide +kernel)) (pi_zip rfl T.zip (pa_cons (pv 1) (pa_cons (pv 2) pa_nil))) (blkOk_by (N := N_wide_step) (sc := defScope s_wide_step) (by decide +kernel)) (fun _ _ _ _ _ => (g_tup (n := 2) rfl (pgs_cons (pg_name (i := 7) sc_wide_step.nd rfl (.inl rfl)) (pgs_cons (pg_name (i := 8) sc_wide_step.nd rfl (.inl rfl)) pgs_nil)))) (fun _ _ _ _ _ => pts_nil) (fun _ _ _ _ _ => (pe_c c_first_ones hr (by omega) rfl (pa_cons (pv 7) (pa_cons (pv 8) (pa_cons (pv 5) pa_nil))))))
      (pss_cons (ps_if (pt_cmpR op_eq (e_len T.len (pv 4)) pe_int (nomark _)) pss_never pss_nil)
      (pss_cons (ps_if (pt_cmpR op_eq (e_len T.len (pv 4)) pe_int (nomark _)) (pss_one (ps_ret (pe_tup (pa_cons (pe_c c_one_parted hr (by omega) rfl (pa_cons (pe_ix i_tup (pv 0) pe_int (fun _ _ => rfl)) (pa_cons (pe_ix i_list (pv 4) pe_int (fun _ _ => rfl)) (pa_cons (pv 5) pa_nil)))) (pa_cons (pv 5) (pa_cons (pv 6) pa_nil)))))) pss_nil)
      (pss_one (ps_ret (pe_tup (pa_cons (pe_c c_two_parted hr (Nat.le_refl _) rfl (pa_cons (pe_ix i_tup (pv 0) pe_int (fun _ _ => rfl)) (pa_cons (pe_ix i_list (pv 1) pe_int (fun _ _ => rfl)) (pa_cons (pe_ix i_list (pv 4) pe_int (fun _ _ => rfl)) (pa_cons (pe_ix i_list (pv 4) pe_int (fun _ _ => rfl)) pa_nil))))) (pa_cons (pv 5) (pa_cons (pv 6) pa_nil)))))))))), ?_⟩
  have hn : ahd sg ts ≤ ts.length := by
    have h1 := (firstW_ahead (ts.map sg.wd)).1
    rw [List.length_map] at h1
    exact h1
  have hwn : ∀ t ∈ ts.take (ahd sg ts), sg.wd t = none := wd_ahead sg.wd ts
  have hNn : ∀ t ∈ ts.take (ahd sg ts), NBs sg.ks t := fun t h => hN t (List.mem_of_mem_take h)
  have htn := tots_take sg.ks ts (ahd sg ts)
  have hln : (ts.take (ahd sg ts)).length = ahd sg ts := by rw [List.length_take, Nat.min_eq_left hn]
  refine ⟨_, rfl, pc, _, 0, _, rfl, rfl, hpc, atI_nat (j := 0) rfl, _, rfl, _, rfl, G, sg, ts, b2, fs, rfl, sG, hb2, hF, ht, hN, fun p1 H1 e1 np1 hp1 => ?_⟩
  refine ⟨p1, ts.map sg.wd, rfl, by rw [hp1, List.map_map]; rfl, fun p2 H2 e2 np2 hp2 => ?_⟩
  have e12 := e1.trans e2
  have x2 : X0 G H G H2 := Xt.of_same sG e12
  refine g_pair rfl hp2 ?_
  refine ⟨_, rfl, _, rfl, b1, b2, _, _, rfl, SqL.of (e12 _ _ hb1), SqL.of (e12 _ _ hb2), fun D nD => ?_⟩
  have hI := items_of hF
  have lI := Paired.length hI
  have lK := Paired.length hK
  have lKI : (items sg.ks ts).length = sg.ks.length := by rw [← List.length_map (f := Sigma.fst), items_kinds]
  have hks2 := ks_two sg
  refine lc_gen (M := No) (G1 := G) (H1 := H2) (walk_zip (xs := ks) (ys := fs) (n := (items sg.ks ts).length) (by rw [← lK, ← lI, lKI, Nat.min_self])) (fun i acc G' _ => Paired (FTk G' (ahd sg ts)) ((items sg.ks ts).take i) acc) x2.sub (fun _ z => z.elim) nD .nil (fun i acc G' H' o z _ => z)
    (fun i acc G' H' e _ _ => ⟨SqL.of (e.same _ _ (e12 _ _ hb1)), SqL.of (e.same _ _ (e12 _ _ hb2))⟩) (fun i acc v G' H' H'' Nx hi e hD gD hII hY k1 k2 => ?_) fun acc G' H' e hD gD hII => ?_
  · obtain ⟨u, v1, v2, rfl, nu, rfl, h1, h2⟩ := hY
    have h1 : ks[i]? = some v1 := h1
    have h2 : fs[i]? = some v2 := h2
    obtain ⟨k, hki, hk1⟩ := pr_getR hK h1
    obtain ⟨pp, hpi, hf1⟩ := pr_getR hI h2
    have hpk : pp.1 = k := by
      have h3 := map_at (f := Sigma.fst) (v := k) hpi (by rw [items_kinds]; exact hki)
      exact h3.symm
    obtain ⟨kk, us⟩ := pp
    subst hpk
    obtain ⟨hu1, hu2⟩ := items_len sg.ks ts _ (mem_get hpi)
    have x1 : X0 G' H' G' (upd H' u (.tup [v1, v2])) := Xt.loc e.sub nu
    refine g_pair rfl upd_same ⟨rfl, ?_⟩
    refine ⟨_, rfl, _, rfl, _, rfl, ?_⟩
    refine ⟨G', kk, us, v1, v2, ahd sg ts, rfl, x1.sub, KRep.mono e.g hk1, FRep.mono e.g hf1, by rw [hu1]; exact hn, Nat.le_trans hu2 ht, hd kk (mem_get hki), fun v G4 H4 x4 r => ?_⟩
    have hal := Paired.length hII
    rw [List.length_take] at hal
    refine k1 v G4 H4 (x1.trans x4) ?_ ?_
    · have : acc.length ≤ 2 := by omega
      exact Nat.lt_of_le_of_lt this (by decide)
    · rw [take_next hpi]
      exact pr_app (L2.Paired.mapP hII fun _ _ q => FRep.mono x4.g q) (.cons r .nil)
  · have hP : Paired (FIt G') (items sg.ks (ts.take (ahd sg ts))) acc := by
      rw [List.take_length] at hII
      rw [items_take]
      exact pr_mapL (f := fun p => ⟨p.1, p.2.take (ahd sg ts)⟩) (F := FTk G' (ahd sg ts)) (E := FIt G') (fun _ _ q => q) hII
    have hFn := of_items hP
    have lA := Paired.length hII
    rw [List.take_length, lKI] at lA
    have x3 := x2.trans e
    have s3 := x3.same
    rcases hks2 with h1 | h2
    · rw [h1] at lA
      match acc, lA, hD, hFn with
      | [f1], _, hD, hFn =>
      refine ⟨_, rfl, D, _, rfl, .inl (SqL.of hD), rfl, false, rfl, iteF ?_⟩
      refine ⟨_, rfl, D, _, rfl, .inl (SqL.of hD), rfl, true, rfl, iteT ?_⟩
      refine ⟨_, rfl, pc, _, 0, _, rfl, rfl, sameT s3 hpc, atI_nat (j := 0) rfl, _, rfl, D, _, 0, _, rfl, rfl, SqL.of hD, atI_nat (j := 0) rfl, _, rfl, ?_⟩
      refine ⟨G', sg, ts.take (ahd sg ts), f1, by rw [hln]; rfl, x3.sub, hFn, by omega, hto, hwn, fun v G4 H4 x4 r => ?_⟩
      refine ⟨_, rfl, _, rfl, by show 3 ≤ sizeLine; decide, fun t nt => ?_⟩
      have x5 : X0 G4 H4 (upd G4 t (.tup [v, nV (ahd sg ts), wV (stp sg ts)])) (upd H4 t (.tup [v, nV (ahd sg ts), wV (stp sg ts)])) := Xt.new x4.sub nt
      exact q t v _ _ ((x3.trans x4).trans x5) upd_same (FRep.mono x5.g r)
    · rw [h2] at lA lK
      match acc, lA, hD, hFn with
      | [f1, f2], _, hD, hFn =>
      match ks, lK, hb1, hK with
      | [k1, k2], _, hb1, hK =>
      refine ⟨_, rfl, D, _, rfl, .inl (SqL.of hD), rfl, false, rfl, iteF ?_⟩
      refine ⟨_, rfl, D, _, rfl, .inl (SqL.of hD), rfl, false, rfl, iteF ?_⟩
      refine ⟨_, rfl, pc, _, 0, _, rfl, rfl, sameT s3 hpc, atI_nat (j := 0) rfl, _, rfl, b1, _, 0, _, rfl, rfl, SqL.of (s3 _ _ hb1), atI_nat (j := 0) rfl, _, rfl, D, _, 0, _, rfl, rfl, SqL.of hD, atI_nat (j := 0) rfl, _, rfl, D, _, 1, _, rfl, rfl, SqL.of hD, atI_nat (j := 1) rfl, ?_⟩
      refine ⟨G', sg, ts.take (ahd sg ts), k1, k2, f1, f2, rfl, x3.sub, KReps.mono x3.g hK, hFn, by omega, hto, hNn, hwn, hd, fun v G4 H4 x4 r => ?_⟩
      refine ⟨_, rfl, _, rfl, by show 3 ≤ sizeLine; decide, fun t nt => ?_⟩
      have x5 : X0 G4 H4 (upd G4 t (.tup [v, nV (ahd sg ts), wV (stp sg ts)])) (upd H4 t (.tup [v, nV (ahd sg ts), wV (stp sg ts)])) := Xt.new x4.sub nt
      exact q t v _ _ ((x3.trans x4).trans x5) upd_same (FRep.mono x5.g r)
end
end Bw
namespace Bw
open PySem PySem.Spec PyProof.Rows L2
open C8 (Cal pe_c)
/-! ### what a single step hands back -/
def QD (G H : Hp) (k : Kd) (w : Ty k) (o : Option Str) (Q : VK) : Prop := ∀ (p : Addr) (v : V) (G' H' : Hp), X0 G H G' H' → G' p = some (.tup [v, wV o]) → (o = none → Rep G' k w v) → Q (.ref p) H'
theorem QD.put {G H G1 H1 : Hp} {k : Kd} {w : Ty k} {o : Option Str} {Q : VK} {t : Addr} {v : V} (q : QD G H k w o Q) (x : X0 G H G1 H1) (nt : H1 t = none) (r : o = none → Rep G1 k w v) : Q (.ref t) (upd H1 t (.tup [v, wV o])) := by
  have x5 : X0 G1 H1 (upd G1 t (.tup [v, wV o])) (upd H1 t (.tup [v, wV o])) := Xt.new x.sub nt
  exact q t v _ _ (x.trans x5) upd_same fun e => Rep.mono x5.g (r e)
theorem QD.on {G H G1 H1 : Hp} {k : Kd} {w : Ty k} {o : Option Str} {Q : VK} (q : QD G H k w o Q) (x : X0 G H G1 H1) : QD G1 H1 k w o Q := fun p v G' H' x' h r => q p v G' H' (x.trans x') h r
def RepsT (G : Hp) : (ks : List Kd) → Tys ks → List V → Prop
  | [], _, vs => vs = []
  | k :: ks, t, vs => ∃ v r, vs = v :: r ∧ Rep G k t.1 v ∧ RepsT G ks t.2 r
theorem RepsT.mono {G G' : Hp} (e : Same G G') : ∀ {ks : List Kd} {t : Tys ks} {vs : List V}, RepsT G ks t vs → RepsT G' ks t vs
  | [], _, _, h => h
  | _ :: _, _, _, ⟨v, r, h, h1, h2⟩ => ⟨v, r, h, Rep.mono e h1, RepsT.mono e h2⟩
def wszs : (ks : List Kd) → Tys ks → Nat
  | [], _ => 0
  | k :: ks, t => wsz k t.1 + wszs ks t.2
theorem wsz_row (k : Kd) (r : List (Ty k)) : wsz (.row k) r = 1 + tot k r := rfl
def Ar.wd : Ar → Int → Int → Option Str
  | .add, i, j => grW (i + j)
  | .sub, i, j => grW (i - j)
  | .mul, i, j => grW (i * j)
  | .div, _, j => if j = 0 then some "nought" else none
  | .rest, _, j => if j = 0 then some "nought" else none
section
variable {P : Program} {w : World} {K : PySem.W.Frag} {mg : Str → Option Value} {base : Heap}
/-! ### numbers -/
def spGreat : Sp := fun vs H Q _ => ∃ i : Int, vs = [.int i] ∧ Q (.bl (!inB i)) H
abbrev N_is_great : List PySem.Str := ["number"]
theorem sc_is_great : FnScope N_is_great ["number"] (defScope s_is_great) := ⟨rfl, rfl, rfl, by decide +kernel, rfl, by decide +kernel, by decide +kernel⟩
theorem c_is_great (T : Txt K mg) : Cal P w K mg base 1 "is_great" spGreat [] := by
  refine cal_of (d := d_is_great) T (mem_fn 26) rfl (mem_fa 26) rfl rfl sc_is_great (fun _ _ _ _ _ _ us hl => match us, hl with | [_], _ => rfl) (fun vs H Q E h => ?_) (fun cdv A outer s H vs Q E f hr h => ?_)
  · obtain ⟨i, rfl, _⟩ := h
    rfl
  obtain ⟨i, rfl, q⟩ := h
  refine ⟨_, (pss_one (ps_ret (pe_or (pe_cmpR op_gt (pv 0) (pe_glob (v := .int 1000000000000000000) rfl (T.i_GREATEST_single).choose_spec ⟨_, rfl⟩) (nomark _)) (pe_one (pe_cmpR op_lt (pv 0) (pe_op op_sub pe_int (pe_glob (v := .int 1000000000000000000) rfl (T.i_GREATEST_single).choose_spec ⟨_, rfl⟩)) (nomark _)))))), ?_⟩
  unfold inB at q
  refine ⟨_, rfl, _, _, rfl, rfl, _, rfl, ?_⟩
  by_cases h1 : i ≤ 1000000000000000000
  · rw [decide_eq_false (show ¬ (1000000000000000000 : Int) < i by omega)]
    refine iteF ⟨_, rfl, _, _, rfl, rfl, _, _, rfl, rfl, ?_⟩
    by_cases h2 : -1000000000000000000 ≤ i
    · rw [decide_eq_true h1, decide_eq_true h2] at q
      show Q (.bl (decide (i < (0 : Int) - 1000000000000000000))) H
      rw [decide_eq_false (show ¬ i < (0 : Int) - 1000000000000000000 by omega)]
      exact q
    · rw [decide_eq_false h2, Bool.false_and] at q
      show Q (.bl (decide (i < (0 : Int) - 1000000000000000000))) H
      rw [decide_eq_true (show i < (0 : Int) - 1000000000000000000 by omega)]
      exact q
  · rw [decide_eq_false h1, Bool.and_false] at q
    rw [decide_eq_true (show (1000000000000000000 : Int) < i by omega)]
    exact iteT q
def spNumbered : Sp := fun vs H Q _ => ∃ (G : Hp) (i : Int), vs = [.int i] ∧ Same G H ∧ QD G H .num i (grW i) Q
abbrev N_numbered : List PySem.Str := ["number"]
theorem sc_numbered : FnScope N_numbered ["number"] (defScope s_numbered) := ⟨rfl, rfl, rfl, by decide +kernel, rfl, by decide +kernel, by decide +kernel⟩
theorem c_numbered (T : Txt K mg) (c_is_great : Cal P w K mg base 1 "is_great" spGreat []) : Cal P w K mg base 2 "numbered" spNumbered [] := by
  refine cal_of (d := d_numbered) T (mem_fn 27) rfl (mem_fa 27) rfl rfl sc_numbered (fun _ _ _ _ _ _ us hl => match us, hl with | [_], _ => rfl) (fun vs H Q E h => ?_) (fun cdv A outer s H vs Q E f hr h => ?_)
  · obtain ⟨G, i, rfl, _⟩ := h
    rfl
  obtain ⟨G, i, rfl, sG, q⟩ := h
  refine ⟨_, (pss_one (ps_ret (pe_tup (pa_cons (pv 0) (pa_cons (pe_ifExp (pt_val (pe_c c_is_great hr (by decide) rfl (pa_cons (pv 0) pa_nil))) pe_str pe_non) pa_nil))))), ?_⟩
  refine ⟨_, rfl, _, rfl, i, rfl, _, rfl, ?_⟩
  unfold grW at q
  cases hc : inB i with
  | true =>
    rw [hc] at q
    exact iteF ⟨by show 2 ≤ sizeLine; decide, fun t nt => q.put (Xt.refl sG) nt fun _ => rfl⟩
  | false =>
    rw [hc] at q
    exact iteT ⟨by show 2 ≤ sizeLine; decide, fun t nt => q.put (Xt.refl sG) nt fun _ => rfl⟩
def spDivided : Sp := fun vs H Q _ => ∃ (G : Hp) (a : Ar) (i j : Int), vs = [.str a.nm, .int i, .int j] ∧ Same G H ∧ (a = .div ∨ a = .rest) ∧ (-1000000000000000000 ≤ j ∧ j ≤ 1000000000000000000) ∧ QD G H .num (a.f i j) (a.wd i j) Q
abbrev N_divided : List PySem.Str := ["sign", "one", "other"]
theorem sc_divided : FnScope N_divided ["sign", "one", "other"] (defScope s_divided) := ⟨rfl, rfl, rfl, by decide +kernel, rfl, by decide +kernel, by decide +kernel⟩
theorem c_divided (T : Txt K mg) : Cal P w K mg base 1 "divided" spDivided [] := by
  refine cal_of (d := d_divided) T (mem_fn 28) rfl (mem_fa 28) rfl rfl sc_divided (fun _ _ _ _ _ _ us hl => match us, hl with | [_, _, _], _ => rfl) (fun vs H Q E h => ?_) (fun cdv A outer s H vs Q E f hr h => ?_)
  · obtain ⟨G, a, i, j, rfl, _⟩ := h
    rfl
  obtain ⟨G, a, i, j, rfl, sG, ha, hj, q⟩ := h
  refine ⟨_, (pss_cons (ps_if (pt_cmpR op_eq (pv 2) pe_int (nomark _)) (pss_one (ps_ret (pe_tup (pa_cons pe_int (pa_cons pe_str pa_nil))))) pss_nil)
      (pss_one (ps_ret (pe_tup (pa_cons (pe_ifExp (pt_cmpR op_eq (pv 0) pe_str (nomark _)) (pe_op op_fdivX (pv 1) (pv 2)) (pe_op op_modN (pv 1) (pv 2))) (pa_cons pe_non pa_nil)))))), ?_⟩
  have hwd : a.wd i j = if j = 0 then some ("nought" : Str) else none := by rcases ha with rfl | rfl <;> rfl
  rw [hwd] at q
  by_cases hc : j = 0
  · subst hc
    refine ⟨_, rfl, rfl, true, rfl, iteT ⟨by show 2 ≤ sizeLine; decide, fun t nt => ?_⟩⟩
    rw [if_pos rfl] at q
    exact q.put (Xt.refl sG) nt fun e => by cases e
  · rw [if_neg hc] at q
    refine ⟨_, rfl, rfl, false, congrArg V.bl (decide_eq_false fun z => hc (V.int.inj z)), iteF ?_⟩
    rcases ha with rfl | rfl
    · refine ⟨_, rfl, rfl, true, rfl, iteT ⟨_, rfl, _, rfl, _, _, rfl, rfl, ⟨hc, hj⟩, by show 2 ≤ sizeLine; decide, fun t nt => ?_⟩⟩
      exact q.put (Xt.refl sG) nt fun _ => rfl
    · refine ⟨_, rfl, rfl, false, rfl, iteF ⟨_, rfl, _, rfl, _, _, rfl, rfl, hc, by show 2 ≤ sizeLine; decide, fun t nt => ?_⟩⟩
      exact q.put (Xt.refl sG) nt fun _ => rfl
def spReckS : Sp := fun vs H Q _ => ∃ (G : Hp) (a : Ar) (i j : Int), vs = [.str a.nm, .int i, .int j] ∧ Same G H ∧ (-1000000000000000000 ≤ i ∧ i ≤ 1000000000000000000) ∧ (-1000000000000000000 ≤ j ∧ j ≤ 1000000000000000000) ∧ QD G H .num (a.f i j) (a.wd i j) Q
abbrev N_reckoned_single : List PySem.Str := ["sign", "one", "other"]
theorem sc_reckoned_single : FnScope N_reckoned_single ["sign", "one", "other"] (defScope s_reckoned_single) := ⟨rfl, rfl, rfl, by decide +kernel, rfl, by decide +kernel, by decide +kernel⟩
theorem c_reckoned_single (T : Txt K mg) (c_numbered : Cal P w K mg base 2 "numbered" spNumbered []) (c_divided : Cal P w K mg base 1 "divided" spDivided []) : Cal P w K mg base 3 "reckoned_single" spReckS [] := by
  refine cal_of (d := d_reckoned_single) T (mem_fn 59) rfl (mem_fa 59) rfl rfl sc_reckoned_single (fun _ _ _ _ _ _ us hl => match us, hl with | [_, _, _], _ => rfl) (fun vs H Q E h => ?_) (fun cdv A outer s H vs Q E f hr h => ?_)
  · obtain ⟨G, a, i, j, rfl, _⟩ := h
    rfl
  obtain ⟨G, a, i, j, rfl, sG, hi, hj, q⟩ := h
  refine ⟨_, (pss_cons (ps_if (pt_cmpR op_eq (pv 0) pe_str (nomark _)) (pss_one (ps_ret (pe_c c_numbered hr (by decide) rfl (pa_cons (pe_op op_add (pv 1) (pv 2)) pa_nil)))) pss_nil)
      (pss_cons (ps_if (pt_cmpR op_eq (pv 0) pe_str (nomark _)) (pss_one (ps_ret (pe_c c_numbered hr (by decide) rfl (pa_cons (pe_op op_sub (pv 1) (pv 2)) pa_nil)))) pss_nil)
      (pss_cons (ps_if (pt_cmpR op_eq (pv 0) pe_str (nomark _)) (pss_one (ps_ret (pe_c c_numbered hr (by decide) rfl (pa_cons (pe_op op_mul (pv 1) (pv 2)) pa_nil)))) pss_nil)
      (pss_one (ps_ret (pe_c c_divided hr (by decide) rfl (pa_cons (pv 0) (pa_cons (pv 1) (pa_cons (pv 2) pa_nil))))))))), ?_⟩
  cases a with
  | add => exact sq_yes (a_sg rfl rfl) ⟨_, rfl, _, rfl, _, _, rfl, rfl, G, _, rfl, sG, q⟩
  | sub => exact sq_no (a_sg rfl rfl) (sq_yes (a_sg rfl rfl) ⟨_, rfl, _, rfl, _, _, rfl, rfl, G, _, rfl, sG, q⟩)
  | mul => exact sq_no (a_sg rfl rfl) (sq_no (a_sg rfl rfl) (sq_yes (a_sg rfl rfl) ⟨_, rfl, _, rfl, _, _, rfl, rfl, .inl (by omega), G, _, rfl, sG, q⟩))
  | div => exact sq_no (a_sg rfl rfl) (sq_no (a_sg rfl rfl) (sq_no (a_sg rfl rfl) ⟨_, rfl, _, rfl, _, rfl, G, .div, i, j, rfl, sG, .inl rfl, hj, q⟩))
  | rest => exact sq_no (a_sg rfl rfl) (sq_no (a_sg rfl rfl) (sq_no (a_sg rfl rfl) ⟨_, rfl, _, rfl, _, rfl, G, .rest, i, j, rfl, sG, .inr rfl, hj, q⟩))
/-! ### sums -/
abbrev sumW (xs : List Int) : Option Str := if sumOk 0 xs = true then none else some "great"
def spBeginnings : Sp := fun vs H Q _ => ∃ (G : Hp) (a : Addr) (xs : List Int), vs = [.ref a] ∧ Same G H ∧ G a = some (.lst (xs.map V.int)) ∧ xs.length ≤ BIG ∧
  ∀ (p b : Addr) (ys : List Int) (l : Int) (G' H' : Hp), X0 G H G' H' → G' p = some (.tup [.ref b, wV (sumW xs)]) → G' b = some (.lst ((ys ++ [l]).map V.int)) → (sumW xs = none → ys = aheads 0 xs ∧ l = xs.sum) → Q (.ref p) H'
abbrev N_beginnings : List PySem.Str := ["row", "found", "number"]
theorem sc_beginnings : FnScope N_beginnings ["row"] (defScope s_beginnings) := ⟨rfl, rfl, rfl, by decide +kernel, rfl, by decide +kernel, by decide +kernel⟩
theorem c_beginnings (T : Txt K mg) (c_is_great : Cal P w K mg base 1 "is_great" spGreat []) : Cal P w K mg base 2 "beginnings" spBeginnings [] := by
  refine cal_of (d := d_beginnings) T (mem_fn 29) rfl (mem_fa 29) rfl rfl sc_beginnings (fun _ _ _ _ _ _ us hl => match us, hl with | [_], _ => rfl) (fun vs H Q E h => ?_) (fun cdv A outer s H vs Q E f hr h => ?_)
  · obtain ⟨G, a, xs, rfl, _⟩ := h
    rfl
  obtain ⟨G, a, xs, rfl, sG, ga, hz, q⟩ := h
  refine ⟨_, (pss_cons (ps_set (i := 1) sc_beginnings.nd rfl (.inl rfl) (pe_lst (pa_cons pe_int pa_nil)))
      (pss_cons (ps_for PassesOwn.never rfl (pi_list (pv 0)) (pg_name (i := 2) sc_beginnings.nd rfl (.inl rfl)) (pss_cons (ps_expr (pe_bm PySem.F.plainAttrs_list PySem.F.slot_list_append PySem.F.type_list_append mt_append (pv 1) (pa_cons (pe_op op_add (pe_ix i_list (pv 1) (pe_un un_neg pe_int) (fun _ _ => rfl)) (pv 2)) pa_nil)))
      (pss_one (ps_if (pt_val (pe_c c_is_great hr (by decide) rfl (pa_cons (pe_ix i_list (pv 1) (pe_un un_neg pe_int) (fun _ _ => rfl)) pa_nil))) (pss_one (ps_ret (pe_tup (pa_cons (pv 1) (pa_cons pe_str pa_nil))))) pss_nil))))
      (pss_one (ps_ret (pe_tup (pa_cons (pv 1) (pa_cons pe_non pa_nil))))))), ?_⟩
  refine ⟨by show 1 ≤ sizeLine; decide, fun p np => ?_⟩
  have e0 : Same H (upd H p (.lst [.int 0])) := same_upd np
  refine ⟨_, rfl, a, rfl, ⟨_, SqL.of (e0 _ _ (sG _ _ ga))⟩, ?_⟩
  have hB : BIG = 1000000 := rfl
  refine for_list (xs := xs.map V.int) (fun i σ H' => ∃ (y : Option V) (acc : List Int) (t : Int), σ = [some (.ref a), some (.ref p), y] ∧ Same H H' ∧ H' p = some (.lst ((acc ++ [t]).map V.int)) ∧ acc.length = i ∧ aheads 0 xs = acc ++ aheads t (xs.drop i) ∧ sumOk 0 xs = sumOk t (xs.drop i) ∧ xs.sum = t + (xs.drop i).sum)
    ⟨none, [], 0, rfl, e0, upd_same, rfl, rfl, rfl, by simp⟩ (fun i σ H' _ hv => ?_) (fun i v σ H' hxi hv => ?_) fun σ H' hv => ?_
  · obtain ⟨y, acc, t, _, e, _⟩ := hv
    exact SqL.of (e _ _ (sG _ _ ga))
  · obtain ⟨y, acc, t, rfl, e, hp, hl, hA, hS, hT⟩ := hv
    obtain ⟨x, hxe, rfl⟩ := map_some hxi
    have hi : i < xs.length := (List.getElem?_eq_some_iff.mp hxe).1
    rw [drop_cons hxe] at hA hS hT
    have hA : aheads 0 xs = acc ++ (t :: aheads (t + x) (xs.drop (i + 1))) := hA
    have hS : sumOk 0 xs = (inB (t + x) && sumOk (t + x) (xs.drop (i + 1))) := hS
    rw [List.sum_cons] at hT
    have lastAt : ∀ (ys : List Int) (l : Int), atI ((ys ++ [l]).map V.int) (-1) = some (.int l) := fun ys l => by
      rw [List.map_append]
      exact atI_last _ _
    refine ⟨_, rfl, .inl ⟨rfl, _, SqL.of hp⟩, _, rfl, 1, rfl, p, _, _, _, rfl, rfl, SqL.of hp, lastAt _ _, _, rfl, _, _, rfl, rfl, p, _, _, rfl, rfl, hp, by rw [List.length_map, List.length_append, hl]; show i + 1 < sizeLine; exact big_lt (by omega), ?_⟩
    have hp2 : upd H' p (.lst ((acc ++ [t]).map V.int ++ [.int (t + x)])) p = some (.lst (((acc ++ [t]) ++ [t + x]).map V.int)) := by
      rw [upd_same, List.map_append (l₂ := [t + x])]
      rfl
    have e2 : Same H (upd H' p (.lst ((acc ++ [t]).map V.int ++ [.int (t + x)]))) := same_set e np
    refine ⟨_, rfl, 1, rfl, p, _, _, _, rfl, rfl, SqL.of hp2, lastAt _ _, t + x, rfl, _, rfl, ?_⟩
    cases hc : inB (t + x) with
    | true =>
      rw [hc, Bool.true_and] at hS
      refine iteF ⟨_, acc ++ [t], t + x, rfl, e2, hp2, by rw [List.length_append, hl]; rfl, ?_, hS, by omega⟩
      rw [hA, List.append_assoc]
      rfl
    | false =>
      rw [hc, Bool.false_and] at hS
      have hW : sumW xs = some "great" := by
        unfold sumW
        rw [hS]
        rfl
      rw [hW] at q
      refine iteT ⟨_, rfl, by show 2 ≤ sizeLine; decide, fun u nu => ?_⟩
      have x1 : X0 G H (upd G p (.lst (((acc ++ [t]) ++ [t + x]).map V.int))) _ := Xt.pub0 sG e2 np hp2
      have x2 := Xt.new (M := No) (o := .tup [.ref p, .str "great"]) x1.sub nu
      exact q u p (acc ++ [t]) (t + x) _ _ (x1.trans x2) upd_same (x2.g _ _ upd_same) fun z => by cases z
  · obtain ⟨y, acc, t, rfl, e, hp, hl, hA, hS, hT⟩ := hv
    rw [List.length_map, List.drop_length] at hA hS hT
    have hA : aheads 0 xs = acc := by rw [hA]; exact List.append_nil _
    have hT : xs.sum = t := by rw [hT]; exact Int.add_zero _
    have hW : sumW xs = none := by
      unfold sumW
      rw [show sumOk 0 xs = true from hS]
      rfl
    rw [hW] at q
    refine ⟨_, rfl, by show 2 ≤ sizeLine; decide, fun u nu => ?_⟩
    have x1 : X0 G H (upd G p (.lst ((acc ++ [t]).map V.int))) H' := Xt.pub0 sG e np hp
    have x2 := Xt.new (M := No) (o := .tup [.ref p, .non]) x1.sub nu
    exact q u p acc t _ _ (x1.trans x2) upd_same (x2.g _ _ upd_same) fun _ => ⟨hA.symm, hT.symm⟩
def spSummed : Sp := fun vs H Q _ => ∃ (G : Hp) (s : Sg) (a : Addr) (xs : List Int), vs = [.str s.nm, .ref a] ∧ Same G H ∧ G a = some (.lst (xs.map V.int)) ∧ xs.length ≤ BIG ∧ ((s = .sum ∧ QD G H .num xs.sum (sumW xs) Q) ∨ (s = .sums ∧ QD G H (.row .num) (aheads 0 xs) (sumW xs) Q))
abbrev N_summed : List PySem.Str := ["sign", "row", "found", "word"]
theorem sc_summed : FnScope N_summed ["sign", "row"] (defScope s_summed) := ⟨rfl, rfl, rfl, by decide +kernel, rfl, by decide +kernel, by decide +kernel⟩
theorem cut_last (ys : List V) (l : V) : cutV (ys ++ [l]) none (some (-1)) = ys := by
  unfold cutV
  have e1 : HT.sIx (ys ++ [l]).length 0 none = 0 := rfl
  have e2 : HT.sIx (ys ++ [l]).length (ys ++ [l]).length (some (-1)) = ys.length := by
    show (if (-1 : Int) < 0 then ((-1 : Int) + ((ys ++ [l]).length : Int)).toNat else min (-1 : Int).toNat (ys ++ [l]).length) = ys.length
    rw [if_pos (by decide), List.length_append, List.length_singleton]
    omega
  rw [e1, e2, List.drop_zero, Nat.sub_zero, List.take_left]
theorem c_summed (T : Txt K mg) (c_beginnings : Cal P w K mg base 2 "beginnings" spBeginnings []) : Cal P w K mg base 3 "summed" spSummed [] := by
  refine cal_of (d := d_summed) T (mem_fn 30) rfl (mem_fa 30) rfl rfl sc_summed (fun _ _ _ _ _ _ us hl => match us, hl with | [_, _], _ => rfl) (fun vs H Q E h => ?_) (fun cdv A outer s H vs Q E f hr h => ?_)
  · obtain ⟨G, s, a, xs, rfl, _⟩ := h
    rfl
  obtain ⟨G, sg, a, xs, rfl, sG, ga, hz, q⟩ := h
  refine ⟨_, (pss_cons (ps_asg (pe_c c_beginnings hr (by decide) rfl (pa_cons (pv 1) pa_nil)) (g_tup (n := 2) rfl (pgs_cons (pg_name (i := 2) sc_summed.nd rfl (.inl rfl)) (pgs_cons (pg_name (i := 3) sc_summed.nd rfl (.inl rfl)) pgs_nil))))
      (pss_one (ps_ret (pe_tup (pa_cons (pe_ifExp (pt_cmpR op_eq (pv 0) pe_str (nomark _)) (pe_ix i_list (pv 2) (pe_un un_neg pe_int) (fun _ _ => rfl)) (pe_slice s_list (pv 2) po_none (po_some (pe_un un_neg pe_int)))) (pa_cons (pv 3) pa_nil)))))), ?_⟩
  refine ⟨_, rfl, G, a, xs, rfl, sG, ga, hz, fun p b ys l G1 H1 x1 gp gb hr1 => ?_⟩
  refine g_pair rfl (x1.sub _ _ gp) ?_
  rcases q with ⟨rfl, q⟩ | ⟨rfl, q⟩
  · refine ⟨_, rfl, rfl, true, rfl, iteT ?_⟩
    refine ⟨_, rfl, 1, rfl, b, _, _, _, rfl, rfl, SqL.of (x1.sub _ _ gb), by rw [List.map_append]; exact atI_last _ _, ?_⟩
    refine ⟨_, rfl, by show 2 ≤ sizeLine; decide, fun t nt => ?_⟩
    exact q.put x1 nt fun z => congrArg V.int (hr1 z).2
  · refine ⟨_, rfl, rfl, false, rfl, iteF ?_⟩
    refine ⟨_, rfl, 1, rfl, _, rfl, b, _, rfl, SqL.of (x1.sub _ _ gb), fun u nu => ?_⟩
    refine ⟨_, rfl, by show 2 ≤ sizeLine; decide, fun t nt => ?_⟩
    have x2 := Xt.new (M := No) (o := .lst (cutV ((ys ++ [l]).map V.int) none (some (-1)))) x1.sub nu
    refine q.put (x1.trans x2) nt fun z => ⟨u, _, rfl, upd_same, ?_⟩
    rw [List.map_append]
    rw [show cutV (ys.map V.int ++ [l].map V.int) none (some (-1)) = ys.map V.int from cut_last _ _, (hr1 z).1]
    exact int_reps _
/-! ### greatest, counted, bounded, behind, picked, kept, cut -/
def spGreatest : Sp := fun vs H Q _ => ∃ (G : Hp) (a : Addr) (xs : List Int), vs = [.ref a] ∧ Same G H ∧ G a = some (.lst (xs.map V.int)) ∧ QD G H .num (maxL xs) (if xs.length = 0 then some "empty" else none) Q
abbrev N_greatest : List PySem.Str := ["row"]
theorem sc_greatest : FnScope N_greatest ["row"] (defScope s_greatest) := ⟨rfl, rfl, rfl, by decide +kernel, rfl, by decide +kernel, by decide +kernel⟩
theorem c_greatest (T : Txt K mg) : Cal P w K mg base 1 "greatest" spGreatest [] := by
  refine cal_of (d := d_greatest) T (mem_fn 31) rfl (mem_fa 31) rfl rfl sc_greatest (fun _ _ _ _ _ _ us hl => match us, hl with | [_], _ => rfl) (fun vs H Q E h => ?_) (fun cdv A outer s H vs Q E f hr h => ?_)
  · obtain ⟨G, a, xs, rfl, _⟩ := h
    rfl
  obtain ⟨G, a, xs, rfl, sG, ga, q⟩ := h
  refine ⟨_, (pss_cons (ps_if (pt_cmpR op_eq (e_len T.len (pv 0)) pe_int (nomark _)) (pss_one (ps_ret (pe_tup (pa_cons pe_int (pa_cons pe_str pa_nil))))) pss_nil)
      (pss_one (ps_ret (pe_tup (pa_cons (e_max T.max (pv 0)) (pa_cons pe_non pa_nil)))))), ?_⟩
  refine ⟨_, rfl, a, _, rfl, .inl (SqL.of (sG _ _ ga)), rfl, ?_⟩
  rw [List.length_map]
  by_cases hc : xs.length = 0
  · rw [if_pos hc] at q
    refine ⟨true, congrArg V.bl (decide_eq_true (show V.int ((xs.length : Nat) : Int) = V.int 0 by rw [hc]; rfl)), iteT ⟨by show 2 ≤ sizeLine; decide, fun t nt => ?_⟩⟩
    exact q.put (Xt.refl sG) nt fun e => by cases e
  · rw [if_neg hc] at q
    refine ⟨false, congrArg V.bl (decide_eq_false (show ¬ V.int ((xs.length : Nat) : Int) = V.int 0 from fun z => hc (by have := V.int.inj z; omega))), iteF ?_⟩
    refine ⟨_, rfl, a, xs, rfl, SqL.of (sG _ _ ga), by omega, fun m hm hb => ⟨by show 2 ≤ sizeLine; decide, fun t nt => ?_⟩⟩
    exact q.put (Xt.refl sG) nt fun _ => congrArg V.int (maxL_of hm hb)
def spCountedS : Sp := fun vs H Q _ => ∃ (G : Hp) (i : Int), vs = [.int i] ∧ Same G H ∧ QD G H (.row .num) (upV i) (farW i) Q
abbrev N_counted_single : List PySem.Str := ["number"]
theorem sc_counted_single : FnScope N_counted_single ["number"] (defScope s_counted_single) := ⟨rfl, rfl, rfl, by decide +kernel, rfl, by decide +kernel, by decide +kernel⟩
theorem c_counted_single (T : Txt K mg) : Cal P w K mg base 1 "counted_single" spCountedS [] := by
  refine cal_of (d := d_counted_single) T (mem_fn 60) rfl (mem_fa 60) rfl rfl sc_counted_single (fun _ _ _ _ _ _ us hl => match us, hl with | [_], _ => rfl) (fun vs H Q E h => ?_) (fun cdv A outer s H vs Q E f hr h => ?_)
  · obtain ⟨G, i, rfl, _⟩ := h
    rfl
  obtain ⟨G, i, rfl, sG, q⟩ := h
  refine ⟨_, (pss_cons (ps_if (pt_not (pt_chain op_le op_le pe_int (pv 0) (pe_glob (v := .int 200) rfl (T.i_MOST_THINGS_single).choose_spec ⟨_, rfl⟩))) (pss_one (ps_ret (pe_tup (pa_cons (pe_lst pa_nil) (pa_cons pe_str pa_nil))))) pss_nil)
      (pss_one (ps_ret (pe_tup (pa_cons (pe_listRg rfl rfl T.list (prg_1 rfl T.range (pv 0))) (pa_cons pe_non pa_nil)))))), ?_⟩
  unfold farW at q
  have stop : (if (decide (0 ≤ i) && decide (i ≤ 200)) = true then (none : Option Str) else some ("far" : Str)) = some ("far" : Str) → tRet (tTup (tCons (tLst tNil) (tCons (tC (.str "far")) tNil))) { nx := fun _ H' => Q .non H', rt := Q } (L2.start N_counted_single [.int i]) H := fun e => by
    rw [e] at q
    refine ⟨Nat.zero_le _, fun u nu => ⟨by show 2 ≤ sizeLine; decide, fun t nt => ?_⟩⟩
    exact q.put (Xt.new sG nu) nt fun e => by cases e
  refine ⟨_, rfl, _, _, rfl, rfl, _, rfl, ?_⟩
  by_cases h0 : 0 ≤ i
  · rw [decide_eq_true h0] at q stop ⊢
    refine iteT ⟨_, _, rfl, rfl, _, rfl, ?_⟩
    by_cases h1 : i ≤ 200
    · rw [decide_eq_true h1] at q ⊢
      refine iteF ⟨_, rfl, i, rfl, .of_le (by omega) (by omega) (by omega) (by omega), fun c nc => ⟨by show 2 ≤ sizeLine; decide, fun t nt => ?_⟩⟩
      rw [upV_V i h0] at nt ⊢
      exact q.put (Xt.new sG nc) nt fun _ => ⟨c, _, rfl, upd_same, int_reps _⟩
    · rw [decide_eq_false h1] at stop ⊢
      exact iteT (stop rfl)
  · rw [decide_eq_false h0] at stop ⊢
    exact iteF ⟨false, rfl, iteT (stop rfl)⟩
def spBounded : Sp := fun vs H Q _ => ∃ (G : Hp) (a : Addr) (k : Kd) (r : List (Ty k)) (vs' : List V), vs = [.ref a] ∧ Same G H ∧ G a = some (.lst vs') ∧ Reps G k r vs' ∧ QD G H (.row k) r (farW (r.length : Nat)) Q
abbrev N_bounded : List PySem.Str := ["row"]
theorem sc_bounded : FnScope N_bounded ["row"] (defScope s_bounded) := ⟨rfl, rfl, rfl, by decide +kernel, rfl, by decide +kernel, by decide +kernel⟩
theorem c_bounded (T : Txt K mg) : Cal P w K mg base 1 "bounded" spBounded [] := by
  refine cal_of (d := d_bounded) T (mem_fn 32) rfl (mem_fa 32) rfl rfl sc_bounded (fun _ _ _ _ _ _ us hl => match us, hl with | [_], _ => rfl) (fun vs H Q E h => ?_) (fun cdv A outer s H vs Q E f hr h => ?_)
  · obtain ⟨G, a, k, r, us, rfl, _⟩ := h
    rfl
  obtain ⟨G, a, k, r, us, rfl, sG, ga, hR, q⟩ := h
  refine ⟨_, (pss_one (ps_ret (pe_tup (pa_cons (pv 0) (pa_cons (pe_ifExp (pt_cmpR op_le (e_len T.len (pv 0)) (pe_glob (v := .int 200) rfl (T.i_MOST_THINGS_single).choose_spec ⟨_, rfl⟩) (nomark _)) pe_non pe_str) pa_nil))))), ?_⟩
  unfold farW at q
  have hl := Paired.length hR
  rw [decide_eq_true (show (0 : Int) ≤ ((r.length : Nat) : Int) by omega), Bool.true_and, hl] at q
  refine ⟨_, rfl, _, rfl, a, _, rfl, .inl (SqL.of (sG _ _ ga)), _, _, rfl, rfl, _, rfl, ?_⟩
  by_cases hc : ((us.length : Nat) : Int) ≤ 200
  · rw [decide_eq_true hc] at q ⊢
    exact iteT ⟨by show 2 ≤ sizeLine; decide, fun t nt => q.put (Xt.refl sG) nt fun _ => ⟨a, us, rfl, ga, hR⟩⟩
  · rw [decide_eq_false hc] at q ⊢
    exact iteF ⟨by show 2 ≤ sizeLine; decide, fun t nt => q.put (Xt.refl sG) nt fun _ => ⟨a, us, rfl, ga, hR⟩⟩
def spBehindS : Sp := fun vs H Q _ => ∃ (G : Hp) (k : Kd) (r : List (List (Ty k))) (x : V), vs = [x] ∧ Same G H ∧ Rep G (.row (.row k)) r x ∧ wsz (.row (.row k)) r ≤ BIG ∧ QD G H (.row k) r.flatten (farW (r.flatten.length : Nat)) Q
abbrev N_behind_single : List PySem.Str := ["rows", "found", "row"]
theorem sc_behind_single : FnScope N_behind_single ["rows"] (defScope s_behind_single) := ⟨rfl, rfl, rfl, by decide +kernel, rfl, by decide +kernel, by decide +kernel⟩
theorem c_behind_single (T : Txt K mg) (c_bounded : Cal P w K mg base 1 "bounded" spBounded []) : Cal P w K mg base 2 "behind_single" spBehindS [] := by
  refine cal_of (d := d_behind_single) T (mem_fn 61) rfl (mem_fa 61) rfl rfl sc_behind_single (fun _ _ _ _ _ _ us hl => match us, hl with | [_], _ => rfl) (fun vs H Q E h => ?_) (fun cdv A outer s H vs Q E f hr h => ?_)
  · obtain ⟨G, k, r, x, rfl, _⟩ := h
    rfl
  obtain ⟨G, k, r, x, rfl, sG, hR, ht, q⟩ := h
  refine ⟨_, (pss_cons (ps_set (i := 1) sc_behind_single.nd rfl (.inl rfl) (pe_lst pa_nil))
      (pss_cons (ps_for PassesOwn.never rfl (pi_list (pv 0)) (pg_name (i := 2) sc_behind_single.nd rfl (.inl rfl)) (pss_one (ps_set (i := 1) sc_behind_single.nd rfl (.inl rfl) (pe_op op_cat (pv 1) (pv 2)))))
      (pss_one (ps_ret (pe_c c_bounded hr (by decide) rfl (pa_cons (pv 1) pa_nil)))))), ?_⟩
  obtain ⟨a, us, rfl, ga, hR⟩ := hR
  obtain ⟨vss, rl, rr⟩ := split_rows hR
  have hrl := Paired.length rl
  rw [wsz_row] at ht
  have t1 := tot_row k r
  have rf := flat_rows rr
  have t2 := len_tot k r.flatten
  have t3 := Paired.length rf
  refine ⟨Nat.zero_le _, fun p np => ?_⟩
  have e0 : Same H (upd H p (.lst [])) := same_upd np
  have x0 : X0 G H (upd G p (.lst [])) (upd H p (.lst [])) := Xt.new sG np
  refine ⟨_, rfl, a, rfl, ⟨us, SqL.of (e0 _ _ (sG _ _ ga))⟩, ?_⟩
  refine for_list (xs := us) (fun i σ H' => ∃ (y : Option V) (c : Addr) (G' : Hp), σ = [some (.ref a), some (.ref c), y] ∧ X0 G H G' H' ∧ G' c = some (.lst (vss.take i).flatten)) ⟨none, p, _, rfl, x0, upd_same⟩ (fun i σ H' _ hv => ?_) (fun i v σ H' hx hv => ?_) fun σ H' hv => ?_
  · obtain ⟨y, c, G', _, x, _⟩ := hv
    exact SqL.of (x.same _ _ (sG _ _ ga))
  · obtain ⟨y, c, G', rfl, x, gc⟩ := hv
    obtain ⟨ro, hv, c2, rfl, gc2⟩ := pr_getR rl hx
    have ef := flat_take hv
    have hl : (vss.take i).flatten.length + ro.length ≤ BIG := by
      have h1 := congrArg List.length ef
      rw [List.length_append, List.length_append] at h1
      omega
    refine ⟨_, rfl, _, rfl, c, c2, _, _, rfl, rfl, x.sub _ _ gc, x.same _ _ (sG _ _ gc2), big_le hl, fun u nu => ?_⟩
    refine ⟨_, u, _, rfl, x.trans (Xt.new x.sub nu), ?_⟩
    rw [upd_same, take_next hv, List.flatten_append]
    simp
  · obtain ⟨y, c, G', rfl, x, gc⟩ := hv
    rw [← hrl, List.take_length] at gc
    exact ⟨_, rfl, G', c, k, r.flatten, vss.flatten, rfl, x.sub, gc, Reps.mono x.g rf, q.on x⟩
def spPickedS : Sp := fun vs H Q _ => ∃ (G : Hp) (k : Kd) (r : List (Ty k)) (n : Int) (x : V), vs = [x, .int n] ∧ Same G H ∧ Rep G (.row k) r x ∧ QD G H k (pickD (dflt k) r n) (pickW n r.length) Q
abbrev N_picked_single : List PySem.Str := ["row", "number"]
theorem sc_picked_single : FnScope N_picked_single ["row", "number"] (defScope s_picked_single) := ⟨rfl, rfl, rfl, by decide +kernel, rfl, by decide +kernel, by decide +kernel⟩
theorem c_picked_single (T : Txt K mg) : Cal P w K mg base 1 "picked_single" spPickedS [] := by
  refine cal_of (d := d_picked_single) T (mem_fn 62) rfl (mem_fa 62) rfl rfl sc_picked_single (fun _ _ _ _ _ _ us hl => match us, hl with | [_, _], _ => rfl) (fun vs H Q E h => ?_) (fun cdv A outer s H vs Q E f hr h => ?_)
  · obtain ⟨G, k, r, n, x, rfl, _⟩ := h
    rfl
  obtain ⟨G, k, r, n, x, rfl, sG, hR, q⟩ := h
  refine ⟨_, (pss_cons (ps_if (pt_not (pt_chain op_le op_lt pe_int (pv 1) (e_len T.len (pv 0)))) (pss_one (ps_ret (pe_tup (pa_cons pe_int (pa_cons pe_str pa_nil))))) pss_nil)
      (pss_one (ps_ret (pe_tup (pa_cons (pe_ix i_list (pv 0) (pv 1) (fun _ _ => rfl)) (pa_cons pe_non pa_nil)))))), ?_⟩
  obtain ⟨a, us, rfl, ga, hR⟩ := hR
  have hl := Paired.length hR
  unfold pickW at q
  have stop : (if (decide (0 ≤ n) && decide (n < ((r.length : Nat) : Int))) = true then (none : Option Str) else some ("beyond" : Str)) = some ("beyond" : Str) → tRet (tTup (tCons (tC (.int 0)) (tCons (tC (.str "beyond")) tNil))) { nx := fun _ H' => Q .non H', rt := Q } (L2.start N_picked_single [.ref a, .int n]) H := fun e => by
    rw [e] at q
    refine ⟨by show 2 ≤ sizeLine; decide, fun t nt => ?_⟩
    exact q.put (Xt.refl sG) nt fun e => by cases e
  refine ⟨_, rfl, _, _, rfl, rfl, _, rfl, ?_⟩
  by_cases h0 : 0 ≤ n
  · rw [decide_eq_true h0] at q stop ⊢
    refine iteT ⟨_, rfl, a, _, rfl, .inl (SqL.of (sG _ _ ga)), _, _, rfl, rfl, _, rfl, ?_⟩
    rw [← hl]
    by_cases h1 : n < ((r.length : Nat) : Int)
    · rw [decide_eq_true h1] at q ⊢
      obtain ⟨m, rfl⟩ : ∃ m : Nat, n = (m : Int) := ⟨n.toNat, by omega⟩
      have hm : m < r.length := by omega
      have hrm : r[m]? = some r[m] := List.getElem?_eq_getElem hm
      obtain ⟨v, hv, rv⟩ := pr_get hR hrm
      refine iteF ⟨_, rfl, _, rfl, a, _, _, _, rfl, rfl, SqL.of (sG _ _ ga), atI_nat hv, by show 2 ≤ sizeLine; decide, fun t nt => ?_⟩
      refine q.put (Xt.refl sG) nt fun _ => ?_
      unfold pickD
      rw [Int.toNat_natCast, List.getD_eq_getElem?_getD, hrm]
      exact rv
    · rw [decide_eq_false h1] at stop ⊢
      exact iteT (stop rfl)
  · rw [decide_eq_false h0] at stop ⊢
    exact iteF ⟨false, rfl, iteT (stop rfl)⟩
end
end Bw
namespace Bw
open PySem PySem.Spec PyProof.Rows L2
open C8 (Cal pe_c)
theorem pr_take {α β : Type} {F : α → β → Prop} : ∀ {l : List α} {m : List β} (n : Nat), Paired F l m → Paired F (l.take n) (m.take n)
  | _, _, 0, _ => by
    rw [List.take_zero, List.take_zero]
    exact .nil
  | _, _, n + 1, .nil => .nil
  | _, _, n + 1, .cons r t => .cons r (pr_take n t)
theorem pr_drop {α β : Type} {F : α → β → Prop} : ∀ {l : List α} {m : List β} (n : Nat), Paired F l m → Paired F (l.drop n) (m.drop n)
  | _, _, 0, h => h
  | _, _, n + 1, .nil => .nil
  | _, _, n + 1, .cons r t => pr_drop n t
theorem pr_kp {α β : Type} {F : α → β → Prop} : ∀ {l : List α} {m : List β} (bs : List Bool), Paired F l m → Paired F (kp l bs) (kp m bs)
  | _, _, [], .nil => .nil
  | _, _, [], .cons _ _ => .nil
  | _, _, _ :: _, .nil => .nil
  | _, _, true :: bs, .cons r t => .cons r (pr_kp bs t)
  | _, _, false :: bs, .cons r t => pr_kp bs t
theorem kp_le {α : Type} : ∀ (l : List α) (bs : List Bool), (kp l bs).length ≤ l.length
  | [], [] => Nat.le_refl 0
  | [], _ :: _ => Nat.le_refl 0
  | _ :: _, [] => Nat.zero_le _
  | x :: l, true :: bs => Nat.succ_le_succ (kp_le l bs)
  | x :: l, false :: bs => Nat.le_succ_of_le (kp_le l bs)
theorem sum_nonneg {ns : List Int} (h : ∀ n ∈ ns, 0 ≤ n) : 0 ≤ ns.sum := by
  induction ns with
  | nil => exact Int.le_refl 0
  | cons m ns ih =>
    have h1 := h m List.mem_cons_self
    have h2 := ih fun x hx => h x (List.mem_cons_of_mem _ hx)
    rw [List.sum_cons]
    omega
theorem cut_mid (us : List V) (m n : Nat) (h : m + n ≤ us.length) : cutV us (some (m : Int)) (some ((m : Int) + (n : Int))) = (us.drop m).take n := by
  unfold cutV
  rw [show ((m : Int) + (n : Int)) = ((m + n : Nat) : Int) by omega]
  rw [show HT.sIx us.length 0 (some (m : Int)) = min m us.length from HT.sIx_nat _ 0 _, show HT.sIx us.length us.length (some ((m + n : Nat) : Int)) = min (m + n) us.length from HT.sIx_nat _ _ _]
  rw [Nat.min_eq_left h, Nat.min_eq_left (show m ≤ us.length by omega), Nat.add_sub_cancel_left]
section
variable {P : Program} {w : World} {K : PySem.W.Frag} {mg : Str → Option Value} {base : Heap}
/-! ### kept -/
def spKeptS : Sp := fun vs H Q _ => ∃ (G : Hp) (k : Kd) (r : List (Ty k)) (bs : List Bool) (x : V) (b : Addr), vs = [x, .ref b] ∧ Same G H ∧ Rep G (.row k) r x ∧ G b = some (.lst (bs.map V.bl)) ∧ r.length ≤ BIG ∧ QD G H (.row k) (pk r (tru bs)) (if r.length = bs.length then none else some "unlike") Q
abbrev N_kept_single : List PySem.Str := ["row", "truths", "thing", "truth"]
theorem sc_kept_single : FnScope N_kept_single ["row", "truths"] (defScope s_kept_single) := ⟨rfl, rfl, rfl, by decide +kernel, rfl, by decide +kernel, by decide +kernel⟩
theorem c_kept_single (T : Txt K mg) : Cal P w K mg base 1 "kept_single" spKeptS [] := by
  refine cal_of (d := d_kept_single) T (mem_fn 63) rfl (mem_fa 63) rfl rfl sc_kept_single (fun _ _ _ _ _ _ us hl => match us, hl with | [_, _], _ => rfl) (fun vs H Q E h => ?_) (fun cdv A outer s H vs Q E f hr h => ?_)
  · obtain ⟨G, k, r, bs, x, b, rfl, _⟩ := h
    rfl
  obtain ⟨G, k, r, bs, x, b, rfl, sG, hR, gb, hz, q⟩ := h
  refine ⟨_, (pss_cons (ps_if (pt_cmpR op_ne (e_len T.len (pv 0)) (e_len T.len (pv 1)) (nomark _)) (pss_one (ps_ret (pe_tup (pa_cons (pe_lst pa_nil) (pa_cons pe_str pa_nil))))) pss_nil)
      (pss_one (ps_ret (pe_tup (pa_cons (pe_lc (own := [("thing", 2), ("truth", 3)]) rfl sc_kept_single.nd (pi_zip rfl T.zip (pa_cons (pv 0) (pa_cons (pv 1) pa_nil))) (blkOk_by (N := N_kept_single) (sc := defScope s_kept_single) (by decide +kernel)) (fun _ _ _ _ _ => (g_tup (n := 2) rfl (pgs_cons (pg_name (i := 2) sc_kept_single.nd rfl (.inl rfl)) (pgs_cons (pg_name (i := 3) sc_kept_single.nd rfl (.inl rfl)) pgs_nil)))) (fun _ _ _ _ _ => pts_one (pt_val (pv 3))) (fun _ _ _ _ _ => (pv 2))) (pa_cons pe_non pa_nil)))))), ?_⟩
  obtain ⟨a, us, rfl, ga, hR⟩ := hR
  have hl := Paired.length hR
  have hlb : (bs.map V.bl).length = bs.length := List.length_map _
  refine ⟨_, rfl, a, _, rfl, .inl (SqL.of (sG _ _ ga)), _, rfl, b, _, rfl, .inl (SqL.of (sG _ _ gb)), rfl, ?_⟩
  rw [hlb, ← hl]
  by_cases hc : r.length = bs.length
  · rw [if_pos hc] at q
    refine ⟨false, ?_, iteF ?_⟩
    · rw [hc, decide_eq_true rfl]
      rfl
    refine ⟨_, rfl, _, rfl, a, b, _, _, rfl, SqL.of (sG _ _ ga), SqL.of (sG _ _ gb), fun D nD => ?_⟩
    refine lc_gen (M := No) (G1 := G) (walk_zip (xs := us) (ys := bs.map V.bl) (n := us.length) (by rw [hlb, ← hl, hc, Nat.min_self])) (fun i acc G' _ => G' = G ∧ acc = kp (us.take i) (bs.take i)) sG (fun _ z => z.elim) nD ⟨rfl, rfl⟩ (fun i acc G' H' o z _ => z)
      (fun i acc G' H' e _ _ => ⟨SqL.of (e.same _ _ (sG _ _ ga)), SqL.of (e.same _ _ (sG _ _ gb))⟩) (fun i acc v G' H' H'' Nx hi e hD gD hI hY k1 k2 => ?_) fun acc G' H' e hD gD hI => ?_
    · obtain ⟨rfl, rfl⟩ := hI
      obtain ⟨u, v1, v2, rfl, nu, rfl, h1, h2⟩ := hY
      have h1 : us[i]? = some v1 := h1
      have h2 : (bs.map V.bl)[i]? = some v2 := h2
      obtain ⟨t, ht, rfl⟩ := map_some h2
      have x1 : X0 G' H' G' (upd H' u (.tup [v1, .bl t])) := Xt.loc e.sub nu
      have hk : kp (us.take i ++ [v1]) (bs.take i ++ [t]) = kp (us.take i) (bs.take i) ++ kp [v1] [t] := kp_app _ _ _ _ (by rw [List.length_take, List.length_take]; omega)
      refine g_pair rfl upd_same ⟨rfl, _, rfl, t, rfl, ?_⟩
      cases t with
      | true =>
        refine iteT ⟨_, rfl, k1 _ G' _ x1 ?_ ⟨rfl, ?_⟩⟩
        · have h3 := kp_le (us.take i) (bs.take i)
          rw [List.length_take] at h3
          exact big_lt (by omega)
        · rw [take_next h1, take_next ht, hk]
          rfl
      | false =>
        refine iteF (k2 G' _ x1 ⟨rfl, ?_⟩)
        rw [take_next h1, take_next ht, hk]
        exact (List.append_nil _).symm
    · obtain ⟨rfl, rfl⟩ := hI
      rw [List.take_length, ← hl, hc, List.take_length] at hD
      have x2 := e.pub nD hD
      refine ⟨by show 2 ≤ sizeLine; decide, fun t nt => ?_⟩
      refine q.put x2 nt fun _ => ⟨D, _, rfl, upd_same, ?_⟩
      rw [pk_tru r bs hc]
      exact Reps.mono x2.g (pr_kp bs hR)
  · rw [if_neg hc] at q
    refine ⟨true, ?_, iteT ?_⟩
    · rw [decide_eq_false (fun z => hc (by have := V.int.inj z; omega))]
      rfl
    refine ⟨Nat.zero_le _, fun u nu => ⟨by show 2 ≤ sizeLine; decide, fun t nt => ?_⟩⟩
    exact q.put (Xt.new sG nu) nt fun e => by cases e
/-! ### cut -/
def spCutS : Sp := fun vs H Q _ => ∃ (G : Hp) (k : Kd) (r : List (Ty k)) (ns : List Int) (x : V) (b : Addr), vs = [x, .ref b] ∧ Same G H ∧ Rep G (.row k) r x ∧ G b = some (.lst (ns.map V.int)) ∧ r.length ≤ BIG ∧ ns.length ≤ BIG ∧ QD G H (.row (.row k)) (cutL r ns) (if cutOk r.length ns = true then none else some "unlike") Q
abbrev N_cut : List PySem.Str := ["row", "lengths", "found", "at", "long", "one"]
theorem sc_cut : FnScope N_cut ["row", "lengths"] (defScope s_cut) := ⟨rfl, rfl, rfl, by decide +kernel, rfl, by decide +kernel, by decide +kernel⟩
theorem c_cut (T : Txt K mg) : Cal P w K mg base 1 "cut" spCutS [] := by
  refine cal_of (d := d_cut) T (mem_fn 33) rfl (mem_fa 33) rfl rfl sc_cut (fun _ _ _ _ _ _ us hl => match us, hl with | [_, _], _ => rfl) (fun vs H Q E h => ?_) (fun cdv A outer s H vs Q E f hr h => ?_)
  · obtain ⟨G, k, r, ns, x, b, rfl, _⟩ := h
    rfl
  obtain ⟨G, k, r, ns, x, b, rfl, sG, hR, gb, hz, hzn, q⟩ := h
  refine ⟨_, (pss_cons (ps_if (PW.pt (pw_or (pt_cmpR op_gt (e_len T.len (pe_lc (own := [("one", 5)]) rfl sc_cut.nd (pi_list (pv 1)) (blkOk_by (N := N_cut) (sc := defScope s_cut) (by decide +kernel)) (fun _ _ _ _ _ => (pg_name (i := 5) sc_cut.nd rfl (.inl rfl))) (fun _ _ _ _ _ => pts_one (pt_cmpR op_lt (pv 5) pe_int (nomark _))) (fun _ _ _ _ _ => (pv 5)))) pe_int (nomark _)) (pw_or1 (pt_cmpR op_ne (e_sum T.sum (pv 1)) (e_len T.len (pv 0)) (nomark _))))) (pss_one (ps_ret (pe_tup (pa_cons (pe_lst pa_nil) (pa_cons pe_str pa_nil))))) pss_nil)
      (pss_cons (ps_set (i := 2) sc_cut.nd rfl (.inl rfl) (pe_lst pa_nil))
      (pss_cons (ps_set (i := 3) sc_cut.nd rfl (.inl rfl) pe_int)
      (pss_cons (ps_for PassesOwn.never rfl (pi_list (pv 1)) (pg_name (i := 4) sc_cut.nd rfl (.inl rfl)) (pss_cons (ps_expr (pe_bm PySem.F.plainAttrs_list PySem.F.slot_list_append PySem.F.type_list_append mt_append (pv 2) (pa_cons (pe_slice s_list (pv 0) (po_some (pv 3)) (po_some (pe_op op_add (pv 3) (pv 4)))) pa_nil)))
      (pss_one (ps_set (i := 3) sc_cut.nd rfl (.inl rfl) (pe_op op_add (pv 3) (pv 4))))))
      (pss_one (ps_ret (pe_tup (pa_cons (pv 2) (pa_cons pe_non pa_nil))))))))), ?_⟩
  obtain ⟨a, us, rfl, ga, hR⟩ := hR
  have hl := Paired.length hR
  refine ⟨_, rfl, b, rfl, ⟨_, SqL.of (sG _ _ gb)⟩, fun D nD => ?_⟩
  refine lc_negs (SqL.of (sG _ _ gb)) hzn nD (by show 5 < 6; decide) fun H1 e hD => ?_
  have s1 := sG.trans e
  have x1 : X0 G H G H1 := Xt.of_same sG e
  refine ⟨D, _, rfl, .inl (SqL.of hD), _, _, rfl, rfl, _, rfl, ?_⟩
  rw [negs_len]
  have stop : (if cutOk r.length ns = true then (none : Option Str) else some ("unlike" : Str)) = some ("unlike" : Str) → tRet (tTup (tCons (tLst tNil) (tCons (tC (.str "unlike")) tNil))) { nx := fun _ H' => Q .non H', rt := Q } (L2.start N_cut [.ref a, .ref b]) H1 := fun e => by
    rw [e] at q
    refine ⟨Nat.zero_le _, fun u nu => ⟨by show 2 ≤ sizeLine; decide, fun t nt => ?_⟩⟩
    exact q.put (x1.trans (Xt.new x1.sub nu)) nt fun e => by cases e
  by_cases hn : (ns.all fun n => decide (0 ≤ n)) = true
  · rw [hn]
    refine iteF ⟨_, rfl, b, ns, rfl, SqL.of (s1 _ _ gb), _, rfl, a, _, rfl, .inl (SqL.of (s1 _ _ ga)), rfl, ?_⟩
    by_cases hs : ns.sum = ((us.length : Nat) : Int)
    · have hO : cutOk r.length ns = true := by
        unfold cutOk
        rw [hn, hl, decide_eq_true hs]
        rfl
      rw [hO] at q
      have hpos : ∀ n ∈ ns, 0 ≤ n := fun n hm => of_decide_eq_true (List.all_eq_true.mp hn n hm)
      refine ⟨false, ?_, iteF ?_⟩
      · rw [hs, decide_eq_true rfl]
        rfl
      refine ⟨Nat.zero_le _, fun p np => ?_⟩
      refine ⟨_, rfl, b, rfl, ⟨_, SqL.of (same_upd np _ _ (s1 _ _ gb))⟩, ?_⟩
      refine for_list (xs := ns.map V.int) (fun i σ H' => ∃ (y : Option V) (rs : List V) (m : Nat) (dn : List (List (Ty k))) (G' : Hp), σ = [some (.ref a), some (.ref b), some (.ref p), some (.int (m : Int)), y, none] ∧ X0 G H G' H' ∧ H' p = some (.lst rs) ∧ G' p = none ∧ H1 p = none ∧ Reps G' (.row k) dn rs ∧ rs.length = i ∧
        cutL r ns = dn ++ cutL (r.drop m) (ns.drop i) ∧ (m : Int) + (ns.drop i).sum = ((us.length : Nat) : Int)) ⟨none, [], 0, [], G, rfl, x1.trans (Xt.loc x1.sub np), upd_same, x1.sub.free np, np, .nil, rfl, rfl, by simpa using hs⟩ (fun i σ H' _ hv => ?_) (fun i v σ H' hxi hv => ?_) fun σ H' hv => ?_
      · obtain ⟨y, rs, m, dn, G', _, x, _⟩ := hv
        exact SqL.of (x.same _ _ (sG _ _ gb))
      · obtain ⟨y, rs, m, dn, G', rfl, x, hp, gp, np1, hRs, hrl, hC, hS⟩ := hv
        obtain ⟨n, hni, rfl⟩ := map_some hxi
        have hi : i < ns.length := (List.getElem?_eq_some_iff.mp hni).1
        have hn0 := hpos n (mem_get hni)
        obtain ⟨j, rfl⟩ : ∃ j : Nat, n = (j : Int) := ⟨n.toNat, by omega⟩
        rw [drop_cons hni] at hC hS
        rw [List.sum_cons] at hS
        have hC : cutL r ns = dn ++ ((r.drop m).take ((j : Int)).toNat :: cutL ((r.drop m).drop ((j : Int)).toNat) (ns.drop (i + 1))) := hC
        rw [Int.toNat_natCast, List.drop_drop] at hC
        have hrest : 0 ≤ (ns.drop (i + 1)).sum := sum_nonneg fun n hm => hpos n (List.mem_of_mem_drop hm)
        refine ⟨_, rfl, .inl ⟨rfl, _, SqL.of hp⟩, _, rfl, _, rfl, _, rfl, _, rfl, _, rfl, _, _, rfl, rfl, _, rfl, a, _, rfl, SqL.of (x.same _ _ (sG _ _ ga)), fun u nu => ?_⟩
        have nup : u ≠ p := fun z => by
          rw [z, hp] at nu
          cases nu
        have ec : cutV us (some ((m : Nat) : Int)) (some (((m : Nat) : Int) + ((j : Nat) : Int))) = (us.drop m).take j := cut_mid us m j (by omega)
        rw [ec]
        refine ⟨p, rs, _, rfl, rfl, by rw [upd_ne nup.symm]; exact hp, big_lt (by omega), ?_⟩
        refine ⟨_, rfl, _, rfl, _, _, rfl, rfl, ?_⟩
        have e2 : X0 G' H' (upd G' u (.lst ((us.drop m).take j))) (upd H' u (.lst ((us.drop m).take j))) := Xt.new x.sub nu
        refine ⟨some (.int (j : Nat)), rs ++ [.ref u], m + j, dn ++ [(r.drop m).take j], upd G' u (.lst ((us.drop m).take j)), ?_, ((x.trans e2).set ((Xt.of_same (M := No) (Same.refl H) e).free np1) (by rw [upd_ne nup.symm]; exact gp)), upd_same, by rw [upd_ne nup.symm]; exact gp, np1, ?_, by rw [List.length_append, hrl]; rfl, ?_, by omega⟩
        · show [_, _, _, some (V.int _), _, _] = [_, _, _, some (V.int _), _, _]
          rw [show ((m + j : Nat) : Int) = (m : Int) + (j : Int) from Int.natCast_add _ _]
        · exact pr_app (Reps.mono (k := .row k) e2.g hRs) (.cons ⟨u, _, rfl, upd_same, Reps.mono (x.g.trans e2.g) (pr_take j (pr_drop m hR))⟩ .nil)
        · rw [hC, List.append_assoc]
          rfl
      · obtain ⟨y, rs, m, dn, G', rfl, x, hp, gp, np1, hRs, hrl, hC, hS⟩ := hv
        rw [List.length_map, List.drop_length] at hC
        have hC : cutL r ns = dn := by rw [hC]; exact List.append_nil _
        have x2 := x.pub ((Xt.of_same (M := No) (Same.refl H) e).free np1) hp
        refine ⟨_, rfl, by show 2 ≤ sizeLine; decide, fun t nt => ?_⟩
        refine q.put x2 nt fun _ => ⟨p, rs, rfl, upd_same, ?_⟩
        rw [hC]
        exact Reps.mono (k := .row k) (same_upd gp) hRs
    · refine ⟨true, ?_, iteT (stop ?_)⟩
      · rw [decide_eq_false (fun z => hs (V.int.inj z))]
        rfl
      · unfold cutOk
        rw [hl, decide_eq_false hs, Bool.and_false]
        rfl
  · have hf : (ns.all fun n => decide (0 ≤ n)) = false := by
      cases hc : ns.all fun n => decide (0 ≤ n) with
      | true => exact absurd hc hn
      | false => rfl
    rw [hf]
    refine iteT (iteT (stop ?_))
    unfold cutOk
    rw [hf]
    rfl
end
end Bw
namespace Bw
open PySem PySem.Spec PyProof.Rows L2
open C8 (Cal pe_c)
section
variable {P : Program} {w : World} {K : PySem.W.Frag} {mg : Str → Option Value} {base : Heap}
def spDone1 : Sp := fun vs H Q _ => ∃ (G : Hp) (s : Sg) (t : Tys s.ks) (x : V), vs = [.str s.nm, x] ∧ Same G H ∧ RepsT G s.ks t [x] ∧ wszs s.ks t ≤ BIG ∧ QD G H s.res (s.vl t) (s.wd t) Q
abbrev N_done_one : List PySem.Str := ["sign", "worth"]
theorem sc_done_one : FnScope N_done_one ["sign", "worth"] (defScope s_done_one) := ⟨rfl, rfl, rfl, by decide +kernel, rfl, by decide +kernel, by decide +kernel⟩
theorem c_done_one (T : Txt K mg) (c_counted_single : Cal P w K mg base 1 "counted_single" spCountedS []) (c_greatest : Cal P w K mg base 1 "greatest" spGreatest []) (c_behind_single : Cal P w K mg base 2 "behind_single" spBehindS []) (c_summed : Cal P w K mg base 3 "summed" spSummed []) : Cal P w K mg base 4 "done_one" spDone1 [] := by
  refine cal_of (d := d_done_one) T (mem_fn 34) rfl (mem_fa 34) rfl rfl sc_done_one (fun _ _ _ _ _ _ us hl => match us, hl with | [_, _], _ => rfl) (fun vs H Q E h => ?_) (fun cdv A outer s H vs Q E f hr h => ?_)
  · obtain ⟨G, s, t, x, rfl, _⟩ := h
    rfl
  obtain ⟨G, sg, tt, x, rfl, sG, hT, hz, q⟩ := h
  refine ⟨_, (pss_cons (ps_if (pt_cmpR op_eq (pv 0) pe_str (nomark _)) (pss_one (ps_ret (pe_tup (pa_cons (pe_not (pv 1)) (pa_cons pe_non pa_nil))))) pss_nil)
      (pss_cons (ps_if (pt_cmpR o_in (pv 0) (pe_tup (pa_cons pe_str (pa_cons pe_str pa_nil))) (by rfl)) (pss_one (ps_ret (pe_tup (pa_cons (pe_ix i_tup (pv 1) (e_int T.int (pe_cmpR op_eq (pv 0) pe_str (nomark _))) (fun _ _ => rfl)) (pa_cons pe_non pa_nil))))) pss_nil)
      (pss_cons (ps_if (pt_cmpR op_eq (pv 0) pe_str (nomark _)) (pss_one (ps_ret (pe_tup (pa_cons (pe_lst (pa_cons (pv 1) pa_nil)) (pa_cons pe_non pa_nil))))) pss_nil)
      (pss_cons (ps_if (pt_cmpR op_eq (pv 0) pe_str (nomark _)) (pss_one (ps_ret (pe_c c_counted_single hr (by decide) rfl (pa_cons (pv 1) pa_nil)))) pss_nil)
      (pss_cons (ps_if (pt_cmpR op_eq (pv 0) pe_str (nomark _)) (pss_one (ps_ret (pe_tup (pa_cons (e_len T.len (pv 1)) (pa_cons pe_non pa_nil))))) pss_nil)
      (pss_cons (ps_if (pt_cmpR op_eq (pv 0) pe_str (nomark _)) (pss_one (ps_ret (pe_c c_greatest hr (by decide) rfl (pa_cons (pv 1) pa_nil)))) pss_nil)
      (pss_cons (ps_if (pt_cmpR op_eq (pv 0) pe_str (nomark _)) (pss_one (ps_ret (pe_c c_behind_single hr (by decide) rfl (pa_cons (pv 1) pa_nil)))) pss_nil)
      (pss_one (ps_ret (pe_c c_summed hr (by decide) rfl (pa_cons (pv 0) (pa_cons (pv 1) pa_nil)))))))))))), ?_⟩
  have hB : BIG = 1000000 := rfl
  cases sg with
  | not =>
    obtain ⟨v, r, e1, h1, e2⟩ := hT
    cases e2; cases e1
    cases h1
    refine sq_yes (a_sg rfl rfl) ⟨_, rfl, tt.1, rfl, by show 2 ≤ sizeLine; decide, fun t nt => q.put (Xt.refl sG) nt fun _ => rfl⟩
  | first k l =>
    obtain ⟨v, r, e1, h1, e2⟩ := hT
    cases e2; cases e1
    obtain ⟨a, u1, u2, rfl, ga, r1, r2⟩ := h1
    refine sq_no (a_sg rfl rfl) (sq_yesS (a_inS (zs := ["first", "second"]) rfl (fun _ q => q) (by show 2 ≤ 100; decide) rfl) fun H1 e1 => ?_)
    have x1 : X0 G H G H1 := Xt.of_same sG e1
    refine ⟨_, rfl, _, rfl, rfl, .inr ⟨false, rfl, a, _, 0, _, rfl, rfl, SqT.of (x1.sub _ _ ga), atI_nat (j := 0) rfl, by show 2 ≤ sizeLine; decide, fun t nt => q.put x1 nt fun _ => r1⟩⟩
  | second k l =>
    obtain ⟨v, r, e1, h1, e2⟩ := hT
    cases e2; cases e1
    obtain ⟨a, u1, u2, rfl, ga, r1, r2⟩ := h1
    refine sq_no (a_sg rfl rfl) (sq_yesS (a_inS (zs := ["first", "second"]) rfl (fun _ q => q) (by show 2 ≤ 100; decide) rfl) fun H1 e1 => ?_)
    have x1 : X0 G H G H1 := Xt.of_same sG e1
    refine ⟨_, rfl, _, rfl, rfl, .inr ⟨true, rfl, a, _, 1, _, rfl, rfl, SqT.of (x1.sub _ _ ga), atI_nat (j := 1) rfl, by show 2 ≤ sizeLine; decide, fun t nt => q.put x1 nt fun _ => r2⟩⟩
  | one k =>
    obtain ⟨v, r, e1, h1, e2⟩ := hT
    cases e2; cases e1
    refine sq_no (a_sg rfl rfl) (sq_noS (a_inS (zs := ["first", "second"]) rfl (fun _ q => q) (by show 2 ≤ 100; decide) rfl) fun H1 e1 => sq_yes (a_sg rfl rfl) ?_)
    have x1 : X0 G H G H1 := Xt.of_same sG e1
    refine ⟨_, rfl, by show 1 ≤ sizeLine; decide, fun u nu => ⟨by show 2 ≤ sizeLine; decide, fun t nt => ?_⟩⟩
    have x2 := x1.trans (Xt.new (M := No) (o := .lst [x]) x1.sub nu)
    exact q.put x2 nt fun _ => ⟨u, [x], rfl, upd_same, .cons (Rep.mono x2.g h1) .nil⟩
  | upto =>
    obtain ⟨v, r, e1, h1, e2⟩ := hT
    cases e2; cases e1
    cases h1
    refine sq_no (a_sg rfl rfl) (sq_noS (a_inS (zs := ["first", "second"]) rfl (fun _ q => q) (by show 2 ≤ 100; decide) rfl) fun H1 e1 => sq_no (a_sg rfl rfl) (sq_yes (a_sg rfl rfl) ?_))
    have x1 : X0 G H G H1 := Xt.of_same sG e1
    exact ⟨_, rfl, G, _, rfl, x1.sub, q.on x1⟩
  | long k =>
    obtain ⟨v, r, e1, h1, e2⟩ := hT
    cases e2; cases e1
    obtain ⟨a, us, rfl, ga, hR⟩ := h1
    refine sq_no (a_sg rfl rfl) (sq_noS (a_inS (zs := ["first", "second"]) rfl (fun _ q => q) (by show 2 ≤ 100; decide) rfl) fun H1 e1 => sq_no (a_sg rfl rfl) (sq_no (a_sg rfl rfl) (sq_yes (a_sg rfl rfl) ?_)))
    have x1 : X0 G H G H1 := Xt.of_same sG e1
    refine ⟨_, rfl, a, _, rfl, .inl (SqL.of (x1.sub _ _ ga)), by show 2 ≤ sizeLine; decide, fun t nt => q.put x1 nt fun _ => ?_⟩
    have hl := Paired.length hR
    show V.int ((us.length : Nat) : Int) = V.int ((List.length tt.1 : Nat) : Int)
    rw [hl]
  | most =>
    obtain ⟨v, r, e1, h1, e2⟩ := hT
    cases e2; cases e1
    obtain ⟨a, us, rfl, ga, hR⟩ := h1
    refine sq_no (a_sg rfl rfl) (sq_noS (a_inS (zs := ["first", "second"]) rfl (fun _ q => q) (by show 2 ≤ 100; decide) rfl) fun H1 e1 => sq_no (a_sg rfl rfl) (sq_no (a_sg rfl rfl) (sq_no (a_sg rfl rfl) (sq_yes (a_sg rfl rfl) ?_))))
    have x1 : X0 G H G H1 := Xt.of_same sG e1
    exact ⟨_, rfl, G, a, tt.1, rfl, x1.sub, by rw [ga, reps_int hR], q.on x1⟩
  | flat k =>
    obtain ⟨v, r, e1, h1, e2⟩ := hT
    cases e2; cases e1
    refine sq_no (a_sg rfl rfl) (sq_noS (a_inS (zs := ["first", "second"]) rfl (fun _ q => q) (by show 2 ≤ 100; decide) rfl) fun H1 e1 => sq_no (a_sg rfl rfl) (sq_no (a_sg rfl rfl) (sq_no (a_sg rfl rfl) (sq_no (a_sg rfl rfl) (sq_yes (a_sg rfl rfl) ?_)))))
    have x1 : X0 G H G H1 := Xt.of_same sG e1
    exact ⟨_, rfl, G, k, tt.1, x, rfl, x1.sub, h1, hz, q.on x1⟩
  | sum =>
    obtain ⟨v, r, e1, h1, e2⟩ := hT
    cases e2; cases e1
    obtain ⟨a, us, rfl, ga, hR⟩ := h1
    have hz : 1 + tot .num (tt.1 : List Int) + 0 ≤ BIG := hz
    have h3 := len_tot .num (tt.1 : List Int)
    refine sq_no (a_sg rfl rfl) (sq_noS (a_inS (zs := ["first", "second"]) rfl (fun _ q => q) (by show 2 ≤ 100; decide) rfl) fun H1 e1 => sq_no (a_sg rfl rfl) (sq_no (a_sg rfl rfl) (sq_no (a_sg rfl rfl) (sq_no (a_sg rfl rfl) (sq_no (a_sg rfl rfl) ?_)))))
    have x1 : X0 G H G H1 := Xt.of_same sG e1
    exact ⟨_, rfl, _, rfl, G, .sum, a, tt.1, rfl, x1.sub, by rw [ga, reps_int hR], by omega, .inl ⟨rfl, q.on x1⟩⟩
  | sums =>
    obtain ⟨v, r, e1, h1, e2⟩ := hT
    cases e2; cases e1
    obtain ⟨a, us, rfl, ga, hR⟩ := h1
    have hz : 1 + tot .num (tt.1 : List Int) + 0 ≤ BIG := hz
    have h3 := len_tot .num (tt.1 : List Int)
    refine sq_no (a_sg rfl rfl) (sq_noS (a_inS (zs := ["first", "second"]) rfl (fun _ q => q) (by show 2 ≤ 100; decide) rfl) fun H1 e1 => sq_no (a_sg rfl rfl) (sq_no (a_sg rfl rfl) (sq_no (a_sg rfl rfl) (sq_no (a_sg rfl rfl) (sq_no (a_sg rfl rfl) ?_)))))
    have x1 : X0 G H G H1 := Xt.of_same sG e1
    exact ⟨_, rfl, _, rfl, G, .sums, a, tt.1, rfl, x1.sub, by rw [ga, reps_int hR], by omega, .inr ⟨rfl, q.on x1⟩⟩
  | _ =>
    obtain ⟨v, r, e1, h1, v2, r2, e2, h2, e3⟩ := hT
    subst e2
    cases e1
def spDone2 : Sp := fun vs H Q _ => ∃ (G : Hp) (s : Sg) (t : Tys s.ks) (x y : V), vs = [.str s.nm, x, y] ∧ Same G H ∧ RepsT G s.ks t [x, y] ∧ wszs s.ks t ≤ BIG ∧ NBs s.ks t ∧ QD G H s.res (s.vl t) (s.wd t) Q
abbrev N_done_two : List PySem.Str := ["sign", "one", "other"]
theorem sc_done_two : FnScope N_done_two ["sign", "one", "other"] (defScope s_done_two) := ⟨rfl, rfl, rfl, by decide +kernel, rfl, by decide +kernel, by decide +kernel⟩
theorem c_done_two (T : Txt K mg) (c_picked_single : Cal P w K mg base 1 "picked_single" spPickedS []) (c_bounded : Cal P w K mg base 1 "bounded" spBounded []) (c_kept_single : Cal P w K mg base 1 "kept_single" spKeptS []) (c_cut : Cal P w K mg base 1 "cut" spCutS []) (c_reckoned_single : Cal P w K mg base 3 "reckoned_single" spReckS []) :
    Cal P w K mg base 4 "done_two" spDone2 [] := by
  refine cal_of (d := d_done_two) T (mem_fn 35) rfl (mem_fa 35) rfl rfl sc_done_two (fun _ _ _ _ _ _ us hl => match us, hl with | [_, _, _], _ => rfl) (fun vs H Q E h => ?_) (fun cdv A outer s H vs Q E f hr h => ?_)
  · obtain ⟨G, s, t, x, y, rfl, _⟩ := h
    rfl
  obtain ⟨G, sg, tt, x, y, rfl, sG, hT, hz, hN, q⟩ := h
  refine ⟨_, (pss_cons (ps_if (pt_cmpR op_eq (pv 0) pe_str (nomark _)) (pss_one (ps_ret (pe_tup (pa_cons (pe_cmpR op_lt (pv 1) (pv 2) (nomark _)) (pa_cons pe_non pa_nil))))) pss_nil)
      (pss_cons (ps_if (pt_cmpR op_eq (pv 0) pe_str (nomark _)) (pss_one (ps_ret (pe_tup (pa_cons (pe_cmpR op_eq (pv 1) (pv 2) (nomark _)) (pa_cons pe_non pa_nil))))) pss_nil)
      (pss_cons (ps_if (pt_cmpR op_eq (pv 0) pe_str (nomark _)) (pss_one (ps_ret (pe_tup (pa_cons (pe_and (pv 1) (pe_one (pv 2))) (pa_cons pe_non pa_nil))))) pss_nil)
      (pss_cons (ps_if (pt_cmpR op_eq (pv 0) pe_str (nomark _)) (pss_one (ps_ret (pe_tup (pa_cons (pe_tup (pa_cons (pv 1) (pa_cons (pv 2) pa_nil))) (pa_cons pe_non pa_nil))))) pss_nil)
      (pss_cons (ps_if (pt_cmpR op_eq (pv 0) pe_str (nomark _)) (pss_one (ps_ret (pe_c c_picked_single hr (by decide) rfl (pa_cons (pv 1) (pa_cons (pv 2) pa_nil))))) pss_nil)
      (pss_cons (ps_if (pt_cmpR op_eq (pv 0) pe_str (nomark _)) (pss_one (ps_ret (pe_c c_bounded hr (by decide) rfl (pa_cons (pe_op op_cat (pv 1) (pv 2)) pa_nil)))) pss_nil)
      (pss_cons (ps_if (pt_cmpR op_eq (pv 0) pe_str (nomark _)) (pss_one (ps_ret (pe_c c_kept_single hr (by decide) rfl (pa_cons (pv 1) (pa_cons (pv 2) pa_nil))))) pss_nil)
      (pss_cons (ps_if (pt_cmpR op_eq (pv 0) pe_str (nomark _)) (pss_one (ps_ret (pe_c c_cut hr (by decide) rfl (pa_cons (pv 1) (pa_cons (pv 2) pa_nil))))) pss_nil)
      (pss_one (ps_ret (pe_c c_reckoned_single hr (by decide) rfl (pa_cons (pv 0) (pa_cons (pv 1) (pa_cons (pv 2) pa_nil)))))))))))))), ?_⟩
  have hB : BIG = 1000000 := rfl
  have arith : ∀ (a : Ar) (i j : Int), x = .int i → y = .int j → a.nm = sg.nm → (-1000000000000000000 ≤ i ∧ i ≤ 1000000000000000000) → (-1000000000000000000 ≤ j ∧ j ≤ 1000000000000000000) → QD G H .num (a.f i j) (a.wd i j) Q →
      tRet (tCall spReckS [] C8.E0 (tCons (tVar 0) (tCons (tVar 1) (tCons (tVar 2) tNil)))) { nx := fun _ H' => Q .non H', rt := Q } (L2.start N_done_two [.str sg.nm, x, y]) H := fun a i j ex ey en hi hj q => by
    subst ex
    subst ey
    exact ⟨_, rfl, _, rfl, _, rfl, G, a, i, j, by rw [en]; rfl, sG, hi, hj, q⟩
  cases sg with
  | less =>
    obtain ⟨v, r, e1, h1, v2, r2, e2, h2, e3⟩ := hT
    cases e3; cases e2; cases e1
    cases h1; cases h2
    exact sq_yes (a_sg rfl rfl) ⟨_, rfl, _, rfl, _, _, rfl, rfl, by show 2 ≤ sizeLine; decide, fun t nt => q.put (Xt.refl sG) nt fun _ => rfl⟩
  | sameN =>
    obtain ⟨v, r, e1, h1, v2, r2, e2, h2, e3⟩ := hT
    cases e3; cases e2; cases e1
    cases h1; cases h2
    refine sq_no (a_sg rfl rfl) (sq_yes (a_sg rfl rfl) ⟨_, rfl, _, rfl, rfl, by show 2 ≤ sizeLine; decide, fun t nt => q.put (Xt.refl sG) nt fun _ => ?_⟩)
    have e : decide (V.int tt.1 = V.int tt.2.1) = decide (tt.1 = tt.2.1) := by
      by_cases hc : (tt.1 : Int) = tt.2.1
      · rw [decide_eq_true hc, decide_eq_true (congrArg V.int hc)]
      · rw [decide_eq_false hc, decide_eq_false fun z => hc (V.int.inj z)]
    exact congrArg V.bl e
  | sameT =>
    obtain ⟨v, r, e1, h1, v2, r2, e2, h2, e3⟩ := hT
    cases e3; cases e2; cases e1
    cases h1; cases h2
    refine sq_no (a_sg rfl rfl) (sq_yes (a_sg rfl rfl) ⟨_, rfl, _, rfl, rfl, by show 2 ≤ sizeLine; decide, fun t nt => q.put (Xt.refl sG) nt fun _ => ?_⟩)
    have e : decide (V.bl tt.1 = V.bl tt.2.1) = decide (tt.1 = tt.2.1) := by
      by_cases hc : (tt.1 : Bool) = tt.2.1
      · rw [decide_eq_true hc, decide_eq_true (congrArg V.bl hc)]
      · rw [decide_eq_false hc, decide_eq_false fun z => hc (V.bl.inj z)]
    exact congrArg V.bl e
  | both =>
    obtain ⟨v, r, e1, h1, v2, r2, e2, h2, e3⟩ := hT
    cases e3; cases e2; cases e1
    cases h1; cases h2
    refine sq_no (a_sg rfl rfl) (sq_no (a_sg rfl rfl) (sq_yes (a_sg rfl rfl) ⟨_, rfl, tt.1, rfl, ?_⟩))
    have q : QD G H .truth ((tt.1 : Bool) && (tt.2.1 : Bool)) none Q := q
    cases hc : (tt.1 : Bool) with
    | true =>
      rw [hc, Bool.true_and] at q
      exact iteT ⟨_, rfl, by show 2 ≤ sizeLine; decide, fun t nt => q.put (Xt.refl sG) nt fun _ => rfl⟩
    | false =>
      rw [hc, Bool.false_and] at q
      exact iteF ⟨by show 2 ≤ sizeLine; decide, fun t nt => q.put (Xt.refl sG) nt fun _ => rfl⟩
  | pair k l =>
    obtain ⟨v, r, e1, h1, v2, r2, e2, h2, e3⟩ := hT
    cases e3; cases e2; cases e1
    refine sq_no (a_sg rfl rfl) (sq_no (a_sg rfl rfl) (sq_no (a_sg rfl rfl) (sq_yes (a_sg rfl rfl) ⟨_, rfl, _, rfl, by show 2 ≤ sizeLine; decide, fun u nu => ⟨by show 2 ≤ sizeLine; decide, fun t nt => ?_⟩⟩)))
    have x2 := Xt.new (M := No) (o := .tup [x, y]) sG nu
    exact q.put x2 nt fun _ => ⟨u, x, y, rfl, upd_same, Rep.mono x2.g h1, Rep.mono x2.g h2⟩
  | pick k =>
    obtain ⟨v, r, e1, h1, v2, r2, e2, h2, e3⟩ := hT
    cases e3; cases e2; cases e1
    cases h2
    exact sq_no (a_sg rfl rfl) (sq_no (a_sg rfl rfl) (sq_no (a_sg rfl rfl) (sq_no (a_sg rfl rfl) (sq_yes (a_sg rfl rfl) ⟨_, rfl, _, rfl, G, k, tt.1, tt.2.1, x, rfl, sG, h1, q⟩))))
  | join k =>
    obtain ⟨v, r, e1, h1, v2, r2, e2, h2, e3⟩ := hT
    cases e3; cases e2; cases e1
    obtain ⟨a, us, rfl, ga, hR⟩ := h1
    obtain ⟨a2, us2, rfl, ga2, hR2⟩ := h2
    have hz : (1 + tot k tt.1) + ((1 + tot k tt.2.1) + 0) ≤ BIG := hz
    have h3 := len_tot k tt.1
    have h4 := len_tot k tt.2.1
    have l1 := Paired.length hR
    have l2 := Paired.length hR2
    refine sq_no (a_sg rfl rfl) (sq_no (a_sg rfl rfl) (sq_no (a_sg rfl rfl) (sq_no (a_sg rfl rfl) (sq_no (a_sg rfl rfl) (sq_yes (a_sg rfl rfl) ?_)))))
    refine ⟨_, rfl, _, rfl, a, a2, _, _, rfl, rfl, sG _ _ ga, sG _ _ ga2, big_le (by omega), fun u nu => ?_⟩
    have x2 := Xt.new (M := No) (o := .lst (us ++ us2)) sG nu
    refine ⟨_, u, k, tt.1 ++ tt.2.1, us ++ us2, rfl, x2.sub, upd_same, pr_app (Reps.mono x2.g hR) (Reps.mono x2.g hR2), ?_⟩
    have q2 : QD G H (.row k) (tt.1 ++ tt.2.1) (farW (((List.length tt.1 : Nat) : Int) + ((List.length tt.2.1 : Nat) : Int))) Q := q
    rw [List.length_append, Int.natCast_add]
    exact q2.on x2
  | keep k =>
    obtain ⟨v, r, e1, h1, v2, r2, e2, h2, e3⟩ := hT
    cases e3; cases e2; cases e1
    obtain ⟨b, us, rfl, gb, hR⟩ := h2
    have hz : (1 + tot k tt.1) + ((1 + tot .truth tt.2.1) + 0) ≤ BIG := hz
    have h3 := len_tot k tt.1
    exact sq_no (a_sg rfl rfl) (sq_no (a_sg rfl rfl) (sq_no (a_sg rfl rfl) (sq_no (a_sg rfl rfl) (sq_no (a_sg rfl rfl) (sq_no (a_sg rfl rfl) (sq_yes (a_sg rfl rfl) ⟨_, rfl, _, rfl, G, k, tt.1, tt.2.1, x, b, rfl, sG, h1, by rw [gb, reps_bl hR], by omega, q⟩))))))
  | cut k =>
    obtain ⟨v, r, e1, h1, v2, r2, e2, h2, e3⟩ := hT
    cases e3; cases e2; cases e1
    obtain ⟨b, us, rfl, gb, hR⟩ := h2
    have hz : (1 + tot k tt.1) + ((1 + tot .num tt.2.1) + 0) ≤ BIG := hz
    have h3 := len_tot k tt.1
    have h4 := len_tot .num tt.2.1
    exact sq_no (a_sg rfl rfl) (sq_no (a_sg rfl rfl) (sq_no (a_sg rfl rfl) (sq_no (a_sg rfl rfl) (sq_no (a_sg rfl rfl) (sq_no (a_sg rfl rfl) (sq_no (a_sg rfl rfl) (sq_yes (a_sg rfl rfl) ⟨_, rfl, _, rfl, G, k, tt.1, tt.2.1, x, b, rfl, sG, h1, by rw [gb, reps_int hR], by omega, by omega, q⟩)))))))
  | add =>
    obtain ⟨v, r, e1, h1, v2, r2, e2, h2, e3⟩ := hT
    cases e3; cases e2; cases e1
    exact sq_no (a_sg rfl rfl) (sq_no (a_sg rfl rfl) (sq_no (a_sg rfl rfl) (sq_no (a_sg rfl rfl) (sq_no (a_sg rfl rfl) (sq_no (a_sg rfl rfl) (sq_no (a_sg rfl rfl) (sq_no (a_sg rfl rfl) (arith .add _ _ h1 h2 rfl hN.1 hN.2.1 q))))))))
  | sub =>
    obtain ⟨v, r, e1, h1, v2, r2, e2, h2, e3⟩ := hT
    cases e3; cases e2; cases e1
    exact sq_no (a_sg rfl rfl) (sq_no (a_sg rfl rfl) (sq_no (a_sg rfl rfl) (sq_no (a_sg rfl rfl) (sq_no (a_sg rfl rfl) (sq_no (a_sg rfl rfl) (sq_no (a_sg rfl rfl) (sq_no (a_sg rfl rfl) (arith .sub _ _ h1 h2 rfl hN.1 hN.2.1 q))))))))
  | mul =>
    obtain ⟨v, r, e1, h1, v2, r2, e2, h2, e3⟩ := hT
    cases e3; cases e2; cases e1
    exact sq_no (a_sg rfl rfl) (sq_no (a_sg rfl rfl) (sq_no (a_sg rfl rfl) (sq_no (a_sg rfl rfl) (sq_no (a_sg rfl rfl) (sq_no (a_sg rfl rfl) (sq_no (a_sg rfl rfl) (sq_no (a_sg rfl rfl) (arith .mul _ _ h1 h2 rfl hN.1 hN.2.1 q))))))))
  | div =>
    obtain ⟨v, r, e1, h1, v2, r2, e2, h2, e3⟩ := hT
    cases e3; cases e2; cases e1
    exact sq_no (a_sg rfl rfl) (sq_no (a_sg rfl rfl) (sq_no (a_sg rfl rfl) (sq_no (a_sg rfl rfl) (sq_no (a_sg rfl rfl) (sq_no (a_sg rfl rfl) (sq_no (a_sg rfl rfl) (sq_no (a_sg rfl rfl) (arith .div _ _ h1 h2 rfl hN.1 hN.2.1 q))))))))
  | rest =>
    obtain ⟨v, r, e1, h1, v2, r2, e2, h2, e3⟩ := hT
    cases e3; cases e2; cases e1
    exact sq_no (a_sg rfl rfl) (sq_no (a_sg rfl rfl) (sq_no (a_sg rfl rfl) (sq_no (a_sg rfl rfl) (sq_no (a_sg rfl rfl) (sq_no (a_sg rfl rfl) (sq_no (a_sg rfl rfl) (sq_no (a_sg rfl rfl) (arith .rest _ _ h1 h2 rfl hN.1 hN.2.1 q))))))))
  | _ =>
    obtain ⟨v, r, e1, h1, e2⟩ := hT
    subst e2
    cases e1
def spDone : Sp := fun vs H Q _ => ∃ (G : Hp) (s : Sg) (t : Tys s.ks) (tr wl : Addr) (ws rest : List V), vs = [.ref tr, .ref wl] ∧ Same G H ∧ G tr = some (.tup (.str s.nm :: rest)) ∧ H wl = some (.lst ws) ∧ RepsT G s.ks t ws ∧ wszs s.ks t ≤ BIG ∧ NBs s.ks t ∧ QD G H s.res (s.vl t) (s.wd t) Q
abbrev N_done_once : List PySem.Str := ["tree", "worths", "sign"]
theorem sc_done_once : FnScope N_done_once ["tree", "worths"] (defScope s_done_once) := ⟨rfl, rfl, rfl, by decide +kernel, rfl, by decide +kernel, by decide +kernel⟩
theorem repsT_len {G : Hp} : ∀ {ks : List Kd} {t : Tys ks} {vs : List V}, RepsT G ks t vs → vs.length = ks.length
  | [], _, _, h => by
    cases h
    rfl
  | _ :: _, _, _, ⟨v, r, h, _, h2⟩ => by
    rw [h, List.length_cons, List.length_cons, repsT_len h2]
theorem c_done_once (T : Txt K mg) (c_done_one : Cal P w K mg base 4 "done_one" spDone1 []) (c_done_two : Cal P w K mg base 4 "done_two" spDone2 []) : Cal P w K mg base 5 "done_once" spDone [] := by
  refine cal_of (d := d_done_once) T (mem_fn 36) rfl (mem_fa 36) rfl rfl sc_done_once (fun _ _ _ _ _ _ us hl => match us, hl with | [_, _], _ => rfl) (fun vs H Q E h => ?_) (fun cdv A outer s H vs Q E f hr h => ?_)
  · obtain ⟨G, s, t, tr, wl, ws, rest, rfl, _⟩ := h
    rfl
  obtain ⟨G, sg, tt, tr, wl, ws, rest, rfl, sG, htr, hwl, hT, hz, hN, q⟩ := h
  refine ⟨_, (pss_cons (ps_set (i := 2) sc_done_once.nd rfl (.inl rfl) (pe_ix i_tup (pv 0) pe_int (fun _ _ => rfl)))
      (pss_cons (ps_if (pt_cmpR op_eq (pv 2) pe_str (nomark _)) pss_never pss_nil)
      (pss_cons (ps_if (pt_cmpR o_in (pv 2) (pe_tup (pa_cons pe_str (pa_cons pe_str pa_nil))) (by rfl)) pss_never pss_nil)
      (pss_cons (ps_if (pt_cmpR op_eq (pv 2) pe_str (nomark _)) pss_never pss_nil)
      (pss_cons (ps_if (pt_cmpR op_eq (e_len T.len (pv 1)) pe_int (nomark _)) (pss_one (ps_ret (pe_c c_done_one hr (by decide) rfl (pa_cons (pv 2) (pa_cons (pe_ix i_list (pv 1) pe_int (fun _ _ => rfl)) pa_nil))))) pss_nil)
      (pss_one (ps_ret (pe_c c_done_two hr (by decide) rfl (pa_cons (pv 2) (pa_cons (pe_ix i_list (pv 1) pe_int (fun _ _ => rfl)) (pa_cons (pe_ix i_list (pv 1) pe_int (fun _ _ => rfl)) pa_nil))))))))))), ?_⟩
  have f1 : decide (sg.nm = "num") = false := by cases sg <;> rfl
  have f2 : inV (.str sg.nm) ((["yes", "no"] : List Str).map V.str) = false := by cases sg <;> rfl
  have f3 : decide (sg.nm = "none") = false := by cases sg <;> rfl
  refine ⟨_, rfl, tr, _, 0, _, rfl, rfl, SqT.of (sG _ _ htr), atI_nat (j := 0) rfl, ?_⟩
  refine sq_no (a_sg rfl f1) (sq_noS (a_inS (zs := ["yes", "no"]) rfl (fun _ q => q) (by show 2 ≤ 100; decide) f2) fun H1 e1 => sq_no (a_sg rfl f3) ?_)
  have x1 : X0 G H G H1 := Xt.of_same sG e1
  have hl := repsT_len hT
  rcases ks_two sg with h1 | h2
  · rw [h1] at hl
    match ws, hl, hwl, hT with
    | [x], _, hwl, hT =>
    refine ⟨_, rfl, wl, _, rfl, .inl (SqL.of (e1 _ _ hwl)), rfl, true, rfl, iteT ?_⟩
    exact ⟨_, rfl, _, rfl, wl, _, 0, _, rfl, rfl, SqL.of (e1 _ _ hwl), atI_nat (j := 0) rfl, G, sg, tt, x, rfl, x1.sub, hT, hz, q.on x1⟩
  · rw [h2] at hl
    match ws, hl, hwl, hT with
    | [x, y], _, hwl, hT =>
    refine ⟨_, rfl, wl, _, rfl, .inl (SqL.of (e1 _ _ hwl)), rfl, false, rfl, iteF ?_⟩
    exact ⟨_, rfl, _, rfl, wl, _, 0, _, rfl, rfl, SqL.of (e1 _ _ hwl), atI_nat (j := 0) rfl, _, rfl, wl, _, 1, _, rfl, rfl, SqL.of (e1 _ _ hwl), atI_nat (j := 1) rfl, G, sg, tt, x, y, rfl, x1.sub, hT, hz, hN, q.on x1⟩
end
end Bw
namespace Bw
open PySem PySem.Spec PySem.Calls PyProof.Rows L2
theorem zip_no_len : typeLookup (.type "zip") "__len__" = pure none := by rw [typeLookup_type, builtinLookup_eq_fast]; kernel_rfl
theorem zip_no_hint : typeLookup (.type "zip") "__length_hint__" = pure none := by rw [typeLookup_type, builtinLookup_eq_fast]; kernel_rfl
/-- a zip of two lists, i pairs given out; the list S under way is none of its parts -/
structure ZSt (z TI TO i1 i2 l1 l2 S : Addr) (xs ys : Array Value) (i : Nat) (h : Heap) : Prop where
  ti : IsPair h TI (.ref i1) (.ref i2)
  a1 : h.IsListIter i1 l1 i
  a2 : h.IsListIter i2 l2 i
  b1 : h.IsList l1 xs
  b2 : h.IsList l2 ys
  st : (IsZip h z TI TO .none ∧ ∃ a b, IsPair h TO a b) ∨ ∃ T f oT, IsZipHeld h z TI TO T f ∧ h.get? T = some oT ∧ T ≠ z ∧ T ≠ i1 ∧ T ≠ i2 ∧ T ≠ S
structure ZOff (z TI TO i1 i2 l1 l2 S : Addr) : Prop where
  z : z ≠ S
  TI : TI ≠ S
  TO : TO ≠ S
  i1 : i1 ≠ S
  i2 : i2 ≠ S
  l1 : l1 ≠ S
  l2 : l2 ≠ S
section
variable {prog : Program} {w : World} {A : Around} {E : Value → Shared → Prop} {s : Shared} {z TI TO i1 i2 l1 l2 S : Addr} {xs ys : Array Value} {i : Nat}
theorem ZSt.over {h h' : Heap} (O : ZOff z TI TO i1 i2 l1 l2 S) (x : ZSt z TI TO i1 i2 l1 l2 S xs ys i h) (e : ∀ b o, b ≠ S → h.get? b = some o → h'.get? b = some o) : ZSt z TI TO i1 i2 l1 l2 S xs ys i h' := by
  obtain ⟨t, a1, a2, b1, b2, q⟩ := x
  refine ⟨e _ _ O.TI t, a1.at fun o => e _ o O.i1, a2.at fun o => e _ o O.i2, b1.at fun o => e _ o O.l1, b2.at fun o => e _ o O.l2, ?_⟩
  rcases q with ⟨hz, a, b, ho⟩ | ⟨T, f, oT, hz, ht, t1, t2, t3, t4⟩
  · exact .inl ⟨e _ _ O.z hz, a, b, e _ _ O.TO ho⟩
  · exact .inr ⟨T, f, oT, e _ _ O.z hz, e _ _ t4 ht, t1, t2, t3, t4⟩
theorem zst_item {Q : Option Value → Shared → Prop} (D : ZipApart z TI TO i1 i2 l1 l2) (O : ZOff z TI TO i1 i2 l1 l2 S) (hS : S < s.heap.objs.size) (x : ZSt z TI TO i1 i2 l1 l2 S xs ys i s.heap) {u v : Value} (hx : xs[i]? = some u) (hy : ys[i]? = some v)
    (hQ : ∀ h', ZSt z TI TO i1 i2 l1 l2 S xs ys (i + 1) h' → IsPair h' s.heap.objs.size u v → h'.objs.size = s.heap.objs.size + 1 → (∀ c o, c ≠ z → c ≠ TO → c ≠ i1 → c ≠ i2 → s.heap.get? c = some o → h'.get? c = some o) → Q (some (.ref s.heap.objs.size)) { s with heap := h' }) :
    wpAny (model prog w) A (pyNext (.ref z)) Q E s := by
  obtain ⟨t, a1, a2, b1, b2, q⟩ := x
  have n1 : s.heap.objs.size ≠ i1 := let ⟨_, e, _⟩ := a1; Nat.ne_of_gt (Heap.lt_size e)
  have n2 : s.heap.objs.size ≠ i2 := let ⟨_, e, _⟩ := a2; Nat.ne_of_gt (Heap.lt_size e)
  rcases q with ⟨hz, a, b, ho⟩ | ⟨T, f, oT, hz, ht, t1, t2, t3, t4⟩
  · refine wpAny_pyNext_zip_item D hz t ho a1 a2 b1 b2 hx hy fun h' c1 c2 c3 c4 c5 c6 hk => ?_
    exact hQ h' ⟨hk _ _ D.TIz D.TITO D.TIi1 D.TIi2 t, c3, c4, b1.at fun o => hk _ o D.l1z D.l1TO D.l1i1 D.l1i2, b2.at fun o => hk _ o D.l2z D.l2TO D.l2i1 D.l2i2, .inr ⟨_, false, _, c1, c5, Nat.ne_of_gt (Heap.lt_size hz), n1, n2, Nat.ne_of_gt hS⟩⟩ c5 c6 hk
  · refine wpAny_pyNext_zip_item_held D hz ht t a1 a2 b1 b2 hx hy fun h' c1 c3 c4 c5 c6 hk => ?_
    exact hQ h' ⟨hk _ _ D.TIz D.TIi1 D.TIi2 t, c3, c4, b1.at fun o => hk _ o D.l1z D.l1i1 D.l1i2, b2.at fun o => hk _ o D.l2z D.l2i1 D.l2i2, .inr ⟨T, true, oT, c1, hk _ _ t1 t2 t3 ht, t1, t2, t3, t4⟩⟩ c5 c6 fun c o c1 _ c3 c4 e => hk c o c1 c3 c4 e
theorem zst_done {Q : Option Value → Shared → Prop} (hh : A.handled = none) (D : ZipApart z TI TO i1 i2 l1 l2) (x : ZSt z TI TO i1 i2 l1 l2 S xs ys i s.heap) (he : xs[i]? = none ∨ ys[i]? = none)
    (hQ : ∀ h', (∀ c o, c ≠ z → c ≠ TO → c ≠ i1 → c ≠ i2 → s.heap.get? c = some o → h'.get? c = some o) → Q none { s with heap := h' }) : wpAny (model prog w) A (pyNext (.ref z)) Q E s := by
  obtain ⟨t, a1, a2, b1, b2, q⟩ := x
  rcases q with ⟨hz, a, b, ho⟩ | ⟨T, f, oT, hz, ht, t1, t2, t3, t4⟩
  · exact wpAny_pyNext_zip_end hh D hz t ho a1 a2 b1 b2 he hQ
  · exact wpAny_pyNext_zip_end_held hh D hz ht t a1 a2 b1 b2 he fun h' hk => hQ h' fun c o c1 _ c3 c4 e => hk c o c1 c3 c4 e
end
/-- the pairs made so far -/
structure ZGot (xs ys : Array Value) (lo : Addr) (h : Heap) (as : List Addr) : Prop where
  rise : as.Pairwise (· < ·)
  above : ∀ a ∈ as, lo < a
  pairs : ∀ (j : Nat) (a : Addr), as[j]? = some a → ∃ u v, xs[j]? = some u ∧ ys[j]? = some v ∧ IsPair h a u v
section
variable {prog : Program} {w : World} {A : Around} {E : Value → Shared → Prop} {s : Shared} {R : Result → Shared → Prop} {z TI TO i1 i2 l1 l2 S : Addr} {xs ys : Array Value} {n : Nat}
/-- the zip's own objects lie below the list's pairs -/
def ZLow (z TO i1 i2 lo : Addr) : Prop := z ≤ lo ∧ TO ≤ lo ∧ i1 ≤ lo ∧ i2 ≤ lo
theorem zl_loop {lo : Addr} (hh : A.handled = none) (D : ZipApart z TI TO i1 i2 l1 l2) (O : ZOff z TI TO i1 i2 l1 l2 S) (L : ZLow z TO i1 i2 lo) (hSlo : S ≤ lo) (nx : xs.size = n) (ny : ys.size = n) (hn : n ≤ sizeLine) (res : Value) {h1 : Heap}
    (hR : ∀ h' acc c as, (∀ b o, b ≠ S → b ≠ z → b ≠ TO → b ≠ i1 → b ≠ i2 → h1.get? b = some o → h'.get? b = some o) → h'.get? S = some { cls := .type "list", dict := none, data := .seq acc c, slots := #[] } → as.length = n → ZGot xs ys lo h' as →
      acc.toList = as.map Value.ref → R (.ok (.ret res)) { s with heap := h' }) :
    ∀ (k i : Nat) (h : Heap) (c : Nat) (acc : Array Value) (as : List Addr), n - i = k → i ≤ n → ZSt z TI TO i1 i2 l1 l2 S xs ys i h → (∀ b o, b ≠ S → b ≠ z → b ≠ TO → b ≠ i1 → b ≠ i2 → h1.get? b = some o → h.get? b = some o) →
      h.get? S = some { cls := .type "list", dict := none, data := .seq acc c, slots := #[] } → acc.toList = as.map Value.ref → as.length = i → ZGot xs ys lo h as → lo < h.objs.size →
      codeAny (model prog w) A (.builtin "list.extend.loop" ⟨[.ref S, .ref z, res], []⟩) R { s with heap := h } := by
  have up0 : ∀ a, lo < a → a ≠ z ∧ a ≠ TO ∧ a ≠ i1 ∧ a ≠ i2 ∧ a ≠ S := fun a ha => ⟨Nat.ne_of_gt (Nat.lt_of_le_of_lt L.1 ha), Nat.ne_of_gt (Nat.lt_of_le_of_lt L.2.1 ha), Nat.ne_of_gt (Nat.lt_of_le_of_lt L.2.2.1 ha), Nat.ne_of_gt (Nat.lt_of_le_of_lt L.2.2.2 ha), Nat.ne_of_gt (Nat.lt_of_le_of_lt hSlo ha)⟩
  intro k
  induction k with
  | zero =>
    intro i h c acc as hk hi st hkp hS hacc hal hG hlo
    have hin : i = n := by omega
    refine codeAny_builtin PySem.F.entry_extend_loop ?_
    rw [Around.under_plainId PySem.F.plain_extend_loop _]
    show wpAny _ A.in1 (pyNext (.ref z) >>= _) _ _ _
    refine wpAny_bind (zst_done (s := { s with heap := h }) (A := A.in1) hh D st (.inl (Array.getElem?_eq_none (by omega))) fun h' he => ?_)
    refine wpAny_pure (hR h' acc c as (fun b o c0 c1 c2 c3 c4 e => he b o c1 c2 c3 c4 (hkp b o c0 c1 c2 c3 c4 e)) (he S _ O.z.symm O.TO.symm O.i1.symm O.i2.symm hS) (by omega) ⟨hG.rise, hG.above, fun j a hj => ?_⟩ hacc)
    obtain ⟨u, v, e1, e2, e3⟩ := hG.pairs j a hj
    obtain ⟨c1, c2, c3, c4, c5⟩ := up0 a (hG.above a (List.mem_of_getElem? hj))
    exact ⟨u, v, e1, e2, he a _ c1 c2 c3 c4 e3⟩
  | succ k ih =>
    intro i h c acc as hk hi st hkp hS hacc hal hG hlo
    have hlt : i < n := by omega
    have hsz : acc.size = i := by rw [← Array.length_toList, hacc, List.length_map, hal]
    have hx : xs[i]? = some xs[i] := Array.getElem?_eq_getElem (by omega)
    have hy : ys[i]? = some ys[i] := Array.getElem?_eq_getElem (by omega)
    have hSl : S < h.objs.size := Heap.lt_size hS
    refine codeAny_builtin PySem.F.entry_extend_loop ?_
    rw [Around.under_plainId PySem.F.plain_extend_loop _]
    show wpAny _ A.in1 (pyNext (.ref z) >>= _) _ _ _
    refine wpAny_bind (zst_item (s := { s with heap := h }) D O hSl st hx hy fun h' st' ht hz hk' => ?_)
    dsimp only at ht hz hk' ⊢
    have hS' := hk' S _ O.z.symm O.TO.symm O.i1.symm O.i2.symm hS
    have up : ∀ b o, b ≠ S → h'.get? b = some o → (h'.update S (Obj.mapSeq (·.push (Value.ref h.objs.size)))).get? b = some o := fun b o hb e => (Heap.get?_update_other _ _ (Ne.symm hb)).trans e
    have hTe := up _ _ (Nat.ne_of_gt hSl) ht
    show wpAny _ A.in1 (updateSeq S (·.push (Value.ref h.objs.size)) >>= _) _ _ _
    refine wpAny_bind ?_
    refine wpAny_updateSeq hS' rfl (wpAny_pure ⟨plainId_quiet PySem.F.plain_extend_loop _, ih (i + 1) _ _ (acc.push (Value.ref h.objs.size)) (as ++ [h.objs.size]) (by omega) hlt (st'.over O up)
      (fun b o c0 c1 c2 c3 c4 e => up b o c0 (hk' b o c1 c2 c3 c4 (hkp b o c0 c1 c2 c3 c4 e))) (Heap.get?_update_self _ hS' rfl) (by rw [Array.toList_push, hacc, List.map_append]; rfl) (by rw [List.length_append, hal]; rfl) ⟨?_, ?_, ?_⟩ (Nat.lt_trans hlo (Heap.lt_size hTe))⟩) (by rw [hsz]; omega) (by show (acc.push (Value.ref h.objs.size)).size ≤ sizeLine + 1; rw [Array.size_push, hsz]; omega)
    · refine List.pairwise_append.mpr ⟨hG.rise, List.pairwise_singleton _ _, fun a ha b hb => ?_⟩
      rw [List.mem_singleton.mp hb]
      obtain ⟨j, hj⟩ := List.mem_iff_getElem?.mp ha
      obtain ⟨u, v, _, _, e3⟩ := hG.pairs j a hj
      exact Heap.lt_size e3
    · intro a ha
      rcases List.mem_append.mp ha with ha | ha
      · exact hG.above a ha
      · rw [List.mem_singleton.mp ha]
        exact hlo
    · intro j b hj
      by_cases h1 : j < as.length
      · rw [List.getElem?_append_left h1] at hj
        obtain ⟨u, v, e1, e2, e3⟩ := hG.pairs j b hj
        obtain ⟨c1, c2, c3, c4, c5⟩ := up0 b (hG.above b (List.mem_of_getElem? hj))
        exact ⟨u, v, e1, e2, up b _ c5 (hk' b _ c1 c2 c3 c4 e3)⟩
      · have hj2 : j < (as ++ [h.objs.size]).length := (List.getElem?_eq_some_iff.mp hj).1
        rw [List.length_append, List.length_singleton] at hj2
        have e : j = i := by omega
        have hb : h.objs.size = b := by
          rw [e, ← hal] at hj
          simpa using hj
        rw [e, ← hb]
        exact ⟨_, _, hx, hy, hTe⟩
theorem zl_extend (hh : A.handled = none) (D : ZipApart z TI TO i1 i2 l1 l2) (O : ZOff z TI TO i1 i2 l1 l2 S) (hzz : IsZip s.heap z TI TO .none) (L : ZLow z TO i1 i2 S) (nx : xs.size = n) (ny : ys.size = n) (hn : n ≤ sizeLine) (res : Value) (c0 : Nat)
    (st : ZSt z TI TO i1 i2 l1 l2 S xs ys 0 s.heap) (hS : s.heap.get? S = some { cls := .type "list", data := .seq #[] c0 })
    (hR : ∀ h' acc c as, (∀ b o, b ≠ S → b ≠ z → b ≠ TO → b ≠ i1 → b ≠ i2 → s.heap.get? b = some o → h'.get? b = some o) → h'.get? S = some { cls := .type "list", dict := none, data := .seq acc c, slots := #[] } → as.length = n → ZGot xs ys S h' as →
      acc.toList = as.map Value.ref → R (.ok (.ret res)) { s with heap := h' }) :
    wpAny (model prog w) A.in1 (Builtin.List.listExtendWith (.ref S) (.ref z) res)
      (fun fin s' => match fin with | .done f => R (.ok f) s' | .again c' => c'.quiet = true ∧ codeAny (model prog w) A c' R s') (fun e s' => R (.error e) s') s := by
  have hTy : s.TypeIs (.ref z) "zip" := ⟨_, hzz, rfl⟩
  unfold Builtin.List.listExtendWith
  refine wpAny_bind (wpAny_typeOf hTy ?_)
  have e1 : Builtin.List.listSameRef (.ref S) (.ref z) = false := by simp [Builtin.List.listSameRef, O.z.symm]
  have e2 : (Value.type "zip" == Value.type "list") = false := by decide
  have e3 : (Value.type "zip" == Value.type "tuple") = false := by decide
  simp only [e1, e2, e3, Bool.or_false, Bool.false_eq_true, if_false]
  refine wpAny_bind (wpAny_pyIter_zip hzz ?_)
  refine wpAny_bind (wpAny_holding ?_)
  unfold Builtin.List.listLengthHint
  refine wpAny_bind (wpAny_specialOf hTy zip_no_len ?_)
  show wpAny _ A.in1 (specialOf (Value.ref z) (Str.ofString "__length_hint__") >>= _) _ _ _
  refine wpAny_bind (wpAny_specialOf hTy zip_no_hint ?_)
  refine wpAny_pure ?_
  show wpAny _ A.in1 (rule "list.extend.makes-room" >>= fun _ => Builtin.List.listTouch (.ref S) >>= fun _ =>
    again (.builtin "list.extend.loop" ⟨[.ref S, .ref z, res], []⟩)) _ _ _
  refine wpAny_bind (wpAny_rule ?_)
  refine wpAny_bind ?_
  show wpAny _ A.in1 (updateSeq S (·.push .none) >>= fun _ => updateSeq S (·.pop)) _ _ _
  refine wpAny_bind (wpAny_updateSeq hS rfl ?_)
  have hS2 := Heap.get?_update_self (Obj.mapSeq (·.push Value.none)) hS rfl
  refine wpAny_updateSeq (hz := by seq_fits) hS2 rfl ?_
  have hS3 := Heap.get?_update_self (Obj.mapSeq (·.pop)) hS2 rfl
  have oth : ∀ b o, b ≠ S → s.heap.get? b = some o → ((s.heap.update S (Obj.mapSeq (·.push Value.none))).update S (Obj.mapSeq (·.pop))).get? b = some o :=
    fun b o hb e => (Heap.get?_update_other _ _ (Ne.symm hb)).trans ((Heap.get?_update_other _ _ (Ne.symm hb)).trans e)
  exact wpAny_pure ⟨plainId_quiet PySem.F.plain_extend_loop _, zl_loop (s := s) (h1 := s.heap) hh D O L (Nat.le_refl _) nx ny hn res hR n 0 _ _ #[] [] (Nat.sub_zero _) (Nat.zero_le _) (st.over O oth) (fun b o c0 _ _ _ _ e => oth b o c0 e) hS3 rfl rfl
    ⟨List.Pairwise.nil, (fun _ ha => nomatch ha), (fun j a hj => by simp at hj)⟩ (Heap.lt_size hS3)⟩
theorem zl_init (hh : A.handled = none) (D : ZipApart z TI TO i1 i2 l1 l2) (O : ZOff z TI TO i1 i2 l1 l2 S) (L : ZLow z TO i1 i2 S) (nx : xs.size = n) (ny : ys.size = n) (hn : n ≤ sizeLine) (hz : IsZip s.heap z TI TO .none) (ho : ∃ a b, IsPair s.heap TO a b)
    (ht : IsPair s.heap TI (.ref i1) (.ref i2)) (a1 : s.heap.IsListIter i1 l1 0) (a2 : s.heap.IsListIter i2 l2 0) (b1 : s.heap.IsList l1 xs) (b2 : s.heap.IsList l2 ys) (hS : s.heap.get? S = some { cls := .type "list", data := .seq #[] })
    (hR : ∀ h' acc c as, (∀ b o, b ≠ S → b ≠ z → b ≠ TO → b ≠ i1 → b ≠ i2 → s.heap.get? b = some o → h'.get? b = some o) → h'.get? S = some { cls := .type "list", dict := none, data := .seq acc c, slots := #[] } → as.length = n → ZGot xs ys S h' as →
      acc.toList = as.map Value.ref → R (.ok (.ret .none)) { s with heap := h' }) :
    wpAny (model prog w) A.in1 (Builtin.«list.__init__» ⟨[.ref S, .ref z], []⟩)
      (fun fin s' => match fin with | .done f => R (.ok f) s' | .again c' => c'.quiet = true ∧ codeAny (model prog w) A c' R s') (fun e s' => R (.error e) s') s := by
  show wpAny _ A.in1 (do let old ← Builtin.List.listItems (.ref S); Builtin.List.listUpdate (.ref S) (fun _ => #[]); letGo old.toList.reverse; Builtin.List.listExtendWith (.ref S) (.ref z) .none) _ _ s
  refine wpAny_bind ?_
  unfold Builtin.List.listItems
  refine wpAny_bind (wpAny_seqItems hS rfl (wpAny_pure ?_))
  show wpAny _ A.in1 (updateSeq S (fun _ => #[]) >>= fun _ => letGo (#[] : Array Value).toList.reverse >>= fun _ => Builtin.List.listExtendWith (.ref S) (.ref z) .none) _ _ s
  refine wpAny_bind (wpAny_updateSeq hS rfl ?_)
  have hS2 := Heap.get?_update_self (Obj.mapSeq (fun _ => (#[] : Array Value))) hS rfl
  have oth : ∀ b o, b ≠ S → s.heap.get? b = some o → (s.heap.update S (Obj.mapSeq (fun _ => (#[] : Array Value)))).get? b = some o :=
    fun b o hb e => (Heap.get?_update_other _ _ (Ne.symm hb)).trans e
  refine wpAny_bind (wpAny_letGo ?_)
  obtain ⟨a, b, ho⟩ := ho
  have st0 : ZSt z TI TO i1 i2 l1 l2 S xs ys 0 s.heap := ⟨ht, a1, a2, b1, b2, .inl ⟨hz, a, b, ho⟩⟩
  exact zl_extend (s := { s with heap := s.heap.update S (Obj.mapSeq (fun _ => (#[] : Array Value))) }) hh D O (oth _ _ O.z hz) L nx ny hn .none _ (st0.over O oth) hS2 fun h' acc c as hk hS' hl hG hacc => hR h' acc c as (fun b o c0 c1 c2 c3 c4 e => hk b o c0 c1 c2 c3 c4 (oth b o c0 e)) hS' hl hG hacc
theorem zl_call {Q : Value → Shared → Prop} (hh : A.handled = none) (D : ZipApart z TI TO i1 i2 l1 l2) (nx : xs.size = n) (ny : ys.size = n) (hn : n ≤ sizeLine) (hz : IsZip s.heap z TI TO .none) (ho : ∃ a b, IsPair s.heap TO a b)
    (ht : IsPair s.heap TI (.ref i1) (.ref i2)) (a1 : s.heap.IsListIter i1 l1 0) (a2 : s.heap.IsListIter i2 l2 0) (b1 : s.heap.IsList l1 xs) (b2 : s.heap.IsList l2 ys)
    (hR : ∀ h' acc c as, (∀ b o, b ≠ z → b ≠ TO → b ≠ i1 → b ≠ i2 → s.heap.get? b = some o → h'.get? b = some o) → h'.get? s.heap.objs.size = some { cls := .type "list", dict := none, data := .seq acc c, slots := #[] } → as.length = n → ZGot xs ys s.heap.objs.size h' as →
      acc.toList = as.map Value.ref → Q (.ref s.heap.objs.size) { s with heap := h' }) : wpAny (model prog w) A (call (.type "list") [.ref z]) Q E s := by
  refine callType_codes (Q₁ := fun obj s₁ => obj = .ref s.heap.objs.size ∧ s₁ = { s with heap := s.heap.push { cls := .type "list", data := .seq #[] } }) PySem.F.called_list (PySem.F.typeCall_list_1 _) PySem.F.entry_list_init
    (code_list_new _ ⟨rfl, rfl⟩) fun obj s₁ h₁ => ?_
  obtain ⟨rfl, rfl⟩ := h₁
  obtain ⟨a, b, ho⟩ := ho
  have hS : (s.heap.push { cls := .type "list", data := .seq #[] }).get? s.heap.objs.size = some { cls := .type "list", data := .seq #[] } := Heap.get?_push_size _ rfl
  have up : ∀ b o, s.heap.get? b = some o → (s.heap.push { cls := .type "list", data := .seq #[] }).get? b = some o := fun b o e => Heap.get?_push_of_some _ e
  have k1 : i1 < s.heap.objs.size := let ⟨_, e, _⟩ := a1; Heap.lt_size e
  have k2 : i2 < s.heap.objs.size := let ⟨_, e, _⟩ := a2; Heap.lt_size e
  have k3 : l1 < s.heap.objs.size := let ⟨_, e, _⟩ := b1; Heap.lt_size e
  have k4 : l2 < s.heap.objs.size := let ⟨_, e, _⟩ := b2; Heap.lt_size e
  have k5 : z < s.heap.objs.size := Heap.lt_size hz
  have k6 : TO < s.heap.objs.size := Heap.lt_size ho
  have O : ZOff z TI TO i1 i2 l1 l2 s.heap.objs.size := ⟨Nat.ne_of_lt k5, Nat.ne_of_lt (Heap.lt_size ht), Nat.ne_of_lt k6, Nat.ne_of_lt k1, Nat.ne_of_lt k2, Nat.ne_of_lt k3, Nat.ne_of_lt k4⟩
  refine ⟨⟨_, hS, rfl⟩, PySem.F.args_list_init_2 _ _, zl_init (s := { s with heap := s.heap.push { cls := .type "list", data := .seq #[] } }) (A := A.in1) hh D O ⟨Nat.le_of_lt k5, Nat.le_of_lt k6, Nat.le_of_lt k1, Nat.le_of_lt k2⟩ nx ny hn (up _ _ hz) ⟨a, b, up _ _ ho⟩ (up _ _ ht)
    (a1.at fun o => up _ o) (a2.at fun o => up _ o) (b1.at fun o => up _ o) (b2.at fun o => up _ o) hS fun h' acc c as hk hS' hl hG hacc => ?_⟩
  exact ⟨rfl, hR h' acc c as (fun b o c1 c2 c3 c4 e => hk b o (Nat.ne_of_lt (Heap.lt_size e)) c1 c2 c3 c4 (up _ _ e)) hS' hl hG hacc⟩
end
/-! ### list(zip(xs, ys)) in the layer -/
def putZ : Hp → List Addr → List (V × V) → Hp
  | H, a :: as, p :: ps => putZ (upd H a (.tup [p.1, p.2])) as ps
  | H, _, _ => H
theorem putZ_off {b : Addr} : ∀ (as : List Addr) (ps : List (V × V)) (H : Hp), b ∉ as → putZ H as ps b = H b
  | [], _, _, _ => rfl
  | _ :: _, [], _, _ => rfl
  | a :: as, p :: ps, H, h => by
    show putZ (upd H a (.tup [p.1, p.2])) as ps b = H b
    rw [putZ_off as ps _ (fun z => h (List.mem_cons_of_mem _ z)), upd_ne (fun z => h (by rw [z]; exact List.mem_cons_self))]
theorem putZ_at : ∀ (as : List Addr) (ps : List (V × V)) (H : Hp), as.Nodup → ∀ (j : Nat) (t : Addr) (p : V × V), as[j]? = some t → ps[j]? = some p → putZ H as ps t = some (.tup [p.1, p.2])
  | [], _, _, _, j, t, p, e, _ => by simp at e
  | _ :: _, [], _, _, j, t, p, _, e => by simp at e
  | a :: as, p0 :: ps, H, hn, 0, t, p, e1, e2 => by
    have hn' := List.nodup_cons.mp hn
    cases e1
    cases e2
    show putZ (upd H a (.tup [p0.1, p0.2])) as ps a = some (.tup [p0.1, p0.2])
    rw [putZ_off as ps _ hn'.1, upd_same]
  | a :: as, p0 :: ps, H, hn, j + 1, t, p, e1, e2 => putZ_at as ps (upd H a (.tup [p0.1, p0.2])) (List.nodup_cons.mp hn).2 j t p (by simpa using e1) (by simpa using e2)
def rListZip (K : PySem.W.Frag) : List V → Hp → VK → Prop := fun vs H Q => ∃ a b xs ys, vs = [.ref a, .ref b] ∧ SqL K H a xs ∧ SqL K H b ys ∧ xs.length = ys.length ∧
  ∀ (H' : Hp) (p : Addr) (ts : List Addr), Same H H' → H p = none → (∀ t ∈ ts, H t = none) → H' p = some (.lst (ts.map V.ref)) → ts.length = xs.length → (∀ (j : Nat) (t : Addr) (x y : V), ts[j]? = some t → xs[j]? = some x → ys[j]? = some y → H' t = some (.tup [x, y])) → Q (.ref p) H'
def tListZip (K : PySem.W.Frag) (ta : TA) : TE := fun σ H Q => ta σ H fun vs H1 => rListZip K vs H1 Q
section
variable {X : Cx}
theorem zip_laid {pins : List (Addr × Obj)} {σ : L2.St} {H : Hp} {s : Shared} {h' : Heap} {xs ys : List V} {its its2 : List Value} {acc : Array Value} {c n : Nat} {S : Addr} {as : List Addr} (I : Inv X pins σ H s) (rx : Vals xs its) (ry : Vals ys its2) (hx : xs.length = n) (hy : ys.length = n) (hz : n ≤ sizeLine)
    (hk : ∀ b o, s.heap.get? b = some o → h'.get? b = some o) (hSl : s.heap.objs.size ≤ S) (hS : h'.get? S = some { cls := .type "list", dict := none, data := .seq acc c, slots := #[] }) (hl : as.length = n) (hG : ZGot its.toArray its2.toArray S h' as) (hacc : acc.toList = as.map Value.ref) :
    ∃ H' : Hp, Same H H' ∧ H S = none ∧ (∀ t ∈ as, H t = none) ∧ H' S = some (.lst (as.map V.ref)) ∧ (∀ (j : Nat) (t : Addr) (x y : V), as[j]? = some t → xs[j]? = some x → ys[j]? = some y → H' t = some (.tup [x, y])) ∧ Inv X pins σ H' { s with heap := h' } := by
  have hSn : S ∉ as := fun z => Nat.lt_irrefl _ (hG.above _ z)
  have nd : as.Nodup := List.Pairwise.imp (fun {a b} (h : a < b) => Nat.ne_of_lt h) hG.rise
  have new : ∀ t ∈ as, H t = none := fun t ht => I.hok.fresh (Nat.le_trans hSl (Nat.le_of_lt (hG.above t ht)))
  have newS : H S = none := I.hok.fresh hSl
  have off : ∀ b, b ∉ as → b ≠ S → putZ (upd H S (.lst (as.map V.ref))) as (xs.zip ys) b = H b := fun b h1 h2 => by rw [putZ_off as _ _ h1, upd_ne h2]
  have low : ∀ b o, s.heap.get? b = some o → b ∉ as ∧ b ≠ S := fun b o e => ⟨fun z => absurd (Heap.lt_size e) (Nat.not_lt.mpr (Nat.le_trans hSl (Nat.le_of_lt (hG.above b z)))), Nat.ne_of_lt (Nat.lt_of_lt_of_le (Heap.lt_size e) hSl)⟩
  have kp : ∀ b u, H b = some u → (putZ (upd H S (.lst (as.map V.ref))) as (xs.zip ys)) b = some u := fun b u e => by
    rw [off b (fun z => by rw [new b z] at e; cases e) (fun z => by rw [z, newS] at e; cases e)]
    exact e
  have eS : putZ (upd H S (.lst (as.map V.ref))) as (xs.zip ys) S = some (.lst (as.map V.ref)) := by rw [putZ_off as _ _ hSn, upd_same]
  have atP : ∀ (j : Nat) (t : Addr) (x y : V), as[j]? = some t → xs[j]? = some x → ys[j]? = some y → putZ (upd H S (.lst (as.map V.ref))) as (xs.zip ys) t = some (.tup [x, y]) := fun j t x y e1 e2 e3 =>
    putZ_at as (xs.zip ys) _ nd j t (x, y) e1 (by rw [List.getElem?_zip_eq_some]; exact ⟨e2, e3⟩)
  refine ⟨putZ (upd H S (.lst (as.map V.ref))) as (xs.zip ys), kp, newS, new, eS, atP, ?_⟩
  refine I.call' (s' := { s with heap := h' }) (ch := []) rfl ⟨fun b o q _ _ _ => hk b o q, fun b o q _ _ _ => ⟨o.slots, hk b o q⟩, fun b o q n _ => ?_, fun b o q _ => ⟨o, hk b o q⟩, fun b xs q => kp b _ q, fun b o u q => kp b _ q, fun b ps q => ⟨#[], by rw [kp b _ q]; simp⟩⟩ (fun b u q => ?_) I.bare fun b z => by simp at z
  · obtain ⟨z1, z2⟩ := low b o q
    rw [off b z1 z2]
    exact n
  · by_cases hb : b ∈ as
    · obtain ⟨j, e1⟩ := List.mem_iff_getElem?.mp hb
      have hj : j < n := by
        have := (List.getElem?_eq_some_iff.mp e1).1
        omega
      have h1 : xs[j]? = some xs[j] := List.getElem?_eq_getElem (by omega)
      have h2 : ys[j]? = some ys[j] := List.getElem?_eq_getElem (by omega)
      rw [atP j b _ _ e1 h1 h2] at q
      cases q
      obtain ⟨u, v, f1, f2, f3⟩ := hG.pairs j b e1
      obtain ⟨u', g1, g2⟩ := rx.get h1
      obtain ⟨v', g3, g4⟩ := ry.get h2
      have f1 : its[j]? = some u := by simpa using f1
      have f2 : its2[j]? = some v := by simpa using f2
      rw [f1] at g1
      rw [f2] at g3
      cases g1
      cases g3
      exact ⟨by show 2 ≤ sizeLine; decide, [u, v], .cons g2 (.cons g4 .nil), ⟨_, f3, rfl, _, rfl⟩⟩
    · by_cases hb2 : b = S
      · rw [hb2] at q ⊢
        rw [eS] at q
        cases q
        refine ⟨by rw [List.length_map]; omega, acc.toList, c, by rw [hacc]; exact LiI.vals_refs as, ?_⟩
        rw [Array.toArray_toList]
        exact hS
      · rw [off b hb hb2] at q
        exact (I.hok b u q).stay (fun d v _ y => hk d v y) (fun d y => kp d _ y) fun d xs y => kp d _ y
theorem pe_listZipX {e e2 : Expr} {ta : TA} {p p2 q pos : Pos} (hc : X.calm = true) (hg : Gl X "list") (hm : X.mg "list" = none) (hg2 : Gl X "zip") (hm2 : X.mg "zip" = none) (ha : PA X [e, e2] ta)
    (na : starEach [.Call (.Name "zip" p2) [e, e2] [] q] X.env = (false, eval (.Call (.Name "zip" p2) [e, e2] [] q) X.env) :: starEach [] X.env := by rfl)
    (hs : starEach [e, e2] X.env = (false, eval e X.env) :: starEach [e2] X.env := by rfl) (hpl : (backTo q (starEach [e2] X.env)).any (·.1) = false := by rfl) :
    PE X (.Call (.Name "list" p) [.Call (.Name "zip" p2) [e, e2] [] q] [] pos) (tListZip X.K ta) := by
  refine ⟨fun pins s σ H R I h => ?_⟩
  refine Call_ (ld_blt I hg hm boot_list (PyProof.Rows.callWith_type1 (PyProof.Rows.args_cons ?_ rfl) na rfl))
  refine Call_ (ld_blt I hg2 hm2 PyProof.Rows.boot_zip (PyProof.Rows.callWith_type1 (thn (ha.run q pins s σ H _ I h) fun us s1 ⟨vs, H1, I1, r1, q1⟩ => ?_) hs hpl))
  obtain ⟨a, b, xs, ys, ex, hqx, hqy, hxy, q1⟩ := q1
  subst ex
  cases r1 with
  | cons r rr =>
    cases rr with
    | cons r' rr =>
      cases rr
      cases r
      cases r'
      obtain ⟨its, rv, p1, z1⟩ := I1.list hqx
      obtain ⟨its2, rv2, p2, _⟩ := I1.list hqy
      have la : a < s1.heap.objs.size := p1.lt
      have lb : b < s1.heap.objs.size := p2.lt
      refine call_zip_2 p1.isList p2.isList fun h' hz hTI hTO h1 h2 hsz hk => PyProof.Rows.args_nil ?_
      have l1 := rv.length
      have l2 := rv2.length
      refine zl_call (s := { s1 with heap := h' }) (n := xs.length) (I1.ok.hd hc) (PySem.W.ktu_apart s1.heap.objs.size a b la lb) (by rw [List.size_toArray]; omega) (by rw [List.size_toArray]; omega) ?_ hz ⟨_, _, hTO⟩ hTI h1 h2 (p1.isList.at fun o e => hk _ o e) (p2.isList.at fun o e => hk _ o e)
        fun h'' acc c as hk2 hS hl hG hacc => ?_
      · exact z1
      · dsimp only at hk2 hS hG ⊢
        have hkk : ∀ b o, s1.heap.get? b = some o → h''.get? b = some o := fun b o e => by
          have hlt := Heap.lt_size e
          exact hk2 b o (Nat.ne_of_lt (Nat.lt_of_lt_of_le hlt (Nat.le_add_right _ _))) (Nat.ne_of_lt (Nat.lt_of_lt_of_le hlt (Nat.le_add_right _ _))) (Nat.ne_of_lt hlt) (Nat.ne_of_lt (Nat.lt_of_lt_of_le hlt (Nat.le_add_right _ _))) (hk b o e)
        obtain ⟨H', k1, k2, k3, k4, k5, J⟩ := zip_laid (h' := h'') I1 rv rv2 rfl hxy.symm z1 hkk (by rw [hsz]; exact Nat.le_add_right _ _) hS hl hG hacc
        exact ⟨.ref h'.objs.size, H', J, rfl, q1 H' _ as k1 k2 k3 k4 hl k5⟩
end
end Bw
namespace Bw
open PySem PySem.Spec PyProof.Rows L2
open C8 (Cal pe_c)
theorem Xt.pubs {M : Addr → Prop} {G H H1 : Hp} {l : List Addr} (s : Same G H) (e : Same H H1) (n : ∀ b ∈ l, H b = none) : Xt M G H (fun b => if b ∈ l then H1 b else G b) H1 :=
  ⟨fun b o q => by
    show (if b ∈ l then H1 b else G b) = some o
    by_cases hb : b ∈ l
    · have h1 := s.free (n b hb)
      rw [q] at h1
      cases h1
    · rw [if_neg hb]
      exact q, fun b o q => by
    have q : (if b ∈ l then H1 b else G b) = some o := q
    by_cases hb : b ∈ l
    · rw [if_pos hb] at q
      exact q
    · rw [if_neg hb] at q
      exact e _ _ (s _ _ q), fun b o _ q => e _ _ q, fun b h => by
    show (if b ∈ l then H1 b else G b) = G b
    by_cases hb : b ∈ l
    · exact absurd (n b hb) h
    · rw [if_neg hb], fun b h z => by
    cases q : H b with
    | none => exact h q
    | some u =>
      rw [e b u q] at z
      cases z⟩
theorem pr_split {α β : Type} {F : α → β → Prop} : ∀ (xs ys : List α) {vs : List β}, Paired F (xs ++ ys) vs → ∃ us ws, vs = us ++ ws ∧ Paired F xs us ∧ Paired F ys ws
  | [], ys, vs, h => ⟨[], vs, rfl, .nil, h⟩
  | x :: xs, ys, v :: vs, .cons r t => by
    obtain ⟨us, ws, e, h1, h2⟩ := pr_split xs ys t
    exact ⟨v :: us, ws, by rw [e]; rfl, .cons r h1, h2⟩
theorem unflat {G : Hp} {k : Kd} : ∀ (ws : List (List (Ty k))) {vs : List V}, Reps G k ws.flatten vs → ∃ vss : List (List V), vss.flatten = vs ∧ Paired (Reps G k) ws vss
  | [], vs, h => by
    cases h
    exact ⟨[], rfl, .nil⟩
  | w :: ws, vs, h => by
    rw [List.flatten_cons] at h
    obtain ⟨us, rs, e, h1, h2⟩ := pr_split _ _ h
    obtain ⟨vss, e2, h3⟩ := unflat ws h2
    exact ⟨us :: vss, by rw [List.flatten_cons, e2, e], .cons h1 h3⟩
theorem zip_reps {G : Hp} {k l : Kd} : ∀ {ws : List (Ty k × Ty l)} {xs ys : List V} {ts : List Addr}, Reps G k (ws.map Prod.fst) xs → Reps G l (ws.map Prod.snd) ys → ts.length = xs.length →
    (∀ (j : Nat) (t : Addr) (x y : V), ts[j]? = some t → xs[j]? = some x → ys[j]? = some y → G t = some (.tup [x, y])) → Reps G (.pair k l) ws (ts.map V.ref)
  | [], [], [], [], _, _, _, _ => .nil
  | w :: ws, x :: xs, y :: ys, t :: ts, .cons r1 t1, .cons r2 t2, hl, h => .cons ⟨t, x, y, rfl, h 0 t x y rfl rfl rfl, r1, r2⟩ (zip_reps t1 t2 (by simpa using hl) fun j t x y e1 e2 e3 => h (j + 1) t x y e1 e2 e3)
section
variable {P : Program} {w : World} {K : PySem.W.Frag} {mg : Str → Option Value} {base : Heap}
/-! ### worths_of -/
def spWorthsBy (K : PySem.W.Frag) (d : Nat) : Sp := fun vs H Q _ => ∃ (G : Hp) (k : Kd) (ws : List (Ty k)) (x f m : V), vs = [x, f, m] ∧ Same G H ∧ KRep K G k x ∧ FRep G k ws f ∧ tot k ws ≤ BIG ∧ k.dep ≤ d ∧
  ∀ (p : Addr) (us : List V) (G' H' : Hp), X0 G H G' H' → G' p = some (.lst us) → Reps G' k ws us → Q (.ref p) H'
abbrev N_worths_of : List PySem.Str := ["kind", "flat", "many"]
theorem sc_worths_of : FnScope N_worths_of ["kind", "flat", "many"] (defScope s_worths_of) := ⟨rfl, rfl, rfl, by decide +kernel, rfl, by decide +kernel, by decide +kernel⟩
theorem c_worths_of1 {d : Nat} (T : Txt K mg) (c_parted : Cal P w K mg base 1 "parted" spParted []) (c_worths_of : ∀ d', d = d' + 1 → Cal P w K mg base (d + 1) "worths_of" (spWorthsBy K d') []) : Cal P w K mg base (d + 2) "worths_of" (spWorthsBy K d) [] := by
  refine cal_of (d := d_worths_of) T (mem_fn 6) rfl (mem_fa 6) rfl rfl sc_worths_of (fun _ _ _ _ _ _ us hl => match us, hl with | [_, _, _], _ => rfl) (fun vs H Q E h => ?_) (fun cdv A outer s H vs Q E f hr h => ?_)
  · obtain ⟨G, k, ws, x, fl, m, rfl, _⟩ := h
    rfl
  obtain ⟨G, k, ws, x, fl, m, rfl, sG, hk, hf, ht, hd, q⟩ := h
  obtain ⟨d', rfl⟩ : ∃ d', d = d' + 1 := ⟨d - 1, by have := kd_pos k; omega⟩
  have c_worths_of := c_worths_of d' rfl
  refine ⟨_, (pss_cons (ps_if (pt_cmpR op_eq (pe_ix i_tup (pv 0) pe_int (fun _ _ => rfl)) pe_str (nomark _)) (pss_one (ps_ret (pe_listZipX rfl rfl T.list rfl T.zip (pa_cons (pe_c c_worths_of hr (Nat.le_refl _) rfl (pa_cons (pe_ix i_tup (pv 0) pe_int (fun _ _ => rfl)) (pa_cons (pe_ix i_tup (pv 1) pe_int (fun _ _ => rfl)) (pa_cons (pv 2) pa_nil)))) (pa_cons (pe_c c_worths_of hr (Nat.le_refl _) rfl (pa_cons (pe_ix i_tup (pv 0) pe_int (fun _ _ => rfl)) (pa_cons (pe_ix i_tup (pv 1) pe_int (fun _ _ => rfl)) (pa_cons (pv 2) pa_nil)))) pa_nil))))) pss_nil)
      (pss_cons (ps_if (pt_cmpR op_eq (pe_ix i_tup (pv 0) pe_int (fun _ _ => rfl)) pe_str (nomark _)) (pss_one (ps_ret (pe_c c_parted hr (by omega) rfl (pa_cons (pe_ix i_tup (pv 1) pe_int (fun _ _ => rfl)) (pa_cons (pe_c c_worths_of hr (Nat.le_refl _) rfl (pa_cons (pe_ix i_tup (pv 0) pe_int (fun _ _ => rfl)) (pa_cons (pe_ix i_tup (pv 1) pe_int (fun _ _ => rfl)) (pa_cons (e_sum T.sum (pe_ix i_tup (pv 1) pe_int (fun _ _ => rfl))) pa_nil)))) pa_nil))))) pss_nil)
      (pss_one (ps_ret (e_list T.list (pv 1)))))), ?_⟩
  cases k with
  | num =>
    obtain ⟨a, rfl, ga⟩ := hf
    refine sq_no (a_kind hk sG rfl rfl) (sq_no (a_kind hk sG rfl rfl) ?_)
    exact ⟨_, rfl, a, _, rfl, .inl (SqL.of (sG _ _ ga)), fun p np => q p _ _ _ (Xt.new sG np) upd_same (int_reps _)⟩
  | truth =>
    obtain ⟨a, rfl, ga⟩ := hf
    refine sq_no (a_kind hk sG rfl rfl) (sq_no (a_kind hk sG rfl rfl) ?_)
    exact ⟨_, rfl, a, _, rfl, .inl (SqL.of (sG _ _ ga)), fun p np => q p _ _ _ (Xt.new sG np) upd_same (bl_reps _)⟩
  | pair k l =>
    refine sq_yes (a_kind hk sG rfl rfl) ?_
    obtain ⟨ka, kx, ky, rfl, sk, k1, k2⟩ := hk
    obtain ⟨a, fx, fy, rfl, ga, f1, f2⟩ := hf
    have hdd : max k.dep l.dep + 1 ≤ d' + 1 := hd
    have t1 := tot_pair k l ws
    refine ⟨_, rfl, ka, _, 1, _, rfl, rfl, sameT sG sk, atI_nat (j := 1) rfl, _, rfl, a, _, 0, _, rfl, rfl, SqT.of (sG _ _ ga), atI_nat (j := 0) rfl, _, rfl, ?_⟩
    refine ⟨G, k, ws.map Prod.fst, kx, fx, m, rfl, sG, k1, f1, by omega, by omega, fun p1 us1 G1 H1 x1 g1 r1 => ?_⟩
    have s1 := sG.trans x1.same
    refine ⟨_, rfl, ka, _, 2, _, rfl, rfl, sameT s1 sk, atI_nat (j := 2) rfl, _, rfl, a, _, 1, _, rfl, rfl, SqT.of (s1 _ _ ga), atI_nat (j := 1) rfl, _, rfl, ?_⟩
    refine ⟨G1, l, ws.map Prod.snd, ky, fy, m, rfl, x1.sub, KRep.mono x1.g k2, FRep.mono x1.g f2, by omega, by omega, fun p2 us2 G2 H2 x2 g2 r2 => ?_⟩
    have l1 := Paired.length r1
    have l2 := Paired.length r2
    rw [List.length_map] at l1 l2
    refine ⟨p1, p2, us1, us2, rfl, SqL.of (x2.sub _ _ (x2.g _ _ g1)), SqL.of (x2.sub _ _ g2), by omega, fun H3 p ts e3 np nts hp hl hts => ?_⟩
    have x3 : X0 G2 H2 (fun b => if b ∈ p :: ts then H3 b else G2 b) H3 := Xt.pubs x2.sub e3 fun b hb => by
      rcases List.mem_cons.mp hb with rfl | hb
      · exact np
      · exact nts b hb
    refine q p (ts.map V.ref) _ _ ((x1.trans x2).trans x3) ?_ ?_
    · show (if p ∈ p :: ts then H3 p else G2 p) = _
      rw [if_pos List.mem_cons_self]
      exact hp
    · refine zip_reps (Reps.mono (x2.g.trans x3.g) r1) (Reps.mono x3.g r2) hl fun j t x y e1 e2 e4 => ?_
      show (if t ∈ p :: ts then H3 t else G2 t) = _
      rw [if_pos (List.mem_cons_of_mem _ (List.mem_of_getElem? e1))]
      exact hts j t x y e1 e2 e4
  | row k =>
    refine sq_no (a_kind hk sG rfl rfl) (sq_yes (a_kind hk sG rfl rfl) ?_)
    obtain ⟨ka, kx, rfl, sk, k1⟩ := hk
    obtain ⟨a, c, y, rfl, ga, gc, f1⟩ := hf
    have hdd : k.dep + 1 ≤ d' + 1 := hd
    have tr := tot_row k ws
    have lensI : (ws.map fun r => V.int (r.length : Nat)) = (ws.map fun r => ((r.length : Nat) : Int)).map V.int := by rw [List.map_map]; rfl
    refine ⟨_, rfl, a, _, 0, _, rfl, rfl, SqT.of (sG _ _ ga), atI_nat (j := 0) rfl, ?_⟩
    refine ⟨_, rfl, ka, _, 1, _, rfl, rfl, sameT sG sk, atI_nat (j := 1) rfl, _, rfl, a, _, 1, _, rfl, rfl, SqT.of (sG _ _ ga), atI_nat (j := 1) rfl, ?_⟩
    refine ⟨_, rfl, a, _, 0, _, rfl, rfl, SqT.of (sG _ _ ga), atI_nat (j := 0) rfl, c, ws.map fun r => ((r.length : Nat) : Int), rfl, by rw [← lensI]; exact SqL.of (sG _ _ gc), ?_⟩
    refine ⟨G, k, ws.flatten, kx, y, _, rfl, sG, k1, f1, by omega, by omega, fun p1 us1 G1 H1 x1 g1 r1 => ?_⟩
    obtain ⟨vss, ev, rv⟩ := unflat ws r1
    have hl := Paired.length rv
    refine ⟨G1, c, p1, vss, rfl, x1.sub, by rw [lens_rows rv]; exact x1.same _ _ (sG _ _ gc), by rw [ev]; exact x1.sub _ _ g1, by omega, fun p rs G2 H2 x2 g2 r2 => ?_⟩
    exact q p rs _ _ (x1.trans x2) g2 (join_rows r2 (L2.Paired.mapP rv fun _ _ h => Reps.mono x2.g h))
theorem c_worths_of (T : Txt K mg) (c_parted : Cal P w K mg base 1 "parted" spParted []) : ∀ d, Cal P w K mg base (d + 2) "worths_of" (spWorthsBy K d) []
  | 0 => c_worths_of1 T c_parted fun _ h => nomatch h
  | d + 1 => c_worths_of1 T c_parted fun d' h => by
    cases h
    exact c_worths_of T c_parted d
/-! ### size -/
def spSize (d : Nat) : Sp := fun vs H Q _ => ∃ (G : Hp) (k : Kd) (u : Ty k) (x : V), vs = [x] ∧ Same G H ∧ Rep G k u x ∧ k.dep ≤ d ∧ ∀ i : Int, Q (.int i) H
abbrev N_size : List PySem.Str := ["worth", "total", "one"]
theorem sc_size : FnScope N_size ["worth"] (defScope s_size) := ⟨rfl, rfl, rfl, by decide +kernel, rfl, by decide +kernel, by decide +kernel⟩
theorem c_size1 {d : Nat} (T : Txt K mg) (c_size : ∀ d', d = d' + 1 → Cal P w K mg base d "size" (spSize d') []) : Cal P w K mg base (d + 1) "size" (spSize d) [] := by
  refine cal_of (d := d_size) T (mem_fn 3) rfl (mem_fa 3) rfl rfl sc_size (fun _ _ _ _ _ _ us hl => match us, hl with | [_], _ => rfl) (fun vs H Q E h => ?_) (fun cdv A outer s H vs Q E f hr h => ?_)
  · obtain ⟨G, k, u, x, rfl, _⟩ := h
    rfl
  obtain ⟨G, k, u, x, rfl, sG, hR, hd, q⟩ := h
  obtain ⟨d', rfl⟩ : ∃ d', d = d' + 1 := ⟨d - 1, by have := kd_pos k; omega⟩
  have c_size := c_size d' rfl
  cases k with
  | pair k l =>
    obtain ⟨a, y, z, rfl, ga, r1, r2⟩ := hR
    have hdd : max k.dep l.dep + 1 ≤ d' + 1 := hd
    refine ⟨_, (pss_cons (ps_if (pt_val (pe_callB k_isi rfl T.isinstance (by decide +kernel) (pa_cons (pv 0) (pa_cons (pe_bltn (v := .ty "int") rfl T.int (by decide +kernel) rfl) pa_nil)))) (pss_one (ps_ret pe_int)) pss_nil)
      (pss_cons (ps_set (i := 1) sc_size.nd rfl (.inl rfl) (e_int T.int (pe_callB k_isi rfl T.isinstance (by decide +kernel) (pa_cons (pv 0) (pa_cons (pe_bltn (v := .ty "list") rfl T.list (by decide +kernel) rfl) pa_nil)))))
      (pss_cons (ps_for PassesOwn.never rfl (pi_tup (pv 0)) (pg_name (i := 2) sc_size.nd rfl (.inl rfl)) (pss_one (ps_set (i := 1) sc_size.nd rfl (.inl rfl) (pe_op op_add (pv 1) (pe_c c_size hr (Nat.le_refl _) rfl (pa_cons (pv 2) pa_nil))))))
      (pss_one (ps_ret (pv 1)))))), ?_⟩
    refine ⟨_, rfl, _, _, _, _, false, rfl, .ty _, .base (.tup (sG _ _ ga)), kit_ty (by decide +kernel), false, rfl, iteF ?_⟩
    refine ⟨_, rfl, _, _, _, _, false, rfl, .ty _, .base (.tup (sG _ _ ga)), kit_ty (by decide +kernel), .inr ⟨false, rfl, ?_⟩⟩
    refine ⟨_, rfl, a, rfl, ⟨_, SqT.of (sG _ _ ga)⟩, ?_⟩
    refine for_tup (xs := [y, z]) (fun i σ H' => ∃ (o : Option V) (t : Int), σ = [some (.ref a), some (.int t), o] ∧ H' = H) ⟨none, _, rfl, rfl⟩ (fun i σ H' _ hv => ?_) (fun i v σ H' hx hv => ?_) fun σ H' hv => ?_
    · obtain ⟨o, t, _, rfl⟩ := hv
      exact SqT.of (sG _ _ ga)
    · obtain ⟨o, t, rfl, rfl⟩ := hv
      have hv : (v = y ∧ True) ∨ v = z := by
        rcases i with _ | _ | i
        · cases hx
          exact .inl ⟨rfl, trivial⟩
        · cases hx
          exact .inr rfl
        · simp at hx
      rcases hv with ⟨rfl, _⟩ | rfl
      · exact ⟨_, rfl, _, rfl, G, k, u.1, _, rfl, sG, r1, by omega, fun i => ⟨_, _, rfl, rfl, _, _, rfl, rfl⟩⟩
      · exact ⟨_, rfl, _, rfl, G, l, u.2, _, rfl, sG, r2, by omega, fun i => ⟨_, _, rfl, rfl, _, _, rfl, rfl⟩⟩
    · obtain ⟨o, t, rfl, rfl⟩ := hv
      exact ⟨_, rfl, q t⟩
  | row k =>
    obtain ⟨a, us, rfl, ga, hR⟩ := hR
    have hdd : k.dep + 1 ≤ d' + 1 := hd
    refine ⟨_, (pss_cons (ps_if (pt_val (pe_callB k_isi rfl T.isinstance (by decide +kernel) (pa_cons (pv 0) (pa_cons (pe_bltn (v := .ty "int") rfl T.int (by decide +kernel) rfl) pa_nil)))) (pss_one (ps_ret pe_int)) pss_nil)
      (pss_cons (ps_set (i := 1) sc_size.nd rfl (.inl rfl) (e_int T.int (pe_callB k_isi rfl T.isinstance (by decide +kernel) (pa_cons (pv 0) (pa_cons (pe_bltn (v := .ty "list") rfl T.list (by decide +kernel) rfl) pa_nil)))))
      (pss_cons (ps_for PassesOwn.never rfl (pi_list (pv 0)) (pg_name (i := 2) sc_size.nd rfl (.inl rfl)) (pss_one (ps_set (i := 1) sc_size.nd rfl (.inl rfl) (pe_op op_add (pv 1) (pe_c c_size hr (Nat.le_refl _) rfl (pa_cons (pv 2) pa_nil))))))
      (pss_one (ps_ret (pv 1)))))), ?_⟩
    refine ⟨_, rfl, _, _, _, _, false, rfl, .ty _, .base (.lst (sG _ _ ga)), kit_ty (by decide +kernel), false, rfl, iteF ?_⟩
    refine ⟨_, rfl, _, _, _, _, true, rfl, .ty _, .base (.lst (sG _ _ ga)), kit_ty (by decide +kernel), .inr ⟨true, rfl, ?_⟩⟩
    refine ⟨_, rfl, a, rfl, ⟨_, SqL.of (sG _ _ ga)⟩, ?_⟩
    refine for_list (xs := us) (fun i σ H' => ∃ (o : Option V) (t : Int), σ = [some (.ref a), some (.int t), o] ∧ H' = H) ⟨none, _, rfl, rfl⟩ (fun i σ H' _ hv => ?_) (fun i v σ H' hx hv => ?_) fun σ H' hv => ?_
    · obtain ⟨o, t, _, rfl⟩ := hv
      exact SqL.of (sG _ _ ga)
    · obtain ⟨o, t, rfl, rfl⟩ := hv
      obtain ⟨u1, _, r1⟩ := pr_getR hR hx
      exact ⟨_, rfl, _, rfl, G, k, u1, _, rfl, sG, r1, by omega, fun i => ⟨_, _, rfl, rfl, _, _, rfl, rfl⟩⟩
    · obtain ⟨o, t, rfl, rfl⟩ := hv
      exact ⟨_, rfl, q t⟩
  | num =>
    cases hR
    refine ⟨_, (pss_cons (ps_if (pt_val (pe_callB k_isi rfl T.isinstance (by decide +kernel) (pa_cons (pv 0) (pa_cons (pe_bltn (v := .ty "int") rfl T.int (by decide +kernel) rfl) pa_nil)))) (pss_one (ps_ret pe_int)) pss_nil) pss_never), ?_⟩
    exact ⟨_, rfl, _, _, _, _, true, rfl, .ty _, .base (.int u), kit_ty (by decide +kernel), true, rfl, iteT (q 1)⟩
  | truth =>
    cases hR
    refine ⟨_, (pss_cons (ps_if (pt_val (pe_callB k_isi rfl T.isinstance (by decide +kernel) (pa_cons (pv 0) (pa_cons (pe_bltn (v := .ty "int") rfl T.int (by decide +kernel) rfl) pa_nil)))) (pss_one (ps_ret pe_int)) pss_nil) pss_never), ?_⟩
    exact ⟨_, rfl, _, _, _, _, true, rfl, .ty _, .base (.bl u), kit_ty (by decide +kernel), true, rfl, iteT (q 1)⟩
theorem c_size (T : Txt K mg) : ∀ d, Cal P w K mg base (d + 1) "size" (spSize d) []
  | 0 => c_size1 T fun _ h => nomatch h
  | d + 1 => c_size1 T fun d' h => by
    cases h
    exact c_size T d
/-! ### copied -/
def spCopied (d : Nat) : Sp := fun vs H Q _ => ∃ (G : Hp) (k : Kd) (u : Ty k) (x : V), vs = [x] ∧ Same G H ∧ Rep G k u x ∧ wsz k u ≤ BIG ∧ k.dep ≤ d ∧ ∀ (v : V) (G' H' : Hp), X0 G H G' H' → Rep G' k u v → Q v H'
abbrev N_copied : List PySem.Str := ["worth", "some", "one"]
theorem sc_copied : FnScope N_copied ["worth"] (defScope s_copied) := ⟨rfl, rfl, rfl, by decide +kernel, rfl, by decide +kernel, by decide +kernel⟩
theorem c_copied1 {d : Nat} (T : Txt K mg) (c_copied : ∀ d', d = d' + 1 → Cal P w K mg base d "copied" (spCopied d') []) : Cal P w K mg base (d + 1) "copied" (spCopied d) [] := by
  refine cal_of (d := d_copied) T (mem_fn 38) rfl (mem_fa 38) rfl rfl sc_copied (fun _ _ _ _ _ _ us hl => match us, hl with | [_], _ => rfl) (fun vs H Q E h => ?_) (fun cdv A outer s H vs Q E f hr h => ?_)
  · obtain ⟨G, k, u, x, rfl, _⟩ := h
    rfl
  obtain ⟨G, k, u, x, rfl, sG, hR, hz, hd, q⟩ := h
  obtain ⟨d', rfl⟩ : ∃ d', d = d' + 1 := ⟨d - 1, by have := kd_pos k; omega⟩
  have c_copied := c_copied d' rfl
  cases k with
  | pair k l =>
    obtain ⟨a, y, z, rfl, ga, r1, r2⟩ := hR
    have hdd : max k.dep l.dep + 1 ≤ d' + 1 := hd
    have hz : wsz k u.1 + wsz l u.2 ≤ BIG := hz
    refine ⟨_, (pss_cons (ps_if (pt_val (pe_callB k_isi rfl T.isinstance (by decide +kernel) (pa_cons (pv 0) (pa_cons (pe_bltn (v := .ty "int") rfl T.int (by decide +kernel) rfl) pa_nil)))) (pss_one (ps_ret (pv 0))) pss_nil)
      (pss_cons (ps_setLc (i := 1) (own := [("one", 2)]) rfl sc_copied.nd rfl rfl (sw_true rfl rfl rfl (by decide +kernel)) (pi_tup (pv 0)) (blkOk_by (N := N_copied) (sc := defScope s_copied) (by decide +kernel)) (fun _ _ _ _ _ => (pg_name (i := 2) sc_copied.nd rfl (.inl rfl))) (fun _ _ _ _ _ => pts_nil) (fun _ _ _ _ _ => (pe_c c_copied hr (Nat.le_refl _) rfl (pa_cons (pv 2) pa_nil))))
      (pss_one (ps_ret (pe_ifExp (pt_val (pe_callB k_isi rfl T.isinstance (by decide +kernel) (pa_cons (pv 0) (pa_cons (pe_bltn (v := .ty "tuple") rfl T.tuple (by decide +kernel) rfl) pa_nil)))) (e_tuple T.tuple (pv 1)) (pv 1)))))), ?_⟩
    refine ⟨_, rfl, _, _, _, _, false, rfl, .ty _, .base (.tup (sG _ _ ga)), kit_ty (by decide +kernel), false, rfl, iteF ?_⟩
    refine ⟨_, rfl, a, rfl, ⟨_, SqT.of (sG _ _ ga)⟩, fun D nD => ?_⟩
    refine lc_gen (M := No) (G1 := G) (walk_tup (xs := [y, z])) (fun i acc G' _ => (i = 0 ∧ acc = []) ∨ (i = 1 ∧ ∃ v1, acc = [v1] ∧ Rep G' k u.1 v1) ∨ (i = 2 ∧ ∃ v1 v2, acc = [v1, v2] ∧ Rep G' k u.1 v1 ∧ Rep G' l u.2 v2)) sG (fun _ z => z.elim) nD (.inl ⟨rfl, rfl⟩) (fun i acc G' H' o z _ => z)
      (fun i acc G' H' e _ _ => SqT.of (e.same _ _ (sG _ _ ga))) (fun i acc v G' H' H'' Nx hi e hD gD hI hY k1 k2 => ?_) fun acc G' H' e hD gD hI => ?_
    · obtain ⟨rfl, hv⟩ := hY
      refine ⟨rfl, _, rfl, ?_⟩
      rcases hI with ⟨rfl, rfl⟩ | ⟨rfl, v1, rfl, h1⟩ | ⟨rfl, _⟩
      · cases hv
        exact ⟨G', k, u.1, _, rfl, e.sub, Rep.mono e.g r1, by omega, by omega, fun v G4 H4 x4 r => k1 v G4 H4 x4 (by show 0 < sizeLine; decide) (.inr (.inl ⟨rfl, v, rfl, r⟩))⟩
      · cases hv
        exact ⟨G', l, u.2, _, rfl, e.sub, Rep.mono e.g r2, by omega, by omega, fun v G4 H4 x4 r => k1 v G4 H4 x4 (by show 1 < sizeLine; decide) (.inr (.inr ⟨rfl, v1, v, rfl, Rep.mono x4.g h1, r⟩))⟩
      · exact absurd hi (by show ¬ 2 < 2; decide)
    · rcases hI with ⟨h, _⟩ | ⟨h, _⟩ | ⟨_, v1, v2, rfl, h1, h2⟩
      · cases h
      · cases h
      refine ⟨_, rfl, _, _, _, _, true, rfl, .ty _, .base (.tup (e.same _ _ (sG _ _ ga))), kit_ty (by decide +kernel), true, rfl, iteT ?_⟩
      refine ⟨_, rfl, D, [v1, v2], rfl, .inl ⟨SqL.of hD, fun t nt => ?_⟩⟩
      have x5 := Xt.new (M := No) (o := .tup [v1, v2]) e.sub nt
      exact q _ _ _ (e.trans x5) ⟨t, v1, v2, rfl, upd_same, Rep.mono x5.g h1, Rep.mono x5.g h2⟩
  | row k =>
    obtain ⟨a, us, rfl, ga, hR⟩ := hR
    have hdd : k.dep + 1 ≤ d' + 1 := hd
    rw [wsz_row] at hz
    have hl := Paired.length hR
    have ht := len_tot k u
    refine ⟨_, (pss_cons (ps_if (pt_val (pe_callB k_isi rfl T.isinstance (by decide +kernel) (pa_cons (pv 0) (pa_cons (pe_bltn (v := .ty "int") rfl T.int (by decide +kernel) rfl) pa_nil)))) (pss_one (ps_ret (pv 0))) pss_nil)
      (pss_cons (ps_setLc (i := 1) (own := [("one", 2)]) rfl sc_copied.nd rfl rfl (sw_true rfl rfl rfl (by decide +kernel)) (pi_list (pv 0)) (blkOk_by (N := N_copied) (sc := defScope s_copied) (by decide +kernel)) (fun _ _ _ _ _ => (pg_name (i := 2) sc_copied.nd rfl (.inl rfl))) (fun _ _ _ _ _ => pts_nil) (fun _ _ _ _ _ => (pe_c c_copied hr (Nat.le_refl _) rfl (pa_cons (pv 2) pa_nil))))
      (pss_one (ps_ret (pe_ifExp (pt_val (pe_callB k_isi rfl T.isinstance (by decide +kernel) (pa_cons (pv 0) (pa_cons (pe_bltn (v := .ty "tuple") rfl T.tuple (by decide +kernel) rfl) pa_nil)))) (e_tuple T.tuple (pv 1)) (pv 1)))))), ?_⟩
    refine ⟨_, rfl, _, _, _, _, false, rfl, .ty _, .base (.lst (sG _ _ ga)), kit_ty (by decide +kernel), false, rfl, iteF ?_⟩
    refine ⟨_, rfl, a, rfl, ⟨_, SqL.of (sG _ _ ga)⟩, fun D nD => ?_⟩
    refine lc_gen (M := No) (G1 := G) (walk_list (xs := us)) (fun i acc G' _ => Reps G' k (u.take i) acc) sG (fun _ z => z.elim) nD .nil (fun i acc G' H' o z _ => z)
      (fun i acc G' H' e _ _ => SqL.of (e.same _ _ (sG _ _ ga))) (fun i acc v G' H' H'' Nx hi e hD gD hI hY k1 k2 => ?_) fun acc G' H' e hD gD hI => ?_
    · obtain ⟨rfl, hv⟩ := hY
      obtain ⟨u1, hu1, r1⟩ := pr_getR hR hv
      have w1 : wsz k u1 ≤ tot k u := by
        have h1 := List.take_append_drop i u
        rw [drop_cons hu1] at h1
        rw [← h1, tot_app, tot_cons]
        omega
      refine ⟨rfl, _, rfl, G', k, u1, _, rfl, e.sub, Rep.mono e.g r1, by omega, by omega, fun v G4 H4 x4 r => k1 v G4 H4 x4 ?_ ?_⟩
      · have h1 := Paired.length hI
        rw [List.length_take] at h1
        exact big_lt (by omega)
      · rw [take_next hu1]
        exact pr_app (Reps.mono x4.g hI) (.cons r .nil)
    · rw [← hl, List.take_length] at hI
      refine ⟨_, rfl, _, _, _, _, false, rfl, .ty _, .base (.lst (e.same _ _ (sG _ _ ga))), kit_ty (by decide +kernel), false, rfl, iteF ?_⟩
      have x5 := e.pub nD hD
      exact ⟨_, rfl, q _ _ _ x5 ⟨D, acc, rfl, upd_same, Reps.mono (same_upd gD) hI⟩⟩
  | num =>
    cases hR
    refine ⟨_, (pss_cons (ps_if (pt_val (pe_callB k_isi rfl T.isinstance (by decide +kernel) (pa_cons (pv 0) (pa_cons (pe_bltn (v := .ty "int") rfl T.int (by decide +kernel) rfl) pa_nil)))) (pss_one (ps_ret (pv 0))) pss_nil) pss_never), ?_⟩
    exact ⟨_, rfl, _, _, _, _, true, rfl, .ty _, .base (.int u), kit_ty (by decide +kernel), true, rfl, iteT ⟨_, rfl, q _ _ _ (Xt.refl sG) rfl⟩⟩
  | truth =>
    cases hR
    refine ⟨_, (pss_cons (ps_if (pt_val (pe_callB k_isi rfl T.isinstance (by decide +kernel) (pa_cons (pv 0) (pa_cons (pe_bltn (v := .ty "int") rfl T.int (by decide +kernel) rfl) pa_nil)))) (pss_one (ps_ret (pv 0))) pss_nil) pss_never), ?_⟩
    exact ⟨_, rfl, _, _, _, _, true, rfl, .ty _, .base (.bl u), kit_ty (by decide +kernel), true, rfl, iteT ⟨_, rfl, q _ _ _ (Xt.refl sG) rfl⟩⟩
theorem c_copied (T : Txt K mg) : ∀ d, Cal P w K mg base (d + 1) "copied" (spCopied d) []
  | 0 => c_copied1 T fun _ h => nomatch h
  | d + 1 => c_copied1 T fun d' h => by
    cases h
    exact c_copied T d
end
end Bw
namespace Bw
open PySem PySem.Spec PySem.Calls PyProof.Rows L2
/-! ### a tuple's iterator, drawn from -/
theorem draws_tup {prog : Program} {w : World} {A : Around} (hh : A.handled = none) (it l : Addr) (hne : l ≠ it) (items : Array Value) :
    Draws prog w A it [it, l] items.size (fun i v => items[i]? = some v) (fun i h => h.IsTupleIter it l i ∧ h.IsTuple l items) where
  live := fun _ _ st => let ⟨o, ho, _⟩ := st.1; ⟨o, ho⟩
  frame := fun _ _ _ st hk => ⟨st.1.at fun o e => hk it (by simp) o e, st.2.at fun o e => hk l (by simp) o e⟩
  item := fun i s Q E hi st hQ => by
    refine RZ.nextOf_tuple_item st.1 st.2 (x := items[i]) (by simp [hi]) fun h' hit' hs' => ?_
    exact hQ _ h' s.toks (by simp [hi]) ⟨hit', st.2.at fun o e => hs'.extBut l o hne e⟩ hs'
  done := fun s Q E st hE => RZ.nextOf_tuple_end hh st.1 st.2 (by simp) hE
/-! ### zip of a tuple and a list -/
abbrev zA1 (h : Heap) (l1 : Addr) : Heap := h.push { cls := .type "tuple_iterator", data := .fields #[.ref l1, .int 0 0] }
abbrev zA2 (h : Heap) (l1 l2 : Addr) : Heap := (zA1 h l1).push { cls := .type "list_iterator", data := .fields #[.ref l2, .int 0 0] }
abbrev zA3 (h : Heap) (l1 l2 : Addr) : Heap := (zA2 h l1 l2).push { cls := .type "tuple", data := .seq #[.ref h.objs.size, .ref (zA1 h l1).objs.size] }
abbrev zA4 (h : Heap) (l1 l2 : Addr) : Heap := (zA3 h l1 l2).push { cls := .type "tuple", data := .seq #[.none, .none] }
abbrev zA5 (h : Heap) (l1 l2 : Addr) : Heap := (zA4 h l1 l2).push { cls := .type "zip", data := .fields #[.none, .bool false, .bool false, .ref (zA2 h l1 l2).objs.size, .ref (zA3 h l1 l2).objs.size] }
theorem new_zipTL (l1 l2 : Addr) (xs ys : Array Value) :
    Meets (Builtin.«zip.__new__» ⟨[.type "zip", .ref l1, .ref l2], []⟩) (fun _ R s => s.heap.IsTuple l1 xs ∧ s.heap.IsList l2 ys ∧
      R (.ok (.ret (.ref (zA4 s.heap l1 l2).objs.size))) { s with heap := zA5 s.heap l1 l2 }) :=
  .of_wp fun prog w A R s h => by
    obtain ⟨hp, g, d, tk, os⟩ := s; obtain ⟨hl1, hl2, h⟩ := h
    have hsub := sub_zip
    have hL1 : Heap.IsTuple (Shared.heap ⟨hp, g, d, tk, os⟩) l1 xs := hl1
    have hL2 : Heap.IsList (Shared.heap ⟨hp.push { cls := .type "tuple_iterator", data := .fields #[.ref l1, .int 0 0] }, g, d, tk, os⟩) l2 ys := Heap.IsList.push hl2 _
    wp_walk using wpAny_pyIter_tuple hL1, wpAny_pyIter_list hL2
    exact ⟨_, rfl, h⟩
section
variable {prog : Program} {w : World} {A : Around} {E : Value → Shared → Prop} {s : Shared}
theorem call_zipTL {l1 l2 : Addr} {xs ys : Array Value} {Q : Value → Shared → Prop} (hl1 : s.heap.IsTuple l1 xs) (hl2 : s.heap.IsList l2 ys)
    (h : ∀ h', IsZip h' (s.heap.objs.size + 4) (s.heap.objs.size + 2) (s.heap.objs.size + 3) .none → IsPair h' (s.heap.objs.size + 2) (.ref s.heap.objs.size) (.ref (s.heap.objs.size + 1)) →
      IsPair h' (s.heap.objs.size + 3) .none .none → h'.IsTupleIter s.heap.objs.size l1 0 → h'.IsListIter (s.heap.objs.size + 1) l2 0 → h'.objs.size = s.heap.objs.size + 5 →
      (∀ c o, s.heap.get? c = some o → h'.get? c = some o) → Q (.ref (s.heap.objs.size + 4)) { s with heap := h' }) :
    wpAny (model prog w) A (call (.type "zip") [.ref l1, .ref l2]) Q E s := by
  refine callType_new F.called_zip (by decide) (F.typeCall_zip_2 _ _) (F.newCall_zip_2 _ _) (fun obj => F.args_object_init_3 obj _ _) F.entry_zip_new
    (new_zipTL l1 l2 xs ys) ⟨hl1, hl2, ?_⟩
  have z1 : (zA1 s.heap l1).objs.size = s.heap.objs.size + 1 := Heap.size_push ..
  have z2 : (zA2 s.heap l1 l2).objs.size = s.heap.objs.size + 2 := by rw [Heap.size_push, z1]
  have z3 : (zA3 s.heap l1 l2).objs.size = s.heap.objs.size + 3 := by rw [Heap.size_push, z2]
  have z4 : (zA4 s.heap l1 l2).objs.size = s.heap.objs.size + 4 := by rw [Heap.size_push, z3]
  have z5 : (zA5 s.heap l1 l2).objs.size = s.heap.objs.size + 5 := by rw [Heap.size_push, z4]
  have g5 : (zA5 s.heap l1 l2).get? (zA4 s.heap l1 l2).objs.size = some _ := Heap.get?_push_size _ rfl
  have g4 : (zA5 s.heap l1 l2).get? (zA3 s.heap l1 l2).objs.size = some _ := Heap.get?_push_of_some _ (Heap.get?_push_size _ rfl)
  have g3 : (zA5 s.heap l1 l2).get? (zA2 s.heap l1 l2).objs.size = some _ := Heap.get?_push_of_some _ (Heap.get?_push_of_some _ (Heap.get?_push_size _ rfl))
  have g2 : (zA5 s.heap l1 l2).get? (zA1 s.heap l1).objs.size = some _ := Heap.get?_push_of_some _ (Heap.get?_push_of_some _ (Heap.get?_push_of_some _ (Heap.get?_push_size _ rfl)))
  have g1 : (zA5 s.heap l1 l2).get? s.heap.objs.size = some _ := Heap.get?_push_of_some _ (Heap.get?_push_of_some _ (Heap.get?_push_of_some _ (Heap.get?_push_of_some _ (Heap.get?_push_size _ rfl))))
  show _ ∧ _
  rw [z2, z3, z4] at g5
  rw [z1, z2] at g3
  rw [z3] at g4
  rw [z1] at g2
  rw [z4]
  exact ⟨⟨_, g5, rfl⟩, h _ g5 g3 g4 ⟨_, g1, rfl, rfl⟩ ⟨_, g2, rfl, rfl⟩ z5 fun c o x =>
    Heap.get?_push_of_some _ (Heap.get?_push_of_some _ (Heap.get?_push_of_some _ (Heap.get?_push_of_some _ (Heap.get?_push_of_some _ x))))⟩
end
theorem sep_of {z TI TO i1 i2 a b : Addr} (D : ZipApart z TI TO i1 i2 a b) : ZipSep2 z TI TO i1 i2 [i1, a] [i2, b] where
  TIz := D.TIz
  TOz := D.TOz
  TITO := D.TITO
  TIi1 := D.TIi1
  mem1 := by simp
  zf1 := by simp [D.i1z.symm, D.l1z.symm]
  Tf1 := by simp [D.TOi1, D.l1TO.symm]
  TIi2 := D.TIi2
  mem2 := by simp
  zf2 := by simp [D.i2z.symm, D.l2z.symm]
  Tf2 := by simp [D.TOi2, D.l2TO.symm]
  sep1_2 := by simp [D.i12, D.l2i1.symm]
  sep2_1 := by simp [D.i12.symm, D.l1i2.symm]
def ItzM (K : PySem.W.Frag) (a b : Addr) : It :=
  ⟨fun i H => ∃ (xs ys : List V) (x y : V), SqT K H a xs ∧ SqL K H b ys ∧ xs[i]? = some x ∧ ys[i]? = some y,
    fun i H v H' => ∃ T x y, v = .ref T ∧ H T = none ∧ H' = upd H T (.tup [x, y]) ∧ (∀ xs, SqT K H a xs → xs[i]? = some x) ∧ ∀ ys, SqL K H b ys → ys[i]? = some y,
    fun i H => ∃ xs ys : List V, SqT K H a xs ∧ SqL K H b ys ∧ xs.length = ys.length ∧ xs.length = i⟩
theorem turn_zipTL {P : Program} {w : World} {K : PySem.W.Frag} {elts : List Expr} {kk : Nat} {tpos : Pos} {a b z TI TO i1 i2 : Addr} (D : ZipApart z TI TO i1 i2 a b) :
    Turn P w K (.Tuple elts kk tpos) (ItzM K a b) [z, TI, TO, i1, i2] z (fun i h => IsZip h z TI TO .none ∧ IsPair h TI (.ref i1) (.ref i2) ∧ (∃ x y, IsPair h TO x y) ∧ h.IsTupleIter i1 a i ∧ h.IsListIter i2 b i) where
  mem := by simp
  obj := fun i h st c hc => by
    obtain ⟨hz, hTI, ⟨x, y, hTO⟩, ⟨o1, e1, _, d1⟩, ⟨o2, e2, _, d2⟩⟩ := st
    have e' : c = z ∨ c = TI ∨ c = TO ∨ c = i1 ∨ c = i2 := by simpa using hc
    rcases e' with q | q | q | q | q
    · rw [q]; exact ⟨_, hz, fun v q => nomatch q⟩
    · rw [q]; exact ⟨_, hTI, fun v q => nomatch q⟩
    · rw [q]; exact ⟨_, hTO, fun v q => nomatch q⟩
    · rw [q]; exact ⟨o1, e1, fun v q => by rw [d1] at q; cases q⟩
    · rw [q]; exact ⟨o2, e2, fun v q => by rw [d2] at q; cases q⟩
  keep := fun i h h' st k => by
    obtain ⟨hz, hTI, ⟨x, y, hTO⟩, h1, h2⟩ := st
    exact ⟨k z (by simp) _ hz, k TI (by simp) _ hTI, ⟨x, y, k TO (by simp) _ hTO⟩, h1.at fun o q => k i1 (by simp) o q, h2.at fun o q => k i2 (by simp) o q⟩
  item := by
    intro X hP hw hK hc i pins s σ H E I hf st hg
    subst hP hw hK
    obtain ⟨hz, hTI, ⟨x0, y0, hTO⟩, h1, h2⟩ := st
    obtain ⟨xs, ys, x, y, hqx, hqy, hx, hy⟩ := hg
    obtain ⟨its, rv, p, _⟩ := I.tuple hqx
    obtain ⟨its2, rv2, p2, _⟩ := I.list hqy
    obtain ⟨u, hu, ru⟩ := rv.get hx
    obtain ⟨u2, hu2, ru2⟩ := rv2.get hy
    have hzl : z < s.heap.objs.size := Heap.lt_size hz
    have hh1 : X.A.in1.handled = none := I.ok.hd hc
    have s1 : i < its.toArray.size := by rw [List.size_toArray]; exact (List.getElem?_eq_some_iff.mp hu).1
    have s2 : i < its2.toArray.size := by rw [List.size_toArray]; exact (List.getElem?_eq_some_iff.mp hu2).1
    refine wpAny_pyNext_zipD2_item (sep_of D) (draws_tup hh1 i1 a D.l1i1 its.toArray) (Draws.list hh1 i2 b D.l2i2 its2.toArray) hz hTI hTO ⟨h1, p⟩ ⟨h2, p2.isList⟩ s1 s2 fun v1 v2 h' tk e1 e2 z' TO' h1' h2' hT hsz hk => ?_
    have e1 : its[i]? = some v1 := by simpa using e1
    have e2 : its2[i]? = some v2 := by simpa using e2
    rw [hu] at e1
    rw [hu2] at e2
    cases e1
    cases e2
    refine ⟨_, rfl, wpAny_letOwnedTupleGo_zip (s := { s with heap := h', toks := tk }) z' fun h'' z'' sb => ?_⟩
    have hT2 : h''.get? s.heap.objs.size = some { cls := .type "tuple", data := .seq #[u, u2] } := (sb.2 _ (Nat.ne_of_gt hzl)).trans hT
    have new : ObjOk X.prog X.w (upd H s.heap.objs.size (.tup [x, y])) h'' s.heap.objs.size (.tup [x, y]) :=
      ⟨by show 2 ≤ sizeLine; decide, [u, u2], .cons ru (.cons ru2 .nil), ⟨_, hT2, rfl, _, rfl⟩⟩
    have I1 : Inv X pins σ (upd H s.heap.objs.size (.tup [x, y])) { s with heap := h'', toks := tk } :=
      I.turnedNew (t' := tk) (ch := [z, TI, TO, i1, i2]) (fun c o hb q => (sb.2 c (fun q' => hb (by simp [q']))).trans (hk c o (fun q' => hb (by simp [q'])) (fun q' => hb (by simp [q'])) (fun q' => hb (by simp [q'])) (fun q' => hb (by simp [q'])) q)) hf (Nat.le_refl _) new
    refine ⟨.ref s.heap.objs.size, _, I1, rfl, ⟨_, x, y, rfl, I.hok.fresh (Nat.le_refl _), rfl, fun l hl => by rw [I.tuple_inj hl hqx]; exact hx, fun l hl => by rw [I.list_inj hl hqy]; exact hy⟩, ⟨z'', ?_, ⟨u, u2, ?_⟩, ?_, ?_⟩, fun c hcm => ?_⟩
    · exact (sb.2 _ D.TIz).trans (hk _ _ D.TIz D.TITO D.TIi1 D.TIi2 hTI)
    · exact (sb.2 _ D.TOz).trans TO'
    · exact h1'.1.at fun o q => (sb.2 _ D.i1z).trans q
    · exact h2'.1.at fun o q => (sb.2 _ D.i2z).trans q
    · have hlt : c < s.heap.objs.size := by
        have e' : c = z ∨ c = TI ∨ c = TO ∨ c = i1 ∨ c = i2 := by simpa using hcm
        rcases e' with q | q | q | q | q
        · rw [q]; exact hzl
        · rw [q]; exact Heap.lt_size hTI
        · rw [q]; exact Heap.lt_size hTO
        · rw [q]; obtain ⟨_, e1, _⟩ := h1; exact Heap.lt_size e1
        · rw [q]; obtain ⟨_, e2, _⟩ := h2; exact Heap.lt_size e2
      rw [upd_ne (Nat.ne_of_lt hlt)]
      exact (hf c hcm).1
  done := by
    intro X hP hw hK hc i pins s σ H E I hf st hg
    subst hP hw hK
    obtain ⟨hz, hTI, ⟨x0, y0, hTO⟩, h1, h2⟩ := st
    obtain ⟨xs, ys, hqx, hqy, hl, hend⟩ := hg
    obtain ⟨its, rv, p, _⟩ := I.tuple hqx
    obtain ⟨its2, rv2, p2, _⟩ := I.list hqy
    have l1 := rv.length
    have l2 := rv2.length
    have hh1 : X.A.in1.handled = none := I.ok.hd hc
    have z1 : its.toArray.size = i := by rw [List.size_toArray]; omega
    have z2 : its2.toArray.size = i := by rw [List.size_toArray]; omega
    exact wpAny_pyNext_zipD2_end (sep_of D) (draws_tup hh1 i1 a D.l1i1 its.toArray) (Draws.list hh1 i2 b D.l2i2 its2.toArray) hz hTI hTO ⟨h1, p⟩ ⟨h2, p2.isList⟩ (by omega) (by omega) (.inl z1.symm) fun h' tk hk => ⟨rfl, I.turnedL (t' := tk) (ch := [z, TI, TO, i1, i2]) (fun c o hb q =>
      hk c o (fun q' => hb (by simp [q'])) (fun q' => hb (by simp [q'])) (fun q' => hb (by simp [q'])) (fun q' => hb (by simp [q'])) q) hf⟩
  self := fun A i s Q E st h => wpAny_pyIter_zip st.1 h
def iZipM (K : PySem.W.Frag) (ta : TA) : TI := fun σ H R => ta σ H fun vs H1 => ∃ a b xs ys, vs = [.ref a, .ref b] ∧ SqT K H1 a xs ∧ SqL K H1 b ys ∧ R (ItzM K a b) H1
theorem pi_zipTL {X : Cx} {e e2 : Expr} {ta : TA} {p pos tpos : Pos} {elts : List Expr} {kk : Nat} (hg : Gl X "zip") (hm : X.mg "zip" = none) (ha : PA X [e, e2] ta)
    (hs : starEach [e, e2] X.env = (false, eval e X.env) :: starEach [e2] X.env := by rfl) (hpl : (backTo pos (starEach [e2] X.env)).any (·.1) = false := by rfl) :
    PI X (.Tuple elts kk tpos) (.Call (.Name "zip" p) [e, e2] [] pos) (iZipM X.K ta) := by
  refine ⟨fun pins s σ H R I h => ?_⟩
  refine Call_ (ld_blt I hg hm PyProof.Rows.boot_zip (PyProof.Rows.callWith_type1 (thn (ha.run pos pins s σ H _ I h) fun us s1 ⟨vs, H1, I1, r1, q1⟩ => ?_) hs hpl))
  obtain ⟨a, b, xs, ys, ex, hqx, hqy, q⟩ := q1
  subst ex
  cases r1 with
  | cons r rr =>
    cases rr with
    | cons r' rr =>
      cases rr
      cases r
      cases r'
      obtain ⟨its, rv, p1, _⟩ := I1.tuple hqx
      obtain ⟨its2, rv2, p2, _⟩ := I1.list hqy
      obtain ⟨o1, ho1, _⟩ := id p1
      refine call_zipTL p1 p2.isList fun h' hz hTI hTO h1 h2 hsz hk => wpAny_pyIter_zip hz ?_
      have I2 : Inv X pins σ H1 { s1 with heap := h' } := I1.kept (t' := s1.toks) hk
      refine ⟨s1.heap.objs.size + 4, [s1.heap.objs.size + 4, s1.heap.objs.size + 2, s1.heap.objs.size + 3, s1.heap.objs.size, s1.heap.objs.size + 1], _, _, H1, rfl, I2, turn_zipTL (PySem.W.ktu_apart s1.heap.objs.size a b (Heap.lt_size ho1) p2.lt), ⟨hz, hTI, ⟨_, _, hTO⟩, h1, h2⟩, fun c hcm => ?_, q⟩
      have e' : c = s1.heap.objs.size + 4 ∨ c = s1.heap.objs.size + 2 ∨ c = s1.heap.objs.size + 3 ∨ c = s1.heap.objs.size ∨ c = s1.heap.objs.size + 1 := by simpa using hcm
      have hle : s1.heap.objs.size ≤ c := by
        rcases e' with z | z | z | z | z
        · rw [z]; exact Nat.le_add_right _ _
        · rw [z]; exact Nat.le_add_right _ _
        · rw [z]; exact Nat.le_add_right _ _
        · rw [z]; exact Nat.le_refl _
        · rw [z]; exact Nat.le_add_right _ _
      exact I1.fpOk hle (I1.hok.fresh hle)
/-! ### enumerate of a tuple -/
theorem new_enumT (l : Addr) (items : Array Value) :
    Meets (Builtin.«enumerate.__new__» ⟨[.type "enumerate", .ref l], []⟩) (fun _ R s => s.heap.IsTuple l items ∧
      R (.ok (.ret (.ref (s.heap.push { cls := .type "tuple_iterator", data := .fields #[.ref l, .int 0 0] }).objs.size)))
        { s with heap := (s.heap.push { cls := .type "tuple_iterator", data := .fields #[.ref l, .int 0 0] }).push { cls := .type "enumerate", data := .fields #[.none, .bool false, .ref s.heap.objs.size, rawInt 0, .none, .none] } }) :=
  .of_wp fun prog w A R s h => by
    obtain ⟨hp, g, d, tk, os⟩ := s; obtain ⟨hl, h⟩ := h
    have hsub := sub_enumerate
    have hL : Heap.IsTuple (Shared.heap ⟨hp, g, d, tk, os⟩) l items := hl
    wp_walk
    refine wpAny_stack_any fun st => wpAny_pure ?_
    split
    · rename_i c _ _ _ _ _
      cases (c == Value.type "enumerate")
      · wp_walk using wpAny_pyIter_tuple hL
        exact ⟨_, rfl, h⟩
      · wp_walk using wpAny_pyIter_tuple hL
        exact ⟨_, rfl, h⟩
    · wp_walk using wpAny_pyIter_tuple hL
      exact ⟨_, rfl, h⟩
section
variable {prog : Program} {w : World} {A : Around} {E : Value → Shared → Prop} {s : Shared}
theorem call_enumT {l : Addr} {items : Array Value} {Q : Value → Shared → Prop} (hL : s.heap.IsTuple l items)
    (h : ∀ h', IsEnum h' (s.heap.objs.size + 1) s.heap.objs.size 0 .none → h'.IsTupleIter s.heap.objs.size l 0 → h'.objs.size = s.heap.objs.size + 2 →
      (∀ b o, s.heap.get? b = some o → h'.get? b = some o) → Q (.ref (s.heap.objs.size + 1)) { s with heap := h' }) :
    wpAny (model prog w) A (call (.type "enumerate") [.ref l]) Q E s := by
  refine callType_new F.called_enumerate (by decide) (F.typeCall_enumerate_1 _) (F.newCall_enumerate_1 _) (fun obj => F.args_object_init_2 obj _) F.entry_enumerate_new (new_enumT l items) ⟨hL, ?_⟩
  have hz : (s.heap.push { cls := .type "tuple_iterator", data := .fields #[.ref l, .int 0 0] }).objs.size = s.heap.objs.size + 1 := Heap.size_push ..
  show _ ∧ _
  rw [hz]
  have he : IsEnum ((s.heap.push { cls := .type "tuple_iterator", data := .fields #[.ref l, .int 0 0] }).push
      { cls := .type "enumerate", data := .fields #[.none, .bool false, .ref s.heap.objs.size, rawInt 0, .none, .none] }) (s.heap.objs.size + 1) s.heap.objs.size 0 .none := by
    have := Heap.get?_push_size (s.heap.push { cls := .type "tuple_iterator", data := .fields #[.ref l, .int 0 0] })
      (o := { cls := .type "enumerate", data := .fields #[.none, .bool false, .ref s.heap.objs.size, rawInt 0, .none, .none] }) rfl
    rw [hz] at this; exact this
  refine ⟨⟨_, he, rfl⟩, h _ he ⟨_, Heap.get?_push_of_some _ (Heap.get?_push_size _ rfl), rfl, rfl⟩ (by rw [Heap.size_push, hz]) fun b o x => Heap.get?_push_of_some _ (Heap.get?_push_of_some _ x)⟩
end
def IteT (K : PySem.W.Frag) (a : Addr) : It :=
  ⟨fun i H => ∃ (xs : List V) (x : V), SqT K H a xs ∧ xs[i]? = some x, fun i H v H' => ∃ T x, v = .ref T ∧ H T = none ∧ H' = upd H T (.tup [.int (i : Nat), x]) ∧ ∀ xs, SqT K H a xs → xs[i]? = some x, fun i H => ∃ xs : List V, SqT K H a xs ∧ xs.length = i⟩
theorem turn_enumT {P : Program} {w : World} {K : PySem.W.Frag} {elts : List Expr} {kk : Nat} {tpos : Pos} (a e it : Addr) (hae : a ≠ e) (hai : a ≠ it) :
    Turn P w K (.Tuple elts kk tpos) (IteT K a) [e, it] e (fun i h => (∃ old, IsEnum h e it ((i : Nat) : Int) old) ∧ h.IsTupleIter it a i ∧ e ≠ it) where
  mem := by simp
  obj := fun i h st b hb => by
    obtain ⟨⟨old, he⟩, ⟨o, ho, hc, hd⟩, _⟩ := st
    have e' : b = e ∨ b = it := by simpa using hb
    rcases e' with z | z
    · rw [z]; exact ⟨_, he, fun v q => nomatch q⟩
    · rw [z]; exact ⟨o, ho, fun v q => by rw [hd] at q; cases q⟩
  keep := fun i h h' st k => let ⟨⟨old, he⟩, hi, hne⟩ := st; ⟨⟨old, k e (by simp) _ he⟩, hi.at fun o q => k it (by simp) o q, hne⟩
  item := by
    intro X hP hw hK hc i pins s σ H E I hf st hg
    subst hP hw hK
    obtain ⟨⟨old, he⟩, hit, hne⟩ := st
    obtain ⟨xs, x, hq, hx⟩ := hg
    obtain ⟨its, rv, p, hz⟩ := I.tuple hq
    obtain ⟨u, hu, ru⟩ := rv.get hx
    have hel : e < s.heap.objs.size := Heap.lt_size he
    have hil : it < s.heap.objs.size := by obtain ⟨_, q, _⟩ := hit; exact Heap.lt_size q
    have hh1 : X.A.in1.handled = none := I.ok.hd hc
    have s1 : i < its.toArray.size := by rw [List.size_toArray]; exact (List.getElem?_eq_some_iff.mp hu).1
    refine wpAny_pyNext_enum_itemD (draws_tup hh1 it a hai its.toArray) he ⟨hit, p⟩ s1 hne (by simp [hne, hae.symm]) fun v h' tk ev ho st' hT hsz hk => ?_
    have ev : its[i]? = some v := by simpa using ev
    rw [hu] at ev
    cases ev
    refine ⟨_, rfl, wpAny_letOwnedTupleGo_enum (s := { s with heap := h', toks := tk + 1 }) ho fun h'' he' sb => ?_⟩
    have hT2 : h''.get? s.heap.objs.size = some { cls := .type "tuple", data := .seq #[.int i tk, u] } := (sb.2 _ (Nat.ne_of_gt hel)).trans hT
    have new : ObjOk X.prog X.w (upd H s.heap.objs.size (.tup [.int (i : Nat), x])) h'' s.heap.objs.size (.tup [.int (i : Nat), x]) :=
      ⟨by show 2 ≤ sizeLine; decide, [.int i tk, u], .cons ⟨_, rfl⟩ (.cons ru .nil), ⟨_, hT2, rfl, _, rfl⟩⟩
    have I1 : Inv X pins σ (upd H s.heap.objs.size (.tup [.int (i : Nat), x])) { s with heap := h'', toks := tk + 1 } :=
      I.turnedNew (ch := [e, it]) (fun b ob hb q => (sb.2 b (fun z => hb (by simp [z]))).trans (hk b ob (fun z => hb (by simp [z])) (fun z => hb (by simp [z])) q)) hf (Nat.le_refl _) new
    refine ⟨.ref s.heap.objs.size, _, I1, rfl, ⟨_, x, rfl, I.hok.fresh (Nat.le_refl _), rfl, fun ys hy => by rw [I.tuple_inj hy hq]; exact hx⟩, ⟨⟨u, ?_⟩, st'.1.at fun o q => (sb.2 it (Ne.symm hne)).trans q, hne⟩, fun b hb => ?_⟩
    · have e1 : ((i + 1 : Nat) : Int) = (i : Int) + 1 := by omega
      rw [e1]; exact he'
    · have hb' : b < s.heap.objs.size := by
        have e' : b = e ∨ b = it := by simpa using hb
        rcases e' with z | z
        · rw [z]; exact hel
        · rw [z]; exact hil
      rw [upd_ne (Nat.ne_of_lt hb')]
      exact (hf b hb).1
  done := by
    intro X hP hw hK hc i pins s σ H E I hf st hg
    subst hP hw hK
    obtain ⟨⟨old, he⟩, hit, hne⟩ := st
    obtain ⟨xs, hq, hx⟩ := hg
    obtain ⟨its, rv, p, hz⟩ := I.tuple hq
    obtain ⟨f0, f1, f2, f3, f4, f5⟩ := hf it (by simp)
    have hl := rv.length
    have hh1 : X.A.in1.handled = none := I.ok.hd hc
    have z1 : its.toArray.size = i := by rw [List.size_toArray]; omega
    subst z1
    exact wpAny_pyNext_enum_endD (draws_tup hh1 it a hai its.toArray) he ⟨hit, p⟩ fun h' eb => ⟨rfl, I.turned (t' := s.toks) (fun b o hb q => eb b o hb q) f0 f1 f3 f4 f5⟩
  self := fun A i s Q E st h => let ⟨⟨_, he⟩, _⟩ := st; wpAny_pyIter_enum he h
def iEnumT (K : PySem.W.Frag) (ta : TA) : TI := fun σ H R => ta σ H fun vs H1 => ∃ a xs, vs = [.ref a] ∧ SqT K H1 a xs ∧ R (IteT K a) H1
theorem pi_enumT {X : Cx} {e : Expr} {ta : TA} {p pos tpos : Pos} {elts : List Expr} {kk : Nat} (hg : Gl X "enumerate") (hm : X.mg "enumerate" = none) (ha : PA X [e] ta) (hs : starEach [e] X.env = [(false, eval e X.env)] := by rfl) :
    PI X (.Tuple elts kk tpos) (.Call (.Name "enumerate" p) [e] [] pos) (iEnumT X.K ta) := by
  refine ⟨fun pins s σ H R I h => ?_⟩
  refine Call_ (ld_blt I hg hm boot_enumerate (PyProof.Rows.callWith_type1 (thn (ha.run pos pins s σ H _ I h) fun us s1 ⟨vs, H1, I1, r1, q1⟩ => ?_) hs rfl))
  obtain ⟨a, xs, ex, hq, q⟩ := q1
  subst ex
  cases r1 with
  | cons r rr =>
    cases rr
    cases r
    obtain ⟨its, rv, p', hz⟩ := I1.tuple hq
    obtain ⟨o1, ho1, _⟩ := id p'
    have hlt := Heap.lt_size ho1
    refine call_enumT p' fun h' he hit hsz hk => wpAny_pyIter_enum he ?_
    have I2 : Inv X pins σ H1 { s1 with heap := h' } := I1.kept (t' := s1.toks) hk
    refine ⟨s1.heap.objs.size + 1, [s1.heap.objs.size + 1, s1.heap.objs.size], _, _, H1, rfl, I2, turn_enumT a (s1.heap.objs.size + 1) s1.heap.objs.size (Nat.ne_of_lt (Nat.lt_succ_of_lt hlt)) (Nat.ne_of_lt hlt), ⟨⟨.none, he⟩, hit, Nat.succ_ne_self _⟩, fun b hb => ?_, q⟩
    have e' : b = s1.heap.objs.size + 1 ∨ b = s1.heap.objs.size := by simpa using hb
    have hle : s1.heap.objs.size ≤ b := by
      rcases e' with z | z
      · rw [z]; exact Nat.le_add_right _ _
      · rw [z]; exact Nat.le_refl _
    exact I1.fpOk hle (I1.hok.fresh hle)
/-! ### the dict whose key is a tuple of two empty tuples -/
def NKey (K : PySem.W.Frag) (H : Hp) (y : V) : Prop := ∃ t p q, y = .ref t ∧ SqT K H t [.ref p, .ref q] ∧ SqT K H p [] ∧ SqT K H q []
def nkey : NestedKey := .tup [.tup [], .tup []]
section
variable {X : Cx} {pins : List (Addr × Obj)} {σ : L2.St} {H : Hp} {s : Shared}
theorem nest_nil (I : Inv X pins σ H s) {p : Addr} (h : SqT X.K H p []) : NestedIs s.heap (.tup []) (.ref p) := by
  obtain ⟨its, rv, ⟨o, ho, hc, n, hd⟩, _⟩ := I.tuple h
  cases rv
  exact .tup ho hc hd .nil
theorem nkey_of (I : Inv X pins σ H s) {y : V} {u : Value} (k : NKey X.K H y) (ry : RelV y u) : ∃ t, u = .ref t ∧ (nestedKind X.prog X.w).is s.heap nkey t := by
  obtain ⟨t, p, q, rfl, ht, hp, hq⟩ := k
  cases ry
  obtain ⟨its, rv, ⟨o, ho, hc, n, hd⟩, _⟩ := I.tuple ht
  cases rv with
  | cons r1 rr =>
    cases rr with
    | cons r2 rr =>
      cases rr
      cases r1
      cases r2
      exact ⟨t, rfl, .tup ho hc hd (.cons (nest_nil I hp) (.cons (nest_nil I hq) .nil)), by decide⟩
theorem keyed_of (I : Inv X pins σ H s) {a : Addr} (e : H a = some (.dT [])) : (a == sysModules) = false ∧ s.heap.DictKeyed (nestedKind X.prog X.w) a [] := by
  obtain ⟨z, hd, xs, rel, o, es, ep, h1, h2, h3, h4, _, h5⟩ := dt_of I.hok e
  cases rel
  exact ⟨hd, [], ⟨o, es, ep, h1, h2, h3, h4, (fun _ hx => nomatch hx), List.nodup_nil⟩, rfl⟩
end
/-- d.get(k, x) of the empty dict -/
def tNGet (K : PySem.W.Frag) (td ty tx : TE) : TE := fun σ H Q => td σ H fun x H1 => ∃ a, x = .ref a ∧ H1 a = some (.dT []) ∧ ty σ H1 fun y H2 => tx σ H2 fun z H3 => H3 a = some (.dT []) ∧ NKey K H3 y ∧ Q z H3
theorem pe_nget {X : Cx} {o e f : Expr} {apos cpos : Pos} {td ty tx : TE} (hu : X.A.units + 64 < cLine) (ho : PE X o td) (he : PE X e ty) (hf : PE X f tx) (m : M2 X o "get" apos e f cpos) : PE X (.Call (.Attribute o "get" apos) [e, f] [] cpos) (tNGet X.K td ty tx) := by
  refine ⟨fun pins s σ H Q I h => ?_⟩
  refine wpAny_Call_method m.base m.few m.line PySem.F.plainAttrs_dict PySem.F.slot_dict_get PySem.F.type_dict_get (thn (ho.run pins s σ H _ I h) fun u s1 ⟨x, H1, I1, rx, a, ex, d, q1⟩ => ?_)
  subst ex
  obtain rfl : u = Value.ref a := rx
  obtain ⟨t1, t2, _⟩ := isD_at I1 (.inr ⟨[], .inl d⟩)
  refine ⟨t1, t2, ?_⟩
  rw [m.trees]
  refine Calls.callWith_builtin rfl (Calls.evalArgs_plain (Calls.spliced_cons (thn (he.run pins s1 σ H1 _ I1 q1) fun iv s2 ⟨y, H2, I2, ry, q2⟩ =>
    Calls.spliced_cons (thn (hf.run pins s2 σ H2 _ I2 q2) fun fv s3 ⟨z, H3, I3, rz, d3, nk, q3⟩ => Calls.spliced_nil ?_))))
  obtain ⟨t, rfl, hk⟩ := nkey_of I3 nk ry
  obtain ⟨hd, hD⟩ := keyed_of I3 d3
  refine getOr_keyed (knd := nestedKind X.prog X.w) (show X.A.units + 1 + 8 < cLine by omega) hk hd hD ?_
  exact ⟨z, H3, I3.tok _, rz, q3⟩
/-- d[k] = v of the empty dict: the dict is of no more account -/
def NDict (a : Addr) : HO := .ext fun h => ∃ o, h.get? a = some o
def rSetN (K : PySem.W.Frag) : TSet := fun o i v H Q => ∃ a, o = .ref a ∧ H a = some (.dT []) ∧ NKey K H i ∧ Q (upd H a (NDict a))
theorem set_nest {X : Cx} (hu : X.A.units + 64 < cLine) : PSet X (rSetN X.K) := by
  intro pins s σ H o i v ov iv u Q I ro ri rv h
  obtain ⟨a, rfl, e, nk, q⟩ := h
  cases ro
  obtain ⟨t, rfl, hk⟩ := nkey_of I nk ri
  obtain ⟨hd, hD⟩ := keyed_of I e
  refine setItem_keyed (knd := nestedKind X.prog X.w) (show X.A.units + 1 + 8 < cLine by omega) hk hD (fun h' hD' hs => ?_) (Nat.zero_le _)
  obtain ⟨xs, ⟨o, es, ep, ho, _⟩, _⟩ := hD'
  have new : ObjOk X.prog X.w (upd H a (NDict a)) h' a (NDict a) := ⟨⟨o, ho⟩, ⟨o, ho⟩, fun h1 h2 z k => let ⟨o, ho⟩ := z; ⟨o, k o ho⟩⟩
  exact ⟨_, d_write I (by rw [e]; exact True.intro) hs ⟨o, ho⟩ new, q⟩
/-! ### a method call, what is raised wished for at the caller's slots -/
def tMethS (C : Addr) (m : Str) (sp : Sp) (dvs : List V) (E : L2.St → XK) (ta : TE) (t : TA) : TE := fun σ H Q => ta σ H fun x H1 => ∃ a dx fs, x = .ref a ∧ H1 a = some (.ins C dx fs) ∧ fs.lookup m = none ∧ t σ H1 fun vs H2 => sp (x :: (vs ++ dvs)) H2 Q (E σ)
theorem pe_methS {X : Cx} {CX : CXT} {k : Nat} {C f : Addr} {fd : FuncData} {ps : List Str} {sp : Sp} {dvs : List V} {ds : List Value} {E : L2.St → XK} {m : Str} {pos apos : Pos} {e o : Expr} {es : List Expr} {ta : TE} {t : TA} {pl : Sem Bool} (he : PE X o ta) (c : Cls X.K C) (hm : Meth X.K C m f) (F : FnOk X.prog X.w X.K X.mg X.base CX k f fd ps sp) (hr : Room k X.A) (hb : Binds X.K fd ps ds) (hd : Vals dvs ds)
    (hx : ∀ σ, PassesAt CX X σ (E σ)) (ha : PA X (e :: es) t)
    (hst : starEach (e :: es) X.env = (false, eval e X.env) :: starEach es X.env := by rfl) (hpl : (backTo pos (starEach es X.env)).any (·.1) = false := by rfl)
    (ht : eval (.Call (.Attribute o m apos) (e :: es) [] pos) X.env = (do
      let ov ← eval o X.env
      standAt apos.atName
      let (f, first) ← holding [ov] (getMethod ov m pl)
      callWith pos f first (backTo pos (starEach (e :: es) X.env)) (backToKw pos (keywordEach [] X.env))) := by rfl) :
    PE X (.Call (.Attribute o m apos) (e :: es) [] pos) (tMethS C m sp dvs E ta t) := by
  refine ⟨fun pins s σ H Q I h => ?_⟩
  refine PySem.W.methodCall_KW (pl := pl) (thn (he.run pins s σ H _ I h) fun u s1 ⟨x, H1, I1, rx, a, dx, fs, ex, ea, l, q⟩ => ?_) ht
  subst ex
  obtain rfl : u = Value.ref a := rx
  refine getmeth_ok I1 ea c hm l ?_
  refine PySem.W.callWith_K (first := [.ref a]) (h₀ := X.base) I.ok.mod.kin hm.kp (thn (ha.run pos pins s1 σ H1 _ I1 q) fun us s2 ⟨vs, H2, I2, r, q2⟩ => ⟨I2.kIn, ?_⟩) hst hpl
  exact run_fnSD (us := .ref a :: us) (vs := .ref a :: vs) F hr hb hd (hx σ) I2 (.cons rfl r) q2
end Bw
namespace Bw
open PySem PySem.Spec PySem.Calls PyProof.Rows L2
theorem tuple_mul1 (l : Addr) (items : Array Value) (n : Nat) (dd : Option Addr) (sl : Array (Option Value)) (u : Tok) :
    Meets (Builtin.«tuple.__mul__» ⟨[.ref l, .int 1 u], []⟩) (fun _ R s => s.heap.get? l = some { cls := .type "tuple", dict := dd, data := .seq items n, slots := sl } ∧ R (.ok (.ret (Value.ref l))) s) :=
  .of_wp fun prog w A R s h => by
    obtain ⟨hp, g, d, tk, os⟩ := s
    obtain ⟨hl, h⟩ := h
    have f1 := AutoSeq1.idx_int
    wp_walk using wpAny_loadPart' hl
    exact ⟨_, rfl, h⟩
/-- t * k, k = 1 or more -/
def rRepA (K : PySem.W.Frag) : R2 := fun x y H Q => (∃ l xs, x = .ref l ∧ y = .int 1 ∧ SqT K H l xs ∧ Q (.ref l) H) ∨ rRepT K x y H Q
theorem op_repA {X : Cx} : OpR X (binaryOp .Mult) (rRepA X.K) := by
  intro pins s σ H x y v u Q I rx ry h
  rcases h with ⟨l, xs, rfl, rfl, hT, q⟩ | h
  · cases rx
    obtain ⟨t, rfl⟩ := ry
    obtain ⟨its, r, ⟨⟨cls, dd, data, sl⟩, ho, hc, n, hd⟩, hs⟩ := I.tuple hT
    simp only at hc hd
    subst hc hd
    exact wpAny_binaryOp_repeat_ref (T := "tuple") (U := "int") (by decide) ⟨_, ho, rfl⟩ (fun s' => typeIs_int s' 1 t) noFill_tuple_mul F.fills_int_mul F.slot_int_rmul repeat_tuple F.slot_int_index.lookup
      (call_meets F.slot_int_rmul (typeIs_int s 1 t) F.entry_int_rmul (F.args_int_rmul_2 _ _) (int_rmul_tuple 1 t l its.toArray n dd sl)
        ⟨ho, rfl, ⟨_, ho, rfl⟩, call_meets F.slot_tuple_mul ⟨_, ho, rfl⟩ F.entry_tuple_mul (F.args_tuple_mul_2 _ _) (tuple_mul1 l its.toArray n dd sl t) ⟨ho, .ref l, H, I, rfl, q⟩⟩)
  · exact op_repT pins s σ H x y v u Q I rx ry h
end Bw
namespace Bw
open PySem PySem.Spec PyProof.Rows L2
open C8 (Cal pe_c Met pe_mt)
/-! ### the class Stopped -/
abbrev aS (K : PySem.W.Frag) : Addr := He.ga K "Stopped"
abbrev aR (K : PySem.W.Frag) : Addr := He.ga K "Reading"
abbrev iS (K : PySem.W.Frag) : Addr := He.ma K (He.ga K "Stopped") "__init__"
theorem oexB_ok {K : PySem.W.Frag} {C : Addr} (h : oexB K C = true) : ∃ nm q N bs bm sn sub ab col dd k0 k1 k2 k3 k5, K.lookup C = some (excClassObj nm q C N bs bm true sn sub ab col dd k0 k1 k2 k3 k5 "ValueError.__new__") ∧ PySem.HandSPX.refsVE bm = true := by
  unfold oexB at h
  split at h
  · rename_i dd cd sl hl
    split at h
    · rename_i C' bm k0 k1 k2 k3 n k5 e1 e2
      simp only [Bool.and_eq_true, beq_iff_eq, Bool.not_eq_true'] at h
      obtain ⟨h1, h2, h3, h4, h5⟩ := h
      obtain ⟨nm, bs, mro, ns, qn, hd, sn, sb, ab, col, del⟩ := cd
      simp only at e1 h3 h4
      subst h1 h2 h3 h4 e1
      have e3 : sl = #[k0, k1, k2, k3, some (.builtin "ValueError.__new__"), k5] := by rw [← e2]
      subst e3
      exact ⟨nm, qn, ns, bs, bm, sn, sb, ab, col, dd, k0, k1, k2, k3, k5, hl, h5⟩
    · cases h
  · cases h
structure StopFacts (K : PySem.W.Frag) : Prop where
  ox : OexC K (aS K)
  iC : PySem.W.findIn K (.ref (aS K)) "__init__" = some (some (.ref (iS K)))
  tI : PySem.W.typeIn K (.ref (iS K)) = some (.type "function")
  xf : XfC K (aS K)
  nw : PySem.W.findIn K (.ref (aS K)) "word" = some none
  np : PySem.W.findIn K (.ref (aS K)) "place" = some none
  nt : PySem.W.findIn K (.ref (aS K)) "turns" = some none
  carr : ∀ H, SqT K H (He.ga K "CARRIERS") [.str "num", .str "name", .str "none"]
  bind : ∀ H, SqT K H (He.ga K "BINDERS") [.str "let", .str "each", .str "times"]
theorem Txt.stop {K : PySem.W.Frag} {mg : Str → Option Value} (T : Txt K mg) : StopFacts K := by
  have h := T.ex
  unfold exB at h
  simp only [Bool.and_eq_true] at h
  obtain ⟨h1, h2, h3, h4, h5, h6, h7, h8, h9, h10, h11, h12, h13, h14⟩ := h
  have eqF_ok : ∀ {a b : Option (Option Value)}, eqF a b = true → a = b := fun h => of_decide_eq_true h
  exact ⟨⟨oexB_ok h1, eqF_ok h2, of_decide_eq_true h3, of_decide_eq_true h4, h5⟩, eqF_ok h9, of_decide_eq_true h10, xfB_ok h11, eqF_ok h6, eqF_ok h7, eqF_ok h8, fun H => He.tupB_ok h13 H, fun H => He.tupB_ok h14 H⟩
theorem Xt.drop {M : Addr → Prop} {G H G1 H1 G2 H2 : Hp} (a : X0 G H G1 H1) (b : Xt M G1 H1 G2 H2) (n : ∀ c, M c → H c = none) : X0 G H G2 H2 :=
  ⟨a.g.trans b.g, b.sub, fun c o z h => b.old c o (fun m => by rw [n c m] at h; cases h) (a.old c o z h), fun c h => (b.fr c (a.alive c h)).trans (a.fr c h), fun c h => b.alive c (a.alive c h)⟩
section
variable {P : Program} {w : World} {K : PySem.W.Frag} {mg : Str → Option Value} {base : Heap}
/-- a method of the text keeps its promise, by its body -/
theorem fn_of_m {CX : CXT} {d : He.DefD} {x m : Str} {N ps : List Str} {k : Nat} {sp : Sp} (T : Txt K mg) (hd : d ∈ fn) (hx : d.at_ = (x, some m)) (h0 : d.dfl = []) (h1 : d.kwd = []) (S : FnScope N ps d.scope)
    (hb : ∀ (kV doc pm : Value) (an : Option Addr) (cdv ct : Value) (us : List Value), us.length = ps.length → bindArgs (PySem.W.fnOf d.name d.qual d.params d.body d.scope .none kV doc pm an cdv ct) ⟨us, []⟩ = pure (ps.zip us))
    (len : ∀ vs H Q E, sp vs H Q E → vs.length = ps.length)
    (hbody : ∀ (cdv : Value) (A : Around) (outer : List Env) (s : Shared) (H : Hp) (vs : List V) (Q : VK) (E : XK) (f : Addr), Room k (A.deeper (envOfC d.qual d.scope s.heap.objs.size f cdv)) → sp vs H Q E →
      ∃ t, PSs (cxOf CX P w K mg base N d.qual d.scope f cdv A outer s H E) d.body t ∧ t { nx := fun _ H' => Q .non H', rt := Q } (start N vs) H) :
    ∃ fd, FnOk P w K mg base CX (k + 1) (He.ma K (He.ga K x) m) fd ps sp ∧ Binds K fd ps [] := by
  obtain ⟨fd, F⟩ := T.d d hd
  have e0 : d.dvs K = [] := by unfold He.DefD.dvs; rw [h0]; rfl
  have e1 : d.kws K = [] := by unfold He.DefD.kws; rw [h1]; rfl
  rw [e0, e1, hx] at F
  exact ⟨fd, F.ok S len fun cdv A outer s H vs Q E hr hsp => hbody cdv A outer s H vs Q E _ hr hsp, F.bindsN hb⟩
/-! ### Stopped.__init__ -/
def fsS (z p t : V) : List (Str × V) := [("turns", t), ("place", p), ("word", z)]
def spStop (K : PySem.W.Frag) : Sp := fun vs H Q _ => ∃ (a : Addr) (z p t : V), vs = [.ref a, z, p, t] ∧ H a = some (exo a (aS K) none) ∧
  ∀ dx H', H dx = none → dx ≠ a → (∀ b, b ≠ a → b ≠ dx → H' b = H b) → H' a = some (exo a (aS K) (some dx)) → H' dx = some (exd dx (fsS z p t)) → Q .non H'
abbrev N_Stopped_init : List PySem.Str := ["self", "word", "place", "turns"]
theorem sc_Stopped_init : FnScope N_Stopped_init ["self", "word", "place", "turns"] (defScope s_Stopped_init) := ⟨rfl, rfl, rfl, by decide +kernel, rfl, by decide +kernel, by decide +kernel⟩
theorem c_Stopped_init (T : Txt K mg) : ∃ fd, FnOk P w K mg base C8.CX0 1 (iS K) fd ["self", "word", "place", "turns"] (spStop K) ∧ Binds K fd ["self", "word", "place", "turns"] [] := by
  refine fn_of_m (d := d_Stopped_init) T (mem_fn 64) rfl rfl rfl sc_Stopped_init (fun _ _ _ _ _ _ us hl => match us, hl with | [_, _, _, _], _ => rfl) (fun vs H Q E h => ?_) (fun cdv A outer s H vs Q E f hr h => ?_)
  · obtain ⟨a, z, p, t, rfl, _⟩ := h
    rfl
  obtain ⟨a, z, p, t, rfl, ha, q⟩ := h
  have F := T.stop
  refine ⟨_, PSs.nox (pss_cons (ps_expr (pe_veinit rfl T.ve (by kernel_rfl) (pa_cons (pv 0) (pa_cons pe_str pa_nil))))
      (pss_cons (ps_ost (pv 0) (pv 1))
      (pss_cons (ps_ost (pv 0) (pv 2))
      (pss_one (ps_ost (pv 0) (pv 3)))))), ?_⟩
  refine ⟨_, rfl, a, aS K, _, rfl, by show 1 ≤ 1000; decide, F.ox, ha, ?_⟩
  refine ⟨_, rfl, _, rfl, a, aS K, rfl, F.ox, F.nw, .inl ⟨ha, fun dx nd ne => ?_⟩⟩
  refine ⟨_, rfl, _, rfl, a, aS K, rfl, F.ox, F.np, .inr ⟨dx, _, upd_same, by rw [upd_ne ne, upd_same], by show 1 ≤ 900; decide, ?_⟩⟩
  refine ⟨_, rfl, _, rfl, a, aS K, rfl, F.ox, F.nt, .inr ⟨dx, _, by rw [upd_ne ne.symm, upd_same], upd_same, by show 2 ≤ 900; decide, ?_⟩⟩
  refine q dx _ nd ne (fun b h1 h2 => ?_) (by rw [upd_ne ne.symm, upd_ne ne.symm, upd_same]) upd_same
  rw [upd_ne h2, upd_ne h2, upd_ne h1, upd_ne h2]
end
end Bw
namespace Bw
open PySem PySem.Spec PyProof.Rows L2
open C8 (Cal pe_c Met pe_mt)
section
variable {P : Program} {w : World} {K : PySem.W.Frag} {mg : Str → Option Value} {base : Heap}
theorem Txt.clsR (T : Txt K mg) : Cls K (aR K) := He.cls_ok (T.fact (.cls "Reading") (List.mem_of_getElem? (i := 90) rfl))
theorem Txt.mkR (T : Txt K mg) : Mk K (aR K) (He.ma K (aR K) "__init__") := He.mkr_ok (T.fact (.mkr "Reading") (List.mem_of_getElem? (i := 91) rfl))
theorem Txt.mNote (T : Txt K mg) : Meth K (aR K) "note" (He.ma K (aR K) "note") := He.meth_ok (T.fact (.meth "Reading" "note") (List.mem_of_getElem? (i := 92) rfl))
theorem Txt.mWorth (T : Txt K mg) : Meth K (aR K) "worth" (He.ma K (aR K) "worth") := He.meth_ok (T.fact (.meth "Reading" "worth") (List.mem_of_getElem? (i := 93) rfl))
theorem Txt.noMet (T : Txt K mg) : NoAttr K (aR K) "met" := He.noat_ok (T.fact (.noat "Reading" "met") (List.mem_of_getElem? (i := 94) rfl))
theorem Txt.exm (T : Txt K mg) : PySem.W.exmOne K (.ref (aS K)) (.ref (aS K)) = some true := He.exm_ok (T.fact (.exm "Stopped" "Stopped" true) (List.mem_of_getElem? (i := 95) rfl))
/-! ### Reading.__init__, note -/
def spRInit (K : PySem.W.Frag) : Sp := fun vs H Q _ => ∃ (x dx : Addr), vs = [.ref x] ∧ H x = some (.ins (aR K) dx []) ∧ ∀ d, H d = none → Q .non (upd (upd H d (.dT [])) x (.ins (aR K) dx [("met", .ref d)]))
abbrev N_Reading_init : List PySem.Str := ["self"]
theorem sc_Reading_init : FnScope N_Reading_init ["self"] (defScope s_Reading_init) := ⟨rfl, rfl, rfl, by decide +kernel, rfl, by decide +kernel, by decide +kernel⟩
theorem c_Reading_init (T : Txt K mg) : ∃ fd, FnOk P w K mg base C8.CX0 1 (He.ma K (aR K) "__init__") fd ["self"] (spRInit K) ∧ Binds K fd ["self"] [] := by
  refine fn_of_m (d := d_Reading_init) T (mem_fn 65) rfl rfl rfl sc_Reading_init (fun _ _ _ _ _ _ us hl => match us, hl with | [_], _ => rfl) (fun vs H Q E h => ?_) (fun cdv A outer s H vs Q E f hr h => ?_)
  · obtain ⟨x, dx, rfl, _⟩ := h
    rfl
  obtain ⟨x, dx, rfl, hx, q⟩ := h
  refine ⟨_, PSs.nox (pss_one (ps_fld (pv 0) pe_dnewT rfl)), ?_⟩
  intro d nd
  have nxd : x ≠ d := fun z => by
    rw [z, nd] at hx
    cases hx
  refine ⟨_, rfl, x, aR K, dx, [], rfl, by rw [upd_ne nxd]; exact hx, T.clsR, T.noMet, by show 0 < 1000; decide, q d nd⟩
def spNote (K : PySem.W.Frag) : Sp := fun vs H Q _ => ∃ (G : Hp) (a dx d p r : Addr) (n : Int), vs = [.ref a, .ref p, .ref r, .int n] ∧ Same G H ∧ G d = none ∧ H a = some (.ins (aR K) dx [("met", .ref d)]) ∧ H d = some (.dT []) ∧ SqT K H p [] ∧ SqT K H r [] ∧
  ∀ H', Xt (fun b => b = d) G H G H' → Q .non H'
abbrev N_Reading_note : List PySem.Str := ["self", "place", "rounds", "width", "many", "widths"]
theorem sc_Reading_note : FnScope N_Reading_note ["self", "place", "rounds", "width"] (defScope s_Reading_note) := ⟨rfl, rfl, rfl, by decide +kernel, rfl, by decide +kernel, by decide +kernel⟩
theorem c_Reading_note (T : Txt K mg) : Met P w K mg base 1 (aR K) "note" (spNote K) [] := by
  obtain ⟨fd, F, b⟩ : ∃ fd, FnOk P w K mg base C8.CX0 1 (He.ma K (aR K) "note") fd ["self", "place", "rounds", "width"] (spNote K) ∧ Binds K fd ["self", "place", "rounds", "width"] [] := by
    refine fn_of_m (d := d_Reading_note) T (mem_fn 66) rfl rfl rfl sc_Reading_note (fun _ _ _ _ _ _ us hl => match us, hl with | [_, _, _, _], _ => rfl) (fun vs H Q E h => ?_) (fun cdv A outer s H vs Q E f hr h => ?_)
    · obtain ⟨G, a, dx, d, p, r, n, rfl, _⟩ := h
      rfl
    obtain ⟨G, a, dx, d, p, r, n, rfl, sG, gd, ha, hd, hp, hro, q⟩ := h
    refine ⟨_, PSs.nox (pss_cons (ps_asg (pe_nget hr.units (pe_fld (pv 0) rfl) (pe_tup (pa_cons (pv 1) (pa_cons (pv 2) pa_nil))) (pe_tup (pa_cons pe_int (pa_cons pe_int pa_nil))) ⟨rfl, rfl, rfl, rfl⟩) (g_tup (n := 2) rfl (pgs_cons (pg_name (i := 4) sc_Reading_note.nd rfl (.inl rfl)) (pgs_cons (pg_name (i := 5) sc_Reading_note.nd rfl (.inl rfl)) pgs_nil))))
      (pss_one (ps_asg (pe_tup (pa_cons (pe_op op_add (pv 4) pe_int) (pa_cons (pe_op op_add (pv 5) (pv 3)) pa_nil))) (pg_sub (pe_fld (pv 0) rfl) (pe_tup (pa_cons (pv 1) (pa_cons (pv 2) pa_nil))) (set_nest hr.units))))), ?_⟩
    refine ⟨_, rfl, a, aR K, dx, _, .ref d, rfl, ha, T.clsR, T.noMet, rfl, d, rfl, hd, ?_⟩
    refine ⟨_, rfl, _, rfl, by show 2 ≤ sizeLine; decide, fun u nu => ?_⟩
    have e1 : Same H (upd H u (.tup [.ref p, .ref r])) := same_upd nu
    refine ⟨by show 2 ≤ sizeLine; decide, fun u2 nu2 => ?_⟩
    have e2 := e1.trans (same_upd (o := .tup [.int 0, .int 0]) nu2)
    refine ⟨e2 _ _ hd, ⟨u, p, r, rfl, SqT.of (same_upd nu2 _ _ upd_same), sameT e2 hp, sameT e2 hro⟩, ?_⟩
    refine g_pair rfl upd_same ?_
    refine ⟨_, rfl, _, _, rfl, rfl, _, rfl, _, rfl, _, _, rfl, rfl, by show 2 ≤ sizeLine; decide, fun u3 nu3 => ?_⟩
    have e3 := e2.trans (same_upd (o := .tup [.int (0 + 1), .int (0 + n)]) nu3)
    refine ⟨_, rfl, a, aR K, dx, _, .ref d, rfl, e3 _ _ ha, T.clsR, T.noMet, rfl, ?_⟩
    refine ⟨_, rfl, _, rfl, by show 2 ≤ sizeLine; decide, fun u4 nu4 => ?_⟩
    have e4 := e3.trans (same_upd (o := .tup [.ref p, .ref r]) nu4)
    refine ⟨d, rfl, e4 _ _ hd, ⟨u4, p, r, rfl, SqT.of upd_same, sameT e4 hp, sameT e4 hro⟩, ?_⟩
    exact q _ ((Xt.of_same sG e4).mset rfl gd)
  exact ⟨_, fd, _, [], T.clsR, T.mNote, F, b, .nil⟩
/-! ### parts -/
def spParts (K : PySem.W.Frag) : Sp := fun vs H Q _ => ∃ (s : Sg) (tr : Addr) (rest : List V), vs = [.ref tr] ∧ H tr = some (.tup (.str s.nm :: rest)) ∧ rest.length ≤ 2 ∧ ∀ p H', Same H H' → SqT K H' p rest → Q (.ref p) H'
abbrev N_parts : List PySem.Str := ["tree"]
theorem sc_parts : FnScope N_parts ["tree"] (defScope s_parts) := ⟨rfl, rfl, rfl, by decide +kernel, rfl, by decide +kernel, by decide +kernel⟩
theorem cut_tail (x : V) (xs : List V) : cutV (x :: xs) (some 1) none = xs := by
  unfold cutV
  have e1 : HT.sIx (x :: xs).length 0 (some 1) = 1 := by
    show (if (1 : Int) < 0 then ((1 : Int) + ((x :: xs).length : Int)).toNat else min (1 : Int).toNat (x :: xs).length) = 1
    rw [if_neg (by decide), List.length_cons]
    omega
  have e2 : HT.sIx (x :: xs).length (x :: xs).length none = (x :: xs).length := rfl
  rw [e1, e2]
  show xs.take ((x :: xs).length - 1) = xs
  rw [List.length_cons, Nat.add_sub_cancel, List.take_length]
theorem c_parts (T : Txt K mg) : Cal P w K mg base 1 "parts" (spParts K) [] := by
  refine cal_of (d := d_parts) T (mem_fn 37) rfl (mem_fa 37) rfl rfl sc_parts (fun _ _ _ _ _ _ us hl => match us, hl with | [_], _ => rfl) (fun vs H Q E h => ?_) (fun cdv A outer s H vs Q E f hr h => ?_)
  · obtain ⟨s, tr, rest, rfl, _⟩ := h
    rfl
  obtain ⟨sg, tr, rest, rfl, ht, hz, q⟩ := h
  refine ⟨_, (pss_cons (ps_if (pt_cmpR o_in (pe_ix i_tup (pv 0) pe_int (fun _ _ => rfl)) (pe_glob (v := .ref (He.ga K "CARRIERS")) rfl (T.glo "CARRIERS" (mem_fa 69)) rfl) (by rfl)) pss_never pss_nil)
      (pss_cons (ps_if (pt_cmpR o_in (pe_ix i_tup (pv 0) pe_int (fun _ _ => rfl)) (pe_glob (v := .ref (He.ga K "BINDERS")) rfl (T.glo "BINDERS" (mem_fa 70)) rfl) (by rfl)) pss_never pss_nil)
      (pss_one (ps_ret (pe_slice s_tupA (pv 0) (po_some pe_int) po_none))))), ?_⟩
  have f1 : inV (.str sg.nm) [V.str "num", .str "name", .str "none"] = false := by cases sg <;> rfl
  have f2 : inV (.str sg.nm) [V.str "let", .str "each", .str "times"] = false := by cases sg <;> rfl
  refine ⟨_, rfl, tr, _, 0, _, rfl, rfl, SqT.of ht, atI_nat (j := 0) rfl, _, _, rfl, .inr (T.stop.carr H), rfl, rfl, false, ?_, iteF ?_⟩
  · rw [if_neg Bool.false_ne_true]
    exact congrArg V.bl f1
  refine ⟨_, rfl, tr, _, 0, _, rfl, rfl, SqT.of ht, atI_nat (j := 0) rfl, _, _, rfl, .inr (T.stop.bind H), rfl, rfl, false, ?_, iteF ?_⟩
  · rw [if_neg Bool.false_ne_true]
    exact congrArg V.bl f2
  refine ⟨_, rfl, _, rfl, tr, _, rfl, SqT.of ht, fun z => ?_, fun _ p np => ?_⟩
  · have h1 := z.1
    have e1 : HT.sIx (V.str sg.nm :: rest).length 0 (some 1) = 1 := by
      show (if (1 : Int) < 0 then ((1 : Int) + ((V.str sg.nm :: rest).length : Int)).toNat else min (1 : Int).toNat (V.str sg.nm :: rest).length) = 1
      rw [if_neg (by decide), List.length_cons]
      omega
    rw [e1] at h1
    cases h1
  · rw [cut_tail]
    exact q p _ (same_upd np) (SqT.of upd_same)
/-! ### width_of -/
def spWidth (d : Nat) : Sp := fun vs H Q _ => ∃ (G : Hp) (s : Sg) (t : Tys s.ks) (tr wl : Addr) (ws rest : List V) (came : V), vs = [.ref tr, .ref wl, came] ∧ Same G H ∧ G tr = some (.tup (.str s.nm :: rest)) ∧ H wl = some (.lst ws) ∧ RepsT G s.ks t ws ∧ Rep G s.res (s.vl t) came ∧ (s.res).dep ≤ d ∧
  ∀ (i : Int) H', Same H H' → Q (.int i) H'
abbrev N_width_of : List PySem.Str := ["tree", "worths", "came", "sign"]
theorem sc_width_of : FnScope N_width_of ["tree", "worths", "came"] (defScope s_width_of) := ⟨rfl, rfl, rfl, by decide +kernel, rfl, by decide +kernel, by decide +kernel⟩
theorem c_width_of {d : Nat} (T : Txt K mg) (c_size : Cal P w K mg base (d + 1) "size" (spSize d) []) : Cal P w K mg base (d + 2) "width_of" (spWidth d) [] := by
  refine cal_of (d := d_width_of) T (mem_fn 39) rfl (mem_fa 39) rfl rfl sc_width_of (fun _ _ _ _ _ _ us hl => match us, hl with | [_, _, _], _ => rfl) (fun vs H Q E h => ?_) (fun cdv A outer s H vs Q E f hr h => ?_)
  · obtain ⟨G, s, t, tr, wl, ws, rest, came, rfl, _⟩ := h
    rfl
  obtain ⟨G, sg, tt, tr, wl, ws, rest, came, rfl, sG, ht, hwl, hT, hR, hd, q⟩ := h
  refine ⟨_, (pss_cons (ps_set (i := 3) sc_width_of.nd rfl (.inl rfl) (pe_ix i_tup (pv 0) pe_int (fun _ _ => rfl)))
      (pss_cons (ps_if (pt_cmpR o_in (pv 3) (pe_tup (pa_cons pe_str (pa_cons pe_str (pa_cons pe_str (pa_cons pe_str pa_nil))))) (by rfl)) (pss_one (ps_ret (pe_op op_add pe_int (e_len T.len (pe_ix i_list (pv 1) pe_int (fun _ _ => rfl)))))) pss_nil)
      (pss_cons (ps_if (pt_cmpR op_eq (pv 3) pe_str (nomark _)) (pss_one (ps_ret (pe_op op_add pe_int (e_len T.len (pv 2))))) pss_nil)
      (pss_cons (ps_if (pt_cmpR op_eq (pv 3) pe_str (nomark _)) (pss_one (ps_ret (pe_op op_add pe_int (e_len T.len (pe_ix i_list (pv 1) pe_int (fun _ _ => rfl)))))) pss_nil)
      (pss_cons (ps_if (pt_cmpR o_in (pv 3) (pe_tup (pa_cons pe_str (pa_cons pe_str (pa_cons pe_str pa_nil)))) (by rfl)) (pss_one (ps_ret (pe_op op_add pe_int (pe_c c_size hr (Nat.le_refl _) rfl (pa_cons (pv 2) pa_nil))))) pss_nil)
      (pss_one (ps_ret pe_int))))))), ?_⟩
  refine ⟨_, rfl, tr, _, 0, _, rfl, rfl, SqT.of (sG _ _ ht), atI_nat (j := 0) rfl, ?_⟩
  cases h1 : inV (.str sg.nm) ((["sum", "sums", "most", "flat"] : List Str).map V.str) with
  | true =>
    refine sq_yesS (a_inS (zs := ["sum", "sums", "most", "flat"]) rfl (fun _ q => q) (by show 4 ≤ 100; decide) h1) fun H1 e1 => ?_
    obtain ⟨a, us, r, hws, ga⟩ : ∃ (a : Addr) (us r : List V), ws = .ref a :: r ∧ G a = some (.lst us) := by
      cases sg <;> first
        | (obtain ⟨v, r, e1, ⟨a, us, e2, ga, _⟩, _⟩ := hT; subst e2; exact ⟨a, us, r, e1, ga⟩)
        | (cases h1)
    subst hws
    refine ⟨_, rfl, wl, _, 0, _, rfl, rfl, SqL.of (e1 _ _ hwl), atI_nat (j := 0) rfl, a, _, rfl, .inl (SqL.of (e1 _ _ (sG _ _ ga))), _, _, rfl, rfl, q _ _ e1⟩
  | false =>
    refine sq_noS (a_inS (zs := ["sum", "sums", "most", "flat"]) rfl (fun _ q => q) (by show 4 ≤ 100; decide) h1) fun H1 e1 => ?_
    cases h2 : decide (sg.nm = "upto") with
    | true =>
      obtain ⟨a, us, hc, ga⟩ : ∃ (a : Addr) (us : List V), came = .ref a ∧ G a = some (.lst us) := by
        cases sg <;> first
          | (obtain ⟨a, us, e2, ga, _⟩ := hR; exact ⟨a, us, e2, ga⟩)
          | (cases h2)
      subst hc
      exact sq_yes (a_sg rfl h2) ⟨_, rfl, a, _, rfl, .inl (SqL.of (e1 _ _ (sG _ _ ga))), _, _, rfl, rfl, q _ _ e1⟩
    | false =>
      refine sq_no (a_sg rfl h2) ?_
      cases h3 : decide (sg.nm = "cut") with
      | true =>
        obtain ⟨a, us, v, hws, ga⟩ : ∃ (a : Addr) (us : List V) (v : V), ws = [v, .ref a] ∧ G a = some (.lst us) := by
          cases sg <;> first
            | (obtain ⟨v, r, e1, _, v2, r2, e2, ⟨a, us, e3, ga, _⟩, e4⟩ := hT; subst e3; subst e4; subst e2; exact ⟨a, us, v, e1, ga⟩)
            | (cases h3)
        subst hws
        exact sq_yes (a_sg rfl h3) ⟨_, rfl, wl, _, 1, _, rfl, rfl, SqL.of (e1 _ _ hwl), atI_nat (j := 1) rfl, a, _, rfl, .inl (SqL.of (e1 _ _ (sG _ _ ga))), _, _, rfl, rfl, q _ _ e1⟩
      | false =>
        refine sq_no (a_sg rfl h3) ?_
        cases h4 : inV (.str sg.nm) ((["pick", "join", "keep"] : List Str).map V.str) with
        | true => exact sq_yesS (a_inS (zs := ["pick", "join", "keep"]) rfl (fun _ q => q) (by show 3 ≤ 100; decide) h4) fun H2 e2 => ⟨_, rfl, G, sg.res, sg.vl tt, came, rfl, (sG.trans e1).trans e2, hR, hd, fun i => ⟨_, _, rfl, rfl, q _ _ (e1.trans e2)⟩⟩
        | false => exact sq_noS (a_inS (zs := ["pick", "join", "keep"]) rfl (fun _ q => q) (by show 3 ≤ 100; decide) h4) fun H2 e2 => q _ _ (e1.trans e2)
end
end Bw
namespace Bw
open PySem PySem.Spec PyProof.Rows L2
open C8 (Cal pe_c Met pe_mt)
section
variable {K : PySem.W.Frag} {a b : Addr} {xs ys : List V}
theorem walk_zipM {n : Nat} (h1 : xs.length = n) (h2 : ys.length = n) : Walk (ItzM K a b) n (fun H => SqT K H a xs ∧ SqL K H b ys) (YPair (fun i => xs[i]?) (fun i => ys[i]?)) := by
  refine ⟨fun i _ hi q => ?_, fun _ q => ⟨xs, ys, q.1, q.2, by omega, h1⟩, fun i H v H' _ q y => ?_⟩
  · exact ⟨xs, ys, xs[i], ys[i], q.1, q.2, by simp [h1, hi], by simp [h2, hi]⟩
  · obtain ⟨T, x, z, h1, h2, h3, h4, h5⟩ := y
    exact ⟨T, x, z, h1, h2, h3, h4 xs q.1, h5 ys q.2⟩
theorem walk_enumT : Walk (IteT K a) xs.length (fun H => SqT K H a xs) (YPair (fun i => some (.int (i : Nat))) (fun i => xs[i]?)) := by
  refine ⟨fun i _ hi q => ⟨xs, xs[i], q, by simp [hi]⟩, fun _ q => ⟨xs, q, rfl⟩, fun i H v H' _ q y => ?_⟩
  obtain ⟨T, x, h1, h2, h3, h4⟩ := y
  exact ⟨T, .int (i : Nat), x, h1, h2, h3, rfl, h4 xs q⟩
end
theorem u1_of {u : Nat} (h : u + 64 < cLine) : u + 1 < cLine := by omega
section
variable {P : Program} {w : World} {K : PySem.W.Frag} {mg : Str → Option Value} {base : Heap}
/-! ### named -/
abbrev nmsOf (n : Nat) : List Str := (["addy", "b"] : List Str).take n
abbrev nms1 : List Str := ["addy"]
abbrev nms2 : List Str := ["addy", "b"]
def IsNms (ns : List Str) : Prop := ns = nms1 ∨ ns = nms2
def spNamed (K : PySem.W.Frag) : Sp := fun vs H Q _ => ∃ (ns : List Str) (pr hd wl : Addr) (tr : V) (hs ws : List V), vs = [.ref pr, .ref wl] ∧ IsNms ns ∧ H pr = some (.tup [.ref hd, tr]) ∧ H hd = some (.tup hs) ∧ Paired (fun n h => ∃ ha kv, h = .ref ha ∧ H ha = some (.tup [.str n, kv])) ns hs ∧
  H wl = some (.lst ws) ∧ ws.length = ns.length ∧ ∀ (d : Addr) (kvs : List (Key × V)) H', Same H H' → H d = none → H' d = some (.dK kvs) → (∀ (i : Nat) (n : Str) (v : V), ns[i]? = some n → ws[i]? = some v → valV kvs (.inr n) = some v) → Q (.ref d) H'
abbrev N_named : List PySem.Str := ["program", "worths", "names", "head", "worth"]
theorem sc_named : FnScope N_named ["program", "worths"] (defScope s_named) := ⟨rfl, rfl, rfl, by decide +kernel, rfl, by decide +kernel, by decide +kernel⟩
def putN (ns : List Str) (ws : List V) : List (Key × V) := (ns.zip ws).foldl (fun acc p => putK acc (.inr p.1) p.2) []
theorem putN_next {ns : List Str} {ws : List V} {i : Nat} {n : Str} {v : V} (h1 : ns[i]? = some n) (h2 : ws[i]? = some v) : putN (ns.take (i + 1)) (ws.take (i + 1)) = putK (putN (ns.take i) (ws.take i)) (.inr n) v := by
  unfold putN
  have e : (ns.zip ws)[i]? = some (n, v) := by rw [List.getElem?_zip_eq_some]; exact ⟨h1, h2⟩
  rw [List.zip_eq_zipWith, List.zip_eq_zipWith, ← List.take_zipWith, ← List.take_zipWith, ← List.zip_eq_zipWith, take_next e, List.foldl_append]
  rfl
theorem putN_len (ns : List Str) (ws : List V) : (putN ns ws).length ≤ ns.length := by
  unfold putN
  have h : ∀ (l : List (Str × V)) (acc : List (Key × V)), (l.foldl (fun acc p => putK acc (.inr p.1) p.2) acc).length ≤ acc.length + l.length := by
    intro l
    induction l with
    | nil => intro acc; exact Nat.le_refl _
    | cons p l ih =>
      intro acc
      have h1 := ih (putK acc (.inr p.1) p.2)
      have h2 := length_putK acc (.inr p.1) p.2
      rw [List.foldl_cons, List.length_cons]
      omega
  have h1 := h (ns.zip ws) []
  rw [List.length_zip] at h1
  simp only [List.length_nil] at h1
  omega
theorem putN_get {ns : List Str} {ws : List V} (hn : IsNms ns) (hl : ws.length = ns.length) : ∀ (i : Nat) (n : Str) (v : V), ns[i]? = some n → ws[i]? = some v → valV (putN ns ws) (.inr n) = some v := by
  rcases hn with rfl | rfl
  · match ws, hl with
    | [v0], _ =>
      intro i n v h1 h2
      rcases i with _ | i
      · cases h1
        cases h2
        rfl
      · simp at h1
  · match ws, hl with
    | [v0, v1], _ =>
      intro i n v h1 h2
      rcases i with _ | _ | i
      · cases h1
        cases h2
        rfl
      · cases h1
        cases h2
        rfl
      · simp at h1
theorem c_named (T : Txt K mg) : Cal P w K mg base 1 "named" (spNamed K) [] := by
  refine cal_of (d := d_named) T (mem_fn 40) rfl (mem_fa 40) rfl rfl sc_named (fun _ _ _ _ _ _ us hl => match us, hl with | [_, _], _ => rfl) (fun vs H Q E h => ?_) (fun cdv A outer s H vs Q E f hr h => ?_)
  · obtain ⟨ns, pr, hd, wl, tr, hs, ws, rfl, _⟩ := h
    rfl
  obtain ⟨ns, pr, hd, wl, tr, hs, ws, rfl, hn, hpr, hhd, hP, hwl, hl, q⟩ := h
  refine ⟨_, (pss_cons (ps_set (i := 2) sc_named.nd rfl (.inl rfl) pe_dnewK)
      (pss_cons (ps_for PassesOwn.never rfl (pi_zipTL rfl T.zip (pa_cons (pe_ix i_tup (pv 0) pe_int (fun _ _ => rfl)) (pa_cons (pv 1) pa_nil))) (g_tup (n := 2) rfl (pgs_cons (pg_name (i := 3) sc_named.nd rfl (.inl rfl)) (pgs_cons (pg_name (i := 4) sc_named.nd rfl (.inl rfl)) pgs_nil))) (pss_one (ps_dput (u1_of hr.units) (pv 2) (pe_ix i_tup (pv 3) pe_int (fun _ _ => rfl)) (pv 4) rfl)))
      (pss_one (ps_ret (pv 2))))), ?_⟩
  intro d nd
  have e0 : Same H (upd H d (.dK [])) := same_upd nd
  have hlh := Paired.length hP
  refine ⟨_, rfl, pr, _, 0, _, rfl, rfl, SqT.of (e0 _ _ hpr), atI_nat (j := 0) rfl, _, rfl, hd, wl, hs, ws, rfl, SqT.of (e0 _ _ hhd), SqL.of (e0 _ _ hwl), ?_⟩
  refine for_it (walk_zipM (xs := hs) (ys := ws) (n := ns.length) hlh.symm hl) (fun i σ H' => ∃ y1 y2 : Option V, σ = [some (.ref pr), some (.ref wl), some (.ref d), y1, y2] ∧ Same H H' ∧ H' d = some (.dK (putN (ns.take i) (ws.take i)))) ⟨none, none, rfl, e0, upd_same⟩ (fun i σ H' _ hv => ?_) (fun i v σ H' H'' hi hv hY => ?_) fun σ H' hv => ?_
  · obtain ⟨y1, y2, _, e, _⟩ := hv
    exact ⟨SqT.of (e _ _ hhd), SqL.of (e _ _ hwl)⟩
  · obtain ⟨y1, y2, rfl, e, hd'⟩ := hv
    obtain ⟨u, v1, v2, rfl, nu, rfl, h1, h2⟩ := hY
    have h1 : hs[i]? = some v1 := h1
    have h2 : ws[i]? = some v2 := h2
    obtain ⟨n, hni, ha, kv, rfl, hha⟩ := pr_getR hP h1
    have e2 := e.trans (same_upd (o := .tup [.ref ha, v2]) nu)
    have ndu : d ≠ u := fun z => by
      rw [← z, hd'] at nu
      cases nu
    refine g_pair rfl upd_same ?_
    refine ⟨_, rfl, _, rfl, _, rfl, ha, _, 0, _, rfl, rfl, SqT.of (e2 _ _ hha), atI_nat (j := 0) rfl, ?_⟩
    refine ⟨d, _, rfl, DPut.k (k := .inr n) (by rw [upd_ne ndu]; exact hd') ?_, _, _, rfl, same_set e2 nd, ?_⟩
    · have h3 := putN_len (ns.take i) (ws.take i)
      have h4 : (ns.take i).length ≤ 2 := by
        rw [List.length_take]
        rcases hn with rfl | rfl
        · show min i 1 ≤ 2; omega
        · show min i 2 ≤ 2; omega
      exact Nat.lt_of_le_of_lt (Nat.le_trans h3 h4) (by decide)
    · rw [upd_same, putN_next hni h2]
  · obtain ⟨y1, y2, rfl, e, hd'⟩ := hv
    rw [List.take_length, ← hl, List.take_length] at hd'
    exact ⟨_, rfl, q d _ H' e nd hd' (putN_get hn hl)⟩
/-! ### worth of a name -/
def spWorthN (K : PySem.W.Frag) : Sp := fun vs H Q _ => ∃ (tr nd : Addr) (n : Str) (kvs : List (Key × V)) (v x0 x2 x4 x5 : V), vs = [x0, .ref tr, x2, .ref nd, x4, x5] ∧ SqT K H tr [.str "name", .str n] ∧ H nd = some (.dK kvs) ∧ valV kvs (.inr n) = some v ∧ Q v H
abbrev N_Reading_worth : List PySem.Str := ["self", "tree", "place", "names", "turns", "rounds", "sign", "worths", "inner", "k", "part", "came", "word"]
theorem sc_Reading_worth : FnScope N_Reading_worth ["self", "tree", "place", "names", "turns", "rounds"] (defScope s_Reading_worth) := ⟨rfl, rfl, rfl, by decide +kernel, rfl, by decide +kernel, by decide +kernel⟩
theorem c_worthN (T : Txt K mg) : Met P w K mg base 1 (aR K) "worth" (spWorthN K) [] := by
  obtain ⟨fd, F, b⟩ : ∃ fd, FnOk P w K mg base C8.CX0 1 (He.ma K (aR K) "worth") fd ["self", "tree", "place", "names", "turns", "rounds"] (spWorthN K) ∧ Binds K fd ["self", "tree", "place", "names", "turns", "rounds"] [] := by
    refine fn_of_m (d := d_Reading_worth) T (mem_fn 67) rfl rfl rfl sc_Reading_worth (fun _ _ _ _ _ _ us hl => match us, hl with | [_, _, _, _, _, _], _ => rfl) (fun vs H Q E h => ?_) (fun cdv A outer s H vs Q E f hr h => ?_)
    · obtain ⟨tr, nd, n, kvs, v, x0, x2, x4, x5, rfl, _⟩ := h
      rfl
    obtain ⟨tr, nd, n, kvs, v, x0, x2, x4, x5, rfl, ht, hnd, hv, q⟩ := h
    refine ⟨_, PSs.nox (pss_cons (ps_set (i := 6) sc_Reading_worth.nd rfl (.inl rfl) (pe_ix i_tup (pv 1) pe_int (fun _ _ => rfl)))
      (pss_cons (ps_if (pt_cmpR op_eq (pv 6) pe_str (nomark _)) (pss_one (ps_ret (pe_dget (u1_of hr.units) (pv 3) (pe_ix i_tup (pv 1) pe_int (fun _ _ => rfl)) (fun _ _ => rfl)))) pss_nil) pss_never)), ?_⟩
    refine ⟨_, rfl, tr, _, 0, _, rfl, rfl, ht, atI_nat (j := 0) rfl, ?_⟩
    refine sq_yes (a_sg (z := "name") rfl rfl) ?_
    exact ⟨_, rfl, _, rfl, tr, _, 1, _, rfl, rfl, ht, atI_nat (j := 1) rfl, nd, v, rfl, .inl ⟨kvs, .inr n, .inl hnd, rfl, hv.symm⟩, q⟩
  exact ⟨_, fd, _, [], T.clsR, T.mWorth, F, b, .nil⟩
/-! ### worth of a sign -/
def PNm (G : Hp) (kvs : List (Key × V)) (v p : V) : Prop := ∃ pa n, p = .ref pa ∧ G pa = some (.tup [.str "name", .str n]) ∧ valV kvs (.inr n) = some v
def spWorthS (K : PySem.W.Frag) (d : Nat) : Sp := fun vs H Q E => ∃ (G : Hp) (s : Sg) (t : Tys s.ks) (a dx md tr pl nd tu ro : Addr) (rest ws : List V) (kvs : List (Key × V)), vs = [.ref a, .ref tr, .ref pl, .ref nd, .ref tu, .ref ro] ∧ Same G H ∧ G md = none ∧
  H a = some (.ins (aR K) dx [("met", .ref md)]) ∧ H md = some (.dT []) ∧ G tr = some (.tup (.str s.nm :: rest)) ∧ rest.length ≤ 2 ∧ Paired (PNm G kvs) ws rest ∧ H nd = some (.dK kvs) ∧ SqT K H pl [] ∧ SqT K H tu [] ∧ SqT K H ro [] ∧
  RepsT G s.ks t ws ∧ wszs s.ks t ≤ BIG ∧ NBs s.ks t ∧ (s.res).dep ≤ d ∧
  (s.wd t = none → ∀ (v : V) (G' H' : Hp), Xt (fun b => b = md) G H G' H' → Rep G' s.res (s.vl t) v → Q v H') ∧
  (∀ z, s.wd t = some z → ∀ (dd : Addr) (G' H' : Hp), X0 G H G' H' → H dd = none → H' dd = some (.xd (fsS (.str z) (.ref pl) (.ref tu))) → E (.ref (aS K)) (some dd) H')
theorem c_worthS {d : Nat} (T : Txt K mg) (c_worthN : Met P w K mg base 1 (aR K) "worth" (spWorthN K) []) (c_parts : Cal P w K mg base 1 "parts" (spParts K) []) (c_done_once : Cal P w K mg base 5 "done_once" spDone []) (c_note : Met P w K mg base 1 (aR K) "note" (spNote K) [])
    (c_width_of : Cal P w K mg base (d + 2) "width_of" (spWidth d) []) : ∃ fd, FnOk P w K mg base (L2.CX P w) (d + 6) (He.ma K (aR K) "worth") fd ["self", "tree", "place", "names", "turns", "rounds"] (spWorthS K d) ∧ Binds K fd ["self", "tree", "place", "names", "turns", "rounds"] [] := by
  obtain ⟨fdI, FI, bI⟩ := c_Stopped_init (P := P) (w := w) (base := base) T
  have F := T.stop
  refine fn_of_m (d := d_Reading_worth) T (mem_fn 67) rfl rfl rfl sc_Reading_worth (fun _ _ _ _ _ _ us hl => match us, hl with | [_, _, _, _, _, _], _ => rfl) (fun vs H Q E h => ?_) (fun cdv A outer s H vs Q E f hr h => ?_)
  · obtain ⟨G, s, t, a, dx, md, tr, pl, nd, tu, ro, rest, ws, kvs, rfl, _⟩ := h
    rfl
  obtain ⟨G, sg, tt, a, dx, md, tr, pl, nd, tu, ro, rest, ws, kvs, rfl, sG, gmd, ha, hmd, htr, hr2, hP, hnd, hpl, htu, hro, hT, hz, hN, hd, qn, qs⟩ := h
  refine ⟨_, (pss_cons (ps_set (i := 6) sc_Reading_worth.nd rfl (.inl rfl) (pe_ix i_tup (pv 1) pe_int (fun _ _ => rfl)))
      (pss_cons (ps_if (pt_cmpR op_eq (pv 6) pe_str (nomark _)) pss_never pss_nil)
      (pss_cons (ps_if (pt_cmpR op_eq (pv 6) pe_str (nomark _)) pss_never pss_nil)
      (pss_cons (ps_if (pt_cmpR op_eq (pv 6) pe_str (nomark _)) pss_never pss_nil)
      (pss_cons (ps_if (pt_cmpR op_eq (pv 6) pe_str (nomark _)) pss_never pss_nil)
      (pss_cons (ps_if (pt_cmpR op_eq (pv 6) pe_str (nomark _)) pss_never pss_nil)
      (pss_cons (ps_set (i := 7) sc_Reading_worth.nd rfl (.inl rfl) (pe_lst pa_nil))
      (pss_cons (ps_for (passes_of rfl) rfl (pi_enumT rfl T.enumerate (pa_cons (pe_c c_parts hr (by omega) rfl (pa_cons (pv 1) pa_nil)) pa_nil)) (g_tup (n := 2) rfl (pgs_cons (pg_name (i := 9) sc_Reading_worth.nd rfl (.inl rfl)) (pgs_cons (pg_name (i := 10) sc_Reading_worth.nd rfl (.inl rfl)) pgs_nil))) (pss_one (ps_expr (pe_bm PySem.F.plainAttrs_list PySem.F.slot_list_append PySem.F.type_list_append mt_append (pv 7) (pa_cons (pe_mt c_worthN hr (by omega) (pv 0) (pa_cons (pv 10) (pa_cons (pe_op o_catA (pv 2) (pe_tup (pa_cons (pv 9) pa_nil))) (pa_cons (pv 3) (pa_cons (pv 4) (pa_cons (pv 5) pa_nil)))))) pa_nil)))))
      (pss_cons (ps_asg (pe_c c_done_once hr (by omega) rfl (pa_cons (pv 1) (pa_cons (pv 7) pa_nil))) (g_tup (n := 2) rfl (pgs_cons (pg_name (i := 11) sc_Reading_worth.nd rfl (.inl rfl)) (pgs_cons (pg_name (i := 12) sc_Reading_worth.nd rfl (.inl rfl)) pgs_nil))))
      (pss_cons (ps_if (pt_cmpR op_notN (pv 12) pe_non (nomark _)) (pss_one (ps_raise rfl (takes_of rfl rfl rfl rfl) (pmk_oex F.ox F.iC F.tI FI (hr.mono (by omega)) bI .nil C8.pass0 rfl (T.glo "Stopped" (List.mem_of_getElem? (i := 66) rfl)) (pa_cons (pv 12) (pa_cons (pv 2) (pa_cons (pv 4) pa_nil)))))) pss_nil)
      (pss_cons (ps_expr (pe_mt c_note hr (by omega) (pv 0) (pa_cons (pv 2) (pa_cons (pv 5) (pa_cons (pe_c c_width_of hr (by omega) rfl (pa_cons (pv 1) (pa_cons (pv 7) (pa_cons (pv 11) pa_nil)))) pa_nil)))))
      (pss_one (ps_ret (pv 11)))))))))))))), ?_⟩
  have f1 : decide (sg.nm = "name") = false := by cases sg <;> rfl
  have f2 : decide (sg.nm = "let") = false := by cases sg <;> rfl
  have f3 : decide (sg.nm = "if") = false := by cases sg <;> rfl
  have f4 : decide (sg.nm = "each") = false := by cases sg <;> rfl
  have f5 : decide (sg.nm = "times") = false := by cases sg <;> rfl
  refine ⟨_, rfl, tr, _, 0, _, rfl, rfl, SqT.of (sG _ _ htr), atI_nat (j := 0) rfl, ?_⟩
  refine sq_no (a_sg rfl f1) (sq_no (a_sg rfl f2) (sq_no (a_sg rfl f3) (sq_no (a_sg rfl f4) (sq_no (a_sg rfl f5) ?_))))
  refine ⟨Nat.zero_le _, fun wl nwl => ?_⟩
  have e0 : Same H (upd H wl (.lst [])) := same_upd nwl
  refine ⟨_, rfl, sg, tr, rest, rfl, e0 _ _ (sG _ _ htr), hr2, fun pp H1 e1 hpp => ?_⟩
  refine ⟨pp, rest, rfl, hpp, ?_⟩
  have hlP := Paired.length hP
  refine for_it (walk_enumT (xs := rest)) (fun i σ H' => ∃ y1 y2 : Option V, σ = [some (.ref a), some (.ref tr), some (.ref pl), some (.ref nd), some (.ref tu), some (.ref ro), some (.str sg.nm), some (.ref wl), none, y1, y2, none, none] ∧ Same H H' ∧ SqT K H' pp rest ∧ H' wl = some (.lst (ws.take i)))
    ⟨none, none, rfl, e0.trans e1, hpp, e1 _ _ upd_same⟩ (fun i σ H' _ hv => ?_) (fun i v σ H' H'' hi hv hY => ?_) fun σ H' hv => ?_
  · obtain ⟨y1, y2, _, e, h, _⟩ := hv
    exact h
  · obtain ⟨y1, y2, rfl, e, hp, hw⟩ := hv
    obtain ⟨u, v1, v2, rfl, nu, rfl, h1, h2⟩ := hY
    cases h1
    have h2 : rest[i]? = some v2 := h2
    obtain ⟨vw, hwi, pa, n, rfl, gpa, hval⟩ := pr_getR hP h2
    have e2 := e.trans (same_upd (o := .tup [.int (i : Nat), .ref pa]) nu)
    have s2 : Same H' (upd H' u (.tup [.int (i : Nat), .ref pa])) := same_upd nu
    refine g_pair rfl upd_same ?_
    refine ⟨_, rfl, .inl ⟨rfl, _, SqL.of (s2 _ _ hw)⟩, ?_⟩
    refine ⟨_, rfl, a, dx, _, rfl, e2 _ _ ha, rfl, _, rfl, _, rfl, _, rfl, by show 1 ≤ sizeLine; decide, fun u2 nu2 => ?_⟩
    have s3 := s2.trans (same_upd (o := .tup [.int (i : Nat)]) nu2)
    have e3 := e2.trans (same_upd (o := .tup [.int (i : Nat)]) nu2)
    refine ⟨pl, u2, [], _, rfl, rfl, sameT e3 hpl, SqT.of upd_same, by show 0 + 1 ≤ sizeLine; decide, fun _ => ?_, fun h => absurd rfl h, fun h => absurd rfl h⟩
    refine ⟨_, rfl, _, rfl, _, rfl, pa, nd, n, kvs, vw, _, _, _, _, rfl, SqT.of (e3 _ _ (sG _ _ gpa)), e3 _ _ hnd, hval, ?_⟩
    have hwl : wl ≠ u := fun z => by
      rw [← z, hw] at nu
      cases nu
    refine ⟨wl, _, _, rfl, rfl, s3 _ _ hw, ?_, _, _, rfl, same_set e3 nwl, ?_, ?_⟩
    · rw [List.length_take]
      have : i ≤ 2 := by omega
      exact Nat.lt_of_le_of_lt (Nat.le_trans (Nat.min_le_left _ _) this) (by decide)
    · have hpw : H pp = none ∨ H pp ≠ none := by
        cases H pp with
        | none => exact .inl rfl
        | some _ => exact .inr fun z => by cases z
      rcases sameT s3 hp with (h | ⟨o, h⟩) | h
      · refine .inl (.inl ?_)
        rw [upd_ne fun z => ?_]
        · exact h
        · rw [z, s3 _ _ hw] at h
          cases h
      · refine .inl (.inr ⟨o, ?_⟩)
        rw [upd_ne fun z => ?_]
        · exact h
        · rw [z, s3 _ _ hw] at h
          cases h
      · exact .inr h
    · rw [upd_same, take_next hwi]
  · obtain ⟨y1, y2, rfl, e, hp, hw⟩ := hv
    rw [← hlP, List.take_length] at hw
    have x1 : X0 G H G H' := Xt.of_same sG e
    refine ⟨_, rfl, _, rfl, G, sg, tt, tr, wl, ws, rest, rfl, x1.sub, htr, hw, hT, hz, hN, fun p came G1 H1 x2 g1 hR => ?_⟩
    have x12 := x1.trans x2
    refine g_pair rfl (x2.sub _ _ g1) ?_
    cases ho : sg.wd tt with
    | none =>
      have hR := hR ho
      refine ⟨_, rfl, rfl, false, rfl, iteF ?_⟩
      have qn := qn ho
      refine ⟨_, rfl, a, dx, _, rfl, x12.same _ _ ha, rfl, _, rfl, _, rfl, _, rfl, _, rfl, _, rfl, ?_⟩
      refine ⟨G1, sg, tt, tr, wl, ws, rest, came, rfl, x2.sub, x2.g _ _ htr, x2.same _ _ hw, RepsT.mono x2.g hT, hR, hd, fun n H2 e2 => ?_⟩
      have e12 : Same H H2 := x12.same.trans e2
      refine ⟨G1, a, dx, md, pl, ro, n, rfl, x2.sub.trans e2, x12.hid hmd gmd, e12 _ _ ha, e12 _ _ hmd, sameT e12 hpl, sameT e12 hro, fun H3 x3 => ?_⟩
      refine ⟨_, rfl, qn came G1 H3 ?_ (Rep.mono (Same.refl _) hR)⟩
      exact ((Xt.weak x12).trans (Xt.of_same x2.sub e2)).trans x3
    | some z =>
      refine ⟨_, rfl, rfl, true, rfl, iteT ?_⟩
      refine ⟨_, rfl, _, rfl, _, rfl, by show 3 ≤ 1000; decide, fun ea na => ?_⟩
      refine ⟨ea, .str z, .ref pl, .ref tu, rfl, upd_same, fun dd H2 nd2 ne hk he hdd => ?_⟩
      rw [upd_ne ne] at nd2
      refine ⟨rfl, dd, _, he, hdd, nd2, ?_⟩
      have eF : Same H1 (upd (del H2 ea) dd (.xd (fsS (.str z) (.ref pl) (.ref tu)))) := fun b o hb => by
        have b1 : b ≠ ea := ne_of_none hb na
        have b2 : b ≠ dd := ne_of_none hb nd2
        rw [upd_ne b2, del_ne b1, hk b b1 b2, upd_ne b1]
        exact hb
      exact qs z ho dd G1 _ (x12.trans (Xt.of_same x2.sub eF)) (x12.free nd2) upd_same
end
end Bw
namespace Bw
open PySem PySem.Spec PyProof.Rows L2
open C8 (Cal pe_c Met pe_mt)
section
variable {P : Program} {w : World} {K : PySem.W.Frag} {mg : Str → Option Value} {base : Heap}
/-! ### read -/
def NmT (G : Hp) (n : Str) (p : V) : Prop := ∃ pa, p = .ref pa ∧ G pa = some (.tup [.str "name", .str n])
def NmH (G : Hp) (n : Str) (h : V) : Prop := ∃ ha kv, h = .ref ha ∧ G ha = some (.tup [.str n, kv])
def spRead (d : Nat) : Sp := fun vs H Q _ => ∃ (G : Hp) (s : Sg) (t : Tys s.ks) (ns : List Str) (pr hd tr wl : Addr) (hs rest ws : List V), vs = [.ref pr, .ref wl] ∧ Same G H ∧ IsNms ns ∧ G pr = some (.tup [.ref hd, .ref tr]) ∧ G hd = some (.tup hs) ∧ Paired (NmH G) ns hs ∧
  G tr = some (.tup (.str s.nm :: rest)) ∧ Paired (NmT G) ns rest ∧ H wl = some (.lst ws) ∧ ws.length = ns.length ∧ RepsT G s.ks t ws ∧ wszs s.ks t ≤ BIG ∧ NBs s.ks t ∧ (s.res).dep ≤ d ∧ (s.wd t = none → wsz s.res (s.vl t) ≤ BIG) ∧
  (s.wd t = none → ∀ (p : Addr) (v : V) (G' H' : Hp), X0 G H G' H' → G' p = some (.tup [.str "is", v]) → Rep G' s.res (s.vl t) v → Q (.ref p) H') ∧
  (∀ z, s.wd t = some z → ∀ (p pl tu : Addr) (G' H' : Hp), X0 G H G' H' → G' p = some (.tup [.str "stops", .str z, .ref pl, .ref tu]) → G' pl = some (.tup []) → G' tu = some (.tup []) → Q (.ref p) H')
abbrev N_read : List PySem.Str := ["program", "worths", "reading", "told", "e"]
theorem sc_read : FnScope N_read ["program", "worths"] (defScope s_read) := ⟨rfl, rfl, rfl, by decide +kernel, rfl, by decide +kernel, by decide +kernel⟩
theorem c_read {d : Nat} (T : Txt K mg) (c_named : Cal P w K mg base 1 "named" (spNamed K) []) (c_copied : Cal P w K mg base (d + 1) "copied" (spCopied d) [])
    (c_worthS : ∃ fd, FnOk P w K mg base (L2.CX P w) (d + 6) (He.ma K (aR K) "worth") fd ["self", "tree", "place", "names", "turns", "rounds"] (spWorthS K d) ∧ Binds K fd ["self", "tree", "place", "names", "turns", "rounds"] []) : Cal P w K mg base (d + 7) "read" (spRead d) [] := by
  obtain ⟨fdI, FI, bI⟩ := c_Reading_init (P := P) (w := w) (base := base) T
  obtain ⟨fdW, FW, bW⟩ := c_worthS
  have F := T.stop
  refine cal_of (d := d_read) T (mem_fn 41) rfl (mem_fa 41) rfl rfl sc_read (fun _ _ _ _ _ _ us hl => match us, hl with | [_, _], _ => rfl) (fun vs H Q E h => ?_) (fun cdv A outer s H vs Q E f hr h => ?_)
  · obtain ⟨G, s, t, ns, pr, hd, tr, wl, hs, rest, ws, rfl, _⟩ := h
    rfl
  obtain ⟨G, sg, tt, ns, pr, hd, tr, wl, hs, rest, ws, rfl, sG, hn, hpr, hhd, hPh, htr, hPt, hwl, hl, hT, hz, hN, hdd, hzr, qn, qs⟩ := h
  refine ⟨_, (pss_cons (ps_set (i := 2) sc_read.nd rfl (.inl rfl) (pe_make0 (E := C8.E0) T.mkR FI (hr.mono (by omega)) rfl (T.glo "Reading" (List.mem_of_getElem? (i := 67) rfl)) bI .nil C8.pass0))
      (pss_cons (ps_set (i := 3) sc_read.nd rfl (.inl rfl) pe_non)
      (pss_cons (ps_try_as (i := 4) (Wout := fun _ _ _ _ => False) rfl rfl sc_read.nd rfl rfl ⟨rfl, by decide, Or.inl (T.glo "Stopped" (List.mem_of_getElem? (i := 66) rfl))⟩ takes0
          (fun W pn xe tk _ => pss_one (ps_set (i := 3) sc_read.nd rfl (.inl rfl) (pe_tup (pa_cons pe_str (pa_cons (pe_c c_copied hr (by omega) rfl (pa_cons (pe_methS (pv 2) T.clsR T.mWorth FW hr bW .nil (fun σ => passAt tk σ) (pa_cons (pe_ix i_tup (pv 0) pe_int (fun _ _ => rfl)) (pa_cons (pe_tup pa_nil) (pa_cons (pe_c c_named hr (by omega) rfl (pa_cons (pv 0) (pa_cons (pv 1) pa_nil))) (pa_cons (pe_tup pa_nil) (pa_cons (pe_tup pa_nil) pa_nil)))))) pa_nil)) pa_nil)))))
          (fun a oe cls dd pn hz hf => pss_one (ps_set (i := 3) sc_read.nd rfl (.inl rfl) (pe_tup (pa_cons pe_str (pa_cons (pe_xf F.xf F.nw hz hf (pv 4)) (pa_cons (pe_xf F.xf F.np hz hf (pv 4)) (pa_cons (pe_xf F.xf F.nt hz hf (pv 4)) pa_nil))))))))
      (pss_one (ps_ret (pv 3)))))), ?_⟩
  intro x dx nx ndx nxd
  refine ⟨x, dx, rfl, upd_same, fun md nmd => ⟨rfl, ?_⟩⟩
  have md1 : md ≠ x := fun z => by
    rw [z, upd_same] at nmd
    cases nmd
  rw [upd_ne md1] at nmd
  have md2 : md ≠ dx := fun z => by
    rw [z, upd_same] at nmd
    cases nmd
  rw [upd_ne md2] at nmd
  have e1 : Same H (upd (upd (upd (upd H dx (.own x)) x (.ins (aR K) dx [])) md (.dT [])) x (.ins (aR K) dx [("met", .ref md)])) := same_set (same_set (same_set (same_upd ndx) nx) nmd) nx
  have xA : X0 G H G _ := Xt.of_same sG e1
  have hx1 : (upd (upd (upd (upd H dx (.own x)) x (.ins (aR K) dx [])) md (.dT [])) x (.ins (aR K) dx [("met", .ref md)])) x = some (.ins (aR K) dx [("met", .ref md)]) := upd_same
  have hm1 : (upd (upd (upd (upd H dx (.own x)) x (.ins (aR K) dx [])) md (.dT [])) x (.ins (aR K) dx [("met", .ref md)])) md = some (.dT []) := by rw [upd_ne md1, upd_same]
  generalize (upd (upd (upd (upd H dx (.own x)) x (.ins (aR K) dx [])) md (.dT [])) x (.ins (aR K) dx [("met", .ref md)])) = H1 at e1 xA hx1 hm1
  have gmd : G md = none := sG.free nmd
  refine ⟨_, rfl, x, dx, _, rfl, hx1, rfl, _, rfl, pr, _, 1, _, rfl, rfl, SqT.of (xA.sub _ _ hpr), atI_nat (j := 1) rfl, Nat.zero_le _, fun pl npl => ?_⟩
  have x1 := xA.trans (Xt.new (M := No) (o := .tup []) xA.sub npl)
  have y1 := Xt.new (M := No) (o := .tup []) xA.sub npl
  refine ⟨_, rfl, _, rfl, ns, pr, hd, wl, .ref tr, hs, ws, rfl, hn, x1.same _ _ (sG _ _ hpr), x1.same _ _ (sG _ _ hhd), ?_, x1.same _ _ hwl, hl, fun nd kvs H2 e2 nnd hnd hval => ?_⟩
  · exact L2.Paired.mapP hPh fun n h ⟨ha, kv, e, g⟩ => ⟨ha, kv, e, x1.same _ _ (sG _ _ g)⟩
  have x2 := x1.trans (Xt.of_same (M := No) x1.sub e2)
  have y2 := y1.trans (Xt.of_same (M := No) y1.sub e2)
  refine ⟨Nat.zero_le _, fun tu ntu => ?_⟩
  have x3 := x2.trans (Xt.new (M := No) (o := .tup []) x2.sub ntu)
  have y3 := y2.trans (Xt.new (M := No) (o := .tup []) y2.sub ntu)
  have z3 := Xt.new (M := No) (o := .tup []) y2.sub ntu
  refine ⟨Nat.zero_le _, fun ro nro => ?_⟩
  have x4 := x3.trans (Xt.new (M := No) (o := .tup []) x3.sub nro)
  have y4 := y3.trans (Xt.new (M := No) (o := .tup []) y3.sub nro)
  have z4 := Xt.new (M := No) (o := .tup []) y3.sub nro
  have gpl := z4.g _ _ (z3.g _ _ (upd_same (H := G) (a := pl) (o := .tup [])))
  have gtu := z4.g _ _ (upd_same (H := upd G pl (.tup [])) (a := tu) (o := .tup []))
  refine ⟨_, sg, tt, x, dx, md, tr, pl, nd, tu, ro, rest, ws, kvs, rfl, x4.sub, y4.hid hm1 gmd, y4.same _ _ hx1, y4.same _ _ hm1, x4.g _ _ htr, ?_, ?_, z4.same _ _ (z3.same _ _ hnd), SqT.of (x4.sub _ _ gpl), SqT.of (x4.sub _ _ gtu), SqT.of upd_same, RepsT.mono x4.g hT, hz, hN, hdd, fun ho v G5 H5 x5 r5 => ?_, fun z ho dd G5 H5 x5 ndd hxd => ?_⟩
  · have h1 := Paired.length hPt
    rcases hn with rfl | rfl
    · show rest.length ≤ 2
      rw [← h1]
      decide
    · show rest.length ≤ 2
      rw [← h1]
      decide
  · refine pr_of (by rw [hl, ← Paired.length hPt]) fun i v p hvi hpi => ?_
    obtain ⟨n, hni, pa, e, g⟩ := pr_getR hPt hpi
    exact ⟨pa, n, e, x4.g _ _ g, hval i n v hni hvi⟩
  · have x6 := Xt.drop x4 x5 fun c hc => by rw [hc]; exact nmd
    refine ⟨G5, sg.res, sg.vl tt, v, rfl, x5.sub, r5, hzr ho, hdd, fun v2 G6 H6 x7 r7 => ⟨by show 2 ≤ sizeLine; decide, fun p np => ?_⟩⟩
    have x8 := Xt.new (M := No) (o := .tup [.str "is", v2]) x7.sub np
    exact ⟨_, rfl, qn ho p v2 _ _ ((x6.trans x7).trans x8) upd_same (Rep.mono x8.g r7)⟩
  · refine ⟨true, T.exm, fun _ ea na => ?_, fun h => by cases h⟩
    refine ⟨_, rfl, rfl, rfl, dd, _, .str z, rfl, hxd, rfl, _, rfl, rfl, rfl, dd, _, .ref pl, rfl, hxd, rfl, _, rfl, rfl, rfl, dd, _, .ref tu, rfl, hxd, rfl, by show 4 ≤ sizeLine; decide, fun p np => ?_⟩
    have x8 := Xt.new (M := No) (o := .tup [.str "stops", .str z, .ref pl, .ref tu]) x5.sub np
    exact ⟨_, rfl, qs z ho p pl tu _ _ ((x4.trans x5).trans x8) upd_same (x8.g _ _ (x5.g _ _ gpl)) (x8.g _ _ (x5.g _ _ gtu))⟩
end
end Bw
namespace Bw
open PySem PySem.Spec PyProof.Rows L2
open C8 (Cal pe_c)
theorem iteE {b : Bool} {A B : Prop} (h1 : b = true → A) (h2 : b = false → B) : if b = true then A else B := by
  cases b with
  | true => exact iteT (h1 rfl)
  | false => exact iteF (h2 rfl)
theorem cm1 (a b : Int) : CMul (a % 999983 + 3) b := .inl ⟨by omega, by omega⟩
theorem cm2 (a b : Int) : CMul (a % 1000003) b := .inl ⟨by omega, by omega⟩
/-! ### the tape -/
def TpL (G H : Hp) (t : Addr) (c : Nat) (ok : Int → Prop) : Prop := G t = none ∧ ∃ (a0 : Addr) (xs : List Int) (spot : Nat) (rest left : Int), G a0 = some (.lst (xs.map V.int)) ∧ H t = some (.lst [.ref a0, nV spot, .int rest, .int left]) ∧ spot ≤ c ∧ ok left
def Tp (G H : Hp) (t : Addr) (c : Nat) : Prop := TpL G H t c fun _ => True
abbrev At (t : Addr) : Addr → Prop := fun a => a = t
abbrev CMAX : Nat := 1000000000000000000
theorem Tp.le {G H : Hp} {t : Addr} {c c' : Nat} (h : Tp G H t c) (l : c ≤ c') : Tp G H t c' := by
  obtain ⟨g, a0, xs, spot, rest, left, h1, h2, h3, _⟩ := h
  exact ⟨g, a0, xs, spot, rest, left, h1, h2, Nat.le_trans h3 l, trivial⟩
theorem Tp.on {G H G' H' : Hp} {t : Addr} {c : Nat} (h : Tp G H t c) (x : X0 G H G' H') : Tp G' H' t c := by
  obtain ⟨g, a0, xs, spot, rest, left, h1, h2, h3, _⟩ := h
  exact ⟨x.hid h2 g, a0, xs, spot, rest, left, x.g _ _ h1, x.same _ _ h2, h3, trivial⟩
theorem Tp.ne {G H : Hp} {t : Addr} {c : Nat} (h : Tp G H t c) : H t ≠ none := by
  obtain ⟨g, a0, xs, spot, rest, left, h1, h2, h3, _⟩ := h
  exact some_ne h2
theorem Tp.put {G H : Hp} {t : Addr} {c : Nat} (h : Tp G H t c) {D : Addr} {o : HO} (n : D ≠ t) : Tp G (upd H D o) t c := by
  obtain ⟨g, a0, xs, spot, rest, left, h1, h2, h3, _⟩ := h
  exact ⟨g, a0, xs, spot, rest, left, h1, by rw [upd_ne n.symm]; exact h2, h3, trivial⟩
def spDrawL (ok : Int → Prop) (e : Nat) : Sp := fun vs H Q _ => ∃ (G : Hp) (t : Addr) (c : Nat) (m : Int), vs = [.ref t, .int m] ∧ Same G H ∧ TpL G H t c ok ∧ c + e ≤ CMAX + 1 ∧ 0 < m ∧ m ≤ 1000000 ∧ ∀ (r : Int) (H' : Hp), Xt (At t) G H G H' → Tp G H' t (c + e) → 0 ≤ r → r < m → Q (.int r) H'
abbrev spDraw : Sp := spDrawL (fun _ => True) 1
abbrev N_law_draw : List PySem.Str := ["tape", "many", "spot", "cell", "number", "rest"]
theorem sc_law_draw : FnScope N_law_draw ["tape", "many"] (defScope s_law_draw) := ⟨rfl, rfl, rfl, by decide +kernel, rfl, by decide +kernel, by decide +kernel⟩
section
variable {P : Program} {w : World} {K : PySem.W.Frag} {mg : Str → Option Value} {base : Heap}
theorem c_law_draw0 (T : Txt K mg) : Cal P w K mg base 1 "_law_draw" (spDrawL (fun i => 0 < i) 0) [] := by
  refine cal_of (d := d_law_draw) T (mem_fn 42) rfl (mem_fa 42) rfl rfl sc_law_draw (fun _ _ _ _ _ _ us hl => match us, hl with | [_, _], _ => rfl) (fun vs H Q E h => ?_) (fun cdv A outer s H vs Q E f hr h => ?_)
  · obtain ⟨G, t, c, m, rfl, _⟩ := h
    rfl
  obtain ⟨G, t, c, m, rfl, sG, ⟨gt, a0, xs, spot, rest, left, ga, ht, hs, hl⟩, hc, m0, m1, q⟩ := h
  refine ⟨_, (pss_cons (ps_if (pt_cmpR op_gt (pe_ix i_list (pv 0) pe_int (fun _ _ => rfl)) pe_int (nomark _)) (pss_cons (ps_asg (pe_op op_sub (pe_ix i_list (pv 0) pe_int (fun _ _ => rfl)) pe_int) (pg_sub (pv 0) pe_int set_list))
      (pss_cons (ps_set (i := 5) sc_law_draw.nd rfl (.inl rfl) (pe_ix i_list (pv 0) pe_int (fun _ _ => rfl)))
      (pss_cons (ps_asg (pe_op op_fdiv (pv 5) (pv 1)) (pg_sub (pv 0) pe_int set_list))
      (pss_one (ps_ret (pe_op op_mod (pv 5) (pv 1))))))) pss_nil)
      pss_never), ?_⟩
  refine ⟨_, rfl, t, _, 3, _, rfl, rfl, SqL.of ht, atI_nat (j := 3) rfl, _, _, rfl, rfl, _, rfl, ?_⟩
  rw [decide_eq_true (show left > 0 from hl)]
  refine iteT ⟨_, rfl, t, _, 3, _, rfl, rfl, SqL.of ht, atI_nat (j := 3) rfl, _, _, rfl, rfl, _, rfl, t, _, 3, 3, rfl, rfl, ht, rfl, ?_⟩
  refine ⟨_, rfl, t, _, 2, _, rfl, rfl, SqL.of upd_same, atI_nat (j := 2) rfl, _, rfl, _, rfl, _, _, rfl, rfl, ⟨m0, by omega⟩, _, rfl, t, _, 2, 2, rfl, rfl, upd_same, rfl, ?_⟩
  refine ⟨_, rfl, _, rfl, _, _, rfl, rfl, m0, ?_⟩
  exact q _ _ (((Xt.refl (M := At t) sG).mset rfl gt).mset rfl gt) ⟨gt, a0, xs, spot, rest / m, left - 1, ga, upd_same, hs, trivial⟩ (Int.emod_nonneg _ (by omega)) (Int.emod_lt_of_pos _ m0)
theorem c_law_draw (T : Txt K mg) : Cal P w K mg base 2 "_law_draw" spDraw [] := by
  have c_law_draw := c_law_draw0 (P := P) (w := w) (base := base) T
  refine cal_of (d := d_law_draw) T (mem_fn 42) rfl (mem_fa 42) rfl rfl sc_law_draw (fun _ _ _ _ _ _ us hl => match us, hl with | [_, _], _ => rfl) (fun vs H Q E h => ?_) (fun cdv A outer s H vs Q E f hr h => ?_)
  · obtain ⟨G, t, c, m, rfl, _⟩ := h
    rfl
  obtain ⟨G, t, c, m, rfl, sG, ⟨gt, a0, xs, spot, rest, left, ga, ht, hs, -⟩, hc, m0, m1, q⟩ := h
  refine ⟨_, (pss_cons (ps_if (pt_cmpR op_gt (pe_ix i_list (pv 0) pe_int (fun _ _ => rfl)) pe_int (nomark _)) (pss_cons (ps_asg (pe_op op_sub (pe_ix i_list (pv 0) pe_int (fun _ _ => rfl)) pe_int) (pg_sub (pv 0) pe_int set_list))
      (pss_cons (ps_set (i := 5) sc_law_draw.nd rfl (.inl rfl) (pe_ix i_list (pv 0) pe_int (fun _ _ => rfl)))
      (pss_cons (ps_asg (pe_op op_fdiv (pv 5) (pv 1)) (pg_sub (pv 0) pe_int set_list))
      (pss_one (ps_ret (pe_op op_mod (pv 5) (pv 1))))))) pss_nil)
      (pss_cons (ps_set (i := 2) sc_law_draw.nd rfl (.inl rfl) (pe_ix i_list (pv 0) pe_int (fun _ _ => rfl)))
      (pss_cons (ps_asg (pe_op op_add (pv 2) pe_int) (pg_sub (pv 0) pe_int set_list))
      (pss_cons (ps_set (i := 3) sc_law_draw.nd rfl (.inl rfl) pe_int)
      (pss_cons (ps_if (pt_cmpR op_gt (e_len T.len (pe_ix i_list (pv 0) pe_int (fun _ _ => rfl))) pe_int (nomark _)) (pss_one (ps_set (i := 3) sc_law_draw.nd rfl (.inl rfl) (pe_ix i_list (pe_ix i_list (pv 0) pe_int (fun _ _ => rfl)) (pe_op op_mod (pv 2) (e_len T.len (pe_ix i_list (pv 0) pe_int (fun _ _ => rfl)))) (fun _ _ => rfl)))) pss_nil)
      (pss_cons (ps_if (PW.pt (pw_and (pt_cmpR op_lt (pv 2) (e_len T.len (pe_ix i_list (pv 0) pe_int (fun _ _ => rfl))) (nomark _)) (pw_and1 (pt_cmpR op_ge (pv 3) (pe_op op_pow pe_int pe_int) (nomark _))))) (pss_cons (ps_asg (pe_op op_sub (pv 3) (pe_op op_pow pe_int pe_int)) (pg_sub (pv 0) pe_int set_list))
      (pss_cons (ps_asg pe_int (pg_sub (pv 0) pe_int set_list))
      (pss_one (ps_ret (pe_c c_law_draw hr (by decide) rfl (pa_cons (pv 0) (pa_cons (pv 1) pa_nil))))))) pss_nil)
      (pss_cons (ps_set (i := 4) sc_law_draw.nd rfl (.inl rfl) (pe_op op_mul (pe_op op_add (pe_op op_mod (pv 3) pe_int) pe_int) (pe_op op_add (pe_op op_add (pe_op op_mod (pe_op op_mul (pv 2) (pv 2)) pe_int) (pe_op op_mul pe_int (pv 2))) pe_int)))
      (pss_cons (ps_set (i := 4) sc_law_draw.nd rfl (.inl rfl) (pe_op op_mod (pe_op op_mul (pe_op op_mod (pv 4) pe_int) (pe_op op_mod (pv 4) pe_int)) pe_int))
      (pss_one (ps_ret (pe_op op_mod (pe_op op_mod (pe_op op_add (pe_op op_fdiv (pv 4) pe_int) (pe_op op_mul pe_int (pv 2))) pe_int) (pv 1)))))))))))), ?_⟩
  have hC : CMAX = 1000000000000000000 := rfl
  refine ⟨_, rfl, t, _, 3, _, rfl, rfl, SqL.of ht, atI_nat (j := 3) rfl, _, _, rfl, rfl, _, rfl, ?_⟩
  by_cases hl : left > 0
  · rw [decide_eq_true hl]
    refine iteT ⟨_, rfl, t, _, 3, _, rfl, rfl, SqL.of ht, atI_nat (j := 3) rfl, _, _, rfl, rfl, _, rfl, t, _, 3, 3, rfl, rfl, ht, rfl, ?_⟩
    refine ⟨_, rfl, t, _, 2, _, rfl, rfl, SqL.of upd_same, atI_nat (j := 2) rfl, _, rfl, _, rfl, _, _, rfl, rfl, ⟨m0, by omega⟩, _, rfl, t, _, 2, 2, rfl, rfl, upd_same, rfl, ?_⟩
    refine ⟨_, rfl, _, rfl, _, _, rfl, rfl, m0, ?_⟩
    exact q _ _ (((Xt.refl (M := At t) sG).mset rfl gt).mset rfl gt) ⟨gt, a0, xs, spot, rest / m, left - 1, ga, upd_same, by omega, trivial⟩ (Int.emod_nonneg _ (by omega)) (Int.emod_lt_of_pos _ m0)
  rw [decide_eq_false hl]
  refine iteF ⟨_, rfl, t, _, 1, _, rfl, rfl, SqL.of ht, atI_nat (j := 1) rfl, ?_⟩
  refine ⟨_, rfl, _, _, rfl, rfl, _, rfl, t, _, 1, 1, rfl, rfl, ht, rfl, ?_⟩
  have x1 := (Xt.refl (M := At t) sG).mset (o := .lst ([V.ref a0, nV spot, V.int rest, V.int left].set 1 (V.int ((spot : Int) + 1)))) rfl gt
  have h1 : (upd H t (.lst ([V.ref a0, nV spot, V.int rest, V.int left].set 1 (V.int ((spot : Int) + 1))))) t = some (.lst [.ref a0, nV (spot + 1), .int rest, .int left]) := upd_same
  generalize upd H t (.lst ([V.ref a0, nV spot, V.int rest, V.int left].set 1 (V.int ((spot : Int) + 1)))) = H1 at x1 h1
  have ga1 := x1.sub _ _ ga
  have p18 : (10 : Int) ^ (18 : Int).toNat = 1000000000000000000 := by decide
  have cp : CPow 10 18 := ⟨by decide, by decide, by decide⟩
  refine ⟨_, rfl, t, _, 0, _, rfl, rfl, SqL.of h1, atI_nat (j := 0) rfl, a0, _, rfl, .inl (SqL.of ga1), _, _, rfl, rfl, _, rfl, ?_⟩
  rw [List.length_map]
  by_cases hx : 0 < xs.length
  case' pos =>
    rw [decide_eq_true (show ((xs.length : Nat) : Int) > 0 by omega)]
    have hj : spot % xs.length < xs.length := Nat.mod_lt _ hx
    obtain ⟨cell, hcell⟩ : ∃ cell, xs[spot % xs.length]? = some cell := ⟨_, List.getElem?_eq_getElem hj⟩
    have hat : (xs.map V.int)[spot % xs.length]? = some (V.int cell) := by rw [List.getElem?_map, hcell]; rfl
    refine iteT ⟨_, rfl, t, _, 0, _, rfl, rfl, SqL.of h1, atI_nat (j := 0) rfl, _, rfl, _, rfl, t, _, 0, _, rfl, rfl, SqL.of h1, atI_nat (j := 0) rfl, a0, _, rfl, .inl (SqL.of ga1), _, _, rfl, rfl, by rw [List.length_map]; omega, ?_⟩
    rw [List.length_map]
    refine ⟨a0, _, ((spot % xs.length : Nat) : Int), _, rfl, by rw [Int.natCast_emod], SqL.of ga1, atI_nat hat, ?_⟩
  case' neg =>
    rw [decide_eq_false (show ¬ ((xs.length : Nat) : Int) > 0 by omega)]
    refine iteF ?_
  all_goals
    refine ⟨_, rfl, _, rfl, t, _, 0, _, rfl, rfl, SqL.of h1, atI_nat (j := 0) rfl, a0, _, rfl, .inl (SqL.of ga1), _, _, rfl, rfl, _, rfl, ?_⟩
    refine iteE (fun z => ⟨_, rfl, _, _, rfl, rfl, cp, _, _, rfl, rfl, _, rfl, iteE (fun y => ?_) fun y => ?_⟩) fun z => iteF ?_
    ·
      refine ⟨_, rfl, _, _, rfl, rfl, cp, _, _, rfl, rfl, _, rfl, t, _, 2, 2, rfl, rfl, h1, rfl, ?_⟩
      refine ⟨_, rfl, t, _, 3, 3, rfl, rfl, upd_same, rfl, ?_⟩
      refine ⟨_, rfl, _, rfl, G, t, c + 1, m, rfl, ((x1.mset rfl gt).mset rfl gt).sub, ⟨gt, a0, xs, spot + 1, _, 40, ga, upd_same, by omega, by decide⟩, by omega, m0, m1, fun r H3 x3 h3 r0 r1 => ?_⟩
      exact q r H3 (((x1.mset rfl gt).mset rfl gt).trans x3) h3 r0 r1
    all_goals
      refine ⟨_, rfl, _, _, rfl, rfl, (by show (0 : Int) < _; decide), _, _, rfl, rfl, _, rfl, _, rfl, _, _, rfl, rfl, .inl ⟨by omega, by omega⟩, _, _, rfl, rfl, (by show (0 : Int) < _; decide), _, rfl, _, _, rfl, rfl, .inl ⟨by decide, by decide⟩, _, _, rfl, rfl, _, _, rfl, rfl, _, _, rfl, rfl, cm1 _ _, ?_⟩
      refine ⟨_, rfl, _, _, rfl, rfl, (by show (0 : Int) < _; decide), _, rfl, _, _, rfl, rfl, (by show (0 : Int) < _; decide), _, _, rfl, rfl, cm2 _ _, _, _, rfl, rfl, (by show (0 : Int) < _; decide), ?_⟩
      refine ⟨_, rfl, _, _, rfl, rfl, ⟨by decide, by decide⟩, _, rfl, _, _, rfl, rfl, .inl ⟨by decide, by decide⟩, _, _, rfl, rfl, _, _, rfl, rfl, (by show (0 : Int) < _; decide), _, rfl, _, _, rfl, rfl, m0, ?_⟩
      exact q _ _ x1 ⟨gt, a0, xs, spot + 1, rest, left, ga, h1, by omega, trivial⟩ (Int.emod_nonneg _ (by omega)) (Int.emod_lt_of_pos _ m0)
end
end Bw
namespace Bw
open PySem PySem.Spec PyProof.Rows L2
open C8 (Cal pe_c)
section
variable {P : Program} {w : World} {K : PySem.W.Frag} {mg : Str → Option Value} {base : Heap}
def rP10 : R2 := fun x y H Q => x = .int 10 ∧ ((y = .int 18 ∧ Q (.int 1000000000000000000) H) ∨ (y = .int 12 ∧ Q (.int 1000000000000) H) ∨ (y = .int 6 ∧ Q (.int 1000000) H))
theorem op_p10 {X : Cx} : OpR X (binaryOp .Pow) rP10 := by
  intro pins s σ H x y v u Q I rx ry h
  obtain ⟨rfl, ⟨rfl, q⟩ | ⟨rfl, q⟩ | ⟨rfl, q⟩⟩ := h
  · exact op_pow pins s σ H _ _ v u Q I rx ry ⟨_, _, rfl, rfl, ⟨by decide, by decide, by decide⟩, by show Q (.int ((10 : Int) ^ (18 : Int).toNat)) H; rw [show (10 : Int) ^ (18 : Int).toNat = 1000000000000000000 by decide]; exact q⟩
  · exact op_pow pins s σ H _ _ v u Q I rx ry ⟨_, _, rfl, rfl, ⟨by decide, by decide, by decide⟩, by show Q (.int ((10 : Int) ^ (12 : Int).toNat)) H; rw [show (10 : Int) ^ (12 : Int).toNat = 1000000000000 by decide]; exact q⟩
  · exact op_pow pins s σ H _ _ v u Q I rx ry ⟨_, _, rfl, rfl, ⟨by decide, by decide, by decide⟩, by show Q (.int ((10 : Int) ^ (6 : Int).toNat)) H; rw [show (10 : Int) ^ (6 : Int).toNat = 1000000 by decide]; exact q⟩
abbrev NBi (i : Int) : Prop := -1000000000000000000 ≤ i ∧ i ≤ 1000000000000000000
def spLawNum : Sp := fun vs H Q _ => ∃ (G : Hp) (t : Addr) (c : Nat), vs = [.ref t] ∧ Same G H ∧ Tp G H t c ∧ c + 5 ≤ CMAX ∧ ∀ (i : Int) (H' : Hp), Xt (At t) G H G H' → Tp G H' t (c + 5) → NBi i → Q (.int i) H'
abbrev N_law_number : List PySem.Str := ["tape", "way", "great", "top"]
theorem sc_law_number : FnScope N_law_number ["tape"] (defScope s_law_number) := ⟨rfl, rfl, rfl, by decide +kernel, rfl, by decide +kernel, by decide +kernel⟩
theorem cmN {i j : Int} (h0 : 0 ≤ i) (h1 : i < 1000000) : CMul i j := .inl ⟨by omega, by omega⟩
theorem c_law_number (T : Txt K mg) (c_law_draw : Cal P w K mg base 2 "_law_draw" spDraw []) : Cal P w K mg base 3 "_law_number" spLawNum [] := by
  refine cal_of (d := d_law_number) T (mem_fn 43) rfl (mem_fa 43) rfl rfl sc_law_number (fun _ _ _ _ _ _ us hl => match us, hl with | [_], _ => rfl) (fun vs H Q E h => ?_) (fun cdv A outer s H vs Q E f hr h => ?_)
  · obtain ⟨G, t, c, rfl, _⟩ := h
    rfl
  obtain ⟨G, t, c, rfl, sG, tp, hc, q⟩ := h
  have hC : CMAX = 1000000000000000000 := rfl
  refine ⟨_, (pss_cons (ps_set (i := 1) sc_law_number.nd rfl (.inl rfl) (pe_c c_law_draw hr (by decide) rfl (pa_cons (pv 0) (pa_cons pe_int pa_nil))))
      (pss_cons (ps_if (pt_cmpR op_lt (pv 1) pe_int (nomark _)) (pss_one (ps_ret (pe_op op_sub (pe_c c_law_draw hr (by decide) rfl (pa_cons (pv 0) (pa_cons pe_int pa_nil))) pe_int))) pss_nil)
      (pss_cons (ps_if (pt_cmpR op_eq (pv 1) pe_int (nomark _)) (pss_cons (ps_set (i := 3) sc_law_number.nd rfl (.inl rfl) (pe_op op_p10 pe_int pe_int))
      (pss_one (ps_ret (pe_ix i_list (pe_lst (pa_cons (pv 3) (pa_cons (pe_op op_sub pe_int (pv 3)) (pa_cons (pe_op op_sub (pv 3) pe_int) (pa_cons (pe_op op_sub pe_int (pv 3)) (pa_cons pe_int pa_nil)))))) (pe_c c_law_draw hr (by decide) rfl (pa_cons (pv 0) (pa_cons pe_int pa_nil))) (fun _ _ => rfl))))) pss_nil)
      (pss_cons (ps_set (i := 2) sc_law_number.nd rfl (.inl rfl) (pe_op op_mul (pe_c c_law_draw hr (by decide) rfl (pa_cons (pv 0) (pa_cons (pe_op op_p10 pe_int pe_int) pa_nil))) (pe_op op_p10 pe_int pe_int)))
      (pss_cons (ps_set (i := 2) sc_law_number.nd rfl (.inl rfl) (pe_op op_add (pv 2) (pe_op op_mul (pe_c c_law_draw hr (by decide) rfl (pa_cons (pv 0) (pa_cons (pe_op op_p10 pe_int pe_int) pa_nil))) (pe_op op_p10 pe_int pe_int))))
      (pss_cons (ps_set (i := 2) sc_law_number.nd rfl (.inl rfl) (pe_op op_add (pv 2) (pe_c c_law_draw hr (by decide) rfl (pa_cons (pv 0) (pa_cons (pe_op op_p10 pe_int pe_int) pa_nil)))))
      (pss_one (ps_ret (pe_op op_mul (pv 2) (pe_op op_sub pe_int (pe_op op_mul pe_int (pe_c c_law_draw hr (by decide) rfl (pa_cons (pv 0) (pa_cons pe_int pa_nil)))))))))))))), ?_⟩
  refine ⟨_, rfl, G, t, c, 6, rfl, sG, tp, by omega, by decide, by decide, fun way H1 x1 t1 w0 w1 => ?_⟩
  refine ⟨_, rfl, _, _, rfl, rfl, _, rfl, iteE (fun _ => ?_) fun _ => ?_⟩
  · refine ⟨_, rfl, G, t, _, 19, rfl, x1.sub, t1, by omega, by decide, by decide, fun r H2 x2 t2 r0 r1 => ⟨_, _, rfl, rfl, ?_⟩⟩
    exact q _ H2 (x1.trans x2) (t2.le (by omega)) ⟨by show _ ≤ r - 9; omega, by show r - 9 ≤ _; omega⟩
  refine ⟨_, rfl, rfl, _, rfl, iteE (fun _ => ?_) fun _ => ?_⟩
  · refine ⟨rfl, .inl ⟨rfl, _, rfl, _, rfl, _, _, rfl, rfl, _, rfl, _, _, rfl, rfl, _, rfl, _, _, rfl, rfl, by show 5 ≤ sizeLine; decide, fun p np => ?_⟩⟩
    have x2 := x1.trans (Xt.loc (M := At t) (o := .lst [V.int 1000000000000000000, V.int (0 - 1000000000000000000), V.int (1000000000000000000 - 1), V.int (1 - 1000000000000000000), V.int 0]) x1.sub np)
    refine ⟨_, rfl, G, t, _, 5, rfl, x2.sub, t1.on (Xt.loc x1.sub np), by omega, by decide, by decide, fun r H2 x3 t2 r0 r1 => ?_⟩
    have hat : ∃ i : Int, NBi i ∧ atI [V.int 1000000000000000000, V.int (0 - 1000000000000000000), V.int (1000000000000000000 - 1), V.int (1 - 1000000000000000000), V.int 0] r = some (V.int i) := by
      obtain rfl | rfl | rfl | rfl | rfl : r = 0 ∨ r = 1 ∨ r = 2 ∨ r = 3 ∨ r = 4 := by omega
      · exact ⟨_, ⟨by decide, by decide⟩, atI_nat (j := 0) rfl⟩
      · exact ⟨_, ⟨by decide, by decide⟩, atI_nat (j := 1) rfl⟩
      · exact ⟨_, ⟨by decide, by decide⟩, atI_nat (j := 2) rfl⟩
      · exact ⟨_, ⟨by decide, by decide⟩, atI_nat (j := 3) rfl⟩
      · exact ⟨_, ⟨by decide, by decide⟩, atI_nat (j := 4) rfl⟩
    obtain ⟨i, hi, ha⟩ := hat
    have hp : H2 p = some _ := x3.old p _ (fun z => by rw [show p = t from z] at np; exact t1.ne np) upd_same
    exact ⟨p, _, r, _, rfl, rfl, SqL.of hp, ha, q i H2 (x2.trans x3) (t2.le (by omega)) hi⟩
  refine ⟨_, rfl, rfl, .inr (.inr ⟨rfl, ?_⟩)⟩
  refine ⟨G, t, _, 1000000, rfl, x1.sub, t1, by omega, by decide, by decide, fun a H2 x2 t2 a0 a1 => ⟨rfl, .inr (.inl ⟨rfl, ?_⟩)⟩⟩
  refine ⟨_, _, rfl, rfl, cmN a0 a1, ?_⟩
  refine ⟨_, rfl, _, rfl, rfl, .inr (.inr ⟨rfl, ?_⟩)⟩
  refine ⟨G, t, _, 1000000, rfl, x2.sub, t2, by omega, by decide, by decide, fun b H3 x3 t3 b0 b1 => ⟨rfl, .inr (.inr ⟨rfl, ?_⟩)⟩⟩
  refine ⟨_, _, rfl, rfl, cmN b0 b1, _, _, rfl, rfl, ?_⟩
  refine ⟨_, rfl, _, rfl, rfl, .inr (.inr ⟨rfl, ?_⟩)⟩
  refine ⟨G, t, _, 1000000, rfl, x3.sub, t3, by omega, by decide, by decide, fun d H4 x4 t4 d0 d1 => ⟨_, _, rfl, rfl, ?_⟩⟩
  refine ⟨_, rfl, _, rfl, G, t, _, 2, rfl, x4.sub, t4, by omega, by decide, by decide, fun e H5 x5 t5 e0 e1 => ⟨_, _, rfl, rfl, .inl ⟨by decide, by decide⟩, _, _, rfl, rfl, _, _, rfl, rfl, .inr ?_, ?_⟩⟩
  · show -(2 ^ 64) < 1 - 2 * e ∧ 1 - 2 * e < 2 ^ 64
    omega
  refine q _ H5 ((((x1.trans x2).trans x3).trans x4).trans x5) (t5.le (by omega)) ?_
  show NBi ((a * 1000000000000 + b * 1000000 + d) * (1 - 2 * e))
  obtain rfl | rfl : e = 0 ∨ e = 1 := by omega
  · exact ⟨by omega, by omega⟩
  · exact ⟨by omega, by omega⟩
end
end Bw
namespace Bw
open PySem PySem.Spec PyProof.Rows L2
open C8 (Cal pe_c)
section
variable {P : Program} {w : World} {K : PySem.W.Frag} {mg : Str → Option Value} {base : Heap}
def spKind (K : PySem.W.Frag) (j : Nat) : Sp := fun vs H Q _ => ∃ (G : Hp) (t : Addr) (c n : Nat), vs = [.ref t, .int n] ∧ 1 ≤ n ∧ n ≤ j ∧ Same G H ∧ Tp G H t c ∧ c + 2 ^ n ≤ CMAX ∧ ∀ (k : Kd) (v : V) (G' H' : Hp), Xt (At t) G H G' H' → KRep K G' k v → k.dep ≤ n → Tp G' H' t (c + (2 ^ n - 1)) → Q v H'
abbrev N_law_kind : List PySem.Str := ["tape", "left", "way", "one"]
theorem sc_law_kind : FnScope N_law_kind ["tape", "left"] (defScope s_law_kind) := ⟨rfl, rfl, rfl, by decide +kernel, rfl, by decide +kernel, by decide +kernel⟩
theorem c_law_kind1 {j : Nat} (T : Txt K mg) (c_law_draw : Cal P w K mg base 2 "_law_draw" spDraw []) (c_law_kind : Cal P w K mg base (j + 2) "_law_kind" (spKind K j) []) : Cal P w K mg base (j + 3) "_law_kind" (spKind K (j + 1)) [] := by
  refine cal_of (d := d_law_kind) T (mem_fn 44) rfl (mem_fa 44) rfl rfl sc_law_kind (fun _ _ _ _ _ _ us hl => match us, hl with | [_, _], _ => rfl) (fun vs H Q E h => ?_) (fun cdv A outer s H vs Q E f hr h => ?_)
  · obtain ⟨G, t, c, n, rfl, _⟩ := h
    rfl
  obtain ⟨G, t, c, n, rfl, n1, nj, sG, tp, hc, q⟩ := h
  have hC : CMAX = 1000000000000000000 := rfl
  refine ⟨_, (pss_cons (ps_set (i := 2) sc_law_kind.nd rfl (.inl rfl) (pe_c c_law_draw hr (by omega) rfl (pa_cons (pv 0) (pa_cons pe_int pa_nil))))
      (pss_cons (ps_if (PW.pt (pw_or (pt_cmpR op_eq (pv 1) pe_int (nomark _)) (pw_or1 (pt_cmpR op_lt (pv 2) pe_int (nomark _))))) (pss_one (ps_ret (pe_ix i_list (pe_lst (pa_cons (pe_tup (pa_cons pe_str pa_nil)) (pa_cons (pe_tup (pa_cons pe_str pa_nil)) pa_nil))) (pe_op op_mod (pv 2) pe_int) (fun _ _ => rfl)))) pss_nil)
      (pss_cons (ps_if (pt_cmpR op_lt (pv 2) pe_int (nomark _)) (pss_cons (ps_set (i := 3) sc_law_kind.nd rfl (.inl rfl) (pe_c c_law_kind hr (Nat.le_refl _) rfl (pa_cons (pv 0) (pa_cons (pe_op op_sub (pv 1) pe_int) pa_nil))))
      (pss_one (ps_ret (pe_tup (pa_cons pe_str (pa_cons (pv 3) (pa_cons (pe_c c_law_kind hr (Nat.le_refl _) rfl (pa_cons (pv 0) (pa_cons (pe_op op_sub (pv 1) pe_int) pa_nil))) pa_nil))))))) pss_nil)
      (pss_one (ps_ret (pe_tup (pa_cons pe_str (pa_cons (pe_c c_law_kind hr (Nat.le_refl _) rfl (pa_cons (pv 0) (pa_cons (pe_op op_sub (pv 1) pe_int) pa_nil))) pa_nil)))))))), ?_⟩
  have hp : 2 ≤ 2 ^ n := by
    have := Nat.pow_le_pow_right (n := 2) (by decide) n1
    omega
  have leaf : ∀ (way : Int) (H1 : Hp), Xt (At t) G H G H1 → Tp G H1 t (c + 1) → ∀ p1 p2 D, H1 p1 = none → (upd H1 p1 (.tup [.str "num"])) p2 = none → (upd (upd H1 p1 (.tup [.str "num"])) p2 (.tup [.str "truth"])) D = none →
      ∃ i, atI [V.ref p1, .ref p2] (way % 2) = some i ∧ Q i (upd (upd (upd H1 p1 (.tup [.str "num"])) p2 (.tup [.str "truth"])) D (.lst [.ref p1, .ref p2])) := fun way H1 x1 t1 p1 p2 D n1' n2 nD => by
    have y1 := Xt.new (M := At t) (o := .tup [.str "num"]) x1.sub n1'
    have y2 := Xt.new (M := At t) (o := .tup [.str "truth"]) y1.sub n2
    have z1 := Xt.new (M := No) (o := .tup [.str "num"]) x1.sub n1'
    have z2 := Xt.new (M := No) (o := .tup [.str "truth"]) z1.sub n2
    have y3 := Xt.loc (M := At t) (o := .lst [.ref p1, .ref p2]) y2.sub nD
    have t2 := ((t1.on z1).on z2).on (Xt.loc (o := .lst [.ref p1, .ref p2]) z2.sub nD)
    obtain h | h : way % 2 = 0 ∨ way % 2 = 1 := by omega
    · rw [h]
      exact ⟨_, atI_nat (j := 0) rfl, q .num _ _ _ (((x1.trans y1).trans y2).trans y3) ⟨p1, rfl, SqT.of (y2.g _ _ upd_same)⟩ n1 (t2.le (by omega))⟩
    · rw [h]
      exact ⟨_, atI_nat (j := 1) rfl, q .truth _ _ _ (((x1.trans y1).trans y2).trans y3) ⟨p2, rfl, SqT.of upd_same⟩ n1 (t2.le (by omega))⟩
  refine ⟨_, rfl, G, t, c, 6, rfl, sG, tp, by omega, by decide, by decide, fun way H1 x1 t1 w0 w1 => ?_⟩
  refine ⟨_, rfl, rfl, _, rfl, iteE (fun _ => iteT ?_) fun hn => ⟨_, rfl, _, _, rfl, rfl, _, rfl, iteE (fun _ => ?_) fun _ => ?_⟩⟩
  · refine ⟨by show 1 ≤ sizeLine; decide, fun p1 np1 => ⟨by show 1 ≤ sizeLine; decide, fun p2 np2 => ⟨by show 2 ≤ sizeLine; decide, fun D nD => ?_⟩⟩⟩
    obtain ⟨i, h1, h2⟩ := leaf way H1 x1 t1 p1 p2 D np1 np2 nD
    exact ⟨_, rfl, _, _, rfl, rfl, by show (0 : Int) < 2; decide, D, _, way % 2, _, rfl, rfl, SqL.of upd_same, h1, h2⟩
  · refine ⟨by show 1 ≤ sizeLine; decide, fun p1 np1 => ⟨by show 1 ≤ sizeLine; decide, fun p2 np2 => ⟨by show 2 ≤ sizeLine; decide, fun D nD => ?_⟩⟩⟩
    obtain ⟨i, h1, h2⟩ := leaf way H1 x1 t1 p1 p2 D np1 np2 nD
    exact ⟨_, rfl, _, _, rfl, rfl, by show (0 : Int) < 2; decide, D, _, way % 2, _, rfl, rfl, SqL.of upd_same, h1, h2⟩
  have hn1 : n ≠ 1 := fun z => by
    have := of_decide_eq_false hn
    exact this (by rw [z]; rfl)
  obtain ⟨m, rfl⟩ : ∃ m, n = m + 1 := ⟨n - 1, by omega⟩
  have e1 : ((m + 1 : Nat) : Int) - 1 = (m : Nat) := by omega
  have hpm : 2 ^ (m + 1) = 2 ^ m + 2 ^ m := by rw [Nat.pow_succ]; omega
  have hp1 : 2 ≤ 2 ^ m := by
    have := Nat.pow_le_pow_right (n := 2) (by decide) (show 1 ≤ m by omega)
    omega
  refine ⟨_, rfl, _, _, rfl, rfl, _, rfl, iteE (fun _ => ?_) fun _ => ?_⟩
  · refine ⟨_, rfl, _, rfl, _, _, rfl, rfl, G, t, _, m, by show [V.ref t, V.int (((m + 1 : Nat) : Int) - 1)] = _; rw [e1], by omega, by omega, x1.sub, t1, by omega, fun k v G2 H2 x2 k2 d2 t2 => ?_⟩
    refine ⟨_, rfl, _, rfl, _, rfl, _, _, rfl, rfl, G2, t, _, m, by show [V.ref t, V.int (((m + 1 : Nat) : Int) - 1)] = _; rw [e1], by omega, by omega, x2.sub, t2, by omega, fun l u G3 H3 x3 k3 d3 t3 => ?_⟩
    refine ⟨by show 3 ≤ sizeLine; decide, fun p np => ?_⟩
    have x4 := Xt.new (M := At t) (o := .tup [.str "pair", v, u]) x3.sub np
    exact q (.pair k l) _ _ _ (((x1.trans x2).trans x3).trans x4) ⟨p, v, u, rfl, SqT.of upd_same, KRep.mono x4.g (KRep.mono x3.g k2), KRep.mono x4.g k3⟩ (by show max k.dep l.dep + 1 ≤ m + 1; omega) ((t3.on (Xt.new x3.sub np)).le (by omega))
  · refine ⟨_, rfl, _, rfl, _, _, rfl, rfl, G, t, _, m, by show [V.ref t, V.int (((m + 1 : Nat) : Int) - 1)] = _; rw [e1], by omega, by omega, x1.sub, t1, by omega, fun k v G2 H2 x2 k2 d2 t2 => ?_⟩
    refine ⟨by show 2 ≤ sizeLine; decide, fun p np => ?_⟩
    have x4 := Xt.new (M := At t) (o := .tup [.str "row", v]) x2.sub np
    exact q (.row k) _ _ _ ((x1.trans x2).trans x4) ⟨p, v, rfl, SqT.of upd_same, KRep.mono x4.g k2⟩ (by show k.dep + 1 ≤ m + 1; omega) ((t2.on (Xt.new x2.sub np)).le (by omega))
theorem c_law_kind (T : Txt K mg) (c_law_draw : Cal P w K mg base 2 "_law_draw" spDraw []) : ∀ j, Cal P w K mg base (j + 3) "_law_kind" (spKind K (j + 1)) []
  | 0 => c_law_kind1 T c_law_draw (by
    refine cal_of (d := d_law_kind) T (mem_fn 44) rfl (mem_fa 44) rfl rfl sc_law_kind (fun _ _ _ _ _ _ us hl => match us, hl with | [_, _], _ => rfl) (fun vs H Q E h => ?_) (fun cdv A outer s H vs Q E f hr h => ?_)
    · obtain ⟨G, t, c, n, rfl, _⟩ := h
      rfl
    obtain ⟨G, t, c, n, rfl, n1, nj, _⟩ := h
    omega)
  | j + 1 => c_law_kind1 T c_law_draw (c_law_kind T c_law_draw j)
end
end Bw
namespace Bw
open PySem PySem.Spec PyProof.Rows L2
open C8 (Cal pe_c)
theorem Tp.pub {G H : Hp} {t D : Addr} {c : Nat} {o : HO} (h : Tp G H t c) (g : G D = none) (n : D ≠ t) : Tp (upd G D o) H t c := by
  obtain ⟨gt, a0, xs, spot, rest, left, h1, h2, h3, _⟩ := h
  exact ⟨by rw [upd_ne n.symm]; exact gt, a0, xs, spot, rest, left, by rw [upd_ne (ne_of_none h1 g)]; exact h1, h2, h3, trivial⟩
def cst : Nat → Nat
  | 0 => 5
  | d + 1 => 3 + 201 * cst d
def sz : Bool → Nat → Nat
  | false, d => 4 ^ d
  | true, d => 201 * 2 ^ d
theorem cst_pos : ∀ d, 5 ≤ cst d
  | 0 => Nat.le_refl _
  | d + 1 => by
    have h := cst_pos d
    show 5 ≤ 3 + 201 * cst d
    omega
theorem sz_mono (b : Bool) {d e : Nat} (h : d ≤ e) : sz b d ≤ sz b e := by
  cases b with
  | false => exact Nat.pow_le_pow_right (by decide) h
  | true => exact Nat.mul_le_mul_left _ (Nat.pow_le_pow_right (by decide) h)
theorem sz_pos (b : Bool) (d : Nat) : 1 ≤ sz b d := by
  cases b with
  | false => exact Nat.one_le_pow _ _ (by decide)
  | true =>
    have := Nat.one_le_pow d 2 (by decide)
    show 1 ≤ 201 * 2 ^ d
    omega
theorem sz_pair (b : Bool) (d e : Nat) : sz b d + sz b e ≤ sz b (max d e + 1) := by
  have h1 := sz_mono b (Nat.le_max_left d e)
  have h2 := sz_mono b (Nat.le_max_right d e)
  have h3 : 2 * sz b (max d e) ≤ sz b (max d e + 1) := by
    cases b with
    | false =>
      show 2 * 4 ^ (max d e) ≤ 4 ^ (max d e + 1)
      rw [Nat.pow_succ]
      omega
    | true =>
      show 2 * (201 * 2 ^ (max d e)) ≤ 201 * 2 ^ (max d e + 1)
      rw [Nat.pow_succ]
      omega
  omega
theorem sz_row3 (b : Bool) {d : Nat} (hd : d + 1 ≤ 5) {n : Nat} (hn : n ≤ 3) : n * sz false d + 1 ≤ sz b (d + 1) := by
  have h0 : n * sz false d ≤ 3 * sz false d := Nat.mul_le_mul_right _ hn
  have h : 3 * sz false d + 1 ≤ sz b (d + 1) := by
    have hd : d = 0 ∨ d = 1 ∨ d = 2 ∨ d = 3 ∨ d = 4 := by omega
    rcases hd with rfl | rfl | rfl | rfl | rfl <;> cases b <;> decide
  omega
theorem sz_row200 {n : Nat} (hn : n ≤ 200) : n * sz false 1 + 1 ≤ sz true 2 := by
  show n * 4 + 1 ≤ 804
  omega
theorem KRep.len {K : PySem.W.Frag} {G : Hp} : ∀ {k : Kd} {v : V}, KRep K G k v → ∃ a xs, v = .ref a ∧ SqT K G a xs ∧ (xs.length = 1 → k.dep = 1)
  | .num, _, ⟨a, h, s⟩ => ⟨a, _, h, s, fun _ => rfl⟩
  | .truth, _, ⟨a, h, s⟩ => ⟨a, _, h, s, fun _ => rfl⟩
  | .pair k l, _, ⟨a, x, y, h, s, h1, h2⟩ => ⟨a, _, h, s, fun z => by cases z⟩
  | .row k, _, ⟨a, x, h, s, h1⟩ => ⟨a, _, h, s, fun z => by cases z⟩
section
variable {P : Program} {w : World} {K : PySem.W.Frag} {mg : Str → Option Value} {base : Heap}
/-- a def with one default (True) keeps its promise in both forms of calls -/
theorem cal_ofW {N : List Str} {k : Nat} {sp : Sp} (T : Txt K mg) (S : FnScope N ["tape", "kind", "long"] (defScope s_law_worth))
    (len : ∀ vs H Q E, sp vs H Q E → vs.length = 3)
    (hbody : ∀ (cdv : Value) (A : Around) (outer : List Env) (s : Shared) (H : Hp) (vs : List V) (Q : VK) (E : XK) (f : Addr), Room k (A.deeper (envOfC d_law_worth.qual d_law_worth.scope s.heap.objs.size f cdv)) → sp vs H Q E →
      ∃ t, PSs (cxOf C8.CX0 P w K mg base N d_law_worth.qual d_law_worth.scope f cdv A outer s H E).nox d_law_worth.body t ∧ t { nx := fun _ H' => Q .non H', rt := Q } (start N vs) H) :
    Cal P w K mg base (k + 1) "_law_worth" sp [] ∧ Cal P w K mg base (k + 1) "_law_worth" sp [.bl true] := by
  obtain ⟨fd, F⟩ := T.d d_law_worth (mem_fn 45)
  have e0 : d_law_worth.dvs K = [.bl true] := rfl
  have e1 : d_law_worth.kws K = [] := rfl
  rw [e0, e1] at F
  have ok : FnOk P w K mg base C8.CX0 (k + 1) (He.fAd K ("_law_worth", none)) fd ["tape", "kind", "long"] sp := F.ok S len fun cdv A outer s H vs Q E hr hsp => by
    obtain ⟨t, h, q⟩ := hbody cdv A outer s H vs Q E _ hr hsp
    exact ⟨t, h.nox, q⟩
  obtain ⟨ds, hv, hb⟩ := F.binds1 (ps := ["tape", "kind", "long"]) 3 1 (by decide) rfl fun T kV doc pm an cdv ct us its h1 h2 => by
    match us, its, h1, h2 with
    | [_, _, _], [_], _, _ => exact ⟨_, rfl, rfl⟩
  obtain ⟨ds2, hv2, hb2⟩ := F.binds1 (ps := ["tape", "kind", "long"]) 2 0 (by decide) rfl fun T kV doc pm an cdv ct us its h1 h2 => by
    match us, its, h1, h2 with
    | [_, _], [_], _, _ => exact ⟨_, rfl, rfl⟩
  exact ⟨⟨_, fd, _, ds, ok, T.glo "_law_worth" (mem_fa 45), F.kp, hb, hv⟩, ⟨_, fd, _, ds2, ok, T.glo "_law_worth" (mem_fa 45), F.kp, hb2, hv2⟩⟩
def spLawWorth (K : PySem.W.Frag) (d : Nat) : Sp := fun vs H Q _ => ∃ (G : Hp) (t : Addr) (c : Nat) (k : Kd) (x : V) (lg : Bool), vs = [.ref t, x, .bl lg] ∧ Same G H ∧ Tp G H t c ∧ KRep K G k x ∧ k.dep ≤ d ∧ d ≤ 5 ∧ c + cst d ≤ CMAX ∧
  ∀ (u : Ty k) (v : V) (G' H' : Hp), Xt (At t) G H G' H' → Rep G' k u v → NB k u → wsz k u ≤ sz lg k.dep → Tp G' H' t (c + cst d) → Q v H'
abbrev N_law_worth : List PySem.Str := ["tape", "kind", "long", "many", "one", "k"]
theorem sc_law_worth : FnScope N_law_worth ["tape", "kind", "long"] (defScope s_law_worth) := ⟨rfl, rfl, rfl, by decide +kernel, rfl, by decide +kernel, by decide +kernel⟩
theorem c_law_worth1 {d : Nat} (T : Txt K mg) (c_law_number : Cal P w K mg base 3 "_law_number" spLawNum []) (c_law_draw : Cal P w K mg base 2 "_law_draw" spDraw []) (c_law_worth : Cal P w K mg base (d + 3) "_law_worth" (spLawWorth K d) []) :
    Cal P w K mg base (d + 4) "_law_worth" (spLawWorth K (d + 1)) [] ∧ Cal P w K mg base (d + 4) "_law_worth" (spLawWorth K (d + 1)) [.bl true] := by
  refine cal_ofW T sc_law_worth (fun vs H Q E h => ?_) (fun cdv A outer s H vs Q E f hr h => ?_)
  · obtain ⟨G, t, c, k, x, lg, rfl, _⟩ := h
    rfl
  obtain ⟨G, t, c, k, x, lg, rfl, sG, tp, hk, hd, h5, hc, q⟩ := h
  have hC : CMAX = 1000000000000000000 := rfl
  have he := cst_pos d
  have hce : cst (d + 1) = 3 + 201 * cst d := rfl
  refine ⟨_, (pss_cons (ps_if (pt_cmpR op_eq (pe_ix i_tup (pv 1) pe_int (fun _ _ => rfl)) pe_str (nomark _)) (pss_one (ps_ret (pe_c c_law_number hr (by omega) rfl (pa_cons (pv 0) pa_nil)))) pss_nil)
      (pss_cons (ps_if (pt_cmpR op_eq (pe_ix i_tup (pv 1) pe_int (fun _ _ => rfl)) pe_str (nomark _)) (pss_one (ps_ret (pe_cmpR op_eq (pe_c c_law_draw hr (by omega) rfl (pa_cons (pv 0) (pa_cons pe_int pa_nil))) pe_int (nomark _)))) pss_nil)
      (pss_cons (ps_if (pt_cmpR op_eq (pe_ix i_tup (pv 1) pe_int (fun _ _ => rfl)) pe_str (nomark _)) (pss_cons (ps_set (i := 4) sc_law_worth.nd rfl (.inl rfl) (pe_c c_law_worth hr (Nat.le_refl _) rfl (pa_cons (pv 0) (pa_cons (pe_ix i_tup (pv 1) pe_int (fun _ _ => rfl)) (pa_cons (pv 2) pa_nil)))))
      (pss_one (ps_ret (pe_tup (pa_cons (pv 4) (pa_cons (pe_c c_law_worth hr (Nat.le_refl _) rfl (pa_cons (pv 0) (pa_cons (pe_ix i_tup (pv 1) pe_int (fun _ _ => rfl)) (pa_cons (pv 2) pa_nil)))) pa_nil)))))) pss_nil)
      (pss_cons (ps_set (i := 3) sc_law_worth.nd rfl (.inl rfl) (pe_c c_law_draw hr (by omega) rfl (pa_cons (pv 0) (pa_cons pe_int pa_nil))))
      (pss_cons (ps_if (PW.pt (pw_and (pt_val (pv 2)) (pw_and (pt_cmpR op_eq (e_len T.len (pe_ix i_tup (pv 1) pe_int (fun _ _ => rfl))) pe_int (nomark _)) (pw_and1 (pt_cmpR op_eq (pe_c c_law_draw hr (by omega) rfl (pa_cons (pv 0) (pa_cons pe_int pa_nil))) pe_int (nomark _)))))) (pss_one (ps_set (i := 3) sc_law_worth.nd rfl (.inl rfl) (pe_op op_add pe_int (pe_c c_law_draw hr (by omega) rfl (pa_cons (pv 0) (pa_cons pe_int pa_nil)))))) pss_nil)
      (pss_one (ps_ret (pe_lc (own := [("k", 5)]) rfl sc_law_worth.nd (pi_range1 rfl T.range (pa_cons (pv 3) pa_nil)) (blkOk_by (N := N_law_worth) (sc := defScope s_law_worth) (by decide +kernel)) (fun _ _ _ _ _ => (pg_name (i := 5) sc_law_worth.nd rfl (.inl rfl))) (fun _ _ _ _ _ => pts_nil) (fun _ _ _ _ _ => (pe_c c_law_worth hr (Nat.le_refl _) rfl (pa_cons (pv 0) (pa_cons (pe_ix i_tup (pv 1) pe_int (fun _ _ => rfl)) (pa_cons pe_bl pa_nil))))))))))))), ?_⟩
  cases k with
  | num =>
    refine sq_yes (a_kind hk sG rfl rfl) ?_
    refine ⟨_, rfl, G, t, c, rfl, sG, tp, by omega, fun i H' x1 t1 hi => ?_⟩
    exact q i (.int i) G H' x1 rfl hi (sz_pos _ _) (t1.le (by omega))
  | truth =>
    refine sq_no (a_kind hk sG rfl rfl) (sq_yes (a_kind hk sG rfl rfl) ?_)
    refine ⟨_, rfl, G, t, c, 2, rfl, sG, tp, by omega, by decide, by decide, fun r H' x1 t1 _ _ => ⟨rfl, ?_⟩⟩
    exact q (decide (V.int r = V.int 1)) _ G H' x1 rfl trivial (sz_pos _ _) (t1.le (by omega))
  | pair k l =>
    refine sq_no (a_kind hk sG rfl rfl) (sq_no (a_kind hk sG rfl rfl) (sq_yes (a_kind hk sG rfl rfl) ?_))
    obtain ⟨ka, kx, ky, rfl, sk, k1, k2⟩ := hk
    have hd : max k.dep l.dep + 1 ≤ d + 1 := hd
    have h2 := sz_pair lg k.dep l.dep
    refine ⟨_, rfl, _, rfl, ka, _, 1, _, rfl, rfl, sameT sG sk, atI_nat (j := 1) rfl, _, rfl, G, t, c, k, kx, lg, rfl, sG, tp, k1, by omega, by omega, by omega, fun u v G1 H1 x1 r1 _ z1 t1 => ?_⟩
    refine ⟨_, rfl, _, rfl, _, rfl, ka, _, 2, _, rfl, rfl, sameT (x1.g.trans x1.sub) sk, atI_nat (j := 2) rfl, _, rfl, G1, t, _, l, ky, lg, rfl, x1.sub, t1, KRep.mono x1.g k2, by omega, by omega, by omega, fun u2 v2 G2 H2 x2 r2 _ z2 t2 => ?_⟩
    refine ⟨by show 2 ≤ sizeLine; decide, fun p np => ?_⟩
    have x3 := Xt.new (M := At t) (o := .tup [v, v2]) x2.sub np
    refine q (u, u2) _ _ _ ((x1.trans x2).trans x3) ⟨p, v, v2, rfl, upd_same, Rep.mono x3.g (Rep.mono x2.g r1), Rep.mono x3.g r2⟩ trivial ?_ ((t2.on (Xt.new x2.sub np)).le (by omega))
    show wsz k u + wsz l u2 ≤ sz lg (max k.dep l.dep + 1)
    omega
  | row k =>
    refine sq_no (a_kind hk sG rfl rfl) (sq_no (a_kind hk sG rfl rfl) (sq_no (a_kind hk sG rfl rfl) ?_))
    obtain ⟨ka, kx, rfl, sk, k1⟩ := hk
    have hd : k.dep + 1 ≤ d + 1 := hd
    refine ⟨_, rfl, G, t, c, 4, rfl, sG, tp, by omega, by decide, by decide, fun r H1 x1 t1 r0 r1 => ?_⟩
    obtain ⟨n, rfl⟩ : ∃ n : Nat, r = n := ⟨r.toNat, by omega⟩
    have hS : n ≤ 200 ∧ n * sz false k.dep + 1 ≤ sz lg (k.dep + 1) := ⟨by omega, sz_row3 lg (by omega) (by omega)⟩
    have fin : ∀ (n : Nat) (H3 : Hp), n ≤ 200 ∧ n * sz false k.dep + 1 ≤ sz lg (k.dep + 1) → Xt (At t) G H G H3 → Tp G H3 t (c + 3) →
        tRet (tLc (iRng1 (tCons (tVar 3) tNil)) (gName 5) tYes (tCall (spLawWorth K d) [] C8.E0 (tCons (tVar 0) (tCons (tOp (rIxT K) (tVar 1) (tC (V.int 1))) (tCons (tC (V.bl false)) tNil)))) (List.map (fun x => x.snd) [((Str.ofString "k"), 5)])) { nx := fun x H' => Q V.non H', rt := Q } (List.set (L2.start N_law_worth [V.ref t, V.ref ka, V.bl lg]) 3 (some (nV n))) H3 := by
      intro n H3 hS x3 t3
      have s3 := x3.g.trans x3.sub
      refine ⟨_, rfl, (n : Int), rfl, by omega, by omega, fun D nD => ?_⟩
      have nDt : D ≠ t := fun z => by
        rw [z] at nD
        exact t3.ne nD
      have hmul : ∀ i, i ≤ n → i * cst d ≤ 200 * cst d := fun i hi => Nat.mul_le_mul_right _ (by omega)
      refine lc_gen (M := At t) (G1 := G) (n := n) walk_range (fun i acc G' H' => ∃ ws : List (Ty k), ws.length = i ∧ Reps G' k ws acc ∧ tot k ws ≤ i * sz false k.dep ∧ Tp G' H' t (c + 3 + i * cst d)) x3.sub (fun b z => by rw [show b = t from z]; exact t3.ne) nD ⟨[], rfl, .nil, Nat.zero_le _, (t3.put nDt).le (by omega)⟩
        (fun i acc G' H' o ⟨ws, h1, h2, h3, h4⟩ _ => ⟨ws, h1, h2, h3, h4.put nDt⟩) (fun _ _ _ _ _ _ _ => trivial) (fun i acc x G' H' H'' Nx hi e hD gD hI hY kk _ => ?_) fun acc G4 H4 e hD gD hI => ?_
      · obtain ⟨rfl, rfl⟩ := hY
        obtain ⟨ws, h1, h2, h3, h4⟩ := hI
        have hm := hmul (i + 1) (by omega)
        rw [Nat.succ_mul] at hm
        refine ⟨rfl, _, rfl, _, rfl, ka, _, 1, _, rfl, rfl, sameT (e.g.trans e.sub) sk, atI_nat (j := 1) rfl, G', t, _, k, _, false, rfl, e.sub, h4, KRep.mono e.g k1, by omega, by omega, by omega, fun u v G5 H5 x5 r5 _ z5 t5 => ?_⟩
        refine kk v G5 H5 x5 ?_ ⟨ws ++ [u], by rw [List.length_append, h1]; rfl, pr_app (Reps.mono x5.g h2) (.cons r5 .nil), ?_, t5.le (by rw [Nat.succ_mul]; omega)⟩
        · have := Paired.length h2
          have : sizeLine ≥ 1000 := by decide
          omega
        · rw [tot_app, Nat.succ_mul]
          have : tot k [u] = wsz k u := by rw [tot_cons, tot_nil]; omega
          omega
      · obtain ⟨ws, h1, h2, h3, h4⟩ := hI
        have hm := hmul n (Nat.le_refl _)
        refine q ws (.ref D) _ H4 (x3.trans (e.pub nD hD)) ⟨D, acc, rfl, upd_same, Reps.mono (same_upd gD) h2⟩ trivial ?_ ((h4.pub gD nDt).le (by omega))
        show 1 + tot k ws ≤ sz lg (k.dep + 1)
        omega
    have k1' := k1
    obtain ⟨kb, kxs, rfl, skb, hdl⟩ := k1'.len
    have s1 := x1.g.trans x1.sub
    refine ⟨_, rfl, lg, rfl, iteE (fun h1 => ?_) fun h1 => iteF ?_⟩
    · refine ⟨_, rfl, ka, _, 1, _, rfl, rfl, sameT s1 sk, atI_nat (j := 1) rfl, kb, kxs, rfl, .inr (sameT s1 skb), rfl, _, rfl, iteE (fun h2 => ?_) fun h2 => iteF ?_⟩
      · refine ⟨_, rfl, G, t, _, 32, rfl, x1.sub, t1, by omega, by decide, by decide, fun r2 H2 x2 t2 _ _ => ⟨rfl, _, rfl, iteE (fun h3 => ?_) fun h3 => ?_⟩⟩
        · refine ⟨_, rfl, G, t, _, 5, rfl, x2.sub, t2, by omega, by decide, by decide, fun r3 H3 x3 t3 z1 z2 => ⟨_, _, rfl, rfl, ?_⟩⟩
          obtain ⟨m, rfl⟩ : ∃ m : Nat, r3 = m := ⟨r3.toNat, by omega⟩
          have hl1 : kxs.length = 1 := by
            have h := V.int.inj (of_decide_eq_true h2)
            omega
          have hd1 := hdl hl1
          subst h1
          refine fin (196 + m) H3 ⟨by omega, ?_⟩ ((x1.trans x2).trans x3) (t3.le (by omega))
          rw [hd1]
          exact sz_row200 (by omega)
        · exact fin n H2 hS (x1.trans x2) (t2.le (by omega))
      · exact fin n H1 hS x1 (t1.le (by omega))
    · exact fin n H1 hS x1 (t1.le (by omega))
theorem c_law_worth (T : Txt K mg) (c_law_number : Cal P w K mg base 3 "_law_number" spLawNum []) (c_law_draw : Cal P w K mg base 2 "_law_draw" spDraw []) : ∀ d, Cal P w K mg base (d + 4) "_law_worth" (spLawWorth K (d + 1)) [] ∧ Cal P w K mg base (d + 4) "_law_worth" (spLawWorth K (d + 1)) [.bl true]
  | 0 => c_law_worth1 T c_law_number c_law_draw (by
    refine (cal_ofW T sc_law_worth (fun vs H Q E h => ?_) (fun cdv A outer s H vs Q E f hr h => ?_)).1
    · obtain ⟨G, t, c, k, x, lg, rfl, _⟩ := h
      rfl
    obtain ⟨G, t, c, k, x, lg, rfl, sG, tp, hk, hd, _⟩ := h
    have := kd_pos k
    omega)
  | d + 1 => c_law_worth1 T c_law_number c_law_draw (c_law_worth T c_law_number c_law_draw d).1
end
end Bw
namespace Bw
open PySem PySem.Spec PyProof.Rows L2
open C8 (Cal pe_c)
def leafV : V → Bool
  | .int _ => true
  | .bl _ => true
  | .str _ => true
  | .non => true
  | _ => false
/-- two values of one shape -/
def Sim (G : Hp) : Nat → V → V → Prop
  | 0, x, y => x = y ∧ leafV x = true
  | d + 1, x, y => (x = y ∧ leafV x = true) ∨ ∃ a b xs ys, x = .ref a ∧ y = .ref b ∧ xs.length ≤ BIG ∧ Paired (Sim G d) xs ys ∧ ((G a = some (.lst xs) ∧ G b = some (.lst ys)) ∨ (G a = some (.tup xs) ∧ G b = some (.tup ys)))
theorem Sim.leaf {G : Hp} {d : Nat} {x : V} (h : leafV x = true) : Sim G d x x := by
  cases d with
  | zero => exact ⟨rfl, h⟩
  | succ d => exact .inl ⟨rfl, h⟩
theorem Sim.up {G : Hp} : ∀ {d : Nat} {x y : V}, Sim G d x y → Sim G (d + 1) x y
  | 0, _, _, h => .inl h
  | d + 1, _, _, .inl h => .inl h
  | d + 1, _, _, .inr ⟨a, b, xs, ys, h1, h2, h3, h4, h5⟩ => .inr ⟨a, b, xs, ys, h1, h2, h3, L2.Paired.mapP h4 fun _ _ q => Sim.up q, h5⟩
theorem Sim.le {G : Hp} {d e : Nat} (h : d ≤ e) {x y : V} (s : Sim G d x y) : Sim G e x y := by
  induction h with
  | refl => exact s
  | step _ ih => exact ih.up
theorem pr_join {α β γ : Type} {F : α → β → Prop} {E : α → γ → Prop} {J : β → γ → Prop} {I : α → Prop} (h : ∀ a b c, I a → F a b → E a c → J b c) : ∀ {l : List α} {m : List β} {n : List γ}, (∀ a ∈ l, I a) → Paired F l m → Paired E l n → Paired J m n
  | _, _, _, _, .nil, .nil => .nil
  | _, _, _, i, .cons r t, .cons s u => .cons (h _ _ _ (i _ (List.mem_cons_self ..)) r s) (pr_join h (fun a ha => i a (List.mem_cons_of_mem _ ha)) t u)
theorem mem_tot {k : Kd} {u : Ty k} : ∀ {ws : List (Ty k)}, u ∈ ws → wsz k u ≤ tot k ws
  | w :: ws, h => by
    rw [tot_cons]
    rcases List.mem_cons.mp h with rfl | h
    · omega
    · have := mem_tot h
      omega
theorem Sim.of_rep {G : Hp} : ∀ {k : Kd} {u : Ty k} {x y : V}, wsz k u ≤ BIG → Rep G k u x → Rep G k u y → Sim G k.dep x y
  | .num, u, _, _, _, h1, h2 => by
    rw [show _ = V.int u from h1, show _ = V.int u from h2]
    exact Sim.leaf rfl
  | .truth, u, _, _, _, h1, h2 => by
    rw [show _ = V.bl u from h1, show _ = V.bl u from h2]
    exact Sim.leaf rfl
  | .pair k l, u, _, _, hz, ⟨a, x, y, h1, g1, r1, r2⟩, ⟨b, x', y', h2, g2, r3, r4⟩ => by
    have hz : wsz k u.1 + wsz l u.2 ≤ BIG := hz
    exact .inr ⟨a, b, _, _, h1, h2, by show 2 ≤ BIG; decide, .cons ((Sim.of_rep (by omega) r1 r3).le (Nat.le_max_left _ _)) (.cons ((Sim.of_rep (by omega) r2 r4).le (Nat.le_max_right _ _)) .nil), .inr ⟨g1, g2⟩⟩
  | .row k, u, _, _, hz, ⟨a, xs, h1, g1, r1⟩, ⟨b, ys, h2, g2, r2⟩ => by
    have hz : 1 + tot k u ≤ BIG := hz
    have hl := len_tot k u
    have h3 := Paired.length r1
    exact .inr ⟨a, b, _, _, h1, h2, by omega, pr_join (J := Sim G k.dep) (I := fun w => wsz k w ≤ BIG) (fun w x y i q1 q2 => Sim.of_rep i q1 q2) (fun w hw => by
      have := mem_tot (k := k) (ws := u) hw
      omega) r1 r2, .inl ⟨g1, g2⟩⟩
theorem iteN {x : V} {A B : Prop} (h : B) : if (!decide (x = x)) = true then A else B := by
  rw [decide_eq_true rfl]
  exact iteF h
theorem kitAny2 {K : PySem.W.Frag} {a b c : String} {r1 r2 r : Bool} (h1 : kitB a b = some r1) (h2 : kitB a c = some r2) (h : (r1 || r2) = r) : PySem.W.kitAny K (.type a) [.type b, .type c] = some r := by
  unfold PySem.W.kitAny PySem.W.kitAny PySem.W.kitAny
  rw [kit_ty h1, kit_ty h2, ← h]
  cases r1 <;> cases r2 <;> rfl
section
variable {K : PySem.W.Frag} {a b : Addr} {xs ys : List V}
theorem walk_zipT {n : Nat} (h1 : xs.length = n) (h2 : ys.length = n) : Walk (RZ.ItzT K a b) n (fun H => SqT K H a xs ∧ SqT K H b ys) (YPair (fun i => xs[i]?) (fun i => ys[i]?)) := by
  refine ⟨fun i _ hi q => ?_, fun _ q => ⟨xs, ys, q.1, q.2, .inl (by omega)⟩, fun i H v H' _ q y => ?_⟩
  · exact ⟨xs, ys, xs[i], ys[i], q.1, q.2, by simp [h1, hi], by simp [h2, hi]⟩
  · obtain ⟨T, x, z, h1, h2, h3, h4, h5⟩ := y
    exact ⟨T, x, z, h1, h2, h3, h4 xs q.1, h5 ys q.2⟩
end
section
variable {P : Program} {w : World} {K : PySem.W.Frag} {mg : Str → Option Value} {base : Heap}
def spAlike (d : Nat) : Sp := fun vs H Q _ => ∃ (G : Hp) (x y : V), vs = [x, y] ∧ Same G H ∧ Sim G d x y ∧ ∀ H', X0 G H G H' → Q (.bl true) H'
abbrev N_law_alike : List PySem.Str := ["due", "found", "one", "other"]
theorem sc_law_alike : FnScope N_law_alike ["due", "found"] (defScope s_law_alike) := ⟨rfl, rfl, rfl, by decide +kernel, rfl, by decide +kernel, by decide +kernel⟩
theorem c_law_alike1 {d : Nat} (T : Txt K mg) (c_law_alike : ∀ d', d = d' + 1 → Cal P w K mg base d "_law_alike" (spAlike d') []) : Cal P w K mg base (d + 1) "_law_alike" (spAlike d) [] := by
  refine cal_of (d := d_law_alike) T (mem_fn 46) rfl (mem_fa 46) rfl rfl sc_law_alike (fun _ _ _ _ _ _ us hl => match us, hl with | [_, _], _ => rfl) (fun vs H Q E h => ?_) (fun cdv A outer s H vs Q E f hr h => ?_)
  · obtain ⟨G, x, y, rfl, _⟩ := h
    rfl
  obtain ⟨G, x, y, rfl, sG, hs, q⟩ := h
  by_cases hlf : leafV x = true
  · have hxy : x = y := by
      cases d with
      | zero => exact hs.1
      | succ d =>
        rcases hs with ⟨h, _⟩ | ⟨a, b, xs, ys, rfl, _⟩
        · exact h
        · cases hlf
    subst hxy
    refine ⟨_, (pss_cons (ps_if (pt_val (pe_callB k_isiT rfl T.isinstance (by decide +kernel) (pa_cons (pv 0) (pa_cons (pe_tup (pa_cons (pe_bltn (v := .ty "list") rfl T.list (by decide +kernel) rfl) (pa_cons (pe_bltn (v := .ty "tuple") rfl T.tuple (by decide +kernel) rfl) pa_nil))) pa_nil)))) pss_never pss_nil)
      (pss_cons (ps_if (pt_cmpR op_ne (pe_callB k_isi rfl T.isinstance (by decide +kernel) (pa_cons (pv 0) (pa_cons (pe_bltn (v := .ty "bool") rfl T.bool (by decide +kernel) rfl) pa_nil))) (pe_callB k_isi rfl T.isinstance (by decide +kernel) (pa_cons (pv 1) (pa_cons (pe_bltn (v := .ty "bool") rfl T.bool (by decide +kernel) rfl) pa_nil))) (nomark _)) (pss_one (ps_ret pe_bl)) pss_nil)
      (pss_one (ps_ret (pe_cmpR op_eq (pv 0) (pv 1) (nomark _)))))), ?_⟩
    refine ⟨_, rfl, by show 2 ≤ sizeLine; decide, fun tp ntp => ?_⟩
    have q1 := q (upd H tp (.tup [.ty "list", .ty "tuple"])) (Xt.loc sG ntp)
    have hsc : scal x x = true := by
      cases x <;> first | rfl | cases hlf
    have hde : Q (V.bl (decide (x = x))) (upd H tp (.tup [.ty "list", .ty "tuple"])) := by
      rw [decide_eq_true rfl]
      exact q1
    cases x with
    | int i => exact ⟨_, tp, _, _, _, false, rfl, upd_same, .cons (.ty _) (.cons (.ty _) .nil), .base (.int i), kitAny2 (r1 := false) (r2 := false) (by decide +kernel) (by decide +kernel) rfl, false, rfl, iteF ⟨_, rfl, _, _, _, _, false, rfl, .ty _, .base (.int i), kit_ty (by decide +kernel), _, rfl, _, _, _, _, false, rfl, .ty _, .base (.int i), kit_ty (by decide +kernel), rfl, _, rfl, iteN ⟨_, rfl, _, rfl, hsc, hde⟩⟩⟩
    | bl i => exact ⟨_, tp, _, _, _, false, rfl, upd_same, .cons (.ty _) (.cons (.ty _) .nil), .base (.bl i), kitAny2 (r1 := false) (r2 := false) (by decide +kernel) (by decide +kernel) rfl, false, rfl, iteF ⟨_, rfl, _, _, _, _, true, rfl, .ty _, .base (.bl i), kit_ty (by decide +kernel), _, rfl, _, _, _, _, true, rfl, .ty _, .base (.bl i), kit_ty (by decide +kernel), rfl, _, rfl, iteN ⟨_, rfl, _, rfl, hsc, hde⟩⟩⟩
    | str i => exact ⟨_, tp, _, _, _, false, rfl, upd_same, .cons (.ty _) (.cons (.ty _) .nil), .base (.str i), kitAny2 (r1 := false) (r2 := false) (by decide +kernel) (by decide +kernel) rfl, false, rfl, iteF ⟨_, rfl, _, _, _, _, false, rfl, .ty _, .base (.str i), kit_ty (by decide +kernel), _, rfl, _, _, _, _, false, rfl, .ty _, .base (.str i), kit_ty (by decide +kernel), rfl, _, rfl, iteN ⟨_, rfl, _, rfl, hsc, hde⟩⟩⟩
    | non => exact ⟨_, tp, _, _, _, false, rfl, upd_same, .cons (.ty _) (.cons (.ty _) .nil), .base .non, kitAny2 (r1 := false) (r2 := false) (by decide +kernel) (by decide +kernel) rfl, false, rfl, iteF ⟨_, rfl, _, _, _, _, false, rfl, .ty _, .base .non, kit_ty (by decide +kernel), _, rfl, _, _, _, _, false, rfl, .ty _, .base .non, kit_ty (by decide +kernel), rfl, _, rfl, iteN ⟨_, rfl, _, rfl, hsc, hde⟩⟩⟩
    | _ => cases hlf
  · cases d with
    | zero => exact absurd hs.2 hlf
    | succ d =>
      rcases hs with ⟨_, h⟩ | ⟨a, b, xs, ys, rfl, rfl, hz, hP, hab⟩
      · exact absurd h hlf
      have c_law_alike := c_law_alike d rfl
      have hl : xs.length = ys.length := Paired.length hP
      refine ⟨_, (pss_cons (ps_if (pt_val (pe_callB k_isiT rfl T.isinstance (by decide +kernel) (pa_cons (pv 0) (pa_cons (pe_tup (pa_cons (pe_bltn (v := .ty "list") rfl T.list (by decide +kernel) rfl) (pa_cons (pe_bltn (v := .ty "tuple") rfl T.tuple (by decide +kernel) rfl) pa_nil))) pa_nil)))) (pss_cons (ps_if (pt_cmpR op_ne (pe_callB k_isi rfl T.isinstance (by decide +kernel) (pa_cons (pv 0) (pa_cons (pe_bltn (v := .ty "list") rfl T.list (by decide +kernel) rfl) pa_nil))) (pe_callB k_isi rfl T.isinstance (by decide +kernel) (pa_cons (pv 1) (pa_cons (pe_bltn (v := .ty "list") rfl T.list (by decide +kernel) rfl) pa_nil))) (nomark _)) (pss_one (ps_ret pe_bl)) pss_nil)
        (pss_cons (ps_if (pt_cmpR op_ne (pe_callB k_isi rfl T.isinstance (by decide +kernel) (pa_cons (pv 0) (pa_cons (pe_bltn (v := .ty "tuple") rfl T.tuple (by decide +kernel) rfl) pa_nil))) (pe_callB k_isi rfl T.isinstance (by decide +kernel) (pa_cons (pv 1) (pa_cons (pe_bltn (v := .ty "tuple") rfl T.tuple (by decide +kernel) rfl) pa_nil))) (nomark _)) (pss_one (ps_ret pe_bl)) pss_nil)
        (pss_cons (ps_if (pt_cmpR op_ne (e_len T.len (pv 0)) (e_len T.len (pv 1)) (nomark _)) (pss_one (ps_ret pe_bl)) pss_nil)
        (pss_one (ps_ret (e_all T.all (pe_lc (own := [("one", 2), ("other", 3)]) rfl sc_law_alike.nd (RZ.pi_zipA rfl T.zip (pa_cons (pv 0) (pa_cons (pv 1) pa_nil))) (blkOk_by (N := N_law_alike) (sc := defScope s_law_alike) (by decide +kernel)) (fun _ _ _ _ _ => (g_tup (n := 2) rfl (pgs_cons (pg_name (i := 2) sc_law_alike.nd rfl (.inl rfl)) (pgs_cons (pg_name (i := 3) sc_law_alike.nd rfl (.inl rfl)) pgs_nil)))) (fun _ _ _ _ _ => pts_nil) (fun _ _ _ _ _ => (pe_c c_law_alike hr (Nat.le_refl _) rfl (pa_cons (pv 2) (pa_cons (pv 3) pa_nil))))))))))) pss_nil) pss_never), ?_⟩
      refine ⟨_, rfl, by show 2 ≤ sizeLine; decide, fun tp ntp => ?_⟩
      have x1 := Xt.loc (M := No) (o := .tup [.ty "list", .ty "tuple"]) sG ntp
      have htp : (upd H tp (.tup [.ty "list", .ty "tuple"])) tp = some (.tup [.ty "list", .ty "tuple"]) := upd_same
      generalize upd H tp (.tup [.ty "list", .ty "tuple"]) = H1 at x1 htp
      rcases hab with ⟨ga, gb⟩ | ⟨ga, gb⟩
      · have ga := x1.sub _ _ ga
        have gb := x1.sub _ _ gb
        refine ⟨_, tp, _, _, _, true, rfl, htp, .cons (.ty _) (.cons (.ty _) .nil), .base (.lst ga), kitAny2 (r1 := true) (r2 := false) (by decide +kernel) (by decide +kernel) rfl, true, rfl, iteT ?_⟩
        refine ⟨_, rfl, _, _, _, _, true, rfl, .ty _, .base (.lst ga), kit_ty (by decide +kernel), _, rfl, _, _, _, _, true, rfl, .ty _, .base (.lst gb), kit_ty (by decide +kernel), rfl, _, rfl, iteN ?_⟩
        refine ⟨_, rfl, _, _, _, _, false, rfl, .ty _, .base (.lst ga), kit_ty (by decide +kernel), _, rfl, _, _, _, _, false, rfl, .ty _, .base (.lst gb), kit_ty (by decide +kernel), rfl, _, rfl, iteN ?_⟩
        refine ⟨_, rfl, a, xs, rfl, .inl (SqL.of ga), _, rfl, b, ys, rfl, .inl (SqL.of gb), rfl, _, rfl, ?_⟩
        rw [hl]
        refine iteN ?_
        refine ⟨_, rfl, _, rfl, a, b, xs, ys, rfl, .inl ⟨SqL.of ga, SqL.of gb, fun D nD => ?_⟩⟩
        refine lc_gen (M := No) (G1 := G) (walk_zip (xs := xs) (ys := ys) (n := ys.length) (by omega)) (fun i acc G' H' => acc = List.replicate i (V.bl true) ∧ G' = G) x1.sub (fun _ z => z.elim) nD ⟨rfl, rfl⟩ (fun _ _ _ _ _ h _ => h) (fun i acc G' H' e _ _ => ⟨SqL.of (e.same _ _ ga), SqL.of (e.same _ _ gb)⟩) (fun i acc v G' H' H'' Nx hi e hD gD hI hY kk _ => ?_) fun acc G4 H4 e hD gD hI => ?_
        · obtain ⟨hI, rfl⟩ := hI
          obtain ⟨u, v1, v2, rfl, nu, rfl, h1, h2⟩ := hY
          obtain ⟨y, hy, hs⟩ := pr_get hP h1
          have h2 : ys[i]? = some v2 := h2
          rw [hy] at h2
          cases h2
          have x2 := Xt.loc (M := No) (o := .tup [v1, v2]) e.sub nu
          refine g_pair rfl upd_same ⟨rfl, _, rfl, _, rfl, G', v1, v2, rfl, x2.sub, hs, fun H5 x5 => ?_⟩
          refine kk _ G' H5 (x2.trans x5) ?_ ⟨by rw [hI, List.replicate_succ'], rfl⟩
          rw [hI, List.length_replicate]
          exact big_lt (by omega)
        · obtain ⟨hI, rfl⟩ := hI
          refine ⟨D, List.replicate _ true, rfl, SqL.of (by rw [List.map_replicate, ← hI]; exact hD), ?_⟩
          rw [show (List.replicate ys.length true).all id = true by simp]
          exact q H4 (x1.trans e)
      · have ga := x1.sub _ _ ga
        have gb := x1.sub _ _ gb
        refine ⟨_, tp, _, _, _, true, rfl, htp, .cons (.ty _) (.cons (.ty _) .nil), .base (.tup ga), kitAny2 (r1 := false) (r2 := true) (by decide +kernel) (by decide +kernel) rfl, true, rfl, iteT ?_⟩
        refine ⟨_, rfl, _, _, _, _, false, rfl, .ty _, .base (.tup ga), kit_ty (by decide +kernel), _, rfl, _, _, _, _, false, rfl, .ty _, .base (.tup gb), kit_ty (by decide +kernel), rfl, _, rfl, iteN ?_⟩
        refine ⟨_, rfl, _, _, _, _, true, rfl, .ty _, .base (.tup ga), kit_ty (by decide +kernel), _, rfl, _, _, _, _, true, rfl, .ty _, .base (.tup gb), kit_ty (by decide +kernel), rfl, _, rfl, iteN ?_⟩
        refine ⟨_, rfl, a, xs, rfl, .inr (SqT.of ga), _, rfl, b, ys, rfl, .inr (SqT.of gb), rfl, _, rfl, ?_⟩
        rw [hl]
        refine iteN ?_
        refine ⟨_, rfl, _, rfl, a, b, xs, ys, rfl, .inr ⟨SqT.of ga, SqT.of gb, fun D nD => ?_⟩⟩
        refine lc_gen (M := No) (G1 := G) (walk_zipT (xs := xs) (ys := ys) (n := ys.length) hl rfl) (fun i acc G' H' => acc = List.replicate i (V.bl true) ∧ G' = G) x1.sub (fun _ z => z.elim) nD ⟨rfl, rfl⟩ (fun _ _ _ _ _ h _ => h) (fun i acc G' H' e _ _ => ⟨SqT.of (e.same _ _ ga), SqT.of (e.same _ _ gb)⟩) (fun i acc v G' H' H'' Nx hi e hD gD hI hY kk _ => ?_) fun acc G4 H4 e hD gD hI => ?_
        · obtain ⟨hI, rfl⟩ := hI
          obtain ⟨u, v1, v2, rfl, nu, rfl, h1, h2⟩ := hY
          obtain ⟨y, hy, hs⟩ := pr_get hP h1
          have h2 : ys[i]? = some v2 := h2
          rw [hy] at h2
          cases h2
          have x2 := Xt.loc (M := No) (o := .tup [v1, v2]) e.sub nu
          refine g_pair rfl upd_same ⟨rfl, _, rfl, _, rfl, G', v1, v2, rfl, x2.sub, hs, fun H5 x5 => ?_⟩
          refine kk _ G' H5 (x2.trans x5) ?_ ⟨by rw [hI, List.replicate_succ'], rfl⟩
          rw [hI, List.length_replicate]
          exact big_lt (by omega)
        · obtain ⟨hI, rfl⟩ := hI
          refine ⟨D, List.replicate _ true, rfl, SqL.of (by rw [List.map_replicate, ← hI]; exact hD), ?_⟩
          rw [show (List.replicate ys.length true).all id = true by simp]
          exact q H4 (x1.trans e)
theorem c_law_alike (T : Txt K mg) : ∀ d, Cal P w K mg base (d + 1) "_law_alike" (spAlike d) []
  | 0 => c_law_alike1 T fun _ h => nomatch h
  | d + 1 => c_law_alike1 T fun d' h => by
    cases h
    exact c_law_alike T d
end
end Bw
namespace Bw
open PySem PySem.Spec PyProof.Rows L2
open C8 (Cal pe_c)
theorem Xt.put {M : Addr → Prop} {G H G1 H1 : Hp} {p : Addr} {o : HO} (x : Xt M G H G1 H1) (n : H1 p = none) : Xt M G H (upd G1 p o) (upd H1 p o) := x.trans (Xt.new x.sub n)
theorem Xt.gnew {M : Addr → Prop} {G H G1 H1 : Hp} {p : Addr} {o : HO} (x : Xt M G H G1 H1) (n : H1 p = none) : Same G1 (upd G1 p o) := same_upd (x.sub.free n)
theorem Xt.grow {M : Addr → Prop} {G H G1 H1 H2 : Hp} (x : Xt M G H G1 H1) (e : Same H1 H2) : Xt M G H G1 H2 := x.trans (Xt.of_same x.sub e)
theorem kr_num {K : PySem.W.Frag} {G : Hp} {p : Addr} (h : G p = some (.tup [.str "num"])) : KRep K G .num (.ref p) := ⟨p, rfl, SqT.of h⟩
theorem kr_truth {K : PySem.W.Frag} {G : Hp} {p : Addr} (h : G p = some (.tup [.str "truth"])) : KRep K G .truth (.ref p) := ⟨p, rfl, SqT.of h⟩
theorem kr_row {K : PySem.W.Frag} {G : Hp} {p : Addr} {k : Kd} {x : V} (h : G p = some (.tup [.str "row", x])) (r : KRep K G k x) : KRep K G (.row k) (.ref p) := ⟨p, x, rfl, SqT.of h, r⟩
theorem kr_pair {K : PySem.W.Frag} {G : Hp} {p : Addr} {k l : Kd} {x y : V} (h : G p = some (.tup [.str "pair", x, y])) (r : KRep K G k x) (u : KRep K G l y) : KRep K G (.pair k l) (.ref p) := ⟨p, x, y, rfl, SqT.of h, r, u⟩
/-- the answer of _law_kinds: the kinds, what the sign comes to -/
def KAns (K : PySem.W.Frag) (G : Hp) (s : Sg) (p : Addr) : Prop := ∃ (b : Addr) (ks : List V) (kv : V), G p = some (.tup [.ref b, kv]) ∧ G b = some (.lst ks) ∧ KReps K G s.ks ks ∧ KRep K G s.res kv
def one1 (k : Kd) (s : Sg) : Prop := s = .not ∨ s = .one k ∨ s = .upto ∨ s = .long k ∨ s = .sum ∨ s = .most ∨ s = .sums ∨ s = .flat k
section
variable {P : Program} {w : World} {K : PySem.W.Frag} {mg : Str → Option Value} {base : Heap}
def spKindsOne (K : PySem.W.Frag) : Sp := fun vs H Q _ => ∃ (G : Hp) (s : Sg) (k : Kd) (x : V), vs = [.str s.nm, x] ∧ Same G H ∧ KRep K G k x ∧ one1 k s ∧ ∀ (p : Addr) (G' H' : Hp), X0 G H G' H' → KAns K G' s p → Q (.ref p) H'
abbrev N_law_kinds_of_one : List PySem.Str := ["sign", "one", "num", "row"]
theorem sc_law_kinds_of_one : FnScope N_law_kinds_of_one ["sign", "one"] (defScope s_law_kinds_of_one) := ⟨rfl, rfl, rfl, by decide +kernel, rfl, by decide +kernel, by decide +kernel⟩
theorem c_law_kinds_of_one (T : Txt K mg) : Cal P w K mg base 1 "_law_kinds_of_one" (spKindsOne K) [] := by
  refine cal_of (d := d_law_kinds_of_one) T (mem_fn 48) rfl (mem_fa 48) rfl rfl sc_law_kinds_of_one (fun _ _ _ _ _ _ us hl => match us, hl with | [_, _], _ => rfl) (fun vs H Q E h => ?_) (fun cdv A outer s H vs Q E f hr h => ?_)
  · obtain ⟨G, s, k, x, rfl, _⟩ := h
    rfl
  obtain ⟨G, s, k, x, rfl, sG, hk, hs, q⟩ := h
  refine ⟨_, (pss_cons (ps_set (i := 2) sc_law_kinds_of_one.nd rfl (.inl rfl) (pe_tup (pa_cons pe_str pa_nil)))
      (pss_cons (ps_set (i := 3) sc_law_kinds_of_one.nd rfl (.inl rfl) (pe_tup (pa_cons pe_str (pa_cons (pv 1) pa_nil))))
      (pss_cons (ps_if (pt_cmpR op_eq (pv 0) pe_str (nomark _)) (pss_one (ps_ret (pe_tup (pa_cons (pe_lst (pa_cons (pe_tup (pa_cons pe_str pa_nil)) pa_nil)) (pa_cons (pe_tup (pa_cons pe_str pa_nil)) pa_nil))))) pss_nil)
      (pss_cons (ps_if (pt_cmpR op_eq (pv 0) pe_str (nomark _)) (pss_one (ps_ret (pe_tup (pa_cons (pe_lst (pa_cons (pv 1) pa_nil)) (pa_cons (pv 3) pa_nil))))) pss_nil)
      (pss_cons (ps_if (pt_cmpR op_eq (pv 0) pe_str (nomark _)) (pss_one (ps_ret (pe_tup (pa_cons (pe_lst (pa_cons (pv 2) pa_nil)) (pa_cons (pe_tup (pa_cons pe_str (pa_cons (pv 2) pa_nil))) pa_nil))))) pss_nil)
      (pss_cons (ps_if (pt_cmpR op_eq (pv 0) pe_str (nomark _)) (pss_one (ps_ret (pe_tup (pa_cons (pe_lst (pa_cons (pv 3) pa_nil)) (pa_cons (pv 2) pa_nil))))) pss_nil)
      (pss_cons (ps_if (pt_cmpR o_in (pv 0) (pe_tup (pa_cons pe_str (pa_cons pe_str pa_nil))) (by rfl)) (pss_one (ps_ret (pe_tup (pa_cons (pe_lst (pa_cons (pe_tup (pa_cons pe_str (pa_cons (pv 2) pa_nil))) pa_nil)) (pa_cons (pv 2) pa_nil))))) pss_nil)
      (pss_cons (ps_if (pt_cmpR op_eq (pv 0) pe_str (nomark _)) (pss_one (ps_ret (pe_tup (pa_cons (pe_lst (pa_cons (pe_tup (pa_cons pe_str (pa_cons (pv 2) pa_nil))) pa_nil)) (pa_cons (pe_tup (pa_cons pe_str (pa_cons (pv 2) pa_nil))) pa_nil))))) pss_nil)
      (pss_one (ps_ret (pe_tup (pa_cons (pe_lst (pa_cons (pe_tup (pa_cons pe_str (pa_cons (pv 3) pa_nil))) pa_nil)) (pa_cons (pv 3) pa_nil))))))))))))), ?_⟩
  have s1 : 1 ≤ sizeLine := by decide
  have s2 : 2 ≤ sizeLine := by decide
  refine ⟨s1, fun pn nn => ⟨_, rfl, s2, fun pr nr => ?_⟩⟩
  have y1 := Xt.new (M := No) (o := .tup [.str "num"]) sG nn
  have y2 := y1.put (o := .tup [.str "row", x]) nr
  have hnum : KRep K _ .num (.ref pn) := KRep.mono (y1.gnew nr (o := .tup [.str "row", x])) (kr_num upd_same)
  have hone := KRep.mono y2.g hk
  have hrow : KRep K _ (.row k) (.ref pr) := kr_row upd_same hone
  generalize upd (upd G pn (.tup [.str "num"])) pr (.tup [.str "row", x]) = G2 at *
  generalize upd (upd H pn (.tup [.str "num"])) pr (.tup [.str "row", x]) = H2 at *
  have fin : ∀ (G3 H3 : Hp) (x3 : X0 G H G3 H3) (b : Addr) (ks : List V) (kv : V), G3 b = some (.lst ks) → KReps K G3 s.ks ks → KRep K G3 s.res kv → ∀ p, H3 p = none → Q (.ref p) (upd H3 p (.tup [.ref b, kv])) := fun G3 H3 x3 b ks kv g1 g2 g3 p np =>
    q p _ _ (x3.put np) ⟨b, ks, kv, upd_same, x3.gnew np _ _ g1, KReps.mono (x3.gnew np) g2, KRep.mono (x3.gnew np) g3⟩
  rcases hs with rfl | rfl | rfl | rfl | rfl | rfl | rfl | rfl
  · refine sq_yes (a_sg rfl rfl) ⟨s1, fun u nu => ⟨s1, fun b nb => ⟨s1, fun v nv => ⟨s2, ?_⟩⟩⟩⟩
    have z1 := y2.put (o := .tup [.str "truth"]) nu
    have z2 := z1.put (o := .lst [.ref u]) nb
    have z3 := z2.put (o := .tup [.str "truth"]) nv
    exact fin _ _ z3 b _ _ (z2.gnew nv _ _ upd_same) (.cons (KRep.mono (z2.gnew nv) (KRep.mono (z1.gnew nb) (kr_truth upd_same))) .nil) (kr_truth upd_same)
  · refine sq_no (a_sg rfl rfl) (sq_yes (a_sg rfl rfl) ⟨_, rfl, s1, fun b nb => ⟨_, rfl, s2, ?_⟩⟩)
    have z1 := y2.put (o := .lst [x]) nb
    exact fin _ _ z1 b _ _ upd_same (.cons (KRep.mono (y2.gnew nb) hone) .nil) (KRep.mono (y2.gnew nb) hrow)
  · refine sq_no (a_sg rfl rfl) (sq_no (a_sg rfl rfl) (sq_yes (a_sg rfl rfl) ⟨_, rfl, s1, fun b nb => ⟨_, rfl, s2, fun v nv => ⟨s2, ?_⟩⟩⟩))
    have z1 := y2.put (o := .lst [.ref pn]) nb
    have z2 := z1.put (o := .tup [.str "row", .ref pn]) nv
    have hn := KRep.mono (z1.gnew nv (o := .tup [.str "row", .ref pn])) (KRep.mono (y2.gnew nb (o := .lst [.ref pn])) hnum)
    exact fin _ _ z2 b _ _ (z1.gnew nv _ _ upd_same) (.cons hn .nil) (kr_row upd_same hn)
  · refine sq_no (a_sg rfl rfl) (sq_no (a_sg rfl rfl) (sq_no (a_sg rfl rfl) (sq_yes (a_sg rfl rfl) ⟨_, rfl, s1, fun b nb => ⟨_, rfl, s2, ?_⟩⟩)))
    have z1 := y2.put (o := .lst [.ref pr]) nb
    exact fin _ _ z1 b _ _ upd_same (.cons (KRep.mono (y2.gnew nb) hrow) .nil) (KRep.mono (y2.gnew nb) hnum)
  · refine sq_no (a_sg rfl rfl) (sq_no (a_sg rfl rfl) (sq_no (a_sg rfl rfl) (sq_no (a_sg rfl rfl) (sq_yesS (a_inS (zs := ["sum", "most"]) rfl (fun _ q => q) (by show _ ≤ 100; decide) rfl) fun H3 e3 => ⟨_, rfl, s2, fun u nu => ⟨s1, fun b nb => ⟨_, rfl, s2, ?_⟩⟩⟩))))
    have y3 := y2.grow e3
    have z1 := y3.put (o := .tup [.str "row", .ref pn]) nu
    have z2 := z1.put (o := .lst [.ref u]) nb
    have hn := KRep.mono (y3.gnew nu (o := .tup [.str "row", .ref pn])) hnum
    exact fin _ _ z2 b _ _ upd_same (.cons (KRep.mono (z1.gnew nb) (kr_row upd_same hn)) .nil) (KRep.mono (z1.gnew nb) hn)
  · refine sq_no (a_sg rfl rfl) (sq_no (a_sg rfl rfl) (sq_no (a_sg rfl rfl) (sq_no (a_sg rfl rfl) (sq_yesS (a_inS (zs := ["sum", "most"]) rfl (fun _ q => q) (by show _ ≤ 100; decide) rfl) fun H3 e3 => ⟨_, rfl, s2, fun u nu => ⟨s1, fun b nb => ⟨_, rfl, s2, ?_⟩⟩⟩))))
    have y3 := y2.grow e3
    have z1 := y3.put (o := .tup [.str "row", .ref pn]) nu
    have z2 := z1.put (o := .lst [.ref u]) nb
    have hn := KRep.mono (y3.gnew nu (o := .tup [.str "row", .ref pn])) hnum
    exact fin _ _ z2 b _ _ upd_same (.cons (KRep.mono (z1.gnew nb) (kr_row upd_same hn)) .nil) (KRep.mono (z1.gnew nb) hn)
  · refine sq_no (a_sg rfl rfl) (sq_no (a_sg rfl rfl) (sq_no (a_sg rfl rfl) (sq_no (a_sg rfl rfl) (sq_noS (a_inS (zs := ["sum", "most"]) rfl (fun _ q => q) (by show _ ≤ 100; decide) rfl) fun H3 e3 => sq_yes (a_sg rfl rfl) ⟨_, rfl, s2, fun u nu => ⟨s1, fun b nb => ⟨_, rfl, s2, fun v nv => ⟨s2, ?_⟩⟩⟩⟩))))
    have y3 := y2.grow e3
    have z1 := y3.put (o := .tup [.str "row", .ref pn]) nu
    have z2 := z1.put (o := .lst [.ref u]) nb
    have z3 := z2.put (o := .tup [.str "row", .ref pn]) nv
    have hn := KRep.mono (y3.gnew nu (o := .tup [.str "row", .ref pn])) hnum
    have hn2 := KRep.mono (z2.gnew nv (o := .tup [.str "row", .ref pn])) (KRep.mono (z1.gnew nb (o := .lst [.ref u])) hn)
    exact fin _ _ z3 b _ _ (z2.gnew nv _ _ upd_same) (.cons (KRep.mono (z2.gnew nv) (KRep.mono (z1.gnew nb) (kr_row upd_same hn))) .nil) (kr_row upd_same hn2)
  · refine sq_no (a_sg rfl rfl) (sq_no (a_sg rfl rfl) (sq_no (a_sg rfl rfl) (sq_no (a_sg rfl rfl) (sq_noS (a_inS (zs := ["sum", "most"]) rfl (fun _ q => q) (by show _ ≤ 100; decide) rfl) fun H3 e3 => sq_no (a_sg rfl rfl) ⟨_, rfl, s2, fun u nu => ⟨s1, fun b nb => ⟨_, rfl, s2, ?_⟩⟩⟩))))
    have y3 := y2.grow e3
    have z1 := y3.put (o := .tup [.str "row", .ref pr]) nu
    have z2 := z1.put (o := .lst [.ref u]) nb
    have hn := KRep.mono (y3.gnew nu (o := .tup [.str "row", .ref pr])) hrow
    exact fin _ _ z2 b _ _ upd_same (.cons (KRep.mono (z1.gnew nb) (kr_row upd_same hn)) .nil) (KRep.mono (z1.gnew nb) hn)
end
end Bw
namespace Bw
open PySem PySem.Spec PyProof.Rows L2
open C8 (Cal pe_c)
section
variable {P : Program} {w : World} {K : PySem.W.Frag} {mg : Str → Option Value} {base : Heap}
def spKinds (K : PySem.W.Frag) : Sp := fun vs H Q _ => ∃ (G : Hp) (t : Addr) (c : Nat) (s0 : Sg), vs = [.ref t, .str s0.nm] ∧ Same G H ∧ Tp G H t c ∧ c + 20 ≤ CMAX ∧
  ∀ (s : Sg) (p : Addr) (G' H' : Hp), s.nm = s0.nm → (∀ k ∈ s.ks, k.dep ≤ 5) → s.res.dep ≤ 5 → Xt (At t) G H G' H' → Tp G' H' t (c + 20) → KAns K G' s p → Q (.ref p) H'
abbrev N_law_kinds : List PySem.Str := ["tape", "sign", "num", "truth", "one", "other", "row", "like", "pair"]
theorem sc_law_kinds : FnScope N_law_kinds ["tape", "sign"] (defScope s_law_kinds) := ⟨rfl, rfl, rfl, by decide +kernel, rfl, by decide +kernel, by decide +kernel⟩
theorem c_law_kinds (T : Txt K mg) (c_law_kind : Cal P w K mg base 5 "_law_kind" (spKind K 3) []) (c_law_draw : Cal P w K mg base 2 "_law_draw" spDraw []) (c_law_kinds_of_one : Cal P w K mg base 1 "_law_kinds_of_one" (spKindsOne K) []) : Cal P w K mg base 6 "_law_kinds" (spKinds K) [] := by
  refine cal_of (d := d_law_kinds) T (mem_fn 47) rfl (mem_fa 47) rfl rfl sc_law_kinds (fun _ _ _ _ _ _ us hl => match us, hl with | [_, _], _ => rfl) (fun vs H Q E h => ?_) (fun cdv A outer s H vs Q E f hr h => ?_)
  · obtain ⟨G, t, c, s0, rfl, _⟩ := h
    rfl
  obtain ⟨G, t, c, s0, rfl, sG, tp, hc, q⟩ := h
  have hC : CMAX = 1000000000000000000 := rfl
  refine ⟨_, (pss_cons (ps_set (i := 2) sc_law_kinds.nd rfl (.inl rfl) (pe_tup (pa_cons pe_str pa_nil)))
      (pss_cons (ps_set (i := 3) sc_law_kinds.nd rfl (.inl rfl) (pe_tup (pa_cons pe_str pa_nil)))
      (pss_cons (ps_set (i := 4) sc_law_kinds.nd rfl (.inl rfl) (pe_c c_law_kind hr (by decide) rfl (pa_cons (pv 0) (pa_cons (pe_op op_add pe_int (pe_c c_law_draw hr (by decide) rfl (pa_cons (pv 0) (pa_cons pe_int pa_nil)))) pa_nil))))
      (pss_cons (ps_set (i := 5) sc_law_kinds.nd rfl (.inl rfl) (pe_c c_law_kind hr (by decide) rfl (pa_cons (pv 0) (pa_cons (pe_op op_add pe_int (pe_c c_law_draw hr (by decide) rfl (pa_cons (pv 0) (pa_cons pe_int pa_nil)))) pa_nil))))
      (pss_cons (ps_set (i := 6) sc_law_kinds.nd rfl (.inl rfl) (pe_tup (pa_cons pe_str (pa_cons (pv 4) pa_nil))))
      (pss_cons (ps_if (pt_cmpR o_in (pv 1) (pe_tup (pa_cons pe_str (pa_cons pe_str (pa_cons pe_str (pa_cons pe_str (pa_cons pe_str (pa_cons pe_str pa_nil))))))) (by rfl)) (pss_one (ps_ret (pe_tup (pa_cons (pe_lst (pa_cons (pv 2) (pa_cons (pv 2) pa_nil))) (pa_cons (pe_ix i_list (pe_lst (pa_cons (pv 2) (pa_cons (pv 3) pa_nil))) (e_int T.int (pe_cmpR op_eq (pv 1) pe_str (nomark _))) (fun _ _ => rfl)) pa_nil))))) pss_nil)
      (pss_cons (ps_if (pt_cmpR op_eq (pv 1) pe_str (nomark _)) (pss_cons (ps_set (i := 7) sc_law_kinds.nd rfl (.inl rfl) (pe_ix i_list (pe_lst (pa_cons (pv 2) (pa_cons (pv 3) pa_nil))) (pe_c c_law_draw hr (by decide) rfl (pa_cons (pv 0) (pa_cons pe_int pa_nil))) (fun _ _ => rfl)))
      (pss_one (ps_ret (pe_tup (pa_cons (pe_lst (pa_cons (pv 7) (pa_cons (pv 7) pa_nil))) (pa_cons (pv 3) pa_nil)))))) pss_nil)
      (pss_cons (ps_if (pt_cmpR op_eq (pv 1) pe_str (nomark _)) (pss_one (ps_ret (pe_tup (pa_cons (pe_lst (pa_cons (pv 3) (pa_cons (pv 3) pa_nil))) (pa_cons (pv 3) pa_nil))))) pss_nil)
      (pss_cons (ps_if (pt_cmpR op_eq (pv 1) pe_str (nomark _)) (pss_one (ps_ret (pe_tup (pa_cons (pe_lst (pa_cons (pv 4) (pa_cons (pv 5) pa_nil))) (pa_cons (pe_tup (pa_cons pe_str (pa_cons (pv 4) (pa_cons (pv 5) pa_nil)))) pa_nil))))) pss_nil)
      (pss_cons (ps_if (pt_cmpR op_eq (pv 1) pe_str (nomark _)) (pss_one (ps_ret (pe_tup (pa_cons (pe_lst (pa_cons (pv 6) (pa_cons (pv 2) pa_nil))) (pa_cons (pv 4) pa_nil))))) pss_nil)
      (pss_cons (ps_if (pt_cmpR op_eq (pv 1) pe_str (nomark _)) (pss_one (ps_ret (pe_tup (pa_cons (pe_lst (pa_cons (pv 6) (pa_cons (pv 6) pa_nil))) (pa_cons (pv 6) pa_nil))))) pss_nil)
      (pss_cons (ps_if (pt_cmpR op_eq (pv 1) pe_str (nomark _)) (pss_one (ps_ret (pe_tup (pa_cons (pe_lst (pa_cons (pv 6) (pa_cons (pe_tup (pa_cons pe_str (pa_cons (pv 3) pa_nil))) pa_nil))) (pa_cons (pv 6) pa_nil))))) pss_nil)
      (pss_cons (ps_if (pt_cmpR op_eq (pv 1) pe_str (nomark _)) (pss_one (ps_ret (pe_tup (pa_cons (pe_lst (pa_cons (pv 6) (pa_cons (pe_tup (pa_cons pe_str (pa_cons (pv 2) pa_nil))) pa_nil))) (pa_cons (pe_tup (pa_cons pe_str (pa_cons (pv 6) pa_nil))) pa_nil))))) pss_nil)
      (pss_cons (ps_if (pt_cmpR o_in (pv 1) (pe_tup (pa_cons pe_str (pa_cons pe_str pa_nil))) (by rfl)) (pss_cons (ps_set (i := 8) sc_law_kinds.nd rfl (.inl rfl) (pe_tup (pa_cons pe_str (pa_cons (pv 4) (pa_cons (pv 5) pa_nil)))))
      (pss_one (ps_ret (pe_tup (pa_cons (pe_lst (pa_cons (pv 8) pa_nil)) (pa_cons (pe_ix i_list (pe_lst (pa_cons (pv 4) (pa_cons (pv 5) pa_nil))) (e_int T.int (pe_cmpR op_eq (pv 1) pe_str (nomark _))) (fun _ _ => rfl)) pa_nil)))))) pss_nil)
      (pss_one (ps_ret (pe_c c_law_kinds_of_one hr (by decide) rfl (pa_cons (pv 1) (pa_cons (pv 4) pa_nil))))))))))))))))))), ?_⟩
  have s1 : 1 ≤ sizeLine := by decide
  have s2 : 2 ≤ sizeLine := by decide
  have s3 : 3 ≤ sizeLine := by decide
  refine ⟨s1, fun pn nn => ⟨s1, fun pt nt => ?_⟩⟩
  have y1 := Xt.new (M := At t) (o := .tup [.str "num"]) sG nn
  have y2 := y1.put (o := .tup [.str "truth"]) nt
  have tp2 := (tp.on (Xt.new (o := .tup [.str "num"]) sG nn)).on (Xt.new (o := .tup [.str "truth"]) y1.sub nt)
  have hnum : KRep K _ .num (.ref pn) := KRep.mono (y1.gnew nt (o := .tup [.str "truth"])) (kr_num upd_same)
  have htru : KRep K (upd (upd G pn (.tup [.str "num"])) pt (.tup [.str "truth"])) .truth (.ref pt) := kr_truth upd_same
  generalize upd (upd G pn (.tup [.str "num"])) pt (.tup [.str "truth"]) = G2 at y2 tp2 hnum htru
  generalize upd (upd H pn (.tup [.str "num"])) pt (.tup [.str "truth"]) = H2 at y2 tp2
  refine ⟨_, rfl, _, rfl, G2, t, c, 3, rfl, y2.sub, tp2, by omega, by decide, by decide, fun r1 H3 x3 t3 a0 a1 => ?_⟩
  obtain ⟨m1, rfl⟩ : ∃ m : Nat, r1 = m := ⟨r1.toNat, by omega⟩
  have hp1 : 2 ^ (1 + m1) ≤ 8 := Nat.pow_le_pow_right (n := 2) (by decide) (show 1 + m1 ≤ 3 by omega)
  refine ⟨_, _, rfl, rfl, G2, t, _, 1 + m1, rfl, by omega, by omega, x3.sub, t3, by omega, fun k1 v1 G4 H4 x4 kr1 d1 t4 => ?_⟩
  refine ⟨_, rfl, _, rfl, G4, t, _, 3, rfl, x4.sub, t4, by omega, by decide, by decide, fun r2 H5 x5 t5 b0 b1 => ?_⟩
  obtain ⟨m2, rfl⟩ : ∃ m : Nat, r2 = m := ⟨r2.toNat, by omega⟩
  have hp2 : 2 ^ (1 + m2) ≤ 8 := Nat.pow_le_pow_right (n := 2) (by decide) (show 1 + m2 ≤ 3 by omega)
  refine ⟨_, _, rfl, rfl, G4, t, _, 1 + m2, rfl, by omega, by omega, x5.sub, t5, by omega, fun k2 v2 G6 H6 x6 kr2 d2 t6 => ?_⟩
  refine ⟨_, rfl, s2, fun pr nr => ?_⟩
  have yA := (((y2.trans x3).trans x4).trans x5).trans x6
  have y7 := yA.put (o := .tup [.str "row", v1]) nr
  have kr1 := KRep.mono (yA.gnew nr (o := .tup [.str "row", v1])) (KRep.mono x6.g (KRep.mono x5.g kr1))
  have kr2 := KRep.mono (yA.gnew nr (o := .tup [.str "row", v1])) kr2
  have hg := (yA.gnew nr (o := .tup [.str "row", v1]))
  have hg2 := ((x3.trans x4).trans (x5.trans x6)).g.trans hg
  have hnum := KRep.mono hg2 hnum
  have htru := KRep.mono hg2 htru
  have hrow : KRep K _ (.row k1) (.ref pr) := kr_row upd_same kr1
  have t7 := (t6.on (Xt.new (o := .tup [.str "row", v1]) yA.sub nr)).le (show _ ≤ c + 18 by omega)
  clear hg hg2 yA x3 x4 x5 x6 t6 t5 t4 t3 nr
  generalize upd G6 pr (.tup [.str "row", v1]) = G7 at *
  generalize upd H6 pr (.tup [.str "row", v1]) = H7 at *
  have fin : ∀ (s : Sg) (G3 H3 : Hp) (x3 : X0 G7 H7 G3 H3) (b : Addr) (ks : List V) (kv : V), s.nm = s0.nm → (∀ k ∈ s.ks, k.dep ≤ 5) → s.res.dep ≤ 5 → G3 b = some (.lst ks) → KReps K G3 s.ks ks → KRep K G3 s.res kv → ∀ p, H3 p = none → Q (.ref p) (upd H3 p (.tup [.ref b, kv])) := fun s G3 H3 x3 b ks kv hn hd1 hd2 g1 g2 g3 p np =>
    q s p _ _ hn hd1 hd2 (y7.trans (x3.put np).weak) ((t7.on (x3.put np)).le (by omega)) ⟨b, ks, kv, upd_same, x3.gnew np _ _ g1, KReps.mono (x3.gnew np) g2, KRep.mono (x3.gnew np) g3⟩
  have rf7 : X0 G7 H7 G7 H7 := Xt.refl y7.sub
  cases s0 with
  | add =>
    refine sq_yesS (a_inS (zs := ["add", "sub", "mul", "div", "rest", "less"]) rfl (fun _ q => q) (by show _ ≤ 100; decide) rfl) fun H8 e8 => ⟨_, rfl, _, rfl, s2, fun b nb => ⟨_, rfl, _, rfl, s2, fun D nD => ⟨_, rfl, rfl, .inr ⟨false, rfl, D, _, 0, _, rfl, rfl, SqL.of upd_same, atI_nat (j := 0) rfl, s2, ?_⟩⟩⟩⟩
    have z0 := rf7.grow e8
    have z1 := z0.put (o := .lst [.ref pn, .ref pn]) nb
    have z2 := z1.trans (Xt.loc (o := .lst [.ref pn, .ref pt]) z1.sub nD)
    exact fin .add _ _ z2 b _ _ rfl (by simp [Kd.dep]) (by simp [Kd.dep]) upd_same (.cons (KRep.mono (z0.gnew nb) hnum) (.cons (KRep.mono (z0.gnew nb) hnum) .nil)) (KRep.mono (z0.gnew nb) hnum)
  | sub =>
    refine sq_yesS (a_inS (zs := ["add", "sub", "mul", "div", "rest", "less"]) rfl (fun _ q => q) (by show _ ≤ 100; decide) rfl) fun H8 e8 => ⟨_, rfl, _, rfl, s2, fun b nb => ⟨_, rfl, _, rfl, s2, fun D nD => ⟨_, rfl, rfl, .inr ⟨false, rfl, D, _, 0, _, rfl, rfl, SqL.of upd_same, atI_nat (j := 0) rfl, s2, ?_⟩⟩⟩⟩
    have z0 := rf7.grow e8
    have z1 := z0.put (o := .lst [.ref pn, .ref pn]) nb
    have z2 := z1.trans (Xt.loc (o := .lst [.ref pn, .ref pt]) z1.sub nD)
    exact fin .sub _ _ z2 b _ _ rfl (by simp [Kd.dep]) (by simp [Kd.dep]) upd_same (.cons (KRep.mono (z0.gnew nb) hnum) (.cons (KRep.mono (z0.gnew nb) hnum) .nil)) (KRep.mono (z0.gnew nb) hnum)
  | mul =>
    refine sq_yesS (a_inS (zs := ["add", "sub", "mul", "div", "rest", "less"]) rfl (fun _ q => q) (by show _ ≤ 100; decide) rfl) fun H8 e8 => ⟨_, rfl, _, rfl, s2, fun b nb => ⟨_, rfl, _, rfl, s2, fun D nD => ⟨_, rfl, rfl, .inr ⟨false, rfl, D, _, 0, _, rfl, rfl, SqL.of upd_same, atI_nat (j := 0) rfl, s2, ?_⟩⟩⟩⟩
    have z0 := rf7.grow e8
    have z1 := z0.put (o := .lst [.ref pn, .ref pn]) nb
    have z2 := z1.trans (Xt.loc (o := .lst [.ref pn, .ref pt]) z1.sub nD)
    exact fin .mul _ _ z2 b _ _ rfl (by simp [Kd.dep]) (by simp [Kd.dep]) upd_same (.cons (KRep.mono (z0.gnew nb) hnum) (.cons (KRep.mono (z0.gnew nb) hnum) .nil)) (KRep.mono (z0.gnew nb) hnum)
  | div =>
    refine sq_yesS (a_inS (zs := ["add", "sub", "mul", "div", "rest", "less"]) rfl (fun _ q => q) (by show _ ≤ 100; decide) rfl) fun H8 e8 => ⟨_, rfl, _, rfl, s2, fun b nb => ⟨_, rfl, _, rfl, s2, fun D nD => ⟨_, rfl, rfl, .inr ⟨false, rfl, D, _, 0, _, rfl, rfl, SqL.of upd_same, atI_nat (j := 0) rfl, s2, ?_⟩⟩⟩⟩
    have z0 := rf7.grow e8
    have z1 := z0.put (o := .lst [.ref pn, .ref pn]) nb
    have z2 := z1.trans (Xt.loc (o := .lst [.ref pn, .ref pt]) z1.sub nD)
    exact fin .div _ _ z2 b _ _ rfl (by simp [Kd.dep]) (by simp [Kd.dep]) upd_same (.cons (KRep.mono (z0.gnew nb) hnum) (.cons (KRep.mono (z0.gnew nb) hnum) .nil)) (KRep.mono (z0.gnew nb) hnum)
  | rest =>
    refine sq_yesS (a_inS (zs := ["add", "sub", "mul", "div", "rest", "less"]) rfl (fun _ q => q) (by show _ ≤ 100; decide) rfl) fun H8 e8 => ⟨_, rfl, _, rfl, s2, fun b nb => ⟨_, rfl, _, rfl, s2, fun D nD => ⟨_, rfl, rfl, .inr ⟨false, rfl, D, _, 0, _, rfl, rfl, SqL.of upd_same, atI_nat (j := 0) rfl, s2, ?_⟩⟩⟩⟩
    have z0 := rf7.grow e8
    have z1 := z0.put (o := .lst [.ref pn, .ref pn]) nb
    have z2 := z1.trans (Xt.loc (o := .lst [.ref pn, .ref pt]) z1.sub nD)
    exact fin .rest _ _ z2 b _ _ rfl (by simp [Kd.dep]) (by simp [Kd.dep]) upd_same (.cons (KRep.mono (z0.gnew nb) hnum) (.cons (KRep.mono (z0.gnew nb) hnum) .nil)) (KRep.mono (z0.gnew nb) hnum)
  | less =>
    refine sq_yesS (a_inS (zs := ["add", "sub", "mul", "div", "rest", "less"]) rfl (fun _ q => q) (by show _ ≤ 100; decide) rfl) fun H8 e8 => ⟨_, rfl, _, rfl, s2, fun b nb => ⟨_, rfl, _, rfl, s2, fun D nD => ⟨_, rfl, rfl, .inr ⟨true, rfl, D, _, 1, _, rfl, rfl, SqL.of upd_same, atI_nat (j := 1) rfl, s2, ?_⟩⟩⟩⟩
    have z0 := rf7.grow e8
    have z1 := z0.put (o := .lst [.ref pn, .ref pn]) nb
    have z2 := z1.trans (Xt.loc (o := .lst [.ref pn, .ref pt]) z1.sub nD)
    exact fin .less _ _ z2 b _ _ rfl (by simp [Kd.dep]) (by simp [Kd.dep]) upd_same (.cons (KRep.mono (z0.gnew nb) hnum) (.cons (KRep.mono (z0.gnew nb) hnum) .nil)) (KRep.mono (z0.gnew nb) htru)
  | sameN =>
    refine sq_noS (a_inS (zs := ["add", "sub", "mul", "div", "rest", "less"]) rfl (fun _ q => q) (by show _ ≤ 100; decide) rfl) fun H8 e8 => sq_yes (a_sg rfl rfl) ⟨_, rfl, _, rfl, s2, fun D nD => ?_⟩
    have z0 := rf7.grow e8
    have z1 := z0.trans (Xt.loc (o := .lst [.ref pn, .ref pt]) z0.sub nD)
    refine ⟨_, rfl, G7, t, _, 2, rfl, z1.sub, t7.on z1, by omega, by decide, by decide, fun r H9 x9 t9 r0 r1 => ?_⟩
    have hD : H9 D = some (.lst [.ref pn, .ref pt]) := x9.old D _ (fun z => (t7.on z0).ne (by rw [← show D = t from z]; exact nD)) upd_same
    obtain rfl | rfl : r = 0 ∨ r = 1 := by omega
    · refine ⟨D, _, 0, _, rfl, rfl, SqL.of hD, atI_nat (j := 0) rfl, _, rfl, _, rfl, s2, fun b nb => ⟨_, rfl, s2, fun p np => ?_⟩⟩
      have w := x9.put (o := .lst [.ref pn, .ref pn]) nb
      have t10 := t9.on (Xt.new (o := .lst [.ref pn, .ref pn]) x9.sub nb)
      exact q .sameN p _ _ rfl (by simp [Kd.dep]) (by simp [Kd.dep]) ((y7.trans z1.weak).trans (w.put np)) ((t10.on (Xt.new w.sub np)).le (by omega)) ⟨b, _, _, upd_same, w.gnew np _ _ upd_same, .cons (KRep.mono (w.gnew np) (KRep.mono (x9.gnew nb) hnum)) (.cons (KRep.mono (w.gnew np) (KRep.mono (x9.gnew nb) hnum)) .nil), KRep.mono (w.gnew np) (KRep.mono (x9.gnew nb) htru)⟩
    · refine ⟨D, _, 1, _, rfl, rfl, SqL.of hD, atI_nat (j := 1) rfl, _, rfl, _, rfl, s2, fun b nb => ⟨_, rfl, s2, fun p np => ?_⟩⟩
      have w := x9.put (o := .lst [.ref pt, .ref pt]) nb
      have t10 := t9.on (Xt.new (o := .lst [.ref pt, .ref pt]) x9.sub nb)
      exact q .sameT p _ _ rfl (by simp [Kd.dep]) (by simp [Kd.dep]) ((y7.trans z1.weak).trans (w.put np)) ((t10.on (Xt.new w.sub np)).le (by omega)) ⟨b, _, _, upd_same, w.gnew np _ _ upd_same, .cons (KRep.mono (w.gnew np) (KRep.mono (x9.gnew nb) htru)) (.cons (KRep.mono (w.gnew np) (KRep.mono (x9.gnew nb) htru)) .nil), KRep.mono (w.gnew np) (KRep.mono (x9.gnew nb) htru)⟩
  | sameT =>
    refine sq_noS (a_inS (zs := ["add", "sub", "mul", "div", "rest", "less"]) rfl (fun _ q => q) (by show _ ≤ 100; decide) rfl) fun H8 e8 => sq_yes (a_sg rfl rfl) ⟨_, rfl, _, rfl, s2, fun D nD => ?_⟩
    have z0 := rf7.grow e8
    have z1 := z0.trans (Xt.loc (o := .lst [.ref pn, .ref pt]) z0.sub nD)
    refine ⟨_, rfl, G7, t, _, 2, rfl, z1.sub, t7.on z1, by omega, by decide, by decide, fun r H9 x9 t9 r0 r1 => ?_⟩
    have hD : H9 D = some (.lst [.ref pn, .ref pt]) := x9.old D _ (fun z => (t7.on z0).ne (by rw [← show D = t from z]; exact nD)) upd_same
    obtain rfl | rfl : r = 0 ∨ r = 1 := by omega
    · refine ⟨D, _, 0, _, rfl, rfl, SqL.of hD, atI_nat (j := 0) rfl, _, rfl, _, rfl, s2, fun b nb => ⟨_, rfl, s2, fun p np => ?_⟩⟩
      have w := x9.put (o := .lst [.ref pn, .ref pn]) nb
      have t10 := t9.on (Xt.new (o := .lst [.ref pn, .ref pn]) x9.sub nb)
      exact q .sameN p _ _ rfl (by simp [Kd.dep]) (by simp [Kd.dep]) ((y7.trans z1.weak).trans (w.put np)) ((t10.on (Xt.new w.sub np)).le (by omega)) ⟨b, _, _, upd_same, w.gnew np _ _ upd_same, .cons (KRep.mono (w.gnew np) (KRep.mono (x9.gnew nb) hnum)) (.cons (KRep.mono (w.gnew np) (KRep.mono (x9.gnew nb) hnum)) .nil), KRep.mono (w.gnew np) (KRep.mono (x9.gnew nb) htru)⟩
    · refine ⟨D, _, 1, _, rfl, rfl, SqL.of hD, atI_nat (j := 1) rfl, _, rfl, _, rfl, s2, fun b nb => ⟨_, rfl, s2, fun p np => ?_⟩⟩
      have w := x9.put (o := .lst [.ref pt, .ref pt]) nb
      have t10 := t9.on (Xt.new (o := .lst [.ref pt, .ref pt]) x9.sub nb)
      exact q .sameT p _ _ rfl (by simp [Kd.dep]) (by simp [Kd.dep]) ((y7.trans z1.weak).trans (w.put np)) ((t10.on (Xt.new w.sub np)).le (by omega)) ⟨b, _, _, upd_same, w.gnew np _ _ upd_same, .cons (KRep.mono (w.gnew np) (KRep.mono (x9.gnew nb) htru)) (.cons (KRep.mono (w.gnew np) (KRep.mono (x9.gnew nb) htru)) .nil), KRep.mono (w.gnew np) (KRep.mono (x9.gnew nb) htru)⟩
  | both =>
    refine sq_noS (a_inS (zs := ["add", "sub", "mul", "div", "rest", "less"]) rfl (fun _ q => q) (by show _ ≤ 100; decide) rfl) fun H8 e8 => sq_no (a_sg rfl rfl) (sq_yes (a_sg rfl rfl) ⟨_, rfl, _, rfl, s2, fun b nb => ⟨_, rfl, s2, ?_⟩⟩)
    have z0 := rf7.grow e8
    have z1 := z0.put (o := .lst [.ref pt, .ref pt]) nb
    exact fin (.both) _ _ z1 b _ _ rfl (by simp [Kd.dep]) (by simp [Kd.dep]) upd_same (.cons (KRep.mono (z0.gnew nb) htru) (.cons (KRep.mono (z0.gnew nb) htru) .nil)) (KRep.mono (z0.gnew nb) htru)
  | pair k l =>
    refine sq_noS (a_inS (zs := ["add", "sub", "mul", "div", "rest", "less"]) rfl (fun _ q => q) (by show _ ≤ 100; decide) rfl) fun H8 e8 => sq_no (a_sg rfl rfl) (sq_no (a_sg rfl rfl) (sq_yes (a_sg rfl rfl) ⟨_, rfl, _, rfl, s2, fun b nb => ⟨_, rfl, _, rfl, s3, fun u nu => ⟨s2, ?_⟩⟩⟩))
    have z0 := rf7.grow e8
    have z1 := z0.put (o := .lst [v1, v2]) nb
    have z2 := z1.put (o := .tup [.str "pair", v1, v2]) nu
    have g1 := KRep.mono (z1.gnew nu (o := .tup [.str "pair", v1, v2])) (KRep.mono (z0.gnew nb (o := .lst [v1, v2])) kr1)
    have g2 := KRep.mono (z1.gnew nu (o := .tup [.str "pair", v1, v2])) (KRep.mono (z0.gnew nb (o := .lst [v1, v2])) kr2)
    exact fin (.pair k1 k2) _ _ z2 b _ _ rfl (by intro k hk; simp at hk; rcases hk with rfl | rfl <;> (try simp [Kd.dep]) <;> omega) (by (try simp [Kd.dep]) <;> omega) (z1.gnew nu _ _ upd_same) (.cons g1 (.cons g2 .nil)) (kr_pair upd_same g1 g2)
  | pick k =>
    refine sq_noS (a_inS (zs := ["add", "sub", "mul", "div", "rest", "less"]) rfl (fun _ q => q) (by show _ ≤ 100; decide) rfl) fun H8 e8 => sq_no (a_sg rfl rfl) (sq_no (a_sg rfl rfl) (sq_no (a_sg rfl rfl) (sq_yes (a_sg rfl rfl) ⟨_, rfl, _, rfl, s2, fun b nb => ⟨_, rfl, s2, ?_⟩⟩)))
    have z0 := rf7.grow e8
    have z1 := z0.put (o := .lst [.ref pr, .ref pn]) nb
    exact fin (.pick k1) _ _ z1 b _ _ rfl (by intro k hk; simp at hk; rcases hk with rfl | rfl <;> (try simp [Kd.dep]) <;> omega) (by show k1.dep ≤ 5; omega) upd_same (.cons (KRep.mono (z0.gnew nb) hrow) (.cons (KRep.mono (z0.gnew nb) hnum) .nil)) (KRep.mono (z0.gnew nb) kr1)
  | join k =>
    refine sq_noS (a_inS (zs := ["add", "sub", "mul", "div", "rest", "less"]) rfl (fun _ q => q) (by show _ ≤ 100; decide) rfl) fun H8 e8 => sq_no (a_sg rfl rfl) (sq_no (a_sg rfl rfl) (sq_no (a_sg rfl rfl) (sq_no (a_sg rfl rfl) (sq_yes (a_sg rfl rfl) ⟨_, rfl, _, rfl, s2, fun b nb => ⟨_, rfl, s2, ?_⟩⟩))))
    have z0 := rf7.grow e8
    have z1 := z0.put (o := .lst [.ref pr, .ref pr]) nb
    exact fin (.join k1) _ _ z1 b _ _ rfl (by intro k hk; simp at hk; rcases hk with rfl | rfl <;> (try simp [Kd.dep]) <;> omega) (by (try simp [Kd.dep]) <;> omega) upd_same (.cons (KRep.mono (z0.gnew nb) hrow) (.cons (KRep.mono (z0.gnew nb) hrow) .nil)) (KRep.mono (z0.gnew nb) hrow)
  | keep k =>
    refine sq_noS (a_inS (zs := ["add", "sub", "mul", "div", "rest", "less"]) rfl (fun _ q => q) (by show _ ≤ 100; decide) rfl) fun H8 e8 => sq_no (a_sg rfl rfl) (sq_no (a_sg rfl rfl) (sq_no (a_sg rfl rfl) (sq_no (a_sg rfl rfl) (sq_no (a_sg rfl rfl) (sq_yes (a_sg rfl rfl) ⟨_, rfl, _, rfl, s2, fun u nu => ⟨s2, fun b nb => ⟨_, rfl, s2, ?_⟩⟩⟩)))))
    have z0 := rf7.grow e8
    have z1 := z0.put (o := .tup [.str "row", .ref pt]) nu
    have z2 := z1.put (o := .lst [.ref pr, .ref u]) nb
    have g1 := KRep.mono (z1.gnew nb (o := .lst [.ref pr, .ref u])) (KRep.mono (z0.gnew nu (o := .tup [.str "row", .ref pt])) hrow)
    have g2 := KRep.mono (z1.gnew nb (o := .lst [.ref pr, .ref u])) (kr_row upd_same (KRep.mono (z0.gnew nu (o := .tup [.str "row", .ref pt])) htru))
    exact fin (.keep k1) _ _ z2 b _ _ rfl (by intro k hk; simp at hk; rcases hk with rfl | rfl <;> (try simp [Kd.dep]) <;> omega) (by (try simp [Kd.dep]) <;> omega) upd_same (.cons g1 (.cons g2 .nil)) g1
  | cut k =>
    refine sq_noS (a_inS (zs := ["add", "sub", "mul", "div", "rest", "less"]) rfl (fun _ q => q) (by show _ ≤ 100; decide) rfl) fun H8 e8 => sq_no (a_sg rfl rfl) (sq_no (a_sg rfl rfl) (sq_no (a_sg rfl rfl) (sq_no (a_sg rfl rfl) (sq_no (a_sg rfl rfl) (sq_no (a_sg rfl rfl) (sq_yes (a_sg rfl rfl) ⟨_, rfl, _, rfl, s2, fun u nu => ⟨s2, fun b nb => ⟨_, rfl, s2, fun v nv => ⟨s2, ?_⟩⟩⟩⟩))))))
    have z0 := rf7.grow e8
    have z1 := z0.put (o := .tup [.str "row", .ref pn]) nu
    have z2 := z1.put (o := .lst [.ref pr, .ref u]) nb
    have z3 := z2.put (o := .tup [.str "row", .ref pr]) nv
    have g1 := KRep.mono (z2.gnew nv (o := .tup [.str "row", .ref pr])) (KRep.mono (z1.gnew nb (o := .lst [.ref pr, .ref u])) (KRep.mono (z0.gnew nu (o := .tup [.str "row", .ref pn])) hrow))
    have g2 := KRep.mono (z2.gnew nv (o := .tup [.str "row", .ref pr])) (KRep.mono (z1.gnew nb (o := .lst [.ref pr, .ref u])) (kr_row upd_same (KRep.mono (z0.gnew nu (o := .tup [.str "row", .ref pn])) hnum)))
    exact fin (.cut k1) _ _ z3 b _ _ rfl (by intro k hk; simp at hk; rcases hk with rfl | rfl <;> (try simp [Kd.dep]) <;> omega) (by (try simp [Kd.dep]) <;> omega) (z2.gnew nv _ _ upd_same) (.cons g1 (.cons g2 .nil)) (kr_row upd_same g1)
  | first k l =>
    refine sq_noS (a_inS (zs := ["add", "sub", "mul", "div", "rest", "less"]) rfl (fun _ q => q) (by show _ ≤ 100; decide) rfl) fun H8 e8 => sq_no (a_sg rfl rfl) (sq_no (a_sg rfl rfl) (sq_no (a_sg rfl rfl) (sq_no (a_sg rfl rfl) (sq_no (a_sg rfl rfl) (sq_no (a_sg rfl rfl) (sq_no (a_sg rfl rfl) (sq_yesS (a_inS (zs := ["first", "second"]) rfl (fun _ q => q) (by show _ ≤ 100; decide) rfl) fun H9 e9 => ⟨_, rfl, _, rfl, s3, fun u nu => ⟨_, rfl, s1, fun b nb => ⟨_, rfl, _, rfl, s2, fun D nD => ⟨_, rfl, rfl, .inr ⟨false, rfl, D, _, 0, _, rfl, rfl, SqL.of upd_same, atI_nat (j := 0) rfl, s2, ?_⟩⟩⟩⟩⟩)))))))
    have z0 := (rf7.grow e8).grow e9
    have z1 := z0.put (o := .tup [.str "pair", v1, v2]) nu
    have z2 := z1.put (o := .lst [.ref u]) nb
    have z3 := z2.trans (Xt.loc (o := .lst [v1, v2]) z2.sub nD)
    have g1 := KRep.mono (z0.gnew nu (o := .tup [.str "pair", v1, v2])) kr1
    have g2 := KRep.mono (z0.gnew nu (o := .tup [.str "pair", v1, v2])) kr2
    exact fin (.first k1 k2) _ _ z3 b _ _ rfl (by intro k hk; simp at hk; rcases hk with rfl; (try simp [Kd.dep]) <;> omega) (by show k1.dep ≤ 5; omega) upd_same (.cons (KRep.mono (z1.gnew nb) (kr_pair upd_same g1 g2)) .nil) (KRep.mono (z1.gnew nb) g1)
  | second k l =>
    refine sq_noS (a_inS (zs := ["add", "sub", "mul", "div", "rest", "less"]) rfl (fun _ q => q) (by show _ ≤ 100; decide) rfl) fun H8 e8 => sq_no (a_sg rfl rfl) (sq_no (a_sg rfl rfl) (sq_no (a_sg rfl rfl) (sq_no (a_sg rfl rfl) (sq_no (a_sg rfl rfl) (sq_no (a_sg rfl rfl) (sq_no (a_sg rfl rfl) (sq_yesS (a_inS (zs := ["first", "second"]) rfl (fun _ q => q) (by show _ ≤ 100; decide) rfl) fun H9 e9 => ⟨_, rfl, _, rfl, s3, fun u nu => ⟨_, rfl, s1, fun b nb => ⟨_, rfl, _, rfl, s2, fun D nD => ⟨_, rfl, rfl, .inr ⟨true, rfl, D, _, 1, _, rfl, rfl, SqL.of upd_same, atI_nat (j := 1) rfl, s2, ?_⟩⟩⟩⟩⟩)))))))
    have z0 := (rf7.grow e8).grow e9
    have z1 := z0.put (o := .tup [.str "pair", v1, v2]) nu
    have z2 := z1.put (o := .lst [.ref u]) nb
    have z3 := z2.trans (Xt.loc (o := .lst [v1, v2]) z2.sub nD)
    have g1 := KRep.mono (z0.gnew nu (o := .tup [.str "pair", v1, v2])) kr1
    have g2 := KRep.mono (z0.gnew nu (o := .tup [.str "pair", v1, v2])) kr2
    exact fin (.second k1 k2) _ _ z3 b _ _ rfl (by intro k hk; simp at hk; rcases hk with rfl; (try simp [Kd.dep]) <;> omega) (by show k2.dep ≤ 5; omega) upd_same (.cons (KRep.mono (z1.gnew nb) (kr_pair upd_same g1 g2)) .nil) (KRep.mono (z1.gnew nb) g2)
  | not =>
    refine sq_noS (a_inS (zs := ["add", "sub", "mul", "div", "rest", "less"]) rfl (fun _ q => q) (by show _ ≤ 100; decide) rfl) fun H8 e8 => sq_no (a_sg rfl rfl) (sq_no (a_sg rfl rfl) (sq_no (a_sg rfl rfl) (sq_no (a_sg rfl rfl) (sq_no (a_sg rfl rfl) (sq_no (a_sg rfl rfl) (sq_no (a_sg rfl rfl) (sq_noS (a_inS (zs := ["first", "second"]) rfl (fun _ q => q) (by show _ ≤ 100; decide) rfl) fun H9 e9 => ⟨_, rfl, _, rfl, G7, .not, k1, v1, rfl, ((rf7.grow e8).grow e9).sub, kr1, (.inl rfl), fun p G8 H10 x8 ans => ?_⟩)))))))
    have z0 := ((rf7.grow e8).grow e9).trans x8
    exact q (.not) p _ _ rfl (by intro k hk; simp at hk; rcases hk with rfl; (try simp [Kd.dep]) <;> omega) (by (try simp [Kd.dep]) <;> omega) (y7.trans z0.weak) ((t7.on z0).le (by omega)) ans
  | one k =>
    refine sq_noS (a_inS (zs := ["add", "sub", "mul", "div", "rest", "less"]) rfl (fun _ q => q) (by show _ ≤ 100; decide) rfl) fun H8 e8 => sq_no (a_sg rfl rfl) (sq_no (a_sg rfl rfl) (sq_no (a_sg rfl rfl) (sq_no (a_sg rfl rfl) (sq_no (a_sg rfl rfl) (sq_no (a_sg rfl rfl) (sq_no (a_sg rfl rfl) (sq_noS (a_inS (zs := ["first", "second"]) rfl (fun _ q => q) (by show _ ≤ 100; decide) rfl) fun H9 e9 => ⟨_, rfl, _, rfl, G7, .one k1, k1, v1, rfl, ((rf7.grow e8).grow e9).sub, kr1, (.inr (.inl rfl)), fun p G8 H10 x8 ans => ?_⟩)))))))
    have z0 := ((rf7.grow e8).grow e9).trans x8
    exact q (.one k1) p _ _ rfl (by intro k hk; simp at hk; rcases hk with rfl; (try simp [Kd.dep]) <;> omega) (by (try simp [Kd.dep]) <;> omega) (y7.trans z0.weak) ((t7.on z0).le (by omega)) ans
  | upto =>
    refine sq_noS (a_inS (zs := ["add", "sub", "mul", "div", "rest", "less"]) rfl (fun _ q => q) (by show _ ≤ 100; decide) rfl) fun H8 e8 => sq_no (a_sg rfl rfl) (sq_no (a_sg rfl rfl) (sq_no (a_sg rfl rfl) (sq_no (a_sg rfl rfl) (sq_no (a_sg rfl rfl) (sq_no (a_sg rfl rfl) (sq_no (a_sg rfl rfl) (sq_noS (a_inS (zs := ["first", "second"]) rfl (fun _ q => q) (by show _ ≤ 100; decide) rfl) fun H9 e9 => ⟨_, rfl, _, rfl, G7, .upto, k1, v1, rfl, ((rf7.grow e8).grow e9).sub, kr1, (.inr (.inr (.inl rfl))), fun p G8 H10 x8 ans => ?_⟩)))))))
    have z0 := ((rf7.grow e8).grow e9).trans x8
    exact q (.upto) p _ _ rfl (by intro k hk; simp at hk; rcases hk with rfl; (try simp [Kd.dep]) <;> omega) (by (try simp [Kd.dep]) <;> omega) (y7.trans z0.weak) ((t7.on z0).le (by omega)) ans
  | long k =>
    refine sq_noS (a_inS (zs := ["add", "sub", "mul", "div", "rest", "less"]) rfl (fun _ q => q) (by show _ ≤ 100; decide) rfl) fun H8 e8 => sq_no (a_sg rfl rfl) (sq_no (a_sg rfl rfl) (sq_no (a_sg rfl rfl) (sq_no (a_sg rfl rfl) (sq_no (a_sg rfl rfl) (sq_no (a_sg rfl rfl) (sq_no (a_sg rfl rfl) (sq_noS (a_inS (zs := ["first", "second"]) rfl (fun _ q => q) (by show _ ≤ 100; decide) rfl) fun H9 e9 => ⟨_, rfl, _, rfl, G7, .long k1, k1, v1, rfl, ((rf7.grow e8).grow e9).sub, kr1, (.inr (.inr (.inr (.inl rfl)))), fun p G8 H10 x8 ans => ?_⟩)))))))
    have z0 := ((rf7.grow e8).grow e9).trans x8
    exact q (.long k1) p _ _ rfl (by intro k hk; simp at hk; rcases hk with rfl; (try simp [Kd.dep]) <;> omega) (by (try simp [Kd.dep]) <;> omega) (y7.trans z0.weak) ((t7.on z0).le (by omega)) ans
  | sum =>
    refine sq_noS (a_inS (zs := ["add", "sub", "mul", "div", "rest", "less"]) rfl (fun _ q => q) (by show _ ≤ 100; decide) rfl) fun H8 e8 => sq_no (a_sg rfl rfl) (sq_no (a_sg rfl rfl) (sq_no (a_sg rfl rfl) (sq_no (a_sg rfl rfl) (sq_no (a_sg rfl rfl) (sq_no (a_sg rfl rfl) (sq_no (a_sg rfl rfl) (sq_noS (a_inS (zs := ["first", "second"]) rfl (fun _ q => q) (by show _ ≤ 100; decide) rfl) fun H9 e9 => ⟨_, rfl, _, rfl, G7, .sum, k1, v1, rfl, ((rf7.grow e8).grow e9).sub, kr1, (.inr (.inr (.inr (.inr (.inl rfl))))), fun p G8 H10 x8 ans => ?_⟩)))))))
    have z0 := ((rf7.grow e8).grow e9).trans x8
    exact q (.sum) p _ _ rfl (by intro k hk; simp at hk; rcases hk with rfl; (try simp [Kd.dep]) <;> omega) (by (try simp [Kd.dep]) <;> omega) (y7.trans z0.weak) ((t7.on z0).le (by omega)) ans
  | most =>
    refine sq_noS (a_inS (zs := ["add", "sub", "mul", "div", "rest", "less"]) rfl (fun _ q => q) (by show _ ≤ 100; decide) rfl) fun H8 e8 => sq_no (a_sg rfl rfl) (sq_no (a_sg rfl rfl) (sq_no (a_sg rfl rfl) (sq_no (a_sg rfl rfl) (sq_no (a_sg rfl rfl) (sq_no (a_sg rfl rfl) (sq_no (a_sg rfl rfl) (sq_noS (a_inS (zs := ["first", "second"]) rfl (fun _ q => q) (by show _ ≤ 100; decide) rfl) fun H9 e9 => ⟨_, rfl, _, rfl, G7, .most, k1, v1, rfl, ((rf7.grow e8).grow e9).sub, kr1, (.inr (.inr (.inr (.inr (.inr (.inl rfl)))))), fun p G8 H10 x8 ans => ?_⟩)))))))
    have z0 := ((rf7.grow e8).grow e9).trans x8
    exact q (.most) p _ _ rfl (by intro k hk; simp at hk; rcases hk with rfl; (try simp [Kd.dep]) <;> omega) (by (try simp [Kd.dep]) <;> omega) (y7.trans z0.weak) ((t7.on z0).le (by omega)) ans
  | sums =>
    refine sq_noS (a_inS (zs := ["add", "sub", "mul", "div", "rest", "less"]) rfl (fun _ q => q) (by show _ ≤ 100; decide) rfl) fun H8 e8 => sq_no (a_sg rfl rfl) (sq_no (a_sg rfl rfl) (sq_no (a_sg rfl rfl) (sq_no (a_sg rfl rfl) (sq_no (a_sg rfl rfl) (sq_no (a_sg rfl rfl) (sq_no (a_sg rfl rfl) (sq_noS (a_inS (zs := ["first", "second"]) rfl (fun _ q => q) (by show _ ≤ 100; decide) rfl) fun H9 e9 => ⟨_, rfl, _, rfl, G7, .sums, k1, v1, rfl, ((rf7.grow e8).grow e9).sub, kr1, (.inr (.inr (.inr (.inr (.inr (.inr (.inl rfl))))))), fun p G8 H10 x8 ans => ?_⟩)))))))
    have z0 := ((rf7.grow e8).grow e9).trans x8
    exact q (.sums) p _ _ rfl (by intro k hk; simp at hk; rcases hk with rfl; (try simp [Kd.dep]) <;> omega) (by (try simp [Kd.dep]) <;> omega) (y7.trans z0.weak) ((t7.on z0).le (by omega)) ans
  | flat k =>
    refine sq_noS (a_inS (zs := ["add", "sub", "mul", "div", "rest", "less"]) rfl (fun _ q => q) (by show _ ≤ 100; decide) rfl) fun H8 e8 => sq_no (a_sg rfl rfl) (sq_no (a_sg rfl rfl) (sq_no (a_sg rfl rfl) (sq_no (a_sg rfl rfl) (sq_no (a_sg rfl rfl) (sq_no (a_sg rfl rfl) (sq_no (a_sg rfl rfl) (sq_noS (a_inS (zs := ["first", "second"]) rfl (fun _ q => q) (by show _ ≤ 100; decide) rfl) fun H9 e9 => ⟨_, rfl, _, rfl, G7, .flat k1, k1, v1, rfl, ((rf7.grow e8).grow e9).sub, kr1, (.inr (.inr (.inr (.inr (.inr (.inr (.inr rfl))))))), fun p G8 H10 x8 ans => ?_⟩)))))))
    have z0 := ((rf7.grow e8).grow e9).trans x8
    exact q (.flat k1) p _ _ rfl (by intro k hk; simp at hk; rcases hk with rfl; (try simp [Kd.dep]) <;> omega) (by (try simp [Kd.dep]) <;> omega) (y7.trans z0.weak) ((t7.on z0).le (by omega)) ans
end
end Bw
namespace Bw
open PySem PySem.Spec PyProof.Rows L2
open C8 (Cal pe_c)
/-! ### kinds and worths as data, compared by == -/
def kdD : Kd → PyData
  | .num => .tuple [.str "num"]
  | .truth => .tuple [.str "truth"]
  | .pair k l => .tuple [.str "pair", kdD k, kdD l]
  | .row k => .tuple [.str "row", kdD k]
theorem kd_dp {K : PySem.W.Frag} {G : Hp} : ∀ {k : Kd} {v : V}, KRep K G k v → Dp K G v (kdD k)
  | .num, _, ⟨a, h, s⟩ => by rw [h]; exact .tup s (.cons (.str _) .nil)
  | .truth, _, ⟨a, h, s⟩ => by rw [h]; exact .tup s (.cons (.str _) .nil)
  | .pair k l, _, ⟨a, x, y, h, s, h1, h2⟩ => by rw [h]; exact .tup s (.cons (.str _) (.cons (kd_dp h1) (.cons (kd_dp h2) .nil)))
  | .row k, _, ⟨a, x, h, s, h1⟩ => by rw [h]; exact .tup s (.cons (.str _) (.cons (kd_dp h1) .nil))
theorem kd_lay : ∀ k : Kd, (kdD k).canLay0 = true ∧ (kdD k).depth ≤ k.dep
  | .num => ⟨by decide +kernel, by decide +kernel⟩
  | .truth => ⟨by decide +kernel, by decide +kernel⟩
  | .pair k l => by
    obtain ⟨h1, h2⟩ := kd_lay k
    obtain ⟨h3, h4⟩ := kd_lay l
    refine ⟨?_, ?_⟩
    · show (PyData.canLay0 (.str "pair") && ((kdD k).canLay0 && ((kdD l).canLay0 && true))) = true
      rw [h1, h3]
      decide +kernel
    · show max 0 (max (kdD k).depth (max (kdD l).depth 0)) + 1 ≤ max k.dep l.dep + 1
      omega
  | .row k => by
    obtain ⟨h1, h2⟩ := kd_lay k
    refine ⟨?_, ?_⟩
    · show (PyData.canLay0 (.str "row") && ((kdD k).canLay0 && true)) = true
      rw [h1]
      decide +kernel
    · show max 0 (max (kdD k).depth 0) + 1 ≤ k.dep + 1
      omega
theorem kd_shaped {k : Kd} (h : k.dep ≤ 64) : SeqAt.shaped (kdD k) = true := by
  obtain ⟨h1, h2⟩ := kd_lay k
  unfold SeqAt.shaped
  rw [h1, decide_eq_true (by omega : (kdD k).depth ≤ 64)]
  rfl
theorem kd_eqv : ∀ k : Kd, (kdD k).eqv (kdD .num) = true → k = .num
  | .num, _ => rfl
  | .truth, h => absurd h (by decide +kernel)
  | .pair k l, h => by
    have e : (kdD (.pair k l)).eqv (kdD .num) = ((PyData.str "pair").eqv (.str "num") && false) := rfl
    rw [e] at h
    exact absurd h (by decide +kernel)
  | .row k, h => by
    have e : (kdD (.row k)).eqv (kdD .num) = ((PyData.str "row").eqv (.str "num") && false) := rfl
    rw [e] at h
    exact absurd h (by decide +kernel)
def wD : (k : Kd) → Ty k → PyData
  | .num, i => .int i
  | .truth, b => .bool b
  | .pair k l, p => .tuple [wD k p.1, wD l p.2]
  | .row k, r => .list (List.map (wD k) r)
theorem dp_all {K : PySem.W.Frag} {G : Hp} {α : Type} {f : α → PyData} : ∀ {ws : List α} {vs : List V}, Paired (fun u v => Dp K G v (f u)) ws vs → DpAll K G vs (ws.map f)
  | _, _, .nil => .nil
  | _, _, .cons h t => .cons h (dp_all t)
theorem w_dp {K : PySem.W.Frag} {G : Hp} : ∀ {k : Kd} {u : Ty k} {v : V}, Rep G k u v → Dp K G v (wD k u)
  | .num, i, _, h => by rw [show _ = V.int i from h]; exact .int i
  | .truth, b, _, h => by rw [show _ = V.bl b from h]; exact .bl b
  | .pair k l, p, _, ⟨a, x, y, h, g, h1, h2⟩ => by rw [h]; exact .tup (SqT.of g) (.cons (w_dp h1) (.cons (w_dp h2) .nil))
  | .row k, r, _, ⟨a, vs, h, g, h1⟩ => by rw [h]; exact .lst (SqL.of g) (dp_all (L2.Paired.mapP h1 fun u v q => w_dp q))
theorem lay_all {α : Type} {f : α → PyData} {n : Nat} (h : ∀ u, (f u).canLay0 = true ∧ (f u).depth ≤ n) : ∀ ws : List α, PyData.canLayAll0 (ws.map f) = true ∧ PyData.depthAll (ws.map f) ≤ n
  | [] => ⟨rfl, Nat.zero_le _⟩
  | w :: ws => by
    obtain ⟨h1, h2⟩ := h w
    obtain ⟨h3, h4⟩ := lay_all h ws
    refine ⟨?_, ?_⟩
    · show ((f w).canLay0 && PyData.canLayAll0 (ws.map f)) = true
      rw [h1, h3]
      rfl
    · show max (f w).depth (PyData.depthAll (ws.map f)) ≤ n
      omega
theorem w_lay : ∀ (k : Kd) (u : Ty k), (wD k u).canLay0 = true ∧ (wD k u).depth ≤ k.dep
  | .num, i => ⟨rfl, Nat.zero_le _⟩
  | .truth, b => ⟨rfl, Nat.zero_le _⟩
  | .pair k l, p => by
    obtain ⟨h1, h2⟩ := w_lay k p.1
    obtain ⟨h3, h4⟩ := w_lay l p.2
    refine ⟨?_, ?_⟩
    · show ((wD k p.1).canLay0 && ((wD l p.2).canLay0 && true)) = true
      rw [h1, h3]
      rfl
    · show max (wD k p.1).depth (max (wD l p.2).depth 0) + 1 ≤ max k.dep l.dep + 1
      omega
  | .row k, r => by
    obtain ⟨h1, h2⟩ := lay_all (f := wD k) (w_lay k) r
    exact ⟨h1, Nat.succ_le_succ h2⟩
theorem w_shaped {k : Kd} {u : Ty k} (h : k.dep ≤ 64) : SeqAt.shaped (wD k u) = true := by
  obtain ⟨h1, h2⟩ := w_lay k u
  unfold SeqAt.shaped
  rw [h1, decide_eq_true (by omega : (wD k u).depth ≤ 64)]
  rfl
theorem eqv_nil {k : Kd} : ∀ r : List (Ty k), (wD (.row k) r).eqv (.list []) = decide (r = [])
  | [] => rfl
  | w :: r => rfl
theorem flat_rep (i : Int) : ∀ n : Nat, (List.replicate n [V.int i]).flatten = (List.replicate n i).map V.int
  | 0 => rfl
  | n + 1 => by
    rw [List.replicate_succ, List.flatten_cons, flat_rep i n, List.replicate_succ]
    rfl
theorem tot_num : ∀ ws : List Int, tot .num ws = ws.length
  | [] => rfl
  | w :: ws => by
    have h := tot_num ws
    have e : tot .num (w :: ws) = 1 + tot .num ws := tot_cons (k := .num)
    rw [e, h, List.length_cons]
    omega
def ThRep (G : Hp) (s : Sg) (tt : Tys s.ks) (v : V) : Prop := ∃ (p : Addr) (ws : List V), v = .ref p ∧ G p = some (.lst ws) ∧ RepsT G s.ks tt ws
section
variable {P : Program} {w : World} {K : PySem.W.Frag} {mg : Str → Option Value} {base : Heap}
def spLong (K : PySem.W.Frag) : Sp := fun vs H Q _ => ∃ (G : Hp) (t : Addr) (c : Nat) (k : Kd) (s : Sg) (x : V) (way : Int), vs = [.ref t, .str s.nm, x, .int way] ∧ (s = .join k ∨ s = .flat k) ∧ Same G H ∧ Tp G H t c ∧ c + 6 ≤ CMAX ∧ KRep K G k x ∧ k.dep ≤ 5 ∧
  (∀ H', Xt (At t) G H G H' → Tp G H' t (c + 6) → Q .non H') ∧ ∀ (tt : Tys s.ks) (v : V) (G' H' : Hp), Xt (At t) G H G' H' → Tp G' H' t (c + 6) → ThRep G' s tt v → wszs s.ks tt ≤ 300 → Q v H'
abbrev N_law_long : List PySem.Str := ["tape", "sign", "kind", "way", "rows"]
theorem sc_law_long : FnScope N_law_long ["tape", "sign", "kind", "way"] (defScope s_law_long) := ⟨rfl, rfl, rfl, by decide +kernel, rfl, by decide +kernel, by decide +kernel⟩
theorem c_law_long (T : Txt K mg) (c_law_draw : Cal P w K mg base 2 "_law_draw" spDraw []) (c_law_number : Cal P w K mg base 3 "_law_number" spLawNum []) : Cal P w K mg base 4 "_law_long" (spLong K) [] := by
  refine cal_of (d := d_law_long) T (mem_fn 49) rfl (mem_fa 49) rfl rfl sc_law_long (fun _ _ _ _ _ _ us hl => match us, hl with | [_, _, _, _], _ => rfl) (fun vs H Q E h => ?_) (fun cdv A outer s H vs Q E f hr h => ?_)
  · obtain ⟨G, t, c, k, s, x, way, rfl, _⟩ := h
    rfl
  obtain ⟨G, t, c, k, sg, x, way, rfl, hsg, sG, tp, hc, hk, hd, qn, qs⟩ := h
  have hC : CMAX = 1000000000000000000 := rfl
  refine ⟨_, (pss_cons (ps_if (PW.pt (pw_or (pt_cmpR (o_neD hr.units) (pv 2) (pe_tup (pa_cons pe_str pa_nil)) (nomark _)) (pw_or1 (pt_cmpR op_lt (pe_c c_law_draw hr (by decide) rfl (pa_cons (pv 0) (pa_cons pe_int pa_nil))) pe_int (nomark _))))) (pss_one (ps_ret pe_non)) pss_nil)
      (pss_cons (ps_set (i := 4) sc_law_long.nd rfl (.inl rfl) (pe_lst (pa_cons (pe_op op_rep (pe_lst (pa_cons (pe_c c_law_number hr (by decide) rfl (pa_cons (pv 0) pa_nil)) pa_nil)) pe_int) (pa_cons (pe_op op_rep (pe_lst (pa_cons pe_int pa_nil)) (pe_op op_add pe_int (pe_op op_mod (pv 3) pe_int))) pa_nil))))
      (pss_cons (ps_if (pt_cmpR op_eq (pv 1) pe_str (nomark _)) (pss_one (ps_ret (pv 4))) pss_nil)
      (pss_one (ps_ret (pe_lst (pa_cons (pv 4) pa_nil))))))), ?_⟩
  have s1 : 1 ≤ sizeLine := by decide
  have s2 : 2 ≤ sizeLine := by decide
  refine ⟨_, rfl, s1, fun u nu => ?_⟩
  have x1 := Xt.loc (M := At t) (o := .tup [.str "num"]) sG nu
  have t1 := tp.on (Xt.loc (o := .tup [.str "num"]) sG nu)
  have hu : (upd H u (.tup [.str "num"])) u = some (.tup [.str "num"]) := upd_same
  generalize upd H u (.tup [.str "num"]) = H1 at x1 t1 hu
  refine ⟨kdD k, kdD .num, kd_dp (KRep.mono x1.sub hk), .tup (SqT.of hu) (.cons (.str _) .nil), kd_shaped (by omega), by decide +kernel, _, rfl, iteE (fun _ => iteT (qn H1 x1 (t1.le (by omega)))) fun hne => ?_⟩
  have hkn : k = .num := kd_eqv k (by
    cases h : (kdD k).eqv (kdD .num) with
    | true => rfl
    | false =>
      rw [h] at hne
      cases hne)
  subst hkn
  refine ⟨_, rfl, G, t, c, 24, rfl, x1.sub, t1, by omega, by decide, by decide, fun r H2 x2 t2 _ _ => ⟨_, _, rfl, rfl, _, rfl, iteE (fun _ => qn H2 (x1.trans x2) (t2.le (by omega))) fun _ => ?_⟩⟩
  refine ⟨_, rfl, G, t, _, rfl, x2.sub, t2, by omega, fun i H3 x3 t3 hi => ⟨s1, fun l1 n1 => ⟨l1, 100, _, rfl, rfl, upd_same, by decide, by decide, by show 1 * 100 ≤ sizeLine; decide, fun p1 np1 => ⟨s1, fun l2 n2 => ?_⟩⟩⟩⟩
  have z1 := Xt.loc (M := No) (o := .lst [V.int i]) x3.sub n1
  have z2 := z1.put (o := .lst (List.replicate (100 : Int).toNat [V.int i]).flatten) np1
  have z3 := z2.trans (Xt.loc (M := No) (o := .lst [V.int 7]) z2.sub n2)
  obtain ⟨n, hn, hn2⟩ : ∃ n : Nat, 99 + way % 4 = (n : Int) ∧ n ≤ 102 := ⟨(99 + way % 4).toNat, by omega, by omega⟩
  have hsz : (102 : Nat) ≤ sizeLine := by decide
  refine ⟨_, rfl, _, _, rfl, rfl, by show (0 : Int) < 4; decide, _, _, rfl, rfl, l2, (n : Int), _, rfl, by rw [← hn], upd_same, by omega, by omega, by show 1 * (n : Int).toNat ≤ sizeLine; omega, fun p2 np2 => ⟨s2, fun rw nrw => ?_⟩⟩
  have z4 := z3.put (o := .lst (List.replicate (n : Int).toNat [V.int 7]).flatten) np2
  have z5 := z4.put (o := .lst [.ref p1, .ref p2]) nrw
  have xA := ((x1.trans x2).trans x3).trans z5.weak
  have r1 : Rep _ (.row .num) (List.replicate (100 : Int).toNat i) (.ref p1) := Rep.mono (z4.gnew nrw (o := .lst [.ref p1, .ref p2])) (Rep.mono (z3.gnew np2 (o := .lst (List.replicate (n : Int).toNat [V.int 7]).flatten)) (⟨p1, _, rfl, upd_same, by rw [flat_rep]; exact int_reps _⟩ : Rep (upd G p1 (.lst (List.replicate (100 : Int).toNat [V.int i]).flatten)) (.row .num) (List.replicate (100 : Int).toNat i) (.ref p1)))
  have r2 : Rep _ (.row .num) (List.replicate (n : Int).toNat 7) (.ref p2) := Rep.mono (z4.gnew nrw (o := .lst [.ref p1, .ref p2])) (⟨p2, _, rfl, upd_same, by rw [flat_rep 7]; exact int_reps _⟩ : Rep (upd (upd G p1 (.lst (List.replicate (100 : Int).toNat [V.int i]).flatten)) p2 (.lst (List.replicate (n : Int).toNat [V.int 7]).flatten)) (.row .num) (List.replicate (n : Int).toNat 7) (.ref p2))
  have w1 := tot_num (List.replicate (100 : Int).toNat i)
  have w2 := tot_num (List.replicate (n : Int).toNat 7)
  rw [List.length_replicate] at w1 w2
  have w1 : tot .num (List.replicate (100 : Int).toNat i) = 100 := w1
  rcases hsg with rfl | rfl
  · refine sq_yes (a_sg rfl rfl) ⟨_, rfl, ?_⟩
    refine qs (List.replicate (100 : Int).toNat i, List.replicate (n : Int).toNat 7, ()) _ _ _ xA ((t3.on z5).le (by omega)) ⟨rw, _, rfl, upd_same, _, _, rfl, r1, _, _, rfl, r2, rfl⟩ ?_
    show (1 + tot .num (List.replicate (100 : Int).toNat i)) + ((1 + tot .num (List.replicate (n : Int).toNat 7)) + 0) ≤ 300
    omega
  · refine sq_no (a_sg rfl rfl) ⟨_, rfl, s1, fun b nb => ?_⟩
    have z6 := z5.put (o := .lst [.ref rw]) nb
    refine qs ([List.replicate (100 : Int).toNat i, List.replicate (n : Int).toNat 7], ()) _ _ _ (((x1.trans x2).trans x3).trans z6.weak) ((t3.on z6).le (by omega)) ⟨b, _, rfl, upd_same, _, _, rfl, Rep.mono (z5.gnew nb) ⟨rw, _, rfl, upd_same, .cons r1 (.cons r2 .nil)⟩, rfl⟩ ?_
    have e : tot (.row .num) [List.replicate (100 : Int).toNat i, List.replicate (n : Int).toNat 7] = (1 + tot .num (List.replicate (100 : Int).toNat i)) + ((1 + tot .num (List.replicate (n : Int).toNat 7)) + 0) := rfl
    show (1 + tot (.row .num) [List.replicate (100 : Int).toNat i, List.replicate (n : Int).toNat 7]) + 0 ≤ 300
    omega
end
end Bw
namespace Bw
open PySem PySem.Spec PyProof.Rows L2
open C8 (Cal pe_c)
section
variable {σ : L2.St} {H : Hp} {D : Ends} {t t1 t2 : TS} {c d : TT}
theorem and_no (h : Ans c σ H false) : Ans (tAnd c d) σ H false := fun Q q => h _ (by
  show if false = true then _ else _
  exact iteF q)
theorem and_noS (h : AnS c σ H false) : AnS (tAnd c d) σ H false := fun Q q => h _ fun H' e => by
  show if false = true then _ else _
  exact iteF (q H' e)
theorem sq_and (h : Ans c σ H true) (q : tSeq (tIfS d t1 t2) t D σ H) : tSeq (tIfS (tAnd c d) t1 t2) t D σ H := h _ (by
  show if true = true then _ else _
  exact iteT q)
theorem sq_andS (h : AnS c σ H true) (q : ∀ H', Same H H' → tSeq (tIfS d t1 t2) t D σ H') : tSeq (tIfS (tAnd c d) t1 t2) t D σ H := h _ fun H' e => by
  show if true = true then _ else _
  exact iteT (q H' e)
end
/-- a worth of a kind, of bounded size -/
def TP (G : Hp) (p : Sigma Ty) (v : V) : Prop := Rep G p.1 p.2 v ∧ wsz p.1 p.2 ≤ 6432 ∧ NB p.1 p.2
theorem TP.mono {G G' : Hp} (e : Same G G') {us : List (Sigma Ty)} {vs : List V} (h : Paired (TP G) us vs) : Paired (TP G') us vs := L2.Paired.mapP h fun _ _ q => ⟨Rep.mono e q.1, q.2⟩
theorem to_tys {G : Hp} : ∀ (ks : List Kd) (us : List (Sigma Ty)) (vs : List V), us.map Sigma.fst = ks → Paired (TP G) us vs → ∃ tt : Tys ks, RepsT G ks tt vs ∧ wszs ks tt ≤ ks.length * 6432 ∧ NBs ks tt
  | [], [], _, _, .nil => ⟨(), rfl, Nat.le_refl _, trivial⟩
  | [], _ :: _, _, h, _ => by cases h
  | _ :: _, [], _, h, _ => by cases h
  | k :: ks, u :: us, _, h, .cons (b := v) (l₂ := vs) r p => by
    obtain ⟨h1, h2⟩ := List.cons.inj h
    obtain ⟨tt, r1, r2, r3⟩ := to_tys ks us vs h2 p
    obtain ⟨k', w⟩ := u
    cases h1
    refine ⟨(w, tt), ⟨v, vs, rfl, r.1, r1⟩, ?_, r.2.2, r3⟩
    have := r.2.1
    show wsz k' w + wszs ks tt ≤ (ks.length + 1) * 6432
    have h4 : wsz k' w ≤ 6432 := this
    omega
theorem tot_truth : ∀ ws : List Bool, tot .truth ws = ws.length
  | [] => rfl
  | w :: ws => by
    have h := tot_truth ws
    have e : tot .truth (w :: ws) = 1 + tot .truth ws := tot_cons (k := .truth)
    rw [e, h, List.length_cons]
    omega
section LT
variable {P : Program} {w : World} {K : PySem.W.Frag} {mg : Str → Option Value} {base : Heap}
def CT : Nat := 2 * cst 5 + 16000
def spThing (K : PySem.W.Frag) : Sp := fun vs H Q _ => ∃ (G : Hp) (t : Addr) (c : Nat) (s : Sg) (a : Addr) (ks : List V), vs = [.ref t, .str s.nm, .ref a] ∧ G a = some (.lst ks) ∧ KReps K G s.ks ks ∧ (∀ k ∈ s.ks, k.dep ≤ 5) ∧ Same G H ∧ Tp G H t c ∧ c + CT ≤ CMAX ∧
  ∀ (tt : Tys s.ks) (v : V) (G' H' : Hp), Xt (At t) G H G' H' → ThRep G' s tt v → wszs s.ks tt ≤ 40000 → NBs s.ks tt → Tp G' H' t (c + CT) → Q v H'
abbrev N_law_thing : List PySem.Str := ["tape", "sign", "kinds", "some", "way", "few", "leaf", "long", "kind", "one"]
theorem sc_law_thing : FnScope N_law_thing ["tape", "sign", "kinds"] (defScope s_law_thing) := ⟨rfl, rfl, rfl, by decide +kernel, rfl, by decide +kernel, by decide +kernel⟩
theorem c_law_thing (T : Txt K mg) (c_law_worthD : Cal P w K mg base 8 "_law_worth" (spLawWorth K 5) [.bl true]) (c_law_draw : Cal P w K mg base 2 "_law_draw" spDraw []) (c_law_long : Cal P w K mg base 4 "_law_long" (spLong K) []) : Cal P w K mg base 9 "_law_thing" (spThing K) [] := by
  refine cal_of (d := d_law_thing) T (mem_fn 50) rfl (mem_fa 50) rfl rfl sc_law_thing (fun _ _ _ _ _ _ us hl => match us, hl with | [_, _, _], _ => rfl) (fun vs H Q E h => ?_) (fun cdv A outer s H vs Q E f hr h => ?_)
  · obtain ⟨G, t, c, sg, a, ks, rfl, _⟩ := h
    rfl
  obtain ⟨G, t, c, sg, a, ks, rfl, ga, hks, hdp, sG, tp, hc, q⟩ := h
  have hC : CMAX = 1000000000000000000 := rfl
  have hCT : CT = 2 * cst 5 + 16000 := rfl
  generalize CT = F at hCT hc q
  obtain ⟨E, hE⟩ : ∃ E, cst 5 = E := ⟨_, rfl⟩
  rw [hE] at hCT
  have hsz : 20000 ≤ sizeLine := by decide
  refine ⟨_, (pss_cons (ps_setLc (i := 3) (own := [("kind", 8)]) rfl sc_law_thing.nd rfl rfl (sw_true rfl rfl rfl (by decide +kernel)) (pi_list (pv 2)) (blkOk_by (N := N_law_thing) (sc := defScope s_law_thing) (by decide +kernel)) (fun _ _ _ _ _ => (pg_name (i := 8) sc_law_thing.nd rfl (.inl rfl))) (fun _ _ _ _ _ => pts_nil) (fun _ _ _ _ _ => (pe_c c_law_worthD hr (by decide) rfl (pa_cons (pv 0) (pa_cons (pv 8) pa_nil)))))
      (pss_cons (ps_set (i := 4) sc_law_thing.nd rfl (.inl rfl) (pe_c c_law_draw hr (by decide) rfl (pa_cons (pv 0) (pa_cons pe_int pa_nil))))
      (pss_cons (ps_if (PW.pt (pw_and (pt_cmpR op_eq (pv 1) pe_str (nomark _)) (pw_and1 (pt_cmpR op_lt (pv 4) pe_int (nomark _))))) (pss_one (ps_ret (pe_lst (pa_cons (pe_c c_law_draw hr (by decide) rfl (pa_cons (pv 0) (pa_cons pe_int pa_nil))) pa_nil)))) pss_nil)
      (pss_cons (ps_if (PW.pt (pw_and (pt_cmpR op_eq (pv 1) pe_str (nomark _)) (pw_and (pt_cmpR op_lt (pv 4) pe_int (nomark _)) (pw_and1 (pt_cmpR (o_neD hr.units) (pe_ix i_list (pv 3) pe_int (fun _ _ => rfl)) (pe_lst pa_nil) (nomark _)))))) (pss_one (ps_ret (pe_lst (pa_cons (pe_ix i_list (pv 3) pe_int (fun _ _ => rfl)) (pa_cons (pe_c c_law_draw hr (by decide) rfl (pa_cons (pv 0) (pa_cons (e_len T.len (pe_ix i_list (pv 3) pe_int (fun _ _ => rfl))) pa_nil))) pa_nil))))) pss_nil)
      (pss_cons (ps_if (PW.pt (pw_and (pt_cmpR op_eq (pv 1) pe_str (nomark _)) (pw_and1 (pt_cmpR op_lt (pv 4) pe_int (nomark _))))) (pss_one (ps_ret (pe_lst (pa_cons (pe_ix i_list (pv 3) pe_int (fun _ _ => rfl)) (pa_cons (pe_lc (own := [("one", 9)]) rfl sc_law_thing.nd (pi_list (pe_ix i_list (pv 3) pe_int (fun _ _ => rfl))) (blkOk_by (N := N_law_thing) (sc := defScope s_law_thing) (by decide +kernel)) (fun _ _ _ _ _ => (pg_name (i := 9) sc_law_thing.nd rfl (.inl rfl))) (fun _ _ _ _ _ => pts_nil) (fun _ _ _ _ _ => (pe_cmpR op_eq (pe_c c_law_draw hr (by decide) rfl (pa_cons (pv 0) (pa_cons pe_int pa_nil))) pe_int (nomark _)))) pa_nil))))) pss_nil)
      (pss_cons (ps_if (PW.pt (pw_and (pt_cmpR op_eq (pv 1) pe_str (nomark _)) (pw_and1 (pt_cmpR op_lt (pv 4) pe_int (nomark _))))) (pss_cons (ps_set (i := 5) sc_law_thing.nd rfl (.inl rfl) (pe_c c_law_draw hr (by decide) rfl (pa_cons (pv 0) (pa_cons (pe_op op_add (e_len T.len (pe_ix i_list (pv 3) pe_int (fun _ _ => rfl))) pe_int) pa_nil))))
      (pss_one (ps_ret (pe_lst (pa_cons (pe_ix i_list (pv 3) pe_int (fun _ _ => rfl)) (pa_cons (pe_lst (pa_cons (pv 5) (pa_cons pe_int (pa_cons (pe_op op_sub (e_len T.len (pe_ix i_list (pv 3) pe_int (fun _ _ => rfl))) (pv 5)) pa_nil)))) pa_nil)))))) pss_nil)
      (pss_cons (ps_if (pt_cmpR o_in (pv 1) (pe_tup (pa_cons pe_str (pa_cons pe_str pa_nil))) (by rfl)) (pss_cons (ps_set (i := 6) sc_law_thing.nd rfl (.inl rfl) (pe_ix i_tup (pe_ix i_list (pv 2) pe_int (fun _ _ => rfl)) pe_int (fun _ _ => rfl)))
      (pss_cons (ps_if (pt_cmpR op_eq (pv 1) pe_str (nomark _)) (pss_one (ps_set (i := 6) sc_law_thing.nd rfl (.inl rfl) (pe_ix i_tup (pv 6) pe_int (fun _ _ => rfl)))) pss_nil)
      (pss_cons (ps_set (i := 7) sc_law_thing.nd rfl (.inl rfl) (pe_c c_law_long hr (by decide) rfl (pa_cons (pv 0) (pa_cons (pv 1) (pa_cons (pv 6) (pa_cons (pv 4) pa_nil))))))
      (pss_one (ps_if (pt_cmpR op_notN (pv 7) pe_non (nomark _)) (pss_one (ps_ret (pv 7))) pss_nil))))) pss_nil)
      (pss_cons (ps_if (PW.pt (pw_and (pt_cmpR o_in (pv 1) (pe_tup (pa_cons pe_str (pa_cons pe_str pa_nil))) (by rfl)) (pw_and (pt_cmpR op_lt (pv 4) pe_int (nomark _)) (pw_and1 (pt_cmpR op_eq (pe_ix i_list (pv 3) pe_int (fun _ _ => rfl)) pe_int (nomark _)))))) (pss_one (ps_ret (pe_lst (pa_cons (pe_ix i_list (pv 3) pe_int (fun _ _ => rfl)) (pa_cons (pe_op op_add pe_int (pv 4)) pa_nil))))) pss_nil)
      (pss_cons (ps_if (PW.pt (pw_and (pt_cmpR op_eq (pv 1) pe_str (nomark _)) (pw_and (pt_cmpR op_lt (pv 4) pe_int (nomark _)) (pw_and1 (pt_cmpR (o_eqD hr.units) (pe_ix i_list (pv 3) pe_int (fun _ _ => rfl)) (pe_lst pa_nil) (nomark _)))))) (pss_one (ps_ret (pe_lst (pa_cons (pe_lst (pa_cons (pv 4) pa_nil)) pa_nil)))) pss_nil)
      (pss_one (ps_ret (pv 3)))))))))))), ?_⟩
  have hkl := Paired.length hks
  have hk2 := ks_two sg
  refine ⟨_, rfl, a, rfl, ⟨ks, SqL.of (sG _ _ ga)⟩, fun D nD => ?_⟩
  have nDt : D ≠ t := fun z => by
    rw [z] at nD
    exact tp.ne nD
  have hmul : ∀ i, i ≤ ks.length → i * E ≤ 2 * E := fun i hi => Nat.mul_le_mul_right _ (by omega)
  refine lc_gen (M := At t) (G1 := G) (walk_list (xs := ks)) (fun i acc G' H' => ∃ us : List (Sigma Ty), us.map Sigma.fst = sg.ks.take i ∧ Paired (TP G') us acc ∧ Tp G' H' t (c + i * E)) sG (fun b z => by rw [show b = t from z]; exact tp.ne) nD ⟨[], rfl, .nil, (tp.put nDt).le (by omega)⟩
    (fun i acc G' H' o ⟨us, h1, h2, h3⟩ _ => ⟨us, h1, h2, h3.put nDt⟩) (fun i acc G' H' e _ _ => SqL.of (e.sub _ _ (e.g _ _ ga))) (fun i acc x G' H' H'' Nx hi e hD gD hI hY kk _ => ?_) fun acc G1 H1 e hD gD hI => ?_
  · obtain ⟨rfl, hx⟩ := hY
    obtain ⟨us, h1, h2, h3⟩ := hI
    obtain ⟨k, hk, hkr⟩ := pr_getR hks hx
    have hm := hmul (i + 1) (by omega)
    rw [Nat.succ_mul] at hm
    have hkd := hdp k (List.mem_of_getElem? hk)
    refine ⟨rfl, _, rfl, _, rfl, G', t, _, k, x, true, rfl, e.sub, h3, KRep.mono e.g hkr, hkd, Nat.le_refl _, by rw [hE]; omega, fun u v G5 H5 x5 r5 nb5 z5 t5 => ?_⟩
    rw [hE] at t5
    refine kk v G5 H5 x5 ?_ ⟨us ++ [⟨k, u⟩], ?_, pr_app (TP.mono x5.g h2) (.cons ⟨r5, Nat.le_trans z5 (sz_mono true hkd), nb5⟩ .nil), t5.le (by rw [Nat.succ_mul]; omega)⟩
    · have h4 := Paired.length h2
      have h5 := congrArg List.length h1
      rw [List.length_map, List.length_take] at h5
      omega
    · rw [List.map_append, h1, take_next hk]
      rfl
  obtain ⟨us, h1, h2, h3⟩ := hI
  rw [← hkl, List.take_length] at h1
  obtain ⟨tt, hT, hz, hN⟩ := to_tys sg.ks us acc h1 h2
  have hm := hmul ks.length (Nat.le_refl _)
  have xD := e.pub nD hD
  have t1 := (h3.pub (o := .lst acc) gD nDt).le (show _ ≤ c + 2 * E by omega)
  have hT := RepsT.mono (same_upd gD (o := .lst acc)) hT
  have gaD : (upd G1 D (.lst acc)) a = some (.lst ks) := same_upd gD _ _ (e.g _ _ ga)
  have gDD : (upd G1 D (.lst acc)) D = some (.lst acc) := upd_same
  have hksD := KReps.mono (e.g.trans (same_upd gD (o := .lst acc))) hks
  generalize upd G1 D (.lst acc) = G2 at xD t1 hT gaD gDD hksD
  have hz : wszs sg.ks tt ≤ 12864 := by
    have h6 : sg.ks.length * 6432 ≤ 2 * 6432 := Nat.mul_le_mul_right _ (by omega)
    omega
  clear e hD gD h1 h2 h3 us hmul
  refine ⟨_, rfl, G2, t, _, 8, rfl, xD.sub, t1, by omega, by decide, by decide, fun way H2 x2 t2 w0 w1 => ?_⟩
  have xA := xD.trans x2
  have fin : ∀ H', Xt (At t) G H G2 H' → Tp G2 H' t (c + F) → Q (.ref D) H' := fun H' x tp' => q tt (.ref D) G2 H' x ⟨D, acc, rfl, gDD, hT⟩ (by omega) hN tp'
  obtain ⟨B, hB⟩ : ∃ B, c + 2 * E + 1 = B := ⟨_, rfl⟩
  rw [hB] at t2
  have tq : Tp G2 H2 t (c + F) := t2.le (by omega)
  cases sg with
  | not => exact sq_no (and_no (a_sg rfl rfl)) (sq_no (and_no (a_sg rfl rfl)) (sq_no (and_no (a_sg rfl rfl)) (sq_no (and_no (a_sg rfl rfl)) (sq_noS (a_inS (zs := ["join", "flat"]) rfl (fun _ q => q) (by show _ ≤ 100; decide) rfl) fun H5 e5 => (sq_noS (and_noS (a_inS (zs := ["div", "rest"]) rfl (fun _ q => q) (by show _ ≤ 100; decide) rfl)) fun H6 e6 => (sq_no (and_no (a_sg rfl rfl)) (⟨_, rfl, fin _ ((xA.grow e5).grow e6) ((tq.on (Xt.of_same (M := No) xA.sub e5)).on (Xt.of_same (M := No) (xA.grow e5).sub e6))⟩)))))))
  | first k l => exact sq_no (and_no (a_sg rfl rfl)) (sq_no (and_no (a_sg rfl rfl)) (sq_no (and_no (a_sg rfl rfl)) (sq_no (and_no (a_sg rfl rfl)) (sq_noS (a_inS (zs := ["join", "flat"]) rfl (fun _ q => q) (by show _ ≤ 100; decide) rfl) fun H5 e5 => (sq_noS (and_noS (a_inS (zs := ["div", "rest"]) rfl (fun _ q => q) (by show _ ≤ 100; decide) rfl)) fun H6 e6 => (sq_no (and_no (a_sg rfl rfl)) (⟨_, rfl, fin _ ((xA.grow e5).grow e6) ((tq.on (Xt.of_same (M := No) xA.sub e5)).on (Xt.of_same (M := No) (xA.grow e5).sub e6))⟩)))))))
  | second k l => exact sq_no (and_no (a_sg rfl rfl)) (sq_no (and_no (a_sg rfl rfl)) (sq_no (and_no (a_sg rfl rfl)) (sq_no (and_no (a_sg rfl rfl)) (sq_noS (a_inS (zs := ["join", "flat"]) rfl (fun _ q => q) (by show _ ≤ 100; decide) rfl) fun H5 e5 => (sq_noS (and_noS (a_inS (zs := ["div", "rest"]) rfl (fun _ q => q) (by show _ ≤ 100; decide) rfl)) fun H6 e6 => (sq_no (and_no (a_sg rfl rfl)) (⟨_, rfl, fin _ ((xA.grow e5).grow e6) ((tq.on (Xt.of_same (M := No) xA.sub e5)).on (Xt.of_same (M := No) (xA.grow e5).sub e6))⟩)))))))
  | one k => exact sq_no (and_no (a_sg rfl rfl)) (sq_no (and_no (a_sg rfl rfl)) (sq_no (and_no (a_sg rfl rfl)) (sq_no (and_no (a_sg rfl rfl)) (sq_noS (a_inS (zs := ["join", "flat"]) rfl (fun _ q => q) (by show _ ≤ 100; decide) rfl) fun H5 e5 => (sq_noS (and_noS (a_inS (zs := ["div", "rest"]) rfl (fun _ q => q) (by show _ ≤ 100; decide) rfl)) fun H6 e6 => (sq_no (and_no (a_sg rfl rfl)) (⟨_, rfl, fin _ ((xA.grow e5).grow e6) ((tq.on (Xt.of_same (M := No) xA.sub e5)).on (Xt.of_same (M := No) (xA.grow e5).sub e6))⟩)))))))
  | long k => exact sq_no (and_no (a_sg rfl rfl)) (sq_no (and_no (a_sg rfl rfl)) (sq_no (and_no (a_sg rfl rfl)) (sq_no (and_no (a_sg rfl rfl)) (sq_noS (a_inS (zs := ["join", "flat"]) rfl (fun _ q => q) (by show _ ≤ 100; decide) rfl) fun H5 e5 => (sq_noS (and_noS (a_inS (zs := ["div", "rest"]) rfl (fun _ q => q) (by show _ ≤ 100; decide) rfl)) fun H6 e6 => (sq_no (and_no (a_sg rfl rfl)) (⟨_, rfl, fin _ ((xA.grow e5).grow e6) ((tq.on (Xt.of_same (M := No) xA.sub e5)).on (Xt.of_same (M := No) (xA.grow e5).sub e6))⟩)))))))
  | sum => exact sq_no (and_no (a_sg rfl rfl)) (sq_no (and_no (a_sg rfl rfl)) (sq_no (and_no (a_sg rfl rfl)) (sq_no (and_no (a_sg rfl rfl)) (sq_noS (a_inS (zs := ["join", "flat"]) rfl (fun _ q => q) (by show _ ≤ 100; decide) rfl) fun H5 e5 => (sq_noS (and_noS (a_inS (zs := ["div", "rest"]) rfl (fun _ q => q) (by show _ ≤ 100; decide) rfl)) fun H6 e6 => (sq_no (and_no (a_sg rfl rfl)) (⟨_, rfl, fin _ ((xA.grow e5).grow e6) ((tq.on (Xt.of_same (M := No) xA.sub e5)).on (Xt.of_same (M := No) (xA.grow e5).sub e6))⟩)))))))
  | sums => exact sq_no (and_no (a_sg rfl rfl)) (sq_no (and_no (a_sg rfl rfl)) (sq_no (and_no (a_sg rfl rfl)) (sq_no (and_no (a_sg rfl rfl)) (sq_noS (a_inS (zs := ["join", "flat"]) rfl (fun _ q => q) (by show _ ≤ 100; decide) rfl) fun H5 e5 => (sq_noS (and_noS (a_inS (zs := ["div", "rest"]) rfl (fun _ q => q) (by show _ ≤ 100; decide) rfl)) fun H6 e6 => (sq_no (and_no (a_sg rfl rfl)) (⟨_, rfl, fin _ ((xA.grow e5).grow e6) ((tq.on (Xt.of_same (M := No) xA.sub e5)).on (Xt.of_same (M := No) (xA.grow e5).sub e6))⟩)))))))
  | add => exact sq_no (and_no (a_sg rfl rfl)) (sq_no (and_no (a_sg rfl rfl)) (sq_no (and_no (a_sg rfl rfl)) (sq_no (and_no (a_sg rfl rfl)) (sq_noS (a_inS (zs := ["join", "flat"]) rfl (fun _ q => q) (by show _ ≤ 100; decide) rfl) fun H5 e5 => (sq_noS (and_noS (a_inS (zs := ["div", "rest"]) rfl (fun _ q => q) (by show _ ≤ 100; decide) rfl)) fun H6 e6 => (sq_no (and_no (a_sg rfl rfl)) (⟨_, rfl, fin _ ((xA.grow e5).grow e6) ((tq.on (Xt.of_same (M := No) xA.sub e5)).on (Xt.of_same (M := No) (xA.grow e5).sub e6))⟩)))))))
  | sub => exact sq_no (and_no (a_sg rfl rfl)) (sq_no (and_no (a_sg rfl rfl)) (sq_no (and_no (a_sg rfl rfl)) (sq_no (and_no (a_sg rfl rfl)) (sq_noS (a_inS (zs := ["join", "flat"]) rfl (fun _ q => q) (by show _ ≤ 100; decide) rfl) fun H5 e5 => (sq_noS (and_noS (a_inS (zs := ["div", "rest"]) rfl (fun _ q => q) (by show _ ≤ 100; decide) rfl)) fun H6 e6 => (sq_no (and_no (a_sg rfl rfl)) (⟨_, rfl, fin _ ((xA.grow e5).grow e6) ((tq.on (Xt.of_same (M := No) xA.sub e5)).on (Xt.of_same (M := No) (xA.grow e5).sub e6))⟩)))))))
  | mul => exact sq_no (and_no (a_sg rfl rfl)) (sq_no (and_no (a_sg rfl rfl)) (sq_no (and_no (a_sg rfl rfl)) (sq_no (and_no (a_sg rfl rfl)) (sq_noS (a_inS (zs := ["join", "flat"]) rfl (fun _ q => q) (by show _ ≤ 100; decide) rfl) fun H5 e5 => (sq_noS (and_noS (a_inS (zs := ["div", "rest"]) rfl (fun _ q => q) (by show _ ≤ 100; decide) rfl)) fun H6 e6 => (sq_no (and_no (a_sg rfl rfl)) (⟨_, rfl, fin _ ((xA.grow e5).grow e6) ((tq.on (Xt.of_same (M := No) xA.sub e5)).on (Xt.of_same (M := No) (xA.grow e5).sub e6))⟩)))))))
  | less => exact sq_no (and_no (a_sg rfl rfl)) (sq_no (and_no (a_sg rfl rfl)) (sq_no (and_no (a_sg rfl rfl)) (sq_no (and_no (a_sg rfl rfl)) (sq_noS (a_inS (zs := ["join", "flat"]) rfl (fun _ q => q) (by show _ ≤ 100; decide) rfl) fun H5 e5 => (sq_noS (and_noS (a_inS (zs := ["div", "rest"]) rfl (fun _ q => q) (by show _ ≤ 100; decide) rfl)) fun H6 e6 => (sq_no (and_no (a_sg rfl rfl)) (⟨_, rfl, fin _ ((xA.grow e5).grow e6) ((tq.on (Xt.of_same (M := No) xA.sub e5)).on (Xt.of_same (M := No) (xA.grow e5).sub e6))⟩)))))))
  | sameN => exact sq_no (and_no (a_sg rfl rfl)) (sq_no (and_no (a_sg rfl rfl)) (sq_no (and_no (a_sg rfl rfl)) (sq_no (and_no (a_sg rfl rfl)) (sq_noS (a_inS (zs := ["join", "flat"]) rfl (fun _ q => q) (by show _ ≤ 100; decide) rfl) fun H5 e5 => (sq_noS (and_noS (a_inS (zs := ["div", "rest"]) rfl (fun _ q => q) (by show _ ≤ 100; decide) rfl)) fun H6 e6 => (sq_no (and_no (a_sg rfl rfl)) (⟨_, rfl, fin _ ((xA.grow e5).grow e6) ((tq.on (Xt.of_same (M := No) xA.sub e5)).on (Xt.of_same (M := No) (xA.grow e5).sub e6))⟩)))))))
  | sameT => exact sq_no (and_no (a_sg rfl rfl)) (sq_no (and_no (a_sg rfl rfl)) (sq_no (and_no (a_sg rfl rfl)) (sq_no (and_no (a_sg rfl rfl)) (sq_noS (a_inS (zs := ["join", "flat"]) rfl (fun _ q => q) (by show _ ≤ 100; decide) rfl) fun H5 e5 => (sq_noS (and_noS (a_inS (zs := ["div", "rest"]) rfl (fun _ q => q) (by show _ ≤ 100; decide) rfl)) fun H6 e6 => (sq_no (and_no (a_sg rfl rfl)) (⟨_, rfl, fin _ ((xA.grow e5).grow e6) ((tq.on (Xt.of_same (M := No) xA.sub e5)).on (Xt.of_same (M := No) (xA.grow e5).sub e6))⟩)))))))
  | both => exact sq_no (and_no (a_sg rfl rfl)) (sq_no (and_no (a_sg rfl rfl)) (sq_no (and_no (a_sg rfl rfl)) (sq_no (and_no (a_sg rfl rfl)) (sq_noS (a_inS (zs := ["join", "flat"]) rfl (fun _ q => q) (by show _ ≤ 100; decide) rfl) fun H5 e5 => (sq_noS (and_noS (a_inS (zs := ["div", "rest"]) rfl (fun _ q => q) (by show _ ≤ 100; decide) rfl)) fun H6 e6 => (sq_no (and_no (a_sg rfl rfl)) (⟨_, rfl, fin _ ((xA.grow e5).grow e6) ((tq.on (Xt.of_same (M := No) xA.sub e5)).on (Xt.of_same (M := No) (xA.grow e5).sub e6))⟩)))))))
  | pair k l => exact sq_no (and_no (a_sg rfl rfl)) (sq_no (and_no (a_sg rfl rfl)) (sq_no (and_no (a_sg rfl rfl)) (sq_no (and_no (a_sg rfl rfl)) (sq_noS (a_inS (zs := ["join", "flat"]) rfl (fun _ q => q) (by show _ ≤ 100; decide) rfl) fun H5 e5 => (sq_noS (and_noS (a_inS (zs := ["div", "rest"]) rfl (fun _ q => q) (by show _ ≤ 100; decide) rfl)) fun H6 e6 => (sq_no (and_no (a_sg rfl rfl)) (⟨_, rfl, fin _ ((xA.grow e5).grow e6) ((tq.on (Xt.of_same (M := No) xA.sub e5)).on (Xt.of_same (M := No) (xA.grow e5).sub e6))⟩)))))))
  | upto =>
    refine sq_and (a_sg rfl rfl) ⟨_, rfl, _, _, rfl, rfl, _, rfl, iteE (fun _ => ?_) fun _ => ?_⟩
    · refine ⟨_, rfl, G2, t, _, 6, rfl, xA.sub, t2, by omega, by decide, by decide, fun r H3 x3 t3 r0 r1 => ⟨by show 1 ≤ sizeLine; decide, fun p np => ?_⟩⟩
      have x4 := x3.put (o := .lst [.int r]) np
      exact q (r, ()) _ _ _ (xA.trans x4) ⟨p, _, rfl, upd_same, _, _, rfl, rfl, rfl⟩ (by show 1 + 0 ≤ 40000; decide) ⟨⟨by show _ ≤ r; omega, by show r ≤ _; omega⟩, trivial⟩ ((t3.on (Xt.new x3.sub np)).le (by omega))
    · exact sq_no (and_no (a_sg rfl rfl)) (sq_no (and_no (a_sg rfl rfl)) (sq_no (and_no (a_sg rfl rfl)) (sq_noS (a_inS (zs := ["join", "flat"]) rfl (fun _ q => q) (by show _ ≤ 100; decide) rfl) fun H5 e5 => (sq_noS (and_noS (a_inS (zs := ["div", "rest"]) rfl (fun _ q => q) (by show _ ≤ 100; decide) rfl)) fun H6 e6 => (sq_no (and_no (a_sg rfl rfl)) (⟨_, rfl, fin _ ((xA.grow e5).grow e6) ((tq.on (Xt.of_same (M := No) xA.sub e5)).on (Xt.of_same (M := No) (xA.grow e5).sub e6))⟩))))))
  | pick k =>
    obtain ⟨v0, r0, rfl, hr0, v1, r1, rfl, hr1, rfl⟩ := hT
    obtain ⟨row, i1, _⟩ := tt
    have hr0' := hr0
    obtain ⟨ra, rs, rfl, gr, hRr⟩ := hr0'
    have hdk : (Kd.row k).dep ≤ 5 := hdp _ (List.mem_cons_self ..)
    have hlr : List.length (α := Ty k) row = rs.length := Paired.length hRr
    have hz : (1 + tot k row) + (1 + 0) ≤ 12864 := hz
    have hlt : List.length (α := Ty k) row ≤ tot k row := len_tot k row
    have hD2 := xA.sub _ _ gDD
    have hra := xA.sub _ _ gr
    refine sq_no (and_no (a_sg rfl rfl)) (sq_and (a_sg rfl rfl) ⟨_, rfl, _, _, rfl, rfl, _, rfl, iteE (fun _ => ?_) fun _ => iteF ?_⟩)
    · refine ⟨_, rfl, D, _, 0, _, rfl, rfl, SqL.of hD2, atI_nat (j := 0) rfl, by show 0 ≤ sizeLine; decide, fun l nl => ?_⟩
      have x3 := x2.trans (Xt.loc (o := .lst []) x2.sub nl)
      have tq3 := t2.on (Xt.loc (o := .lst []) x2.sub nl)
      have hl3 : (upd H2 l (.lst [])) l = some (.lst []) := upd_same
      generalize upd H2 l (.lst []) = H3 at x3 tq3 hl3
      have xB := xD.trans x3
      refine ⟨wD (.row k) row, .list [], w_dp (Rep.mono xB.sub hr0), .lst (SqL.of hl3) .nil, w_shaped (by omega), by decide +kernel, _, rfl, iteE (fun hne => ?_) fun _ => ?_⟩
      · rw [eqv_nil] at hne
        have hne : row ≠ [] := fun z => by
          rw [decide_eq_true z] at hne
          cases hne
        have hpos : 0 < List.length (α := Ty k) row := List.length_pos_iff.mpr hne
        refine ⟨_, rfl, D, _, 0, _, rfl, rfl, SqL.of (xB.sub _ _ gDD), atI_nat (j := 0) rfl, _, rfl, _, rfl, D, _, 0, _, rfl, rfl, SqL.of (xB.sub _ _ gDD), atI_nat (j := 0) rfl, ra, rs, rfl, .inl (SqL.of (xB.sub _ _ gr)), ?_⟩
        refine ⟨G2, t, _, rs.length, rfl, xB.sub, tq3, by omega, by omega, by omega, fun r H4 x4 t4 z0 z1 => ⟨by show 2 ≤ sizeLine; decide, fun p np => ?_⟩⟩
        have x5 := x4.put (o := .lst [.ref ra, .int r]) np
        exact q (row, r, ()) _ _ _ (xB.trans x5) ⟨p, _, rfl, upd_same, _, _, rfl, Rep.mono (x4.gnew np) hr0, _, _, rfl, rfl, rfl⟩ (by show (1 + tot k row) + (1 + 0) ≤ 40000; omega) ⟨trivial, ⟨by show _ ≤ r; omega, by show r ≤ _; omega⟩, trivial⟩ ((t4.on (Xt.new x4.sub np)).le (by omega))
      · have tq4 := tq3.le (show _ ≤ c + F by omega)
        exact sq_no (and_no (a_sg rfl rfl)) (sq_no (and_no (a_sg rfl rfl)) (sq_noS (a_inS (zs := ["join", "flat"]) rfl (fun _ q => q) (by show _ ≤ 100; decide) rfl) fun H5 e5 => (sq_noS (and_noS (a_inS (zs := ["div", "rest"]) rfl (fun _ q => q) (by show _ ≤ 100; decide) rfl)) fun H6 e6 => (sq_no (and_no (a_sg rfl rfl)) (⟨_, rfl, fin _ ((xB.grow e5).grow e6) ((tq4.on (Xt.of_same (M := No) xB.sub e5)).on (Xt.of_same (M := No) (xB.grow e5).sub e6))⟩)))))
    · exact sq_no (and_no (a_sg rfl rfl)) (sq_no (and_no (a_sg rfl rfl)) (sq_noS (a_inS (zs := ["join", "flat"]) rfl (fun _ q => q) (by show _ ≤ 100; decide) rfl) fun H5 e5 => (sq_noS (and_noS (a_inS (zs := ["div", "rest"]) rfl (fun _ q => q) (by show _ ≤ 100; decide) rfl)) fun H6 e6 => (sq_no (and_no (a_sg rfl rfl)) (⟨_, rfl, fin _ ((xA.grow e5).grow e6) ((tq.on (Xt.of_same (M := No) xA.sub e5)).on (Xt.of_same (M := No) (xA.grow e5).sub e6))⟩)))))
  | keep k =>
    obtain ⟨v0, r0, rfl, hr0, v1, r1, rfl, hr1, rfl⟩ := hT
    obtain ⟨row, i1, _⟩ := tt
    have hr0' := hr0
    obtain ⟨ra, rs, rfl, gr, hRr⟩ := hr0'
    have hlr : List.length (α := Ty k) row = rs.length := Paired.length hRr
    have hz : (1 + tot k row) + ((1 + tot .truth i1) + 0) ≤ 12864 := hz
    have hlt : List.length (α := Ty k) row ≤ tot k row := len_tot k row
    have hD2 := xA.sub _ _ gDD
    have hra := xA.sub _ _ gr
    refine sq_no (and_no (a_sg rfl rfl)) (sq_no (and_no (a_sg rfl rfl)) (sq_and (a_sg rfl rfl) ⟨_, rfl, _, _, rfl, rfl, _, rfl, iteE (fun _ => ?_) fun _ => ?_⟩))
    · have hmul : ∀ i, i ≤ rs.length → i ≤ 14000 := fun i hi => by omega
      refine ⟨_, rfl, D, _, 0, _, rfl, rfl, SqL.of hD2, atI_nat (j := 0) rfl, _, rfl, D, _, 0, _, rfl, rfl, SqL.of hD2, atI_nat (j := 0) rfl, ra, rfl, ⟨rs, SqL.of hra⟩, fun D2 nD2 => ?_⟩
      have n2t : D2 ≠ t := fun z => by
        rw [z] at nD2
        exact t2.ne nD2
      refine lc_gen (M := At t) (G1 := G2) (walk_list (xs := rs)) (fun i acc G' H' => ∃ bs : List Bool, bs.length = i ∧ acc = bs.map V.bl ∧ Tp G' H' t (B + i)) x2.sub (fun b z => by rw [show b = t from z]; exact t2.ne) nD2 ⟨[], rfl, rfl, t2.put n2t⟩
        (fun i acc G' H' o ⟨us, h1, h2, h3⟩ _ => ⟨us, h1, h2, h3.put n2t⟩) (fun i acc G' H' e _ _ => SqL.of (e.sub _ _ (e.g _ _ gr))) (fun i acc x G' H' H'' Nx hi e hD gD hI hY kk _ => ?_) fun acc2 G4 H4 e hD4 gD4 hI => ?_
      · obtain ⟨rfl, hx⟩ := hY
        obtain ⟨bs, h1, h2, h3⟩ := hI
        refine ⟨rfl, _, rfl, G', t, _, 2, rfl, e.sub, h3, by omega, by decide, by decide, fun r H5 x5 t5 _ _ => ⟨rfl, kk _ G' H5 x5 ?_ ⟨bs ++ [decide (V.int r = V.int 1)], by rw [List.length_append, h1]; rfl, by rw [h2, List.map_append]; rfl, t5.le (by omega)⟩⟩⟩
        rw [h2, List.length_map]
        omega
      · obtain ⟨bs, h1, rfl, h3⟩ := hI
        have xC := xA.trans (e.pub nD2 hD4)
        have tC := h3.pub (o := .lst (bs.map V.bl)) gD4 n2t
        have g4 := same_upd (o := .lst (bs.map V.bl)) gD4
        refine ⟨by show 2 ≤ sizeLine; decide, fun p np => ?_⟩
        have x5 := xC.put (o := .lst [.ref ra, .ref D2]) np
        have g5 := xC.gnew (o := .lst [.ref ra, .ref D2]) np
        have hb : tot .truth bs = bs.length := tot_truth bs
        refine q (row, bs, ()) _ _ _ x5 ⟨p, _, rfl, upd_same, _, _, rfl, Rep.mono g5 (Rep.mono (e.g.trans g4) hr0), _, _, rfl, Rep.mono g5 ⟨D2, _, rfl, upd_same, bl_reps bs⟩, rfl⟩ (by show (1 + tot k row) + ((1 + tot .truth bs) + 0) ≤ 40000; omega) ⟨trivial, trivial, trivial⟩ ((tC.on (Xt.new xC.sub np)).le (by omega))
    · exact sq_no (and_no (a_sg rfl rfl)) (sq_noS (a_inS (zs := ["join", "flat"]) rfl (fun _ q => q) (by show _ ≤ 100; decide) rfl) fun H5 e5 => (sq_noS (and_noS (a_inS (zs := ["div", "rest"]) rfl (fun _ q => q) (by show _ ≤ 100; decide) rfl)) fun H6 e6 => (sq_no (and_no (a_sg rfl rfl)) (⟨_, rfl, fin _ ((xA.grow e5).grow e6) ((tq.on (Xt.of_same (M := No) xA.sub e5)).on (Xt.of_same (M := No) (xA.grow e5).sub e6))⟩))))
  | cut k =>
    obtain ⟨v0, r0, rfl, hr0, v1, r1, rfl, hr1, rfl⟩ := hT
    obtain ⟨row, i1, _⟩ := tt
    have hr0' := hr0
    obtain ⟨ra, rs, rfl, gr, hRr⟩ := hr0'
    have hlr : List.length (α := Ty k) row = rs.length := Paired.length hRr
    have hz : (1 + tot k row) + ((1 + tot .num i1) + 0) ≤ 12864 := hz
    have hlt : List.length (α := Ty k) row ≤ tot k row := len_tot k row
    have hD2 := xA.sub _ _ gDD
    have hra := xA.sub _ _ gr
    refine sq_no (and_no (a_sg rfl rfl)) (sq_no (and_no (a_sg rfl rfl)) (sq_no (and_no (a_sg rfl rfl)) (sq_and (a_sg rfl rfl) ⟨_, rfl, _, _, rfl, rfl, _, rfl, iteE (fun _ => ?_) fun _ => ?_⟩)))
    · refine ⟨_, rfl, _, rfl, D, _, 0, _, rfl, rfl, SqL.of hD2, atI_nat (j := 0) rfl, ra, rs, rfl, .inl (SqL.of hra), _, _, rfl, rfl, ?_⟩
      refine ⟨G2, t, _, (rs.length : Int) + 1, rfl, xA.sub, t2, by omega, by omega, by omega, fun r H4 x4 t4 z0 z1 => ?_⟩
      have x5 := xA.trans x4
      refine ⟨_, rfl, D, _, 0, _, rfl, rfl, SqL.of (x5.sub _ _ gDD), atI_nat (j := 0) rfl, _, rfl, _, rfl, D, _, 0, _, rfl, rfl, SqL.of (x5.sub _ _ gDD), atI_nat (j := 0) rfl, ra, rs, rfl, .inl (SqL.of (x5.sub _ _ gr)), _, rfl, _, _, rfl, rfl, by show 3 ≤ sizeLine; decide, fun u nu => ⟨by show 2 ≤ sizeLine; decide, fun p np => ?_⟩⟩
      have x6 := x5.put (o := .lst [.int r, .int 0, .int ((rs.length : Int) - r)]) nu
      have x7 := x6.put (o := .lst [.ref ra, .ref u]) np
      have t6 := (t4.on (Xt.new (o := .lst [.int r, .int 0, .int ((rs.length : Int) - r)]) x5.sub nu)).on (Xt.new (o := .lst [.ref ra, .ref u]) x6.sub np)
      have hb : tot .num [r, 0, (rs.length : Int) - r] = 3 := tot_num _
      exact q (row, [r, 0, (rs.length : Int) - r], ()) _ _ _ x7 ⟨p, _, rfl, upd_same, _, _, rfl, Rep.mono ((x5.gnew nu).trans (x6.gnew np)) hr0, _, _, rfl, Rep.mono (x6.gnew np) ⟨u, _, rfl, upd_same, int_reps [r, 0, (rs.length : Int) - r]⟩, rfl⟩ (by show (1 + tot k row) + ((1 + tot .num [r, 0, (rs.length : Int) - r]) + 0) ≤ 40000; omega) ⟨trivial, trivial, trivial⟩ (t6.le (by omega))
    · exact sq_noS (a_inS (zs := ["join", "flat"]) rfl (fun _ q => q) (by show _ ≤ 100; decide) rfl) fun H5 e5 => (sq_noS (and_noS (a_inS (zs := ["div", "rest"]) rfl (fun _ q => q) (by show _ ≤ 100; decide) rfl)) fun H6 e6 => (sq_no (and_no (a_sg rfl rfl)) (⟨_, rfl, fin _ ((xA.grow e5).grow e6) ((tq.on (Xt.of_same (M := No) xA.sub e5)).on (Xt.of_same (M := No) (xA.grow e5).sub e6))⟩)))
  | join k =>
    obtain _ | ⟨hk1, _ | ⟨hk2, _ | _⟩⟩ := hksD
    obtain ⟨ka, kx, rfl, sk, kr⟩ := hk1
    have hdk : (Kd.row k).dep ≤ 5 := hdp _ (List.mem_cons_self ..)
    have hdk : k.dep + 1 ≤ 5 := hdk
    refine sq_no (and_no (a_sg rfl rfl)) (sq_no (and_no (a_sg rfl rfl)) (sq_no (and_no (a_sg rfl rfl)) (sq_no (and_no (a_sg rfl rfl)) (sq_yesS (a_inS (zs := ["join", "flat"]) rfl (fun _ q => q) (by show _ ≤ 100; decide) rfl) fun H5 e5 => ?_))))
    have xB := xA.grow e5
    have tB := t2.on (Xt.of_same (M := No) xA.sub e5)
    refine ⟨_, rfl, a, _, 0, _, rfl, rfl, SqL.of (xB.sub _ _ gaD), atI_nat (j := 0) rfl, ka, _, 1, _, rfl, rfl, sameT xB.sub sk, atI_nat (j := 1) rfl, ?_⟩
    refine sq_no (a_sg rfl rfl) ?_
    refine ⟨_, rfl, _, rfl, _, rfl, _, rfl, G2, t, _, k, .join k, kx, way, rfl, .inl rfl, xB.sub, tB, by omega, kr, by omega, fun H7 x7 t7 => ?_, fun tt v G7 H7 x7 t7 th z7 => ?_⟩
    · have xC := xB.trans x7
      have tC := t7.le (show _ ≤ c + F by omega)
      exact ⟨_, rfl, rfl, false, rfl, iteF (sq_noS (and_noS (a_inS (zs := ["div", "rest"]) rfl (fun _ q => q) (by show _ ≤ 100; decide) rfl)) fun H6 e6 => (sq_no (and_no (a_sg rfl rfl)) (⟨_, rfl, fin _ (xC.grow e6) (tC.on (Xt.of_same (M := No) xC.sub e6))⟩)))⟩
    · obtain ⟨p, ws, rfl, gp, hT7⟩ := th
      exact ⟨_, rfl, rfl, true, rfl, iteT ⟨_, rfl, q tt _ G7 H7 (xB.trans x7) ⟨p, ws, rfl, gp, hT7⟩ (by omega) (by first | exact ⟨trivial, trivial, trivial⟩ | exact ⟨trivial, trivial⟩) (t7.le (by omega))⟩⟩
  | flat k =>
    obtain _ | ⟨hk1, _ | _⟩ := hksD
    obtain ⟨ka, kx0, rfl, sk, kr0⟩ := hk1
    obtain ⟨kb, kx, rfl, sk2, kr⟩ := kr0
    have hdk : (Kd.row (.row k)).dep ≤ 5 := hdp _ (List.mem_cons_self ..)
    have hdk : k.dep + 1 + 1 ≤ 5 := hdk
    refine sq_no (and_no (a_sg rfl rfl)) (sq_no (and_no (a_sg rfl rfl)) (sq_no (and_no (a_sg rfl rfl)) (sq_no (and_no (a_sg rfl rfl)) (sq_yesS (a_inS (zs := ["join", "flat"]) rfl (fun _ q => q) (by show _ ≤ 100; decide) rfl) fun H5 e5 => ?_))))
    have xB := xA.grow e5
    have tB := t2.on (Xt.of_same (M := No) xA.sub e5)
    refine ⟨_, rfl, a, _, 0, _, rfl, rfl, SqL.of (xB.sub _ _ gaD), atI_nat (j := 0) rfl, ka, _, 1, _, rfl, rfl, sameT xB.sub sk, atI_nat (j := 1) rfl, ?_⟩
    refine sq_yes (a_sg rfl rfl) ⟨_, rfl, kb, _, 1, _, rfl, rfl, sameT xB.sub sk2, atI_nat (j := 1) rfl, ?_⟩
    refine ⟨_, rfl, _, rfl, _, rfl, _, rfl, G2, t, _, k, .flat k, kx, way, rfl, .inr rfl, xB.sub, tB, by omega, kr, by omega, fun H7 x7 t7 => ?_, fun tt v G7 H7 x7 t7 th z7 => ?_⟩
    · have xC := xB.trans x7
      have tC := t7.le (show _ ≤ c + F by omega)
      exact ⟨_, rfl, rfl, false, rfl, iteF (sq_noS (and_noS (a_inS (zs := ["div", "rest"]) rfl (fun _ q => q) (by show _ ≤ 100; decide) rfl)) fun H6 e6 => (sq_no (and_no (a_sg rfl rfl)) (⟨_, rfl, fin _ (xC.grow e6) (tC.on (Xt.of_same (M := No) xC.sub e6))⟩)))⟩
    · obtain ⟨p, ws, rfl, gp, hT7⟩ := th
      exact ⟨_, rfl, rfl, true, rfl, iteT ⟨_, rfl, q tt _ G7 H7 (xB.trans x7) ⟨p, ws, rfl, gp, hT7⟩ (by omega) (by first | exact ⟨trivial, trivial, trivial⟩ | exact ⟨trivial, trivial⟩) (t7.le (by omega))⟩⟩
  | div =>
    obtain ⟨v0, r0, rfl, hr0, v1, r1, rfl, hr1, rfl⟩ := hT
    obtain ⟨i0, i1, _⟩ := tt
    have hr0 : v0 = .int i0 := hr0
    have hr1 : v1 = .int i1 := hr1
    subst hr0 hr1
    refine sq_no (and_no (a_sg rfl rfl)) (sq_no (and_no (a_sg rfl rfl)) (sq_no (and_no (a_sg rfl rfl)) (sq_no (and_no (a_sg rfl rfl)) (sq_noS (a_inS (zs := ["join", "flat"]) rfl (fun _ q => q) (by show _ ≤ 100; decide) rfl) fun H5 e5 => sq_andS (a_inS (zs := ["div", "rest"]) rfl (fun _ q => q) (by show _ ≤ 100; decide) rfl) fun H6 e6 => ?_))))
    have xB := (xA.grow e5).grow e6
    have tB := (t2.on (Xt.of_same (M := No) xA.sub e5)).on (Xt.of_same (M := No) (xA.grow e5).sub e6)
    have tq := tB.le (show _ ≤ c + F by omega)
    refine ⟨_, rfl, _, _, rfl, rfl, _, rfl, iteE (fun _ => ?_) fun _ => iteF ?_⟩
    · refine ⟨_, rfl, D, _, 1, _, rfl, rfl, SqL.of (xB.sub _ _ gDD), atI_nat (j := 1) rfl, rfl, _, rfl, iteE (fun _ => ?_) fun _ => ?_⟩
      · refine ⟨_, rfl, D, _, 0, _, rfl, rfl, SqL.of (xB.sub _ _ gDD), atI_nat (j := 0) rfl, _, rfl, _, _, rfl, rfl, by show 2 ≤ sizeLine; decide, fun p np => ?_⟩
        exact q (i0, 1 + way, ()) _ _ _ (xB.put np) ⟨p, _, rfl, upd_same, _, _, rfl, rfl, _, _, rfl, rfl, rfl⟩ (by show 1 + (1 + 0) ≤ 40000; decide) ⟨hN.1, ⟨by show _ ≤ 1 + way; omega, by show 1 + way ≤ _; omega⟩, trivial⟩ (tq.on (Xt.new xB.sub np))
      · exact sq_no (and_no (a_sg rfl rfl)) (⟨_, rfl, fin _ xB tq⟩)
    · exact sq_no (and_no (a_sg rfl rfl)) (⟨_, rfl, fin _ xB tq⟩)
  | rest =>
    obtain ⟨v0, r0, rfl, hr0, v1, r1, rfl, hr1, rfl⟩ := hT
    obtain ⟨i0, i1, _⟩ := tt
    have hr0 : v0 = .int i0 := hr0
    have hr1 : v1 = .int i1 := hr1
    subst hr0 hr1
    refine sq_no (and_no (a_sg rfl rfl)) (sq_no (and_no (a_sg rfl rfl)) (sq_no (and_no (a_sg rfl rfl)) (sq_no (and_no (a_sg rfl rfl)) (sq_noS (a_inS (zs := ["join", "flat"]) rfl (fun _ q => q) (by show _ ≤ 100; decide) rfl) fun H5 e5 => sq_andS (a_inS (zs := ["div", "rest"]) rfl (fun _ q => q) (by show _ ≤ 100; decide) rfl) fun H6 e6 => ?_))))
    have xB := (xA.grow e5).grow e6
    have tB := (t2.on (Xt.of_same (M := No) xA.sub e5)).on (Xt.of_same (M := No) (xA.grow e5).sub e6)
    have tq := tB.le (show _ ≤ c + F by omega)
    refine ⟨_, rfl, _, _, rfl, rfl, _, rfl, iteE (fun _ => ?_) fun _ => iteF ?_⟩
    · refine ⟨_, rfl, D, _, 1, _, rfl, rfl, SqL.of (xB.sub _ _ gDD), atI_nat (j := 1) rfl, rfl, _, rfl, iteE (fun _ => ?_) fun _ => ?_⟩
      · refine ⟨_, rfl, D, _, 0, _, rfl, rfl, SqL.of (xB.sub _ _ gDD), atI_nat (j := 0) rfl, _, rfl, _, _, rfl, rfl, by show 2 ≤ sizeLine; decide, fun p np => ?_⟩
        exact q (i0, 1 + way, ()) _ _ _ (xB.put np) ⟨p, _, rfl, upd_same, _, _, rfl, rfl, _, _, rfl, rfl, rfl⟩ (by show 1 + (1 + 0) ≤ 40000; decide) ⟨hN.1, ⟨by show _ ≤ 1 + way; omega, by show 1 + way ≤ _; omega⟩, trivial⟩ (tq.on (Xt.new xB.sub np))
      · exact sq_no (and_no (a_sg rfl rfl)) (⟨_, rfl, fin _ xB tq⟩)
    · exact sq_no (and_no (a_sg rfl rfl)) (⟨_, rfl, fin _ xB tq⟩)
  | most =>
    obtain ⟨v0, r0, rfl, hr0, rfl⟩ := hT
    obtain ⟨row, _⟩ := tt
    refine sq_no (and_no (a_sg rfl rfl)) (sq_no (and_no (a_sg rfl rfl)) (sq_no (and_no (a_sg rfl rfl)) (sq_no (and_no (a_sg rfl rfl)) (sq_noS (a_inS (zs := ["join", "flat"]) rfl (fun _ q => q) (by show _ ≤ 100; decide) rfl) fun H5 e5 => sq_noS (and_noS (a_inS (zs := ["div", "rest"]) rfl (fun _ q => q) (by show _ ≤ 100; decide) rfl)) fun H6 e6 => sq_and (a_sg rfl rfl) ?_))))
    have xB := (xA.grow e5).grow e6
    have tB := (t2.on (Xt.of_same (M := No) xA.sub e5)).on (Xt.of_same (M := No) (xA.grow e5).sub e6)
    have tq := tB.le (show _ ≤ c + F by omega)
    refine ⟨_, rfl, _, _, rfl, rfl, _, rfl, iteE (fun _ => ?_) fun _ => iteF ⟨_, rfl, fin _ xB tq⟩⟩
    refine ⟨_, rfl, D, _, 0, _, rfl, rfl, SqL.of (xB.sub _ _ gDD), atI_nat (j := 0) rfl, by show 0 ≤ sizeLine; decide, fun l nl => ?_⟩
    have xC := xB.trans (Xt.loc (o := .lst []) xB.sub nl)
    have tC := tq.on (Xt.loc (o := .lst []) xB.sub nl)
    have hl3 : (upd H6 l (.lst [])) l = some (.lst []) := upd_same
    generalize upd H6 l (.lst []) = H7 at xC tC hl3
    refine ⟨wD (.row .num) row, .list [], w_dp (Rep.mono xC.sub hr0), .lst (SqL.of hl3) .nil, w_shaped (k := .row .num) (by decide), by decide +kernel, _, rfl, iteE (fun _ => ?_) fun _ => ⟨_, rfl, fin _ xC tC⟩⟩
    refine ⟨_, rfl, by show 1 ≤ sizeLine; decide, fun u nu => ⟨by show 1 ≤ sizeLine; decide, fun p np => ?_⟩⟩
    have xD2 := xC.put (o := .lst [.int way]) nu
    have tD := (tC.on (Xt.new (o := .lst [.int way]) xC.sub nu)).on (Xt.new (o := .lst [.ref u]) xD2.sub np)
    have hb : tot .num [way] = 1 := tot_num _
    exact q ([way], ()) _ _ _ (xD2.put np) ⟨p, _, rfl, upd_same, _, _, rfl, Rep.mono (xD2.gnew np) ⟨u, _, rfl, upd_same, int_reps [way]⟩, rfl⟩ (by show (1 + tot .num [way]) + 0 ≤ 40000; omega) ⟨trivial, trivial⟩ tD
end LT
end Bw
namespace Bw
open PySem PySem.Spec PyProof.Rows L2
open C8 (Cal pe_c)
theorem Xt.shut {D : Addr} {G H G1 H1 G2 H2 : Hp} (a : X0 G H G1 H1) (n : H D = none) (b : Xt (fun c => c = D) G1 H1 G2 H2) : X0 G H G2 H2 := Xt.drop a b fun c hc => by rw [hc]; exact n
theorem nms_cut {n : Nat} (h : n = 1 ∨ n = 2) : ∃ ns : List Str, IsNms ns ∧ ns.length = n ∧ cutV [V.str "addy", V.str "b"] none (some (n : Int)) = ns.map V.str := by
  rcases h with rfl | rfl
  · exact ⟨nms1, .inl rfl, rfl, rfl⟩
  · exact ⟨nms2, .inr rfl, rfl, rfl⟩
theorem reps_len {G : Hp} : ∀ {ks : List Kd} {t : Tys ks} {vs : List V}, RepsT G ks t vs → vs.length = ks.length
  | [], _, _, h => by
    rw [show _ = [] from h]
    rfl
  | k :: ks, t, _, ⟨v, r, h, _, h2⟩ => by
    rw [h, List.length_cons, reps_len h2, List.length_cons]
theorem firstW_drop {α : Type} {f : α → Option Str} {ts : List α} {i : Nat} {x : α} (h : ts[i]? = some x) (e : firstW (ts.map f) = (i + (firstW ((ts.drop i).map f)).1, (firstW ((ts.drop i).map f)).2)) :
    (f x = none → firstW (ts.map f) = (i + 1 + (firstW ((ts.drop (i + 1)).map f)).1, (firstW ((ts.drop (i + 1)).map f)).2)) ∧ (∀ z, f x = some z → firstW (ts.map f) = (i, some z)) := by
  rw [drop_cons h, List.map_cons] at e
  refine ⟨fun hx => ?_, fun z hx => ?_⟩
  · rw [hx] at e
    rw [e]
    show (i + ((firstW ((ts.drop (i + 1)).map f)).1 + 1), _) = (i + 1 + (firstW ((ts.drop (i + 1)).map f)).1, _)
    rw [show i + ((firstW ((ts.drop (i + 1)).map f)).1 + 1) = i + 1 + (firstW ((ts.drop (i + 1)).map f)).1 by omega]
    rfl
  · rw [hx] at e
    exact e
section
variable {P : Program} {w : World} {K : PySem.W.Frag} {mg : Str → Option Value} {base : Heap}
def ThOk (G : Hp) (s : Sg) (tt : Tys s.ks) (v : V) : Prop := ThRep G s tt v ∧ wszs s.ks tt ≤ BIG ∧ NBs s.ks tt ∧ (s.wd tt = none → wsz s.res (s.vl tt) ≤ BIG)
def spReadings : Sp := fun vs H Q _ => ∃ (G : Hp) (s : Sg) (ts : List (Tys s.ks)) (a b : Addr) (ks ths : List V), vs = [.str s.nm, .ref a, .ref b] ∧ Same G H ∧ G a = some (.lst ks) ∧ ks.length = s.ks.length ∧ G b = some (.lst ths) ∧ Paired (ThOk G s) ts ths ∧ ts.length ≤ 4 ∧ s.res.dep ≤ 5 ∧
  ∀ (p dl : Addr) (us : List V) (G' H' : Hp), X0 G H G' H' → G' p = some (.tup [.ref dl, nV (ahd s ts), wV (stp s ts)]) → G' dl = some (.lst us) → Reps G' s.res ((ts.take (ahd s ts)).map s.vl) us → Q (.ref p) H'
abbrev N_law_readings : List PySem.Str := ["sign", "kinds", "things", "names", "heads", "tree", "due", "at", "thing", "told", "name", "kind"]
theorem sc_law_readings : FnScope N_law_readings ["sign", "kinds", "things"] (defScope s_law_readings) := ⟨rfl, rfl, rfl, by decide +kernel, rfl, by decide +kernel, by decide +kernel⟩
theorem c_law_readings (T : Txt K mg) (c_read : Cal P w K mg base 12 "read" (spRead 5) []) (c_law_alike : Cal P w K mg base 3 "_law_alike" (spAlike 2) []) : Cal P w K mg base 13 "_law_readings" spReadings [] := by
  refine cal_of (d := d_law_readings) T (mem_fn 51) rfl (mem_fa 51) rfl rfl sc_law_readings (fun _ _ _ _ _ _ us hl => match us, hl with | [_, _, _], _ => rfl) (fun vs H Q E h => ?_) (fun cdv A outer s H vs Q E f hr h => ?_)
  · obtain ⟨G, s, ts, a, b, ks, ths, rfl, _⟩ := h
    rfl
  obtain ⟨G, sg, ts, a, b, ks, ths, rfl, sG, ga, hkl, gb, hth, h4, hrd, q⟩ := h
  refine ⟨_, (pss_cons (ps_set (i := 3) sc_law_readings.nd rfl (.inl rfl) (pe_slice s_list (pe_lst (pa_cons pe_str (pa_cons pe_str pa_nil))) po_none (po_some (e_len T.len (pv 1)))))
      (pss_cons (ps_set (i := 4) sc_law_readings.nd rfl (.inl rfl) (e_tuple T.tuple (pe_lc (own := [("name", 10), ("kind", 11)]) rfl sc_law_readings.nd (pi_zip rfl T.zip (pa_cons (pv 3) (pa_cons (pv 1) pa_nil))) (blkOk_by (N := N_law_readings) (sc := defScope s_law_readings) (by decide +kernel)) (fun _ _ _ _ _ => (g_tup (n := 2) rfl (pgs_cons (pg_name (i := 10) sc_law_readings.nd rfl (.inl rfl)) (pgs_cons (pg_name (i := 11) sc_law_readings.nd rfl (.inl rfl)) pgs_nil)))) (fun _ _ _ _ _ => pts_nil) (fun _ _ _ _ _ => (pe_tup (pa_cons (pv 10) (pa_cons (pv 11) pa_nil)))))))
      (pss_cons (ps_set (i := 5) sc_law_readings.nd rfl (.inl rfl) (pe_op o_catA (pe_tup (pa_cons (pv 0) pa_nil)) (e_tuple T.tuple (pe_lc (own := [("name", 10)]) rfl sc_law_readings.nd (pi_list (pv 3)) (blkOk_by (N := N_law_readings) (sc := defScope s_law_readings) (by decide +kernel)) (fun _ _ _ _ _ => (pg_name (i := 10) sc_law_readings.nd rfl (.inl rfl))) (fun _ _ _ _ _ => pts_nil) (fun _ _ _ _ _ => (pe_tup (pa_cons pe_str (pa_cons (pv 10) pa_nil))))))))
      (pss_cons (ps_set (i := 6) sc_law_readings.nd rfl (.inl rfl) (pe_lst pa_nil))
      (pss_cons (ps_for PassesOwn.never rfl (pi_enum rfl T.enumerate (pa_cons (pv 2) pa_nil)) (g_tup (n := 2) rfl (pgs_cons (pg_name (i := 7) sc_law_readings.nd rfl (.inl rfl)) (pgs_cons (pg_name (i := 8) sc_law_readings.nd rfl (.inl rfl)) pgs_nil))) (pss_cons (ps_set (i := 9) sc_law_readings.nd rfl (.inl rfl) (pe_c c_read hr (by decide) rfl (pa_cons (pe_tup (pa_cons (pv 4) (pa_cons (pv 5) pa_nil))) (pa_cons (e_list T.list (pv 8)) pa_nil))))
      (pss_cons (ps_if (pt_cmpR op_eq (pe_ix i_tup (pv 9) pe_int (fun _ _ => rfl)) pe_str (nomark _)) (pss_cons (ps_if (pt_not (pt_val (pe_c c_law_alike hr (by decide) rfl (pa_cons (pe_tup (pa_cons pe_str (pa_cons (pe_ix i_tup (pv 9) pe_int (fun _ _ => rfl)) (pa_cons (pe_tup pa_nil) (pa_cons (pe_tup pa_nil) pa_nil))))) (pa_cons (pv 9) pa_nil))))) (pss_one (ps_ret pe_non)) pss_nil)
      (pss_one (ps_ret (pe_tup (pa_cons (pv 6) (pa_cons (pv 7) (pa_cons (pe_ix i_tup (pv 9) pe_int (fun _ _ => rfl)) pa_nil))))))) pss_nil)
      (pss_one (ps_expr (pe_bm PySem.F.plainAttrs_list PySem.F.slot_list_append PySem.F.type_list_append mt_append (pv 6) (pa_cons (pe_ix i_tup (pv 9) pe_int (fun _ _ => rfl)) pa_nil)))))))
      (pss_one (ps_ret (pe_tup (pa_cons (pv 6) (pa_cons (e_len T.len (pv 2)) (pa_cons pe_non pa_nil))))))))))), ?_⟩
  have s2 : 2 ≤ sizeLine := by decide
  have s3 : 3 ≤ sizeLine := by decide
  obtain ⟨ns, hns, hnl, hcut⟩ := nms_cut (n := ks.length) (by rw [hkl]; exact ks_two sg)
  refine ⟨s2, fun l nl => ⟨_, rfl, a, ks, rfl, .inl (SqL.of (same_upd nl _ _ (sG _ _ ga))), _, rfl, l, _, rfl, SqL.of upd_same, fun nm nnm => ?_⟩⟩
  rw [hcut]
  have x1 := (Xt.loc (M := No) (o := .lst [.str "addy", .str "b"]) sG nl).put (o := .lst (ns.map V.str)) nnm
  have gnm : (upd G nm (.lst (ns.map V.str))) nm = some (.lst (ns.map V.str)) := upd_same
  generalize upd G nm (.lst (ns.map V.str)) = G1 at x1 gnm
  generalize upd (upd H l (.lst [.str "addy", .str "b"])) nm (.lst (ns.map V.str)) = H1 at x1
  have ga1 := x1.g _ _ ga
  refine ⟨_, rfl, _, rfl, nm, a, _, _, rfl, SqL.of (x1.sub _ _ gnm), SqL.of (x1.sub _ _ ga1), fun D1 n1 => ?_⟩
  refine lc_gen (M := No) (G1 := G1) (walk_zip (xs := ns.map V.str) (ys := ks) (n := ks.length) (by rw [List.length_map, hnl, Nat.min_self])) (fun i acc G' H' => Paired (NmH G') (ns.take i) acc) x1.sub (fun _ z => z.elim) n1 .nil (fun _ _ _ _ _ h _ => h)
    (fun i acc G' H' e _ _ => ⟨SqL.of (e.sub _ _ (e.g _ _ gnm)), SqL.of (e.sub _ _ (e.g _ _ ga1))⟩) (fun i acc v G' H' H'' Nx hi e hD gD hI hY kk _ => ?_) fun hs G2 H2 e2 hD gD hPh => ?_
  · obtain ⟨u, v1, v2, rfl, nu, rfl, h1, h2⟩ := hY
    obtain ⟨n, hn, rfl⟩ := map_some (show (ns.map V.str)[i]? = some v1 from h1)
    have y1 := Xt.loc (M := No) (o := .tup [V.str n, v2]) e.sub nu
    refine g_pair rfl upd_same ⟨rfl, _, rfl, _, rfl, s2, fun p np => ?_⟩
    have y2 := y1.put (o := .tup [V.str n, v2]) np
    refine kk (.ref p) _ _ y2 ?_ ?_
    · have h5 := Paired.length hI
      rw [List.length_take] at h5
      have : sizeLine ≥ 1000 := by decide
      have := ks_two sg
      omega
    · rw [take_next hn]
      exact pr_app (L2.Paired.mapP hI fun n h ⟨ha, kv, e1, e2⟩ => ⟨ha, kv, e1, y2.g _ _ e2⟩) (.cons ⟨p, v2, rfl, upd_same⟩ .nil)
  rw [show ks.length = ns.length from hnl.symm, List.take_length] at hPh
  refine ⟨D1, hs, rfl, .inl ⟨SqL.of hD, fun hd nhd => ?_⟩⟩
  have x3 := (x1.trans e2).put (o := .tup hs) nhd
  have hPh := L2.Paired.mapP hPh fun n h (⟨ha, kv, q1, q2⟩ : NmH G2 n h) => (⟨ha, kv, q1, (x1.trans e2).gnew nhd (o := .tup hs) _ _ q2⟩ : NmH (upd G2 hd (.tup hs)) n h)
  have ghd : (upd G2 hd (.tup hs)) hd = some (.tup hs) := upd_same
  have gnm := ((e2.g.trans ((x1.trans e2).gnew nhd (o := .tup hs))) _ _ gnm)
  clear e2 hD gD x1 ga1 n1
  generalize upd G2 hd (.tup hs) = G3 at x3 hPh ghd gnm
  generalize upd H2 hd (.tup hs) = H3 at x3
  refine ⟨_, rfl, by show 1 ≤ sizeLine; decide, fun sa nsa => ⟨_, rfl, nm, rfl, ⟨_, SqL.of (same_upd nsa _ _ (x3.sub _ _ gnm))⟩, fun D2 n2 => ?_⟩⟩
  have x4 := x3.trans (Xt.loc (M := No) (o := .tup [.str sg.nm]) x3.sub nsa)
  have hsa : (upd H3 sa (.tup [.str sg.nm])) sa = some (.tup [.str sg.nm]) := upd_same
  generalize upd H3 sa (.tup [.str sg.nm]) = H4 at x4 hsa n2
  refine lc_gen (M := No) (G1 := G3) (walk_list (xs := ns.map V.str)) (fun i acc G' H' => Paired (NmT G') (ns.take i) acc) x4.sub (fun _ z => z.elim) n2 .nil (fun _ _ _ _ _ h _ => h)
    (fun i acc G' H' e _ _ => SqL.of (e.sub _ _ (e.g _ _ gnm))) (fun i acc v G' H' H'' Nx hi e hD gD hI hY kk _ => ?_) fun rest G5 H5 e5 hD gD hPt => ?_
  · obtain ⟨rfl, hv⟩ := hY
    obtain ⟨n, hn, rfl⟩ := map_some hv
    refine ⟨rfl, _, rfl, s2, fun p np => ?_⟩
    have y2 := Xt.new (M := No) (o := .tup [.str "name", V.str n]) e.sub np
    refine kk (.ref p) _ _ y2 ?_ ?_
    · have h5 := Paired.length hI
      rw [List.length_take] at h5
      have : sizeLine ≥ 1000 := by decide
      have := ks_two sg
      omega
    · rw [take_next hn]
      exact pr_app (L2.Paired.mapP hI fun n h ⟨ha, e1, e2⟩ => ⟨ha, e1, y2.g _ _ e2⟩) (.cons ⟨p, rfl, upd_same⟩ .nil)
  rw [List.length_map, List.take_length] at hPt
  refine ⟨D2, rest, rfl, .inl ⟨SqL.of hD, fun rt nrt => ?_⟩⟩
  have hlr := Paired.length hPt
  have y1 := e5.trans (Xt.loc (M := No) (o := .tup rest) e5.sub nrt)
  refine ⟨sa, rt, [.str sg.nm], rest, rfl, rfl, SqT.of (y1.same _ _ hsa), SqT.of upd_same, ?_, fun z => (by cases z), fun _ z => ?_, fun _ _ tr ntr => ?_⟩
  · have : sizeLine ≥ 1000 := by decide
    have := ks_two sg
    show 1 + rest.length ≤ sizeLine
    omega
  · rw [z] at hlr
    have := ks_two sg
    have h0 : ns.length = 0 := hlr
    omega
  have x5 := (x4.trans y1).put (o := .tup ([V.str sg.nm] ++ rest)) ntr
  have gg := (y1.g.trans ((x4.trans y1).gnew ntr (o := .tup ([V.str sg.nm] ++ rest))))
  have hPh := L2.Paired.mapP hPh fun n h (⟨ha, kv, q1, q2⟩ : NmH G3 n h) => (⟨ha, kv, q1, gg _ _ q2⟩ : NmH _ n h)
  have hPt := L2.Paired.mapP hPt fun n h (⟨ha, q1, q2⟩ : NmT G5 n h) => (⟨ha, q1, (x4.trans y1).gnew ntr (o := .tup ([V.str sg.nm] ++ rest)) _ _ q2⟩ : NmT (upd G5 tr (.tup ([V.str sg.nm] ++ rest))) n h)
  have ghd := gg _ _ ghd
  have gtr : (upd G5 tr (.tup ([V.str sg.nm] ++ rest))) tr = some (.tup (.str sg.nm :: rest)) := upd_same
  clear y1 gg hD gD e5 x4 x3 hsa nsa n2 nrt
  generalize upd G5 tr (.tup ([V.str sg.nm] ++ rest)) = G6 at x5 hPh hPt ghd gtr
  generalize upd (upd H5 rt (.tup rest)) tr (.tup ([V.str sg.nm] ++ rest)) = H6 at x5
  have hth := L2.Paired.mapP hth fun tt v (⟨⟨p, ws, q1, q2, q3⟩, q4⟩ : ThOk G sg tt v) => (⟨⟨p, ws, q1, x5.g _ _ q2, RepsT.mono x5.g q3⟩, q4⟩ : ThOk G6 sg tt v)
  have gb := x5.g _ _ gb
  have hlt := Paired.length hth
  refine ⟨Nat.zero_le _, fun D nD => ?_⟩
  have hD0 : H D = none := x5.free nD
  have x6 := x5.trans (Xt.loc (M := No) (o := .lst []) x5.sub nD)
  have hD7 : (upd H6 D (.lst [])) D = some (.lst []) := upd_same
  have gD6 : G6 D = none := x5.sub.free nD
  generalize upd H6 D (.lst []) = H7 at x6 hD7
  have fin : ∀ (G' H' : Hp) (acc : List V), Xt (fun c => c = D) G6 H7 G' H' → H' D = some (.lst acc) → Reps G' sg.res ((ts.take (ahd sg ts)).map sg.vl) acc → ∀ p, H' p = none → Q (.ref p) (upd H' p (.tup [.ref D, nV (ahd sg ts), wV (stp sg ts)])) := fun G' H' acc e hD hR p np => by
    have gD' : G' D = none := e.hidN (some_ne hD7) gD6
    have xa := Xt.shut x6 hD0 e
    have xb := xa.pub hD0 hD
    have xc := xb.put (o := .tup [.ref D, nV (ahd sg ts), wV (stp sg ts)]) np
    have gc := xb.gnew (o := .tup [.ref D, nV (ahd sg ts), wV (stp sg ts)]) np
    exact q p D acc _ _ xc upd_same (gc _ _ upd_same) (Reps.mono ((same_upd gD').trans gc) hR)
  refine ⟨_, rfl, b, ths, rfl, SqL.of (x6.sub _ _ gb), ?_⟩
  refine for_it (walk_enum (xs := ths)) (fun i σ H' => ∃ (G' : Hp) (acc : List V) (y1 y2 y3 : Option V), σ = [some (.str sg.nm), some (.ref a), some (.ref b), some (.ref nm), some (.ref hd), some (.ref tr), some (.ref D), y1, y2, y3, none, none] ∧ Xt (fun c => c = D) G6 H7 G' H' ∧ H' D = some (.lst acc) ∧
      Reps G' sg.res ((ts.take i).map sg.vl) acc ∧ firstW (ts.map sg.wd) = (i + (firstW ((ts.drop i).map sg.wd)).1, (firstW ((ts.drop i).map sg.wd)).2)) ⟨G6, [], none, none, none, rfl, Xt.refl x6.sub, hD7, .nil, by simp⟩ (fun i σ H' _ hv => ?_) (fun i v σ H' H'' hi hv hY => ?_) fun σ H' hv => ?_
  · obtain ⟨G', acc, y1, y2, y3, _, e, _⟩ := hv
    exact SqL.of (e.sub _ _ (e.g _ _ gb))
  · obtain ⟨G', acc, y1, y2, y3, rfl, e, hD, hR, hF⟩ := hv
    obtain ⟨u, v1, v2, rfl, nu, rfl, h1, h2⟩ := hY
    have h2 : ths[i]? = some v2 := h2
    cases h1
    obtain ⟨tt, htt, ⟨p, ws, rfl, gp, hT⟩, hz, hN, hzr⟩ := pr_getR hth h2
    obtain ⟨F1, F2⟩ := firstW_drop htt hF
    have gD' : G' D = none := e.hidN (some_ne hD7) gD6
    have hlw : ws.length = ns.length := by rw [reps_len hT, hnl, hkl]
    refine g_pair rfl upd_same ?_
    have z1 := Xt.loc (M := No) (o := .tup [.int (i : Nat), .ref p]) e.sub nu
    have hD1 := z1.same _ _ hD
    generalize upd H' u (.tup [.int (i : Nat), .ref p]) = H8 at z1 hD1
    refine ⟨_, rfl, _, rfl, s2, fun pr npr => ⟨_, rfl, p, ws, rfl, .inl (SqL.of (same_upd npr _ _ (z1.sub _ _ (e.g _ _ gp)))), fun wl nwl => ?_⟩⟩
    have z2 := z1.put (o := .tup [.ref hd, .ref tr]) npr
    have gpr : (upd G' pr (.tup [.ref hd, .ref tr])) pr = some (.tup [.ref hd, .ref tr]) := upd_same
    have g2 := z1.gnew (o := .tup [.ref hd, .ref tr]) npr
    have z3 := z2.trans (Xt.loc (M := No) (o := .lst ws) z2.sub nwl)
    have hwl : (upd (upd H8 pr (.tup [.ref hd, .ref tr])) wl (.lst ws)) wl = some (.lst ws) := upd_same
    generalize upd (upd H8 pr (.tup [.ref hd, .ref tr])) wl (.lst ws) = H9 at z3 hwl
    generalize upd G' pr (.tup [.ref hd, .ref tr]) = G9 at z3 gpr g2 z2
    have g9 := e.g.trans g2
    refine ⟨G9, sg, tt, ns, pr, hd, tr, wl, hs, rest, ws, rfl, z3.sub, hns, gpr, g9 _ _ ghd, L2.Paired.mapP hPh fun n h ⟨ha, kv, q1, q2⟩ => ⟨ha, kv, q1, g9 _ _ q2⟩, g9 _ _ gtr, L2.Paired.mapP hPt fun n h ⟨ha, q1, q2⟩ => ⟨ha, q1, g9 _ _ q2⟩, hwl, hlw, RepsT.mono g9 hT, hz, hN, hrd, hzr, fun ho p2 v G10 H10 x10 gp2 hv2 => ?_, fun z ho p2 pl tu G10 H10 x10 gp2 gpl gtu => ?_⟩
    · have z4 := z3.trans x10
      have hp2 := x10.sub _ _ gp2
      have hDx := z4.same _ _ hD
      refine ⟨_, rfl, p2, _, 0, _, rfl, rfl, SqT.of hp2, atI_nat (j := 0) rfl, rfl, false, rfl, iteF ?_⟩
      have hla : acc.length = i := by
        rw [← Paired.length hR, List.length_map, List.length_take]
        omega
      refine ⟨_, rfl, .inl ⟨rfl, acc, SqL.of hDx⟩, _, rfl, p2, _, 1, _, rfl, rfl, SqT.of hp2, atI_nat (j := 1) rfl, D, acc, _, rfl, rfl, hDx, ?_, ?_⟩
      · have : sizeLine ≥ 1000 := by decide
        omega
      · have gD10 : G10 D = none := z4.hid hD gD'
        refine ⟨G10, acc ++ [v], _, _, _, rfl, (e.trans z4.weak).mset rfl gD10, upd_same, ?_, F1 ho⟩
        rw [take_next htt, List.map_append]
        exact pr_app (Reps.mono z4.g hR) (.cons hv2 .nil)
    · have z4 := z3.trans x10
      have hp2 := x10.sub _ _ gp2
      refine ⟨_, rfl, p2, _, 0, _, rfl, rfl, SqT.of hp2, atI_nat (j := 0) rfl, rfl, true, rfl, iteT ?_⟩
      refine ⟨_, rfl, p2, _, 1, _, rfl, rfl, SqT.of hp2, atI_nat (j := 1) rfl, Nat.zero_le _, fun u1 nu1 => ⟨Nat.zero_le _, fun u2 nu2 => ⟨by show 4 ≤ sizeLine; decide, fun tp ntp => ?_⟩⟩⟩
      have z5 := z4.put (o := .tup []) nu1
      have z6 := z5.put (o := .tup []) nu2
      have z7 := z6.put (o := .tup [.str "stops", .str z, .ref u1, .ref u2]) ntp
      have k5 := z4.gnew (o := .tup []) nu1
      have k6 := z5.gnew (o := .tup []) nu2
      have k7 := z6.gnew (o := .tup [.str "stops", .str z, .ref u1, .ref u2]) ntp
      have emp : ∀ {G : Hp} {x y : Addr}, G x = some (.tup []) → G y = some (.tup []) → Sim G 1 (.ref x) (.ref y) := fun h1 h2 => .inr ⟨_, _, [], [], rfl, rfl, Nat.zero_le _, .nil, .inr ⟨h1, h2⟩⟩
      have hSim : Sim _ 2 (.ref tp) (.ref p2) := .inr ⟨tp, p2, _, _, rfl, rfl, by show 4 ≤ BIG; decide, .cons (Sim.leaf rfl) (.cons (Sim.leaf rfl) (.cons (emp (k7 _ _ (k6 _ _ upd_same)) (k7 _ _ (k6 _ _ (k5 _ _ gpl)))) (.cons (emp (k7 _ _ upd_same) (k7 _ _ (k6 _ _ (k5 _ _ gtu)))) .nil))), .inr ⟨upd_same, k7 _ _ (k6 _ _ (k5 _ _ gp2))⟩⟩
      refine ⟨_, rfl, _, _, _, rfl, z7.sub, hSim, fun H11 x11 => ⟨true, rfl, iteF ?_⟩⟩
      have z8 := z7.trans x11
      have hp3 := x11.same _ _ (z7.sub _ _ (k7 _ _ (k6 _ _ (k5 _ _ gp2))))
      have hi := F2 z ho
      have ha : ahd sg ts = i := congrArg Prod.fst hi
      have hs' : stp sg ts = some z := congrArg Prod.snd hi
      refine ⟨_, rfl, _, rfl, _, rfl, p2, _, 1, _, rfl, rfl, SqT.of hp3, atI_nat (j := 1) rfl, s3, fun rp nrp => ?_⟩
      have r := fin _ _ acc (e.trans z8.weak) (z8.same _ _ hD) (by rw [ha]; exact Reps.mono z8.g hR) rp nrp
      rw [ha, hs'] at r
      exact r
  · obtain ⟨G', acc, y1, y2, y3, rfl, e, hD, hR, hF⟩ := hv
    rw [← hlt, List.drop_length] at hF
    have ha : ahd sg ts = ts.length := congrArg Prod.fst hF
    have hs' : stp sg ts = none := congrArg Prod.snd hF
    refine ⟨_, rfl, _, rfl, b, ths, rfl, .inl (SqL.of (e.sub _ _ (e.g _ _ gb))), s3, fun rp nrp => ?_⟩
    have r := fin _ _ acc e hD (by rw [ha, hlt]; exact hR) rp nrp
    rw [ha, hs', hlt] at r
    exact r
end
end Bw
namespace Bw
open PySem PySem.Spec PyProof.Rows L2
open C8 (Cal pe_c)
/-! ### sizes of what comes out -/
theorem tots_sum : ∀ (ks : List Kd) (ts : List (Tys ks)), tots ks ts = (ts.map (wszs ks)).sum
  | [], ts => by
    show 0 = (ts.map fun _ => 0).sum
    induction ts with
    | nil => rfl
    | cons t ts ih => rw [List.map_cons, List.sum_cons, ← ih]
  | k :: ks, ts => by
    show tot k (ts.map Prod.fst) + tots ks (ts.map Prod.snd) = _
    rw [tots_sum ks]
    induction ts with
    | nil => rfl
    | cons t ts ih =>
      rw [List.map_cons, List.map_cons, List.map_cons, List.map_cons, List.sum_cons, List.sum_cons, ← ih, tot_cons]
      show wsz k t.1 + tot k (ts.map Prod.fst) + (wszs ks t.2 + _) = wsz k t.1 + wszs ks t.2 + _
      omega
theorem sum_le {α : Type} {f : α → Nat} {B : Nat} : ∀ {ts : List α}, (∀ t ∈ ts, f t ≤ B) → (ts.map f).sum ≤ ts.length * B
  | [], _ => Nat.zero_le _
  | t :: ts, h => by
    have h1 := h t (List.mem_cons_self ..)
    have h2 := sum_le (f := f) (B := B) fun u hu => h u (List.mem_cons_of_mem _ hu)
    rw [List.map_cons, List.sum_cons, List.length_cons, Nat.succ_mul]
    omega
theorem tot_cutL (k : Kd) : ∀ (ns : List Int) (xs : List (Ty k)), tot (.row k) (cutL xs ns) ≤ ns.length + tot k xs
  | [], xs => Nat.zero_le _
  | n :: ns, xs => by
    have h := tot_cutL k ns (xs.drop n.toNat)
    have e : tot k xs = tot k (xs.take n.toNat) + tot k (xs.drop n.toNat) := by rw [← tot_app, List.take_append_drop]
    have e2 : tot (.row k) (cutL xs (n :: ns)) = (1 + tot k (xs.take n.toNat)) + tot (.row k) (cutL (xs.drop n.toNat) ns) := tot_cons (k := .row k)
    rw [e2, List.length_cons]
    omega
theorem tot_kp (k : Kd) : ∀ (xs : List (Ty k)) (bs : List Bool), tot k (kp xs bs) ≤ tot k xs
  | [], _ => Nat.zero_le _
  | _ :: _, [] => Nat.zero_le _
  | x :: xs, b :: bs => by
    have h := tot_kp k xs bs
    have e : tot k (x :: xs) = wsz k x + tot k xs := tot_cons
    cases b with
    | true =>
      have e2 : tot k (kp (x :: xs) (true :: bs)) = wsz k x + tot k (kp xs bs) := tot_cons
      omega
    | false =>
      have e2 : tot k (kp (x :: xs) (false :: bs)) = tot k (kp xs bs) := rfl
      omega
theorem upto_size (i : Int) (h : farW i = none) : 1 + tot .num ((List.range i.toNat).map Int.ofNat) ≤ 1 + 0 + 201 := by
  have h2 : i ≤ 200 := by
    unfold farW at h
    split at h
    · rename_i hc
      have := (Bool.and_eq_true_iff.mp hc).2
      exact of_decide_eq_true this
    · cases h
  have e : tot .num ((List.range i.toNat).map Int.ofNat) = i.toNat := by rw [tot_num, List.length_map, List.length_range]
  omega
theorem pick_lt (i : Int) (n : Nat) (h : pickW i n = none) : i.toNat < n := by
  unfold pickW at h
  split at h
  · rename_i hc
    have h3 := Bool.and_eq_true_iff.mp hc
    have h4 := of_decide_eq_true h3.1
    have h5 := of_decide_eq_true h3.2
    omega
  · cases h
theorem res_size : ∀ (s : Sg) (t : Tys s.ks), s.wd t = none → wsz s.res (s.vl t) ≤ wszs s.ks t + 201
  | .not, t, _ => by show 1 ≤ _; omega
  | .first k l, t, _ => by
    show wsz k t.1.1 ≤ (wsz k t.1.1 + wsz l t.1.2) + 0 + 201
    omega
  | .second k l, t, _ => by
    show wsz l t.1.2 ≤ (wsz k t.1.1 + wsz l t.1.2) + 0 + 201
    omega
  | .one k, t, _ => by
    show 1 + (wsz k t.1 + 0) ≤ wsz k t.1 + 0 + 201
    omega
  | .upto, t, h => upto_size t.1 h
  | .long k, t, _ => by show 1 ≤ _; omega
  | .sum, t, _ => by show 1 ≤ _; omega
  | .sums, t, _ => by
    have e : tot .num (aheads 0 t.1) = tot .num t.1 := by rw [tot_num, tot_num, aheads_len]
    show 1 + tot .num (aheads 0 t.1) ≤ (1 + tot .num t.1) + 0 + 201
    omega
  | .most, t, _ => by show 1 ≤ _; omega
  | .flat k, t, _ => by
    have e := tot_row k t.1
    show 1 + tot k (List.flatten t.1) ≤ (1 + tot (.row k) t.1) + 0 + 201
    omega
  | .add, t, _ => by show 1 ≤ _; omega
  | .sub, t, _ => by show 1 ≤ _; omega
  | .mul, t, _ => by show 1 ≤ _; omega
  | .div, t, _ => by show 1 ≤ _; omega
  | .rest, t, _ => by show 1 ≤ _; omega
  | .less, t, _ => by show 1 ≤ _; omega
  | .sameN, t, _ => by show 1 ≤ _; omega
  | .sameT, t, _ => by show 1 ≤ _; omega
  | .both, t, _ => by show 1 ≤ _; omega
  | .pair k l, t, _ => by
    show wsz k t.1 + wsz l t.2.1 ≤ wsz k t.1 + (wsz l t.2.1 + 0) + 201
    omega
  | .pick k, t, h => by
    have h : pickW t.2.1 (List.length t.1) = none := h
    have hlt : Int.toNat t.2.1 < List.length t.1 := pick_lt _ _ h
    have hm : List.getD t.1 (Int.toNat t.2.1) (dflt k) ∈ (t.1 : List (Ty k)) := by
      rw [List.getD_eq_getElem?_getD, List.getElem?_eq_getElem hlt]
      exact List.getElem_mem hlt
    have := mem_tot (k := k) hm
    show wsz k (List.getD t.1 (Int.toNat t.2.1) (dflt k)) ≤ (1 + tot k t.1) + (1 + 0) + 201
    omega
  | .join k, t, _ => by
    have e : tot k (t.1 ++ t.2.1) = tot k t.1 + tot k t.2.1 := tot_app
    show 1 + tot k (t.1 ++ t.2.1) ≤ (1 + tot k t.1) + ((1 + tot k t.2.1) + 0) + 201
    omega
  | .keep k, t, h => by
    have h : (if List.length t.1 = List.length t.2.1 then none else some ("unlike" : Str)) = none := h
    have h2 : List.length (α := Ty k) t.1 = List.length (α := Bool) t.2.1 := by
      split at h
      · assumption
      · cases h
    have e := tot_kp k t.1 t.2.1
    rw [← pk_tru _ _ h2] at e
    show 1 + tot k (pk t.1 (tru t.2.1)) ≤ (1 + tot k t.1) + ((1 + tot .truth t.2.1) + 0) + 201
    omega
  | .cut k, t, _ => by
    have e := tot_cutL k t.2.1 t.1
    have e2 : tot .num t.2.1 = List.length t.2.1 := tot_num _
    show 1 + tot (.row k) (cutL t.1 t.2.1) ≤ (1 + tot k t.1) + ((1 + tot .num t.2.1) + 0) + 201
    omega
theorem take_none {α : Type} {f : α → Option Str} : ∀ (ts : List α), ∀ t ∈ ts.take (firstW (ts.map f)).1, f t = none
  | [], t, h => by cases h
  | x :: ts, t, h => by
    rw [List.map_cons] at h
    cases hx : f x with
    | none =>
      rw [hx] at h
      have h : t ∈ (x :: ts).take ((firstW (ts.map f)).1 + 1) := h
      rw [List.take_succ_cons] at h
      rcases List.mem_cons.mp h with rfl | h
      · exact hx
      · exact take_none ts t h
    | some z =>
      rw [hx] at h
      cases h
theorem mem_take {α : Type} {t : α} : ∀ {ts : List α} {n : Nat}, t ∈ ts.take n → t ∈ ts := fun h => List.mem_of_mem_take h
/-- what a sign comes to over some things, in all -/
theorem res_tot {s : Sg} {ts : List (Tys s.ks)} (h : ∀ t ∈ ts, wszs s.ks t ≤ 40000) (hl : ts.length ≤ 4) : tot s.res ((ts.take (ahd s ts)).map s.vl) ≤ BIG := by
  have hB : BIG = 1000000 := rfl
  have h1 : tot s.res ((ts.take (ahd s ts)).map s.vl) = ((ts.take (ahd s ts)).map fun t => wsz s.res (s.vl t)).sum := by
    unfold tot
    rw [List.map_map]
    rfl
  have h2 := sum_le (f := fun t => wsz s.res (s.vl t)) (B := 40201) (ts := ts.take (ahd s ts)) fun t ht => by
    have h3 := res_size s t (take_none (f := s.wd) ts t ht)
    have h4 := h t (mem_take ht)
    omega
  rw [h1]
  have h5 : (ts.take (ahd s ts)).length ≤ 4 := by
    rw [List.length_take]
    omega
  have h6 : (ts.take (ahd s ts)).length * 40201 ≤ 4 * 40201 := Nat.mul_le_mul_right _ h5
  omega
theorem tots_le {s : Sg} {ts : List (Tys s.ks)} (h : ∀ t ∈ ts, wszs s.ks t ≤ 40000) (hl : ts.length ≤ 4) : tots s.ks ts ≤ BIG := by
  have hB : BIG = 1000000 := rfl
  rw [tots_sum]
  have h2 := sum_le (f := wszs s.ks) (B := 40000) h
  have h6 : ts.length * 40000 ≤ 4 * 40000 := Nat.mul_le_mul_right _ hl
  omega
end Bw
namespace Bw
open PySem PySem.Spec PyProof.Rows L2
open C8 (Cal pe_c)
def TOK (G : Hp) (s : Sg) (tt : Tys s.ks) (v : V) : Prop := ThRep G s tt v ∧ wszs s.ks tt ≤ 40000 ∧ NBs s.ks tt
theorem TOK.mono {G G' : Hp} (e : Same G G') {s : Sg} {ts : List (Tys s.ks)} {vs : List V} (h : Paired (TOK G s) ts vs) : Paired (TOK G' s) ts vs := L2.Paired.mapP h fun _ _ ⟨⟨p, ws, q1, q2, q3⟩, q4⟩ => ⟨⟨p, ws, q1, e _ _ q2, RepsT.mono e q3⟩, q4⟩
theorem pr_memL {α β : Type} {F : α → β → Prop} {I : α → Prop} (h : ∀ a b, F a b → I a) : ∀ {l : List α} {m : List β}, Paired F l m → ∀ a ∈ l, I a
  | _, _, .nil, _, z => by cases z
  | _, _, .cons r t, a, z => by
    rcases List.mem_cons.mp z with rfl | z
    · exact h _ _ r
    · exact pr_memL h t a z
/-- the i-th of each thing: the i-th column -/
theorem col_at {G : Hp} : ∀ {ks : List Kd} {i : Nat} {ts : List (Tys ks)} {p : Sigma fun k => List (Ty k)}, (items ks ts)[i]? = some p → ks[i]? = some p.1 ∧ ∀ (j : Nat) (t : Tys ks) (vs : List V), ts[j]? = some t → RepsT G ks t vs → ∃ u v, p.2[j]? = some u ∧ vs[i]? = some v ∧ Rep G p.1 u v
  | [], _, _, _, h => by cases h
  | k :: ks, 0, ts, p, h => by
    cases h
    refine ⟨rfl, fun j t vs ht hT => ?_⟩
    obtain ⟨v, r, rfl, h1, _⟩ := hT
    exact ⟨t.1, v, by show (ts.map Prod.fst)[j]? = _; rw [List.getElem?_map, ht]; rfl, rfl, h1⟩
  | k :: ks, i + 1, ts, p, h => by
    have h : (items ks (ts.map Prod.snd))[i]? = some p := h
    obtain ⟨h1, h2⟩ := col_at (G := G) h
    refine ⟨h1, fun j t vs ht hT => ?_⟩
    obtain ⟨v, r, rfl, _, h3⟩ := hT
    obtain ⟨u, w, q1, q2, q3⟩ := h2 j t.2 r (by rw [List.getElem?_map, ht]; rfl) h3
    exact ⟨u, w, q1, q2, q3⟩
theorem Xt.shutM {M : Addr → Prop} {fl : Addr} {G H G1 H1 G2 H2 : Hp} (a : Xt M G H G1 H1) (n : H fl = none) (b : Xt (fun c => c = fl) G1 H1 G2 H2) : Xt M G H G2 H2 :=
  ⟨a.g.trans b.g, b.sub, fun c o z h => b.old c o (fun e => by rw [show c = fl from e, n] at h; cases h) (a.old c o z h), fun c h => (b.fr c (a.alive c h)).trans (a.fr c h), fun c h => b.alive c (a.alive c h)⟩
theorem Tp.onM {G H G' H' : Hp} {t fl : Addr} {c : Nat} (h : Tp G H t c) (x : Xt (fun c => c = fl) G H G' H') (n : fl ≠ t) : Tp G' H' t c := by
  obtain ⟨g, a0, xs, spot, rest, left, h1, h2, h3, _⟩ := h
  exact ⟨x.hid h2 g, a0, xs, spot, rest, left, x.g _ _ h1, x.old _ _ (fun z => n z.symm) h2, h3, trivial⟩
theorem six1 (x : V) (xs : List V) : ¬ (HT.sIx (x :: xs).length 0 (some 1) = 0 ∧ HT.sIx (x :: xs).length (x :: xs).length none = (x :: xs).length) := fun z => by
  have h1 := z.1
  have e1 : HT.sIx (x :: xs).length 0 (some 1) = 1 := by
    show (if (1 : Int) < 0 then ((1 : Int) + ((x :: xs).length : Int)).toNat else min (1 : Int).toNat (x :: xs).length) = 1
    rw [if_neg (by decide), List.length_cons]
    omega
  rw [e1] at h1
  cases h1
theorem leaf_wV (o : Option Str) : leafV (wV o) = true := by cases o <;> rfl
section
variable {P : Program} {w : World} {K : PySem.W.Frag} {mg : Str → Option Value} {base : Heap}
def CS : Nat := 30 + 4 * CT
def spSign : Sp := fun vs H Q _ => ∃ (G : Hp) (t : Addr) (c : Nat) (s0 : Sg), vs = [.ref t, .str s0.nm] ∧ Same G H ∧ Tp G H t c ∧ c + CS ≤ CMAX ∧ ∀ (G' H' : Hp), Xt (At t) G H G' H' → Tp G' H' t (c + CS) → Q (.bl true) H'
abbrev N_law_sign : List PySem.Str := ["tape", "sign", "many", "things", "flats", "piece", "told", "due", "kinds", "kind", "at", "one", "k", "thing"]
theorem sc_law_sign : FnScope N_law_sign ["tape", "sign"] (defScope s_law_sign) := ⟨rfl, rfl, rfl, by decide +kernel, rfl, by decide +kernel, by decide +kernel⟩
theorem c_law_sign (T : Txt K mg) (c_law_kinds : Cal P w K mg base 6 "_law_kinds" (spKinds K) []) (c_law_draw : Cal P w K mg base 2 "_law_draw" spDraw []) (c_law_thing : Cal P w K mg base 9 "_law_thing" (spThing K) []) (c_flat_of : Cal P w K mg base 6 "flat_of" (spFlatOf K 5) []) (c_wide_step : Cal P w K mg base 12 "wide_step" (spWide K 5) []) (c_law_readings : Cal P w K mg base 13 "_law_readings" spReadings []) (c_law_alike : Cal P w K mg base 7 "_law_alike" (spAlike 6) []) (c_worths_of : Cal P w K mg base 7 "worths_of" (spWorthsBy K 5) []) : Cal P w K mg base 14 "_law_sign" spSign [] := by
  refine cal_of (d := d_law_sign) T (mem_fn 52) rfl (mem_fa 52) rfl rfl sc_law_sign (fun _ _ _ _ _ _ us hl => match us, hl with | [_, _], _ => rfl) (fun vs H Q E h => ?_) (fun cdv A outer s H vs Q E f hr h => ?_)
  · obtain ⟨G, t, c, s0, rfl, _⟩ := h
    rfl
  obtain ⟨G, t, c, s0, rfl, sG, tp, hc, q⟩ := h
  have hC : CMAX = 1000000000000000000 := rfl
  have hCS : CS = 30 + 4 * CT := rfl
  generalize CS = C at hCS hc q
  obtain ⟨F, hF⟩ : ∃ F, CT = F := ⟨_, rfl⟩
  rw [hF] at hCS
  refine ⟨_, (pss_cons (ps_asg (pe_c c_law_kinds hr (by decide) rfl (pa_cons (pv 0) (pa_cons (pv 1) pa_nil))) (g_tup (n := 2) rfl (pgs_cons (pg_name (i := 8) sc_law_sign.nd rfl (.inr rfl)) (pgs_cons (pg_name (i := 9) sc_law_sign.nd rfl (.inl rfl)) pgs_nil))))
      (pss_cons (ps_set (i := 2) sc_law_sign.nd rfl (.inl rfl) (pe_op op_add pe_int (pe_c c_law_draw hr (by decide) rfl (pa_cons (pv 0) (pa_cons pe_int pa_nil)))))
      (pss_cons (ps_setLc (i := 3) (own := [("k", 12)]) rfl sc_law_sign.nd rfl rfl (sw_true rfl rfl rfl (by decide +kernel)) (pi_range1 rfl T.range (pa_cons (pv 2) pa_nil)) (blkOk_by (N := N_law_sign) (sc := defScope s_law_sign) (by decide +kernel)) (fun _ _ _ _ _ => (pg_name (i := 12) sc_law_sign.nd rfl (.inl rfl))) (fun _ _ _ _ _ => pts_nil) (fun _ _ _ _ _ => (pe_c c_law_thing hr (by decide) rfl (pa_cons (pv 0) (pa_cons (pv 1) (pa_cons (pv 8) pa_nil))))))
      (pss_cons (ps_set (i := 4) sc_law_sign.nd rfl (.inl rfl) (pe_lst pa_nil))
      (pss_cons (ps_for PassesOwn.never rfl (pi_enum rfl T.enumerate (pa_cons (pv 8) pa_nil)) (g_tup (n := 2) rfl (pgs_cons (pg_name (i := 10) sc_law_sign.nd rfl (.inr rfl)) (pgs_cons (pg_name (i := 11) sc_law_sign.nd rfl (.inl rfl)) pgs_nil))) (pss_one (ps_expr (pe_bm PySem.F.plainAttrs_list PySem.F.slot_list_append PySem.F.type_list_append mt_append (pv 4) (pa_cons (pe_c c_flat_of hr (by decide) rfl (pa_cons (pv 11) (pa_cons (pe_lc (own := [("thing", 13)]) rfl sc_law_sign.nd (pi_list (pv 3)) (blkOk_by (N := N_law_sign) (sc := defScope s_law_sign) (by decide +kernel)) (fun _ _ _ _ _ => (pg_name (i := 13) sc_law_sign.nd rfl (.inl rfl))) (fun _ _ _ _ _ => pts_nil) (fun _ _ _ _ _ => (pe_ix i_list (pv 13) (pv 10) (fun _ _ => rfl)))) pa_nil))) pa_nil)))))
      (pss_cons (ps_set (i := 5) sc_law_sign.nd rfl (.inl rfl) (pe_op o_catA (pe_tup (pa_cons (pv 1) pa_nil)) (pe_op op_repA (pe_tup (pa_cons pe_non pa_nil)) (e_len T.len (pv 8)))))
      (pss_cons (ps_set (i := 6) sc_law_sign.nd rfl (.inl rfl) (pe_c c_wide_step hr (by decide) rfl (pa_cons (pv 5) (pa_cons (e_list T.list (pv 8)) (pa_cons (pv 4) (pa_cons (pv 2) pa_nil))))))
      (pss_cons (ps_set (i := 7) sc_law_sign.nd rfl (.inl rfl) (pe_c c_law_readings hr (by decide) rfl (pa_cons (pv 1) (pa_cons (pv 8) (pa_cons (pv 3) pa_nil)))))
      (pss_cons (ps_if (PW.pt (pw_or (pt_cmpR op_isN (pv 7) pe_non (nomark _)) (pw_or1 (pt_not (pt_val (pe_c c_law_alike hr (by decide) rfl (pa_cons (pe_slice s_tupA (pv 7) (po_some pe_int) po_none) (pa_cons (pe_slice s_tupA (pv 6) (po_some pe_int) po_none) pa_nil)))))))) (pss_one (ps_ret pe_bl)) pss_nil)
      (pss_one (ps_ret (pe_c c_law_alike hr (by decide) rfl (pa_cons (pe_ix i_tup (pv 7) pe_int (fun _ _ => rfl)) (pa_cons (pe_c c_worths_of hr (by decide) rfl (pa_cons (pv 9) (pa_cons (pe_ix i_tup (pv 6) pe_int (fun _ _ => rfl)) (pa_cons (pe_ix i_tup (pv 6) pe_int (fun _ _ => rfl)) pa_nil)))) pa_nil)))))))))))))), ?_⟩
  have s1 : 1 ≤ sizeLine := by decide
  have s2 : 2 ≤ sizeLine := by decide
  refine ⟨_, rfl, _, rfl, G, t, c, s0, rfl, sG, tp, by omega, fun sg p G1 H1 hn hdp hrd x1 t1 ans => ?_⟩
  obtain ⟨kb, ks, kv, gp, gkb, hks, hkv⟩ := ans
  have hkl := Paired.length hks
  have hk2 := ks_two sg
  refine g_pair rfl (x1.sub _ _ gp) ?_
  rw [← hn]
  refine ⟨_, rfl, G1, t, _, 4, rfl, x1.sub, t1, by omega, by decide, by decide, fun r H2 x2 t2 r0 r1 => ⟨_, _, rfl, rfl, ?_⟩⟩
  obtain ⟨m, rfl⟩ : ∃ m : Nat, r = m := ⟨r.toNat, by omega⟩
  refine ⟨_, rfl, ((1 + m : Nat) : Int), rfl, by omega, by omega, fun D nD => ?_⟩
  have nDt : D ≠ t := fun z => by
    rw [z] at nD
    exact t2.ne nD
  have hmul : ∀ i, i ≤ 1 + m → i * F ≤ 4 * F := fun i hi => Nat.mul_le_mul_right _ (by omega)
  refine lc_gen (M := At t) (G1 := G1) (n := 1 + m) walk_range (fun i acc G' H' => ∃ ts : List (Tys sg.ks), ts.length = i ∧ Paired (TOK G' sg) ts acc ∧ Tp G' H' t (c + 25 + i * F)) x2.sub (fun b z => by rw [show b = t from z]; exact t2.ne) nD ⟨[], rfl, .nil, (t2.put nDt).le (by omega)⟩
    (fun i acc G' H' o ⟨ts, h1, h2, h3⟩ _ => ⟨ts, h1, h2, h3.put nDt⟩) (fun _ _ _ _ _ _ _ => trivial) (fun i acc x G' H' H'' Nx hi e hD gD hI hY kk _ => ?_) fun ths G2 H3 e hD gD hI => ?_
  · obtain ⟨rfl, rfl⟩ := hY
    obtain ⟨ts, h1, h2, h3⟩ := hI
    have hm := hmul (i + 1) (by omega)
    rw [Nat.succ_mul] at hm
    refine ⟨rfl, _, rfl, _, rfl, _, rfl, G', t, _, sg, kb, ks, rfl, e.g _ _ gkb, KReps.mono e.g hks, hdp, e.sub, h3, by rw [hF]; omega, fun tt v G5 H5 x5 th z5 nb5 t5 => ?_⟩
    rw [hF] at t5
    refine kk v G5 H5 x5 ?_ ⟨ts ++ [tt], by rw [List.length_append, h1]; rfl, pr_app (TOK.mono x5.g h2) (.cons ⟨th, z5, nb5⟩ .nil), t5.le (by rw [Nat.succ_mul]; omega)⟩
    have h4 := Paired.length h2
    have : sizeLine ≥ 1000 := by decide
    omega
  obtain ⟨ts, h1, h2, h3⟩ := hI
  have hm := hmul (1 + m) (Nat.le_refl _)
  have xB := (x1.trans x2).trans (e.pub nD hD)
  have t3 := (h3.pub (o := .lst ths) gD nDt).le (show _ ≤ c + C by omega)
  have hth := TOK.mono (same_upd gD (o := .lst ths)) h2
  have gths : (upd G2 D (.lst ths)) D = some (.lst ths) := upd_same
  have gg := e.g.trans (same_upd gD (o := .lst ths))
  have gkb := gg _ _ gkb
  have hks := KReps.mono gg hks
  have hkv := KRep.mono gg hkv
  clear x1 x2 e hD gD h2 h3 gg hmul gp tp t1 t2 nDt nD
  generalize upd G2 D (.lst ths) = G3 at xB t3 hth gths gkb hks hkv
  have hsz := pr_memL (I := fun tt => wszs sg.ks tt ≤ 40000) (fun _ _ h => h.2.1) hth
  have hNB := pr_memL (I := fun tt => NBs sg.ks tt) (fun _ _ h => h.2.2) hth
  have hl4 : ts.length ≤ 4 := by omega
  have hrt := res_tot hsz hl4
  have htl := tots_le hsz hl4
  have hlt := Paired.length hth
  refine ⟨Nat.zero_le _, fun fl nfl => ?_⟩
  have hfl0 : H fl = none := xB.free nfl
  have nflt : fl ≠ t := fun z => by
    rw [z] at nfl
    exact t3.ne nfl
  have xC := xB.trans (Xt.loc (M := At t) (o := .lst []) xB.sub nfl)
  have t4 := t3.on (Xt.loc (o := .lst []) xB.sub nfl)
  have hfl : (upd H3 fl (.lst [])) fl = some (.lst []) := upd_same
  have gfl : G3 fl = none := xB.sub.free nfl
  generalize upd H3 fl (.lst []) = H4 at xC t4 hfl
  clear xB t3 nfl
  have lI : (items sg.ks ts).length = ks.length := by rw [← hkl, ← List.length_map (f := Sigma.fst), items_kinds]
  refine ⟨_, rfl, kb, ks, rfl, SqL.of (xC.sub _ _ gkb), ?_⟩
  refine for_it (walk_enum (xs := ks)) (fun i σ H' => ∃ (G' : Hp) (acc : List V) (y1 y2 : Option V), σ = [some (.ref t), some (.str sg.nm), some (.int ((1 : Int) + (m : Int))), some (.ref D), some (.ref fl), none, none, none, some (.ref kb), some kv, y1, y2, none, none] ∧ Xt (fun c => c = fl) G3 H4 G' H' ∧ H' fl = some (.lst acc) ∧ Paired (FIt G') ((items sg.ks ts).take i) acc)
    ⟨G3, [], none, none, rfl, Xt.refl xC.sub, hfl, .nil⟩ (fun i σ H' _ hv => ?_) (fun i v σ H' H'' hi hv hY => ?_) fun σ H' hv => ?_
  · obtain ⟨G', acc, y1, y2, _, e, _⟩ := hv
    exact SqL.of (e.sub _ _ (e.g _ _ gkb))
  · obtain ⟨G', acc, y1, y2, rfl, e, hA, hP⟩ := hv
    obtain ⟨u, v1, v2, rfl, nu, rfl, h1', h2⟩ := hY
    cases h1'
    have h2 : ks[i]? = some v2 := h2
    obtain ⟨k, hki, hkr⟩ := pr_getR hks h2
    obtain ⟨pc, hpc⟩ : ∃ pc, (items sg.ks ts)[i]? = some pc := ⟨_, List.getElem?_eq_getElem (by omega)⟩
    have hcol := col_at (G := G') hpc
    have hk1 : k = pc.1 := by
      have h := hcol.1
      rw [hki] at h
      exact Option.some.inj h
    subst hk1
    obtain ⟨hcl, hct⟩ := items_len sg.ks ts pc (List.mem_of_getElem? hpc)
    have gA : G' fl = none := e.hid hfl gfl
    refine g_pair rfl upd_same ?_
    have z1 := Xt.loc (M := No) (o := .tup [.int (i : Nat), v2]) e.sub nu
    have hA1 := z1.same _ _ hA
    generalize upd H' u (.tup [.int (i : Nat), v2]) = H8 at z1 hA1
    have hla : acc.length = i := by
      rw [← Paired.length hP, List.length_take]
      omega
    refine ⟨_, rfl, .inl ⟨rfl, acc, SqL.of hA1⟩, _, rfl, _, rfl, D, rfl, ⟨_, SqL.of (z1.sub _ _ (e.g _ _ gths))⟩, fun D3 n3 => ?_⟩
    refine lc_gen (M := No) (G1 := G') (walk_list (xs := ths)) (fun j acc2 G9 H9 => G9 = G' ∧ Paired (Rep G' pc.1) (pc.2.take j) acc2) z1.sub (fun _ z => z.elim) n3 ⟨rfl, .nil⟩ (fun _ _ _ _ _ h _ => h)
      (fun j acc2 G9 H9 e9 _ _ => SqL.of (e9.sub _ _ (e9.g _ _ (e.g _ _ gths)))) (fun j acc2 x G9 H9 H9' Nx hj e9 hD9 gD9 hI hY kk _ => ?_) fun us G9 H9 e9 hD9 gD9 hI => ?_
    · obtain ⟨rfl, hx⟩ := hY
      obtain ⟨rfl, hI⟩ := hI
      obtain ⟨tt, htt, ⟨p, ws, rfl, gp, hT⟩, _⟩ := pr_getR hth hx
      obtain ⟨uu, vv, c1, c2, c3⟩ := hcol.2 j tt ws htt (RepsT.mono e.g hT)
      refine ⟨rfl, _, rfl, _, rfl, p, ws, (i : Int), vv, rfl, rfl, SqL.of (e9.sub _ _ (e.g _ _ gp)), atI_nat c2, ?_⟩
      refine kk vv _ _ (Xt.refl e9.sub) ?_ ⟨rfl, ?_⟩
      · have h5 := Paired.length hI
        rw [List.length_take] at h5
        have : sizeLine ≥ 1000 := by decide
        omega
      · rw [take_next c1]
        exact pr_app hI (.cons c3 .nil)
    · obtain ⟨rfl, hI⟩ := hI
      rw [show ths.length = pc.2.length by omega, List.take_length] at hI
      have z2 := z1.trans (e9.pub n3 hD9)
      refine ⟨_, pc.1, pc.2, v2, D3, us, rfl, z2.sub, KRep.mono (e.g.trans z2.g) hkr, upd_same, Reps.mono (same_upd gD9) hI, by omega, hdp _ (List.mem_of_getElem? hki), fun fv G10 H10 x10 fr => ?_⟩
      have z3 := z2.trans x10
      refine ⟨fl, acc, _, rfl, rfl, z3.same _ _ hA, ?_, ?_⟩
      · have : sizeLine ≥ 1000 := by decide
        omega
      · refine ⟨G10, acc ++ [fv], _, _, rfl, (e.trans z3.weak).mset rfl (z3.hid hA gA), upd_same, ?_⟩
        rw [take_next hpc]
        exact pr_app (L2.Paired.mapP hP fun p f h => FRep.mono z3.g h) (.cons fr .nil)
  obtain ⟨G4, fs, y1, y2, rfl, e, hfs, hP⟩ := hv
  rw [← lI, List.take_length] at hP
  have hFR := of_items hP
  clear hP
  have gfl4 : G4 fl = none := e.hidN (some_ne hfl) gfl
  have xD := Xt.shutM xC hfl0 e
  have t5 := t4.onM e nflt
  have gths := e.g _ _ gths
  have gkb := e.g _ _ gkb
  have hks := KReps.mono e.g hks
  have hkv := KRep.mono e.g hkv
  have hth := TOK.mono e.g hth
  clear e xC t4 hfl gfl
  refine ⟨_, rfl, s1, fun sa nsa => ⟨s1, fun na nna => ⟨_, rfl, kb, ks, rfl, .inl (SqL.of (same_upd nna _ _ (same_upd nsa _ _ (xD.sub _ _ gkb)))), ?_⟩⟩⟩
  have za := Xt.loc (M := No) (o := .tup [.str sg.nm]) xD.sub nsa
  have zb := za.trans (Xt.loc (M := No) (o := .tup [.non]) za.sub nna)
  have hsa : (upd (upd H' sa (.tup [.str sg.nm])) na (.tup [.non])) sa = some (.tup [.str sg.nm]) := same_upd nna _ _ upd_same
  have hna : (upd (upd H' sa (.tup [.str sg.nm])) na (.tup [.non])) na = some (.tup [.non]) := upd_same
  generalize upd (upd H' sa (.tup [.str sg.nm])) na (.tup [.non]) = H5 at zb hsa hna
  clear za nsa nna
  rcases (show ks.length = 1 ∨ ks.length = 2 by omega) with hk | hk
  case' inl =>
    refine .inl ⟨na, [.non], rfl, by rw [hk]; rfl, SqT.of hna, ?_⟩
    have hrs : ([V.non] : List V) ≠ [] ∧ ([V.non] : List V).length ≤ 2 := ⟨fun z => (by cases z), by decide⟩
    have hb := hna
    have z6 := zb
    generalize [V.non] = rs at hrs hb hna
    generalize hbn : na = b at hb
    have hsa6 := hsa
  case' inr =>
    refine .inr ⟨na, 2, [.non], rfl, by rw [hk]; rfl, SqT.of hna, fun z => (by cases z), by decide, by decide, by decide, fun b nb => ?_⟩
    have hrs : (List.replicate (2 : Int).toNat [V.non]).flatten ≠ [] ∧ (List.replicate (2 : Int).toNat [V.non]).flatten.length ≤ 2 := ⟨fun z => (by cases z), by decide⟩
    have z6 := zb.trans (Xt.loc (M := No) (o := .tup (List.replicate (2 : Int).toNat [V.non]).flatten) zb.sub nb)
    have hb : (upd H5 b (.tup (List.replicate (2 : Int).toNat [V.non]).flatten)) b = some (.tup (List.replicate (2 : Int).toNat [V.non]).flatten) := upd_same
    have hsa6 := same_upd nb (o := .tup (List.replicate (2 : Int).toNat [V.non]).flatten) _ _ hsa
    generalize (List.replicate (2 : Int).toNat [V.non]).flatten = rs at hrs z6 hb hsa6
    generalize upd H5 b (.tup rs) = H6 at z6 hb hsa6
  all_goals
    refine ⟨sa, b, [.str sg.nm], rs, rfl, rfl, SqT.of hsa6, SqT.of hb, ?_, fun z => (by cases z), fun _ z => absurd z hrs.1, fun _ _ pc npc => ?_⟩
    · have h5 := hrs.2
      have : sizeLine ≥ 1000 := by decide
      show 1 + rs.length ≤ sizeLine
      omega
    have z7 := z6.trans (Xt.loc (M := No) (o := .tup ([V.str sg.nm] ++ rs)) z6.sub npc)
    refine ⟨_, rfl, _, rfl, kb, ks, rfl, .inl (SqL.of (z7.sub _ _ gkb)), fun kl nkl => ?_⟩
    have z8 := z7.trans (Xt.loc (M := No) (o := .lst ks) z7.sub nkl)
    refine ⟨_, rfl, _, rfl, G4, sg, ts, pc, kl, fl, rs, ks, fs, by rw [h1]; rfl, z8.sub, SqT.of (same_upd nkl _ _ upd_same), upd_same, hks, z8.same _ _ hfs, hFR, htl, hrt, hNB, hdp, fun tp v G7 H7 x7 gtp frv => ?_⟩
    have z9 := z8.trans x7
    refine ⟨_, rfl, _, rfl, _, rfl, G7, sg, ts, kb, D, ks, ths, rfl, z9.sub, z9.g _ _ gkb, hkl.symm, z9.g _ _ gths, L2.Paired.mapP (TOK.mono z9.g hth) fun tt v h => ⟨h.1, by have hB : BIG = 1000000 := rfl; have := h.2.1; omega, h.2.2, fun hw => by have hB : BIG = 1000000 := rfl; have h6 := res_size sg tt hw; have := h.2.1; omega⟩, hl4, hrd, fun dp dl us G8 H8 x8 gdp gdl rus => ?_⟩
    have z10 := z9.trans x8
    have gtp := x8.g _ _ gtp
    refine ⟨_, rfl, rfl, false, rfl, iteF ?_⟩
    refine ⟨_, rfl, _, rfl, dp, _, rfl, SqT.of (z10.sub _ _ gdp), fun z => absurd z (six1 _ _), fun _ sp nsp => ?_⟩
    rw [cut_tail]
    have w1 := Xt.new (M := No) (o := .tup [nV (ahd sg ts), wV (stp sg ts)]) z10.sub nsp
    refine ⟨_, rfl, _, rfl, tp, _, rfl, SqT.of (w1.sub _ _ (w1.g _ _ gtp)), fun z => absurd z (six1 _ _), fun _ sq nsq => ?_⟩
    rw [cut_tail]
    have w2 := w1.put (o := .tup [nV (ahd sg ts), wV (stp sg ts)]) nsq
    have g2 := w1.gnew (o := .tup [nV (ahd sg ts), wV (stp sg ts)]) nsq
    refine ⟨_, _, _, rfl, w2.sub, .inr ⟨sp, sq, _, _, rfl, rfl, by show 2 ≤ BIG; decide, .cons (Sim.leaf rfl) (.cons (Sim.leaf (leaf_wV _)) .nil), .inr ⟨g2 _ _ upd_same, upd_same⟩⟩, fun H9 x9 => ⟨true, rfl, iteF ?_⟩⟩
    have w3 := w2.trans x9
    have gdp3 := w3.g _ _ gdp
    have gtp3 := w3.g _ _ gtp
    refine ⟨_, rfl, dp, _, 0, _, rfl, rfl, SqT.of (w3.sub _ _ gdp3), atI_nat (j := 0) rfl, _, rfl, _, rfl, tp, _, 0, _, rfl, rfl, SqT.of (w3.sub _ _ gtp3), atI_nat (j := 0) rfl, _, rfl, tp, _, 1, _, rfl, rfl, SqT.of (w3.sub _ _ gtp3), atI_nat (j := 1) rfl, ?_⟩
    refine ⟨_, sg.res, _, kv, v, _, rfl, w3.sub, KRep.mono (z10.g.trans w3.g) hkv, FRep.mono (x8.g.trans w3.g) frv, hrt, hrd, fun p2 us2 G10 H10 x10 gp2 rus2 => ?_⟩
    have w4 := w3.trans x10
    have rus := Reps.mono w4.g rus
    have hlu := Paired.length rus
    have hl1 := len_tot sg.res ((ts.take (ahd sg ts)).map sg.vl)
    refine ⟨G10, .ref dl, .ref p2, rfl, w4.sub, .inr ⟨dl, p2, us, us2, rfl, rfl, by omega, pr_join (J := Sim G10 5) (I := fun w => wsz sg.res w ≤ BIG) (fun w x y i q1 q2 => (Sim.of_rep i q1 q2).le hrd) (fun w hw => Nat.le_trans (mem_tot hw) hrt) rus rus2, .inl ⟨w4.g _ _ gdl, gp2⟩⟩, fun H11 x11 => ?_⟩
    have zz := (z10.trans w4).trans x11
    exact q G10 H11 (xD.trans zz.weak) (t5.on zz)
end
end Bw
namespace Bw
open PySem PySem.Spec PyProof.Rows L2
open C8 (Cal pe_c)
def SGS : List Sg := [.add, .sub, .mul, .div, .rest, .less, .sameN, .both, .pair .num .num, .pick .num, .join .num, .keep .num, .cut .num, .first .num .num, .second .num .num, .not, .one .num, .upto, .long .num, .sum, .most, .sums, .flat .num]
theorem cs_ok : 6 * (1 + CS) ≤ CMAX := by decide +kernel
theorem cut_ints (ns : List Int) (lo hi : Option Int) : ∃ xs : List Int, cutV (ns.map V.int) lo hi = xs.map V.int := by
  unfold cutV
  simp only [← List.map_take, ← List.map_drop]
  exact ⟨_, rfl⟩
abbrev L1 : List V := [.str "add", .str "sub", .str "mul", .str "div", .str "rest", .str "less", .str "same", .str "both"]
abbrev L2' : List V := [.str "pair", .str "pick", .str "join", .str "keep", .str "cut", .str "first"]
abbrev L4 : List V := [.str "second", .str "not", .str "one", .str "upto", .str "long", .str "sum", .str "most"]
abbrev L6 : List V := [.str "sums", .str "flat"]
theorem sgs_eq : ((L1 ++ L2') ++ L4) ++ L6 = SGS.map fun s => V.str s.nm := by rfl
section
variable {P : Program} {w : World} {K : PySem.W.Frag} {mg : Str → Option Value} {base : Heap}
def spLaw (K : PySem.W.Frag) : Sp := fun vs H Q _ => ∃ (a : Addr) (ns : List Int), vs = [.ref a] ∧ SqL K H a (ns.map V.int) ∧ ∀ H', Q (.bl true) H'
abbrev N_law : List PySem.Str := ["script", "tape", "signs", "k"]
theorem sc_law : FnScope N_law ["script"] (defScope s_law) := ⟨rfl, rfl, rfl, by decide +kernel, rfl, by decide +kernel, by decide +kernel⟩
theorem law_ok {fd : FuncData} (T : Txt K mg) (F : FunD K d_law.name d_law.qual d_law.params d_law.body d_law.scope [] [] (He.fAd K ("law", none)) fd) (c_law_sign : Cal P w K mg base 14 "_law_sign" spSign []) (c_law_draw : Cal P w K mg base 2 "_law_draw" spDraw []) : FnOk P w K mg base C8.CX0 15 (He.fAd K ("law", none)) fd ["script"] (spLaw K) := by
  refine F.ok sc_law (fun vs H Q E h => ?_) (fun cdv A outer s H vs Q E hr h => ?_)
  · obtain ⟨a, ns, rfl, _⟩ := h
    rfl
  suffices hb : ∃ t, PSs (cxOf C8.CX0 P w K mg base N_law d_law.qual d_law.scope (He.fAd K ("law", none)) cdv A outer s H E).nox d_law.body t ∧ t { nx := fun _ H' => Q .non H', rt := Q } (start N_law vs) H from by
    obtain ⟨t, h, q⟩ := hb
    exact ⟨t, h.nox, q⟩
  obtain ⟨a, ns, rfl, hS, q⟩ := h
  refine ⟨_, (pss_cons (ps_set (i := 1) sc_law.nd rfl (.inl rfl) (pe_lst (pa_cons (e_list T.list (pe_slice s_list (pv 0) po_none (po_some pe_int))) (pa_cons pe_int (pa_cons pe_int (pa_cons pe_int pa_nil))))))
      (pss_cons (ps_set (i := 2) sc_law.nd rfl (.inl rfl) (pe_lst (pa_cons pe_str (pa_cons pe_str (pa_cons pe_str (pa_cons pe_str (pa_cons pe_str (pa_cons pe_str (pa_cons pe_str (pa_cons pe_str pa_nil))))))))))
      (pss_cons (ps_set (i := 2) sc_law.nd rfl (.inl rfl) (pe_op op_cat (pv 2) (pe_lst (pa_cons pe_str (pa_cons pe_str (pa_cons pe_str (pa_cons pe_str (pa_cons pe_str (pa_cons pe_str pa_nil)))))))))
      (pss_cons (ps_set (i := 2) sc_law.nd rfl (.inl rfl) (pe_op op_cat (pv 2) (pe_lst (pa_cons pe_str (pa_cons pe_str (pa_cons pe_str (pa_cons pe_str (pa_cons pe_str (pa_cons pe_str (pa_cons pe_str pa_nil))))))))))
      (pss_cons (ps_set (i := 2) sc_law.nd rfl (.inl rfl) (pe_op op_cat (pv 2) (pe_lst (pa_cons pe_str (pa_cons pe_str pa_nil)))))
      (pss_cons (ps_for PassesOwn.never rfl (pi_range1 rfl T.range (pa_cons (pe_op op_add pe_int (pe_callB (call_min2 rfl) rfl T.min (by decide +kernel) (pa_cons pe_int (pa_cons (e_len T.len (pv 0)) pa_nil)))) pa_nil)) (pg_name (i := 3) sc_law.nd rfl (.inl rfl)) (pss_one (ps_if (pt_not (pt_val (pe_c c_law_sign hr (by decide) rfl (pa_cons (pv 1) (pa_cons (pe_ix i_list (pv 2) (pe_c c_law_draw hr (by decide) rfl (pa_cons (pv 1) (pa_cons pe_int pa_nil))) (fun _ _ => rfl)) pa_nil))))) (pss_one (ps_ret pe_bl)) pss_nil)))
      (pss_one (ps_ret pe_bl)))))))), ?_⟩
  obtain ⟨xs, hxs⟩ := cut_ints ns none (some 63)
  refine ⟨_, rfl, _, rfl, a, _, rfl, hS, fun l nl => ⟨l, _, rfl, .inl (SqL.of upd_same), fun a0 na0 => ⟨by show 4 ≤ sizeLine; decide, fun t nt => ?_⟩⟩⟩
  rw [hxs] at na0 nt ⊢
  have sG0 : Same (fun _ => none : Hp) H := fun b x h => by cases h
  have x1 := Xt.loc (M := No) (o := .lst (xs.map V.int)) sG0 nl
  have x2 := x1.put (o := .lst (xs.map V.int)) na0
  have x3 := x2.trans (Xt.loc (M := No) (o := .lst [.ref a0, .int 0, .int 0, .int 0]) x2.sub nt)
  have ga : (upd (fun _ => none : Hp) a0 (.lst (xs.map V.int))) a0 = some (.lst (xs.map V.int)) := upd_same
  have gt := x2.sub.free nt
  have ht : (upd (upd (upd H l (.lst (xs.map V.int))) a0 (.lst (xs.map V.int))) t (.lst [.ref a0, .int 0, .int 0, .int 0])) t = some (.lst [.ref a0, .int 0, .int 0, .int 0]) := upd_same
  have hS := x3.same.seq hS
  generalize upd (fun _ => none : Hp) a0 (.lst (xs.map V.int)) = G at x3 ga gt
  generalize upd (upd (upd H l (.lst (xs.map V.int))) a0 (.lst (xs.map V.int))) t (.lst [.ref a0, .int 0, .int 0, .int 0]) = H1 at x3 ht hS
  have tp : Tp G H1 t 0 := ⟨gt, a0, xs, 0, 0, 0, ga, ht, Nat.le_refl _, trivial⟩
  have sG := x3.sub
  clear x1 x2 x3 ht gt ga
  have b23 : 23 ≤ sizeLine := by decide
  refine ⟨by show 8 ≤ sizeLine; omega, fun p1 n1 => ⟨_, rfl, by show 6 ≤ sizeLine; omega, fun p2 n2 => ⟨p1, p2, _, _, rfl, rfl, same_upd n2 _ _ upd_same, upd_same, by show 8 + 6 ≤ sizeLine; omega, fun p3 n3 => ⟨_, rfl, by show 7 ≤ sizeLine; omega, fun p4 n4 => ⟨p3, p4, _, _, rfl, rfl, same_upd n4 _ _ upd_same, upd_same, by show 14 + 7 ≤ sizeLine; omega, fun p5 n5 => ⟨_, rfl, by show 2 ≤ sizeLine; omega, fun p6 n6 => ⟨p5, p6, _, _, rfl, rfl, same_upd n6 _ _ upd_same, upd_same, by show 21 + 2 ≤ sizeLine; omega, fun p7 n7 => ?_⟩⟩⟩⟩⟩⟩⟩
  have y1 := Xt.loc (M := No) sG n1 (o := .lst L1)
  have y2 := y1.trans (Xt.loc (M := No) (o := .lst L2') y1.sub n2)
  have y3 := y2.trans (Xt.loc (M := No) (o := .lst (L1 ++ L2')) y2.sub n3)
  have y4 := y3.trans (Xt.loc (M := No) (o := .lst L4) y3.sub n4)
  have y5 := y4.trans (Xt.loc (M := No) (o := .lst ((L1 ++ L2') ++ L4)) y4.sub n5)
  have y6 := y5.trans (Xt.loc (M := No) (o := .lst L6) y5.sub n6)
  have y7 := y6.trans (Xt.loc (M := No) (o := .lst (((L1 ++ L2') ++ L4) ++ L6)) y6.sub n7)
  have h7 : (upd (upd (upd (upd (upd (upd (upd H1 p1 (.lst L1)) p2 (.lst L2')) p3 (.lst (L1 ++ L2'))) p4 (.lst L4)) p5 (.lst ((L1 ++ L2') ++ L4))) p6 (.lst L6)) p7 (.lst (((L1 ++ L2') ++ L4) ++ L6))) p7 = some (.lst (((L1 ++ L2') ++ L4) ++ L6)) := upd_same
  refine ⟨_, rfl, a, _, rfl, .inl (y7.same.seq hS), _, _, rfl, _, _, rfl, rfl, ?_⟩
  have t7 := tp.on y7
  have hS := y7.same.seq hS
  generalize (upd (upd (upd (upd (upd (upd (upd H1 p1 (.lst L1)) p2 (.lst L2')) p3 (.lst (L1 ++ L2'))) p4 (.lst L4)) p5 (.lst ((L1 ++ L2') ++ L4))) p6 (.lst L6)) p7 (.lst (((L1 ++ L2') ++ L4) ++ L6))) = H7 at y7 h7 t7 hS
  rw [sgs_eq] at h7
  clear n1 n2 n3 n4 n5 n6 n7 y1 y2 y3 y4 y5 y6
  have hcs := cs_ok
  have hC : CMAX = 1000000000000000000 := rfl
  generalize hCS : CS = C at hcs
  obtain ⟨N, hN, hN6⟩ : ∃ N : Nat, (1 : Int) + (if ((ns.map V.int).length : Int) < 5 then ((ns.map V.int).length : Int) else 5) = (N : Int) ∧ N ≤ 6 := ⟨((1 : Int) + (if ((ns.map V.int).length : Int) < 5 then ((ns.map V.int).length : Int) else 5)).toNat, by split <;> omega, by split <;> omega⟩
  have hmul : ∀ i, i ≤ N → i * (1 + C) ≤ 6 * (1 + C) := fun i hi => Nat.mul_le_mul_right _ (by omega)
  refine ⟨(N : Int), by rw [← hN], by omega, by omega, ?_⟩
  refine for_it (n := N) walk_range (fun i σ H' => ∃ (y : Option V) (G' : Hp), σ = [some (.ref a), some (.ref t), some (.ref p7), y] ∧ Xt (At t) G H7 G' H' ∧ Tp G' H' t (0 + i * (1 + C))) ⟨none, G, rfl, Xt.refl y7.sub, t7.le (by omega)⟩ (fun _ _ _ _ _ => trivial) (fun i v σ H' H'' hi hv hY => ?_) fun σ H' hv => ?_
  · obtain ⟨y, G', rfl, e, t8⟩ := hv
    obtain ⟨rfl, rfl⟩ := hY
    have hm := hmul (i + 1) (by omega)
    rw [Nat.succ_mul] at hm
    have n7 : p7 ≠ t := fun z => by
      obtain ⟨_, b0, zs, spot, rest, left, _, hz, _⟩ := t7
      rw [← z, h7] at hz
      have := HO.lst.inj (Option.some.inj hz)
      cases this
    have h8 := e.old p7 _ n7 h7
    refine ⟨_, rfl, _, rfl, _, rfl, G', t, _, 23, rfl, e.sub, t8, by omega, by decide, by decide, fun r H9 x9 t9 r0 r1 => ?_⟩
    have h9 := x9.old p7 _ n7 h8
    obtain ⟨n, rfl⟩ : ∃ n : Nat, r = n := ⟨r.toNat, by omega⟩
    have hlen : SGS.length = 23 := rfl
    obtain ⟨s0, hs0⟩ : ∃ s0, SGS[n]? = some s0 := ⟨_, List.getElem?_eq_getElem (by omega)⟩
    refine ⟨p7, _, (n : Int), .str s0.nm, rfl, rfl, SqL.of h9, atI_nat (by rw [List.getElem?_map, hs0]; rfl), ?_⟩
    refine ⟨G', t, _, s0, rfl, x9.sub, t9, by rw [hCS]; omega, fun G10 H10 x10 t10 => ⟨true, rfl, iteF ?_⟩⟩
    rw [hCS] at t10
    exact ⟨_, G10, rfl, (e.trans x9).trans x10, t10.le (by rw [Nat.succ_mul]; omega)⟩
  · exact q H'
end
end Bw
namespace Bw
open PySem PySem.Spec PyProof.Rows L2
open C8 (Cal pe_c)
theorem all_ok {P : Program} {w : World} {K : PySem.W.Frag} {mg : Str → Option Value} {base : Heap} {fd : FuncData} (T : Txt K mg) (F : FunD K d_law.name d_law.qual d_law.params d_law.body d_law.scope [] [] (He.fAd K ("law", none)) fd) :
    FnOk P w K mg base C8.CX0 15 (He.fAd K ("law", none)) fd ["script"] (spLaw K) := by
  have iw : Cal P w K mg base 1 "is_whole" spWhole [] := c_is_whole T
  have inu : Cal P w K mg base 2 "is_number" spNumber [] := c_is_number T iw
  have iwo : Cal P w K mg base 3 "is_worth" (spWorth K) [] := c_is_worth T inu
  have mi : Cal P w K mg base 6 "many_in" (spMany K 5) [] := c_many_in T 5
  have pa : Cal P w K mg base 1 "parted" spParted [] := c_parted T
  have fo : Cal P w K mg base 6 "flat_of" (spFlatOf K 5) [] := c_flat_of T 5
  have be : Cal P w K mg base 1 "begins" spBegins [] := c_begins T
  have nw : Cal P w K mg base 2 "numbers_within" spNw [] := c_numbers_within T be
  have ch : Cal P w K mg base 8 "chosen" (spChosen K 5) [] := c_chosen T nw 5
  have ta : Cal P w K mg base 9 "taken" (spChosen K 5) [] := c_taken T mi ch
  have fi : Cal P w K mg base 9 "first_ones" (spFirst K 5) [] := c_first_ones T ch
  have kt : Cal P w K mg base 9 "kept_taking" (spKept K 5) [] := c_kept_taking T ch
  have bt : Cal P w K mg base 6 "behind_taking" (spBehind K 5) [] := c_behind_taking T 5
  have rs : Cal P w K mg base 1 "reckoned_stops" spReck [] := c_reckoned_stops T
  have fw : Cal P w K mg base 1 "far_words" spFarWords [] := c_far_words T
  have sw : Cal P w K mg base 4 "sum_word" spSumWord [] := c_sum_word T iwo
  have cw : Cal P w K mg base 1 "cut_word" spCutWord [] := c_cut_word T
  have fs : Cal P w K mg base 1 "first_stop" spFirstStop [] := c_first_stop T
  have w2 : Cal P w K mg base 2 "words_of_two" spWords2 [] := c_words_of_two T fw pa cw
  have wo : Cal P w K mg base 5 "words_of" spWordsOf [] := c_words_of T rs iwo pa sw fw w2
  have cow : Cal P w K mg base 1 "counted_wide" spCounted [] := c_counted_wide T
  have sa : Cal P w K mg base 1 "summed_ahead" spAhead [] := c_summed_ahead T
  have on : Cal P w K mg base 2 "of_numbers" spOfNumbers [] := c_of_numbers T pa sa
  have op : Cal P w K mg base 3 "one_parted" spOne1 [] := c_one_parted T cow pa on
  have pw : Cal P w K mg base 10 "picked_wide" (spPicked K 5) [] := c_picked_wide T ta
  have jo : Cal P w K mg base 10 "joined" (spJoined K 5) [] := c_joined T ta bt
  have kw : Cal P w K mg base 10 "kept_within" (spKeptW K 5) [] := c_kept_within T pa kt
  have tw : Cal P w K mg base 11 "two_parted" (spTwo K 5) [] := c_two_parted T pw jo kw rs
  have ws : Cal P w K mg base 12 "wide_step" (spWide K 5) [] := c_wide_step T fs wo fi op tw
  have ig : Cal P w K mg base 1 "is_great" spGreat [] := c_is_great T
  have nd : Cal P w K mg base 2 "numbered" spNumbered [] := c_numbered T ig
  have di : Cal P w K mg base 1 "divided" spDivided [] := c_divided T
  have rks : Cal P w K mg base 3 "reckoned_single" spReckS [] := c_reckoned_single T nd di
  have bg : Cal P w K mg base 2 "beginnings" spBeginnings [] := c_beginnings T ig
  have su : Cal P w K mg base 3 "summed" spSummed [] := c_summed T bg
  have gr : Cal P w K mg base 1 "greatest" spGreatest [] := c_greatest T
  have cs : Cal P w K mg base 1 "counted_single" spCountedS [] := c_counted_single T
  have bo : Cal P w K mg base 1 "bounded" spBounded [] := c_bounded T
  have bs : Cal P w K mg base 2 "behind_single" spBehindS [] := c_behind_single T bo
  have ps : Cal P w K mg base 1 "picked_single" spPickedS [] := c_picked_single T
  have ks : Cal P w K mg base 1 "kept_single" spKeptS [] := c_kept_single T
  have cu : Cal P w K mg base 1 "cut" spCutS [] := c_cut T
  have d1 : Cal P w K mg base 4 "done_one" spDone1 [] := c_done_one T cs gr bs su
  have d2 : Cal P w K mg base 4 "done_two" spDone2 [] := c_done_two T ps bo ks cu rks
  have dn : Cal P w K mg base 5 "done_once" spDone [] := c_done_once T d1 d2
  have wof : Cal P w K mg base 7 "worths_of" (spWorthsBy K 5) [] := c_worths_of T pa 5
  have si : Cal P w K mg base 6 "size" (spSize 5) [] := c_size T 5
  have cp : Cal P w K mg base 6 "copied" (spCopied 5) [] := c_copied T 5
  have wi : Cal P w K mg base 7 "width_of" (spWidth 5) [] := c_width_of T si
  have na : Cal P w K mg base 1 "named" (spNamed K) [] := c_named T
  have rd : Cal P w K mg base 12 "read" (spRead 5) [] := c_read T na cp (c_worthS T (c_worthN T) (c_parts T) dn (c_Reading_note T) wi)
  have dr : Cal P w K mg base 2 "_law_draw" spDraw [] := c_law_draw T
  have ln : Cal P w K mg base 3 "_law_number" spLawNum [] := c_law_number T dr
  have lk : Cal P w K mg base 5 "_law_kind" (spKind K 3) [] := c_law_kind T dr 2
  have lw : Cal P w K mg base 8 "_law_worth" (spLawWorth K 5) [.bl true] := (c_law_worth T ln dr 4).2
  have la3 : Cal P w K mg base 3 "_law_alike" (spAlike 2) [] := c_law_alike T 2
  have la7 : Cal P w K mg base 7 "_law_alike" (spAlike 6) [] := c_law_alike T 6
  have k1 : Cal P w K mg base 1 "_law_kinds_of_one" (spKindsOne K) [] := c_law_kinds_of_one T
  have lks : Cal P w K mg base 6 "_law_kinds" (spKinds K) [] := c_law_kinds T lk dr k1
  have lg : Cal P w K mg base 4 "_law_long" (spLong K) [] := c_law_long T dr ln
  have th : Cal P w K mg base 9 "_law_thing" (spThing K) [] := c_law_thing T lw dr lg
  have lr : Cal P w K mg base 13 "_law_readings" spReadings [] := c_law_readings T rd la3
  have ls : Cal P w K mg base 14 "_law_sign" spSign [] := c_law_sign T lks dr th fo ws lr la7 wof
  exact law_ok T F ls dr
theorem facts {P : Program} {w : World} {K : PySem.W.Frag} {h : Heap} {mg : Str → Option Value} {f : Addr} (X : K.In h) (G : h.Ns mainGlobals mg) (hfa : mg ("law" : Str) = some (.ref f)) (c : SaysM K) :
    ∃ fd : FuncData, (∀ (s : Shared) (v : Value), BindsTo s fd ⟨[v], []⟩ [("script", v)]) ∧ ∀ base : Heap, K.In base → base.Ns mainGlobals mg → FnOk P w K mg base C8.CX0 15 f fd ["script"] (spLaw K) := by
  have T := txt_of X G c
  obtain ⟨fd, F⟩ := T.d d_law (mem_fn 53)
  have F : FunD K d_law.name d_law.qual d_law.params d_law.body d_law.scope [] [] (He.fAd K ("law", none)) fd := F
  have e := hfa.symm.trans (T.glo "law" (mem_fa 53))
  cases e
  have b := FunD.bindsA (ps := ["script"]) F fun _ _ _ _ _ _ us hl => match us, hl with | [_], _ => rfl
  exact ⟨fd, fun s v => b s [v] rfl, fun base _ _ => all_ok T F⟩
end Bw
open PySem PySem.W PySem.Calls PyProof.Rows
theorem PySem.Challenge.cw_broadrow_k46_whole_wide_steps_are_readin_holds : PySem.Challenge.rw_broadrow_k46_whole_wide_steps_are_readin.Holds := by
  w_on; o_law
  refine HandSHeadRun.head_any (r := OpenLaw.row PySem.Challenge.rw_broadrow_k46_whole_wide_steps_are_readin) (q := view (OpenLaw.row PySem.Challenge.rw_broadrow_k46_whole_wide_steps_are_readin).prog [102]) (H := Bw.hk) (ob := Bw.ob) (M := 4000) (loose := Bw.loose) (d := HandSHeadRun.topDef (OpenLaw.row PySem.Challenge.rw_broadrow_k46_whole_wide_steps_are_readin).prog 102) (kwd := []) Bw.ob_eq
    (by kernel_rfl) (fun s => by kernel_rfl) Bw.run (by kernel_rfl) (by kernel_rfl) (by kernel_rfl) (by rfl) (by first | assumption | decide +kernel) (by decide +kernel) ⟨rfl, rfl, rfl, rfl, rfl, by decide +kernel⟩ ?hw ?hc
  case hw => w_witness2
  case hc =>
    refine L2.walk_ofE (l := PySem.Challenge.rw_broadrow_k46_whole_wide_steps_are_readin) (n := 63) (k := 15) (x := "script") (CX := C8.CX0) rfl (by decide) (by kernel_rfl) ⟨rfl, by decide, by decide⟩ ?F (fun _ _ _ _ z => z)
    intro w mg fa h Y G hmg0
    obtain ⟨K, KX, c⟩ := Y
    have hmg : mg ("law" : PySem.Str) = some (.ref fa) := by
      have e : (HandSHeadRun.topDef (OpenLaw.row PySem.Challenge.rw_broadrow_k46_whole_wide_steps_are_readin).prog 102).name = ("law" : PySem.Str) := by kernel_rfl
      rw [← e]
      exact hmg0
    obtain ⟨fd, hb, hF⟩ := Bw.facts (P := (PySem.Challenge.rw_broadrow_k46_whole_wide_steps_are_readin).prog) (w := w) KX G hmg c
    exact ⟨K, fd, Bw.spLaw K, KX, hb, fun H a ns hl _ hS => ⟨a, ns, rfl, hS, fun _ => rfl⟩, hF⟩
