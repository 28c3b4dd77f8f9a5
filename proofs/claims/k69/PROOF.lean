import PyProof.Rows.All
import Wide.All
import OpenK.AllK
import Wide.FinOn
import KE.KStateDown
import KE.GoesMore
import KE.KIsAll
import KE.KExcIs
import PyProof.P3In
import Lean
import HandS.ForMost
import HandS.ForExc
import HandS.More
import HandS.Defaults
import HandS.Deep
import HandS.TupAny
import HandS.TupMul
import HandS.IsInst
import HandS.ExcIs
import HandS.ExcInit
import HandS.ExcField
import HandS.ClsMeth
import HandS.SetFor
import HandS.Strs
import HandS.Star
import HandS.Sort
import HandS.Conv
import HandS.Evl
import HandS.Flow
import HandS.Walk
import HandS.Head0
import HandS.Head1
import HandS.Head2
import HandS.HeadEnd
import HandS.HeadHook1
import HandS.HeadHook2
import HandS.HeadHook3
import HandS.HeadHook4
import PySem.Challenge.RW_choosersrow_k69_whole_thresholds
set_option Elab.async false
set_option linter.all false
set_option maxRecDepth 100000
set_option maxHeartbeats 4000000
namespace K69
open PySem PySem.Spec PyProof.Rows L2
/-! ### the text by places -/
def topS (i : Nat) : Stmt := PySem.Challenge.pw_choosersrow_k69_whole_thresholds.main.body.getD i (.Pass ⟨0, 0, 0, 0⟩)
/-! ### the head: the names, what is looked at -/
def nm0 : List PySem.Str := ["_wall", "__name__", "ChoosersError", "InvalidText", "InvalidTerm", "InvalidAim", "InvalidGame", "InvalidContext", "OutOfRange", "SizeMismatch", "TooLarge", "NotDuel", "count_choices", "choice_index", "MOST_AIM_LEVELS", "MOST_RANK", "MOST_SMALL_OPTIONS", "MOST_CONTEXTS", "LENGTHS", "is_small", "is_below", "is_context", "check_numbers", "check_ascending", "check_places"]
def nm1 : List PySem.Str := ["check_rows", "check_head", "check_aim", "LETTERS", "DIGITS", "MOST_LETTERS", "MOST_DIGITS", "MOST_NUMBER", "MOST_DEPTH", "is_word", "is_number", "write_part", "write_term", "atom_end", "atom", "read_term", "whole", "MOST_OPTIONS", "MOST_OUTCOMES", "ranked", "counted", "simple_good", "paired_good", "good_options", "Aim"]
def nm2 : List PySem.Str := ["require_size", "MOST_PLAYERS", "Node", "Game", "check_tree", "scan_tree", "dense_ranks", "opposite_ranks", "node_sides", "told_behind", "node_winners", "root_winner", "duel_winner", "threshold_tree", "threshold_duel", "child_lots", "good_contexts", "option_lots", "walk_lots", "value_lots", "game_value", "_law_start", "_law_pick", "_law_same", "_law_dense"]
def nm3 : List PySem.Str := ["_law_spaced", "_law_sided_tree", "_law_value", "_law_threshold", "_law_count", "_law_with_aim", "_law_wrong_aim", "_law_refused", "_law_holds"]
def names : List PySem.Str := nm0 ++ nm1 ++ nm2 ++ nm3
def hfn0 : List He.DefD := [⟨("count_choices", none), "count_choices", "count_choices", defArgs (topS 13), defBody (topS 13), defScope (topS 13), [], []⟩, ⟨("is_small", none), "is_small", "is_small", defArgs (topS 21), defBody (topS 21), defScope (topS 21), [], []⟩, ⟨("is_below", none), "is_below", "is_below", defArgs (topS 22), defBody (topS 22), defScope (topS 22), [], []⟩, ⟨("check_numbers", none), "check_numbers", "check_numbers", defArgs (topS 24), defBody (topS 24), defScope (topS 24), [], []⟩, ⟨("check_head", none), "check_head", "check_head", defArgs (topS 28), defBody (topS 28), defScope (topS 28), [], []⟩, ⟨("check_aim", none), "check_aim", "check_aim", defArgs (topS 29), defBody (topS 29), defScope (topS 29), [], []⟩, ⟨("ranked", none), "ranked", "ranked", defArgs (topS 48), defBody (topS 48), defScope (topS 48), [], []⟩, ⟨("simple_good", none), "simple_good", "simple_good", defArgs (topS 50), defBody (topS 50), defScope (topS 50), [], []⟩, ⟨("good_options", none), "good_options", "good_options", defArgs (topS 52), defBody (topS 52), defScope (topS 52), [], []⟩, ⟨("check_tree", none), "check_tree", "check_tree", defArgs (topS 59), defBody (topS 59), defScope (topS 59), [], []⟩]
def hfn1 : List He.DefD := [⟨("scan_tree", none), "scan_tree", "scan_tree", defArgs (topS 60), defBody (topS 60), defScope (topS 60), [], []⟩, ⟨("dense_ranks", none), "dense_ranks", "dense_ranks", defArgs (topS 62), defBody (topS 62), defScope (topS 62), [], []⟩, ⟨("opposite_ranks", none), "opposite_ranks", "opposite_ranks", defArgs (topS 63), defBody (topS 63), defScope (topS 63), [], []⟩, ⟨("node_sides", none), "node_sides", "node_sides", defArgs (topS 65), defBody (topS 65), defScope (topS 65), [], []⟩, ⟨("told_behind", none), "told_behind", "told_behind", defArgs (topS 66), defBody (topS 66), defScope (topS 66), [], []⟩, ⟨("node_winners", none), "node_winners", "node_winners", defArgs (topS 67), defBody (topS 67), defScope (topS 67), [], []⟩, ⟨("root_winner", none), "root_winner", "root_winner", defArgs (topS 68), defBody (topS 68), defScope (topS 68), [], []⟩, ⟨("duel_winner", none), "duel_winner", "duel_winner", defArgs (topS 69), defBody (topS 69), defScope (topS 69), [], []⟩, ⟨("threshold_tree", none), "threshold_tree", "threshold_tree", defArgs (topS 70), defBody (topS 70), defScope (topS 70), [], []⟩, ⟨("threshold_duel", none), "threshold_duel", "threshold_duel", defArgs (topS 71), defBody (topS 71), defScope (topS 71), [], []⟩]
def hfn2 : List He.DefD := [⟨("child_lots", none), "child_lots", "child_lots", defArgs (topS 73), defBody (topS 73), defScope (topS 73), [], []⟩, ⟨("good_contexts", none), "good_contexts", "good_contexts", defArgs (topS 74), defBody (topS 74), defScope (topS 74), [], []⟩, ⟨("option_lots", none), "option_lots", "option_lots", defArgs (topS 75), defBody (topS 75), defScope (topS 75), [], []⟩, ⟨("walk_lots", none), "walk_lots", "walk_lots", defArgs (topS 76), defBody (topS 76), defScope (topS 76), [], []⟩, ⟨("value_lots", none), "value_lots", "value_lots", defArgs (topS 77), defBody (topS 77), defScope (topS 77), [], []⟩, ⟨("game_value", none), "game_value", "game_value", defArgs (topS 78), defBody (topS 78), defScope (topS 78), [], []⟩, ⟨("_law_start", none), "_law_start", "_law_start", defArgs (topS 80), defBody (topS 80), defScope (topS 80), [], []⟩, ⟨("_law_pick", none), "_law_pick", "_law_pick", defArgs (topS 81), defBody (topS 81), defScope (topS 81), [], []⟩, ⟨("_law_same", none), "_law_same", "_law_same", defArgs (topS 82), defBody (topS 82), defScope (topS 82), [], []⟩, ⟨("_law_dense", none), "_law_dense", "_law_dense", defArgs (topS 83), defBody (topS 83), defScope (topS 83), [], []⟩]
def hfn3 : List He.DefD := [⟨("_law_spaced", none), "_law_spaced", "_law_spaced", defArgs (topS 84), defBody (topS 84), defScope (topS 84), [], []⟩, ⟨("_law_sided_tree", none), "_law_sided_tree", "_law_sided_tree", defArgs (topS 85), defBody (topS 85), defScope (topS 85), [], []⟩, ⟨("_law_value", none), "_law_value", "_law_value", defArgs (topS 86), defBody (topS 86), defScope (topS 86), [], []⟩, ⟨("_law_threshold", none), "_law_threshold", "_law_threshold", defArgs (topS 87), defBody (topS 87), defScope (topS 87), [], []⟩, ⟨("_law_count", none), "_law_count", "_law_count", defArgs (topS 88), defBody (topS 88), defScope (topS 88), [], []⟩, ⟨("_law_with_aim", none), "_law_with_aim", "_law_with_aim", defArgs (topS 89), defBody (topS 89), defScope (topS 89), [], []⟩, ⟨("_law_wrong_aim", none), "_law_wrong_aim", "_law_wrong_aim", defArgs (topS 90), defBody (topS 90), defScope (topS 90), [], []⟩, ⟨("_law_refused", none), "_law_refused", "_law_refused", defArgs (topS 91), defBody (topS 91), defScope (topS 91), [], []⟩, ⟨("_law_holds", none), "_law_holds", "_law_holds", defArgs (topS 92), defBody (topS 92), defScope (topS 92), [], []⟩, ⟨("law", none), "law", "law", defArgs (topS 93), defBody (topS 93), defScope (topS 93), [], []⟩]
def hfn4 : List He.DefD := [⟨("Aim", some "__init__"), "__init__", "Aim.__init__", defArgs (inClass (topS 53) 0), defBody (inClass (topS 53) 0), defScope (inClass (topS 53) 0), [], []⟩, ⟨("Node", some "__init__"), "__init__", "Node.__init__", defArgs (inClass (topS 57) 0), defBody (inClass (topS 57) 0), defScope (inClass (topS 57) 0), [], []⟩, ⟨("Game", some "__init__"), "__init__", "Game.__init__", defArgs (inClass (topS 58) 3), defBody (inClass (topS 58) 3), defScope (inClass (topS 58) 3), [], []⟩, ⟨("NotDuel", some "__init__"), "__init__", "NotDuel.__init__", defArgs (inClass (topS 11) 0), defBody (inClass (topS 11) 0), defScope (inClass (topS 11) 0), [], []⟩]
def hfn : List He.DefD := hfn0 ++ (hfn1 ++ (hfn2 ++ (hfn3 ++ (hfn4))))
def hfa0 : List He.Fa := [.free "len", .free "isinstance", .free "tuple", .free "max", .free "min", .free "list", .free "int", .free "any", .free "all", .free "sum", .free "sorted", .free "set", .free "enumerate", .free "range", .free "str", .free "bool", .int "MOST_AIM_LEVELS" 6, .int "MOST_RANK" 9, .int "MOST_SMALL_OPTIONS" 8, .int "MOST_CONTEXTS" 256, .int "MOST_OPTIONS" 64, .int "MOST_OUTCOMES" 4, .int "MOST_PLAYERS" 8, .glo "Aim", .glo "Node"]
def hfa1 : List He.Fa := [.glo "Game", .glo "ChoosersError", .glo "OutOfRange", .glo "SizeMismatch", .glo "NotDuel", .glo "InvalidAim", .glo "LENGTHS", .glo "count_choices", .glo "is_small", .glo "is_below", .glo "check_numbers", .glo "check_head", .glo "check_aim", .glo "ranked", .glo "simple_good", .glo "good_options", .glo "check_tree", .glo "scan_tree", .glo "dense_ranks", .glo "opposite_ranks", .glo "node_sides", .glo "told_behind", .glo "node_winners", .glo "root_winner", .glo "duel_winner"]
def hfa2 : List He.Fa := [.glo "threshold_tree", .glo "threshold_duel", .glo "child_lots", .glo "good_contexts", .glo "option_lots", .glo "walk_lots", .glo "value_lots", .glo "game_value", .glo "_law_start", .glo "_law_pick", .glo "_law_same", .glo "_law_dense", .glo "_law_spaced", .glo "_law_sided_tree", .glo "_law_value", .glo "_law_threshold", .glo "_law_count", .glo "_law_with_aim", .glo "_law_wrong_aim", .glo "_law_refused", .glo "_law_holds", .glo "law", .cls "Aim", .cls "Node", .cls "Game"]
def hfa3 : List He.Fa := [.mkr "Aim", .mkr "Node", .mkr "Game", .noat "Aim" "term", .noat "Aim" "options", .noat "Aim" "outcomes", .noat "Node" "way", .noat "Node" "player", .noat "Node" "aim", .noat "Node" "children", .noat "Game" "outcomes", .noat "Game" "tree", .noat "Game" "nodes", .noat "Game" "ends"]
def hfa : List He.Fa := hfa0 ++ (hfa1 ++ (hfa2 ++ (hfa3)))
def hts : List He.Tab := [(fun K => He.ga K "LENGTHS", ["any", "best", "second", "most", "fewest", "fixed", "like", "unlike", "among", "only", "table", "either", "both", "else", "not", "first", "recode", "reorder"])]
def lw : List (Str × He.Dv) := [("most", .int 1), ("any", .int 1), ("first", .int 2), ("best", .int 2), ("second", .int 2), ("not", .int 2)]
def cvB (K : PySem.W.Frag) (f : Str) (i : Int) : Bool := match PySem.W.findCls K (.ref (He.ga K "Game")) (.type "type") f with
  | some (.val u) => He.relB (.int i) u
  | _ => false
def oexB (K : PySem.W.Frag) (C : Addr) : Bool := match K.lookup C with
  | some ⟨.type "type", _, .cls cd, sl⟩ => (match cd.mro, sl.toList with
    | .ref C' :: bm, [_, _, _, _, some (.builtin n), _] => C' == C && n == "ValueError.__new__" && !cd.hasDel && cd.hasDict && PySem.HandSPX.refsVE bm
    | _, _ => false)
  | _ => false
def eqB (a b : Option Bool) : Bool := decide (a = b)
def xcB (K : PySem.W.Frag) (D : Addr) : Bool := He.eqO (PySem.W.findIn K (.ref D) "__getattribute__") (some (some (.builtin "BaseException.__getattribute__"))) && (He.eqO (PySem.W.findIn K (.ref D) "__getattr__") (some none) && (eqB (PySem.W.subIn K (.ref D) (.type "BaseException")) (some true) && (PySem.W.hasDictIn K D &&
  (He.eqO (PySem.W.findIn K (.ref D) "__class__") (some (some (.builtin "object.__class__"))) && (He.eqO (PySem.W.specialIn K (.builtin "object.__class__") "__get__") (some (some (.builtin "getset_descriptor.__get__"))) && (eqB (PySem.W.takesIn K (.builtin "object.__class__")) (some true) && eqB (PySem.W.mroIn K D (.type "object")) (some true)))))))
def hexA (K : PySem.W.Frag) : Bool := He.valsB K (He.ga K "LENGTHS") lw && (PySem.W.readsIn K (He.ga K "Game") (.type "type") && (He.eqO (PySem.W.specialIn K (.ref (He.ga K "Game")) "__getattribute__") (some (some (.builtin "type.__getattribute__"))) && (cvB K "MOST_NODES" 30 && (cvB K "MOST_LEAVES" 60 && cvB K "MOST_LEVELS" 12))))
def hexB (K : PySem.W.Frag) : Bool := PySem.W.excIn K (He.ga K "OutOfRange") [.type "ValueError", .type "Exception", .type "BaseException", .type "object"] "ValueError.__new__" && (PySem.W.keepIn K (.ref (He.ga K "OutOfRange")) && (eqB (PySem.W.subIn K (.ref (He.ga K "OutOfRange")) (.type "BaseException")) (some true) && decide (PySem.W.typeIn K (.ref (He.ga K "OutOfRange")) = some (.type "type"))))
def hexC (K : PySem.W.Frag) : Bool := oexB K (He.ga K "NotDuel") && (He.eqO (PySem.W.findIn K (.ref (He.ga K "NotDuel")) "__setattr__") (some (some (.builtin "object.__setattr__"))) && (eqB (PySem.W.subIn K (.ref (He.ga K "NotDuel")) (.type "BaseException")) (some true) && (decide (PySem.W.typeIn K (.ref (He.ga K "NotDuel")) = some (.type "type")) && (PySem.W.keepIn K (.ref (He.ga K "NotDuel")) &&
  (He.eqO (PySem.W.findIn K (.ref (He.ga K "NotDuel")) "__init__") (some (some (.ref (He.ma K (He.ga K "NotDuel") "__init__")))) && (decide (PySem.W.typeIn K (.ref (He.ma K (He.ga K "NotDuel") "__init__")) = some (.type "function")) && (He.eqO (PySem.W.findIn K (.ref (He.ga K "NotDuel")) "index") (some none) && xfB K (He.ga K "NotDuel"))))))))
def kiB (K : PySem.W.Frag) (x y : Str) (b : Bool) : Bool := eqB (PySem.W.kitOne K (.ref (He.ga K x)) (.ref (He.ga K y))) (some b)
def hexD (K : PySem.W.Frag) : Bool := xcB K (He.ga K "NotDuel") && (xcB K (He.ga K "OutOfRange") && (eqB (PySem.W.exmOne K (.ref (He.ga K "NotDuel")) (.ref (He.ga K "ChoosersError"))) (some true) && (eqB (PySem.W.exmOne K (.ref (He.ga K "OutOfRange")) (.ref (He.ga K "ChoosersError"))) (some true) &&
  (kiB K "NotDuel" "NotDuel" true && (kiB K "NotDuel" "OutOfRange" false && (kiB K "NotDuel" "SizeMismatch" false && (kiB K "OutOfRange" "NotDuel" false && (kiB K "OutOfRange" "OutOfRange" true && kiB K "OutOfRange" "SizeMismatch" false))))))))
def hex (K : PySem.W.Frag) : Bool := hexA K && (hexB K && (hexC K && hexD K))
abbrev R : PySem.W.OpenRow := PySem.W.OpenLaw.row PySem.Challenge.rw_choosersrow_k69_whole_thresholds
abbrev AlM : Type := He.AlT × Bool
/-- what is looked at: all that the module's names reach, and the table of what is there from the start -/
def kM (g : Addr → Option Obj) : PySem.W.Frag := He.frG g (cStatics :: He.asD g 4)
def obsM (g : Addr → Option Obj) : AlM := (He.obsT hfa hfn hts (kM g), hex (kM g))
structure SaysM (w : World) (K : PySem.W.Frag) : Prop where
  t : He.SaysT hfa hfn hts w K
  more : hex K = true
def hk : PySem.W.Hook where
  α := AlM
  obs := fun s => obsM s.heap.get?
  val := fun w => (He.valT hfn hts w, true)
  says := fun w h => ∃ K : PySem.W.Frag, K.In h ∧ SaysM w K
  of := fun _ _ e => ⟨_, He.frG_in, congrArg (fun z : AlM => z.1) e, congrArg (fun z : AlM => z.2) e⟩
  keeps := fun _ _ _ ⟨K, hK, c⟩ k => ⟨K, PySem.W.Frag.In.keeps hK k, c⟩
def ob (s : PySem.W.SharedT) : AlM := obsM (HandSHeadRun.getT s)
theorem ob_eq (s : PySem.W.SharedT) : ob s = hk.obs s.abs := by
  have e : HandSHeadRun.getT s = s.abs.heap.get? := funext (HandSHeadRun.getT_eq s)
  show obsM (HandSHeadRun.getT s) = obsM s.abs.heap.get?
  rw [e]
theorem run_f (w : World) : HandSHeadRun.RunEq R (PySem.W.view R.prog [93]) hk ob 20000 names (w.withFollow "special-get-raises" false) := by
  intro os
  kernel_rfl
theorem run_t (w : World) : HandSHeadRun.RunEq R (PySem.W.view R.prog [93]) hk ob 20000 names (w.withFollow "special-get-raises" true) := by
  intro os
  kernel_rfl
theorem run (w : World) : HandSHeadRun.RunEq R (PySem.W.view R.prog [93]) hk ob 20000 names w := PySem.W.byRow2 "special-get-raises" run_f run_t w
end K69
namespace K69
/-! plain mathematics: strictly rising lists, dense ranks -/
theorem countP_lt_of {α : Type} {p q : α → Bool} : ∀ {l : List α}, (∀ a ∈ l, p a = true → q a = true) → (∃ a ∈ l, q a = true ∧ p a = false) → l.countP p < l.countP q
  | [], _, h => by
    obtain ⟨a, ha, _⟩ := h
    cases ha
  | x :: l, h, hx => by
    have hm : l.countP p ≤ l.countP q := List.countP_mono_left fun a ha => h a (List.mem_cons_of_mem _ ha)
    obtain ⟨a, ha, hq, hp⟩ := hx
    rcases List.mem_cons.mp ha with e | ha'
    · subst e
      rw [List.countP_cons, List.countP_cons, if_pos hq, if_neg (by rw [hp]; decide)]
      omega
    · have ih := countP_lt_of (l := l) (fun a ha => h a (List.mem_cons_of_mem _ ha)) ⟨a, ha', hq, hp⟩
      have h1 := h x List.mem_cons_self
      rw [List.countP_cons, List.countP_cons]
      cases e1 : p x with
      | true =>
        rw [h1 e1]
        simp
        omega
      | false =>
        cases e2 : q x <;> simp <;> omega

/-- strictly rising -/
abbrev Up (l : List Nat) : Prop := l.Pairwise (· < ·)

theorem up_count : ∀ {l : List Nat} {i x : Nat}, Up l → l[i]? = some x → l.countP (fun y => decide (y < x)) = i
  | [], i, x, _, h => by simp at h
  | a :: l, 0, x, hu, h => by
    have e : a = x := by simpa using h
    subst e
    have h1 : (a :: l).countP (fun y => decide (y < a)) = 0 := by
      rw [List.countP_eq_zero]
      intro b hb
      rcases List.mem_cons.mp hb with e | hb
      · subst e; simp
      · have := (List.pairwise_cons.mp hu).1 b hb
        simp; omega
    exact h1
  | a :: l, i + 1, x, hu, h => by
    have h' : l[i]? = some x := by simpa using h
    have ih := up_count (List.pairwise_cons.mp hu).2 h'
    have hx : x ∈ l := List.mem_of_getElem? h'
    have ha := (List.pairwise_cons.mp hu).1 x hx
    rw [List.countP_cons, ih, if_pos (by simpa using ha)]

theorem up_get {l : List Nat} {x : Nat} (hu : Up l) (hx : x ∈ l) : l[l.countP (fun y => decide (y < x))]? = some x := by
  obtain ⟨i, hi, e⟩ := List.mem_iff_getElem.mp hx
  have h : l[i]? = some x := by rw [List.getElem?_eq_getElem hi, e]
  rw [up_count hu h]
  exact h

theorem up_ahead {l : List Nat} {x y m : Nat} (hu : Up l) (hm : m < l.countP (fun y => decide (y < x))) (hy : l[m]? = some y) : y < x := by
  have h1 := up_count hu hy
  by_cases h : y < x
  · exact h
  · exfalso
    have h2 : l.countP (fun z => decide (z < x)) ≤ l.countP (fun z => decide (z < y)) := List.countP_mono_left fun a _ h3 => by
      simp at h3 ⊢
      omega
    omega

/-- two strictly rising lists of the same members are one -/
theorem up_unique : ∀ {l m : List Nat}, Up l → Up m → (∀ x, x ∈ l ↔ x ∈ m) → l = m
  | [], [], _, _, _ => rfl
  | [], b :: m, _, _, h => by
    have := (h b).mpr List.mem_cons_self
    cases this
  | a :: l, [], _, _, h => by
    have := (h a).mp List.mem_cons_self
    cases this
  | a :: l, b :: m, h1, h2, h => by
    obtain ⟨a1, a2⟩ := List.pairwise_cons.mp h1
    obtain ⟨b1, b2⟩ := List.pairwise_cons.mp h2
    have e : a = b := by
      have p1 : a ∈ b :: m := (h a).mp List.mem_cons_self
      have p2 : b ∈ a :: l := (h b).mpr List.mem_cons_self
      rcases List.mem_cons.mp p1 with e | p1
      · exact e
      · rcases List.mem_cons.mp p2 with e | p2
        · exact e.symm
        · have q1 := a1 b p2
          have q2 := b1 a p1
          omega
    subst e
    refine congrArg (a :: ·) (up_unique a2 b2 fun x => ⟨fun hx => ?_, fun hx => ?_⟩)
    · rcases List.mem_cons.mp ((h x).mp (List.mem_cons_of_mem _ hx)) with e | q
      · subst e
        have := a1 x hx
        omega
      · exact q
    · rcases List.mem_cons.mp ((h x).mpr (List.mem_cons_of_mem _ hx)) with e | q
      · subst e
        have := b1 x hx
        omega
      · exact q

theorem up_range (n : Nat) : Up (List.range n) := List.pairwise_lt_range
theorem up_filter {l : List Nat} (p : Nat → Bool) (h : Up l) : Up (l.filter p) := List.Pairwise.filter p h

/-! ### dense ranks -/
/-- the levels of ranks: their different values, rising -/
def lev (rs : List Nat) : List Nat := (List.range 10).filter fun s => decide (s ∈ rs)
theorem lev_up (rs : List Nat) : Up (lev rs) := up_filter _ (up_range 10)
theorem mem_lev {rs : List Nat} (h : ∀ r ∈ rs, r < 10) {x : Nat} : x ∈ lev rs ↔ x ∈ rs := by
  unfold lev
  rw [List.mem_filter]
  constructor
  · intro ⟨_, h⟩
    exact of_decide_eq_true h
  · intro hx
    exact ⟨List.mem_range.mpr (h x hx), decide_eq_true hx⟩
/-- the place of a rank among the levels, as the law counts it -/
def cnt (rs : List Nat) (r : Nat) : Nat := ((List.range 10).filter fun s => decide (s ∈ rs) && decide (s < r)).length
theorem cnt_lev (rs : List Nat) (r : Nat) : cnt rs r = (lev rs).countP fun y => decide (y < r) := by
  unfold cnt lev
  rw [List.countP_eq_length_filter, List.filter_filter]
  congr 1
  refine List.filter_congr fun x _ => ?_
  rw [Bool.and_comm]
/-- dense ranks -/
def dn (rs : List Nat) : List Nat := rs.map (cnt rs)
theorem dn_len (rs : List Nat) : (dn rs).length = rs.length := List.length_map _
theorem cnt_mono {rs : List Nat} {x y : Nat} (h : x ≤ y) : cnt rs x ≤ cnt rs y := by
  rw [cnt_lev, cnt_lev]
  refine List.countP_mono_left fun a _ h3 => ?_
  simp at h3 ⊢
  omega
theorem cnt_lt {rs : List Nat} (hb : ∀ r ∈ rs, r < 10) {x y : Nat} (hx : x ∈ rs) (h : x < y) : cnt rs x < cnt rs y := by
  rw [cnt_lev, cnt_lev]
  refine countP_lt_of (fun a _ h3 => ?_) ⟨x, (mem_lev hb).mpr hx, by simpa using h, by simp⟩
  simp at h3 ⊢
  omega
theorem cnt_le_iff {rs : List Nat} (hb : ∀ r ∈ rs, r < 10) {x y : Nat} (hy : y ∈ rs) : cnt rs x ≤ cnt rs y ↔ x ≤ y := by
  constructor
  · intro h
    by_cases q : x ≤ y
    · exact q
    · have := cnt_lt hb hy (show y < x by omega)
      omega
  · exact cnt_mono
/-- a dense tuple: below each entry every number occurs -/
def IsD (D : List Nat) : Prop := ∀ d ∈ D, ∀ e, e < d → e ∈ D
theorem dn_isD {rs : List Nat} (hb : ∀ r ∈ rs, r < 10) : IsD (dn rs) := by
  intro d hd e he
  obtain ⟨r, hr, rfl⟩ := List.mem_map.mp hd
  rw [cnt_lev] at he
  have hlen : e < (lev rs).length := Nat.lt_of_lt_of_le he (List.countP_le_length)
  have hs : (lev rs)[e]? = some (lev rs)[e] := List.getElem?_eq_getElem hlen
  have h1 : (lev rs)[e] ∈ rs := (mem_lev hb).mp (List.getElem_mem hlen)
  refine List.mem_map.mpr ⟨_, h1, ?_⟩
  rw [cnt_lev]
  exact up_count (lev_up rs) hs
theorem isD_zero {D : List Nat} (h : IsD D) (hne : D ≠ []) : 0 ∈ D := by
  cases D with
  | nil => exact absurd rfl hne
  | cons d r =>
    by_cases e : d = 0
    · rw [e]; exact List.mem_cons_self
    · exact h d List.mem_cons_self 0 (by omega)
theorem nodup_len : ∀ {l m : List Nat}, l.Nodup → (∀ x ∈ l, x ∈ m) → l.length ≤ m.length
  | [], _, _, _ => Nat.zero_le _
  | a :: l, m, h, hs => by
    obtain ⟨h1, h2⟩ := List.nodup_cons.mp h
    have ih := nodup_len (l := l) (m := m.erase a) h2 fun x hx => by
      have hne : x ≠ a := fun e => h1 (e ▸ hx)
      exact (List.mem_erase_of_ne hne).mpr (hs x (List.mem_cons_of_mem _ hx))
    have ha : a ∈ m := hs a List.mem_cons_self
    have := List.length_erase_of_mem ha
    have hp : 0 < m.length := List.length_pos_of_mem ha
    rw [List.length_cons]
    omega
/-- fewer levels than entries -/
theorem isD_lt {D : List Nat} (h : IsD D) {d : Nat} (hd : d ∈ D) : d < D.length := by
  have hsub : ∀ x ∈ List.range (d + 1), x ∈ D := fun x hx => by
    have := List.mem_range.mp hx
    by_cases e : x = d
    · rw [e]; exact hd
    · exact h d hd x (by omega)
  have := nodup_len (List.nodup_range (n := d + 1)) hsub
  rw [List.length_range] at this
  omega
/-! ### ranks with gaps over a dense tuple -/
/-- D read through a strictly rising row -/
theorem dn_through {D : List Nat} (hD : IsD D) (f : Nat → Nat) (hf : ∀ x y, x ∈ D → y ∈ D → x < y → f x < f y) (hb : ∀ x ∈ D, f x < 10) : dn (D.map f) = D := by
  have key : ∀ d ∈ D, cnt (D.map f) (f d) = d := fun d hd => by
    have hin : ∀ x, x < d + 1 → x ∈ D := fun x hx => by
      by_cases e : x = d
      · rw [e]; exact hd
      · exact hD d hd x (by omega)
    have e1 : (lev (D.map f)).filter (fun y => decide (y < f d)) = (List.range d).map f := by
      refine up_unique (up_filter _ (lev_up _)) ?_ fun x => ?_
      · show ((List.range d).map f).Pairwise (· < ·)
        rw [List.pairwise_map]
        refine List.Pairwise.imp_of_mem ?_ (up_range d)
        intro a b ha hb h
        exact hf a b (hin a (by have := List.mem_range.mp ha; omega)) (hin b (by have := List.mem_range.mp hb; omega)) h
      · rw [List.mem_filter, mem_lev (fun r hr => by
          obtain ⟨y, hy, rfl⟩ := List.mem_map.mp hr
          exact hb y hy)]
        constructor
        · intro ⟨h1, h2⟩
          obtain ⟨y, hy, rfl⟩ := List.mem_map.mp h1
          have h3 : f y < f d := of_decide_eq_true h2
          refine List.mem_map.mpr ⟨y, List.mem_range.mpr ?_, rfl⟩
          by_cases q : y < d
          · exact q
          · exfalso
            by_cases e : y = d
            · subst e; omega
            · have := hf d y hd hy (by omega)
              omega
        · intro h1
          obtain ⟨y, hy, rfl⟩ := List.mem_map.mp h1
          have hy := List.mem_range.mp hy
          exact ⟨List.mem_map.mpr ⟨y, hin y (by omega), rfl⟩, decide_eq_true (hf y d (hin y (by omega)) hd hy)⟩
    rw [cnt_lev, List.countP_eq_length_filter, e1, List.length_map, List.length_range]
  unfold dn
  rw [List.map_map]
  have : D.map (cnt (D.map f) ∘ f) = D.map id := List.map_congr_left fun d hd => key d hd
  rw [this, List.map_id]
theorem dn_self {D : List Nat} (hD : IsD D) (hb : ∀ x ∈ D, x < 10) : dn D = D := by
  have h := dn_through hD id (fun _ _ _ _ h => h) hb
  rw [List.map_id] at h
  exact h
/-- the greatest of a list -/
def top (l : List Nat) : Nat := l.foldl max 0
theorem foldl_max_ge : ∀ (l : List Nat) (a : Nat), a ≤ l.foldl max a ∧ ∀ x ∈ l, x ≤ l.foldl max a
  | [], a => ⟨Nat.le_refl _, fun _ h => by cases h⟩
  | b :: l, a => by
    obtain ⟨h1, h2⟩ := foldl_max_ge l (max a b)
    refine ⟨by have := Nat.le_max_left a b; show a ≤ l.foldl max (max a b); omega, fun x hx => ?_⟩
    show x ≤ l.foldl max (max a b)
    rcases List.mem_cons.mp hx with e | hx
    · subst e; have := Nat.le_max_right a x; omega
    · exact h2 x hx
theorem foldl_max_mem : ∀ (l : List Nat) (a : Nat), l.foldl max a = a ∨ l.foldl max a ∈ l
  | [], a => .inl rfl
  | b :: l, a => by
    show l.foldl max (max a b) = a ∨ l.foldl max (max a b) ∈ b :: l
    rcases foldl_max_mem l (max a b) with h | h
    · rw [h]
      rcases Nat.le_total a b with q | q
      · rw [Nat.max_eq_right q]; exact .inr List.mem_cons_self
      · rw [Nat.max_eq_left q]; exact .inl rfl
    · exact .inr (List.mem_cons_of_mem _ h)
theorem top_ge {l : List Nat} {x : Nat} (h : x ∈ l) : x ≤ top l := (foldl_max_ge l 0).2 x h
theorem top_mem {l : List Nat} (h : l ≠ []) : top l ∈ l := by
  rcases foldl_max_mem l 0 with e | e
  · cases l with
    | nil => exact absurd rfl h
    | cons a r =>
      have h1 := top_ge (l := a :: r) List.mem_cons_self
      have h2 : top (a :: r) = 0 := e
      have h3 : top (a :: r) = a := by omega
      rw [h3]; exact List.mem_cons_self
  · exact e
/-- the opposite ranks of dense ones -/
def ag (D : List Nat) : List Nat := D.map fun d => top D - d
theorem ag_len (D : List Nat) : (ag D).length = D.length := List.length_map _
theorem ag_isD {D : List Nat} (hD : IsD D) (hne : D ≠ []) : IsD (ag D) := by
  intro x hx e he
  obtain ⟨d, hd, rfl⟩ := List.mem_map.mp hx
  have ht := top_mem hne
  have hle := top_ge hd
  refine List.mem_map.mpr ⟨top D - e, ?_, by omega⟩
  by_cases q : e = 0
  · subst q; exact ht
  · exact hD _ ht _ (by omega)
theorem ag_top {D : List Nat} (hD : IsD D) (hne : D ≠ []) : top (ag D) = top D := by
  have h0 := isD_zero hD hne
  have hm : top D ∈ ag D := List.mem_map.mpr ⟨0, h0, rfl⟩
  have hne2 : ag D ≠ [] := fun e => by rw [e] at hm; cases hm
  obtain ⟨d, hd, e⟩ := List.mem_map.mp (top_mem hne2)
  have e2 : top D - d = top (ag D) := e
  have := top_ge hm
  omega
theorem ag_ag {D : List Nat} (hD : IsD D) (hne : D ≠ []) : ag (ag D) = D := by
  show (ag D).map (fun d => top (ag D) - d) = D
  rw [ag_top hD hne]
  unfold ag
  rw [List.map_map]
  have : D.map ((fun d => top D - d) ∘ fun d => top D - d) = D.map id := List.map_congr_left fun d hd => by
    have := top_ge hd
    show top D - (top D - d) = d
    omega
  rw [this, List.map_id]
/-! ### order -/
/-- alike, opposite: how two tuples of ranks stand -/
def Alike (rs ss : List Nat) : Prop := ∀ (i j a b x y : Nat), rs[i]? = some a → rs[j]? = some b → ss[i]? = some x → ss[j]? = some y → (a ≤ b ↔ x ≤ y)
def Oppo (rs ss : List Nat) : Prop := ∀ (i j a b x y : Nat), rs[i]? = some a → rs[j]? = some b → ss[i]? = some x → ss[j]? = some y → (a ≤ b ↔ y ≤ x)
theorem dn_at {rs : List Nat} {i a : Nat} (h : rs[i]? = some a) : (dn rs)[i]? = some (cnt rs a) := by
  unfold dn
  rw [List.getElem?_map, h] <;> rfl
theorem alike_of {rs ss : List Nat} (h1 : ∀ r ∈ rs, r < 10) (h2 : ∀ r ∈ ss, r < 10) (h : dn rs = dn ss) : Alike rs ss := by
  intro i j a b x y ha hb hx hy
  have e1 : cnt rs a = cnt ss x := by
    have := dn_at ha
    rw [h, dn_at hx] at this
    exact (Option.some.inj this).symm
  have e2 : cnt rs b = cnt ss y := by
    have := dn_at hb
    rw [h, dn_at hy] at this
    exact (Option.some.inj this).symm
  rw [← cnt_le_iff h1 (List.mem_of_getElem? hb), ← cnt_le_iff h2 (List.mem_of_getElem? hy), e1, e2]
theorem ag_at {D : List Nat} {i a : Nat} (h : D[i]? = some a) : (ag D)[i]? = some (top D - a) := by
  unfold ag
  rw [List.getElem?_map, h] <;> rfl
theorem oppo_of {rs ss : List Nat} (h1 : ∀ r ∈ rs, r < 10) (h2 : ∀ r ∈ ss, r < 10) (h : dn rs = ag (dn ss)) : Oppo rs ss := by
  intro i j a b x y ha hb hx hy
  have e1 : cnt rs a = top (dn ss) - cnt ss x := by
    have := dn_at ha
    rw [h, ag_at (dn_at hx)] at this
    exact (Option.some.inj this).symm
  have e2 : cnt rs b = top (dn ss) - cnt ss y := by
    have := dn_at hb
    rw [h, ag_at (dn_at hy)] at this
    exact (Option.some.inj this).symm
  have t1 := top_ge (List.mem_of_getElem? (dn_at hx))
  have t2 := top_ge (List.mem_of_getElem? (dn_at hy))
  rw [← cnt_le_iff h1 (List.mem_of_getElem? hb), ← cnt_le_iff h2 (List.mem_of_getElem? hx), e1, e2]
  omega
end K69
namespace K69
open PySem PySem.Spec PyProof.Rows L2
/-! ### rules that the layer lacks -/
section
variable {X : Cx}
theorem vals1 {x : V} {us : List Value} (r : Vals [x] us) : ∃ u, us = [u] ∧ RelV x u := by
  cases r with
  | cons a b =>
    cases b
    exact ⟨_, rfl, a⟩
/-- set(t), t a tuple of ints -/
def rSetT (K : PySem.W.Frag) (w : World) : List V → Hp → VK → Prop := fun xs H Q => ∃ (p : Addr) (ns : List Int), xs = [.ref p] ∧ SqT K H p (ns.map V.int) ∧ ns.length ≤ 1000 ∧
  ∀ (a : Addr) (c : Nat), c ≤ ns.length → H a = none → Q (.ref a) (upd H a (SetO w a (fun j => decide (j ∈ ns)) c))
theorem cr_setT (hc : X.calm = true) : CallR X (.type "set") (rSetT X.K X.w) := by
  intro pins s σ H xs us Q I r h
  obtain ⟨p, ns, rfl, hS, hl, q⟩ := h
  obtain ⟨its, rv, hT, hz⟩ := I.tuple hS
  rw [Vals.ref1 r]
  refine call_set_tupI (w := X.w) ns (I.ok.hd hc) hT (rv.ints) (by
    have e : scanBound = 4096 := rfl
    omega) fun h' tk c R hc' hk => ?_
  exact ⟨.ref _, upd H s.heap.objs.size (SetO X.w s.heap.objs.size (fun j => decide (j ∈ ns)) c), I.laid (t' := tk) hk (Nat.le_refl _) (setO_new R), rfl, q _ c hc' (I.hok.fresh (Nat.le_refl _))⟩
/-! max of a tuple of ints -/
theorem iter_intTup {prog : Program} {w : World} {A : Around} {E : Value → Shared → Prop} {s : Shared} {l : Addr} {items : Array Value} {Q : Value → Shared → Prop} (hl : s.heap.IsTuple l items)
    (h : ∀ s2 : Shared, s2 = { s with heap := s.heap.push { cls := .type "tuple_iterator", data := .fields #[.ref l, .int 0 0] } } →
      (s2.heap.IsTupleIter s.heap.objs.size l 0 ∧ s2.heap.IsTuple l items) → (∀ b ∈ [s.heap.objs.size, l], b < s2.heap.objs.size) → l ≠ s.heap.objs.size → Q (.ref s.heap.objs.size) s2) :
    wpAny (model prog w) A (pyIter (.ref l)) Q E s := by
  have hlt : l < s.heap.objs.size := by
    obtain ⟨_, e, _⟩ := hl
    exact Heap.lt_size e
  refine wpAny_pyIter_tuple hl (h _ rfl ⟨⟨_, Heap.get?_push_size _ rfl, rfl, rfl⟩, hl.push _⟩ (fun b hb => ?_) (Nat.ne_of_lt hlt))
  show b < (s.heap.push _).objs.size
  rw [Heap.size_push]
  rcases List.mem_cons.mp hb with rfl | hb
  · exact Nat.lt_succ_self _
  · rcases List.mem_cons.mp hb with rfl | hb
    · exact Nat.lt_succ_of_lt hlt
    · cases hb
theorem keptT {s : Shared} {l : Addr} {h' : Heap} (hk : ∀ b o, b ∉ [s.heap.objs.size] → (s.heap.push { cls := .type "tuple_iterator", data := .fields #[.ref l, .int 0 0] }).get? b = some o → h'.get? b = some o) :
    ∀ b o, s.heap.get? b = some o → h'.get? b = some o := fun b o e => by
  refine hk b o (fun hm => ?_) (Heap.get?_push_of_some _ e)
  rcases List.mem_cons.mp hm with e1 | hm
  · exact absurd (e1 ▸ Heap.lt_size e) (Nat.lt_irrefl _)
  · cases hm
theorem max_intTup {prog : Program} {w : World} {A : Around} {E : Value → Shared → Prop} {s : Shared} {l : Addr} {xs : Array (Int × Tok)} {Q : Value → Shared → Prop} (hh : A.handled = none) (hl : s.heap.IsTuple l (intItems xs)) (hne : 0 < xs.size)
    (h : ∀ v h' tk, (intItems xs)[argBest (fun i j => decide (numAt xs i > numAt xs j)) (xs.size - 1)]? = some v → (∀ b o, s.heap.get? b = some o → h'.get? b = some o) → Q v { s with heap := h', toks := tk }) :
    wpAny (model prog w) A (call (.builtin "max") [.ref l]) Q E s := by
  refine call_max_walk (iter_intTup hl fun s2 e st hfp hlI => ?_)
  subst e
  refine ⟨_, _, _, _, _, _, _, rfl, Walks.tuple (A := A.in1) hh _ l hlI (intItems xs), st, hfp, by simpa [intItems] using hne, CmpOf.ints_gt (numAt xs) (fun _ _ => intItems_at), fun v h' tk hP hk => ?_⟩
  exact h v h' tk (by simpa [intItems] using hP) (keptT hk)
theorem max_rawT {P : Program} {w : World} {A : Around} {E : Value → Shared → Prop} {s : Shared} {l : Addr} {its : List Value} {ns : List Int} {Q : Value → Shared → Prop} (hh : A.handled = none) (hl : s.heap.IsTuple l its.toArray) (hi : IntsAre its ns) (hne : 0 < ns.length)
    (h : ∀ h' tk m t, (∀ b o, s.heap.get? b = some o → h'.get? b = some o) → m ∈ ns → (∀ y, y ∈ ns → y ≤ m) → Q (.int m t) { s with heap := h', toks := tk }) : wpAny (model P w) A (call (.builtin "max") [.ref l]) Q E s := by
  obtain ⟨xs, e⟩ := hi.allInts.items
  have hn : numsOf (intItems xs).toList = ns := by rw [← e]; exact hi.numsOf
  rw [nums_intItems] at hn
  subst hn
  rw [e] at hl
  have hsz : 0 < xs.size := by simpa using hne
  refine max_intTup hh hl hsz fun v h' tk hv hk => ?_
  obtain ⟨t, rfl⟩ := intItems_at hv
  obtain ⟨h1, h2⟩ := argBest_gt (numAt xs) (xs.size - 1)
  refine h h' tk _ t hk ?_ fun a ha => ?_
  · rw [numAt_eq]; exact PySem.getD_mem (by rw [List.length_map, Array.length_toList]; omega)
  · obtain ⟨j, hj, rfl⟩ := mem_getD ha
    rw [List.length_map, Array.length_toList] at hj
    rw [← numAt_eq]; exact h2 j (by omega)
def rMaxT (K : PySem.W.Frag) : List V → Hp → VK → Prop := fun vs H Q => ∃ (a : Addr) (ns : List Int), vs = [V.ref a] ∧ SqT K H a (ns.map V.int) ∧ 0 < ns.length ∧ ∀ m, m ∈ ns → (∀ y, y ∈ ns → y ≤ m) → Q (.int m) H
theorem cr_maxT (hc : X.calm = true) : CallR X (.builtin "max") (rMaxT X.K) := by
  intro pins s σ H vs us Q I r h
  obtain ⟨a, ns, rfl, hs, hne, q⟩ := h
  obtain ⟨its, rv, hl, _⟩ := I.tuple hs
  rw [Vals.ref1 r]
  exact max_rawT (I.ok.hd hc) hl rv.ints hne fun h' tk m t' hk h1 h2 => ⟨.int _, H, I.kept hk, ⟨_, rfl⟩, q m h1 h2⟩
/-! x in, not in a tuple of nested data -/
def rInDT (K : PySem.W.Frag) : R2 := fun x y H Q => ∃ d ds, Dp K H x d ∧ Dp K H y (.tuple ds) ∧ SeqAt.shaped d = true ∧ SeqAt.shaped (.tuple ds) = true ∧ Q (.bl (ds.any fun z => PyData.eqv z d)) H
def rNotInDT (K : PySem.W.Frag) : R2 := fun x y H Q => ∃ d ds, Dp K H x d ∧ Dp K H y (.tuple ds) ∧ SeqAt.shaped d = true ∧ SeqAt.shaped (.tuple ds) = true ∧ Q (.bl (!ds.any fun z => PyData.eqv z d)) H
theorem op_inDT (hu : X.A.units + 65 < cLine) : OpR X (compareOp .In) (rInDT X.K) := by
  intro pins s σ H x y v u Q I rx ry h
  obtain ⟨d, ds, hd, he, sd, se, q⟩ := h
  obtain ⟨as, r1⟩ := Dp.reads I d x v hd rx
  obtain ⟨bs, r2⟩ := Dp.reads I (.tuple ds) y u he ry
  exact SeqAt.in_tuple_reads r2 r1 (SeqAt.canLay_of_shaped se) (SeqAt.canLay_of_shaped sd) (room_in_shaped sd hu) ⟨.bl _, H, I, rfl, q⟩
theorem op_notInDT (hu : X.A.units + 65 < cLine) : OpR X (compareOp .NotIn) (rNotInDT X.K) := by
  intro pins s σ H x y v u Q I rx ry h
  obtain ⟨d, ds, hd, he, sd, se, q⟩ := h
  obtain ⟨as, r1⟩ := Dp.reads I d x v hd rx
  obtain ⟨bs, r2⟩ := Dp.reads I (.tuple ds) y u he ry
  exact SeqAt.notIn_tuple_reads r2 r1 (SeqAt.canLay_of_shaped se) (SeqAt.canLay_of_shaped sd) (room_in_shaped sd hu) ⟨.bl _, H, I, rfl, q⟩
/-! enumerate of a tuple -/
def IteT (K : PySem.W.Frag) (a : Addr) : It :=
  ⟨fun i H => ∃ (xs : List V) (x : V), SqT K H a xs ∧ xs[i]? = some x, fun i H v H' => ∃ T x, v = .ref T ∧ H T = none ∧ H' = upd H T (.tup [.int (i : Nat), x]) ∧ ∀ xs, SqT K H a xs → xs[i]? = some x, fun i H => ∃ xs : List V, SqT K H a xs ∧ xs.length ≤ i⟩
theorem meets_enumerate_newT (l : Addr) (items : Array Value) (n : Nat) (dct : Option Addr) (sl : Array (Option Value)) :
    Meets (Builtin.«enumerate.__new__» ⟨[.type "enumerate", .ref l], []⟩) (fun _ R s => s.heap.get? l = some { cls := .type "tuple", dict := dct, data := .seq items n, slots := sl } ∧
      R (.ok (.ret (.ref (s.heap.push { cls := .type "tuple_iterator", data := .fields #[.ref l, .int 0 0] }).objs.size)))
        { s with heap := (s.heap.push { cls := .type "tuple_iterator", data := .fields #[.ref l, .int 0 0] }).push { cls := .type "enumerate", data := .fields #[.none, .bool false, .ref s.heap.objs.size, rawInt 0, .none, .none] } }) :=
  .of_wp fun prog w A R s h => by
    obtain ⟨hp, g, d, tk, os⟩ := s
    obtain ⟨hl, h⟩ := h
    have hsub := sub_enumerate
    have hL : Heap.IsTuple (Shared.heap ⟨hp, g, d, tk, os⟩) l items := ⟨_, hl, rfl, n, rfl⟩
    wp_walk using AutoSeq1.wpAny_loadPart' hl
    refine wpAny_stack_any fun st => wpAny_pure ?_
    split
    · rename_i c _ _ _ _ _
      cases (c == Value.type "enumerate")
      · wp_walk using AutoSeq1.wpAny_loadPart' hl, wpAny_pyIter_tuple hL
        exact ⟨_, rfl, h⟩
      · wp_walk using AutoSeq1.wpAny_loadPart' hl, wpAny_pyIter_tuple hL
        exact ⟨_, rfl, h⟩
    · wp_walk using AutoSeq1.wpAny_loadPart' hl, wpAny_pyIter_tuple hL
      exact ⟨_, rfl, h⟩
theorem call_enumerate_tuple {prog : Program} {w : World} {A : Around} {E : Value → Shared → Prop} {s : Shared} {l : Addr} {items : Array Value} {Q : Value → Shared → Prop} (hL : s.heap.IsTuple l items)
    (h : ∀ h', IsEnum h' (s.heap.objs.size + 1) s.heap.objs.size 0 .none → h'.IsTupleIter s.heap.objs.size l 0 → h'.objs.size = s.heap.objs.size + 2 →
      (∀ b o, s.heap.get? b = some o → h'.get? b = some o) → Q (.ref (s.heap.objs.size + 1)) { s with heap := h' }) :
    wpAny (model prog w) A (call (.type "enumerate") [.ref l]) Q E s := by
  obtain ⟨⟨c, dct, dt, sl⟩, hl, hc, n, hd⟩ := hL
  replace hc : c = .type "tuple" := hc
  replace hd : dt = .seq items n := hd
  subst hc hd
  refine callType_new F.called_enumerate (by decide) (F.typeCall_enumerate_1 _) (F.newCall_enumerate_1 _) (fun obj => F.args_object_init_2 obj _) F.entry_enumerate_new
    (meets_enumerate_newT l items n dct sl) ⟨hl, ?_⟩
  have hz : (s.heap.push { cls := .type "tuple_iterator", data := .fields #[.ref l, .int 0 0] }).objs.size = s.heap.objs.size + 1 := Heap.size_push ..
  show _ ∧ _
  rw [hz]
  have he : IsEnum ((s.heap.push { cls := .type "tuple_iterator", data := .fields #[.ref l, .int 0 0] }).push
      { cls := .type "enumerate", data := .fields #[.none, .bool false, .ref s.heap.objs.size, rawInt 0, .none, .none] }) (s.heap.objs.size + 1) s.heap.objs.size 0 .none := by
    have := Heap.get?_push_size (s.heap.push { cls := .type "tuple_iterator", data := .fields #[.ref l, .int 0 0] })
      (o := { cls := .type "enumerate", data := .fields #[.none, .bool false, .ref s.heap.objs.size, rawInt 0, .none, .none] }) rfl
    rw [hz] at this; exact this
  refine ⟨⟨_, he, rfl⟩, h _ he ⟨_, Heap.get?_push_of_some _ (Heap.get?_push_size _ rfl), rfl, rfl⟩ (by rw [Heap.size_push, hz]) fun b o x => Heap.get?_push_of_some _ (Heap.get?_push_of_some _ x)⟩
theorem pyNext_enum_endT {prog : Program} {w : World} {A : Around} {E : Value → Shared → Prop} {s : Shared} {e it l : Addr} {i : Nat} {items : Array Value} {old : Value} {Q : Option Value → Shared → Prop} (hh : A.handled = none)
    (he : IsEnum s.heap e it i old) (hit : s.heap.IsTupleIter it l i) (hl : s.heap.IsTuple l items) (hx : items[i]? = none)
    (hQ : ∀ h', Heap.ExtBut it s.heap h' → Q none { s with heap := h' }) : wpAny (model prog w) A (pyNext (.ref e)) Q E s := by
  have hT : s.TypeIs (.ref e) "enumerate" := ⟨_, he, rfl⟩
  unfold pyNext
  refine wpAny_bind (wpAny_attempt (wpAny_callSpecial?_slot (name := Str.ofString "__next__") hT F.slot_enumerate_next
    (wpAny_call_entry F.slot_enumerate_next hT F.entry_enumerate_next ?_ (F.args_enumerate_next_1 _))))
  show wpAny _ _ (field (.ref e) 2 >>= _) _ _ _
  refine wpAny_bind (wpAny_field he rfl (x := .ref it) rfl ?_)
  refine wpAny_bind (wpAny_nextOf_tuple_end hh hit hl hx fun h' x he' hx' => ?_)
  obtain ⟨o, ho, hc⟩ := hx'
  refine wpAny_bind (wpAny_isInstance (T := "StopIteration") (b := true) ⟨o, ho, hc⟩ isSubtype_stop ?_)
  exact wpAny_pure (hQ _ he')
theorem turn_enumT {P : Program} {w : World} {K : PySem.W.Frag} {elts : List Expr} {kk : Nat} {tpos : Pos} (a e it : Addr) :
    Turn P w K (.Tuple elts kk tpos) (IteT K a) [e, it] e (fun i h => (∃ old, IsEnum h e it ((i : Nat) : Int) old) ∧ h.IsTupleIter it a i ∧ e ≠ it ∧ a ≠ it ∧ e ≠ a) where
  mem := by simp
  obj := fun i h st b hb => by
    obtain ⟨⟨old, he⟩, ⟨o, ho, hc, hd⟩, _⟩ := st
    have e' : b = e ∨ b = it := by simpa using hb
    rcases e' with z | z
    · rw [z]; exact ⟨_, he, fun v q => nomatch q⟩
    · rw [z]; exact ⟨o, ho, fun v q => by rw [hd] at q; cases q⟩
  keep := fun i h h' st k => let ⟨⟨old, he⟩, hi, hne⟩ := st; ⟨⟨old, k e (by simp) _ he⟩, hi.at fun o q => k it (by simp) o q, hne⟩
  item := by
    intro X hP hw hK hc i pins s σ H E I hf st hg
    subst hP hw hK
    obtain ⟨⟨old, he⟩, hit, hne, hni, hea⟩ := st
    obtain ⟨xs, x, hq, hx⟩ := hg
    obtain ⟨f0, f1, f2, f3, f4, f5⟩ := hf it (by simp)
    obtain ⟨its, rv, p, hz⟩ := I.tuple hq
    obtain ⟨u, hu, ru⟩ := rv.get hx
    have hel : e < s.heap.objs.size := Heap.lt_size he
    have hil : it < s.heap.objs.size := by obtain ⟨_, q, _⟩ := hit; exact Heap.lt_size q
    have hlt : i < its.toArray.size := by
      have := (List.getElem?_eq_some_iff.mp hu).1
      simpa using this
    refine wpAny_pyNext_enum_itemD (Draws.tuple (A := X.A.in1) (by show X.A.handled = none; exact I.ok.hd hc) it a hni its.toArray) he ⟨hit, p⟩ hlt hne (by simp [hne, hea]) fun x' h' tk hx' ho hst' hT hsz hk => ?_
    have ex : x' = u := by
      have h1 : its[i]? = some x' := by simpa using hx'
      rw [hu] at h1
      exact (Option.some.inj h1).symm
    subst ex
    obtain ⟨hit', _⟩ := hst'
    refine ⟨_, rfl, wpAny_letOwnedTupleGo_enum (s := { s with heap := h', toks := tk + 1 }) ho fun h'' he' sb => ?_⟩
    have hT2 : h''.get? s.heap.objs.size = some { cls := .type "tuple", data := .seq #[.int i tk, x'] } := (sb.2 _ (Nat.ne_of_gt hel)).trans hT
    have new : ObjOk X.prog X.w (upd H s.heap.objs.size (.tup [.int (i : Nat), x])) h'' s.heap.objs.size (.tup [.int (i : Nat), x]) :=
      ⟨by show 2 ≤ sizeLine; decide, [.int i tk, x'], .cons ⟨_, rfl⟩ (.cons ru .nil), ⟨_, hT2, rfl, _, rfl⟩⟩
    have I1 : Inv X pins σ (upd H s.heap.objs.size (.tup [.int (i : Nat), x])) { s with heap := h'', toks := tk + 1 } :=
      I.turnedNew (ch := [e, it]) (fun b ob hb q => (sb.2 b (fun z => hb (by simp [z]))).trans (hk b ob (fun z => hb (by simp [z])) (fun z => hb (by simp [z])) q)) hf (Nat.le_refl _) new
    refine ⟨.ref s.heap.objs.size, _, I1, rfl, ⟨_, x, rfl, I.hok.fresh (Nat.le_refl _), rfl, fun ys hy => by rw [I.tuple_inj hy hq]; exact hx⟩, ⟨⟨x', ?_⟩, hit'.at fun o q => (sb.2 it (Ne.symm hne)).trans q, hne, hni, hea⟩, fun b hb => ?_⟩
    · have e1 : ((i + 1 : Nat) : Int) = (i : Int) + 1 := by omega
      rw [e1]; exact he'
    · have hb' : b < s.heap.objs.size := by
        have e' : b = e ∨ b = it := by simpa using hb
        rcases e' with z | z
        · rw [z]; exact hel
        · rw [z]; exact hil
      rw [upd_ne (Nat.ne_of_lt hb')]
      exact (hf b hb).1
  done := by
    intro X hP hw hK hc i pins s σ H E I hf st hg
    subst hP hw hK
    obtain ⟨⟨old, he⟩, hit, hne, hni, hea⟩ := st
    obtain ⟨xs, hq, hx⟩ := hg
    obtain ⟨its, rv, p, hz⟩ := I.tuple hq
    obtain ⟨f0, f1, f2, f3, f4, f5⟩ := hf it (by simp)
    have hl := rv.length
    exact pyNext_enum_endT (I.ok.hd hc) he hit p (by simp; omega) fun h' eb => ⟨rfl, I.turned (t' := s.toks) (fun b o hb q => eb b o hb q) f0 f1 f3 f4 f5⟩
  self := fun A i s Q E st h => let ⟨⟨_, he⟩, _⟩ := st; wpAny_pyIter_enum he h
def iEnumT (K : PySem.W.Frag) (ta : TA) : TI := fun σ H R => ta σ H fun vs H1 => ∃ a xs, vs = [.ref a] ∧ SqT K H1 a xs ∧ R (IteT K a) H1
theorem pi_enumT {e : Expr} {ta : TA} {p pos tpos : Pos} {elts : List Expr} {kk : Nat} (hg : Gl X "enumerate") (hm : X.mg "enumerate" = none) (ha : PA X [e] ta) (hs : starEach [e] X.env = [(false, eval e X.env)] := by rfl) :
    PI X (.Tuple elts kk tpos) (.Call (.Name "enumerate" p) [e] [] pos) (iEnumT X.K ta) := by
  refine ⟨fun pins s σ H R I h => ?_⟩
  refine Call_ (ld_blt I hg hm boot_enumerate (PyProof.Rows.callWith_type1 (thn (ha.run pos pins s σ H _ I h) fun us s1 ⟨vs, H1, I1, r1, q1⟩ => ?_) hs rfl))
  obtain ⟨a, xs, ex, hq, q⟩ := q1
  subst ex
  cases r1 with
  | cons r rr =>
    cases rr
    cases r
    obtain ⟨its, rv, p', hz⟩ := I1.tuple hq
    have hlt : a < s1.heap.objs.size := p'.lt
    refine call_enumerate_tuple p' fun h' he hit hsz hk => wpAny_pyIter_enum he ?_
    have I2 : Inv X pins σ H1 { s1 with heap := h' } := I1.kept (t' := s1.toks) hk
    refine ⟨s1.heap.objs.size + 1, [s1.heap.objs.size + 1, s1.heap.objs.size], _, _, H1, rfl, I2, turn_enumT a (s1.heap.objs.size + 1) s1.heap.objs.size, ⟨⟨.none, he⟩, hit, Nat.succ_ne_self _, Nat.ne_of_lt hlt, Nat.ne_of_gt (Nat.lt_succ_of_lt hlt)⟩, fun b hb => ?_, q⟩
    have e' : b = s1.heap.objs.size + 1 ∨ b = s1.heap.objs.size := by simpa using hb
    have hle : s1.heap.objs.size ≤ b := by
      rcases e' with z | z
      · rw [z]; exact Nat.le_add_right _ _
      · rw [z]; exact Nat.le_refl _
    exact I1.fpOk hle (I1.hok.fresh hle)
theorem walk_enumT {K : PySem.W.Frag} {a : Addr} {xs : List V} : Walk (IteT K a) xs.length (fun H => SqT K H a xs) (YPair (fun i => some (.int (i : Nat))) (fun i => xs[i]?)) := by
  refine ⟨fun i _ hi q => ⟨xs, xs[i], q, by simp [hi]⟩, fun _ q => ⟨xs, q, Nat.le_refl _⟩, fun i H v H' _ q y => ?_⟩
  obtain ⟨T, x, h1, h2, h3, h4⟩ := y
  exact ⟨T, .int (i : Nat), x, h1, h2, h3, rfl, h4 xs q⟩
/-! tuple * int, also 0 and 1 -/
theorem tuple_mul1 (l : Addr) (items : Array Value) (n : Nat) (dd : Option Addr) (sl : Array (Option Value)) (u : Tok) :
    Meets (Builtin.«tuple.__mul__» ⟨[.ref l, .int 1 u], []⟩) (fun _ R s => s.heap.get? l = some { cls := .type "tuple", dict := dd, data := .seq items n, slots := sl } ∧ R (.ok (.ret (Value.ref l))) s) :=
  .of_wp fun prog w A R s h => by
    obtain ⟨hp, g, d, tk, os⟩ := s
    obtain ⟨hl, h⟩ := h
    have f1 := AutoSeq1.idx_int
    have c1 : (items.isEmpty || (1 : Int) == 1) = true := by simp
    wp_walk using AutoSeq1.wpAny_loadPart' hl
    repeat (first
      | (refine wpAny_ite_false (decide_eq_false (by decide)) ?_; wp_walk using AutoSeq1.wpAny_loadPart' hl)
      | (refine wpAny_ite_true (decide_eq_true c1) ?_; wp_walk using AutoSeq1.wpAny_loadPart' hl))
    exact ⟨_, rfl, h⟩
theorem tuple_mul0 (l : Addr) (items : Array Value) (n : Nat) (dd : Option Addr) (sl : Array (Option Value)) (u : Tok) (hne : items.isEmpty = false) :
    Meets (Builtin.«tuple.__mul__» ⟨[.ref l, .int 0 u], []⟩) (fun _ R s => s.heap.get? l = some { cls := .type "tuple", dict := dd, data := .seq items n, slots := sl } ∧
      R (.ok (.ret (Value.ref s.heap.objs.size))) { s with heap := s.heap.push { cls := Value.type "tuple", data := Data.seq #[] }, toks := s.toks }) :=
  .of_wp fun prog w A R s h => by
    obtain ⟨hp, g, d, tk, os⟩ := s
    obtain ⟨hl, h⟩ := h
    have f1 := AutoSeq1.idx_int
    have c1 : (items.isEmpty || (0 : Int) == 1) = false := by rw [hne]; decide
    have c2 : (decide ((0 : Int) ≤ 0) || items.isEmpty) = true := by rw [hne]; decide
    wp_walk using AutoSeq1.wpAny_loadPart' hl
    repeat (first
      | (refine wpAny_ite_false (decide_eq_false (by decide)) ?_; wp_walk using AutoSeq1.wpAny_loadPart' hl)
      | (refine wpAny_ite_false (decide_eq_false (by rw [c1]; exact Bool.false_ne_true)) ?_; wp_walk using AutoSeq1.wpAny_loadPart' hl)
      | (refine wpAny_ite_true (decide_eq_true c2) ?_; wp_walk using AutoSeq1.wpAny_loadPart' hl))
    exact ⟨_, rfl, h⟩
/-- t * k, t not empty -/
def rRepA : R2 := fun x y H Q => ∃ l k xs, x = .ref l ∧ y = .int k ∧ H l = some (.tup xs) ∧ xs ≠ [] ∧ 0 ≤ k ∧ k ≤ 1000 ∧ xs.length ≤ 1000 ∧ ∀ p H', Same H H' → H' p = some (.tup (List.replicate k.toNat xs).flatten) → Q (.ref p) H'
theorem op_repA : OpR X (binaryOp .Mult) rRepA := by
  intro pins s σ H x y v u Q I rx ry h
  obtain ⟨l, k, xs, rfl, rfl, hT, hne, h0, h1, hz, q⟩ := h
  have key : ∀ p, H p = none → Q (.ref p) (upd H p (.tup (List.replicate k.toNat xs).flatten)) := fun p hp => q p _ (fun b o e => by rw [upd_ne (ne_of_none e hp)]; exact e) upd_same
  by_cases h2 : 2 ≤ k
  · exact op_repT pins s σ H _ _ v u Q I rx ry ⟨l, k, xs, rfl, rfl, SqT.of hT, hne, h2, h1, hz, key⟩
  · cases rx
    obtain ⟨t, rfl⟩ := ry
    obtain ⟨its, r, ⟨⟨cls, dd, data, sl⟩, ho, hc, n, hd⟩, hs⟩ := I.tuple (SqT.of (K := X.K) hT)
    simp only at hc hd
    subst hc hd
    have hle : its.length = xs.length := r.length.symm
    have hn : its ≠ [] := fun e => hne (by
      rw [e] at hle
      exact List.eq_nil_of_length_eq_zero hle.symm)
    have hi : its.toArray.isEmpty = false := by
      cases its with
      | nil => exact absurd rfl hn
      | cons a b => rfl
    by_cases h3 : k = 1
    · subst h3
      refine wpAny_binaryOp_repeat_ref (T := "tuple") (U := "int") (by decide) ⟨_, ho, rfl⟩ (fun s' => typeIs_int s' 1 t) noFill_tuple_mul F.fills_int_mul F.slot_int_rmul repeat_tuple F.slot_int_index.lookup
        (call_meets F.slot_int_rmul (typeIs_int s 1 t) F.entry_int_rmul (F.args_int_rmul_2 _ _) (int_rmul_tuple 1 t l its.toArray n dd sl)
          ⟨ho, rfl, ⟨_, ho, rfl⟩, call_meets F.slot_tuple_mul ⟨_, ho, rfl⟩ F.entry_tuple_mul (F.args_tuple_mul_2 _ _) (tuple_mul1 l its.toArray n dd sl t) ⟨ho, ?_⟩⟩)
      refine ⟨.ref l, H, I.kept (t' := s.toks) fun _ _ z => z, rfl, q l H (fun _ _ z => z) ?_⟩
      rw [hT]
      show some (HO.tup xs) = some (HO.tup (List.replicate 1 xs).flatten)
      simp
    · have h4 : k = 0 := by omega
      subst h4
      refine wpAny_binaryOp_repeat_ref (T := "tuple") (U := "int") (by decide) ⟨_, ho, rfl⟩ (fun s' => typeIs_int s' 0 t) noFill_tuple_mul F.fills_int_mul F.slot_int_rmul repeat_tuple F.slot_int_index.lookup
        (call_meets F.slot_int_rmul (typeIs_int s 0 t) F.entry_int_rmul (F.args_int_rmul_2 _ _) (int_rmul_tuple 0 t l its.toArray n dd sl)
          ⟨ho, rfl, ⟨_, ho, rfl⟩, call_meets F.slot_tuple_mul ⟨_, ho, rfl⟩ F.entry_tuple_mul (F.args_tuple_mul_2 _ _) (tuple_mul0 l its.toArray n dd sl t hi) ⟨ho, ?_⟩⟩)
      refine ⟨.ref s.heap.objs.size, _, I.laid (t' := s.toks) (o := .tup (List.replicate (0 : Int).toNat xs).flatten) (fun b ob q => Heap.get?_push_of_some _ q) (Nat.le_refl _) ?_, rfl, key _ (I.hok.fresh (Nat.le_refl _))⟩
      exact ⟨Nat.zero_le _, [], .nil, IsTup.new _ _⟩
/-! isinstance of the error that a suite holds -/
/-- its dict, if it has one, is tracked -/
def XD (H : Hp) (d : Option Addr) : Prop := ∀ dd, d = some dd → ∃ fs, H dd = some (.xd fs)
def rIsX (K : PySem.W.Frag) (cls : Value) (d : Option Addr) (a : Addr) : List V → Hp → VK → Prop := fun xs H Q => ∃ (D : Addr) (c : V) (cv : Value) (b : Bool), xs = [.ref a, c] ∧ cls = .ref D ∧ ExcC K D ∧ XD H d ∧ ClsV c cv ∧ PySem.W.kitOne K (.ref D) cv = some b ∧ Q (.bl b) H
def rIsXT (K : PySem.W.Frag) (cls : Value) (d : Option Addr) (a : Addr) : List V → Hp → VK → Prop := fun xs H Q => ∃ (D tp : Addr) (cs : List V) (us : List Value) (b : Bool), xs = [.ref a, .ref tp] ∧ cls = .ref D ∧ ExcC K D ∧ XD H d ∧ H tp = some (.tup cs) ∧ Paired ClsV cs us ∧ PySem.W.kitAny K (.ref D) us = some b ∧ Q (.bl b) H
theorem xinst {a D : Addr} {oe : Obj} {d : Option Addr} {pn pins : List (Addr × Obj)} {s : Shared} {σ : L2.St} {H : Hp} (hz : Zc (.ref D) d oe) (hf : ∃ vs, oe.data = .fields vs) (I : Inv (X.suite a ((a, oe) :: pn)) pins σ H s) (hd : XD H d) :
    ∃ od, PySem.W.InstAt s.heap a oe D od := by
  obtain ⟨hget, _⟩ := I.pin (a, oe) (List.mem_append.mpr (.inl List.mem_cons_self))
  obtain ⟨vs, hv⟩ := hf
  obtain ⟨oc, od, oda, osl⟩ := oe
  obtain ⟨h1, h2⟩ := hz
  dsimp only at h1 h2 hv
  subst h1 h2 hv
  cases od with
  | none => exact ⟨none, hget, rfl, rfl, trivial⟩
  | some dd =>
    obtain ⟨fs, e⟩ := hd dd rfl
    obtain ⟨mA, hns, hr⟩ := (show ObjOk X.prog X.w H s.heap dd (.xd fs) from I.hok dd _ e)
    obtain ⟨o, es, ep, ho, _⟩ := hns
    exact ⟨some o, hget, rfl, rfl, ho⟩
theorem call_isX {a : Addr} {oe : Obj} {cls : Value} {d : Option Addr} {pn : List (Addr × Obj)} (hz : Zc cls d oe) (hf : ∃ vs, oe.data = .fields vs) : CallR (X.suite a ((a, oe) :: pn)) (.builtin "isinstance") (rIsX X.K cls d a) := by
  intro pins s σ H xs us Q I r h
  obtain ⟨D, c, cv, b, rfl, rfl, C, hd, k, e, q⟩ := h
  obtain ⟨u1, u2, rfl, r1, r2⟩ := vals2 r
  have e2 := k.eq r2
  subst e2
  cases (show u1 = Value.ref a from r1)
  obtain ⟨od, J⟩ := xinst hz hf I hd
  have hcl : (PySem.W.clsIn X.K D).isSome = true := by
    obtain ⟨cd, hc, _⟩ := PySem.W.any_some C.hd
    rw [hc] <;> rfl
  exact PySem.W.kia_one (PySem.W.kitx_exc hcl C.hg C.hk C.hs C.ha C.hn C.ht C.hm) I.kIn J e (fun z => nomatch z) fun tk => ⟨.bl b, H, I.kept (t' := tk) fun _ _ z => z, rfl, q⟩
theorem call_isXT {a : Addr} {oe : Obj} {cls : Value} {d : Option Addr} {pn : List (Addr × Obj)} (hz : Zc cls d oe) (hf : ∃ vs, oe.data = .fields vs) : CallR (X.suite a ((a, oe) :: pn)) (.builtin "isinstance") (rIsXT X.K cls d a) := by
  intro pins s σ H xs us Q I r h
  obtain ⟨D, tp, cs, ws, b, rfl, rfl, C, hd, hT, k, e, q⟩ := h
  obtain ⟨u1, u2, rfl, r1, r2⟩ := vals2 r
  cases (show u2 = Value.ref tp from r2)
  cases (show u1 = Value.ref a from r1)
  obtain ⟨od, J⟩ := xinst hz hf I hd
  have hcl : (PySem.W.clsIn X.K D).isSome = true := by
    obtain ⟨cd, hc, _⟩ := PySem.W.any_some C.hd
    rw [hc] <;> rfl
  obtain ⟨_, its, rv, o, h1, h2, n, h3⟩ := (show ObjOk X.prog X.w H s.heap tp (.tup cs) from I.hok tp _ hT)
  have e3 := ClsV.all k rv
  subst e3
  obtain ⟨oc, od', dt, sl⟩ := o
  simp only at h2 h3
  subst h2 h3
  exact PySem.W.kia_tup (PySem.W.kitx_exc hcl C.hg C.hk C.hs C.ha C.hn C.ht C.hm) I.kIn J h1 e (fun z => nomatch z) fun tk => ⟨.bl b, H, I.kept (t' := tk) fun _ _ z => z, rfl, q⟩
/-- range(n) as a value -/
theorem cr_range1 : CallR X (.type "range") (fun vs H Q => ∃ j, vs = [V.int j] ∧ ∀ p H', H p = none → (∀ a o, H a = some o → H' a = some o) → Q (.ref p) H') := by
  intro pins s σ H vs us Q I r h
  obtain ⟨j, rfl, q⟩ := h
  obtain ⟨u1, rfl, ri⟩ := vals1 r
  obtain ⟨t, rfl⟩ := ri
  have hn := I.hok.fresh (Nat.le_refl s.heap.objs.size)
  refine call_range_1 ⟨.ref s.heap.objs.size, upd H s.heap.objs.size (.rng 0 j), I.laid (t' := s.toks + 2) (fun b o e => Heap.get?_push_of_some _ e) (Nat.le_refl _) ?_, rfl, q _ _ hn fun a o e => by rw [upd_ne (ne_of_none e hn)]; exact e⟩
  exact ⟨_, _, _, Heap.get?_push_size _ rfl⟩
end
end K69
namespace K69
open PySem PySem.Spec PyProof.Rows L2
open Evl (Ex)
/-! ### data that never changes: tuples of tuples -/
abbrev vN (l : List Nat) : List V := l.map fun n : Nat => V.int (n : Int)
mutual
inductive TD (H : Hp) : V → PyData → Prop where
  | non : TD H .non .none
  | bl (b : Bool) : TD H (.bl b) (.bool b)
  | int (i : Int) : TD H (.int i) (.int i)
  | str (x : Str) : TD H (.str x) (.str x)
  | tup {a : Addr} {xs : List V} {ds : List PyData} : H a = some (.tup xs) → TDs H xs ds → TD H (.ref a) (.tuple ds)
inductive TDs (H : Hp) : List V → List PyData → Prop where
  | nil : TDs H [] []
  | cons {v : V} {vs : List V} {d : PyData} {ds : List PyData} : TD H v d → TDs H vs ds → TDs H (v :: vs) (d :: ds)
end
/-- what a step keeps of what never changes: all but lists -/
def Kp (H H' : Hp) : Prop := ∀ a o, H a = some o → (∀ xs, o ≠ .lst xs) → H' a = some o
theorem Kp.refl (H : Hp) : Kp H H := fun _ _ h _ => h
theorem Kp.trans {H H1 H2 : Hp} (a : Kp H H1) (b : Kp H1 H2) : Kp H H2 := fun x o h n => b x o (a x o h n) n
theorem kp_ex {H H' : Hp} (e : Ex H H') : Kp H H' := fun a o h _ => e a o h
theorem Kp.tup {H H' : Hp} (k : Kp H H') {a : Addr} {xs : List V} (h : H a = some (.tup xs)) : H' a = some (.tup xs) := k a _ h fun _ z => by cases z
theorem Kp.ins {H H' : Hp} (k : Kp H H') {a C dx : Addr} {fs : List (Str × V)} (h : H a = some (.ins C dx fs)) : H' a = some (.ins C dx fs) := k a _ h fun _ z => by cases z
/-- all is kept but the lists at S -/
def ExS (S : List Addr) (H H' : Hp) : Prop := ∀ a o, H a = some o → a ∉ S → H' a = some o
theorem ExS.refl (S : List Addr) (H : Hp) : ExS S H H := fun _ _ h _ => h
theorem ExS.trans {S : List Addr} {H H1 H2 : Hp} (a : ExS S H H1) (b : ExS S H1 H2) : ExS S H H2 := fun x o h n => b x o (a x o h n) n
theorem exS_ex {S : List Addr} {H H' : Hp} (e : Ex H H') : ExS S H H' := fun a o h _ => e a o h
theorem exS_mono {S S' : List Addr} {H H' : Hp} (e : ExS S H H') (h : ∀ a ∈ S, a ∈ S') : ExS S' H H' := fun a o q n => e a o q fun z => n (h a z)
theorem kp_exS {S : List Addr} {H H' : Hp} (e : ExS S H H') (h : ∀ a ∈ S, ∃ xs, H a = some (.lst xs)) : Kp H H' := fun a o q n => e a o q fun z => by
  obtain ⟨xs, e2⟩ := h a z
  rw [q] at e2
  exact n xs (Option.some.inj e2)
theorem exS_upd {H : Hp} {a : Addr} {o : HO} : ExS [a] H (upd H a o) := fun b u h n => by
  rw [upd_ne (by simpa using n)]
  exact h
theorem ex_upd {H : Hp} {p : Addr} {o : HO} (h : H p = none) : Ex H (upd H p o) := Evl.Ex.new h
mutual
theorem TD.kp {H H' : Hp} (k : Kp H H') : ∀ {v : V} {d : PyData}, TD H v d → TD H' v d
  | _, _, .non => .non
  | _, _, .bl b => .bl b
  | _, _, .int i => .int i
  | _, _, .str x => .str x
  | _, _, .tup h t => .tup (k.tup h) (TDs.kp k t)
theorem TDs.kp {H H' : Hp} (k : Kp H H') : ∀ {vs : List V} {ds : List PyData}, TDs H vs ds → TDs H' vs ds
  | _, _, .nil => .nil
  | _, _, .cons h t => .cons (TD.kp k h) (TDs.kp k t)
end
theorem TD.ex {H H' : Hp} {v : V} {d : PyData} (h : TD H v d) (e : Ex H H') : TD H' v d := h.kp (kp_ex e)
theorem TDs.ex {H H' : Hp} {v : List V} {d : List PyData} (h : TDs H v d) (e : Ex H H') : TDs H' v d := h.kp (kp_ex e)
mutual
theorem TD.dp {K : PySem.W.Frag} {H : Hp} : ∀ {v : V} {d : PyData}, TD H v d → Dp K H v d
  | _, _, .non => .non
  | _, _, .bl b => .bl b
  | _, _, .int i => .int i
  | _, _, .str x => .str x
  | _, _, .tup h t => .tup (SqT.of h) (TDs.dp t)
theorem TDs.dp {K : PySem.W.Frag} {H : Hp} : ∀ {vs : List V} {ds : List PyData}, TDs H vs ds → DpAll K H vs ds
  | _, _, .nil => .nil
  | _, _, .cons h t => .cons (TD.dp h) (TDs.dp t)
end
theorem TD.tup_inv {H : Hp} {v : V} {ds : List PyData} (h : TD H v (.tuple ds)) : ∃ a xs, v = .ref a ∧ H a = some (.tup xs) ∧ TDs H xs ds := by
  cases h with
  | tup h t => exact ⟨_, _, rfl, h, t⟩
theorem TD.int_inv {H : Hp} {v : V} {i : Int} (h : TD H v (.int i)) : v = .int i := by
  cases h
  rfl
theorem TD.str_inv {H : Hp} {v : V} {x : Str} (h : TD H v (.str x)) : v = .str x := by
  cases h
  rfl
theorem TDs.cons_inv {H : Hp} {vs : List V} {d : PyData} {ds : List PyData} (h : TDs H vs (d :: ds)) : ∃ x xs, vs = x :: xs ∧ TD H x d ∧ TDs H xs ds := by
  cases h with
  | cons a b => exact ⟨_, _, rfl, a, b⟩
theorem TDs.nil_inv {H : Hp} {vs : List V} (h : TDs H vs []) : vs = [] := by
  cases h
  rfl
theorem TDs.len {H : Hp} : ∀ {vs : List V} {ds : List PyData}, TDs H vs ds → vs.length = ds.length
  | _, _, .nil => rfl
  | _, _, .cons _ t => by rw [List.length_cons, List.length_cons, TDs.len t]
theorem TDs.at {H : Hp} : ∀ {vs : List V} {ds : List PyData} {i : Nat} {d : PyData}, TDs H vs ds → ds[i]? = some d → ∃ v, vs[i]? = some v ∧ TD H v d
  | _, _, i, d, .nil, h => by simp at h
  | _, _, 0, d, .cons a t, h => by
    have e := Option.some.inj (show some _ = some d from h)
    subst e
    exact ⟨_, rfl, a⟩
  | _, _, i + 1, d, .cons a t, h => TDs.at (i := i) t h
theorem TDs.at' {H : Hp} : ∀ {vs : List V} {ds : List PyData} {i : Nat} {v : V}, TDs H vs ds → vs[i]? = some v → ∃ d, ds[i]? = some d ∧ TD H v d
  | _, _, i, d, .nil, h => by simp at h
  | _, _, 0, d, .cons a t, h => by
    have e := Option.some.inj (show some _ = some d from h)
    subst e
    exact ⟨_, rfl, a⟩
  | _, _, i + 1, d, .cons a t, h => TDs.at' (i := i) t h
theorem TDs.app {H : Hp} : ∀ {vs ws : List V} {ds es : List PyData}, TDs H vs ds → TDs H ws es → TDs H (vs ++ ws) (ds ++ es)
  | _, _, _, _, .nil, t => t
  | _, _, _, _, .cons a s, t => .cons a (TDs.app s t)
theorem TDs.drop {H : Hp} : ∀ {vs : List V} {ds : List PyData} (n : Nat), TDs H vs ds → TDs H (vs.drop n) (ds.drop n)
  | _, _, 0, t => t
  | _, _, _ + 1, .nil => .nil
  | _, _, n + 1, .cons _ t => TDs.drop n t
theorem TDs.take {H : Hp} : ∀ {vs : List V} {ds : List PyData} (n : Nat), TDs H vs ds → TDs H (vs.take n) (ds.take n)
  | _, _, 0, _ => .nil
  | _, _, _ + 1, .nil => .nil
  | _, _, n + 1, .cons a t => .cons a (TDs.take n t)
/-- ints as data -/
abbrev dN (l : List Nat) : PyData := .tuple (l.map fun n : Nat => PyData.int (n : Int))
abbrev dI (l : List Int) : PyData := .tuple (l.map PyData.int)
theorem tds_int {H : Hp} : ∀ (l : List Int), TDs H (l.map V.int) (l.map PyData.int)
  | [] => .nil
  | i :: l => .cons (.int i) (tds_int l)
theorem tds_nat {H : Hp} : ∀ (l : List Nat), TDs H (vN l) (l.map fun n : Nat => PyData.int (n : Int))
  | [] => .nil
  | i :: l => .cons (.int _) (tds_nat l)
theorem tds_int_inv {H : Hp} : ∀ {l : List Int} {vs : List V}, TDs H vs (l.map PyData.int) → vs = l.map V.int
  | [], _, h => h.nil_inv
  | i :: l, _, h => by
    obtain ⟨x, xs, rfl, a, b⟩ := h.cons_inv
    rw [a.int_inv, tds_int_inv b] <;> rfl
theorem tds_nat_inv {H : Hp} : ∀ {l : List Nat} {vs : List V}, TDs H vs (l.map fun n : Nat => PyData.int (n : Int)) → vs = vN l
  | [], _, h => h.nil_inv
  | i :: l, _, h => by
    obtain ⟨x, xs, rfl, a, b⟩ := h.cons_inv
    rw [a.int_inv, tds_nat_inv b] <;> rfl
theorem td_nat {H : Hp} {a : Addr} {l : List Nat} (h : H a = some (.tup (vN l))) : TD H (.ref a) (dN l) := .tup h (tds_nat l)
theorem td_nat_inv {H : Hp} {v : V} {l : List Nat} (h : TD H v (dN l)) : ∃ a, v = .ref a ∧ H a = some (.tup (vN l)) := by
  obtain ⟨a, xs, rfl, h1, h2⟩ := h.tup_inv
  rw [tds_nat_inv h2] at h1
  exact ⟨a, rfl, h1⟩
theorem td_int {H : Hp} {a : Addr} {l : List Int} (h : H a = some (.tup (l.map V.int))) : TD H (.ref a) (dI l) := .tup h (tds_int l)
theorem td_int_inv {H : Hp} {v : V} {l : List Int} (h : TD H v (dI l)) : ∃ a, v = .ref a ∧ H a = some (.tup (l.map V.int)) := by
  obtain ⟨a, xs, rfl, h1, h2⟩ := h.tup_inv
  rw [tds_int_inv h2] at h1
  exact ⟨a, rfl, h1⟩
theorem vN_at {l : List Nat} {i n : Nat} (h : l[i]? = some n) : (vN l)[i]? = some (.int (n : Int)) := by
  rw [List.getElem?_map, h] <;> rfl
theorem vN_len (l : List Nat) : (vN l).length = l.length := List.length_map _
theorem atN {xs : List V} {i : Nat} {v : V} (h : xs[i]? = some v) : atI xs (i : Int) = some v := atI_nat h
/-! ### new objects, told by what is known of the heap behind -/
theorem al_tup {xs : List V} {H : Hp} {Q : VK} (h : xs.length ≤ 100000) (k : ∀ p H', H p = none → Ex H H' → H' p = some (.tup xs) → Q (.ref p) H') : xs.length ≤ sizeLine ∧ ∀ p, H p = none → Q (.ref p) (upd H p (.tup xs)) :=
  ⟨Evl.sz_of h, fun p hp => k p _ hp (ex_upd hp) upd_same⟩
theorem al_lst {xs : List V} {H : Hp} {Q : VK} (h : xs.length ≤ 100000) (k : ∀ p H', H p = none → Ex H H' → H' p = some (.lst xs) → Q (.ref p) H') : xs.length ≤ sizeLine ∧ ∀ p, H p = none → Q (.ref p) (upd H p (.lst xs)) :=
  ⟨Evl.sz_of h, fun p hp => k p _ hp (ex_upd hp) upd_same⟩
theorem al_any {o : HO} {H : Hp} {Q : VK} (k : ∀ p H', H p = none → Ex H H' → H' p = some o → Q (.ref p) H') : ∀ p, H p = none → Q (.ref p) (upd H p o) :=
  fun p hp => k p _ hp (ex_upd hp) upd_same
/-! ### defs by their names -/
section
variable {P : Program} {w : World} {K : PySem.W.Frag} {mg : Str → Option Value} {base : Heap}
/-- a def of the module as it stands behind the top -/
structure Df (K : PySem.W.Frag) (mg : Str → Option Value) (x : Str) (st : Stmt) : Prop where
  fn : ∃ f fd, FunD K x x (defArgs st) (defBody st) (defScope st) [] [] f fd ∧ mg x = some (.ref f)
/-- a def that may be called by its name, and its promise -/
structure Cal (P : Program) (w : World) (K : PySem.W.Frag) (mg : Str → Option Value) (base : Heap) (CX : CXT) (k : Nat) (x : Str) (ps : List Str) (sp : Sp) : Prop where
  ex : ∃ (f : Addr) (fd : FuncData), FnOk P w K mg base CX k f fd ps sp ∧ mg x = some (.ref f) ∧ PySem.W.keepIn K (.ref f) = true ∧ Binds K fd ps []
theorem Cal.mono {CX : CXT} {j k : Nat} {x : Str} {ps : List Str} {sp : Sp} (c : Cal P w K mg base CX j x ps sp) (h : j ≤ k) : Cal P w K mg base CX k x ps sp := by
  obtain ⟨f, fd, F, m, kp, b⟩ := c.ex
  exact ⟨f, fd, F.mono h, m, kp, b⟩
theorem Cal.imp {CX : CXT} {k : Nat} {x : Str} {ps : List Str} {sp sp' : Sp} (c : Cal P w K mg base CX k x ps sp) (h : ∀ vs H Q E, sp' vs H Q E → sp vs H Q E) : Cal P w K mg base CX k x ps sp' := by
  obtain ⟨f, fd, F, m, kp, b⟩ := c.ex
  exact ⟨f, fd, F.imp h, m, kp, b⟩
abbrev BindsBy (x : Str) (st : Stmt) (ps : List Str) : Prop :=
  ∀ (kV doc pm : Value) (an : Option Addr) (cdv ct : Value) (us : List Value), us.length = ps.length → bindArgs (PySem.W.fnOf x x (defArgs st) (defBody st) (defScope st) .none kV doc pm an cdv ct) ⟨us, []⟩ = pure (ps.zip us)
/-- THE RULE for a def that raises nothing -/
theorem mkCal {x : Str} {st : Stmt} {N ps : List Str} {k : Nat} {sp : Sp} (D : Df K mg x st) (S : FnScope N ps (defScope st)) (hb : BindsBy x st ps) (len : ∀ vs H Q E, sp vs H Q E → vs.length = ps.length)
    (hbody : ∀ (f : Addr) (cdv : Value) (A : Around) (outer : List Env) (s : Shared) (H : Hp) (vs : List V) (Q : VK) (E : XK), Room k (A.deeper (envOfC x (defScope st) s.heap.objs.size f cdv)) → sp vs H Q E →
      ∃ t, PSs (cxOf CX0 P w K mg base N x (defScope st) f cdv A outer s H E).nox (defBody st) t ∧ t { nx := fun _ H' => Q .non H', rt := Q } (start N vs) H) : Cal P w K mg base CX0 (k + 1) x ps sp := by
  obtain ⟨f, fd, F, m⟩ := D.fn
  refine ⟨f, fd, F.ok S len fun cdv A outer s H vs Q E hr h => ?_, m, F.kp, F.bindsN hb⟩
  obtain ⟨t, h1, h2⟩ := hbody f cdv A outer s H vs Q E hr h
  exact ⟨t, h1.nox, h2⟩
/-- .. that may raise -/
theorem mkCalX {x : Str} {st : Stmt} {N ps : List Str} {k : Nat} {sp : Sp} (D : Df K mg x st) (S : FnScope N ps (defScope st)) (hb : BindsBy x st ps) (len : ∀ vs H Q E, sp vs H Q E → vs.length = ps.length)
    (hbody : ∀ (f : Addr) (cdv : Value) (A : Around) (outer : List Env) (s : Shared) (H : Hp) (vs : List V) (Q : VK) (E : XK), Room k (A.deeper (envOfC x (defScope st) s.heap.objs.size f cdv)) → sp vs H Q E →
      ∃ t, PSs (cxOf (L2.CX P w) P w K mg base N x (defScope st) f cdv A outer s H E) (defBody st) t ∧ t { nx := fun _ H' => Q .non H', rt := Q } (start N vs) H) : Cal P w K mg base (L2.CX P w) (k + 1) x ps sp := by
  obtain ⟨f, fd, F, m⟩ := D.fn
  exact ⟨f, fd, F.ok S len fun cdv A outer s H vs Q E hr h => hbody f cdv A outer s H vs Q E hr h, m, F.kp, F.bindsN hb⟩
end
def tCal (sp : Sp) (t : TA) : TE := fun σ H Q => t σ H fun vs H1 => sp vs H1 Q E0
theorem pe_cal {X : Cx} {k j : Nat} {x : Str} {ps : List Str} {sp : Sp} {p pos : Pos} {e : Expr} {es : List Expr} {t : TA} (C : Cal X.prog X.w X.K X.mg X.base CX0 k x ps sp) (hr : Room j X.A) (hk : k ≤ j) (ha : PA X (e :: es) t) (hg : Gl X x := by rfl)
    (hdb : (x == ("__debug__" : Str)) = false := by decide) (he : starEach (e :: es) X.env = (false, eval e X.env) :: starEach es X.env := by rfl) (hpl : (backTo pos (starEach es X.env)).any (·.1) = false := by rfl) :
    PE X (.Call (.Name x p) (e :: es) [] pos) (tCal sp t) := by
  obtain ⟨f, fd, F, m, kp, b⟩ := C.ex
  have z := pe_call (pos := pos) (p := p) F (hr.mono hk) hg m kp b .nil pass0 ha hdb he hpl
  have e1 : tCall sp [] E0 t = tCal sp t := by
    funext σ H Q
    show (t σ H fun vs H1 => sp (vs ++ []) H1 Q E0) = t σ H fun vs H1 => sp vs H1 Q E0
    simp only [List.append_nil]
  rw [← e1]
  exact z
theorem pe_calX {X : Cx} {k j : Nat} {x : Str} {ps : List Str} {sp : Sp} {p pos : Pos} {e : Expr} {es : List Expr} {t : TA} (C : Cal X.prog X.w X.K X.mg X.base (L2.CX X.prog X.w) k x ps sp) (hr : Room j X.A) (hk : k ≤ j) (ha : PA X (e :: es) t) (hg : Gl X x := by rfl)
    (hdb : (x == ("__debug__" : Str)) = false := by decide) (he : starEach (e :: es) X.env = (false, eval e X.env) :: starEach es X.env := by rfl) (hpl : (backTo pos (starEach es X.env)).any (·.1) = false := by rfl) :
    PE X (.Call (.Name x p) (e :: es) [] pos) (tCal sp t) := by
  obtain ⟨f, fd, F, m, kp, b⟩ := C.ex
  have z := pe_call (pos := pos) (p := p) F (hr.mono hk) hg m kp b .nil passL ha hdb he hpl
  have e1 : tCall sp [] E0 t = tCal sp t := by
    funext σ H Q
    show (t σ H fun vs H1 => sp (vs ++ []) H1 Q E0) = t σ H fun vs H1 => sp vs H1 Q E0
    simp only [List.append_nil]
  rw [← e1]
  exact z
end K69
namespace K69
open PySem PySem.Spec PyProof.Rows L2
open Evl (Ex)
/-- what the walk leans on of the text as the top has left it -/
structure Txt (K : PySem.W.Frag) (mg : Str → Option Value) (w : World) : Prop where
  d_count_choices : Df K mg "count_choices" (topS 13)
  d_is_small : Df K mg "is_small" (topS 21)
  d_is_below : Df K mg "is_below" (topS 22)
  d_check_numbers : Df K mg "check_numbers" (topS 24)
  d_check_head : Df K mg "check_head" (topS 28)
  d_check_aim : Df K mg "check_aim" (topS 29)
  d_ranked : Df K mg "ranked" (topS 48)
  d_simple_good : Df K mg "simple_good" (topS 50)
  d_good_options : Df K mg "good_options" (topS 52)
  d_check_tree : Df K mg "check_tree" (topS 59)
  d_scan_tree : Df K mg "scan_tree" (topS 60)
  d_dense_ranks : Df K mg "dense_ranks" (topS 62)
  d_opposite_ranks : Df K mg "opposite_ranks" (topS 63)
  d_node_sides : Df K mg "node_sides" (topS 65)
  d_told_behind : Df K mg "told_behind" (topS 66)
  d_node_winners : Df K mg "node_winners" (topS 67)
  d_root_winner : Df K mg "root_winner" (topS 68)
  d_duel_winner : Df K mg "duel_winner" (topS 69)
  d_threshold_tree : Df K mg "threshold_tree" (topS 70)
  d_threshold_duel : Df K mg "threshold_duel" (topS 71)
  d_child_lots : Df K mg "child_lots" (topS 73)
  d_good_contexts : Df K mg "good_contexts" (topS 74)
  d_option_lots : Df K mg "option_lots" (topS 75)
  d_walk_lots : Df K mg "walk_lots" (topS 76)
  d_value_lots : Df K mg "value_lots" (topS 77)
  d_game_value : Df K mg "game_value" (topS 78)
  d__law_start : Df K mg "_law_start" (topS 80)
  d__law_pick : Df K mg "_law_pick" (topS 81)
  d__law_same : Df K mg "_law_same" (topS 82)
  d__law_dense : Df K mg "_law_dense" (topS 83)
  d__law_spaced : Df K mg "_law_spaced" (topS 84)
  d__law_sided_tree : Df K mg "_law_sided_tree" (topS 85)
  d__law_value : Df K mg "_law_value" (topS 86)
  d__law_threshold : Df K mg "_law_threshold" (topS 87)
  d__law_count : Df K mg "_law_count" (topS 88)
  d__law_with_aim : Df K mg "_law_with_aim" (topS 89)
  d__law_wrong_aim : Df K mg "_law_wrong_aim" (topS 90)
  d__law_refused : Df K mg "_law_refused" (topS 91)
  d__law_holds : Df K mg "_law_holds" (topS 92)
  z_len : mg "len" = none
  z_isinstance : mg "isinstance" = none
  z_tuple : mg "tuple" = none
  z_max : mg "max" = none
  z_min : mg "min" = none
  z_list : mg "list" = none
  z_int : mg "int" = none
  z_any : mg "any" = none
  z_all : mg "all" = none
  z_sum : mg "sum" = none
  z_sorted : mg "sorted" = none
  z_set : mg "set" = none
  z_enumerate : mg "enumerate" = none
  z_range : mg "range" = none
  z_str : mg "str" = none
  z_bool : mg "bool" = none
  i_MOST_AIM_LEVELS : ∃ t, mg "MOST_AIM_LEVELS" = some (.int 6 t)
  i_MOST_RANK : ∃ t, mg "MOST_RANK" = some (.int 9 t)
  i_MOST_SMALL_OPTIONS : ∃ t, mg "MOST_SMALL_OPTIONS" = some (.int 8 t)
  i_MOST_CONTEXTS : ∃ t, mg "MOST_CONTEXTS" = some (.int 256 t)
  i_MOST_OPTIONS : ∃ t, mg "MOST_OPTIONS" = some (.int 64 t)
  i_MOST_OUTCOMES : ∃ t, mg "MOST_OUTCOMES" = some (.int 4 t)
  i_MOST_PLAYERS : ∃ t, mg "MOST_PLAYERS" = some (.int 8 t)
  g_Aim : mg "Aim" = some (.ref (He.ga K "Aim"))
  c_Aim : Cls K (He.ga K "Aim")
  m_Aim : ∃ f fd, Mk K (He.ga K "Aim") f ∧ FunD K "__init__" "Aim.__init__" (defArgs (inClass (topS 53) 0)) (defBody (inClass (topS 53) 0)) (defScope (inClass (topS 53) 0)) [] [] f fd
  n_Aim_term : NoAttr K (He.ga K "Aim") "term"
  n_Aim_options : NoAttr K (He.ga K "Aim") "options"
  n_Aim_outcomes : NoAttr K (He.ga K "Aim") "outcomes"
  g_Node : mg "Node" = some (.ref (He.ga K "Node"))
  c_Node : Cls K (He.ga K "Node")
  m_Node : ∃ f fd, Mk K (He.ga K "Node") f ∧ FunD K "__init__" "Node.__init__" (defArgs (inClass (topS 57) 0)) (defBody (inClass (topS 57) 0)) (defScope (inClass (topS 57) 0)) [] [] f fd
  n_Node_way : NoAttr K (He.ga K "Node") "way"
  n_Node_player : NoAttr K (He.ga K "Node") "player"
  n_Node_aim : NoAttr K (He.ga K "Node") "aim"
  n_Node_children : NoAttr K (He.ga K "Node") "children"
  g_Game : mg "Game" = some (.ref (He.ga K "Game"))
  c_Game : Cls K (He.ga K "Game")
  m_Game : ∃ f fd, Mk K (He.ga K "Game") f ∧ FunD K "__init__" "Game.__init__" (defArgs (inClass (topS 58) 3)) (defBody (inClass (topS 58) 3)) (defScope (inClass (topS 58) 3)) [] [] f fd
  n_Game_outcomes : NoAttr K (He.ga K "Game") "outcomes"
  n_Game_tree : NoAttr K (He.ga K "Game") "tree"
  n_Game_nodes : NoAttr K (He.ga K "Game") "nodes"
  n_Game_ends : NoAttr K (He.ga K "Game") "ends"
  g_ChoosersError : mg "ChoosersError" = some (.ref (He.ga K "ChoosersError"))
  g_OutOfRange : mg "OutOfRange" = some (.ref (He.ga K "OutOfRange"))
  g_SizeMismatch : mg "SizeMismatch" = some (.ref (He.ga K "SizeMismatch"))
  g_NotDuel : mg "NotDuel" = some (.ref (He.ga K "NotDuel"))
  g_InvalidAim : mg "InvalidAim" = some (.ref (He.ga K "InvalidAim"))
  g_LENGTHS : mg "LENGTHS" = some (.ref (He.ga K "LENGTHS"))
  k_LENGTHS : ∃ es n, KDict K w (He.ga K "LENGTHS") es n
  l_most : ∃ u, PySem.W.nsIn K (He.ga K "LENGTHS") "most" = some (some u) ∧ RelV (.int 1) u
  l_any : ∃ u, PySem.W.nsIn K (He.ga K "LENGTHS") "any" = some (some u) ∧ RelV (.int 1) u
  l_first : ∃ u, PySem.W.nsIn K (He.ga K "LENGTHS") "first" = some (some u) ∧ RelV (.int 2) u
  l_best : ∃ u, PySem.W.nsIn K (He.ga K "LENGTHS") "best" = some (some u) ∧ RelV (.int 2) u
  l_second : ∃ u, PySem.W.nsIn K (He.ga K "LENGTHS") "second" = some (some u) ∧ RelV (.int 2) u
  l_not : ∃ u, PySem.W.nsIn K (He.ga K "LENGTHS") "not" = some (some u) ∧ RelV (.int 2) u
  r_Game : ClX.CRead K (He.ga K "Game") (.type "type")
  v_MOST_NODES : ∃ u, ClX.CVal K (He.ga K "Game") (.type "type") "MOST_NODES" (.int 30) u
  v_MOST_LEAVES : ∃ u, ClX.CVal K (He.ga K "Game") (.type "type") "MOST_LEAVES" (.int 60) u
  v_MOST_LEVELS : ∃ u, ClX.CVal K (He.ga K "Game") (.type "type") "MOST_LEVELS" (.int 12) u

theorem pe_gint {X : Cx} {x : Str} {v : Int} {pos : Pos} (h : ∃ t, X.mg x = some (.int v t)) (hg : Gl X x := by rfl) (hd : (x == ("__debug__" : Str)) = false := by decide) : PE X (.Name x pos) (tC (.int v)) := by
  obtain ⟨t, h⟩ := h
  exact pe_glob hg h ⟨t, rfl⟩ hd
theorem pe_gref {X : Cx} {x : Str} {a : Addr} {pos : Pos} (h : X.mg x = some (.ref a)) (hg : Gl X x := by rfl) (hd : (x == ("__debug__" : Str)) = false := by decide) : PE X (.Name x pos) (tC (.ref a)) := pe_glob hg h rfl hd
end K69
namespace K69
open PySem PySem.Spec PyProof.Rows L2
open Evl (Ex given)
/-! ### rules whose answers tell of the heap behind by what it keeps -/
section
variable {X : Cx} {e : Expr} {es : List Expr} {te : TE} {ta : TA}
def upE (t : TE) : TE := fun σ H Q => ∃ R : VK, t σ H R ∧ ∀ v H', R v H' → Q v H'
def upA (t : TA) : TA := fun σ H Q => ∃ R : List V → Hp → Prop, t σ H R ∧ ∀ v H', R v H' → Q v H'
theorem PE.of {t t' : TE} (h : PE X e t) (i : ∀ σ H Q, t' σ H Q → t σ H Q) : PE X e t' := ⟨fun pins s σ H Q I q => h.run pins s σ H Q I (i σ H Q q)⟩
theorem PE.up (h : PE X e te) : PE X e (upE te) := ⟨fun pins s σ H Q I ⟨R, q, k⟩ => thn (h.run pins s σ H R I q) fun u s1 ⟨v, H', I', r, z⟩ => ⟨v, H', I', r, k v H' z⟩⟩
theorem PA.up (h : PA X es ta) : PA X es (upA ta) := ⟨fun pos pins s σ H Q I ⟨R, q, k⟩ => thn (h.run pos pins s σ H R I q) fun u s1 ⟨v, H', I', r, z⟩ => ⟨v, H', I', r, k v H' z⟩⟩
def tTupX (t : TA) : TE := fun σ H Q => t σ H fun xs H1 => xs.length ≤ 100000 ∧ ∀ p H2, H1 p = none → Ex H1 H2 → H2 p = some (.tup xs) → Q (.ref p) H2
def tLstX (t : TA) : TE := fun σ H Q => t σ H fun xs H1 => xs.length ≤ 100000 ∧ ∀ p H2, H1 p = none → Ex H1 H2 → H2 p = some (.lst xs) → Q (.ref p) H2
theorem pe_tupX {x1 : Nat} {pos : Pos} (h : PA X es ta) : PE X (.Tuple es x1 pos) (tTupX ta) :=
  PE.of (pe_tup (PA.up h)) fun σ H Q q => ⟨_, q, fun xs H1 ⟨z, k⟩ => ⟨Evl.sz_of z, fun p hp => k p _ hp (ex_upd hp) upd_same⟩⟩
theorem pe_lstX {pos : Pos} (h : PA X es ta) : PE X (.List es pos) (tLstX ta) :=
  PE.of (pe_lst (PA.up h)) fun σ H Q q => ⟨_, q, fun xs H1 ⟨z, k⟩ => ⟨Evl.sz_of z, fun p hp => k p _ hp (ex_upd hp) upd_same⟩⟩
/-- t + u -/
def rCatX : R2 := fun x y H Q => ∃ a b xs ys, x = .ref a ∧ y = .ref b ∧ H a = some (.tup xs) ∧ H b = some (.tup ys) ∧ xs.length + ys.length ≤ 100000 ∧ ∀ p H', Ex H H' → H' p = some (.tup (xs ++ ys)) → Q (.ref p) H'
theorem op_catX : OpR X (binaryOp .Add) rCatX := by
  intro pins s σ H x y v u Q I rx ry h
  obtain ⟨a, b, xs, ys, rfl, rfl, ha, hb, hz, q⟩ := h
  refine op_catA pins s σ H _ _ v u Q I rx ry ⟨a, b, xs, ys, rfl, rfl, SqT.of ha, SqT.of hb, Evl.sz_of hz, fun e => ?_, fun _ e => ?_, fun _ _ p hp => ?_⟩
  · subst e
    exact q b H (Ex.refl H) hb
  · subst e
    refine q a H (Ex.refl H) ?_
    rw [List.append_nil]
    exact ha
  · exact q p _ (ex_upd hp) upd_same
/-- xs + ys, lists -/
def rCatL : R2 := fun x y H Q => ∃ a b xs ys, x = .ref a ∧ y = .ref b ∧ H a = some (.lst xs) ∧ H b = some (.lst ys) ∧ xs.length + ys.length ≤ 100000 ∧ ∀ p H', H p = none → Ex H H' → H' p = some (.lst (xs ++ ys)) → Q (.ref p) H'
theorem op_catL : OpR X (binaryOp .Add) rCatL := by
  intro pins s σ H x y v u Q I rx ry h
  obtain ⟨a, b, xs, ys, rfl, rfl, ha, hb, hz, q⟩ := h
  exact op_cat pins s σ H _ _ v u Q I rx ry ⟨a, b, xs, ys, rfl, rfl, ha, hb, Evl.sz_of hz, fun p hp => q p _ hp (ex_upd hp) upd_same⟩
/-- t[lo:hi] -/
def rSlX : V → Option Int → Option Int → Hp → VK → Prop := fun x lo hi H Q => ∃ a xs, x = .ref a ∧ H a = some (.tup xs) ∧ ∀ p H', Ex H H' → H' p = some (.tup (cutV xs lo hi)) → Q (.ref p) H'
theorem sl_tupX : SlR X rSlX := by
  intro pins s σ H x v vl vu lo hi sl Q I rx hs pl pu h
  obtain ⟨a, xs, rfl, ha, q⟩ := h
  refine sl_tupA pins s σ H _ v vl vu lo hi sl Q I rx hs pl pu ⟨a, xs, rfl, SqT.of ha, fun e => ?_, fun _ p hp => q p _ (ex_upd hp) upd_same⟩
  refine q a H (Ex.refl H) ?_
  rw [ha]
  unfold cutV
  rw [e.1, e.2, List.drop_zero, Nat.sub_zero, List.take_length]
/-- tuple(xs), tuple(t); list(xs), list(t) -/
theorem call_tupX : CallR X (.type "tuple") (fun xs H Q => ∃ p ys, xs = [.ref p] ∧ (H p = some (.lst ys) ∨ H p = some (.tup ys)) ∧ ∀ l H', Ex H H' → H' l = some (.tup ys) → Q (.ref l) H') := by
  intro pins s σ H xs us Q I r h
  obtain ⟨p, ys, rfl, h, q⟩ := h
  rcases h with h | h
  · exact call_tuple_of pins s σ H _ us Q I r ⟨p, ys, rfl, .inl ⟨SqL.of h, fun l hl => q l _ (ex_upd hl) upd_same⟩⟩
  · exact call_tuple_of pins s σ H _ us Q I r ⟨p, ys, rfl, .inr ⟨SqT.of h, q p H (Ex.refl H) h⟩⟩
theorem call_lstX : CallR X (.type "list") (fun xs H Q => ∃ p ys, xs = [.ref p] ∧ (SqL X.K H p ys ∨ SqT X.K H p ys) ∧ ∀ l H', H l = none → Ex H H' → H' l = some (.lst ys) → Q (.ref l) H') := by
  intro pins s σ H xs us Q I r h
  obtain ⟨p, ys, rfl, h, q⟩ := h
  exact call_list_of pins s σ H _ us Q I r ⟨p, ys, rfl, h, fun l hl => q l _ hl (ex_upd hl) upd_same⟩
end
/-! ### comprehensions -/
/-- what e gives: a value and heap of which R holds, all else kept -/
def EvQ (te : TE) (σ : L2.St) (H : Hp) (R : V → Hp → Prop) : Prop := ∀ Q : VK, (∀ y H', Ex H H' → R y H' → Q y H') → te σ H Q
def EvB (tt : TT) (σ : L2.St) (H : Hp) (b : Bool) : Prop := ∀ Q : Bool → Hp → Prop, (∀ H', Ex H H' → Q b H') → tt σ H Q
theorem evB_yes {σ : L2.St} {H : Hp} : EvB tYes σ H true := fun _ q => q H (Ex.refl H)
/-- what it asks at a list's birth -/
def lcB (J : It) (g : TG) (tt : TT) (te : TE) (vs : List Nat) (σ : L2.St) (H1 : Hp) (D : Addr) (Qd : Hp → Prop) : Prop :=
  ∃ W : Nat → Nat → Hp → Prop, (∃ m, W 0 m (upd H1 D (.lst []))) ∧ ∀ i m H, W i m H →
    (J.stop i H ∧ Qd H) ∨ (J.go i H ∧ ∃ Nx : Hp → Prop, (∀ H', Nx H' → ∃ m', m' < m ∧ W (i + 1) m' H') ∧ ∀ x H', J.yld i H x H' → g x (wipe σ vs) H' fun σ2 H2 => wipe σ2 vs = wipe σ vs ∧ tt σ2 H2 fun b H3 =>
      if b = true then te σ2 H3 fun y H4 => ∃ acc, H4 D = some (.lst acc) ∧ acc.length < sizeLine ∧ Nx (upd H4 D (.lst (acc ++ [y]))) else Nx H3)
/-- a made list, by its items -/
def LsAt (R : Nat → V → Hp → Prop) (n : Nat) (ys : List V) (H : Hp) : Prop := ys.length = n ∧ ∀ i y, ys[i]? = some y → R i y H
/-- what stays while the list at D alone changes -/
def StD (D : Addr) (R : Nat → V → Hp → Prop) : Prop := ∀ i y H H', ExS [D] H H' → (∃ xs, H D = some (.lst xs)) → R i y H → R i y H'
theorem stD_kp {D : Addr} {R : Nat → V → Hp → Prop} (h : ∀ i y H H', Kp H H' → R i y H → R i y H') : StD D R := fun i y H H' e ⟨xs, hx⟩ r => h i y H H' (kp_exS e fun a ha => by
  rw [List.mem_singleton] at ha
  subst ha
  exact ⟨xs, hx⟩) r
theorem stD_val {D : Addr} {f : Nat → V} : StD D (fun i y _ => y = f i) := fun _ _ _ _ _ _ r => r
theorem LsAt.mono {R : Nat → V → Hp → Prop} {D : Addr} {n : Nat} {ys xs : List V} {H H' : Hp} (st : StD D R) (h : LsAt R n ys H) (e : ExS [D] H H') (hD : H D = some (.lst xs)) : LsAt R n ys H' := ⟨h.1, fun i y q => st i y H H' e ⟨xs, hD⟩ (h.2 i y q)⟩
theorem LsAt.snoc {R : Nat → V → Hp → Prop} {n : Nat} {ys : List V} {H : Hp} {y : V} (h : LsAt R n ys H) (hy : R n y H) : LsAt R (n + 1) (ys ++ [y]) H := by
  obtain ⟨h1, h2⟩ := h
  refine ⟨by rw [List.length_append, h1] <;> rfl, fun i z hz => ?_⟩
  rcases Nat.lt_trichotomy i ys.length with q | q | q
  · rw [List.getElem?_append_left q] at hz
    exact h2 i z hz
  · subst q
    rw [List.getElem?_append_right (Nat.le_refl _), Nat.sub_self] at hz
    have ez : y = z := Option.some.inj hz
    subst ez
    rw [h1]
    exact hy
  · rw [List.getElem?_eq_none_iff.mpr (by rw [List.length_append, List.length_singleton]; omega)] at hz
    cases hz
theorem LsAt.vals {f : Nat → V} {n : Nat} {ys : List V} {H : Hp} (h : LsAt (fun i y _ => y = f i) n ys H) : ys = (List.range n).map f := by
  obtain ⟨h1, h2⟩ := h
  refine List.ext_getElem? fun i => ?_
  rw [List.getElem?_map]
  by_cases hi : i < n
  · have h3 : ys[i]? = some ys[i] := List.getElem?_eq_getElem (by omega)
    rw [List.getElem?_range hi, h3, h2 i _ h3] <;> rfl
  · rw [List.getElem?_eq_none_iff.mpr (by omega), List.getElem?_eq_none_iff.mpr (by rw [List.length_range]; omega)] <;> rfl
/-- [e for x in ..] : every item by R, which stays -/
theorem lcm {J : It} {n : Nat} {G : Hp → Prop} {Y : Nat → Hp → V → Hp → Prop} (w : Walk J n G Y) {te : TE} {vs : List Nat} {σ : L2.St} {H1 : Hp} {D : Addr} {Qd : Hp → Prop} {j : Nat} (It1 : Nat → V → Prop) (hY : ∀ i H x H', Y i H x H' → H' = H ∧ It1 i x)
    (hG : ∀ H H', Ex H H' → G H → G H') (R : Nat → V → Hp → Prop) (st : StD D R) (hD : H1 D = none) (g0 : G H1) (hn : n ≤ 100000) (hw : ∀ x, wipe ((wipe σ vs).set j (some x)) vs = wipe σ vs)
    (hs : ∀ i x H, Ex H1 H → (∃ ys, H D = some (.lst ys)) → i < n → It1 i x → EvQ te ((wipe σ vs).set j (some x)) H (R i)) (hd : ∀ H ys, Ex H1 H → H D = some (.lst ys) → LsAt R n ys H → Qd H) : lcB J (gName j) tYes te vs σ H1 D Qd := by
  refine lc_it w (fun i H => i ≤ n ∧ Ex H1 H ∧ ∃ ys, H D = some (.lst ys) ∧ LsAt R i ys H) ⟨Nat.zero_le _, ex_upd hD, [], upd_same, rfl, fun i y h => by simp at h⟩ (fun i H _ ⟨_, e, _⟩ => hG H1 H e g0) ?_ ?_
  · intro i x H H' hi ⟨_, e, ys, hy, hl⟩ y
    obtain ⟨e1, hx⟩ := hY i H x H' y
    subst e1
    refine ⟨hw x, ?_⟩
    refine hs i x H' e ⟨ys, hy⟩ hi hx _ fun z H4 e4 hz => ⟨ys, e4 _ _ hy, Evl.sz_lt (by rw [hl.1]; omega), hi, ?_, ys ++ [z], upd_same, ?_⟩
    · exact Evl.Ex.mut (e.trans e4) hD
    · exact LsAt.mono st (LsAt.snoc (LsAt.mono st hl (exS_ex e4) hy) hz) exS_upd (e4 _ _ hy)
  · intro H ⟨_, e, ys, hy, hl⟩
    exact hd H ys e hy hl
/-- [v for x in .. if t], the values told -/
theorem lcf {J : It} {n : Nat} {G : Hp → Prop} {Y : Nat → Hp → V → Hp → Prop} (w : Walk J n G Y) {tt : TT} {te : TE} {vs : List Nat} {σ : L2.St} {H1 : Hp} {D : Addr} {Qd : Hp → Prop} {j : Nat} (It1 : Nat → V → Prop) (hY : ∀ i H x H', Y i H x H' → H' = H ∧ It1 i x)
    (hG : ∀ H H', Ex H H' → G H → G H') (f : Nat → Bool) (v : Nat → V) (hD : H1 D = none) (g0 : G H1) (hn : n ≤ 50000) (hw : ∀ x, wipe ((wipe σ vs).set j (some x)) vs = wipe σ vs)
    (ht : ∀ i x H, Ex H1 H → i < n → It1 i x → EvB tt ((wipe σ vs).set j (some x)) H (f i)) (hs : ∀ i x H, Ex H1 H → i < n → It1 i x → f i = true → EvQ te ((wipe σ vs).set j (some x)) H (fun y _ => y = v i))
    (hd : ∀ H, Ex H1 H → H D = some (.lst (given n f v)) → Qd H) : lcB J (gName j) tt te vs σ H1 D Qd := by
  refine lc_it w (fun i H => Ex H1 H ∧ H D = some (.lst (given i f v))) ⟨ex_upd hD, upd_same⟩ (fun i H _ ⟨e, _⟩ => hG H1 H e g0) ?_ ?_
  · intro i x H H' hi ⟨e, hy⟩ y
    obtain ⟨e1, hx⟩ := hY i H x H' y
    subst e1
    refine ⟨hw x, ?_⟩
    refine ht i x H' e hi hx _ fun H3 e3 => ?_
    cases hf : f i with
    | true =>
      refine iteT ?_
      refine hs i x H3 (e.trans e3) hi hx hf _ fun z H4 e4 hz => ⟨given i f v, e4 _ _ (e3 _ _ hy), Evl.sz_lt (by have := Evl.given_len i f v; omega), Evl.Ex.mut ((e.trans e3).trans e4) hD, ?_⟩
      subst hz
      rw [Evl.given_yes hf]
      exact upd_same
    | false =>
      refine iteF ⟨e.trans e3, ?_⟩
      rw [Evl.given_no hf]
      exact e3 _ _ hy
  · intro H ⟨e, hy⟩
    exact hd H e hy
/-! the walks in use -/
theorem yAt {xs : List V} : ∀ i H x H', YAt xs i H x H' → H' = H ∧ xs[i]? = some x := fun _ _ _ _ h => h
theorem yFn {f : Nat → V} : ∀ i H x H', YFn f i H x H' → H' = H ∧ x = f i := fun _ _ _ _ h => h
theorem gT {K : PySem.W.Frag} {a : Addr} {xs : List V} : ∀ H H', Ex H H' → SqT K H a xs → SqT K H' a xs := fun _ _ e h => Evl.ex_t e h
theorem gL {K : PySem.W.Frag} {a : Addr} {xs : List V} : ∀ H H', Ex H H' → SqL K H a xs → SqL K H' a xs := fun _ _ e h => Evl.ex_l e h
theorem gR : ∀ H H' : Hp, Ex H H' → True → True := fun _ _ _ h => h
/-- over a tuple, a list, a range from 0 -/
theorem lcm_tup {K : PySem.W.Frag} {a : Addr} {xs : List V} {te : TE} {vs : List Nat} {σ : L2.St} {H1 : Hp} {D : Addr} {Qd : Hp → Prop} {j : Nat} (R : Nat → V → Hp → Prop) (st : StD D R) (hD : H1 D = none) (g0 : SqT K H1 a xs) (hn : xs.length ≤ 100000) (hw : ∀ x, wipe ((wipe σ vs).set j (some x)) vs = wipe σ vs)
    (hs : ∀ i x H, Ex H1 H → (∃ ys, H D = some (.lst ys)) → xs[i]? = some x → EvQ te ((wipe σ vs).set j (some x)) H (R i)) (hd : ∀ H ys, Ex H1 H → H D = some (.lst ys) → LsAt R xs.length ys H → Qd H) : lcB (Itt K a) (gName j) tYes te vs σ H1 D Qd :=
  lcm walk_tup (fun i x => xs[i]? = some x) yAt gT R st hD g0 hn hw (fun i x H e q _ h => hs i x H e q h) hd
theorem lcm_lst {K : PySem.W.Frag} {a : Addr} {xs : List V} {te : TE} {vs : List Nat} {σ : L2.St} {H1 : Hp} {D : Addr} {Qd : Hp → Prop} {j : Nat} (R : Nat → V → Hp → Prop) (st : StD D R) (hD : H1 D = none) (g0 : SqL K H1 a xs) (hn : xs.length ≤ 100000) (hw : ∀ x, wipe ((wipe σ vs).set j (some x)) vs = wipe σ vs)
    (hs : ∀ i x H, Ex H1 H → (∃ ys, H D = some (.lst ys)) → xs[i]? = some x → EvQ te ((wipe σ vs).set j (some x)) H (R i)) (hd : ∀ H ys, Ex H1 H → H D = some (.lst ys) → LsAt R xs.length ys H → Qd H) : lcB (Itl K a) (gName j) tYes te vs σ H1 D Qd :=
  lcm walk_list (fun i x => xs[i]? = some x) yAt gL R st hD g0 hn hw (fun i x H e q _ h => hs i x H e q h) hd
theorem lcm_rng {n : Nat} {te : TE} {vs : List Nat} {σ : L2.St} {H1 : Hp} {D : Addr} {Qd : Hp → Prop} {j : Nat} (R : Nat → V → Hp → Prop) (st : StD D R) (hD : H1 D = none) (hn : n ≤ 100000) (hw : ∀ x, wipe ((wipe σ vs).set j (some x)) vs = wipe σ vs)
    (hs : ∀ i H, Ex H1 H → (∃ ys, H D = some (.lst ys)) → i < n → EvQ te ((wipe σ vs).set j (some (.int (i : Nat)))) H (R i)) (hd : ∀ H ys, Ex H1 H → H D = some (.lst ys) → LsAt R n ys H → Qd H) : lcB (Itr 0 n) (gName j) tYes te vs σ H1 D Qd :=
  lcm walk_range (fun i x => x = .int ((0 : Int) + i)) yFn gR R st hD trivial hn hw (fun i x H e q hi h => by
    subst h
    rw [Int.zero_add]
    exact hs i H e q hi) hd
theorem lcf_tup {K : PySem.W.Frag} {a : Addr} {xs : List V} {tt : TT} {te : TE} {vs : List Nat} {σ : L2.St} {H1 : Hp} {D : Addr} {Qd : Hp → Prop} {j : Nat} (f : Nat → Bool) (v : Nat → V) (hD : H1 D = none) (g0 : SqT K H1 a xs) (hn : xs.length ≤ 50000) (hw : ∀ x, wipe ((wipe σ vs).set j (some x)) vs = wipe σ vs)
    (ht : ∀ i x H, Ex H1 H → xs[i]? = some x → EvB tt ((wipe σ vs).set j (some x)) H (f i)) (hs : ∀ i x H, Ex H1 H → xs[i]? = some x → f i = true → EvQ te ((wipe σ vs).set j (some x)) H (fun y _ => y = v i))
    (hd : ∀ H, Ex H1 H → H D = some (.lst (given xs.length f v)) → Qd H) : lcB (Itt K a) (gName j) tt te vs σ H1 D Qd :=
  lcf walk_tup (fun i x => xs[i]? = some x) yAt gT f v hD g0 hn hw (fun i x H e _ h => ht i x H e h) (fun i x H e _ h => hs i x H e h) hd
theorem lcf_rng {n : Nat} {tt : TT} {te : TE} {vs : List Nat} {σ : L2.St} {H1 : Hp} {D : Addr} {Qd : Hp → Prop} {j : Nat} (f : Nat → Bool) (v : Nat → V) (hD : H1 D = none) (hn : n ≤ 50000) (hw : ∀ x, wipe ((wipe σ vs).set j (some x)) vs = wipe σ vs)
    (ht : ∀ i H, Ex H1 H → i < n → EvB tt ((wipe σ vs).set j (some (.int (i : Nat)))) H (f i)) (hs : ∀ i H, Ex H1 H → i < n → f i = true → EvQ te ((wipe σ vs).set j (some (.int (i : Nat)))) H (fun y _ => y = v i))
    (hd : ∀ H, Ex H1 H → H D = some (.lst (given n f v)) → Qd H) : lcB (Itr 0 n) (gName j) tt te vs σ H1 D Qd :=
  lcf walk_range (fun i x => x = .int ((0 : Int) + i)) yFn gR f v hD trivial hn hw (fun i x H e hi h => by
    subst h
    rw [Int.zero_add]
    exact ht i H e hi) (fun i x H e hi h hf => by
    subst h
    rw [Int.zero_add]
    exact hs i H e hi hf) hd
/-- a test, an expression whose heap stays -/
theorem evB_of {tt : TT} {σ : L2.St} {H : Hp} {b : Bool} (h : ∀ Q : Bool → Hp → Prop, Q b H → tt σ H Q) : EvB tt σ H b := fun Q q => h Q (q H (Ex.refl H))
theorem evQ_of {te : TE} {σ : L2.St} {H : Hp} {v : V} (h : ∀ Q : VK, Q v H → te σ H Q) : EvQ te σ H (fun y _ => y = v) := fun Q q => h Q (q v H (Ex.refl H) rfl)
end K69
namespace K69
open PySem PySem.Spec PyProof.Rows L2
open Evl (Ex given)
/-! ### statements that leave the slots as they are and only add to the heap -/
def RunS (t : TS) (σ : L2.St) (H : Hp) : Prop := ∀ (D : Ends) H', Ex H H' → (∀ H'', Ex H' H'' → D.nx σ H'') → t D σ H'
section
variable {t u : TS} {c : TT} {σ : L2.St} {H : Hp} {b : Bool} {te : TE} {K : PySem.W.Frag}
theorem seqR {D : Ends} (h : RunS t σ H) (k : ∀ H', Ex H H' → u D σ H') : ∀ H', Ex H H' → tSeq t u D σ H' := fun H' e => h { D with nx := u D } H' e fun H'' e2 => k H'' (e.trans e2)
theorem runIf (hc : ∀ H', Ex H H' → EvB c σ H' b) (ht : b = true → RunS t σ H) : RunS (tIfS c t tNext) σ H := fun D H' e k => by
  refine hc H' e _ fun H1 e1 => ?_
  cases b with
  | true => exact iteT (ht rfl D H1 (e.trans e1) fun H2 e2 => k H2 (e1.trans e2))
  | false => exact iteF (k H1 e1)
theorem runNo (hc : ∀ H', Ex H H' → EvB c σ H' false) : RunS (tIfS c t tNext) σ H := runIf hc fun z => nomatch z
theorem runExpr (h : ∀ H', Ex H H' → EvQ te σ H' (fun _ _ => True)) : RunS (tDrop te) σ H := fun D H' e k => h H' e _ fun _ H2 e2 _ => k H2 e2
theorem RunS.mono {H1 : Hp} (h : RunS t σ H) (e : Ex H H1) : RunS t σ H1 := fun D H' e' k => h D H' (e.trans e') k
/-! tests -/
theorem evB_andF {a b : TT} (ha : EvB a σ H false) : EvB (tAnd a b) σ H false := fun Q q => ha _ fun H1 e1 => iteF (q H1 e1)
theorem evB_and {a b' : TT} {x y : Bool} (ha : EvB a σ H x) (hb : x = true → ∀ H', Ex H H' → EvB b' σ H' y) : EvB (tAnd a b') σ H (x && y) := fun Q q => ha _ fun H1 e1 => by
  cases x with
  | true => exact iteT (hb rfl H1 e1 _ fun H2 e2 => q H2 (e1.trans e2))
  | false => exact iteF (q H1 e1)
theorem evB_or {a b' : TT} {x y : Bool} (ha : EvB a σ H x) (hb : x = false → ∀ H', Ex H H' → EvB b' σ H' y) : EvB (tOr a b') σ H (x || y) := fun Q q => ha _ fun H1 e1 => by
  cases x with
  | true => exact iteT (q H1 e1)
  | false => exact iteF (hb rfl H1 e1 _ fun H2 e2 => q H2 (e1.trans e2))
theorem evB_not {a : TT} {x : Bool} (ha : EvB a σ H x) : EvB (tNot a) σ H (!x) := fun Q q => ha _ fun H1 e1 => q H1 e1
theorem evB_B {x : Bool} (h : EvQ te σ H (fun y _ => y = .bl x)) : EvB (tB te) σ H x := fun Q q => h _ fun y H1 e1 hy => ⟨x, hy, q H1 e1⟩
theorem evB_T {x : Bool} (h : EvQ te σ H (fun y _ => y = .bl x)) : EvB (tTest te) σ H x := fun Q q => h _ fun y H1 e1 hy => ⟨x, hy, q H1 e1⟩
theorem EvB.to {x y : Bool} (h : EvB c σ H x) (e : x = y) : EvB c σ H y := e ▸ h
/-- head in ('a', 'b', ..) -/
theorem evB_inS {i : Nat} {h : Str} {ws : List Str} {ta : TA} (hv : σ[i]? = some (some (.str h))) (hta : ∀ (σ : L2.St) (H : Hp) (Q : List V → Hp → Prop), Q (ws.map V.str) H → ta σ H Q) (hl : ws.length ≤ 1000 := by decide) :
    EvB (tTest (tOp (rIn K false) (tVar i) (tTupX ta))) σ H (inV (.str h) (ws.map V.str)) := fun Q q => by
  refine ⟨_, hv, hta _ _ _ ⟨by rw [List.length_map]; omega, fun p H2 _ e2 hp => ⟨p, ws.map V.str, rfl, .inr (SqT.of hp), rfl, ?_, _, rfl, q H2 e2⟩⟩⟩
  rw [List.all_eq_true]
  intro x hx
  obtain ⟨y, _, rfl⟩ := List.mem_map.mp hx
  rfl
/-- head == 'a' -/
theorem evB_eqS {i : Nat} {h a : Str} (hv : σ[i]? = some (some (.str h))) : EvB (tTest (tOp rEq (tVar i) (tC (.str a)))) σ H (decide (V.str h = V.str a)) := fun Q q => ⟨_, hv, rfl, _, rfl, q H (Ex.refl H)⟩
end
end K69
namespace K69
open PySem PySem.Spec PyProof.Rows L2
open Evl (Ex given)
/-! ### instances made -/
/-- a class that may be called by its name, and its __init__'s promise -/
structure Mkr (P : Program) (w : World) (K : PySem.W.Frag) (mg : Str → Option Value) (base : Heap) (k : Nat) (x : Str) (ps : List Str) (sp : Sp) : Prop where
  ex : ∃ (f : Addr) (fd : FuncData), Mk K (He.ga K x) f ∧ FnOk P w K mg base CX0 k f fd ps sp ∧ mg x = some (.ref (He.ga K x)) ∧ Binds K fd ps []
def tMkr (C : Addr) (sp : Sp) (t : TA) : TE := fun σ H Q => t σ H fun vs H1 => ∀ (x dx : Addr) (H2 : Hp), H1 x = none → H1 dx = none → dx ≠ x → Ex H1 H2 → H2 x = some (.ins C dx []) → H2 dx = some (.own x) → sp (.ref x :: vs) H2 (fun v H3 => v = .non ∧ Q (.ref x) H3) E0
theorem pe_mkr {X : Cx} {k j : Nat} {x : Str} {ps : List Str} {sp : Sp} {p pos : Pos} {e : Expr} {es : List Expr} {t : TA} (C : Mkr X.prog X.w X.K X.mg X.base k x ps sp) (hr : Room j X.A) (hk : k + 1 ≤ j) (ha : PA X (e :: es) t) (hg : Gl X x := by rfl)
    (he : starEach (e :: es) X.env = (false, eval e X.env) :: starEach es X.env := by rfl) (hpl : (backTo pos (starEach es X.env)).any (·.1) = false := by rfl) (hdb : (x == ("__debug__" : Str)) = false := by decide) :
    PE X (.Call (.Name x p) (e :: es) [] pos) (tMkr (He.ga X.K x) sp t) := by
  obtain ⟨f, fd, M, F, m, b⟩ := C.ex
  have z := pe_make (pos := pos) (p := p) M F (hr.mono hk) hg m b .nil pass0 (PA.up ha) (hdb := hdb) (he := he) (hpl := hpl)
  refine PE.of z fun σ H Q q => ⟨_, q, fun vs H1 h x dx nx ndx ne => ?_⟩
  rw [List.append_nil]
  have e1 : Ex H1 (upd H1 dx (.own x)) := ex_upd ndx
  have nx1 : (upd H1 dx (.own x)) x = none := by rw [upd_ne ne.symm]; exact nx
  refine h x dx _ nx ndx ne (e1.trans (ex_upd nx1)) upd_same ?_
  rw [upd_ne ne]
  exact upd_same
section
variable {P : Program} {w : World} {K : PySem.W.Frag} {mg : Str → Option Value} {base : Heap}
abbrev BindsQ (x qual : Str) (st : Stmt) (ps : List Str) : Prop :=
  ∀ (kV doc pm : Value) (an : Option Addr) (cdv ct : Value) (us : List Value), us.length = ps.length → bindArgs (PySem.W.fnOf x qual (defArgs st) (defBody st) (defScope st) .none kV doc pm an cdv ct) ⟨us, []⟩ = pure (ps.zip us)
theorem mkMkr {x qual : Str} {st : Stmt} {N ps : List Str} {k : Nat} {sp : Sp} (D : ∃ f fd, Mk K (He.ga K x) f ∧ FunD K "__init__" qual (defArgs st) (defBody st) (defScope st) [] [] f fd) (m : mg x = some (.ref (He.ga K x))) (S : FnScope N ps (defScope st)) (hb : BindsQ "__init__" qual st ps) (len : ∀ vs H Q E, sp vs H Q E → vs.length = ps.length)
    (hbody : ∀ (f : Addr) (cdv : Value) (A : Around) (outer : List Env) (s : Shared) (H : Hp) (vs : List V) (Q : VK) (E : XK), Room k (A.deeper (envOfC qual (defScope st) s.heap.objs.size f cdv)) → sp vs H Q E →
      ∃ t, PSs (cxOf CX0 P w K mg base N qual (defScope st) f cdv A outer s H E).nox (defBody st) t ∧ t { nx := fun _ H' => Q .non H', rt := Q } (start N vs) H) : Mkr P w K mg base (k + 1) x ps sp := by
  obtain ⟨f, fd, M, F⟩ := D
  refine ⟨f, fd, M, F.ok S len fun cdv A outer s H vs Q E hr h => ?_, m, F.bindsN hb⟩
  obtain ⟨t, h1, h2⟩ := hbody f cdv A outer s H vs Q E hr h
  exact ⟨t, h1.nox, h2⟩
end
end K69
namespace K69
open PySem PySem.Spec PyProof.Rows L2
open Evl (Ex given)
/-! ### the rules with the written part named -/
section
variable {X : Cx} {e o : Expr} {es : List Expr} {te to : TE} {ta : TA}
theorem ix_tupK (K : PySem.W.Frag) (h : X.K = K := by rfl) : IxR X (rIxT K) := h ▸ ix_tup
theorem ix_lstK (K : PySem.W.Frag) (h : X.K = K := by rfl) : IxR X (rIxL K) := h ▸ ix_list
theorem ix_kdictK (K : PySem.W.Frag) (w : World) (h : X.K = K := by rfl) (h2 : X.w = w := by rfl) : IxR X (rIxD K w) := h2 ▸ (h ▸ ix_kdict)
theorem op_inK (K : PySem.W.Frag) (h : X.K = K := by rfl) : OpR X (compareOp .In) (rIn K false) := h ▸ op_in_seq
theorem op_ninK (K : PySem.W.Frag) (h : X.K = K := by rfl) : OpR X (compareOp .NotIn) (rIn K true) := h ▸ op_notIn_seq
theorem op_inDK (K : PySem.W.Frag) (hu : X.A.units + 65 < cLine) (h : X.K = K := by rfl) : OpR X (compareOp .In) (rInD K) := h ▸ op_inD hu
theorem op_ninDTK (K : PySem.W.Frag) (hu : X.A.units + 65 < cLine) (h : X.K = K := by rfl) : OpR X (compareOp .NotIn) (rNotInDT K) := h ▸ op_notInDT hu
theorem op_eqDK (K : PySem.W.Frag) (hu : X.A.units + 64 < cLine) (h : X.K = K := by rfl) : OpR X (compareOp .Eq) (rEqD K) := h ▸ op_eqD hu
def rLenK (K : PySem.W.Frag) : List V → Hp → VK → Prop := fun xs H Q => ∃ p ys, xs = [.ref p] ∧ (SqL K H p ys ∨ SqT K H p ys) ∧ Q (.int ys.length) H
theorem cr_lenK (K : PySem.W.Frag) (h : X.K = K := by rfl) : CallR X (.builtin "len") (rLenK K) := h ▸ call_len_seq
theorem cr_isiK (K : PySem.W.Frag) (h : X.K = K := by rfl) : CallR X (.builtin "isinstance") (rIsi K) := h ▸ call_isi
theorem cr_maxK (K : PySem.W.Frag) (hc : X.calm = true := by rfl) (h : X.K = K := by rfl) : CallR X (.builtin "max") (rMax K) := h ▸ cr_max hc
theorem cr_maxTK (K : PySem.W.Frag) (hc : X.calm = true := by rfl) (h : X.K = K := by rfl) : CallR X (.builtin "max") (rMaxT K) := h ▸ cr_maxT hc
theorem cr_minK (K : PySem.W.Frag) (hc : X.calm = true := by rfl) (h : X.K = K := by rfl) : CallR X (.builtin "min") (rMin K) := h ▸ cr_min hc
theorem cr_sumK (K : PySem.W.Frag) (hc : X.calm = true := by rfl) (h : X.K = K := by rfl) : CallR X (.builtin "sum") (rSum K) := h ▸ cr_sum hc
theorem cr_anyK (K : PySem.W.Frag) (hc : X.calm = true := by rfl) (h : X.K = K := by rfl) : CallR X (.builtin "any") (rAny K) := h ▸ cr_any hc
theorem cr_allK (K : PySem.W.Frag) (hc : X.calm = true := by rfl) (h : X.K = K := by rfl) : CallR X (.builtin "all") (rAll K) := h ▸ cr_all hc
theorem cr_setK (K : PySem.W.Frag) (w : World) (hc : X.calm = true := by rfl) (h : X.K = K := by rfl) (h2 : X.w = w := by rfl) : CallR X (.type "set") (rSetT K w) := h2 ▸ (h ▸ cr_setT hc)
theorem cr_sortK (w : World) (hc : X.calm = true := by rfl) (h2 : X.w = w := by rfl) : CallR X (.builtin "sorted") (rSortedSet w) := h2 ▸ cr_sortedSet hc
def rLstK (K : PySem.W.Frag) : List V → Hp → VK → Prop := fun xs H Q => ∃ p ys, xs = [.ref p] ∧ (SqL K H p ys ∨ SqT K H p ys) ∧ ∀ l H', H l = none → Ex H H' → H' l = some (.lst ys) → Q (.ref l) H'
theorem cr_lstK (K : PySem.W.Frag) (h : X.K = K := by rfl) : CallR X (.type "list") (rLstK K) := h ▸ call_lstX
theorem pi_tupK {tg l : Expr} {tl : TE} (K : PySem.W.Frag) (hl : PE X l tl) (h : X.K = K := by rfl) : PI X tg l (iTup K tl) := h ▸ pi_tup hl
theorem pi_lstK {tg l : Expr} {tl : TE} (K : PySem.W.Frag) (hl : PE X l tl) (h : X.K = K := by rfl) : PI X tg l (iList K tl) := h ▸ pi_list hl
theorem pe_fldK {f : Str} {pos : Pos} (K : PySem.W.Frag) (he : PE X e te) (hb : attributeBase e f X.env (eval e X.env) = eval e X.env := by rfl) (h : X.K = K := by rfl) : PE X (.Attribute e f pos) (tFld K te f) := h ▸ pe_fld he hb
def rIxOf (K : PySem.W.Frag) : V → List V → Hp → VK → Prop := rIndex K
/-- xs.append(e) -/
def tAppX (to te : TE) : TE := fun σ H Q => to σ H fun x H1 => ∃ l, x = .ref l ∧ (∃ xs, H1 l = some (.lst xs)) ∧ te σ H1 fun y H2 => ∃ xs, H2 l = some (.lst xs) ∧ xs.length < 100000 ∧ ∀ H3, ExS [l] H2 H3 → H3 l = some (.lst (xs ++ [y])) → Q .non H3
theorem pe_appX {apos cpos : Pos} (h1 : PE X (.Call (.Attribute o "append" apos) [e] [] cpos) (tBM X.K "list" rAppend (upE to) (tCons (upE te) tNil))) : PE X (.Call (.Attribute o "append" apos) [e] [] cpos) (tAppX to te) :=
  PE.of h1 fun σ H Q q => ⟨_, q, fun x H1 ⟨l, ex, ⟨xs, hl⟩, h⟩ => ⟨by subst ex; exact .inl ⟨rfl, xs, SqL.of hl⟩, _, h, fun y H2 ⟨ys, hy, hz, k⟩ => ⟨l, ys, y, ex, rfl, hy, Evl.sz_lt hz, k _ exS_upd upd_same⟩⟩⟩
/-- xs.index(y) -/
def tIdxX (K : PySem.W.Frag) (to te : TE) : TE := fun σ H Q => to σ H fun x H1 => ∃ l, x = .ref l ∧ (∃ xs, SqL K H1 l xs) ∧ te σ H1 fun y H2 => rIndex K x [y] H2 Q
theorem pe_idxX {apos cpos : Pos} (K : PySem.W.Frag) (h1 : PE X (.Call (.Attribute o "index" apos) [e] [] cpos) (tBM X.K "list" (rIndex X.K) (upE to) (tCons (upE te) tNil))) (h : X.K = K := by rfl) :
    PE X (.Call (.Attribute o "index" apos) [e] [] cpos) (tIdxX K to te) := by
  subst h
  exact PE.of h1 fun σ H Q q => ⟨_, q, fun x H1 ⟨l, ex, ⟨xs, hl⟩, h⟩ => ⟨by subst ex; exact .inl ⟨rfl, xs, hl⟩, _, h, fun y H2 z => z⟩⟩
end
end K69
namespace K69
open PySem PySem.Spec PyProof.Rows L2
open Evl (Ex given)
/-! ### defs with keyword-only parameters -/
structure CalK (P : Program) (w : World) (K : PySem.W.Frag) (mg : Str → Option Value) (base : Heap) (CX : CXT) (k : Nat) (x : Str) (ps : List Str) (n : Nat) (ks : List Str) (sp : Sp) : Prop where
  ex : ∃ (f : Addr) (fd : FuncData), FnOk P w K mg base CX k f fd ps sp ∧ mg x = some (.ref f) ∧ PySem.W.keepIn K (.ref f) = true ∧ KBn K fd ps n ks (fun us ws => us ++ ws) (fun us ws => us ++ ws)
def tCalK (n m : Nat) (sp : Sp) (E : XK) (t tk : TA) : TE := fun σ H Q => t σ H fun vs H1 => tk σ H1 fun zs H2 => vs.length = n ∧ zs.length = m ∧ sp (vs ++ zs) H2 Q E
section
variable {X : Cx} {k j n : Nat} {x : Str} {ps ks : List Str} {sp : Sp} {p pos : Pos} {e : Expr} {es : List Expr} {kws : List Keyword} {t tk : TA}
theorem pe_calK (C : CalK X.prog X.w X.K X.mg X.base CX0 k x ps n ks sp) (hr : Room j X.A) (hk : k ≤ j) (ha : PA X (e :: es) t) (hkw : PK X kws tk) (hg : Gl X x := by rfl) (hall : (backToKw pos (keywordEach kws X.env)).all (·.1.isSome) = true := by rfl) (hks : (backToKw pos (keywordEach kws X.env)).filterMap (·.1) = ks := by rfl)
    (hdb : (x == ("__debug__" : Str)) = false := by decide) (he : starEach (e :: es) X.env = (false, eval e X.env) :: starEach es X.env := by rfl)
    (hpl : ((backTo pos (starEach (e :: es) X.env)).any (·.1) || (backToKw pos (keywordEach kws X.env)).any (·.1.isNone)) = false := by rfl) : PE X (.Call (.Name x p) (e :: es) kws pos) (tCalK n ks.length sp E0 t tk) := by
  obtain ⟨f, fd, F, m, kp, b⟩ := C.ex
  exact pe_callN F (hr.mono hk) hg m kp b pass0 ha hkw hall hks hdb he hpl
theorem pe_calKX (C : CalK X.prog X.w X.K X.mg X.base (L2.CX X.prog X.w) k x ps n ks sp) (hr : Room j X.A) (hk : k ≤ j) (ha : PA X (e :: es) t) (hkw : PK X kws tk) (hg : Gl X x := by rfl) (hall : (backToKw pos (keywordEach kws X.env)).all (·.1.isSome) = true := by rfl) (hks : (backToKw pos (keywordEach kws X.env)).filterMap (·.1) = ks := by rfl)
    (hdb : (x == ("__debug__" : Str)) = false := by decide) (he : starEach (e :: es) X.env = (false, eval e X.env) :: starEach es X.env := by rfl)
    (hpl : ((backTo pos (starEach (e :: es) X.env)).any (·.1) || (backToKw pos (keywordEach kws X.env)).any (·.1.isNone)) = false := by rfl) : PE X (.Call (.Name x p) (e :: es) kws pos) (tCalK n ks.length sp E0 t tk) := by
  obtain ⟨f, fd, F, m, kp, b⟩ := C.ex
  exact pe_callN F (hr.mono hk) hg m kp b passL ha hkw hall hks hdb he hpl
end
section
variable {P : Program} {w : World} {K : PySem.W.Frag} {mg : Str → Option Value} {base : Heap}
abbrev BindsK (x : Str) (st : Stmt) (ps : List Str) (n : Nat) (ks : List Str) : Prop :=
  ∀ (kV doc pm : Value) (an : Option Addr) (cdv ct : Value) (us ws : List Value), us.length = n → ws.length = ks.length → bindArgs (PySem.W.fnOf x x (defArgs st) (defBody st) (defScope st) .none kV doc pm an cdv ct) ⟨us, ks.zip ws⟩ = pure (ps.zip (us ++ ws))
theorem kbn_of {x : Str} {st : Stmt} {ps ks : List Str} {n : Nat} {f : Addr} {fd : FuncData} (F : FunD K x x (defArgs st) (defBody st) (defScope st) [] [] f fd) (h : BindsK x st ps n ks) : KBn K fd ps n ks (fun us ws => us ++ ws) (fun us ws => us ++ ws) := by
  obtain ⟨oc, od, dV, kV, doc, pm, an, cdv, ct, osl, rfl, lk, hcd, hD, hK⟩ := F.ex
  rcases hD with ⟨_, rfl⟩ | ⟨e, _⟩
  · exact ⟨fun s us ws _ h1 h2 => .of_eq (h kV doc pm an cdv ct us ws h1 h2), fun r1 r2 => r1.append r2⟩
  · exact absurd rfl e
theorem mkCalK {x : Str} {st : Stmt} {N ps ks : List Str} {n k : Nat} {sp : Sp} (D : Df K mg x st) (S : FnScope N ps (defScope st)) (hb : BindsK x st ps n ks) (len : ∀ vs H Q E, sp vs H Q E → vs.length = ps.length)
    (hbody : ∀ (f : Addr) (cdv : Value) (A : Around) (outer : List Env) (s : Shared) (H : Hp) (vs : List V) (Q : VK) (E : XK), Room k (A.deeper (envOfC x (defScope st) s.heap.objs.size f cdv)) → sp vs H Q E →
      ∃ t, PSs (cxOf CX0 P w K mg base N x (defScope st) f cdv A outer s H E).nox (defBody st) t ∧ t { nx := fun _ H' => Q .non H', rt := Q } (start N vs) H) : CalK P w K mg base CX0 (k + 1) x ps n ks sp := by
  obtain ⟨f, fd, F, m⟩ := D.fn
  refine ⟨f, fd, F.ok S len fun cdv A outer s H vs Q E hr h => ?_, m, F.kp, kbn_of F hb⟩
  obtain ⟨t, h1, h2⟩ := hbody f cdv A outer s H vs Q E hr h
  exact ⟨t, h1.nox, h2⟩
theorem mkCalKX {x : Str} {st : Stmt} {N ps ks : List Str} {n k : Nat} {sp : Sp} (D : Df K mg x st) (S : FnScope N ps (defScope st)) (hb : BindsK x st ps n ks) (len : ∀ vs H Q E, sp vs H Q E → vs.length = ps.length)
    (hbody : ∀ (f : Addr) (cdv : Value) (A : Around) (outer : List Env) (s : Shared) (H : Hp) (vs : List V) (Q : VK) (E : XK), Room k (A.deeper (envOfC x (defScope st) s.heap.objs.size f cdv)) → sp vs H Q E →
      ∃ t, PSs (cxOf (L2.CX P w) P w K mg base N x (defScope st) f cdv A outer s H E) (defBody st) t ∧ t { nx := fun _ H' => Q .non H', rt := Q } (start N vs) H) : CalK P w K mg base (L2.CX P w) (k + 1) x ps n ks sp := by
  obtain ⟨f, fd, F, m⟩ := D.fn
  exact ⟨f, fd, F.ok S len fun cdv A outer s H vs Q E hr h => hbody f cdv A outer s H vs Q E hr h, m, F.kp, kbn_of F hb⟩
end
end K69
namespace K69
open PySem PySem.Spec PyProof.Rows L2
open Evl (Ex given)
abbrev bmVE : List Value := [.type "ValueError", .type "Exception", .type "BaseException", .type "object"]
/-- what the walk leans on of the errors' classes -/
structure TxX (K : PySem.W.Frag) : Prop where
  xO : PySem.W.excIn K (He.ga K "OutOfRange") bmVE "ValueError.__new__" = true
  kO : PySem.W.keepIn K (.ref (He.ga K "OutOfRange")) = true
  bO : PySem.W.subIn K (.ref (He.ga K "OutOfRange")) (.type "BaseException") = some true
  tO : PySem.W.typeIn K (.ref (He.ga K "OutOfRange")) = some (.type "type")
  oN : OexC K (He.ga K "NotDuel")
  iN : ∃ fI fd, PySem.W.findIn K (.ref (He.ga K "NotDuel")) "__init__" = some (some (.ref fI)) ∧ PySem.W.typeIn K (.ref fI) = some (.type "function") ∧ FunD K "__init__" "NotDuel.__init__" (defArgs (inClass (topS 11) 0)) (defBody (inClass (topS 11) 0)) (defScope (inClass (topS 11) 0)) [] [] fI fd
  nN : PySem.W.findIn K (.ref (He.ga K "NotDuel")) "index" = some none
  fN : XfC K (He.ga K "NotDuel")
  cN : ExcC K (He.ga K "NotDuel")
  cO : ExcC K (He.ga K "OutOfRange")
  eN : PySem.W.exmOne K (.ref (He.ga K "NotDuel")) (.ref (He.ga K "ChoosersError")) = some true
  eO : PySem.W.exmOne K (.ref (He.ga K "OutOfRange")) (.ref (He.ga K "ChoosersError")) = some true
  qNN : PySem.W.kitOne K (.ref (He.ga K "NotDuel")) (.ref (He.ga K "NotDuel")) = some true
  qNO : PySem.W.kitOne K (.ref (He.ga K "NotDuel")) (.ref (He.ga K "OutOfRange")) = some false
  qNS : PySem.W.kitOne K (.ref (He.ga K "NotDuel")) (.ref (He.ga K "SizeMismatch")) = some false
  qON : PySem.W.kitOne K (.ref (He.ga K "OutOfRange")) (.ref (He.ga K "NotDuel")) = some false
  qOO : PySem.W.kitOne K (.ref (He.ga K "OutOfRange")) (.ref (He.ga K "OutOfRange")) = some true
  qOS : PySem.W.kitOne K (.ref (He.ga K "OutOfRange")) (.ref (He.ga K "SizeMismatch")) = some false
/-! ### keyword-only calls whose errors are met slot by slot -/
def tCalKS (n m : Nat) (sp : Sp) (E : L2.St → XK) (t tk : TA) : TE := fun σ H Q => t σ H fun vs H1 => tk σ H1 fun zs H2 => vs.length = n ∧ zs.length = m ∧ sp (vs ++ zs) H2 Q (E σ)
section
variable {X : Cx} {k j n : Nat} {x : Str} {ps ks : List Str} {sp : Sp} {E : L2.St → XK} {p pos : Pos} {e : Expr} {es : List Expr} {kws : List Keyword} {t tk : TA}
theorem pe_calKS (C : CalK X.prog X.w X.K X.mg X.base (L2.CX X.prog X.w) k x ps n ks sp) (hr : Room j X.A) (hk : k ≤ j) (hx : ∀ σ, PassesAt (L2.CX X.prog X.w) X σ (E σ)) (ha : PA X (e :: es) t) (hkw : PK X kws tk) (hg : Gl X x := by rfl) (hall : (backToKw pos (keywordEach kws X.env)).all (·.1.isSome) = true := by rfl) (hks : (backToKw pos (keywordEach kws X.env)).filterMap (·.1) = ks := by rfl)
    (hdb : (x == ("__debug__" : Str)) = false := by decide) (he : starEach (e :: es) X.env = (false, eval e X.env) :: starEach es X.env := by rfl)
    (hpl : ((backTo pos (starEach (e :: es) X.env)).any (·.1) || (backToKw pos (keywordEach kws X.env)).any (·.1.isNone)) = false := by rfl) : PE X (.Call (.Name x p) (e :: es) kws pos) (tCalKS n ks.length sp E t tk) := by
  obtain ⟨f, fd, F, m, kp, b⟩ := C.ex
  refine ⟨fun pins s σ H Q I h => ?_⟩
  refine wpAny_Call_Name_kw (ld_glob I hg m ?_ hdb)
  refine PySem.W.callWith_KW (h₀ := X.base) I.ok.mod.kin kp hall (thn (ha.run pos pins s σ H _ I h) fun us s1 ⟨vs, H1, I1, r, q⟩ => ?_) hpl he
  refine thn (hkw.run pos pins s1 σ H1 _ I1 q) fun ws s2 ⟨zs, H2, I2, rz, l1, l2, q2⟩ => ⟨I2.kIn, ?_⟩
  rw [hks]
  have r2 := b.rel r rz
  refine wpAny_call (codeAny_mono (F.run X.A X.stack s2 H2 ⟨us, ks.zip ws⟩ (us ++ ws) (vs ++ zs) Q (E σ) (hr.mono hk) I2.env0 (b.to s2 us ws I2.kIn (r.length.symm.trans l1) (rz.length.symm.trans l2)) r2 q2) fun r s' hq => ?_)
  cases r with
  | error e => exact hx σ pins H2 s2 e s' I2 hq
  | ok fl =>
    cases fl with
    | ret u => exact I2.after hq
    | next => exact False.elim hq
    | brk => exact False.elim hq
    | cont => exact False.elim hq
end
end K69
namespace K69
open PySem PySem.Spec PyProof.Rows L2
open Evl (Ex)
/-! ### products -/
def prodN (l : List Nat) : Nat := l.foldl (· * ·) 1
theorem foldl_mul (l : List Nat) : ∀ a : Nat, l.foldl (· * ·) a = a * prodN l := by
  induction l with
  | nil => intro a; show a = a * 1; omega
  | cons x l ih =>
    intro a
    show l.foldl (· * ·) (a * x) = a * (l.foldl (· * ·) (1 * x))
    rw [ih (a * x), ih (1 * x), Nat.one_mul, Nat.mul_assoc]
theorem prodN_snoc (l : List Nat) (x : Nat) : prodN (l ++ [x]) = prodN l * x := by
  unfold prodN
  rw [List.foldl_append] <;> rfl
theorem prodN_le {l : List Nat} (h : ∀ x ∈ l, x ≤ 4) : prodN l ≤ 4 ^ l.length := by
  induction l with
  | nil => exact Nat.le_refl _
  | cons x l ih =>
    have h1 := ih fun y hy => h y (List.mem_cons_of_mem _ hy)
    have h2 := h x List.mem_cons_self
    show (l.foldl (· * ·) (1 * x)) ≤ 4 ^ (l.length + 1)
    rw [foldl_mul, Nat.one_mul, Nat.pow_succ, Nat.mul_comm (4 ^ l.length) 4]
    exact Nat.mul_le_mul h2 h1
section
variable {P : Program} {w : World} {K : PySem.W.Frag} {mg : Str → Option Value} {base : Heap}
/-! ### is_below -/
def spBelow : Sp := fun vs H Q _ => ∃ i l : Int, vs = [.int i, .int l] ∧ Q (.bl (decide (0 ≤ i) && decide (i < l))) H
theorem sc_is_below : FnScope ["item", "limit"] ["item", "limit"] (defScope (topS 22)) := ⟨rfl, rfl, rfl, by decide +kernel, rfl, by decide +kernel, by decide +kernel⟩
theorem c_is_below (T : Txt K mg w) : Cal P w K mg base CX0 1 "is_below" ["item", "limit"] spBelow := by
  refine mkCal (T.d_is_below) sc_is_below (fun _ _ _ _ _ _ us hl => match us, hl with | [_, _], _ => rfl) (fun vs H Q E h => ?_) (fun f cdv A outer s H vs Q E hr h => ?_)
  · obtain ⟨i, l, rfl, _⟩ := h
    rfl
  · obtain ⟨i, l, rfl, q⟩ := h
    refine ⟨_, (pss_one (ps_ret (pe_and (pe_callB (cr_isiK K) (by rfl) T.z_isinstance (by decide +kernel) (pa_cons (pv 0) (pa_cons (pe_bltn (v := .ty "int") (by rfl) T.z_int (by decide +kernel) rfl) pa_nil))) (pe_one (pe_chain op_le op_lt pe_int (pv 0) (pv 1)))))), ?_⟩
    refine ⟨.int i, rfl, .int i, .ty "int", .type "int", .type "int", true, rfl, .ty _, .base (.int i), kit_ty (by decide +kernel), true, rfl, iteT ?_⟩
    refine ⟨.int i, rfl, 0, i, rfl, rfl, decide (0 ≤ i), rfl, ?_⟩
    cases e : decide (0 ≤ i) with
    | true =>
      rw [e] at q
      exact iteT ⟨.int l, rfl, i, l, rfl, rfl, q⟩
    | false =>
      rw [e] at q
      exact iteF q
/-! ### count_choices -/
def spCount : Sp := fun vs H Q _ => ∃ (a : Addr) (l : List Nat), vs = [.ref a] ∧ H a = some (.tup (vN l)) ∧ l.length ≤ 8 ∧ (∀ x ∈ l, x ≤ 4) ∧ Q (.int (prodN l : Nat)) H
theorem sc_count_choices : FnScope ["widths", "many", "width"] ["widths"] (defScope (topS 13)) := ⟨rfl, rfl, rfl, by decide +kernel, rfl, by decide +kernel, by decide +kernel⟩
theorem c_count_choices (T : Txt K mg w) : Cal P w K mg base CX0 1 "count_choices" ["widths"] spCount := by
  refine mkCal (T.d_count_choices) sc_count_choices (fun _ _ _ _ _ _ us hl => match us, hl with | [_], _ => rfl) (fun vs H Q E h => ?_) (fun f cdv A outer s H vs Q E hr h => ?_)
  · obtain ⟨a, l, rfl, _⟩ := h
    rfl
  · obtain ⟨a, l, rfl, hT, hl, hb, q⟩ := h
    refine ⟨_, (pss_cons (ps_set (i := 1) sc_count_choices.nd rfl (Or.inl rfl) pe_int)
      (pss_cons (ps_for PassesOwn.never rfl (pi_tupK K (pv 0)) (pg_name (i := 2) sc_count_choices.nd rfl (Or.inl rfl))
      (pss_one (ps_set (i := 1) sc_count_choices.nd rfl (Or.inl rfl) (pe_op op_mul (pv 1) (pv 2)))))
      (pss_one (ps_ret (pv 1))))), ?_⟩
    refine ⟨.ref a, rfl, a, rfl, ⟨_, SqT.of hT⟩, for_tup (K := K) (a := a) (xs := vN l) (fun i σ H2 => H2 = H ∧ ∃ v, σ = [some (.ref a), some (.int (prodN (l.take i) : Nat)), v]) ⟨rfl, none, rfl⟩ (fun i σ H2 _ ⟨e, _⟩ => by rw [e]; exact SqT.of hT) ?_ ?_⟩
    · rintro i x σ H2 hi ⟨rfl, v, rfl⟩
      obtain ⟨n, hn, rfl⟩ : ∃ n : Nat, l[i]? = some n ∧ x = .int (n : Int) := by
        rw [List.getElem?_map] at hi
        cases e : l[i]? with
        | none => rw [e] at hi; cases hi
        | some n => rw [e] at hi; exact ⟨n, rfl, (Option.some.inj hi).symm⟩
      have h1 : prodN (l.take i) ≤ 65536 := by
        have := prodN_le (l := l.take i) fun y hy => hb y (List.mem_of_mem_take hy)
        have h2 : (l.take i).length ≤ 8 := by rw [List.length_take]; omega
        have h3 : 4 ^ (l.take i).length ≤ 4 ^ 8 := Nat.pow_le_pow_right (by decide) h2
        have h4 : (4 : Nat) ^ 8 = 65536 := by decide
        omega
      refine ⟨_, rfl, .int (n : Int), rfl, _, _, rfl, rfl, .inl ⟨by show -(2 ^ 64) < ((prodN (l.take i) : Nat) : Int); omega, by show ((prodN (l.take i) : Nat) : Int) < 2 ^ 64; omega⟩, ?_⟩
      refine ⟨rfl, some (.int (n : Int)), ?_⟩
      have e1 : l.take (i + 1) = l.take i ++ [n] := by rw [List.take_add_one, hn] <;> rfl
      rw [e1, prodN_snoc, Int.natCast_mul]
      rfl
    · rintro σ H2 ⟨rfl, v, rfl⟩
      refine ⟨_, rfl, ?_⟩
      rw [vN_len, List.take_length]
      exact q
/-! ### is_small -/
def spSmall : Sp := fun vs H Q _ => ∃ o k : Nat, vs = [.int (o : Int), .int (k : Int)] ∧ 1 ≤ o ∧ o ≤ 3 ∧ 1 ≤ k ∧ k ≤ 4 ∧ ∀ H', Ex H H' → Q (.bl true) H'
theorem sc_is_small : FnScope ["options", "outcomes"] ["options", "outcomes"] (defScope (topS 21)) := ⟨rfl, rfl, rfl, by decide +kernel, rfl, by decide +kernel, by decide +kernel⟩
theorem c_is_small (T : Txt K mg w) : Cal P w K mg base CX0 2 "is_small" ["options", "outcomes"] spSmall := by
  refine mkCal (T.d_is_small) sc_is_small (fun _ _ _ _ _ _ us hl => match us, hl with | [_, _], _ => rfl) (fun vs H Q E h => ?_) (fun f cdv A outer s H vs Q E hr h => ?_)
  · obtain ⟨o, k, rfl, _⟩ := h
    rfl
  · obtain ⟨o, k, rfl, h1, h2, h3, h4, q⟩ := h
    refine ⟨_, (pss_one (ps_ret (pe_and (pe_cmpR op_le (pv 0) (pe_gint T.i_MOST_SMALL_OPTIONS) (nomark _)) (pe_one (pe_cmpR op_le (pe_cal (c_count_choices T) hr (by omega) (pa_cons (pe_op op_repA (pe_tupX (pa_cons (pv 1) pa_nil)) (pv 0)) pa_nil)) (pe_gint T.i_MOST_CONTEXTS) (nomark _)))))), ?_⟩
    refine ⟨_, rfl, _, _, rfl, rfl, true, ?_, iteT ?_⟩
    · show V.bl (decide ((o : Int) ≤ 8)) = V.bl true
      rw [decide_eq_true (by omega)]
    refine ⟨.int (k : Int), rfl, by show 1 ≤ 100000; decide, fun p H1 np e1 hp => ?_⟩
    refine ⟨.int (o : Int), rfl, p, (o : Int), [.int (k : Int)], rfl, rfl, hp, List.cons_ne_nil _ _, by omega, by omega, by show 1 ≤ 1000; decide, fun p2 H2 e2 hp2 => ?_⟩
    have e3 : (List.replicate (o : Int).toNat [V.int (k : Int)]).flatten = vN (List.replicate o k) := by
      rw [show (o : Int).toNat = o from Int.toNat_natCast o, vN, List.map_replicate]
      have : ∀ m : Nat, (List.replicate m [V.int (k : Int)]).flatten = List.replicate m (V.int (k : Int)) := fun m => by
        induction m with
        | zero => rfl
        | succ m ih => rw [List.replicate_succ, List.flatten_cons, ih] <;> rfl
      exact this o
    rw [e3] at hp2
    refine ⟨p2, List.replicate o k, rfl, hp2, by rw [List.length_replicate]; omega, fun x hx => by rw [List.eq_of_mem_replicate hx]; exact h4, ?_⟩
    refine ⟨_, _, rfl, rfl, ?_⟩
    have h5 : prodN (List.replicate o k) ≤ 256 := by
      have := prodN_le (l := List.replicate o k) fun x hx => by rw [List.eq_of_mem_replicate hx]; exact h4
      rw [List.length_replicate] at this
      have h6 : 4 ^ o ≤ 4 ^ 3 := Nat.pow_le_pow_right (by decide) h2
      have h7 : (4 : Nat) ^ 3 = 64 := by decide
      omega
    show Q (.bl (decide ((prodN (List.replicate o k) : Int) ≤ 256))) H2
    rw [decide_eq_true (by omega)]
    exact q _ (e1.trans e2)
/-! ### check_numbers -/
def spNumbers : Sp := fun vs H Q _ => ∃ (a : Addr) (l : List Nat) (b : Nat) (y : V), vs = [.ref a, .int (l.length : Nat), .int (b : Int), y] ∧ H a = some (.tup (vN l)) ∧ l.length ≤ 100 ∧ (∀ x ∈ l, x < b) ∧ Q .non H
theorem sc_check_numbers : FnScope ["item", "length", "limit", "path", "k"] ["item", "length", "limit", "path"] (defScope (topS 24)) := ⟨rfl, rfl, rfl, by decide +kernel, rfl, by decide +kernel, by decide +kernel⟩
theorem c_check_numbers (T : Txt K mg w) : Cal P w K mg base CX0 2 "check_numbers" ["item", "length", "limit", "path"] spNumbers := by
  refine mkCal (T.d_check_numbers) sc_check_numbers (fun _ _ _ _ _ _ us hl => match us, hl with | [_, _, _, _], _ => rfl) (fun vs H Q E h => ?_) (fun f cdv A outer s H vs Q E hr h => ?_)
  · obtain ⟨a, l, b, y, rfl, _⟩ := h
    rfl
  · obtain ⟨a, l, b, y, rfl, hT, hl, hb, q⟩ := h
    refine ⟨_, (pss_cons (ps_if (PW.pt (pw_or (pt_not (pt_val (pe_callB (cr_isiK K) (by rfl) T.z_isinstance (by decide +kernel) (pa_cons (pv 0) (pa_cons (pe_bltn (v := .ty "tuple") (by rfl) T.z_tuple (by decide +kernel) rfl) pa_nil))))) (pw_or1 (pt_cmpR op_ne (pe_callB (cr_lenK K) (by rfl) T.z_len (by decide +kernel) (pa_cons (pv 0) pa_nil)) (pv 1) (nomark _)))))
      (pss_one ps_never)
      pss_nil)
      (pss_one (ps_for PassesOwn.never rfl (pi_range1 rfl T.z_range (pa_cons (pv 1) pa_nil)) (pg_name (i := 4) sc_check_numbers.nd rfl (Or.inl rfl))
      (pss_one (ps_if (pt_not (pt_val (pe_cal (c_is_below T) hr (by omega) (pa_cons (pe_ix (ix_tupK K) (pv 0) (pv 4) (fun _ _ => rfl)) (pa_cons (pv 2) pa_nil)))))
        (pss_one ps_never)
        pss_nil))))), ?_⟩
    refine ⟨.ref a, rfl, .ref a, .ty "tuple", .type "tuple", .type "tuple", true, rfl, .ty _, .base (.tup hT), kit_ty (by decide +kernel), true, rfl, iteF ?_⟩
    refine ⟨.ref a, rfl, a, _, rfl, .inr (SqT.of hT), _, rfl, rfl, _, rfl, ?_⟩
    rw [vN_len]
    refine iteNS rfl ?_
    refine ⟨_, rfl, _, rfl, by omega, by omega, for_range (lo := 0) (n := l.length) (fun i σ H2 => H2 = H ∧ ∃ v, σ = [some (.ref a), some (.int (l.length : Nat)), some (.int (b : Int)), some y, v]) ⟨rfl, none, rfl⟩ ?_ ?_⟩
    · rintro i σ H2 hi ⟨rfl, v, rfl⟩
      have e0 : (0 : Int) + (i : Int) = (i : Int) := Int.zero_add _
      have hn : l[i]? = some l[i] := List.getElem?_eq_getElem hi
      have hx := hb _ (List.getElem_mem hi)
      refine ⟨.ref a, rfl, .int (0 + (i : Int)), rfl, a, _, _, _, rfl, rfl, SqT.of hT, (by rw [e0]; exact atN (vN_at hn)), _, rfl, _, _, rfl, true, ?_, iteF ?_⟩
      · rw [decide_eq_true (by omega), decide_eq_true (by omega)] <;> rfl
      · exact ⟨rfl, _, rfl⟩
    · rintro σ H2 ⟨rfl, v, rfl⟩
      exact q
end
end K69
namespace K69
open PySem PySem.Spec PyProof.Rows L2
open Evl (Ex given)
/-! ### aims as data -/
/-- the aims that come up, at most so deep; k outcomes -/
inductive AimOk (k : Nat) : Nat → PyData → Prop where
  | any {d : Nat} : AimOk k (d + 1) (.tuple [.str "any"])
  | most {d : Nat} : AimOk k (d + 1) (.tuple [.str "most"])
  | best {d : Nat} {rs : List Nat} (hl : rs.length = k) (hb : ∀ r ∈ rs, r < 10) : AimOk k (d + 1) (.tuple [.str "best", dN rs])
  | second {d : Nat} {rs : List Nat} (hl : rs.length = k) (hb : ∀ r ∈ rs, r < 10) : AimOk k (d + 1) (.tuple [.str "second", dN rs])
  | first {d : Nat} {a : PyData} (h : AimOk k d a) : AimOk k (d + 1) (.tuple [.str "first", a])
  | not {d : Nat} {a : PyData} (h : AimOk k d a) : AimOk k (d + 1) (.tuple [.str "not", a])
/-- a word and the length of its aims -/
def LenW (K : PySem.W.Frag) (h : Str) (n : Nat) : Prop := ∃ u, PySem.W.nsIn K (He.ga K "LENGTHS") h = some (some u) ∧ RelV (.int (n : Int)) u
/-- the shape of an aim: its word, what is behind -/
theorem AimOk.head {K : PySem.W.Frag} {mg : Str → Option Value} {w : World} (T : Txt K mg w) {k d : Nat} {a : PyData} (h : AimOk k d a) : ∃ x r, a = .tuple (.str x :: r) ∧ x ≠ "table" ∧ LenW K x (r.length + 1) := by
  cases h with
  | any => exact ⟨_, _, rfl, by decide +kernel, T.l_any⟩
  | most => exact ⟨_, _, rfl, by decide +kernel, T.l_most⟩
  | best => exact ⟨_, _, rfl, by decide +kernel, T.l_best⟩
  | second => exact ⟨_, _, rfl, by decide +kernel, T.l_second⟩
  | first => exact ⟨_, _, rfl, by decide +kernel, T.l_first⟩
  | not => exact ⟨_, _, rfl, by decide +kernel, T.l_not⟩
section
variable {P : Program} {w : World} {K : PySem.W.Frag} {mg : Str → Option Value} {base : Heap}
/-! ### check_head -/
def spHead (K : PySem.W.Frag) : Sp := fun vs H Q _ => ∃ (v v1 v2 y : V) (x : Str) (r : List PyData) (lv : Nat), vs = [v, v1, v2, y, .int (lv : Int)] ∧ TD H v (.tuple (.str x :: r)) ∧ x ≠ "table" ∧ LenW K x (r.length + 1) ∧ lv ≤ 6 ∧ Q .non H
theorem sc_check_head : FnScope ["term", "options", "outcomes", "path", "level"] ["term", "options", "outcomes", "path", "level"] (defScope (topS 28)) := ⟨rfl, rfl, rfl, by decide +kernel, rfl, by decide +kernel, by decide +kernel⟩
theorem c_check_head (T : Txt K mg w) : Cal P w K mg base CX0 3 "check_head" ["term", "options", "outcomes", "path", "level"] (spHead K) := by
  obtain ⟨es, nn, DK⟩ := T.k_LENGTHS
  refine mkCal (T.d_check_head) sc_check_head (fun _ _ _ _ _ _ us hl => match us, hl with | [_, _, _, _, _], _ => rfl) (fun vs H Q E h => ?_) (fun f cdv A outer s H vs Q E hr h => ?_)
  · obtain ⟨v, v1, v2, y, x, r, lv, rfl, _⟩ := h
    rfl
  · obtain ⟨v, v1, v2, y, x, r, lv, rfl, hT, hx, ⟨u, hn, ru⟩, hl, q⟩ := h
    obtain ⟨a, xs, rfl, ha, hxs⟩ := hT.tup_inv
    obtain ⟨x0, xs', rfl, h0, hr'⟩ := hxs.cons_inv
    cases h0.str_inv
    have hlen := hr'.len
    refine ⟨_, (pss_cons (ps_if (PW.pt (pw_or (pt_not (pt_val (pe_callB (cr_isiK K) (by rfl) T.z_isinstance (by decide +kernel) (pa_cons (pv 0) (pa_cons (pe_bltn (v := .ty "tuple") (by rfl) T.z_tuple (by decide +kernel) rfl) pa_nil))))) (pw_or (pt_cmpR op_eq (pe_callB (cr_lenK K) (by rfl) T.z_len (by decide +kernel) (pa_cons (pv 0) pa_nil)) pe_int (nomark _)) (pw_or1 (pt_cmpR op_gt (pv 4) (pe_gint T.i_MOST_AIM_LEVELS) (nomark _))))))
      (pss_one ps_never)
      pss_nil)
      (pss_cons (ps_if (PW.pt (pw_or (pt_not (pt_val (pe_callB (cr_isiK K) (by rfl) T.z_isinstance (by decide +kernel) (pa_cons (pe_ix (ix_tupK K) (pv 0) pe_int (fun _ _ => rfl)) (pa_cons (pe_bltn (v := .ty "str") (by rfl) T.z_str (by decide +kernel) rfl) pa_nil))))) (pw_or (pt_cmpR (op_notIn_kd DK) (pe_ix (ix_tupK K) (pv 0) pe_int (fun _ _ => rfl)) (pe_gref T.g_LENGTHS) (by rfl)) (pw_or1 (pt_cmpR op_ne (pe_ix (ix_kdictK K w) (pe_gref T.g_LENGTHS) (pe_ix (ix_tupK K) (pv 0) pe_int (fun _ _ => rfl)) (fun _ _ => rfl)) (pe_callB (cr_lenK K) (by rfl) T.z_len (by decide +kernel) (pa_cons (pv 0) pa_nil)) (nomark _))))))
      (pss_one ps_never)
      pss_nil)
      (pss_one (ps_if (PW.pt (pw_and (pt_cmpR op_eq (pe_ix (ix_tupK K) (pv 0) pe_int (fun _ _ => rfl)) pe_str (nomark _)) (pw_and1 (pt_not (pt_val (pe_cal (c_is_small T) hr (by omega) (pa_cons (pv 1) (pa_cons (pv 2) pa_nil))))))))
      (pss_one ps_never)
      pss_nil)))), ?_⟩
    refine ⟨.ref a, rfl, .ref a, .ty "tuple", .type "tuple", .type "tuple", true, rfl, .ty _, .base (.tup ha), kit_ty (by decide +kernel), true, rfl, iteF ?_⟩
    refine ⟨.ref a, rfl, a, _, rfl, .inr (SqT.of ha), rfl, _, rfl, ?_⟩
    rw [decide_eq_false (by rw [List.length_cons]; intro z; have := V.int.inj z; omega)]
    refine iteF ⟨_, rfl, _, _, rfl, rfl, _, rfl, ?_⟩
    show if decide ((6 : Int) < (lv : Int)) = true then _ else _
    rw [decide_eq_false (by omega)]
    refine iteF ?_
    refine ⟨.ref a, rfl, a, _, 0, .str x, rfl, rfl, SqT.of ha, atN (i := 0) rfl, .str x, .ty "str", .type "str", .type "str", true, rfl, .ty _, .base (.str x), kit_ty (by decide +kernel), true, rfl, iteF ?_⟩
    refine ⟨.ref a, rfl, a, _, 0, .str x, rfl, rfl, SqT.of ha, atN (i := 0) rfl, x, some u, rfl, rfl, hn, _, rfl, iteF ?_⟩
    refine ⟨.ref a, rfl, a, _, 0, .str x, rfl, rfl, SqT.of ha, atN (i := 0) rfl, He.ga K "LENGTHS", x, .int ((r.length + 1 : Nat) : Int), rfl, rfl, ⟨es, nn, u, DK.at_, DK.lit, hn, ru⟩, ?_⟩
    refine ⟨.ref a, rfl, a, _, rfl, .inr (SqT.of ha), rfl, _, rfl, ?_⟩
    rw [List.length_cons, hlen]
    refine iteNS rfl ?_
    refine ⟨.ref a, rfl, a, _, 0, .str x, rfl, rfl, SqT.of ha, atN (i := 0) rfl, rfl, _, rfl, ?_⟩
    rw [decide_eq_false (fun z => hx (V.str.inj z))]
    exact iteF (iteF q)
/-! ### check_aim -/
def spAim (k d : Nat) : Sp := fun vs H Q _ => ∃ (v v1 : V) (a : PyData) (pa : Addr) (ps : List V) (lv : Nat), vs = [v, v1, .int (k : Int), .ref pa, .int (lv : Int)] ∧ TD H v a ∧ AimOk k d a ∧ H pa = some (.tup ps) ∧ ps.length + d ≤ 100 ∧ lv + d ≤ 7 ∧ k ≤ 4 ∧ ∀ H', Ex H H' → Q .non H'
theorem sc_check_aim : FnScope ["term", "options", "outcomes", "path", "level", "head"] ["term", "options", "outcomes", "path", "level"] (defScope (topS 29)) := ⟨rfl, rfl, rfl, by decide +kernel, rfl, by decide +kernel, by decide +kernel⟩
theorem c_check_aim (T : Txt K mg w) (k : Nat) : ∀ d : Nat, Cal P w K mg base CX0 (d + 4) "check_aim" ["term", "options", "outcomes", "path", "level"] (spAim k d)
  | 0 => by
    refine mkCal (T.d_check_aim) sc_check_aim (fun _ _ _ _ _ _ us hl => match us, hl with | [_, _, _, _, _], _ => rfl) (fun vs H Q E h => ?_) (fun f cdv A outer s H vs Q E hr h => ?_)
    · obtain ⟨v, v1, a, pa, ps, lv, rfl, _⟩ := h
      rfl
    · obtain ⟨v, v1, a, pa, ps, lv, rfl, _, h, _⟩ := h
      cases h
  | d + 1 => by
    have ih := c_check_aim T k d
    refine mkCal (T.d_check_aim) sc_check_aim (fun _ _ _ _ _ _ us hl => match us, hl with | [_, _, _, _, _], _ => rfl) (fun vs H Q E h => ?_) (fun f cdv A outer s H vs Q E hr h => ?_)
    · obtain ⟨v, v1, a, pa, ps, lv, rfl, _⟩ := h
      rfl
    · obtain ⟨v, v1, a, pa, ps, lv, rfl, hT, hA, hpa, hps, hlv, hk, q⟩ := h
      obtain ⟨x, r, rfl, hx, hn⟩ := hA.head T
      obtain ⟨b, xs, rfl, hb, hxs⟩ := hT.tup_inv
      obtain ⟨x0, xs', rfl, h0, hr'⟩ := hxs.cons_inv
      cases h0.str_inv
      refine ⟨_, (pss_cons (ps_expr (pe_cal (c_check_head T) hr (by omega) (pa_cons (pv 0) (pa_cons (pv 1) (pa_cons (pv 2) (pa_cons (pv 3) (pa_cons (pv 4) pa_nil)))))))
      (pss_cons (ps_set (i := 5) sc_check_aim.nd rfl (Or.inl rfl) (pe_ix (ix_tupK K) (pv 0) pe_int (fun _ _ => rfl)))
      (pss_cons (ps_if (pt_cmpR (op_inK K) (pv 5) (pe_tupX (pa_cons pe_str (pa_cons pe_str pa_nil))) (by rfl))
      (pss_one (ps_expr (pe_cal (c_check_numbers T) hr (by omega) (pa_cons (pe_ix (ix_tupK K) (pv 0) pe_int (fun _ _ => rfl)) (pa_cons (pv 2) (pa_cons (pe_op op_add (pe_gint T.i_MOST_RANK) pe_int) (pa_cons (pe_op op_catX (pv 3) (pe_tupX (pa_cons pe_int pa_nil))) pa_nil)))))))
      pss_nil)
      (pss_cons (ps_if (PW.pt (pw_and (pt_cmpR (op_inK K) (pv 5) (pe_tupX (pa_cons pe_str (pa_cons pe_str pa_nil))) (by rfl)) (pw_and1 (pt_not (pt_val (pe_cal (c_is_below T) hr (by omega) (pa_cons (pe_ix (ix_tupK K) (pv 0) pe_int (fun _ _ => rfl)) (pa_cons (pv 1) pa_nil))))))))
      (pss_one ps_never)
      pss_nil)
      (pss_cons (ps_if (pt_cmpR op_eq (pv 5) pe_str (nomark _))
      (pss_one ps_never)
      pss_nil)
      (pss_cons (ps_if (pt_cmpR op_eq (pv 5) pe_str (nomark _))
      (pss_one ps_never)
      pss_nil)
      (pss_cons (ps_if (pt_cmpR op_eq (pv 5) pe_str (nomark _))
      (pss_one ps_never)
      pss_nil)
      (pss_cons (ps_if (pt_cmpR op_eq (pv 5) pe_str (nomark _))
      (pss_one (ps_expr (pe_cal (c_check_numbers T) hr (by omega) (pa_cons (pe_ix (ix_tupK K) (pv 0) pe_int (fun _ _ => rfl)) (pa_cons (pv 2) (pa_cons (pv 2) (pa_cons (pe_op op_catX (pv 3) (pe_tupX (pa_cons pe_int pa_nil))) pa_nil)))))))
      pss_nil)
      (pss_cons (ps_if (pt_cmpR op_eq (pv 5) pe_str (nomark _))
      (pss_one ps_never)
      pss_nil)
      (pss_cons (ps_if (pt_cmpR (op_inK K) (pv 5) (pe_tupX (pa_cons pe_str (pa_cons pe_str (pa_cons pe_str pa_nil)))) (by rfl))
      (pss_one (ps_expr (pe_cal ih hr (by omega) (pa_cons (pe_ix (ix_tupK K) (pv 0) pe_int (fun _ _ => rfl)) (pa_cons (pv 1) (pa_cons (pv 2) (pa_cons (pe_op op_catX (pv 3) (pe_tupX (pa_cons pe_int pa_nil))) (pa_cons (pe_op op_add (pv 4) pe_int) pa_nil))))))))
      pss_nil)
      (pss_cons (ps_if (pt_cmpR (op_inK K) (pv 5) (pe_tupX (pa_cons pe_str (pa_cons pe_str pa_nil))) (by rfl))
      (pss_one (ps_expr (pe_cal ih hr (by omega) (pa_cons (pe_ix (ix_tupK K) (pv 0) pe_int (fun _ _ => rfl)) (pa_cons (pv 1) (pa_cons (pv 2) (pa_cons (pe_op op_catX (pv 3) (pe_tupX (pa_cons pe_int pa_nil))) (pa_cons (pe_op op_add (pv 4) pe_int) pa_nil))))))))
      pss_nil)
      (pss_one (ps_if (pt_cmpR (op_inK K) (pv 5) (pe_tupX (pa_cons pe_str (pa_cons pe_str (pa_cons pe_str (pa_cons pe_str (pa_cons pe_str pa_nil)))))) (by rfl))
      (pss_one (ps_expr (pe_cal ih hr (by omega) (pa_cons (pe_ix (ix_tupK K) (pv 0) pe_int (fun _ _ => rfl)) (pa_cons (pv 1) (pa_cons (pv 2) (pa_cons (pe_op op_catX (pv 3) (pe_tupX (pa_cons pe_int pa_nil))) (pa_cons (pe_op op_add (pv 4) pe_int) pa_nil))))))))
      pss_nil))))))))))))), ?_⟩
      have hw : (V.ref b : V) = .ref b := rfl
      refine seqR (H := H) ?_ ?_ H (Ex.refl H)
      · exact runExpr fun H' e Q' k' => ⟨_, rfl, _, rfl, _, rfl, _, rfl, _, rfl, .ref b, v1, .int (k : Int), .ref pa, x, r, lv, rfl, hT.ex e, hx, hn, by omega, k' _ H' (Ex.refl _) trivial⟩
      refine fun H1 e1 => ⟨.ref b, rfl, b, _, 0, .str x, rfl, rfl, SqT.of (e1 _ _ hb), atN (i := 0) rfl, ?_⟩
      have hb1 := e1 _ _ hb
      have hpa1 := e1 _ _ hpa
      have q1 : ∀ H', Ex H1 H' → Q .non H' := fun H' e => q H' (e1.trans e)
      -- best, second: the ranks
      refine seqR (H := H1) (runIf (fun H' e => evB_inS (ws := ["best", "second"]) rfl fun _ _ _ q => q) fun hin => ?_) ?_ H1 (Ex.refl H1)
      · have key : ∃ rs : List Nat, rs.length = k ∧ (∀ y ∈ rs, y < 10) ∧ r = [dN rs] := by
          cases hA with
          | best hl hbd => exact ⟨_, hl, hbd, rfl⟩
          | second hl hbd => exact ⟨_, hl, hbd, rfl⟩
          | any => exact absurd hin (by decide +kernel)
          | most => exact absurd hin (by decide +kernel)
          | first => exact absurd hin (by decide +kernel)
          | not => exact absurd hin (by decide +kernel)
        obtain ⟨rs, hl, hbd, rfl⟩ := key
        obtain ⟨y, ys, rfl, hy, hys⟩ := hr'.cons_inv
        obtain ⟨c, rfl, hc⟩ := td_nat_inv hy
        refine runExpr fun H' e Q' k' => ⟨.ref b, rfl, b, _, 1, .ref c, rfl, rfl, SqT.of (e _ _ hb1), atN (i := 1) rfl, _, rfl, 9, 1, rfl, rfl, .ref pa, rfl, by show 1 ≤ 100000; decide, fun p H2 np e2 hp => ?_⟩
        refine ⟨pa, p, ps, _, rfl, rfl, e2 _ _ (e _ _ hpa1), hp, by show ps.length + 1 ≤ 100000; omega, fun p3 H3 e3 hp3 => ?_⟩
        subst hl
        exact ⟨c, rs, 10, .ref p3, rfl, e3 _ _ (e2 _ _ (e _ _ (e1 _ _ hc))), by omega, hbd, k' _ H3 (e2.trans e3) trivial⟩
      -- like, unlike, among, only, table, recode, reorder, either, both, else: not here
      refine seqR (H := H1) (runNo fun H' e => evB_andF ((evB_inS (ws := ["like", "unlike"]) rfl fun _ _ _ q => q).to (by cases hA <;> decide +kernel))) ?_
      refine seqR (H := H1) (runNo fun H' e => (evB_eqS rfl).to (by cases hA <;> decide +kernel)) ?_
      refine seqR (H := H1) (runNo fun H' e => (evB_eqS rfl).to (by cases hA <;> decide +kernel)) ?_
      refine seqR (H := H1) (runNo fun H' e => (evB_eqS rfl).to (by cases hA <;> decide +kernel)) ?_
      refine seqR (H := H1) (runNo fun H' e => (evB_eqS rfl).to (by cases hA <;> decide +kernel)) ?_
      refine seqR (H := H1) (runNo fun H' e => (evB_eqS rfl).to (by cases hA <;> decide +kernel)) ?_
      refine seqR (H := H1) (runNo fun H' e => (evB_inS (ws := ["either", "both", "else"]) rfl fun _ _ _ q => q).to (by cases hA <;> decide +kernel)) ?_
      -- not, first: the aim within
      refine seqR (H := H1) (runIf (fun H' e => evB_inS (ws := ["not", "first"]) rfl fun _ _ _ q => q) fun hin => ?_) ?_
      · have key : ∃ a : PyData, AimOk k d a ∧ r = [a] := by
          cases hA with
          | best => exact absurd hin (by decide +kernel)
          | second => exact absurd hin (by decide +kernel)
          | any => exact absurd hin (by decide +kernel)
          | most => exact absurd hin (by decide +kernel)
          | first h => exact ⟨_, h, rfl⟩
          | not h => exact ⟨_, h, rfl⟩
        obtain ⟨a, ha, rfl⟩ := key
        obtain ⟨y, ys, rfl, hy, hys⟩ := hr'.cons_inv
        refine runExpr fun H' e Q' k' => ⟨.ref b, rfl, b, _, 1, y, rfl, rfl, SqT.of (e _ _ hb1), atN (i := 1) rfl, v1, rfl, _, rfl, .ref pa, rfl, by show 1 ≤ 100000; decide, fun p H2 np e2 hp => ?_⟩
        refine ⟨pa, p, ps, _, rfl, rfl, e2 _ _ (e _ _ hpa1), hp, by show ps.length + 1 ≤ 100000; omega, fun p3 H3 e3 hp3 => ?_⟩
        refine ⟨.int (lv : Int), rfl, _, _, rfl, rfl, y, v1, a, p3, _, lv + 1, rfl, hy.ex (((e1.trans e).trans e2).trans e3), ha, hp3, ?_, by omega, hk, fun H4 e4 => k' _ H4 ((e2.trans e3).trans e4) trivial⟩
        rw [List.length_append, List.length_singleton]
        omega
      refine fun H2 e2 => (runNo (H := H1) fun H' e => (evB_inS (ws := ["either", "both", "else", "recode", "reorder"]) rfl fun _ _ _ q => q).to (by cases hA <;> decide +kernel)) _ H2 e2 fun H3 e3 => q1 H3 (e2.trans e3)
end
end K69
namespace K69
open PySem PySem.Spec PyProof.Rows L2
open Evl (Ex given)
/-! ### fields -/
theorem putF_nil (f : Str) (y : V) : putF f y [] = [(f, y)] := rfl
/-- a further field behind those there -/
theorem putF_new {f : Str} {y : V} : ∀ {fs : List (Str × V)}, (∀ p ∈ fs, p.1 ≠ f) → putF f y fs = fs ++ [(f, y)]
  | [], _ => rfl
  | p :: fs, h => by
    obtain ⟨g, z⟩ := p
    have hg : ¬ g = f := h (g, z) List.mem_cons_self
    show (if g = f then (g, y) :: fs else (g, z) :: putF f y fs) = (g, z) :: (fs ++ [(f, y)])
    rw [if_neg hg, putF_new fun p hp => h p (List.mem_cons_of_mem _ hp)]
abbrev flA (t : V) (o k : Nat) : List (Str × V) := [("term", t), ("options", .int (o : Int)), ("outcomes", .int (k : Int))]
abbrev flN (wy pl am : V) (ch : V) : List (Str × V) := [("way", wy), ("player", pl), ("aim", am), ("children", ch)]
section
variable {P : Program} {w : World} {K : PySem.W.Frag} {mg : Str → Option Value} {base : Heap}
/-! ### Aim.__init__ -/
def spAimI (K : PySem.W.Frag) : Sp := fun vs H Q _ => ∃ (x dx : Addr) (tv : V) (a : PyData) (o k : Nat), vs = [.ref x, tv, .int (o : Int), .int (k : Int)] ∧ H x = some (.ins (He.ga K "Aim") dx []) ∧ TD H tv a ∧ AimOk k 3 a ∧ 1 ≤ o ∧ o ≤ 64 ∧ 1 ≤ k ∧ k ≤ 4 ∧
  ∀ H', ExS [x] H H' → H' x = some (.ins (He.ga K "Aim") dx (flA tv o k)) → Q .non H'
theorem sc_Aim___init__ : FnScope ["self", "term", "options", "outcomes"] ["self", "term", "options", "outcomes"] (defScope (inClass (topS 53) 0)) := ⟨rfl, rfl, rfl, by decide +kernel, rfl, by decide +kernel, by decide +kernel⟩
theorem c_Aim (T : Txt K mg w) : Mkr P w K mg base 8 "Aim" ["self", "term", "options", "outcomes"] (spAimI K) := by
  refine mkMkr T.m_Aim T.g_Aim sc_Aim___init__ (fun _ _ _ _ _ _ us hl => match us, hl with | [_, _, _, _], _ => rfl) (fun vs H Q E h => ?_) (fun f cdv A outer s H vs Q E hr h => ?_)
  · obtain ⟨x, dx, tv, a, o, k, rfl, _⟩ := h
    rfl
  · obtain ⟨x, dx, tv, a, o, k, rfl, hx, hT, hA, ho, ho2, hk, hk2, q⟩ := h
    refine ⟨_, (pss_cons (ps_if (PW.pt (pw_or (pt_not (pt_chain op_le op_le pe_int (pv 2) (pe_gint T.i_MOST_OPTIONS))) (pw_or1 (pt_not (pt_chain op_le op_le pe_int (pv 3) (pe_gint T.i_MOST_OUTCOMES))))))
      (pss_one ps_never)
      pss_nil)
      (pss_cons (ps_expr (pe_cal (c_check_aim T k 3) hr (by omega) (pa_cons (pv 1) (pa_cons (pv 2) (pa_cons (pv 3) (pa_cons (pe_tupX pa_nil) (pa_cons pe_int pa_nil)))))))
      (pss_cons (ps_fld (pv 0) (pv 1) rfl)
      (pss_cons (ps_fld (pv 0) (pv 2) rfl)
      (pss_one (ps_fld (pv 0) (pv 3) rfl)))))), ?_⟩
    refine ⟨_, rfl, _, _, rfl, rfl, true, ?_, iteT ?_⟩
    · show V.bl (decide ((1 : Int) ≤ (o : Int))) = V.bl true
      rw [decide_eq_true (by omega)]
    refine ⟨_, _, rfl, rfl, true, ?_, iteF ?_⟩
    · show V.bl (decide ((o : Int) ≤ 64)) = V.bl true
      rw [decide_eq_true (by omega)]
    refine ⟨_, rfl, _, _, rfl, rfl, true, ?_, iteT ?_⟩
    · show V.bl (decide ((1 : Int) ≤ (k : Int))) = V.bl true
      rw [decide_eq_true (by omega)]
    refine ⟨_, _, rfl, rfl, true, ?_, iteF ?_⟩
    · show V.bl (decide ((k : Int) ≤ 4)) = V.bl true
      rw [decide_eq_true (by omega)]
    -- the check
    refine ⟨tv, rfl, _, rfl, _, rfl, by show 0 ≤ 100000; decide, fun pa H1 na e1 hpa => ?_⟩
    refine ⟨tv, .int (o : Int), a, pa, [], 1, rfl, hT.ex e1, hA, hpa, by decide, by decide, hk2, fun H2 e2 => ?_⟩
    have hx2 := e2 _ _ (e1 _ _ hx)
    -- the fields
    refine ⟨tv, rfl, .ref x, rfl, x, _, dx, [], rfl, hx2, T.c_Aim, T.n_Aim_term, by show 0 < 1000; decide, ?_⟩
    refine ⟨_, rfl, .ref x, rfl, x, _, dx, _, rfl, upd_same, T.c_Aim, T.n_Aim_options, by show 1 < 1000; decide, ?_⟩
    refine ⟨_, rfl, .ref x, rfl, x, _, dx, _, rfl, upd_same, T.c_Aim, T.n_Aim_outcomes, by show 2 < 1000; decide, ?_⟩
    rw [upd_upd, upd_upd]
    refine q _ (ExS.trans (exS_ex (e1.trans e2)) exS_upd) ?_
    rw [upd_same]
    rfl
/-! ### Node.__init__ -/
def spNodeI (K : PySem.W.Frag) : Sp := fun vs H Q _ => ∃ (x dx : Addr) (wy pl am : V), vs = [.ref x, wy, pl, am] ∧ H x = some (.ins (He.ga K "Node") dx []) ∧
  ∀ (H' : Hp) (ch : V), ExS [x] H H' → H' x = some (.ins (He.ga K "Node") dx (flN wy pl am ch)) → Q .non H'
theorem sc_Node___init__ : FnScope ["self", "way", "player", "aim"] ["self", "way", "player", "aim"] (defScope (inClass (topS 57) 0)) := ⟨rfl, rfl, rfl, by decide +kernel, rfl, by decide +kernel, by decide +kernel⟩
theorem c_Node (T : Txt K mg w) : Mkr P w K mg base 1 "Node" ["self", "way", "player", "aim"] (spNodeI K) := by
  refine mkMkr T.m_Node T.g_Node sc_Node___init__ (fun _ _ _ _ _ _ us hl => match us, hl with | [_, _, _, _], _ => rfl) (fun vs H Q E h => ?_) (fun f cdv A outer s H vs Q E hr h => ?_)
  · obtain ⟨x, dx, wy, pl, am, rfl, _⟩ := h
    rfl
  · obtain ⟨x, dx, wy, pl, am, rfl, hx, q⟩ := h
    refine ⟨_, (pss_cons (ps_fld (pv 0) (pv 1) rfl)
      (pss_cons (ps_fld (pv 0) (pv 2) rfl)
      (pss_cons (ps_fld (pv 0) (pv 3) rfl)
      (pss_one (ps_fld (pv 0) (pe_tupX pa_nil) rfl))))), ?_⟩
    refine ⟨_, rfl, .ref x, rfl, x, _, dx, [], rfl, hx, T.c_Node, T.n_Node_way, by show 0 < 1000; decide, ?_⟩
    refine ⟨_, rfl, .ref x, rfl, x, _, dx, _, rfl, upd_same, T.c_Node, T.n_Node_player, by show 1 < 1000; decide, ?_⟩
    refine ⟨_, rfl, .ref x, rfl, x, _, dx, _, rfl, upd_same, T.c_Node, T.n_Node_aim, by show 2 < 1000; decide, ?_⟩
    rw [upd_upd, upd_upd]
    refine ⟨by show 0 ≤ 100000; decide, fun pa H1 na e1 hpa => ?_⟩
    refine ⟨.ref x, rfl, x, _, dx, _, rfl, e1 _ _ upd_same, T.c_Node, T.n_Node_children, by show 3 < 1000; decide, ?_⟩
    refine q _ (.ref pa) (ExS.trans (ExS.trans exS_upd (exS_ex e1)) exS_upd) ?_
    rw [upd_same]
    rfl
end
end K69
namespace K69
open PySem PySem.Spec PyProof.Rows L2
open Evl (Ex given)
/-! ### small numbers as values -/
theorem vN_int (l : List Nat) : vN l = (l.map fun n : Nat => (n : Int)).map V.int := by
  rw [List.map_map] <;> rfl
theorem vN_flat (l : List Nat) : (vN l).all flatV = true := by
  rw [List.all_eq_true]
  intro x hx
  obtain ⟨n, _, rfl⟩ := List.mem_map.mp hx
  rfl
theorem eqV_int (a b : Int) : eqV (.int a) (.int b) = decide (a = b) := by
  show (a == b) = decide (a = b)
  exact Bool.beq_eq_decide_eq a b
theorem inV_nat (s : Nat) (l : List Nat) : inV (.int (s : Int)) (vN l) = decide (s ∈ l) := by
  unfold inV
  rw [vN, List.any_map]
  cases h : decide (s ∈ l) with
  | true =>
    rw [List.any_eq_true]
    exact ⟨s, of_decide_eq_true h, by show eqV (.int (s : Int)) (.int (s : Int)) = true; rw [eqV_int]; exact decide_eq_true rfl⟩
  | false =>
    rw [List.any_eq_false]
    intro x hx
    show ¬ eqV (.int (x : Int)) (.int (s : Int)) = true
    rw [eqV_int]
    intro z
    have e : (x : Int) = (s : Int) := of_decide_eq_true z
    have e2 : x = s := by omega
    subst e2
    exact (of_decide_eq_false h) hx
theorem vN_at_inv {l : List Nat} {i : Nat} {x : V} (h : (vN l)[i]? = some x) : ∃ n, l[i]? = some n ∧ x = .int (n : Int) := by
  rw [List.getElem?_map] at h
  cases e : l[i]? with
  | none => rw [e] at h; cases h
  | some n => rw [e] at h; exact ⟨n, rfl, (Option.some.inj h).symm⟩
/-- strictly rising ints of the same members are one -/
theorem upI_unique : ∀ {l m : List Int}, l.Pairwise (· < ·) → m.Pairwise (· < ·) → (∀ x, x ∈ l ↔ x ∈ m) → l = m
  | [], [], _, _, _ => rfl
  | [], b :: m, _, _, h => by
    have := (h b).mpr List.mem_cons_self
    cases this
  | a :: l, [], _, _, h => by
    have := (h a).mp List.mem_cons_self
    cases this
  | a :: l, b :: m, h1, h2, h => by
    obtain ⟨a1, a2⟩ := List.pairwise_cons.mp h1
    obtain ⟨b1, b2⟩ := List.pairwise_cons.mp h2
    have e : a = b := by
      rcases List.mem_cons.mp ((h a).mp List.mem_cons_self) with e | p1
      · exact e
      · rcases List.mem_cons.mp ((h b).mpr List.mem_cons_self) with e | p2
        · exact e.symm
        · have q1 := a1 b p2
          have q2 := b1 a p1
          omega
    subst e
    refine congrArg (a :: ·) (upI_unique a2 b2 fun x => ⟨fun hx => ?_, fun hx => ?_⟩)
    · rcases List.mem_cons.mp ((h x).mp (List.mem_cons_of_mem _ hx)) with e | q
      · subst e
        have := a1 x hx
        omega
      · exact q
    · rcases List.mem_cons.mp ((h x).mpr (List.mem_cons_of_mem _ hx)) with e | q
      · subst e
        have := b1 x hx
        omega
      · exact q
theorem range_map_get {α : Type} (l : List α) (f : Nat → V) (g : α → V) (h : ∀ i a, l[i]? = some a → f i = g a) : (List.range l.length).map f = l.map g := by
  refine List.ext_getElem? fun i => ?_
  rw [List.getElem?_map, List.getElem?_map]
  by_cases hi : i < l.length
  · have h3 : l[i]? = some l[i] := List.getElem?_eq_getElem hi
    rw [List.getElem?_range hi, h3]
    show some (f i) = some (g l[i])
    rw [h i _ h3]
  · rw [List.getElem?_eq_none_iff.mpr (by rw [List.length_range]; omega), List.getElem?_eq_none_iff.mpr (by omega)] <;> rfl
section
variable {P : Program} {w : World} {K : PySem.W.Frag} {mg : Str → Option Value} {base : Heap}
/-! ### dense_ranks, _law_dense -/
def spDense : Sp := fun vs H Q _ => ∃ (v : V) (rs : List Nat), vs = [v] ∧ TD H v (dN rs) ∧ 1 ≤ rs.length ∧ rs.length ≤ 4 ∧ (∀ r ∈ rs, r < 10) ∧ ∀ v' H', Ex H H' → TD H' v' (dN (dn rs)) → Q v' H'
theorem sc_dense_ranks : FnScope ["ranks", "rank", "levels"] ["ranks"] (defScope (topS 62)) := ⟨rfl, rfl, rfl, by decide +kernel, rfl, by decide +kernel, by decide +kernel⟩
theorem c_dense_ranks (T : Txt K mg w) : Cal P w K mg base CX0 2 "dense_ranks" ["ranks"] spDense := by
  refine mkCal (T.d_dense_ranks) sc_dense_ranks (fun _ _ _ _ _ _ us hl => match us, hl with | [_], _ => rfl) (fun vs H Q E h => ?_) (fun f cdv A outer s H vs Q E hr h => ?_)
  · obtain ⟨v, rs, rfl, _⟩ := h
    rfl
  · obtain ⟨v, rs, rfl, hT, h1, h4, hb, q⟩ := h
    obtain ⟨a, rfl, ha⟩ := td_nat_inv hT
    refine ⟨_, (pss_cons (ps_if (pt_not (pt_chain op_le op_le pe_int (pe_callB (cr_lenK K) (by rfl) T.z_len (by decide +kernel) (pa_cons (pv 0) pa_nil)) (pe_gint T.i_MOST_OUTCOMES)))
      (pss_one ps_never)
      pss_nil)
      (pss_cons (ps_for PassesOwn.never rfl (pi_tupK K (pv 0)) (pg_name (i := 1) sc_dense_ranks.nd rfl (Or.inl rfl))
      (pss_one (ps_if (pt_not (pt_val (pe_cal (c_is_below T) hr (by omega) (pa_cons (pv 1) (pa_cons (pe_op op_add (pe_gint T.i_MOST_RANK) pe_int) pa_nil)))))
        (pss_one ps_never)
        pss_nil)))
      (pss_cons (ps_set (i := 2) sc_dense_ranks.nd rfl (Or.inr rfl) (pe_callB (cr_sortK w) (by rfl) T.z_sorted (by decide +kernel) (pa_cons (pe_callTy (cr_setK K w) (by rfl) T.z_set (by decide +kernel) (pa_cons (pv 0) pa_nil)) pa_nil)))
      (pss_one (ps_ret (pe_callTy call_tupX (by rfl) T.z_tuple (by decide +kernel) (pa_cons (pe_lc (own := [("rank", 1)]) rfl sc_dense_ranks.nd (pi_tupK K (pv 0)) (blkOk_by (by kernel_rfl)) (fun _ _ _ _ _ => (pg_name (i := 1) sc_dense_ranks.nd rfl (Or.inl rfl))) (fun _ _ _ _ _ => pts_nil) (fun _ _ _ _ _ => (pe_idxX K (pe_bm PySem.F.plainAttrs_list PySem.F.slot_list_index PySem.F.type_list_index mt_index (PE.up (pv 2)) (pa_cons (PE.up (pv 1)) pa_nil))))) pa_nil))))))), ?_⟩
    refine ⟨.ref a, rfl, a, _, rfl, .inr (SqT.of ha), 1, _, rfl, rfl, true, ?_, iteT ⟨_, _, rfl, rfl, true, ?_, iteF ?_⟩⟩
    · show V.bl (decide ((1 : Int) ≤ ((vN rs).length : Int))) = V.bl true
      rw [vN_len, decide_eq_true (by omega)]
    · show V.bl (decide (((vN rs).length : Int) ≤ 4)) = V.bl true
      rw [vN_len, decide_eq_true (by omega)]
    -- every rank is one
    refine ⟨.ref a, rfl, a, rfl, ⟨_, SqT.of ha⟩, for_tup (K := K) (a := a) (xs := vN rs) (fun i σ H2 => H2 = H ∧ ∃ v, σ = [some (.ref a), v, none]) ⟨rfl, none, rfl⟩ (fun i σ H2 _ ⟨e, _⟩ => by rw [e]; exact SqT.of ha) ?_ ?_⟩
    · rintro i x σ H2 hi ⟨rfl, v, rfl⟩
      obtain ⟨n, hn, rfl⟩ := vN_at_inv hi
      have hlt := hb n (List.mem_of_getElem? hn)
      refine ⟨.int (n : Int), rfl, 9, 1, rfl, rfl, _, _, rfl, true, ?_, iteF ?_⟩
      · rw [decide_eq_true (by omega), decide_eq_true (by omega)] <;> rfl
      · exact ⟨rfl, _, rfl⟩
    · rintro σ H2 ⟨rfl, v, rfl⟩
      -- levels = sorted(set(ranks))
      refine ⟨.ref a, rfl, a, _, rfl, (by rw [← vN_int]; exact SqT.of ha), by rw [List.length_map]; omega, fun b c hc hbn => ?_⟩
      rw [List.length_map] at hc
      refine ⟨b, _, c, rfl, upd_same, by omega, fun ns p hup hmem hlen hp => ?_⟩
      have ens : ns = (lev rs).map fun n : Nat => (n : Int) := by
        refine upI_unique hup ?_ fun x => ?_
        · rw [List.pairwise_map]
          exact List.Pairwise.imp (fun {a b} (h : a < b) => by omega) (lev_up rs)
        · rw [hmem x]
          constructor
          · intro h
            obtain ⟨n, hn, rfl⟩ := List.mem_map.mp (of_decide_eq_true h)
            exact List.mem_map.mpr ⟨n, (mem_lev hb).mpr hn, rfl⟩
          · intro h
            obtain ⟨n, hn, rfl⟩ := List.mem_map.mp h
            exact decide_eq_true (List.mem_map.mpr ⟨n, (mem_lev hb).mp hn, rfl⟩)
      subst ens
      rw [← vN_int]
      have e1 := (ex_upd (o := SetO w b (fun j => decide (j ∈ rs.map fun n : Nat => (n : Int))) c) hbn).trans (ex_upd (o := .lst (vN (lev rs))) hp)
      have hp2 : (upd (upd H2 b (SetO w b (fun j => decide (j ∈ rs.map fun n : Nat => (n : Int))) c)) p (.lst (vN (lev rs)))) p = some (.lst (vN (lev rs))) := upd_same
      revert e1 hp2
      generalize upd (upd H2 b (SetO w b (fun j => decide (j ∈ rs.map fun n : Nat => (n : Int))) c)) p (.lst (vN (lev rs))) = H3
      intro e1 hp2
      -- the places
      refine ⟨.ref a, rfl, a, rfl, ⟨_, SqT.of (e1 _ _ ha)⟩, fun D nD => lcm_tup (xs := vN rs) (fun i y _ => y = .int ((cnt rs (rs.getD i 0) : Nat) : Int)) (stD_val (f := fun i => .int ((cnt rs (rs.getD i 0) : Nat) : Int))) nD (SqT.of (e1 _ _ ha)) (by rw [vN_len]; omega) (fun x => rfl) ?_ ?_⟩
      · intro i x H4 e4 _ hi
        obtain ⟨n, hn, rfl⟩ := vN_at_inv hi
        have eg : rs.getD i 0 = n := by rw [List.getD_eq_getElem?_getD, hn] <;> rfl
        rw [eg]
        have hin : n ∈ lev rs := (mem_lev hb).mpr (List.mem_of_getElem? hn)
        refine evQ_of fun Q' q' => ⟨.ref p, rfl, p, rfl, ⟨_, SqL.of (e4 _ _ hp2)⟩, .int (n : Int), rfl, p, vN (lev rs), .int (n : Int), cnt rs n, .int (n : Int), rfl, rfl, SqL.of (e4 _ _ hp2), rfl, vN_flat _, ?_, ?_, ?_, q'⟩
        · rw [cnt_lev]
          exact vN_at (up_get (lev_up rs) hin)
        · rw [eqV_int]
          exact decide_eq_true rfl
        · intro m z hm hz
          obtain ⟨k, hk, rfl⟩ := vN_at_inv hz
          rw [cnt_lev] at hm
          have := up_ahead (lev_up rs) hm hk
          rw [eqV_int]
          exact decide_eq_false (by omega)
      · intro H4 ys e4 hD hl
        refine ⟨D, ys, rfl, .inl hD, fun l H5 e5 hl5 => q (.ref l) H5 ((e1.trans e4).trans e5) (td_nat ?_)⟩
        rw [hl5, LsAt.vals (f := fun i => .int ((cnt rs (rs.getD i 0) : Nat) : Int)) hl, vN_len]
        have := range_map_get rs (fun i => V.int ((cnt rs (rs.getD i 0) : Nat) : Int)) (fun r => V.int ((cnt rs r : Nat) : Int)) fun i n hn => by
          rw [List.getD_eq_getElem?_getD, hn] <;> rfl
        rw [this]
        show some (HO.tup _) = some (HO.tup ((rs.map (cnt rs)).map fun n : Nat => V.int (n : Int)))
        rw [List.map_map] <;> rfl
theorem sc__law_dense : FnScope ["_law_ranks", "_law_rank", "_law_s"] ["_law_ranks"] (defScope (topS 83)) := ⟨rfl, rfl, rfl, by decide +kernel, rfl, by decide +kernel, by decide +kernel⟩
theorem c__law_dense (T : Txt K mg w) : Cal P w K mg base CX0 1 "_law_dense" ["_law_ranks"] spDense := by
  refine mkCal (T.d__law_dense) sc__law_dense (fun _ _ _ _ _ _ us hl => match us, hl with | [_], _ => rfl) (fun vs H Q E h => ?_) (fun f cdv A outer s H vs Q E hr h => ?_)
  · obtain ⟨v, rs, rfl, _⟩ := h
    rfl
  · obtain ⟨v, rs, rfl, hT, h1, h4, hb, q⟩ := h
    obtain ⟨a, rfl, ha⟩ := td_nat_inv hT
    refine ⟨_, (pss_one (ps_ret (pe_callTy call_tupX (by rfl) T.z_tuple (by decide +kernel) (pa_cons (pe_lc (own := [("_law_rank", 1)]) rfl sc__law_dense.nd (pi_tupK K (pv 0)) (blkOk_by (by kernel_rfl)) (fun _ _ _ _ _ => (pg_name (i := 1) sc__law_dense.nd rfl (Or.inr rfl))) (fun _ _ _ _ _ => pts_nil) (fun _ _ _ _ _ => (pe_callB (cr_lenK K) (by rfl) T.z_len (by decide +kernel) (pa_cons (pe_lc (own := [("_law_s", 2)]) rfl sc__law_dense.nd (pi_range1 rfl T.z_range (pa_cons pe_int pa_nil)) (blkOk_by (by kernel_rfl)) (fun _ _ _ _ _ => (pg_name (i := 2) sc__law_dense.nd rfl (Or.inl rfl))) (fun _ _ _ _ _ => (pts_one (PW.pt (pw_and (pt_cmpR (op_inK K) (pv 2) (pv 0) (by rfl)) (pw_and1 (pt_cmpR op_lt (pv 2) (pv 1) (nomark _))))))) (fun _ _ _ _ _ => (pv 2))) pa_nil)))) pa_nil)))), ?_⟩
    refine ⟨.ref a, rfl, a, rfl, ⟨_, SqT.of ha⟩, fun D nD => lcm_tup (xs := vN rs) (fun i y _ => y = .int ((cnt rs (rs.getD i 0) : Nat) : Int)) (stD_val (f := fun i => .int ((cnt rs (rs.getD i 0) : Nat) : Int))) nD (SqT.of ha) (by rw [vN_len]; omega) (fun x => rfl) ?_ ?_⟩
    · intro i x H4 e4 _ hi
      obtain ⟨n, hn, rfl⟩ := vN_at_inv hi
      have eg : rs.getD i 0 = n := by rw [List.getD_eq_getElem?_getD, hn] <;> rfl
      rw [eg]
      intro Q' q'
      refine ⟨10, rfl, by decide, by decide, fun D2 nD2 => lcf_rng (n := 10) (fun s => inV (.int (s : Int)) (vN rs) && decide (s < n)) (fun s => .int (s : Int)) nD2 (by decide) (fun x => rfl) ?_ ?_ ?_⟩
      · intro s H5 e5 hs
        refine evB_and (x := inV (.int (s : Int)) (vN rs)) (y := decide (s < n)) (evB_of fun Q2 q2 => ⟨.int (s : Int), rfl, .ref a, rfl, a, vN rs, rfl, .inr (SqT.of (e5 _ _ (e4 _ _ ha))), rfl, vN_flat _, _, rfl, q2⟩) fun _ H6 e6 => evB_of fun Q2 q2 => ⟨.int (s : Int), rfl, .int (n : Int), rfl, _, _, rfl, rfl, decide (s < n), ?_, q2⟩
        show V.bl (decide ((s : Int) < (n : Int))) = V.bl (decide (s < n))
        rw [show decide ((s : Int) < (n : Int)) = decide (s < n) from decide_eq_decide.mpr (by omega)]
      · intro s H5 e5 hs hf
        exact evQ_of fun Q2 q2 => ⟨_, rfl, q2⟩
      · intro H5 e5 hD
        refine ⟨D2, _, rfl, .inl (SqL.of hD), q' _ H5 e5 ?_⟩
        have el : (given 10 (fun s => inV (.int (s : Int)) (vN rs) && decide (s < n)) fun s => .int (s : Int)).length = cnt rs n := by
          unfold given cnt
          rw [List.length_map]
          congr 1
          refine List.filter_congr fun x _ => ?_
          rw [inV_nat]
        rw [el]
    · intro H4 ys e4 hD hl
      refine ⟨D, ys, rfl, .inl hD, fun l H5 e5 hl5 => q (.ref l) H5 (e4.trans e5) (td_nat ?_)⟩
      rw [hl5, LsAt.vals (f := fun i => .int ((cnt rs (rs.getD i 0) : Nat) : Int)) hl, vN_len]
      have := range_map_get rs (fun i => V.int ((cnt rs (rs.getD i 0) : Nat) : Int)) (fun r => V.int ((cnt rs r : Nat) : Int)) fun i n hn => by
        rw [List.getD_eq_getElem?_getD, hn] <;> rfl
      rw [this]
      show some (HO.tup _) = some (HO.tup ((rs.map (cnt rs)).map fun n : Nat => V.int (n : Int)))
      rw [List.map_map] <;> rfl
end
end K69
namespace K69
open PySem PySem.Spec PyProof.Rows L2
open Evl (Ex given)
/-! ### the good options of an aim that is an order -/
def tops (rs ctx : List Nat) : List Nat := ctx.map fun r => rs.getD r 0
def goodX (rs ctx : List Nat) : List Nat := (List.range ctx.length).filter fun x => decide ((tops rs ctx).getD x 0 = top (tops rs ctx))
theorem getD_at {l : List Nat} {i n : Nat} (h : l[i]? = some n) : l.getD i 0 = n := by
  rw [List.getD_eq_getElem?_getD, h] <;> rfl
theorem tops_at {rs ctx : List Nat} {i n : Nat} (h : ctx[i]? = some n) : (tops rs ctx)[i]? = some (rs.getD n 0) := by
  unfold tops
  rw [List.getElem?_map, h] <;> rfl
theorem at_getD {l : List Nat} {i : Nat} (h : i < l.length) : l[i]? = some (l.getD i 0) := by
  rw [List.getD_eq_getElem?_getD, List.getElem?_eq_getElem h] <;> rfl
theorem max_is {l : List Nat} {m : Int} (hm : m ∈ l.map fun n : Nat => (n : Int)) (hle : ∀ y, y ∈ l.map (fun n : Nat => (n : Int)) → y ≤ m) : m = (top l : Nat) := by
  obtain ⟨n, hn, rfl⟩ := List.mem_map.mp hm
  have h1 := top_ge hn
  have hne : l ≠ [] := fun e => by rw [e] at hn; cases hn
  have h2 := hle ((top l : Nat) : Int) (List.mem_map.mpr ⟨top l, top_mem hne, rfl⟩)
  have h2' : ((top l : Nat) : Int) ≤ (n : Int) := h2
  show (n : Int) = ((top l : Nat) : Int)
  omega
theorem given_nat (n : Nat) (f : Nat → Bool) : given n f (fun i => .int (i : Int)) = vN ((List.range n).filter f) := rfl
section
variable {P : Program} {w : World} {K : PySem.W.Frag} {mg : Str → Option Value} {base : Heap}
/-! ### opposite_ranks -/
def spOpp : Sp := fun vs H Q _ => ∃ (v : V) (rs : List Nat), vs = [v] ∧ TD H v (dN rs) ∧ 1 ≤ rs.length ∧ rs.length ≤ 4 ∧ (∀ r ∈ rs, r < 10) ∧ ∀ v' H', Ex H H' → TD H' v' (dN (ag (dn rs))) → Q v' H'
theorem sc_opposite_ranks : FnScope ["ranks", "dense", "rank"] ["ranks"] (defScope (topS 63)) := ⟨rfl, rfl, rfl, by decide +kernel, rfl, by decide +kernel, by decide +kernel⟩
theorem c_opposite_ranks (T : Txt K mg w) : Cal P w K mg base CX0 3 "opposite_ranks" ["ranks"] spOpp := by
  refine mkCal (T.d_opposite_ranks) sc_opposite_ranks (fun _ _ _ _ _ _ us hl => match us, hl with | [_], _ => rfl) (fun vs H Q E h => ?_) (fun f cdv A outer s H vs Q E hr h => ?_)
  · obtain ⟨v, rs, rfl, _⟩ := h
    rfl
  · obtain ⟨v, rs, rfl, hT, h1, h4, hb, q⟩ := h
    refine ⟨_, (pss_cons (ps_set (i := 1) sc_opposite_ranks.nd rfl (Or.inr rfl) (pe_cal (c_dense_ranks T) hr (by omega) (pa_cons (pv 0) pa_nil)))
      (pss_one (ps_ret (pe_callTy call_tupX (by rfl) T.z_tuple (by decide +kernel) (pa_cons (pe_lc (own := [("rank", 2)]) rfl sc_opposite_ranks.nd (pi_tupK K (pv 1)) (blkOk_by (by kernel_rfl)) (fun _ _ _ _ _ => (pg_name (i := 2) sc_opposite_ranks.nd rfl (Or.inl rfl))) (fun _ _ _ _ _ => pts_nil) (fun _ _ _ _ _ => (pe_op op_sub (pe_callB (cr_maxTK K) (by rfl) T.z_max (by decide +kernel) (pa_cons (pv 1) pa_nil)) (pv 2)))) pa_nil))))), ?_⟩
    refine ⟨v, rfl, v, rs, rfl, hT, h1, h4, hb, fun v1 H1 e1 hT1 => ?_⟩
    obtain ⟨a, rfl, ha⟩ := td_nat_inv hT1
    have hl := dn_len rs
    refine ⟨.ref a, rfl, a, rfl, ⟨_, SqT.of ha⟩, fun D nD => lcm_tup (xs := vN (dn rs)) (fun i y _ => y = .int ((top (dn rs) - (dn rs).getD i 0 : Nat) : Int)) (stD_val (f := fun i => .int ((top (dn rs) - (dn rs).getD i 0 : Nat) : Int))) nD (SqT.of ha) (by rw [vN_len]; omega) (fun x => rfl) ?_ ?_⟩
    · intro i x H4 e4 _ hi
      obtain ⟨n, hn, rfl⟩ := vN_at_inv hi
      rw [getD_at hn]
      refine evQ_of fun Q' q' => ⟨.ref a, rfl, a, _, rfl, (by rw [← vN_int]; exact SqT.of (e4 _ _ ha)), by rw [List.length_map]; omega, fun m hm hle => ?_⟩
      have em := max_is hm hle
      subst em
      refine ⟨.int (n : Int), rfl, _, _, rfl, rfl, ?_⟩
      have hle2 := top_ge (List.mem_of_getElem? hn)
      have e2 : (((top (dn rs) : Nat) : Int) - (n : Int)) = ((top (dn rs) - n : Nat) : Int) := by omega
      show Q' (.int (((top (dn rs) : Nat) : Int) - (n : Int))) H4
      rw [e2]
      exact q'
    · intro H4 ys e4 hD hls
      refine ⟨D, ys, rfl, .inl hD, fun l H5 e5 hl5 => q (.ref l) H5 ((e1.trans e4).trans e5) (td_nat ?_)⟩
      rw [hl5, LsAt.vals (f := fun i => .int ((top (dn rs) - (dn rs).getD i 0 : Nat) : Int)) hls, vN_len]
      have := range_map_get (dn rs) (fun i => V.int ((top (dn rs) - (dn rs).getD i 0 : Nat) : Int)) (fun r => V.int ((top (dn rs) - r : Nat) : Int)) fun i n hn => by
        rw [getD_at hn]
      rw [this]
      show some (HO.tup _) = some (HO.tup (((dn rs).map fun d => top (dn rs) - d).map fun n : Nat => V.int (n : Int)))
      rw [List.map_map] <;> rfl
/-! ### ranked -/
def spRanked : Sp := fun vs H Q _ => ∃ (v1 v2 : V) (rs ctx : List Nat), vs = [v1, v2, .bl false] ∧ TD H v1 (dN rs) ∧ TD H v2 (dN ctx) ∧ ctx ≠ [] ∧ ctx.length ≤ 100 ∧ (∀ r ∈ ctx, r < rs.length) ∧ ∀ v' H', Ex H H' → TD H' v' (dN (goodX rs ctx)) → Q v' H'
theorem sc_ranked : FnScope ["ranks", "context", "second", "rank", "lower", "outcome", "x"] ["ranks", "context", "second"] (defScope (topS 48)) := ⟨rfl, rfl, rfl, by decide +kernel, rfl, by decide +kernel, by decide +kernel⟩
theorem c_ranked (T : Txt K mg w) : CalK P w K mg base CX0 1 "ranked" ["ranks", "context", "second"] 2 ["second"] spRanked := by
  refine mkCalK (T.d_ranked) sc_ranked (fun _ _ _ _ _ _ us ws h1 h2 => match us, ws, h1, h2 with | [_, _], [_], _, _ => rfl) (fun vs H Q E h => ?_) (fun f cdv A outer s H vs Q E hr h => ?_)
  · obtain ⟨v1, v2, rs, ctx, rfl, _⟩ := h
    rfl
  · obtain ⟨v1, v2, rs, ctx, rfl, hT1, hT2, hne, hl, hb, q⟩ := h
    obtain ⟨a, rfl, ha⟩ := td_nat_inv hT1
    obtain ⟨c, rfl, hc⟩ := td_nat_inv hT2
    have hpos : 0 < ctx.length := List.length_pos_iff.mpr hne
    refine ⟨_, (pss_cons (ps_set (i := 3) sc_ranked.nd rfl (Or.inr rfl) (pe_callB (cr_maxK K) (by rfl) T.z_max (by decide +kernel) (pa_cons (pe_lc (own := [("outcome", 5)]) rfl sc_ranked.nd (pi_tupK K (pv 1)) (blkOk_by (by kernel_rfl)) (fun _ _ _ _ _ => (pg_name (i := 5) sc_ranked.nd rfl (Or.inl rfl))) (fun _ _ _ _ _ => pts_nil) (fun _ _ _ _ _ => (pe_ix (ix_tupK K) (pv 0) (pv 5) (fun _ _ => rfl)))) pa_nil)))
      (pss_cons (ps_setLc (i := 4) (own := [("outcome", 5)]) rfl sc_ranked.nd rfl rfl (sw_true rfl rfl rfl (by decide +kernel)) (pi_tupK K (pv 1)) (blkOk_by (by kernel_rfl)) (fun _ _ _ _ _ => (pg_name (i := 5) sc_ranked.nd rfl (Or.inl rfl))) (fun _ _ _ _ _ => (pts_one (pt_cmpR op_lt (pe_ix (ix_tupK K) (pv 0) (pv 5) (fun _ _ => rfl)) (pv 3) (nomark _)))) (fun _ _ _ _ _ => (pe_ix (ix_tupK K) (pv 0) (pv 5) (fun _ _ => rfl))))
      (pss_cons (ps_if (PW.pt (pw_and (pt_val (pv 2)) (pw_and1 (pt_cmpR op_gt (pe_callB (cr_lenK K) (by rfl) T.z_len (by decide +kernel) (pa_cons (pv 4) pa_nil)) pe_int (nomark _)))))
      pss_never
      pss_nil)
      (pss_one (ps_ret (pe_callTy call_tupX (by rfl) T.z_tuple (by decide +kernel) (pa_cons (pe_lc (own := [("x", 6)]) rfl sc_ranked.nd (pi_range1 rfl T.z_range (pa_cons (pe_callB (cr_lenK K) (by rfl) T.z_len (by decide +kernel) (pa_cons (pv 1) pa_nil)) pa_nil)) (blkOk_by (by kernel_rfl)) (fun _ _ _ _ _ => (pg_name (i := 6) sc_ranked.nd rfl (Or.inl rfl))) (fun _ _ _ _ _ => (pts_one (pt_cmpR op_eq (pe_ix (ix_tupK K) (pv 0) (pe_ix (ix_tupK K) (pv 1) (pv 6) (fun _ _ => rfl)) (fun _ _ => rfl)) (pv 3) (nomark _)))) (fun _ _ _ _ _ => (pv 6))) pa_nil))))))), ?_⟩
    -- the greatest rank
    refine ⟨.ref c, rfl, c, rfl, ⟨_, SqT.of hc⟩, fun D nD => lcm_tup (xs := vN ctx) (fun i y _ => y = .int (((tops rs ctx).getD i 0 : Nat) : Int)) (stD_val (f := fun i => .int (((tops rs ctx).getD i 0 : Nat) : Int))) nD (SqT.of hc) (by rw [vN_len]; omega) (fun x => rfl) ?_ ?_⟩
    · intro i x H4 e4 _ hi
      obtain ⟨n, hn, rfl⟩ := vN_at_inv hi
      rw [getD_at (tops_at hn)]
      exact evQ_of fun Q' q' => ⟨.ref a, rfl, .int (n : Int), rfl, a, _, _, _, rfl, rfl, SqT.of (e4 _ _ ha), atN (vN_at (at_getD (hb n (List.mem_of_getElem? hn)))), q'⟩
    intro H1 ys e1 hD hls
    have eys : ys = vN (tops rs ctx) := by
      rw [LsAt.vals (f := fun i => .int (((tops rs ctx).getD i 0 : Nat) : Int)) hls, vN_len]
      have := range_map_get ctx (fun i => V.int (((tops rs ctx).getD i 0 : Nat) : Int)) (fun r => V.int ((rs.getD r 0 : Nat) : Int)) fun i n hn => by
        rw [getD_at (tops_at hn)]
      rw [this]
      show _ = ((ctx.map fun r => rs.getD r 0).map fun n : Nat => V.int (n : Int))
      rw [List.map_map] <;> rfl
    subst eys
    refine ⟨D, _, rfl, (by rw [← vN_int]; exact SqL.of hD), by rw [List.length_map]; unfold tops; rw [List.length_map]; exact hpos, fun m hm hle => ?_⟩
    have em := max_is hm hle
    subst em
    have ha1 := e1 _ _ ha
    have hc1 := e1 _ _ hc
    -- lower
    refine ⟨.ref c, rfl, c, rfl, ⟨_, SqT.of hc1⟩, fun D2 nD2 => lcf_tup (xs := vN ctx) (fun i => decide ((tops rs ctx).getD i 0 < top (tops rs ctx))) (fun i => .int (((tops rs ctx).getD i 0 : Nat) : Int)) nD2 (SqT.of hc1) (by rw [vN_len]; omega) (fun x => rfl) ?_ ?_ ?_⟩
    · intro i x H4 e4 hi
      obtain ⟨n, hn, rfl⟩ := vN_at_inv hi
      rw [getD_at (tops_at hn)]
      refine evB_of fun Q' q' => ⟨.ref a, rfl, .int (n : Int), rfl, a, _, _, _, rfl, rfl, SqT.of (e4 _ _ ha1), atN (vN_at (at_getD (hb n (List.mem_of_getElem? hn)))), _, rfl, _, _, rfl, rfl, _, ?_, q'⟩
      show V.bl (decide (((rs.getD n 0 : Nat) : Int) < ((top (tops rs ctx) : Nat) : Int))) = _
      rw [show decide (((rs.getD n 0 : Nat) : Int) < ((top (tops rs ctx) : Nat) : Int)) = decide (rs.getD n 0 < top (tops rs ctx)) from decide_eq_decide.mpr (by omega)]
    · intro i x H4 e4 hi _
      obtain ⟨n, hn, rfl⟩ := vN_at_inv hi
      rw [getD_at (tops_at hn)]
      exact evQ_of fun Q' q' => ⟨.ref a, rfl, .int (n : Int), rfl, a, _, _, _, rfl, rfl, SqT.of (e4 _ _ ha1), atN (vN_at (at_getD (hb n (List.mem_of_getElem? hn)))), q'⟩
    intro H2 e2 hD2
    -- not the second
    refine ⟨_, rfl, false, rfl, iteF (iteF ?_)⟩
    have ha2 := e2 _ _ ha1
    have hc2 := e2 _ _ hc1
    -- the options of that rank
    refine ⟨.ref c, rfl, c, _, rfl, .inr (SqT.of hc2), _, rfl, (by rw [vN_len]; omega), (by rw [vN_len]; omega), fun D3 nD3 => ?_⟩
    rw [vN_len]
    refine lcf_rng (n := ctx.length) (fun x => decide ((tops rs ctx).getD x 0 = top (tops rs ctx))) (fun i => .int (i : Int)) nD3 (by omega) (fun x => rfl) ?_ ?_ ?_
    · intro i H4 e4 hi
      have hn : ctx[i]? = some ctx[i] := List.getElem?_eq_getElem hi
      rw [getD_at (tops_at hn)]
      refine evB_of fun Q' q' => ⟨.ref a, rfl, .ref c, rfl, .int (i : Int), rfl, c, _, _, _, rfl, rfl, SqT.of (e4 _ _ hc2), atN (vN_at hn), a, _, _, _, rfl, rfl, SqT.of (e4 _ _ ha2), atN (vN_at (at_getD (hb _ (List.mem_of_getElem? hn)))), _, rfl, rfl, _, ?_, q'⟩
      rw [show decide (V.int ((rs.getD ctx[i] 0 : Nat) : Int) = V.int ((top (tops rs ctx) : Nat) : Int)) = decide (rs.getD ctx[i] 0 = top (tops rs ctx)) from decide_eq_decide.mpr ⟨fun z => by have := V.int.inj z; omega, fun z => by rw [z]⟩]
    · intro i H4 e4 hi _
      exact evQ_of fun Q' q' => ⟨_, rfl, q'⟩
    · intro H4 e4 hD3
      refine ⟨D3, _, rfl, .inl hD3, fun l H5 e5 hl5 => q (.ref l) H5 (((e1.trans e2).trans e4).trans e5) (td_nat ?_)⟩
      rw [hl5, given_nat]
      rfl
/-! ### simple_good, good_options, of an order -/
def spGood : Sp := fun vs H Q _ => ∃ (v1 v2 v3 : V) (rs ctx : List Nat), vs = [v1, v2, v3] ∧ TD H v1 (.tuple [.str "best", dN rs]) ∧ TD H v2 (dN ctx) ∧ ctx ≠ [] ∧ ctx.length ≤ 100 ∧ (∀ r ∈ ctx, r < rs.length) ∧ ∀ v' H', Ex H H' → TD H' v' (dN (goodX rs ctx)) → Q v' H'
theorem sc_simple_good : FnScope ["term", "context", "outcomes", "head", "options", "x"] ["term", "context", "outcomes"] (defScope (topS 50)) := ⟨rfl, rfl, rfl, by decide +kernel, rfl, by decide +kernel, by decide +kernel⟩
theorem c_simple_good (T : Txt K mg w) : Cal P w K mg base CX0 2 "simple_good" ["term", "context", "outcomes"] spGood := by
  refine mkCal (T.d_simple_good) sc_simple_good (fun _ _ _ _ _ _ us hl => match us, hl with | [_, _, _], _ => rfl) (fun vs H Q E h => ?_) (fun f cdv A outer s H vs Q E hr h => ?_)
  · obtain ⟨v1, v2, v3, rs, ctx, rfl, _⟩ := h
    rfl
  · obtain ⟨v1, v2, v3, rs, ctx, rfl, hT1, hT2, hne, hl, hb, q⟩ := h
    obtain ⟨a, xs, rfl, ha, hxs⟩ := hT1.tup_inv
    obtain ⟨x0, xs2, rfl, h0, hxs2⟩ := hxs.cons_inv
    cases h0.str_inv
    obtain ⟨x1, xs3, rfl, h1, hxs3⟩ := hxs2.cons_inv
    cases hxs3.nil_inv
    obtain ⟨c, rfl, hc⟩ := td_nat_inv hT2
    refine ⟨_, (pss_cons (ps_set (i := 3) sc_simple_good.nd rfl (Or.inl rfl) (pe_ix (ix_tupK K) (pv 0) pe_int (fun _ _ => rfl)))
      (pss_cons (ps_set (i := 4) sc_simple_good.nd rfl (Or.inl rfl) (pe_callTy cr_range1 (by rfl) T.z_range (by decide +kernel) (pa_cons (pe_callB (cr_lenK K) (by rfl) T.z_len (by decide +kernel) (pa_cons (pv 1) pa_nil)) pa_nil)))
      (pss_cons (ps_if (pt_cmpR op_eq (pv 3) pe_str (nomark _))
      pss_never
      pss_nil)
      (pss_cons (ps_if (PW.pt (pw_or (pt_cmpR op_eq (pv 3) pe_str (nomark _)) (pw_or1 (pt_cmpR op_eq (pv 3) pe_str (nomark _)))))
      (pss_one (ps_ret (pe_calK (c_ranked T) hr (by omega) (pa_cons (pe_ix (ix_tupK K) (pv 0) pe_int (fun _ _ => rfl)) (pa_cons (pv 1) pa_nil)) (pk_cons (pe_cmpR op_eq (pv 3) pe_str (nomark _)) pk_nil))))
      pss_nil)
      pss_never)))), ?_⟩
    refine ⟨.ref a, rfl, a, _, 0, _, rfl, rfl, SqT.of ha, atN (i := 0) rfl, ?_⟩
    refine ⟨.ref c, rfl, c, _, rfl, .inr (SqT.of hc), _, rfl, fun p H1 np e1 => ?_⟩
    refine ⟨_, rfl, rfl, false, by decide +kernel, iteF ?_⟩
    refine ⟨_, rfl, rfl, true, by decide +kernel, iteT ?_⟩
    refine ⟨.ref a, rfl, a, _, 1, x1, rfl, rfl, SqT.of (e1 _ _ ha), atN (i := 1) rfl, .ref c, rfl, _, rfl, rfl, rfl, rfl, x1, .ref c, rs, ctx, ?_, h1.ex e1, td_nat (e1 _ _ hc), hne, hl, hb, fun v' H' e' hv => q v' H' (Evl.Ex.trans e1 e') hv⟩
    have e3 : decide (V.str ("best" : Str) = V.str ("second" : Str)) = false := by decide +kernel
    rw [e3] <;> rfl
theorem sc_good_options : FnScope ["term", "context", "outcomes", "head", "good", "other", "places", "moved", "x", "outcome"] ["term", "context", "outcomes"] (defScope (topS 52)) := ⟨rfl, rfl, rfl, by decide +kernel, rfl, by decide +kernel, by decide +kernel⟩
theorem c_good_options (T : Txt K mg w) : Cal P w K mg base CX0 3 "good_options" ["term", "context", "outcomes"] spGood := by
  refine mkCal (T.d_good_options) sc_good_options (fun _ _ _ _ _ _ us hl => match us, hl with | [_, _, _], _ => rfl) (fun vs H Q E h => ?_) (fun f cdv A outer s H vs Q E hr h => ?_)
  · obtain ⟨v1, v2, v3, rs, ctx, rfl, _⟩ := h
    rfl
  · obtain ⟨v1, v2, v3, rs, ctx, rfl, hT1, hT2, hne, hl, hb, q⟩ := h
    obtain ⟨a, xs, rfl, ha, hxs⟩ := hT1.tup_inv
    obtain ⟨x0, xs, rfl, h0, hxs⟩ := hxs.cons_inv
    cases h0.str_inv
    refine ⟨_, (pss_cons (ps_set (i := 3) sc_good_options.nd rfl (Or.inl rfl) (pe_ix (ix_tupK K) (pv 0) pe_int (fun _ _ => rfl)))
      (pss_cons (ps_if (pt_cmpR (op_inK K) (pv 3) (pe_tupX (pa_cons pe_str (pa_cons pe_str (pa_cons pe_str pa_nil)))) (by rfl))
      pss_never
      pss_nil)
      (pss_cons (ps_if (pt_cmpR op_eq (pv 3) pe_str (nomark _))
      pss_never
      pss_nil)
      (pss_cons (ps_if (pt_cmpR op_eq (pv 3) pe_str (nomark _))
      pss_never
      pss_nil)
      (pss_cons (ps_if (pt_cmpR op_eq (pv 3) pe_str (nomark _))
      pss_never
      pss_nil)
      (pss_cons (ps_if (pt_cmpR op_eq (pv 3) pe_str (nomark _))
      pss_never
      pss_nil)
      (pss_one (ps_ret (pe_cal (c_simple_good T) hr (by omega) (pa_cons (pv 0) (pa_cons (pv 1) (pa_cons (pv 2) pa_nil)))))))))))), ?_⟩
    refine ⟨.ref a, rfl, a, _, 0, _, rfl, rfl, SqT.of ha, atN (i := 0) rfl, ?_⟩
    refine seqR (H := H) (runNo fun H' e => (evB_inS (ws := ["either", "both", "else"]) rfl fun _ _ _ q => q).to (by decide +kernel)) ?_ H (Ex.refl H)
    refine seqR (H := H) (runNo fun H' e => (evB_eqS rfl).to (by decide +kernel)) ?_
    refine seqR (H := H) (runNo fun H' e => (evB_eqS rfl).to (by decide +kernel)) ?_
    refine seqR (H := H) (runNo fun H' e => (evB_eqS rfl).to (by decide +kernel)) ?_
    refine seqR (H := H) (runNo fun H' e => (evB_eqS rfl).to (by decide +kernel)) ?_
    refine fun H1 e1 => ⟨.ref a, rfl, v2, rfl, v3, rfl, .ref a, v2, v3, rs, ctx, rfl, hT1.ex e1, hT2.ex e1, hne, hl, hb, fun v' H' e' hv => q v' H' (e1.trans e') hv⟩
end
end K69
namespace K69
open PySem PySem.Spec PyProof.Rows L2
open Evl (Ex given)
/-! ### trees -/
inductive Tr where
  | leaf (r : Nat)
  | node (p : Nat) (a : PyData) (ts : List Tr)
mutual
def Tr.dat : Tr → PyData
  | .leaf r => .tuple [.str "end", .int (r : Int)]
  | .node p a ts => .tuple (.str "node" :: .int (p : Int) :: a :: Tr.dats ts)
def Tr.dats : List Tr → List PyData
  | [] => []
  | t :: ts => t.dat :: Tr.dats ts
end
theorem dats_map : ∀ ts : List Tr, Tr.dats ts = ts.map Tr.dat
  | [] => rfl
  | t :: ts => by
    show t.dat :: Tr.dats ts = t.dat :: ts.map Tr.dat
    rw [dats_map ts]
/-- induction over trees -/
theorem Tr.ind {C : Tr → Prop} (hl : ∀ r, C (.leaf r)) (hn : ∀ p a ts, (∀ t ∈ ts, C t) → C (.node p a ts)) : ∀ t, C t
  | .leaf r => hl r
  | .node p a ts => hn p a ts fun t _ => Tr.ind hl hn t
mutual
/-- how deep, how many nodes, the aims in reading order, the ends from the left -/
def Tr.dep : Tr → Nat
  | .leaf _ => 0
  | .node _ _ ts => Tr.deps ts + 1
def Tr.deps : List Tr → Nat
  | [] => 0
  | t :: ts => max t.dep (Tr.deps ts)
end
mutual
def Tr.cnt : Tr → Nat
  | .leaf _ => 0
  | .node _ _ ts => Tr.cnts ts + 1
def Tr.cnts : List Tr → Nat
  | [] => 0
  | t :: ts => t.cnt + Tr.cnts ts
end
mutual
def Tr.aims : Tr → List PyData
  | .leaf _ => []
  | .node _ a ts => a :: Tr.aimss ts
def Tr.aimss : List Tr → List PyData
  | [] => []
  | t :: ts => t.aims ++ Tr.aimss ts
end
mutual
def Tr.lvs : Tr → Nat
  | .leaf _ => 1
  | .node _ _ ts => Tr.lvss ts
def Tr.lvss : List Tr → Nat
  | [] => 0
  | t :: ts => t.lvs + Tr.lvss ts
end
mutual
/-- a tree of a game with k outcomes, as the law draws it: all but the aims' kind -/
def Tr.Fit (k : Nat) : Tr → Prop
  | .leaf r => r < k
  | .node p a ts => p < 8 ∧ AimOk k 3 a ∧ 1 ≤ ts.length ∧ ts.length ≤ 3 ∧ Tr.Fits k ts
def Tr.Fits (k : Nat) : List Tr → Prop
  | [] => True
  | t :: ts => t.Fit k ∧ Tr.Fits k ts
end
theorem fits_mem {k : Nat} : ∀ {ts : List Tr}, Tr.Fits k ts ↔ ∀ t ∈ ts, t.Fit k
  | [] => ⟨fun _ t h => (by cases h), fun _ => trivial⟩
  | t :: ts => by
    constructor
    · intro h u hu
      rcases List.mem_cons.mp hu with e | hu
      · rw [e]; exact h.1
      · exact fits_mem.mp h.2 u hu
    · intro h
      exact ⟨h t List.mem_cons_self, fits_mem.mpr fun u hu => h u (List.mem_cons_of_mem _ hu)⟩
theorem deps_le {ts : List Tr} : ∀ {t : Tr}, t ∈ ts → t.dep ≤ Tr.deps ts := by
  induction ts with
  | nil => intro t h; cases h
  | cons u ts ih =>
    intro t h
    show t.dep ≤ max u.dep (Tr.deps ts)
    rcases List.mem_cons.mp h with e | h
    · rw [e]; exact Nat.le_max_left _ _
    · exact Nat.le_trans (ih h) (Nat.le_max_right _ _)
theorem cnts_le {ts : List Tr} : ∀ {t : Tr}, t ∈ ts → t.cnt ≤ Tr.cnts ts := by
  induction ts with
  | nil => intro t h; cases h
  | cons u ts ih =>
    intro t h
    show t.cnt ≤ u.cnt + Tr.cnts ts
    rcases List.mem_cons.mp h with e | h
    · rw [e]; exact Nat.le_add_right _ _
    · exact Nat.le_trans (ih h) (Nat.le_add_left _ _)
theorem dep_le_cnt (t : Tr) : t.dep ≤ t.cnt := by
  refine Tr.ind (C := fun t => t.dep ≤ t.cnt) (fun _ => Nat.le_refl _) (fun p a ts ih => ?_) t
  show Tr.deps ts + 1 ≤ Tr.cnts ts + 1
  have : Tr.deps ts ≤ Tr.cnts ts := by
    induction ts with
    | nil => exact Nat.le_refl _
    | cons u ts ih2 =>
      show max u.dep (Tr.deps ts) ≤ u.cnt + Tr.cnts ts
      have h1 := ih u List.mem_cons_self
      have h2 := ih2 fun t ht => ih t (List.mem_cons_of_mem _ ht)
      omega
  omega
theorem aims_len (t : Tr) : t.aims.length = t.cnt := by
  refine Tr.ind (C := fun t => t.aims.length = t.cnt) (fun _ => rfl) (fun p a ts ih => ?_) t
  show (Tr.aimss ts).length + 1 = Tr.cnts ts + 1
  have : (Tr.aimss ts).length = Tr.cnts ts := by
    induction ts with
    | nil => rfl
    | cons u ts ih2 =>
      show (u.aims ++ Tr.aimss ts).length = u.cnt + Tr.cnts ts
      rw [List.length_append, ih u List.mem_cons_self, ih2 fun t ht => ih t (List.mem_cons_of_mem _ ht)]
  omega
theorem lvss_le {k : Nat} : ∀ {ts : List Tr}, (∀ t ∈ ts, t.Fit k → t.lvs ≤ 2 * t.cnt + 1) → Tr.Fits k ts → Tr.lvss ts ≤ 2 * Tr.cnts ts + ts.length
  | [], _, _ => Nat.le_refl _
  | u :: ts, ih, h => by
    have h1 := ih u List.mem_cons_self h.1
    have h2 := lvss_le (ts := ts) (fun t ht => ih t (List.mem_cons_of_mem _ ht)) h.2
    show u.lvs + Tr.lvss ts ≤ 2 * (u.cnt + Tr.cnts ts) + (ts.length + 1)
    omega
theorem lvs_le {k : Nat} (t : Tr) (h : t.Fit k) : t.lvs ≤ 2 * t.cnt + 1 := by
  revert h
  refine Tr.ind (C := fun t => t.Fit k → t.lvs ≤ 2 * t.cnt + 1) (fun _ _ => Nat.le_refl _) (fun p a ts ih h => ?_) t
  obtain ⟨_, _, _, h3, h4⟩ := h
  have := lvss_le ih h4
  show Tr.lvss ts ≤ 2 * (Tr.cnts ts + 1) + 1
  omega
/-! ### a tree laid out as a game's nodes and ends -/
inductive Ch where
  | leaf (j : Nat)
  | node (i : Nat)
structure Rec where
  aim : PyData
  cs : List Ch
mutual
/-- the tree t lies at c: its node's record, its children further on -/
def Lay (ns : List Rec) (es : List Nat) : Tr → Ch → Prop
  | .leaf r, .leaf j => es[j]? = some r
  | .node _ a ts, .node i => ∃ cs, ns[i]? = some ⟨a, cs⟩ ∧ LayL ns es i ts cs
  | _, _ => False
def LayL (ns : List Rec) (es : List Nat) (i : Nat) : List Tr → List Ch → Prop
  | [], [] => True
  | t :: ts, c :: cs => Lay ns es t c ∧ (∀ j, c = .node j → i < j) ∧ LayL ns es i ts cs
  | _, _ => False
end
theorem layL_iff {ns : List Rec} {es : List Nat} {i : Nat} : ∀ {ts : List Tr} {cs : List Ch}, LayL ns es i ts cs ↔ ts.length = cs.length ∧ ∀ (x : Nat) (t : Tr) (c : Ch), ts[x]? = some t → cs[x]? = some c → Lay ns es t c ∧ ∀ j, c = .node j → i < j
  | [], [] => ⟨fun _ => ⟨rfl, fun x t c h => by simp at h⟩, fun _ => trivial⟩
  | [], c :: cs => ⟨fun h => h.elim, fun h => by simp at h⟩
  | t :: ts, [] => ⟨fun h => h.elim, fun h => by simp at h⟩
  | t :: ts, c :: cs => by
    constructor
    · rintro ⟨h1, h2, h3⟩
      obtain ⟨e, k⟩ := layL_iff.mp h3
      refine ⟨by rw [List.length_cons, List.length_cons, e], fun x u d hu hd => ?_⟩
      cases x with
      | zero =>
        have e1 : t = u := by simpa using hu
        have e2 : c = d := by simpa using hd
        subst e1 e2
        exact ⟨h1, h2⟩
      | succ x => exact k x u d (by simpa using hu) (by simpa using hd)
    · rintro ⟨e, k⟩
      have h0 := k 0 t c rfl rfl
      exact ⟨h0.1, h0.2, layL_iff.mpr ⟨by simpa using e, fun x u d hu hd => k (x + 1) u d (by simpa using hu) (by simpa using hd)⟩⟩
/-- more nodes, more ends behind -/
theorem Lay.mono {ns ns' : List Rec} {es es' : List Nat} (hn : ∀ (i : Nat) (r : Rec), ns[i]? = some r → ns'[i]? = some r) (he : ∀ (i r : Nat), es[i]? = some r → es'[i]? = some r) (t : Tr) : ∀ c, Lay ns es t c → Lay ns' es' t c := by
  refine Tr.ind (C := fun t => ∀ c, Lay ns es t c → Lay ns' es' t c) (fun r c h => ?_) (fun p a ts ih c h => ?_) t
  · cases c with
    | leaf j => exact he j r h
    | node i => exact h.elim
  · cases c with
    | leaf j => exact h.elim
    | node i =>
      obtain ⟨cs, h1, h2⟩ := h
      obtain ⟨e, k⟩ := layL_iff.mp h2
      exact ⟨cs, hn _ _ h1, layL_iff.mpr ⟨e, fun x u d hu hd => ⟨ih u (List.mem_of_getElem? hu) d (k x u d hu hd).1, (k x u d hu hd).2⟩⟩⟩
mutual
/-- a part of a tree -/
def Sub (s : Tr) : Tr → Prop
  | .leaf r => s = .leaf r
  | .node p a ts => s = .node p a ts ∨ Subs s ts
def Subs (s : Tr) : List Tr → Prop
  | [] => False
  | t :: ts => Sub s t ∨ Subs s ts
end
theorem subs_mem {s : Tr} : ∀ {ts : List Tr}, Subs s ts ↔ ∃ t ∈ ts, Sub s t
  | [] => ⟨fun h => h.elim, fun ⟨_, h, _⟩ => by cases h⟩
  | t :: ts => by
    constructor
    · rintro (h | h)
      · exact ⟨t, List.mem_cons_self, h⟩
      · obtain ⟨u, hu, z⟩ := subs_mem.mp h
        exact ⟨u, List.mem_cons_of_mem _ hu, z⟩
    · rintro ⟨u, hu, z⟩
      rcases List.mem_cons.mp hu with e | hu
      · rw [e] at z; exact .inl z
      · exact .inr (subs_mem.mpr ⟨u, hu, z⟩)
theorem sub_refl (t : Tr) : Sub t t := by
  cases t with
  | leaf r => rfl
  | node p a ts => exact .inl rfl
theorem sub_child {p : Nat} {a : PyData} {ts : List Tr} {s t : Tr} (ht : t ∈ ts) (h : Sub s t) : Sub s (.node p a ts) := .inr (subs_mem.mpr ⟨t, ht, h⟩)
/-- what holds of a tree's own parts -/
theorem sub_all {C : Tr → Prop} (hC : ∀ p a ts, C (.node p a ts) → ∀ t ∈ ts, C t) (t : Tr) : C t → ∀ s, Sub s t → C s := by
  refine Tr.ind (C := fun t => C t → ∀ s, Sub s t → C s) (fun r h s e => ?_) (fun p a ts ih h s e => ?_) t
  · have e' : s = .leaf r := e
    rw [e']; exact h
  · rcases e with e | e
    · rw [e]; exact h
    · obtain ⟨u, hu, z⟩ := subs_mem.mp e
      exact ih u hu (hC p a ts h u hu) s z
/-- a game's nodes and ends: what they are of its tree -/
structure Flat (ns : List Rec) (es : List Nat) (t : Tr) (c : Ch) : Prop where
  lay : Lay ns es t c
  each : ∀ i, i < ns.length → ∃ s, Sub s t ∧ Lay ns es s (.node i)
  aims : ns.map Rec.aim = t.aims
  lvs : es.length = t.lvs
  root : ∀ p a ts, t = .node p a ts → c = .node 0
end K69
namespace K69
open PySem PySem.Spec PyProof.Rows L2
open Evl (Ex given)
def Ch.dat : Ch → PyData
  | .leaf j => .tuple [.str "leaf", .int (j : Int)]
  | .node i => .tuple [.str "node", .int (i : Int)]
/-- a node's record as it stands in the heap -/
def RecAt (K : PySem.W.Frag) (k : Nat) (H : Hp) (v : V) (r : Rec) : Prop := ∃ (x dx ax adx : Addr) (wy pl tv ch : V), v = .ref x ∧ H x = some (.ins (He.ga K "Node") dx (flN wy pl (.ref ax) ch)) ∧ H ax = some (.ins (He.ga K "Aim") adx (flA tv r.cs.length k)) ∧
  TD H tv r.aim ∧ TD H ch (.tuple (r.cs.map Ch.dat))
theorem RecAt.kp {K : PySem.W.Frag} {k : Nat} {H H' : Hp} {v : V} {r : Rec} (h : RecAt K k H v r) (e : Kp H H') : RecAt K k H' v r := by
  obtain ⟨x, dx, ax, adx, wy, pl, tv, ch, e1, h1, h2, h3, h4⟩ := h
  exact ⟨x, dx, ax, adx, wy, pl, tv, ch, e1, e.ins h1, e.ins h2, h3.kp e, h4.kp e⟩
def RecsAt (K : PySem.W.Frag) (k : Nat) (H : Hp) (vs : List V) (rs : List Rec) : Prop := vs.length = rs.length ∧ ∀ (i : Nat) (v : V) (r : Rec), vs[i]? = some v → rs[i]? = some r → RecAt K k H v r
theorem RecsAt.kp {K : PySem.W.Frag} {k : Nat} {H H' : Hp} {vs : List V} {rs : List Rec} (h : RecsAt K k H vs rs) (e : Kp H H') : RecsAt K k H' vs rs := ⟨h.1, fun i v r a b => (h.2 i v r a b).kp e⟩
theorem RecsAt.app {K : PySem.W.Frag} {k : Nat} {H : Hp} {vs ws : List V} {rs ss : List Rec} (h : RecsAt K k H vs rs) (g : RecsAt K k H ws ss) : RecsAt K k H (vs ++ ws) (rs ++ ss) := by
  refine ⟨by rw [List.length_append, List.length_append, h.1, g.1], fun i v r a b => ?_⟩
  by_cases hi : i < vs.length
  · rw [List.getElem?_append_left hi] at a
    rw [List.getElem?_append_left (by rw [← h.1]; exact hi)] at b
    exact h.2 i v r a b
  · rw [List.getElem?_append_right (by omega)] at a
    rw [List.getElem?_append_right (by rw [← h.1]; omega), ← h.1] at b
    exact g.2 _ v r a b
/-! ### a scanned tree, whatever stands ahead -/
structure ScanOk (n0 e0 : Nat) (t : Tr) (rs : List Rec) (es : List Nat) (c : Ch) : Prop where
  lay : ∀ (ns0 : List Rec) (es0 : List Nat), ns0.length = n0 → es0.length = e0 → Lay (ns0 ++ rs) (es0 ++ es) t c
  each : ∀ i, n0 ≤ i → i < n0 + rs.length → ∃ s, Sub s t ∧ ∀ (ns0 : List Rec) (es0 : List Nat), ns0.length = n0 → es0.length = e0 → Lay (ns0 ++ rs) (es0 ++ es) s (.node i)
  aims : rs.map Rec.aim = t.aims
  lvs : es.length = t.lvs
  aft : ∀ j, c = .node j → n0 ≤ j
  root : ∀ p a ts, t = .node p a ts → c = .node n0
structure ScanL (n0 e0 : Nat) (ts : List Tr) (rs : List Rec) (es : List Nat) (cs : List Ch) : Prop where
  len : ts.length = cs.length
  lay : ∀ (x : Nat) (t : Tr) (c : Ch), ts[x]? = some t → cs[x]? = some c → (∀ (ns0 : List Rec) (es0 : List Nat), ns0.length = n0 → es0.length = e0 → Lay (ns0 ++ rs) (es0 ++ es) t c) ∧ ∀ j, c = .node j → n0 ≤ j
  each : ∀ i, n0 ≤ i → i < n0 + rs.length → ∃ t ∈ ts, ∃ s, Sub s t ∧ ∀ (ns0 : List Rec) (es0 : List Nat), ns0.length = n0 → es0.length = e0 → Lay (ns0 ++ rs) (es0 ++ es) s (.node i)
  aims : rs.map Rec.aim = Tr.aimss ts
  lvs : es.length = Tr.lvss ts
theorem get_app {α : Type} {l m : List α} {i : Nat} {r : α} (h : l[i]? = some r) : (l ++ m)[i]? = some r := by
  rw [List.getElem?_append_left (List.getElem?_eq_some_iff.mp h).1]
  exact h
theorem scan_leaf {n0 e0 r : Nat} : ScanOk n0 e0 (.leaf r) [] [r] (.leaf e0) where
  lay := fun ns0 es0 _ h => by
    show (es0 ++ [r])[e0]? = some r
    rw [List.getElem?_append_right (by omega), h, Nat.sub_self] <;> rfl
  each := fun i h1 h2 => by
    rw [List.length_nil] at h2
    omega
  aims := rfl
  lvs := rfl
  aft := fun j h => by cases h
  root := fun p a ts h => by cases h
theorem scanL_nil {n0 e0 : Nat} : ScanL n0 e0 [] [] [] [] where
  len := rfl
  lay := fun x t c h => by simp at h
  each := fun i h1 h2 => by
    rw [List.length_nil] at h2
    omega
  aims := rfl
  lvs := rfl
theorem aimss_snoc : ∀ (ts : List Tr) (t : Tr), Tr.aimss (ts ++ [t]) = Tr.aimss ts ++ t.aims
  | [], t => by
    show t.aims ++ [] = [] ++ t.aims
    rw [List.append_nil, List.nil_append]
  | u :: ts, t => by
    show u.aims ++ Tr.aimss (ts ++ [t]) = u.aims ++ Tr.aimss ts ++ t.aims
    rw [aimss_snoc ts t, List.append_assoc]
theorem lvss_snoc : ∀ (ts : List Tr) (t : Tr), Tr.lvss (ts ++ [t]) = Tr.lvss ts + t.lvs
  | [], t => by
    show t.lvs + 0 = 0 + t.lvs
    omega
  | u :: ts, t => by
    show u.lvs + Tr.lvss (ts ++ [t]) = u.lvs + Tr.lvss ts + t.lvs
    rw [lvss_snoc ts t]
    omega
theorem cnts_snoc : ∀ (ts : List Tr) (t : Tr), Tr.cnts (ts ++ [t]) = Tr.cnts ts + t.cnt
  | [], t => by
    show t.cnt + 0 = 0 + t.cnt
    omega
  | u :: ts, t => by
    show u.cnt + Tr.cnts (ts ++ [t]) = u.cnt + Tr.cnts ts + t.cnt
    rw [cnts_snoc ts t]
    omega
theorem get_snoc {α : Type} {l : List α} {a b : α} {x : Nat} (h : (l ++ [a])[x]? = some b) : l[x]? = some b ∨ (x = l.length ∧ b = a) := by
  by_cases hx : x < l.length
  · rw [List.getElem?_append_left hx] at h
    exact .inl h
  · rw [List.getElem?_append_right (by omega)] at h
    have h0 : x - l.length = 0 := by
      have := (List.getElem?_eq_some_iff.mp h).1
      rw [List.length_singleton] at this
      omega
    rw [h0] at h
    exact .inr ⟨by omega, (Option.some.inj (show some a = some b from h)).symm⟩
theorem scanL_snoc {n0 e0 : Nat} {ts : List Tr} {rs rs2 : List Rec} {es es2 : List Nat} {cs : List Ch} {t : Tr} {c : Ch} (h : ScanL n0 e0 ts rs es cs) (g : ScanOk (n0 + rs.length) (e0 + es.length) t rs2 es2 c) : ScanL n0 e0 (ts ++ [t]) (rs ++ rs2) (es ++ es2) (cs ++ [c]) where
  len := by rw [List.length_append, List.length_append, h.len] <;> rfl
  lay := fun x u d hu hd => by
    rcases get_snoc hu with hu | ⟨ex, rfl⟩
    · rcases get_snoc hd with hd | ⟨ey, rfl⟩
      · obtain ⟨k1, k2⟩ := h.lay x u d hu hd
        refine ⟨fun ns0 es0 e1 e2 => ?_, k2⟩
        rw [← List.append_assoc, ← List.append_assoc]
        exact Lay.mono (fun i r z => get_app z) (fun i r z => get_app z) u d (k1 ns0 es0 e1 e2)
      · have := (List.getElem?_eq_some_iff.mp hu).1
        have := h.len
        omega
    · rcases get_snoc hd with hd | ⟨ey, rfl⟩
      · have := (List.getElem?_eq_some_iff.mp hd).1
        have := h.len
        omega
      · refine ⟨fun ns0 es0 e1 e2 => ?_, fun j hj => by have := g.aft j hj; omega⟩
        rw [← List.append_assoc, ← List.append_assoc]
        exact g.lay (ns0 ++ rs) (es0 ++ es) (by rw [List.length_append, e1]) (by rw [List.length_append, e2])
  each := fun i h1 h2 => by
    rw [List.length_append] at h2
    by_cases hi : i < n0 + rs.length
    · obtain ⟨u, hu, s, hs, k⟩ := h.each i h1 hi
      refine ⟨u, List.mem_append_left _ hu, s, hs, fun ns0 es0 e1 e2 => ?_⟩
      rw [← List.append_assoc, ← List.append_assoc]
      exact Lay.mono (fun i r z => get_app z) (fun i r z => get_app z) s _ (k ns0 es0 e1 e2)
    · obtain ⟨s, hs, k⟩ := g.each i (by omega) (by omega)
      refine ⟨t, List.mem_append_right _ List.mem_cons_self, s, hs, fun ns0 es0 e1 e2 => ?_⟩
      rw [← List.append_assoc, ← List.append_assoc]
      exact k (ns0 ++ rs) (es0 ++ es) (by rw [List.length_append, e1]) (by rw [List.length_append, e2])
  aims := by rw [List.map_append, h.aims, g.aims, aimss_snoc]
  lvs := by rw [List.length_append, h.lvs, g.lvs, lvss_snoc]
theorem scan_node {n0 e0 p : Nat} {a : PyData} {ts : List Tr} {rs : List Rec} {es : List Nat} {cs : List Ch} (h : ScanL (n0 + 1) e0 ts rs es cs) : ScanOk n0 e0 (.node p a ts) (⟨a, cs⟩ :: rs) es (.node n0) where
  lay := fun ns0 es0 e1 e2 => by
    refine ⟨cs, ?_, layL_iff.mpr ⟨h.len, fun x t c ht hc => ?_⟩⟩
    · rw [List.getElem?_append_right (by omega), e1, Nat.sub_self] <;> rfl
    · obtain ⟨k1, k2⟩ := h.lay x t c ht hc
      have := k1 (ns0 ++ [⟨a, cs⟩]) es0 (by rw [List.length_append, e1] <;> rfl) e2
      rw [List.append_assoc] at this
      exact ⟨this, fun j hj => by have := k2 j hj; omega⟩
  each := fun i h1 h2 => by
    rw [List.length_cons] at h2
    by_cases hi : i = n0
    · subst hi
      refine ⟨_, sub_refl _, fun ns0 es0 e1 e2 => ⟨cs, ?_, layL_iff.mpr ⟨h.len, fun x t c ht hc => ?_⟩⟩⟩
      · rw [List.getElem?_append_right (by omega), e1, Nat.sub_self] <;> rfl
      · obtain ⟨k1, k2⟩ := h.lay x t c ht hc
        have := k1 (ns0 ++ [⟨a, cs⟩]) es0 (by rw [List.length_append, e1] <;> rfl) e2
        rw [List.append_assoc] at this
        exact ⟨this, fun j hj => by have := k2 j hj; omega⟩
    · obtain ⟨t, ht, s, hs, k⟩ := h.each i (by omega) (by omega)
      refine ⟨s, sub_child ht hs, fun ns0 es0 e1 e2 => ?_⟩
      have := k (ns0 ++ [⟨a, cs⟩]) es0 (by rw [List.length_append, e1] <;> rfl) e2
      rw [List.append_assoc] at this
      exact this
  aims := by
    show a :: rs.map Rec.aim = a :: Tr.aimss ts
    rw [h.aims]
  lvs := h.lvs
  aft := fun j h => by
    cases h
    exact Nat.le_refl _
  root := fun _ _ _ _ => rfl
theorem flat_of {t : Tr} {rs : List Rec} {es : List Nat} {c : Ch} (h : ScanOk 0 0 t rs es c) : Flat rs es t c where
  lay := h.lay [] [] rfl rfl
  each := fun i hi => by
    obtain ⟨s, hs, k⟩ := h.each i (Nat.zero_le _) (by omega)
    exact ⟨s, hs, k [] [] rfl rfl⟩
  aims := h.aims
  lvs := h.lvs
  root := h.root
end K69
namespace K69
open PySem PySem.Spec PyProof.Rows L2
open Evl (Ex given)
/-! ### the value of a tree of orders -/
def intOf : PyData → Nat
  | .int i => i.toNat
  | _ => 0
def rsOf : PyData → List Nat
  | .tuple [_, .tuple l] => l.map intOf
  | _ => []
theorem rsOf_best (rs : List Nat) : rsOf (.tuple [.str "best", dN rs]) = rs := by
  show (rs.map fun n : Nat => PyData.int (n : Int)).map intOf = rs
  rw [List.map_map]
  have : (intOf ∘ fun n : Nat => PyData.int (n : Int)) = id := by
    funext n
    show ((n : Int)).toNat = n
    omega
  rw [this, List.map_id]
def low : List Nat → Nat
  | [] => 0
  | a :: l => if l = [] then a else min a (low l)
theorem low_le : ∀ {l : List Nat} {x : Nat}, x ∈ l → low l ≤ x
  | a :: l, x, h => by
    show (if l = [] then a else min a (low l)) ≤ x
    rcases List.mem_cons.mp h with e | h
    · subst e
      split
      · exact Nat.le_refl _
      · exact Nat.min_le_left _ _
    · have h2 := low_le h
      rw [if_neg (fun e => by rw [e] at h; cases h)]
      exact Nat.le_trans (Nat.min_le_right _ _) h2
theorem low_mem : ∀ {l : List Nat}, l ≠ [] → low l ∈ l
  | [], h => absurd rfl h
  | a :: l, _ => by
    show (if l = [] then a else min a (low l)) ∈ a :: l
    split
    · exact List.mem_cons_self
    · rename_i h
      have := low_mem h
      rcases Nat.le_total a (low l) with q | q
      · rw [Nat.min_eq_left q]
        exact List.mem_cons_self
      · rw [Nat.min_eq_right q]
        exact List.mem_cons_of_mem _ this
mutual
def rk (D : List Nat) : Tr → Nat
  | .leaf r => D.getD r 0
  | .node _ a ts => if dn (rsOf a) = D then top (rks D ts) else low (rks D ts)
def rks (D : List Nat) : List Tr → List Nat
  | [] => []
  | t :: ts => rk D t :: rks D ts
end
mutual
def val (k : Nat) (D : List Nat) : Tr → List Nat
  | .leaf r => [r]
  | .node p a ts => (List.range k).filter fun r => decide (r ∈ vals k D ts) && decide (D.getD r 0 = rk D (.node p a ts))
def vals (k : Nat) (D : List Nat) : List Tr → List Nat
  | [] => []
  | t :: ts => val k D t ++ vals k D ts
end
theorem rks_map (D : List Nat) : ∀ ts : List Tr, rks D ts = ts.map (rk D)
  | [] => rfl
  | t :: ts => by
    show rk D t :: rks D ts = rk D t :: ts.map (rk D)
    rw [rks_map D ts]
theorem mem_vals {k : Nat} {D : List Nat} {r : Nat} : ∀ {ts : List Tr}, r ∈ vals k D ts ↔ ∃ t ∈ ts, r ∈ val k D t
  | [] => ⟨fun h => (by cases h), fun ⟨_, h, _⟩ => (by cases h)⟩
  | t :: ts => by
    show r ∈ val k D t ++ vals k D ts ↔ _
    rw [List.mem_append, mem_vals (ts := ts)]
    constructor
    · rintro (h | ⟨u, hu, h⟩)
      · exact ⟨t, List.mem_cons_self, h⟩
      · exact ⟨u, List.mem_cons_of_mem _ hu, h⟩
    · rintro ⟨u, hu, h⟩
      rcases List.mem_cons.mp hu with e | hu
      · rw [e] at h; exact .inl h
      · exact .inr ⟨u, hu, h⟩
def OrdA (k : Nat) (D : List Nat) (a : PyData) : Prop := ∃ rs : List Nat, a = .tuple [.str "best", dN rs] ∧ rs.length = k ∧ (∀ r ∈ rs, r < 10) ∧ (dn rs = D ∨ dn rs = ag D)
/-- all its aims are the order D or its opposite -/
def Ord (k : Nat) (D : List Nat) (t : Tr) : Prop := ∀ a ∈ t.aims, OrdA k D a
theorem mem_aimss {a : PyData} : ∀ {ts : List Tr} {t : Tr}, t ∈ ts → a ∈ t.aims → a ∈ Tr.aimss ts
  | u :: ts, t, h, g => by
    show a ∈ u.aims ++ Tr.aimss ts
    rcases List.mem_cons.mp h with e | h
    · rw [e] at g; exact List.mem_append_left _ g
    · exact List.mem_append_right _ (mem_aimss h g)
theorem Ord.child {k : Nat} {D : List Nat} {p : Nat} {a : PyData} {ts : List Tr} (h : Ord k D (.node p a ts)) {t : Tr} (ht : t ∈ ts) : Ord k D t := fun b hb => h b (List.mem_cons_of_mem _ (mem_aimss ht hb))
structure DOk (k : Nat) (D : List Nat) : Prop where
  len : D.length = k
  isd : IsD D
  one : 1 ≤ k
  four : k ≤ 4
theorem DOk.lt {k : Nat} {D : List Nat} (h : DOk k D) {d : Nat} (hd : d ∈ D) : d < 10 := by
  have h1 := isD_lt h.isd hd
  have h2 := h.len
  have h3 := h.four
  omega
theorem DOk.self {k : Nat} {D : List Nat} (h : DOk k D) : dn D = D := dn_self h.isd fun _ => h.lt
/-- the best child's rank -/
theorem rk_node_mem {D : List Nat} {p : Nat} {a : PyData} {ts : List Tr} (h : ts ≠ []) : ∃ t ∈ ts, rk D t = rk D (.node p a ts) := by
  have hne : rks D ts ≠ [] := fun e => by
    rw [rks_map] at e
    exact h (List.map_eq_nil_iff.mp e)
  have : rk D (.node p a ts) ∈ rks D ts := by
    show (if dn (rsOf a) = D then top (rks D ts) else low (rks D ts)) ∈ rks D ts
    split
    · exact top_mem hne
    · exact low_mem hne
  rw [rks_map] at this
  obtain ⟨t, ht, e⟩ := List.mem_map.mp this
  exact ⟨t, ht, e⟩
theorem val_props {k : Nat} {D : List Nat} (t : Tr) : t.Fit k → val k D t ≠ [] ∧ ∀ r ∈ val k D t, r < k ∧ D.getD r 0 = rk D t := by
  refine Tr.ind (C := fun t => t.Fit k → val k D t ≠ [] ∧ ∀ r ∈ val k D t, r < k ∧ D.getD r 0 = rk D t) (fun r h => ⟨List.cons_ne_nil _ _, fun x hx => ?_⟩) (fun p a ts ih h => ?_) t
  · have e : x = r := by simpa [val] using hx
    subst e
    exact ⟨h, rfl⟩
  · obtain ⟨_, _, h1, _, h2⟩ := h
    have hmem : ∀ r, r ∈ val k D (.node p a ts) ↔ r < k ∧ r ∈ vals k D ts ∧ D.getD r 0 = rk D (.node p a ts) := fun r => by
      show r ∈ (List.range k).filter _ ↔ _
      rw [List.mem_filter, List.mem_range]
      simp
    refine ⟨?_, fun r hr => ?_⟩
    · obtain ⟨t, ht, e⟩ := rk_node_mem (D := D) (p := p) (a := a) (ts := ts) (fun e => by rw [e] at h1; simp at h1)
      obtain ⟨i1, i2⟩ := ih t ht (fits_mem.mp h2 t ht)
      obtain ⟨r, rest, er⟩ := List.exists_cons_of_ne_nil i1
      have hr : r ∈ val k D t := by rw [er]; exact List.mem_cons_self
      have := (hmem r).mpr ⟨(i2 r hr).1, mem_vals.mpr ⟨t, ht, hr⟩, by rw [(i2 r hr).2, e]⟩
      intro z
      rw [z] at this
      cases this
    · have := (hmem r).mp hr
      exact ⟨this.1, this.2.2⟩
theorem val_len {k : Nat} {D : List Nat} (t : Tr) (h : 1 ≤ k) : (val k D t).length ≤ k := by
  cases t with
  | leaf r => exact h
  | node p a ts =>
    show ((List.range k).filter _).length ≤ k
    have := List.length_filter_le (fun r => decide (r ∈ vals k D ts) && decide (D.getD r 0 = rk D (.node p a ts))) (List.range k)
    rw [List.length_range] at this
    exact this
theorem mem_val_node {k : Nat} {D : List Nat} {p : Nat} {a : PyData} {ts : List Tr} {r : Nat} : r ∈ val k D (.node p a ts) ↔ r < k ∧ r ∈ vals k D ts ∧ D.getD r 0 = rk D (.node p a ts) := by
  show r ∈ (List.range k).filter _ ↔ _
  rw [List.mem_filter, List.mem_range]
  simp
/-! ### contexts -/
def stepL (C : List (List Nat)) (w : List Nat) : List (List Nat) := C.flatMap fun c => w.map fun o => c ++ [o]
def prodL (W : List (List Nat)) : List (List Nat) := W.foldl stepL [[]]
def FitsW : List Nat → List (List Nat) → Prop
  | [], [] => True
  | o :: c, w :: W => o ∈ w ∧ FitsW c W
  | _, _ => False
theorem mem_foldl : ∀ {W C : List (List Nat)} {ctx : List Nat}, ctx ∈ W.foldl stepL C ↔ ∃ c0 ∈ C, ∃ c1, ctx = c0 ++ c1 ∧ FitsW c1 W
  | [], C, ctx => by
    constructor
    · intro h
      exact ⟨ctx, h, [], (List.append_nil _).symm, trivial⟩
    · rintro ⟨c0, h, c1, e, hf⟩
      cases c1 with
      | nil => rw [e, List.append_nil]; exact h
      | cons o c => exact hf.elim
  | w :: W, C, ctx => by
    show ctx ∈ W.foldl stepL (stepL C w) ↔ _
    rw [mem_foldl]
    constructor
    · rintro ⟨c0, h, c1, e, hf⟩
      obtain ⟨c, hc, h2⟩ := List.mem_flatMap.mp h
      obtain ⟨o, ho, rfl⟩ := List.mem_map.mp h2
      exact ⟨c, hc, o :: c1, by rw [e, List.append_assoc] <;> rfl, ho, hf⟩
    · rintro ⟨c0, h, c1, e, hf⟩
      cases c1 with
      | nil => exact hf.elim
      | cons o c =>
        obtain ⟨ho, hf⟩ := hf
        exact ⟨c0 ++ [o], List.mem_flatMap.mpr ⟨c0, h, List.mem_map.mpr ⟨o, ho, rfl⟩⟩, c, by rw [e, List.append_assoc] <;> rfl, hf⟩
theorem mem_prodL {W : List (List Nat)} {ctx : List Nat} : ctx ∈ prodL W ↔ FitsW ctx W := by
  unfold prodL
  rw [mem_foldl]
  constructor
  · rintro ⟨c0, h, c1, e, hf⟩
    rw [List.mem_singleton] at h
    subst h
    rw [e]
    exact hf
  · intro h
    exact ⟨[], List.mem_cons_self, ctx, rfl, h⟩
theorem fitsW_iff : ∀ {ctx : List Nat} {W : List (List Nat)}, FitsW ctx W ↔ ctx.length = W.length ∧ ∀ (x : Nat) (w : List Nat), W[x]? = some w → ctx.getD x 0 ∈ w
  | [], [] => ⟨fun _ => ⟨rfl, fun x w h => by simp at h⟩, fun _ => trivial⟩
  | [], w :: W => ⟨fun h => h.elim, fun h => by simp at h⟩
  | o :: c, [] => ⟨fun h => h.elim, fun h => by simp at h⟩
  | o :: c, w :: W => by
    constructor
    · rintro ⟨h1, h2⟩
      obtain ⟨e, h3⟩ := fitsW_iff.mp h2
      refine ⟨by rw [List.length_cons, List.length_cons, e], fun x u hu => ?_⟩
      cases x with
      | zero =>
        have e1 : w = u := by simpa using hu
        subst e1
        exact h1
      | succ x => exact h3 x u (by simpa using hu)
    · rintro ⟨e, h⟩
      exact ⟨h 0 w rfl, fitsW_iff.mpr ⟨by simpa using e, fun x u hu => h (x + 1) u (by simpa using hu)⟩⟩
theorem foldl_len {k : Nat} : ∀ {W C : List (List Nat)}, (∀ w ∈ W, w.length ≤ k) → (W.foldl stepL C).length ≤ C.length * k ^ W.length
  | [], C, _ => by
    show C.length ≤ C.length * 1
    omega
  | w :: W, C, h => by
    show (W.foldl stepL (stepL C w)).length ≤ _
    have h1 := foldl_len (W := W) (C := stepL C w) fun u hu => h u (List.mem_cons_of_mem _ hu)
    have h2 : (stepL C w).length ≤ C.length * k := by
      have hw := h w List.mem_cons_self
      unfold stepL
      clear h1 h
      induction C with
      | nil => simp
      | cons c C ih =>
        rw [List.flatMap_cons, List.length_append, List.length_map, List.length_cons, Nat.add_mul, Nat.one_mul]
        omega
    have h3 : (stepL C w).length * k ^ W.length ≤ C.length * k * k ^ W.length := Nat.mul_le_mul_right _ h2
    rw [List.length_cons, Nat.pow_succ, Nat.mul_comm (k ^ W.length) k, ← Nat.mul_assoc]
    omega
theorem mem_goodX {rs ctx : List Nat} {x : Nat} : x ∈ goodX rs ctx ↔ x < ctx.length ∧ ∀ y, y < ctx.length → rs.getD (ctx.getD y 0) 0 ≤ rs.getD (ctx.getD x 0) 0 := by
  unfold goodX
  rw [List.mem_filter, List.mem_range]
  have tl : (tops rs ctx).length = ctx.length := List.length_map _
  have tg : ∀ y, y < ctx.length → (tops rs ctx).getD y 0 = rs.getD (ctx.getD y 0) 0 := fun y hy => by
    have h := tops_at (rs := rs) (at_getD hy)
    exact getD_at h
  constructor
  · rintro ⟨h1, h2⟩
    have h2 := of_decide_eq_true h2
    refine ⟨h1, fun y hy => ?_⟩
    rw [← tg y hy, ← tg x h1, h2]
    exact top_ge (List.mem_of_getElem? (at_getD (l := tops rs ctx) (by rw [tl]; exact hy)))
  · rintro ⟨h1, h2⟩
    refine ⟨h1, decide_eq_true ?_⟩
    have hne : tops rs ctx ≠ [] := fun e => by
      rw [← List.length_eq_zero_iff, tl] at e
      omega
    obtain ⟨y, hy, e⟩ := List.mem_iff_getElem.mp (top_mem hne)
    rw [tl] at hy
    have e2 : (tops rs ctx).getD y 0 = top (tops rs ctx) := by
      rw [← e]
      exact getD_at (List.getElem?_eq_getElem _)
    have h3 := h2 y hy
    rw [← tg y hy, ← tg x h1, e2] at h3
    have h4 := top_ge (List.mem_of_getElem? (at_getD (l := tops rs ctx) (i := x) (by rw [tl]; exact h1)))
    omega
/-- some good option x of a context reaches r -/
def Hit (rs : List Nat) (C : List (List Nat)) (x r : Nat) : Prop := ∃ ctx ∈ C, x ∈ goodX rs ctx ∧ ctx.getD x 0 = r
theorem hit_val {k : Nat} {D rs : List Nat} {p : Nat} {ts : List Tr} {r : Nat} (hD : DOk k D) (hF : Tr.Fit k (.node p (.tuple [.str "best", dN rs]) ts)) (hO : Ord k D (.node p (.tuple [.str "best", dN rs]) ts)) :
    (∃ x, Hit rs (prodL (ts.map (val k D))) x r) ↔ r ∈ val k D (.node p (.tuple [.str "best", dN rs]) ts) := by
  obtain ⟨_, _, h1, h3, hFs⟩ := hF
  obtain ⟨rs', ea, hl, hb, ho⟩ := hO _ List.mem_cons_self
  have er : rs' = rs := by
    have := congrArg rsOf ea
    rw [rsOf_best, rsOf_best] at this
    exact this.symm
  subst er
  have hch : ∀ t ∈ ts, val k D t ≠ [] ∧ ∀ r ∈ val k D t, r < k ∧ D.getD r 0 = rk D t := fun t ht => val_props t (fits_mem.mp hFs t ht)
  have get : ∀ {c : Nat}, c < k → rs'[c]? = some (rs'.getD c 0) ∧ D[c]? = some (D.getD c 0) := fun {c} hc => ⟨at_getD (by rw [hl]; exact hc), at_getD (by rw [hD.len]; exact hc)⟩
  -- comparing in rs is comparing in D, or the other way round
  have cmp : ∀ {c e : Nat}, c < k → e < k → (rs'.getD c 0 ≤ rs'.getD e 0 ↔ if dn rs' = D then D.getD c 0 ≤ D.getD e 0 else D.getD e 0 ≤ D.getD c 0) := fun {c e} hc he => by
    obtain ⟨c1, c2⟩ := get hc
    obtain ⟨e1, e2⟩ := get he
    by_cases q : dn rs' = D
    · rw [if_pos q]
      exact alike_of hb (fun _ => hD.lt) (by rw [hD.self]; exact q) c e _ _ _ _ c1 e1 c2 e2
    · rw [if_neg q]
      exact oppo_of hb (fun _ => hD.lt) (by rw [hD.self]; exact ho.resolve_left q) c e _ _ _ _ c1 e1 c2 e2
  have rkn : rk D (.node p (.tuple [.str "best", dN rs']) ts) = if dn rs' = D then top (rks D ts) else low (rks D ts) := by
    show (if dn (rsOf _) = D then top (rks D ts) else low (rks D ts)) = _
    rw [rsOf_best]
  have wat : ∀ {x : Nat} {t : Tr}, ts[x]? = some t → (ts.map (val k D))[x]? = some (val k D t) := fun {x t} h => by rw [List.getElem?_map, h] <;> rfl
  constructor
  · rintro ⟨x, ctx, hc, hx, er⟩
    obtain ⟨cl, cf⟩ := fitsW_iff.mp (mem_prodL.mp hc)
    rw [List.length_map] at cl
    obtain ⟨x1, x2⟩ := mem_goodX.mp hx
    have hxt : ts[x]? = some ts[x] := List.getElem?_eq_getElem (by omega)
    have htm : ts[x] ∈ ts := List.getElem_mem _
    have hr := cf x _ (wat hxt)
    rw [er] at hr
    obtain ⟨hrk, hrD⟩ := (hch _ htm).2 r hr
    refine mem_val_node.mpr ⟨hrk, mem_vals.mpr ⟨_, htm, hr⟩, ?_⟩
    rw [hrD, rkn]
    have all : ∀ t ∈ ts, if dn rs' = D then rk D t ≤ rk D ts[x] else rk D ts[x] ≤ rk D t := fun t ht => by
      obtain ⟨y, hy, e⟩ := List.mem_iff_getElem.mp ht
      have hyt : ts[y]? = some t := by rw [List.getElem?_eq_getElem hy, e]
      have h4 := cf y _ (wat hyt)
      obtain ⟨k1, k2⟩ := (hch t ht).2 _ h4
      have h5 := x2 y (by omega)
      rw [er] at h5
      have h6 := (cmp k1 hrk).mp h5
      rw [k2, hrD] at h6
      exact h6
    have hin : rk D ts[x] ∈ rks D ts := by
      rw [rks_map]
      exact List.mem_map.mpr ⟨_, htm, rfl⟩
    have hne : rks D ts ≠ [] := fun e => by rw [e] at hin; cases hin
    by_cases q : dn rs' = D
    · rw [if_pos q]
      have h4 := top_ge hin
      have h5 := top_mem hne
      rw [rks_map] at h5
      obtain ⟨t, ht, e⟩ := List.mem_map.mp h5
      have h6 := all t ht
      rw [if_pos q] at h6
      rw [← rks_map] at e
      omega
    · rw [if_neg q]
      have h4 := low_le hin
      have h5 := low_mem hne
      rw [rks_map] at h5
      obtain ⟨t, ht, e⟩ := List.mem_map.mp h5
      have h6 := all t ht
      rw [if_neg q] at h6
      rw [← rks_map] at e
      omega
  · intro h
    obtain ⟨hrk, hv, hrD⟩ := mem_val_node.mp h
    obtain ⟨t, ht, hr⟩ := mem_vals.mp hv
    obtain ⟨x, hx, e⟩ := List.mem_iff_getElem.mp ht
    have hxt : ts[x]? = some t := by rw [List.getElem?_eq_getElem hx, e]
    have hcl : (((ts.map (val k D)).map fun w => w.headD 0).set x r).length = ts.length := by
      rw [List.length_set, List.length_map, List.length_map]
    have hcx : (((ts.map (val k D)).map fun w => w.headD 0).set x r).getD x 0 = r := getD_at (by
      rw [List.getElem?_set_self]
      rw [List.length_map, List.length_map]
      exact hx)
    have hcy : ∀ {y : Nat} {u : Tr}, ts[y]? = some u → (((ts.map (val k D)).map fun w => w.headD 0).set x r).getD y 0 ∈ val k D u := fun {y u} hu => by
      by_cases q : y = x
      · subst q
        rw [hcx]
        rw [hxt] at hu
        cases hu
        exact hr
      · have : (((ts.map (val k D)).map fun w => w.headD 0).set x r)[y]? = some ((val k D u).headD 0) := by
          rw [List.getElem?_set_ne (Ne.symm q), List.getElem?_map, List.getElem?_map, hu] <;> rfl
        rw [getD_at this]
        obtain ⟨a, rest, ea⟩ := List.exists_cons_of_ne_nil (hch u (List.mem_of_getElem? hu)).1
        rw [ea]
        exact List.mem_cons_self
    refine ⟨x, _, mem_prodL.mpr (fitsW_iff.mpr ⟨by rw [hcl, List.length_map], fun y w hw => ?_⟩), mem_goodX.mpr ⟨by rw [hcl]; exact hx, fun y hy => ?_⟩, hcx⟩
    · rw [List.getElem?_map] at hw
      cases hu : ts[y]? with
      | none => rw [hu] at hw; cases hw
      | some u =>
        rw [hu] at hw
        have ew : val k D u = w := Option.some.inj hw
        subst ew
        exact hcy hu
    · rw [hcx]
      rw [hcl] at hy
      have hu : ts[y]? = some ts[y] := List.getElem?_eq_getElem hy
      have hum : ts[y] ∈ ts := List.getElem_mem _
      obtain ⟨k1, k2⟩ := (hch _ hum).2 _ (hcy hu)
      refine (cmp k1 hrk).mpr ?_
      rw [k2, hrD, rkn]
      have hin : rk D ts[y] ∈ rks D ts := by
        rw [rks_map]
        exact List.mem_map.mpr ⟨_, hum, rfl⟩
      by_cases q : dn rs' = D
      · rw [if_pos q, if_pos q]
        exact top_ge hin
      · rw [if_neg q, if_neg q]
        exact low_le hin
end K69
namespace K69
open PySem PySem.Spec PyProof.Rows L2
open Evl (Ex given)
theorem leaf_inv {H : Hp} {v : V} {r : Nat} (h : TD H v (Tr.leaf r).dat) : ∃ a, v = .ref a ∧ H a = some (.tup [.str "end", .int (r : Int)]) := by
  obtain ⟨a, xs, rfl, ha, hxs⟩ := TD.tup_inv h
  obtain ⟨x0, xs2, rfl, h0, hxs2⟩ := hxs.cons_inv
  cases h0.str_inv
  obtain ⟨x1, xs3, rfl, h1, hxs3⟩ := hxs2.cons_inv
  cases h1.int_inv
  cases hxs3.nil_inv
  exact ⟨a, rfl, ha⟩
theorem node_inv {H : Hp} {v : V} {p : Nat} {b : PyData} {ts : List Tr} (h : TD H v (Tr.node p b ts).dat) : ∃ a av cvs, v = .ref a ∧ H a = some (.tup (.str "node" :: .int (p : Int) :: av :: cvs)) ∧ TD H av b ∧ TDs H cvs (Tr.dats ts) ∧ cvs.length = ts.length := by
  obtain ⟨a, xs, rfl, ha, hxs⟩ := TD.tup_inv h
  obtain ⟨x0, xs2, rfl, h0, hxs2⟩ := hxs.cons_inv
  cases h0.str_inv
  obtain ⟨x1, xs3, rfl, h1, hxs3⟩ := hxs2.cons_inv
  cases h1.int_inv
  obtain ⟨x2, xs4, rfl, h2, hxs4⟩ := hxs3.cons_inv
  exact ⟨a, x2, xs4, rfl, ha, h2, hxs4, by rw [hxs4.len, dats_map, List.length_map]⟩
theorem len3 {a b c : V} {xs : List V} {n : Nat} (h : xs.length = n) : (((a :: b :: c :: xs).length : Nat) : Int) = ((n + 3 : Nat) : Int) := by
  rw [List.length_cons, List.length_cons, List.length_cons, h]
section
variable {P : Program} {w : World} {K : PySem.W.Frag} {mg : Str → Option Value} {base : Heap}
/-! ### check_tree -/
def spCT (k : Nat) : Sp := fun vs H Q _ => ∃ (tv y : V) (t : Tr) (lv : Nat), vs = [tv, .int (k : Int), y, .int (lv : Int)] ∧ TD H tv t.dat ∧ t.Fit k ∧ 1 ≤ k ∧ k ≤ 4 ∧ lv + t.dep ≤ 12 ∧ ∀ H', Ex H H' → Q .non H'
theorem sc_check_tree : FnScope ["tree", "outcomes", "path", "levels"] ["tree", "outcomes", "path", "levels"] (defScope (topS 59)) := ⟨rfl, rfl, rfl, by decide +kernel, rfl, by decide +kernel, by decide +kernel⟩
theorem c_check_tree (T : Txt K mg w) (k : Nat) : Cal P w K mg base CX0 3 "check_tree" ["tree", "outcomes", "path", "levels"] (spCT k) := by
  refine mkCal (T.d_check_tree) sc_check_tree (fun _ _ _ _ _ _ us hl => match us, hl with | [_, _, _, _], _ => rfl) (fun vs H Q E h => ?_) (fun f cdv A outer s H vs Q E hr h => ?_)
  · obtain ⟨tv, y, t, lv, rfl, _⟩ := h
    rfl
  · obtain ⟨tv, y, t, lv, rfl, hT, hF, hk1, hk2, hlv, q⟩ := h
    refine ⟨_, (pss_cons (ps_if (PW.pt (pw_or (pt_not (pt_val (pe_callB (cr_isiK K) (by rfl) T.z_isinstance (by decide +kernel) (pa_cons (pv 0) (pa_cons (pe_bltn (v := .ty "tuple") (by rfl) T.z_tuple (by decide +kernel) rfl) pa_nil))))) (pw_or (pt_cmpR op_eq (pe_callB (cr_lenK K) (by rfl) T.z_len (by decide +kernel) (pa_cons (pv 0) pa_nil)) pe_int (nomark _)) (pw_or1 (pt_cmpR (op_ninK K) (pe_ix (ix_tupK K) (pv 0) pe_int (fun _ _ => rfl)) (pe_tupX (pa_cons pe_str (pa_cons pe_str pa_nil))) (by rfl))))))
      (pss_one ps_never)
      pss_nil)
      (pss_cons (ps_if (pt_cmpR op_eq (pe_ix (ix_tupK K) (pv 0) pe_int (fun _ _ => rfl)) pe_str (nomark _))
      (pss_cons (ps_if (pt_cmpR op_ne (pe_callB (cr_lenK K) (by rfl) T.z_len (by decide +kernel) (pa_cons (pv 0) pa_nil)) pe_int (nomark _))
        (pss_one ps_never)
        pss_nil)
        (pss_cons (ps_if (pt_not (pt_val (pe_cal (c_is_below T) hr (by omega) (pa_cons (pe_ix (ix_tupK K) (pv 0) pe_int (fun _ _ => rfl)) (pa_cons (pv 1) pa_nil)))))
        (pss_one ps_never)
        pss_nil)
        (pss_one ps_retN)))
      pss_nil)
      (pss_cons (ps_if (PW.pt (pw_or (pt_cmpR op_lt (pe_callB (cr_lenK K) (by rfl) T.z_len (by decide +kernel) (pa_cons (pv 0) pa_nil)) pe_int (nomark _)) (pw_or (pt_not (pt_val (pe_cal (c_is_small T) hr (by omega) (pa_cons (pe_op op_sub (pe_callB (cr_lenK K) (by rfl) T.z_len (by decide +kernel) (pa_cons (pv 0) pa_nil)) pe_int) (pa_cons (pv 1) pa_nil))))) (pw_or1 (pt_cmpR op_ge (pv 3) (ClX.pe_cval (pe_gref T.g_Game)) (nomark _))))))
      (pss_one ps_never)
      pss_nil)
      (pss_one (ps_if (pt_not (pt_val (pe_cal (c_is_below T) hr (by omega) (pa_cons (pe_ix (ix_tupK K) (pv 0) pe_int (fun _ _ => rfl)) (pa_cons (pe_gint T.i_MOST_PLAYERS) pa_nil)))))
      (pss_one ps_never)
      pss_nil))))), ?_⟩
    obtain ⟨u, hu⟩ := T.v_MOST_LEVELS
    cases t with
    | leaf r =>
      obtain ⟨a, rfl, ha⟩ := leaf_inv hT
      refine ⟨.ref a, rfl, .ref a, .ty "tuple", .type "tuple", .type "tuple", true, rfl, .ty _, .base (.tup ha), kit_ty (by decide +kernel), true, rfl, iteF ?_⟩
      refine ⟨.ref a, rfl, a, _, rfl, .inr (SqT.of ha), rfl, false, rfl, iteF ?_⟩
      refine ⟨.ref a, rfl, a, _, 0, _, rfl, rfl, SqT.of ha, atN (i := 0) rfl, by show 2 ≤ 100000; decide, fun p H1 np e1 hp => ⟨p, _, rfl, .inr (SqT.of hp), rfl, rfl, false, by decide +kernel, iteF ?_⟩⟩
      have ha1 := e1 _ _ ha
      refine ⟨.ref a, rfl, a, _, 0, _, rfl, rfl, SqT.of ha1, atN (i := 0) rfl, rfl, true, by decide +kernel, iteT ?_⟩
      refine ⟨.ref a, rfl, a, _, rfl, .inr (SqT.of ha1), rfl, _, rfl, iteNS rfl ?_⟩
      refine ⟨.ref a, rfl, a, _, 1, _, rfl, rfl, SqT.of ha1, atN (i := 1) rfl, _, rfl, _, _, rfl, true, ?_, iteF ?_⟩
      · have : r < k := hF
        rw [decide_eq_true (by omega), decide_eq_true (by omega)] <;> rfl
      · exact q H1 e1
    | node p b ts =>
      obtain ⟨hp8, hA, hn1, hn3, hFs⟩ := hF
      obtain ⟨a, av, cvs, rfl, ha, _, _, hl⟩ := node_inv hT
      refine ⟨.ref a, rfl, .ref a, .ty "tuple", .type "tuple", .type "tuple", true, rfl, .ty _, .base (.tup ha), kit_ty (by decide +kernel), true, rfl, iteF ?_⟩
      refine ⟨.ref a, rfl, a, _, rfl, .inr (SqT.of ha), rfl, _, rfl, ?_⟩
      rw [decide_eq_false (by rw [List.length_cons]; intro z; have := V.int.inj z; omega)]
      refine iteF ?_
      refine ⟨.ref a, rfl, a, _, 0, _, rfl, rfl, SqT.of ha, atN (i := 0) rfl, by show 2 ≤ 100000; decide, fun p H1 np e1 hp => ⟨p, _, rfl, .inr (SqT.of hp), rfl, rfl, false, by decide +kernel, iteF ?_⟩⟩
      have ha1 := e1 _ _ ha
      refine ⟨.ref a, rfl, a, _, 0, _, rfl, rfl, SqT.of ha1, atN (i := 0) rfl, rfl, false, by decide +kernel, iteF ?_⟩
      refine ⟨.ref a, rfl, a, _, rfl, .inr (SqT.of ha1), _, _, rfl, rfl, false, ?_, iteF ?_⟩
      · rw [len3 hl]
        show V.bl (decide (((ts.length + 3 : Nat) : Int) < 4)) = V.bl false
        rw [decide_eq_false (by omega)]
      refine ⟨.ref a, rfl, a, _, rfl, .inr (SqT.of ha1), _, _, rfl, rfl, _, rfl, ts.length, k, ?_, hn1, hn3, hk1, hk2, fun H2 e2 => ⟨true, rfl, iteF ?_⟩⟩
      · rw [len3 hl]
        show [V.int (((ts.length + 3 : Nat) : Int) - 3), V.int (k : Int)] = _
        rw [show ((ts.length + 3 : Nat) : Int) - 3 = (ts.length : Int) by omega]
      have ha2 := e2 _ _ ha1
      have hlv2 : lv < 12 := by
        have : lv + (Tr.deps ts + 1) ≤ 12 := hlv
        omega
      refine ⟨_, rfl, _, _, .int 12, u, rfl, T.r_Game, hu, _, _, rfl, rfl, false, ?_, iteF ?_⟩
      · show V.bl (decide ((12 : Int) ≤ (lv : Int))) = _
        rw [decide_eq_false (by omega)]
      refine ⟨.ref a, rfl, a, _, 1, _, rfl, rfl, SqT.of ha2, atN (i := 1) rfl, _, _, rfl, true, ?_, iteF ?_⟩
      · rw [decide_eq_true (by omega), decide_eq_true (by omega)] <;> rfl
      · exact q H2 (e1.trans e2)
end
end K69
namespace K69
open PySem PySem.Spec PyProof.Rows L2
open Evl (Ex given)
/-! ### heaps that grow -/
def Gr (H H' : Hp) : Prop := ∀ a, H' a = none → H a = none
theorem Gr.trans {H H1 H2 : Hp} (a : Gr H H1) (b : Gr H1 H2) : Gr H H2 := fun x h => a x (b x h)
theorem gr_exS {S : List Addr} {H H' : Hp} (e : ExS S H H') (h : ∀ a ∈ S, ∃ o, H' a = some o) : Gr H H' := fun a ha => by
  cases q : H a with
  | none => rfl
  | some o =>
    by_cases m : a ∈ S
    · obtain ⟨o2, h2⟩ := h a m
      rw [ha] at h2
      cases h2
    · rw [e a o q m] at ha
      cases ha
theorem gr_ex {H H' : Hp} (e : Ex H H') : Gr H H' := gr_exS (S := []) (exS_ex e) fun a h => by cases h
theorem gr_upd {H : Hp} {a : Addr} {o : HO} : Gr H (upd H a o) := gr_exS (S := [a]) exS_upd fun b h => by
  rw [List.mem_singleton] at h
  subst h
  exact ⟨o, upd_same⟩
theorem exS_drop {x : Addr} {S : List Addr} {H H' : Hp} (e : ExS (x :: S) H H') (h : H x = none) : ExS S H H' := fun a o q n => e a o q fun z => by
  rcases List.mem_cons.mp z with z | z
  · rw [z, h] at q
    cases q
  · exact n z
theorem ex_over {x : Addr} {H H1 H2 : Hp} (h : H x = none) (e : Ex H H1) (g : ExS [x] H1 H2) : Ex H H2 := fun a o q => exS_drop ((exS_ex e).trans g) h a o q (List.not_mem_nil)
def KpT (H H' : Hp) : Prop := ∀ a xs, H a = some (.tup xs) → H' a = some (.tup xs)
mutual
theorem TD.kt {H H' : Hp} (k : KpT H H') : ∀ {v : V} {d : PyData}, TD H v d → TD H' v d
  | _, _, .non => .non
  | _, _, .bl b => .bl b
  | _, _, .int i => .int i
  | _, _, .str x => .str x
  | _, _, .tup h t => .tup (k _ _ h) (TDs.kt k t)
theorem TDs.kt {H H' : Hp} (k : KpT H H') : ∀ {vs : List V} {ds : List PyData}, TDs H vs ds → TDs H' vs ds
  | _, _, .nil => .nil
  | _, _, .cons h t => .cons (TD.kt k h) (TDs.kt k t)
end
theorem kpt_upd {H : Hp} {x C dx : Addr} {fs : List (Str × V)} {o : HO} (h : H x = some (.ins C dx fs)) : KpT H (upd H x o) := fun a xs q => by
  by_cases e : a = x
  · rw [e, h] at q
    cases q
  · rw [upd_ne e]
    exact q
theorem RecAt.upd {K : PySem.W.Frag} {k : Nat} {H : Hp} {x y dx : Addr} {r : Rec} {wy pl am ch : V} {o : HO} (h : RecAt K k H (.ref y) r) (ne : y ≠ x) (hx : H x = some (.ins (He.ga K "Node") dx (flN wy pl am ch))) : RecAt K k (upd H x o) (.ref y) r := by
  obtain ⟨x2, dx2, ax, adx, wy2, pl2, tv, ch2, e1, h1, h2, h3, h4⟩ := h
  cases e1
  refine ⟨y, dx2, ax, adx, wy2, pl2, tv, ch2, rfl, by rw [upd_ne ne]; exact h1, ?_, h3.kt (kpt_upd hx), h4.kt (kpt_upd hx)⟩
  by_cases e : ax = x
  · rw [e, hx] at h2
    exact absurd (Prod.mk.inj (List.cons.inj (HO.ins.inj (Option.some.inj h2)).2.2).1).1 (by decide +kernel)
  · rw [upd_ne e]
    exact h2
theorem aimss_len : ∀ ts : List Tr, (Tr.aimss ts).length = Tr.cnts ts
  | [] => rfl
  | u :: ts => by
    show (u.aims ++ Tr.aimss ts).length = u.cnt + Tr.cnts ts
    rw [List.length_append, aims_len u, aimss_len ts]
theorem cnts_take : ∀ (ts : List Tr) (i : Nat), Tr.cnts (ts.take i) ≤ Tr.cnts ts
  | [], i => by rw [List.take_nil]; exact Nat.le_refl _
  | u :: ts, 0 => Nat.zero_le _
  | u :: ts, i + 1 => by
    have := cnts_take ts i
    show u.cnt + Tr.cnts (ts.take i) ≤ u.cnt + Tr.cnts ts
    omega
theorem lvss_take : ∀ (ts : List Tr) (i : Nat), Tr.lvss (ts.take i) ≤ Tr.lvss ts
  | [], i => by rw [List.take_nil]; exact Nat.le_refl _
  | u :: ts, 0 => Nat.zero_le _
  | u :: ts, i + 1 => by
    have := lvss_take ts i
    show u.lvs + Tr.lvss (ts.take i) ≤ u.lvs + Tr.lvss ts
    omega
theorem take_succ_of {α : Type} {ts : List α} {i : Nat} {t : α} (h : ts[i]? = some t) : ts.take (i + 1) = ts.take i ++ [t] := by
  rw [List.take_add_one, h] <;> rfl
section
variable {P : Program} {w : World} {K : PySem.W.Frag} {mg : Str → Option Value} {base : Heap}
/-! ### scan_tree -/
def spScan (K : PySem.W.Frag) (k d : Nat) : Sp := fun vs H Q _ => ∃ (tv : V) (t : Tr) (pls pa wa pn pe : Addr) (pp pw vs0 : List V) (es0 : List Nat), vs = [tv, .int (k : Int), .ref pls, .ref pn, .ref pe] ∧ TD H tv t.dat ∧ t.Fit k ∧ t.dep < d ∧ 1 ≤ k ∧ k ≤ 4 ∧
  H pls = some (.tup [.ref pa, .ref wa]) ∧ H pa = some (.tup pp) ∧ H wa = some (.tup pw) ∧ pp.length = pw.length ∧ pw.length + t.dep ≤ 12 ∧ H pn = some (.lst vs0) ∧ H pe = some (.lst (vN es0)) ∧ pn ≠ pe ∧ vs0.length + t.cnt ≤ 10000 ∧ es0.length + t.lvs ≤ 10000 ∧
  ∀ (v' : V) (H' : Hp) (vs' : List V) (rs' : List Rec) (es' : List Nat) (c : Ch), ExS [pn, pe] H H' → H' pn = some (.lst (vs0 ++ vs')) → H' pe = some (.lst (vN (es0 ++ es'))) → RecsAt K k H' vs' rs' → (∀ v ∈ vs', ∃ y, v = .ref y ∧ H y = none) → ScanOk vs0.length es0.length t rs' es' c → TD H' v' c.dat → Q v' H'
theorem sc_scan_tree : FnScope ["tree", "outcomes", "places", "nodes", "ends", "e", "node", "index", "children", "x", "path", "way", "aim"] ["tree", "outcomes", "places", "nodes", "ends"] (defScope (topS 60)) := ⟨rfl, rfl, rfl, by decide +kernel, rfl, by decide +kernel, by decide +kernel⟩
theorem c_scan_tree (T : Txt K mg w) (k : Nat) : ∀ d : Nat, Cal P w K mg base CX0 (d + 10) "scan_tree" ["tree", "outcomes", "places", "nodes", "ends"] (spScan K k d) := by
  intro d
  induction d with
  | zero =>
    refine mkCal (T.d_scan_tree) sc_scan_tree (fun _ _ _ _ _ _ us hl => match us, hl with | [_, _, _, _, _], _ => rfl) (fun vs H Q E h => ?_) (fun f cdv A outer s H vs Q E hr h => ?_)
    · obtain ⟨tv, t, pls, pa, wa, pn, pe, pp, pw, vs0, es0, rfl, _⟩ := h
      rfl
    · obtain ⟨tv, t, pls, pa, wa, pn, pe, pp, pw, vs0, es0, rfl, hT, hF, hd, _⟩ := h
      omega
  | succ d ih =>
  refine mkCal (T.d_scan_tree) sc_scan_tree (fun _ _ _ _ _ _ us hl => match us, hl with | [_, _, _, _, _], _ => rfl) (fun vs H Q E h => ?_) (fun f cdv A outer s H vs Q E hr h => ?_)
  · obtain ⟨tv, t, pls, pa, wa, pn, pe, pp, pw, vs0, es0, rfl, _⟩ := h
    rfl
  · obtain ⟨tv, t, pls, pa, wa, pn, pe, pp, pw, vs0, es0, rfl, hT, hF, hd, hk1, hk2, hpls, hpa, hwa, hl, hl2, hpn, hpe, ne, hz1, hz2, q⟩ := h
    refine ⟨_, (pss_cons (ps_asg (pv 2) (pg_tup rfl (pgs_cons (pg_name (i := 10) sc_scan_tree.nd rfl (Or.inl rfl)) (pgs_cons (pg_name (i := 11) sc_scan_tree.nd rfl (Or.inl rfl)) pgs_nil))))
      (pss_cons (ps_expr (pe_cal (c_check_tree T k) hr (by omega) (pa_cons (pv 0) (pa_cons (pv 1) (pa_cons (pv 10) (pa_cons (pe_callB (cr_lenK K) (by rfl) T.z_len (by decide +kernel) (pa_cons (pv 11) pa_nil)) pa_nil))))))
      (pss_cons (ps_if (pt_cmpR op_eq (pe_ix (ix_tupK K) (pv 0) pe_int (fun _ _ => rfl)) pe_str (nomark _))
      (pss_cons (ps_expr (pe_appX (pe_bm PySem.F.plainAttrs_list PySem.F.slot_list_append PySem.F.type_list_append mt_append (PE.up (pv 4)) (pa_cons (PE.up (pe_ix (ix_tupK K) (pv 0) pe_int (fun _ _ => rfl))) pa_nil))))
        (pss_one (ps_ret (pe_tupX (pa_cons pe_str (pa_cons (pe_op op_sub (pe_callB (cr_lenK K) (by rfl) T.z_len (by decide +kernel) (pa_cons (pv 4) pa_nil)) pe_int) pa_nil))))))
      pss_nil)
      (pss_cons (ps_try_never (fun _ _ z => z) (pss_one (ps_set (i := 12) sc_scan_tree.nd rfl (Or.inl rfl) (pe_mkr (c_Aim T) hr (by omega) (pa_cons (pe_ix (ix_tupK K) (pv 0) pe_int (fun _ _ => rfl)) (pa_cons (pe_op op_sub (pe_callB (cr_lenK K) (by rfl) T.z_len (by decide +kernel) (pa_cons (pv 0) pa_nil)) pe_int) (pa_cons (pv 1) pa_nil)))))) pss_nil)
      (pss_cons (ps_set (i := 6) sc_scan_tree.nd rfl (Or.inl rfl) (pe_mkr (c_Node T) hr (by omega) (pa_cons (pv 11) (pa_cons (pe_ix (ix_tupK K) (pv 0) pe_int (fun _ _ => rfl)) (pa_cons (pv 12) pa_nil)))))
      (pss_cons (ps_expr (pe_appX (pe_bm PySem.F.plainAttrs_list PySem.F.slot_list_append PySem.F.type_list_append mt_append (PE.up (pv 3)) (pa_cons (PE.up (pv 6)) pa_nil))))
      (pss_cons (ps_set (i := 7) sc_scan_tree.nd rfl (Or.inl rfl) (pe_op op_sub (pe_callB (cr_lenK K) (by rfl) T.z_len (by decide +kernel) (pa_cons (pv 3) pa_nil)) pe_int))
      (pss_cons (ps_set (i := 8) sc_scan_tree.nd rfl (Or.inl rfl) (pe_lstX pa_nil))
      (pss_cons (ps_for PassesOwn.never rfl (pi_range1 rfl T.z_range (pa_cons (pe_op op_sub (pe_callB (cr_lenK K) (by rfl) T.z_len (by decide +kernel) (pa_cons (pv 0) pa_nil)) pe_int) pa_nil)) (pg_name (i := 9) sc_scan_tree.nd rfl (Or.inl rfl))
      (pss_one (ps_expr (pe_appX (pe_bm PySem.F.plainAttrs_list PySem.F.slot_list_append PySem.F.type_list_append mt_append (PE.up (pv 8)) (pa_cons (PE.up (pe_cal ih hr (by omega) (pa_cons (pe_ix (ix_tupK K) (pv 0) (pe_op op_add pe_int (pv 9)) (fun _ _ => rfl)) (pa_cons (pv 1) (pa_cons (pe_tupX (pa_cons (pe_op op_catX (pv 10) (pe_tupX (pa_cons (pe_op op_add pe_int (pv 9)) pa_nil))) (pa_cons (pe_op op_catX (pv 11) (pe_tupX (pa_cons (pv 9) pa_nil))) pa_nil))) (pa_cons (pv 3) (pa_cons (pv 4) pa_nil))))))) pa_nil))))))
      (pss_cons (ps_fld (pv 6) (pe_callTy call_tupX (by rfl) T.z_tuple (by decide +kernel) (pa_cons (pv 8) pa_nil)) rfl)
      (pss_one (ps_ret (pe_tupX (pa_cons pe_str (pa_cons (pv 7) pa_nil))))))))))))))), ?_⟩
    refine ⟨.ref pls, rfl, pls, _, rfl, SqT.of hpls, rfl, _, _, rfl, _, _, rfl, rfl, ?_⟩
    refine ⟨tv, rfl, _, rfl, _, rfl, .ref wa, rfl, wa, _, rfl, .inr (SqT.of hwa), tv, .ref pa, t, pw.length, rfl, hT, hF, hk1, hk2, by omega, fun H1 e1 => ?_⟩
    have hpn1 := e1 _ _ hpn
    have hpe1 := e1 _ _ hpe
    have hpa1 := e1 _ _ hpa
    have hwa1 := e1 _ _ hwa
    have hT1 := hT.ex e1
    cases t with
    | leaf r =>
      obtain ⟨a, rfl, ha⟩ := leaf_inv hT1
      refine ⟨.ref a, rfl, a, _, 0, _, rfl, rfl, SqT.of ha, atN (i := 0) rfl, rfl, true, by decide +kernel, iteT ?_⟩
      have hz3 : es0.length + 1 ≤ 10000 := hz2
      refine ⟨.ref pe, rfl, pe, rfl, ⟨_, hpe1⟩, .ref a, rfl, a, _, 1, _, rfl, rfl, SqT.of ha, atN (i := 1) rfl, _, hpe1, by rw [vN_len]; omega, fun H2 e2 hpe2 => ?_⟩
      refine ⟨.ref pe, rfl, pe, _, rfl, .inl (SqL.of hpe2), _, _, rfl, rfl, by show 2 ≤ 100000; decide, fun p H3 np e3 hp => ?_⟩
      have ee : ExS [pn, pe] H H3 := ((exS_ex e1).trans (exS_mono e2 fun x hx => List.mem_cons_of_mem _ hx)).trans (exS_ex e3)
      refine q (.ref p) H3 [] [] [r] (.leaf es0.length) ee ?_ ?_ ⟨rfl, fun i v rr h => by simp at h⟩ (fun v hv => by cases hv) scan_leaf ?_
      · rw [List.append_nil]
        exact e3 _ _ (e2 _ _ hpn1 (by simpa using ne))
      · rw [e3 _ _ hpe2, vN, vN, List.map_append] <;> rfl
      · refine .tup hp (.cons (.str _) (.cons ?_ .nil))
        rw [List.length_append, vN_len]
        have e4 : (((es0.length + [V.int (r : Int)].length : Nat) : Int) - 1) = (es0.length : Int) := by
          rw [List.length_singleton]
          omega
        show TD H3 (.int (((es0.length + [V.int (r : Int)].length : Nat) : Int) - 1)) _
        rw [e4]
        exact .int _
    | node p b ts =>
      obtain ⟨hp8, hA, hn1, hn3, hFs⟩ := hF
      obtain ⟨a, av, cvs, rfl, ha, hav, hcvs, hcl⟩ := node_inv hT1
      refine ⟨.ref a, rfl, a, _, 0, _, rfl, rfl, SqT.of ha, atN (i := 0) rfl, rfl, false, by decide +kernel, iteF ?_⟩
      -- the aim
      refine ⟨.ref a, rfl, a, _, 2, av, rfl, rfl, SqT.of ha, atN (i := 2) rfl, .ref a, rfl, a, _, rfl, .inr (SqT.of ha), _, _, rfl, rfl, _, rfl, fun ax adx H2 nax nadx nea e2 hax _ => ?_⟩
      refine ⟨ax, adx, av, b, ts.length, k, ?_, hax, hav.ex e2, hA, hn1, by omega, hk1, hk2, fun H3 e3 hax3 => ⟨rfl, ?_⟩⟩
      · rw [len3 hcl]
        show [V.ref ax, av, V.int (((ts.length + 3 : Nat) : Int) - 3), V.int (k : Int)] = _
        rw [show ((ts.length + 3 : Nat) : Int) - 3 = (ts.length : Int) by omega]
      have e13 : Ex H1 H3 := ex_over nax e2 e3
      -- the node
      refine ⟨.ref wa, rfl, .ref a, rfl, a, _, 1, _, rfl, rfl, SqT.of (e13 _ _ ha), atN (i := 1) rfl, .ref ax, rfl, fun x dx H4 nx ndx nex e4 hx _ => ?_⟩
      refine ⟨x, dx, .ref wa, .int (p : Int), .ref ax, rfl, hx, fun H5 ch e5 hx5 => ⟨rfl, ?_⟩⟩
      have e35 : Ex H3 H5 := ex_over nx e4 e5
      have e15 : Ex H1 H5 := e13.trans e35
      have nx1 : H1 x = none := gr_ex e13 x nx
      have xpn : pn ≠ x := fun z => by rw [z, nx1] at hpn1; cases hpn1
      have xpe : pe ≠ x := fun z => by rw [z, nx1] at hpe1; cases hpe1
      have hpn5 := e15 _ _ hpn1
      have hpe5 := e15 _ _ hpe1
      have hz4 : vs0.length + (Tr.cnts ts + 1) ≤ 10000 := hz1
      have hz5 : es0.length + Tr.lvss ts ≤ 10000 := hz2
      -- nodes.append(node)
      refine ⟨.ref pn, rfl, pn, rfl, ⟨_, hpn5⟩, .ref x, rfl, _, hpn5, by omega, fun H6 e6 hpn6 => ?_⟩
      have hpe6 := e6 _ _ hpe5 (by simpa using ne.symm)
      have hx6 := e6 _ _ hx5 (by simpa using xpn.symm)
      have k16 : ExS [pn] H1 H6 := (exS_ex e15).trans e6
      refine ⟨.ref pn, rfl, pn, _, rfl, .inl (SqL.of hpn6), _, _, rfl, rfl, ?_⟩
      -- children = []
      refine ⟨by show 0 ≤ 100000; decide, fun pc H7 npc e7 hpc => ?_⟩
      have k17 : ExS [pn] H1 H7 := k16.trans (exS_ex e7)
      have kk : ∀ (y : Addr) (ys : List V), H1 y = some (.tup ys) → H7 y = some (.tup ys) := fun y ys h => k17 y _ h fun z => by
        rw [List.mem_singleton] at z
        rw [z, hpn1] at h
        cases h
      have ha7 := kk _ _ ha
      have hpa7 := kk _ _ hpa1
      have hwa7 := kk _ _ hwa1
      have hpn7 := e7 _ _ hpn6
      have hpe7 := e7 _ _ hpe6
      have hx7 := e7 _ _ hx6
      have cpn : pn ≠ pc := fun z => by rw [z, npc] at hpn6; cases hpn6
      have cpe : pe ≠ pc := fun z => by rw [z, npc] at hpe6; cases hpe6
      have hax7 : H7 ax = some (.ins (He.ga K "Aim") adx (flA av ts.length k)) := e7 _ _ (e6 _ _ (e35 _ _ hax3) (by
        intro z
        rw [List.mem_singleton] at z
        rw [z] at nax
        rw [nax] at hpn1
        cases hpn1))
      have kpt7 : KpT H1 H7 := kk
      have hcvs7 := TDs.kt kpt7 hcvs
      have hav7 := hav.kt kpt7
      refine ⟨.ref a, rfl, a, _, rfl, .inr (SqT.of ha7), _, _, rfl, rfl, _, rfl, ?_, ?_, ?_⟩
      · rw [len3 hcl]
        show (-(2 ^ 62) : Int) ≤ ((ts.length + 3 : Nat) : Int) - 3
        omega
      · rw [len3 hcl]
        show ((ts.length + 3 : Nat) : Int) - 3 < 2 ^ 62
        omega
      rw [len3 hcl, show (((ts.length + 3 : Nat) : Int) - 3).toNat = ts.length by omega]
      refine for_range (lo := 0) (n := ts.length) (fun i σ H8 => ∃ (u ee : Option V) (ccs vs' : List V) (rs : List Rec) (es : List Nat) (cs : List Ch), σ = [some (.ref a), some (.int (k : Int)), some (.ref pls), some (.ref pn), some (.ref pe), ee, some (.ref x), some (.int (vs0.length : Int)), some (.ref pc), u, some (.ref pa), some (.ref wa), some (.ref ax)] ∧
        ExS [pn, pe, pc] H7 H8 ∧ H8 pn = some (.lst (vs0 ++ .ref x :: vs')) ∧ H8 pe = some (.lst (vN (es0 ++ es))) ∧ H8 pc = some (.lst ccs) ∧ TDs H8 ccs (cs.map Ch.dat) ∧ ccs.length = i ∧ RecsAt K k H8 vs' rs ∧ (∀ v ∈ vs', ∃ y, v = .ref y ∧ H7 y = none) ∧ ScanL (vs0.length + 1) es0.length (ts.take i) rs es cs) ?_ ?_ ?_
      · refine ⟨none, none, [], [], [], [], [], ?_, ExS.refl _ _, hpn7, (by rw [List.append_nil]; exact hpe7), hpc, .nil, rfl, ⟨rfl, fun i v rr h => by simp at h⟩, (fun v hv => by cases hv), scanL_nil⟩
        have e9 : ((((vs0 ++ [V.ref x]).length : Nat) : Int) - 1) = (vs0.length : Int) := by
          rw [List.length_append, List.length_singleton]
          omega
        show [_, _, _, _, _, _, _, some (V.int ((((vs0 ++ [V.ref x]).length : Nat) : Int) - 1)), _, _, _, _, _] = _
        rw [e9] <;> rfl
      · rintro i σ H8 hi ⟨u, ee, ccs, vs', rs, es, cs, rfl, e8, hpn8, hpe8, hpc8, hcc, hcl8, hrs, hnew, hsc⟩
        have kp78 : Kp H7 H8 := kp_exS e8 fun z hz => by
          rcases List.mem_cons.mp hz with rfl | hz
          · exact ⟨_, hpn7⟩
          rcases List.mem_cons.mp hz with rfl | hz
          · exact ⟨_, hpe7⟩
          rw [List.mem_singleton] at hz
          subst hz
          exact ⟨_, hpc⟩
        have hti : ts[i]? = some ts[i] := List.getElem?_eq_getElem hi
        have htm : ts[i] ∈ ts := List.getElem_mem hi
        obtain ⟨cv, hcv, hcT⟩ := (hcvs7.kp kp78).at (i := i) (d := ts[i].dat) (by rw [dats_map, List.getElem?_map, hti] <;> rfl)
        have e3 : (3 : Int) + (0 + (i : Int)) = ((i + 3 : Nat) : Int) := by omega
        refine ⟨.ref pc, rfl, pc, rfl, ⟨_, hpc8⟩, .ref a, rfl, _, rfl, _, _, rfl, rfl, a, _, _, cv, rfl, rfl, SqT.of (kp78.tup ha7), ?_, _, rfl, ?_⟩
        · show atI _ ((3 : Int) + (0 + (i : Int))) = some cv
          rw [e3]
          exact atN (i := i + 3) hcv
        refine ⟨.ref pa, rfl, _, rfl, _, _, rfl, rfl, by show 1 ≤ 100000; decide, fun p1 H9 n1 f9 hp1 => ?_⟩
        refine ⟨pa, p1, _, _, rfl, rfl, f9 _ _ (kp78.tup hpa7), hp1, by show pp.length + 1 ≤ 100000; omega, fun p2 H10 f10 hp2 => ?_⟩
        refine ⟨.ref wa, rfl, _, rfl, by show 1 ≤ 100000; decide, fun p3 H11 n3 f11 hp3 => ?_⟩
        refine ⟨wa, p3, _, _, rfl, rfl, f11 _ _ (f10 _ _ (f9 _ _ (kp78.tup hwa7))), hp3, by show pw.length + 1 ≤ 100000; omega, fun p4 H12 f12 hp4 => ?_⟩
        refine ⟨by show 2 ≤ 100000; decide, fun p5 H13 n5 f13 hp5 => ?_⟩
        have f813 : Ex H8 H13 := (((f9.trans f10).trans f11).trans f12).trans f13
        have hd1 : ts[i].dep ≤ Tr.deps ts := deps_le htm
        have hd2 : Tr.deps ts + 1 < d + 1 := hd
        have hd3 : pw.length + (Tr.deps ts + 1) ≤ 12 := hl2
        have htk := take_succ_of hti
        have hc1 : Tr.cnts (ts.take i) + ts[i].cnt ≤ Tr.cnts ts := by
          have := cnts_take ts (i + 1)
          rw [htk, cnts_snoc] at this
          exact this
        have hc2 : Tr.lvss (ts.take i) + ts[i].lvs ≤ Tr.lvss ts := by
          have := lvss_take ts (i + 1)
          rw [htk, lvss_snoc] at this
          exact this
        have hrl : rs.length = Tr.cnts (ts.take i) := by rw [← aimss_len, ← hsc.aims, List.length_map]
        have hel : es.length = Tr.lvss (ts.take i) := hsc.lvs
        have hvl := hrs.1
        refine ⟨_, rfl, _, rfl, cv, ts[i], p5, p2, p4, pn, pe, _, _, vs0 ++ .ref x :: vs', es0 ++ es, rfl, hcT.ex f813, fits_mem.mp hFs _ htm, by omega, hk1, hk2, hp5, f13 _ _ (f12 _ _ (f11 _ _ hp2)), f13 _ _ hp4, ?_, ?_, f813 _ _ hpn8, f813 _ _ hpe8, ne, ?_, ?_, fun v' H14 vs2 rs2 es2 c e14 g1 g2 g3 g4 g5 g6 => ?_⟩
        · rw [List.length_append, List.length_append, hl] <;> rfl
        · rw [List.length_append, List.length_singleton]
          omega
        · rw [List.length_append, List.length_cons]
          omega
        · rw [List.length_append]
          omega
        have hpc14 := e14 _ _ (f813 _ _ hpc8) (by simp; exact ⟨cpn.symm, cpe.symm⟩)
        refine ⟨ccs, hpc14, by omega, fun H15 e15' hpc15 => ?_⟩
        have m1 : ∀ z, z ∈ [pn, pe] → z ∈ [pn, pe, pc] := fun z hz => by
          rcases List.mem_cons.mp hz with rfl | hz
          · exact List.mem_cons_self
          · exact List.mem_cons_of_mem _ (List.mem_cons.mpr (.inl (List.mem_singleton.mp hz)))
        have m2 : ∀ z, z ∈ [pc] → z ∈ [pn, pe, pc] := fun z hz => List.mem_cons_of_mem _ (List.mem_cons_of_mem _ hz)
        have e815 : ExS [pn, pe, pc] H8 H15 := ((exS_ex f813).trans (exS_mono e14 m1)).trans (exS_mono e15' m2)
        have kp815 : Kp H8 H15 := kp_exS e815 fun z hz => by
          rcases List.mem_cons.mp hz with rfl | hz
          · exact ⟨_, hpn8⟩
          rcases List.mem_cons.mp hz with rfl | hz
          · exact ⟨_, hpe8⟩
          rw [List.mem_singleton] at hz
          subst hz
          exact ⟨_, hpc8⟩
        have kp1415 : Kp H14 H15 := kp_exS e15' fun z hz => by
          rw [List.mem_singleton] at hz
          subst hz
          exact ⟨_, hpc14⟩
        have gr713 : Gr H7 H13 := gr_exS (e8.trans (exS_ex f813)) fun z hz => by
          rcases List.mem_cons.mp hz with rfl | hz
          · exact ⟨_, f813 _ _ hpn8⟩
          rcases List.mem_cons.mp hz with rfl | hz
          · exact ⟨_, f813 _ _ hpe8⟩
          rw [List.mem_singleton] at hz
          subst hz
          exact ⟨_, f813 _ _ hpc8⟩
        refine ⟨_, ee, ccs ++ [v'], vs' ++ vs2, rs ++ rs2, es ++ es2, cs ++ [c], rfl, e8.trans e815, ?_, ?_, hpc15, ?_, ?_, (hrs.kp kp815).app (g3.kp kp1415), ?_, ?_⟩
        · rw [e15' _ _ g1 (by simpa using cpn), List.append_assoc] <;> rfl
        · rw [e15' _ _ g2 (by simpa using cpe), List.append_assoc]
        · rw [List.map_append]
          exact (hcc.kp kp815).app (.cons (g6.kp kp1415) .nil)
        · rw [List.length_append, hcl8] <;> rfl
        · intro v hv
          rcases List.mem_append.mp hv with hv | hv
          · exact hnew v hv
          · obtain ⟨y, ey, hy⟩ := g4 v hv
            exact ⟨y, ey, gr713 y hy⟩
        · rw [htk]
          refine scanL_snoc hsc ?_
          rw [List.length_append, List.length_append, List.length_cons] at g5
          rw [show vs0.length + 1 + rs.length = vs0.length + (vs'.length + 1) by omega]
          exact g5
      · rintro σ H8 ⟨u, ee, ccs, vs', rs, es, cs, rfl, e8, hpn8, hpe8, hpc8, hcc, hcl8, hrs, hnew, hsc⟩
        have kp78 : Kp H7 H8 := kp_exS e8 fun z hz => by
          rcases List.mem_cons.mp hz with rfl | hz
          · exact ⟨_, hpn7⟩
          rcases List.mem_cons.mp hz with rfl | hz
          · exact ⟨_, hpe7⟩
          rw [List.mem_singleton] at hz
          subst hz
          exact ⟨_, hpc⟩
        refine ⟨.ref pc, rfl, pc, _, rfl, .inl hpc8, fun l H9 f9 hl9 => ?_⟩
        have hx9 := f9 _ _ (kp78.ins hx7)
        refine ⟨.ref x, rfl, x, _, dx, _, rfl, hx9, T.c_Node, T.n_Node_children, by show 4 < 1000; decide, ?_⟩
        refine ⟨_, rfl, by show 2 ≤ 100000; decide, fun p1 H11 n1 f11 hp1 => ?_⟩
        have axx : ax ≠ x := fun z => by
          rw [z, hx7] at hax7
          exact absurd (Prod.mk.inj (List.cons.inj (HO.ins.inj (Option.some.inj hax7)).2.2).1).1 (by decide +kernel)
        have kpu : KpT H9 (upd H9 x (.ins (He.ga K "Node") dx (putF "children" (.ref l) (flN (.ref wa) (.int (p : Int)) (.ref ax) ch)))) := kpt_upd hx9
        have hx1 : H x = none := gr_ex e1 x nx1
        have hpc1 : H pc = none := gr_ex e1 _ (gr_exS k16 (fun z hz => by
          rw [List.mem_singleton] at hz
          subst hz
          exact ⟨_, hpn6⟩) _ npc)
        have eall : ExS (x :: pc :: [pn, pe]) H H11 := by
          refine ExS.trans (ExS.trans (ExS.trans (ExS.trans (ExS.trans (exS_ex e1) (exS_mono k17 fun z hz => ?_)) (exS_mono e8 fun z hz => ?_)) (exS_ex f9)) (exS_mono exS_upd fun z hz => ?_)) (exS_ex f11)
          · rw [List.mem_singleton] at hz
            subst hz
            simp
          · simp at hz ⊢
            rcases hz with h | h | h
            · exact .inr (.inr (.inl h))
            · exact .inr (.inr (.inr h))
            · exact .inr (.inl h)
          · rw [List.mem_singleton] at hz
            subst hz
            simp
        have hlen : ts.length = cs.length := by
          have := hsc.len
          rw [List.take_length] at this
          exact this
        have hpn9 := f9 _ _ hpn8
        have hpe9 := f9 _ _ hpe8
        refine q (.ref p1) H11 (.ref x :: vs') (⟨b, cs⟩ :: rs) es (.node vs0.length) (exS_drop (exS_drop eall hx1) hpc1) ?_ ?_ ?_ ?_ ?_ (.tup hp1 (.cons (.str _) (.cons (.int _) .nil)))
        · refine f11 _ _ ?_
          rw [upd_ne xpn]
          exact hpn9
        · refine f11 _ _ ?_
          rw [upd_ne xpe]
          exact hpe9
        · refine RecsAt.app (vs := [.ref x]) (rs := [⟨b, cs⟩]) ⟨rfl, fun i v rr h1 h2 => ?_⟩ ⟨hrs.1, fun i v rr h1 h2 => ?_⟩
          · have h3 := (List.getElem?_eq_some_iff.mp h1).1
            have h4 : i = 0 := by
              rw [List.length_singleton] at h3
              omega
            subst h4
            have e5 : V.ref x = v := Option.some.inj h1
            have e6 : (⟨b, cs⟩ : Rec) = rr := Option.some.inj h2
            subst e5 e6
            refine ⟨x, dx, ax, adx, .ref wa, .int (p : Int), av, .ref l, rfl, ?_, ?_, ((hav7.kp (kp78.trans (kp_ex f9))).kt kpu).ex f11, ?_⟩
            · refine f11 _ _ ?_
              rw [upd_same] <;> rfl
            · refine f11 _ _ ?_
              rw [upd_ne axx, ← hlen]
              exact f9 _ _ (kp78.ins hax7)
            · refine .tup (f11 _ _ (kpu _ _ hl9)) ?_
              exact ((hcc.ex f9).kt kpu).ex f11
          · obtain ⟨y, ey, hy⟩ := hnew v (List.mem_of_getElem? h1)
            subst ey
            have yx : y ≠ x := fun z => by rw [z, hx7] at hy; cases hy
            exact (RecAt.upd ((hrs.2 i _ rr h1 h2).kp (kp_ex f9)) yx hx9).kp (kp_ex f11)
        · intro v hv
          rcases List.mem_cons.mp hv with rfl | hv
          · exact ⟨x, rfl, hx1⟩
          · obtain ⟨y, ey, hy⟩ := hnew v hv
            refine ⟨y, ey, gr_ex e1 y (gr_exS k17 (fun z hz => ?_) y hy)⟩
            rw [List.mem_singleton] at hz
            subst hz
            exact ⟨_, hpn7⟩
        · rw [List.take_length] at hsc
          exact scan_node hsc
end
end K69
namespace K69
open PySem PySem.Spec PyProof.Rows L2
open Evl (Ex given)
/-! ### a game as it stands -/
abbrev flG (k : Nat) (tv : V) (na ea : Addr) : List (Str × V) := [("outcomes", .int (k : Int)), ("tree", tv), ("nodes", .ref na), ("ends", .ref ea)]
def GameAt (K : PySem.W.Frag) (k : Nat) (H : Hp) (v : V) (t : Tr) : Prop := ∃ (x dx na ea : Addr) (tv : V) (vs : List V) (rs : List Rec) (es : List Nat) (c : Ch), v = .ref x ∧ H x = some (.ins (He.ga K "Game") dx (flG k tv na ea)) ∧
  TD H tv t.dat ∧ H na = some (.tup vs) ∧ H ea = some (.tup (vN es)) ∧ RecsAt K k H vs rs ∧ Flat rs es t c
theorem GameAt.kp {K : PySem.W.Frag} {k : Nat} {H H' : Hp} {v : V} {t : Tr} (h : GameAt K k H v t) (e : Kp H H') : GameAt K k H' v t := by
  obtain ⟨x, dx, na, ea, tv, vs, rs, es, c, e1, h1, h2, h3, h4, h5, h6⟩ := h
  exact ⟨x, dx, na, ea, tv, vs, rs, es, c, e1, e.ins h1, h2.kp e, e.tup h3, e.tup h4, h5.kp e, h6⟩
theorem recAt_updG {K : PySem.W.Frag} {k : Nat} {H : Hp} {x y C dx : Addr} {r : Rec} {fs : List (Str × V)} {o : HO} (h : RecAt K k H (.ref y) r) (ne : y ≠ x) (hx : H x = some (.ins C dx fs)) (hf : ∀ tv o k, fs ≠ flA tv o k) : RecAt K k (upd H x o) (.ref y) r := by
  obtain ⟨x2, dx2, ax, adx, wy2, pl2, tv, ch2, e1, h1, h2, h3, h4⟩ := h
  cases e1
  refine ⟨y, dx2, ax, adx, wy2, pl2, tv, ch2, rfl, by rw [upd_ne ne]; exact h1, ?_, h3.kt (kpt_upd hx), h4.kt (kpt_upd hx)⟩
  by_cases e : ax = x
  · rw [e, hx] at h2
    exact absurd (HO.ins.inj (Option.some.inj h2)).2.2 (hf _ _ _)
  · rw [upd_ne e]
    exact h2
theorem recsAt_updG {K : PySem.W.Frag} {k : Nat} {H : Hp} {x C dx : Addr} {vs : List V} {rs : List Rec} {fs : List (Str × V)} {o : HO} (h : RecsAt K k H vs rs) (ne : ∀ v ∈ vs, ∃ y, v = .ref y ∧ y ≠ x) (hx : H x = some (.ins C dx fs)) (hf : ∀ tv o k, fs ≠ flA tv o k) : RecsAt K k (upd H x o) vs rs :=
  ⟨h.1, fun i v r h1 h2 => by
    obtain ⟨y, ey, hy⟩ := ne v (List.mem_of_getElem? h1)
    subst ey
    exact recAt_updG (h.2 i _ r h1 h2) hy hx hf⟩
section
variable {P : Program} {w : World} {K : PySem.W.Frag} {mg : Str → Option Value} {base : Heap}
def spGameI (K : PySem.W.Frag) : Sp := fun vs H Q _ => ∃ (x dx : Addr) (k : Nat) (tv : V) (t : Tr), vs = [.ref x, .int (k : Int), tv] ∧ H x = some (.ins (He.ga K "Game") dx []) ∧ TD H tv t.dat ∧ t.Fit k ∧ 1 ≤ k ∧ k ≤ 4 ∧ t.cnt ≤ 6 ∧
  ∀ H', ExS [x] H H' → GameAt K k H' (.ref x) t → Q .non H'
theorem sc_Game___init__ : FnScope ["self", "outcomes", "tree", "nodes", "ends"] ["self", "outcomes", "tree"] (defScope (inClass (topS 58) 3)) := ⟨rfl, rfl, rfl, by decide +kernel, rfl, by decide +kernel, by decide +kernel⟩
theorem c_Game (T : Txt K mg w) : Mkr P w K mg base 18 "Game" ["self", "outcomes", "tree"] (spGameI K) := by
  refine mkMkr T.m_Game T.g_Game sc_Game___init__ (fun _ _ _ _ _ _ us hl => match us, hl with | [_, _, _], _ => rfl) (fun vs H Q E h => ?_) (fun f cdv A outer s H vs Q E hr h => ?_)
  · obtain ⟨x, dx, k, tv, t, rfl, _⟩ := h
    rfl
  · obtain ⟨x, dx, k, tv, t, rfl, hx, hT, hF, hk1, hk2, hc, q⟩ := h
    obtain ⟨u1, hu1⟩ := T.v_MOST_NODES
    obtain ⟨u2, hu2⟩ := T.v_MOST_LEAVES
    have hd := dep_le_cnt t
    have hlv := lvs_le t hF
    refine ⟨_, (pss_cons (ps_if (pt_not (pt_chain op_le op_le pe_int (pv 1) pe_int))
      (pss_one ps_never)
      pss_nil)
      (pss_cons (ps_set (i := 3) sc_Game___init__.nd rfl (Or.inl rfl) (pe_lstX pa_nil))
      (pss_cons (ps_set (i := 4) sc_Game___init__.nd rfl (Or.inl rfl) (pe_lstX pa_nil))
      (pss_cons (ps_expr (pe_cal (c_scan_tree T k 7) hr (by omega) (pa_cons (pv 2) (pa_cons (pv 1) (pa_cons (pe_tupX (pa_cons (pe_tupX pa_nil) (pa_cons (pe_tupX pa_nil) pa_nil))) (pa_cons (pv 3) (pa_cons (pv 4) pa_nil)))))))
      (pss_cons (ps_if (PW.pt (pw_or (pt_cmpR op_gt (pe_callB (cr_lenK K) (by rfl) T.z_len (by decide +kernel) (pa_cons (pv 3) pa_nil)) (ClX.pe_cval (pe_gref T.g_Game)) (nomark _)) (pw_or1 (pt_cmpR op_gt (pe_callB (cr_lenK K) (by rfl) T.z_len (by decide +kernel) (pa_cons (pv 4) pa_nil)) (ClX.pe_cval (pe_gref T.g_Game)) (nomark _)))))
      (pss_one ps_never)
      pss_nil)
      (pss_cons (ps_fld (pv 0) (pv 1) rfl)
      (pss_cons (ps_fld (pv 0) (pv 2) rfl)
      (pss_cons (ps_fld (pv 0) (pe_callTy call_tupX (by rfl) T.z_tuple (by decide +kernel) (pa_cons (pv 3) pa_nil)) rfl)
      (pss_one (ps_fld (pv 0) (pe_callTy call_tupX (by rfl) T.z_tuple (by decide +kernel) (pa_cons (pv 4) pa_nil)) rfl)))))))))), ?_⟩
    refine ⟨_, rfl, _, _, rfl, rfl, true, ?_, iteT ?_⟩
    · show V.bl (decide ((1 : Int) ≤ (k : Int))) = V.bl true
      rw [decide_eq_true (by omega)]
    refine ⟨_, _, rfl, rfl, true, ?_, iteF ?_⟩
    · show V.bl (decide ((k : Int) ≤ 4)) = V.bl true
      rw [decide_eq_true (by omega)]
    refine ⟨by show 0 ≤ 100000; decide, fun pn H1 npn e1 hpn => ?_⟩
    refine ⟨by show 0 ≤ 100000; decide, fun pe H2 npe e2 hpe => ?_⟩
    have ne : pn ≠ pe := fun z => by rw [z, npe] at hpn; cases hpn
    refine ⟨tv, rfl, _, rfl, by show 0 ≤ 100000; decide, fun pa H3 n3 e3 hpa => ⟨by show 0 ≤ 100000; decide, fun wa H4 n4 e4 hwa => ⟨by show 2 ≤ 100000; decide, fun pls H5 n5 e5 hpls => ?_⟩⟩⟩
    have f25 : Ex H2 H5 := (e3.trans e4).trans e5
    have f5 : Ex H H5 := (e1.trans e2).trans f25
    refine ⟨.ref pn, rfl, .ref pe, rfl, tv, t, pls, pa, wa, pn, pe, [], [], [], [], rfl, hT.ex f5, hF, by omega, hk1, hk2, hpls, e5 _ _ (e4 _ _ hpa), e5 _ _ hwa, rfl, (by show 0 + t.dep ≤ 12; omega), f25 _ _ (e2 _ _ hpn), f25 _ _ hpe, ne, (by show 0 + t.cnt ≤ 10000; omega), (by show 0 + t.lvs ≤ 10000; omega), fun v' H6 vs' rs' es' c e6 g1 g2 g3 g4 g5 g6 => ?_⟩
    have hvl : vs'.length ≤ 6 := by
      have : (rs'.map Rec.aim).length = t.cnt := by rw [g5.aims, aims_len]
      rw [List.length_map] at this
      have := g3.1
      omega
    have hel : es'.length ≤ 13 := by
      have : es'.length = t.lvs := g5.lvs
      omega
    refine ⟨.ref pn, rfl, pn, _, rfl, .inl (SqL.of g1), _, _, .int 30, u1, rfl, T.r_Game, hu1, _, _, rfl, rfl, false, ?_, iteF ?_⟩
    · show V.bl (decide ((30 : Int) < ((vs'.length : Nat) : Int))) = V.bl false
      rw [decide_eq_false (by omega)]
    refine ⟨.ref pe, rfl, pe, _, rfl, .inl (SqL.of g2), _, _, .int 60, u2, rfl, T.r_Game, hu2, _, _, rfl, rfl, false, ?_, iteF ?_⟩
    · show V.bl (decide ((60 : Int) < (((vN es').length : Nat) : Int))) = V.bl false
      rw [vN_len, decide_eq_false (by omega)]
    have hxn : x ∉ [pn, pe] := fun z => by
      rcases List.mem_cons.mp z with z | z
      · rw [z] at hx
        rw [hx] at npn
        cases npn
      · rw [List.mem_singleton] at z
        rw [z] at hx
        rw [e1 _ _ hx] at npe
        cases npe
    have kp56 : Kp H5 H6 := kp_exS e6 fun z hz => by
      rcases List.mem_cons.mp hz with rfl | hz
      · exact ⟨_, f25 _ _ (e2 _ _ hpn)⟩
      rw [List.mem_singleton] at hz
      subst hz
      exact ⟨_, f25 _ _ hpe⟩
    have hx6 := e6 _ _ (f5 _ _ hx) hxn
    refine ⟨_, rfl, .ref x, rfl, x, _, dx, [], rfl, hx6, T.c_Game, T.n_Game_outcomes, by show 0 < 1000; decide, ?_⟩
    refine ⟨tv, rfl, .ref x, rfl, x, _, dx, _, rfl, upd_same, T.c_Game, T.n_Game_tree, by show 1 < 1000; decide, ?_⟩
    rw [upd_upd]
    have pnx : pn ≠ x := fun z => hxn (by rw [← z]; exact List.mem_cons_self)
    have pex : pe ≠ x := fun z => hxn (by rw [← z]; exact List.mem_cons_of_mem _ List.mem_cons_self)
    refine ⟨.ref pn, rfl, pn, _, rfl, .inl (by rw [upd_ne pnx]; exact g1), fun na H7 e7 hna => ?_⟩
    refine ⟨.ref x, rfl, x, _, dx, _, rfl, e7 _ _ upd_same, T.c_Game, T.n_Game_nodes, by show 2 < 1000; decide, ?_⟩
    refine ⟨.ref pe, rfl, pe, _, rfl, .inl (by rw [upd_ne pex]; exact e7 _ _ (by rw [upd_ne pex]; exact g2)), fun ea H8 e8 hea => ?_⟩
    refine ⟨.ref x, rfl, x, _, dx, _, rfl, e8 _ _ upd_same, T.c_Game, T.n_Game_ends, by show 3 < 1000; decide, ?_⟩
    have nex : ∀ v ∈ vs', ∃ y, v = .ref y ∧ y ≠ x := fun v hv => by
      obtain ⟨y, ey, hy⟩ := g4 v hv
      exact ⟨y, ey, fun z => by rw [z, f5 _ _ hx] at hy; cases hy⟩
    have fa2 : ∀ tv' o k', putF "tree" tv (putF "outcomes" (V.int (k : Int)) []) ≠ flA tv' o k' := fun tv' o k' z => absurd (Prod.mk.inj (List.cons.inj z).1).1 (by decide +kernel)
    have fa3 : ∀ tv' o k', putF "nodes" (.ref na) (putF "tree" tv (putF "outcomes" (V.int (k : Int)) [])) ≠ flA tv' o k' := fun tv' o k' z => absurd (Prod.mk.inj (List.cons.inj z).1).1 (by decide +kernel)
    have x7 : H7 x = some (.ins (He.ga K "Game") dx (putF "tree" tv (putF "outcomes" (V.int (k : Int)) []))) := e7 _ _ upd_same
    have x8 : H8 x = some (.ins (He.ga K "Game") dx (putF "nodes" (.ref na) (putF "tree" tv (putF "outcomes" (V.int (k : Int)) [])))) := e8 _ _ upd_same
    have nax : na ≠ x := fun z => by rw [z, x7] at hna; cases hna
    have eax : ea ≠ x := fun z => by rw [z, x8] at hea; cases hea
    have hpn0 : H pn = none := npn
    have hpe0 : H pe = none := gr_ex e1 _ npe
    have hxx : ∀ z, z ∈ [x] → z ∈ pn :: pe :: [x] := fun z hz => List.mem_cons_of_mem _ (List.mem_cons_of_mem _ hz)
    refine q _ (exS_drop (exS_drop (S := pe :: [x]) (x := pn) ?_ hpn0) hpe0) ?_
    · refine ExS.trans (ExS.trans (ExS.trans (ExS.trans (ExS.trans (ExS.trans (exS_ex f5) (exS_mono e6 fun z hz => ?_)) (exS_mono exS_upd hxx)) (exS_ex e7)) (exS_mono exS_upd hxx)) (exS_ex e8)) (exS_mono exS_upd hxx)
      rcases List.mem_cons.mp hz with h | h
      · rw [h]; exact List.mem_cons_self
      · rw [List.mem_singleton] at h
        rw [h]; exact List.mem_cons_of_mem _ List.mem_cons_self
    · have hT6 : TD H6 tv t.dat := (hT.ex f5).kp kp56
      refine ⟨x, dx, na, ea, tv, vs', rs', es', c, rfl, ?_, ((((hT6.kt (kpt_upd hx6)).ex e7).kt (kpt_upd x7)).ex e8).kt (kpt_upd x8), ?_, ?_, ?_, flat_of g5⟩
      · rw [upd_same] <;> rfl
      · rw [upd_ne nax]
        refine e8 _ _ ?_
        rw [upd_ne nax]
        exact hna
      · rw [upd_ne eax]
        exact hea
      · exact recsAt_updG ((recsAt_updG ((recsAt_updG g3 nex hx6 (fun tv' o k' z => by cases z)).kp (kp_ex e7)) nex x7 fa2).kp (kp_ex e8)) nex x8 fa3
end
end K69
namespace K69
open PySem PySem.Spec PyProof.Rows L2
open Evl (Ex given)
theorem tds_of {H : Hp} : ∀ {ys : List V} {ds : List PyData}, ys.length = ds.length → (∀ (i : Nat) (y : V) (d : PyData), ys[i]? = some y → ds[i]? = some d → TD H y d) → TDs H ys ds
  | [], [], _, _ => .nil
  | [], d :: ds, h, _ => by simp at h
  | y :: ys, [], h, _ => by simp at h
  | y :: ys, d :: ds, h, k => .cons (k 0 y d rfl rfl) (tds_of (by simpa using h) fun i z e hz he => k (i + 1) z e (by simpa using hz) (by simpa using he))
section
variable {P : Program} {w : World} {K : PySem.W.Frag} {mg : Str → Option Value} {base : Heap}
/-! ### child_lots -/
/-- what a child can reach: its end, its lot -/
def ChLot (H : Hp) (lvs : List V) (es : List Nat) : Ch → List Nat → Prop
  | .leaf j, u => ∃ r, es[j]? = some r ∧ u = [r]
  | .node i, u => ∃ v, lvs[i]? = some v ∧ TD H v (dN u)
theorem ChLot.kp {H H' : Hp} {lvs : List V} {es u : List Nat} {c : Ch} (h : ChLot H lvs es c u) (k : Kp H H') : ChLot H' lvs es c u := by
  cases c with
  | leaf j => exact h
  | node i =>
    obtain ⟨v, h1, h2⟩ := h
    exact ⟨v, h1, h2.kp k⟩
def Lots (H : Hp) (lvs : List V) (es : List Nat) (cs : List Ch) (W : List (List Nat)) : Prop := W.length = cs.length ∧ ∀ (x : Nat) (c : Ch) (u : List Nat), cs[x]? = some c → W[x]? = some u → ChLot H lvs es c u
theorem Lots.kp {H H' : Hp} {lvs : List V} {es : List Nat} {cs : List Ch} {W : List (List Nat)} (h : Lots H lvs es cs W) (k : Kp H H') : Lots H' lvs es cs W := ⟨h.1, fun x c u h1 h2 => (h.2 x c u h1 h2).kp k⟩
def spCL (K : PySem.W.Frag) : Sp := fun vs H Q _ => ∃ (nv : V) (la ea : Addr) (k : Nat) (r : Rec) (lvs : List V) (es : List Nat) (W : List (List Nat)), vs = [nv, .ref la, .ref ea] ∧ RecAt K k H nv r ∧ H la = some (.lst lvs) ∧ H ea = some (.tup (vN es)) ∧ Lots H lvs es r.cs W ∧ W.length ≤ 10 ∧
  ∀ a ws H', Ex H H' → H' a = some (.lst ws) → TDs H' ws (W.map dN) → Q (.ref a) H'
theorem sc_child_lots : FnScope ["node", "lots", "ends", "result", "kind", "number"] ["node", "lots", "ends"] (defScope (topS 73)) := ⟨rfl, rfl, rfl, by decide +kernel, rfl, by decide +kernel, by decide +kernel⟩
theorem c_child_lots (T : Txt K mg w) : Cal P w K mg base CX0 1 "child_lots" ["node", "lots", "ends"] (spCL K) := by
  refine mkCal (T.d_child_lots) sc_child_lots (fun _ _ _ _ _ _ us hl => match us, hl with | [_, _, _], _ => rfl) (fun vs H Q E h => ?_) (fun f cdv A outer s H vs Q E hr h => ?_)
  · obtain ⟨nv, la, ea, k, r, lvs, es, W, rfl, _⟩ := h
    rfl
  · obtain ⟨nv, la, ea, k, r, lvs, es, W, rfl, ⟨x, dx, ax, adx, wy, pl, tv, ch, rfl, hx, hax, htv, hch⟩, hla, hea, ⟨hWl, hW⟩, hW10, q⟩ := h
    obtain ⟨ca, cvs, rfl, hca, hcvs⟩ := hch.tup_inv
    refine ⟨_, (pss_cons (ps_set (i := 3) sc_child_lots.nd rfl (Or.inl rfl) (pe_lstX pa_nil))
      (pss_cons (ps_for PassesOwn.never rfl (pi_tupK K (pe_fldK K (pv 0) rfl)) (pg_tup rfl (pgs_cons (pg_name (i := 4) sc_child_lots.nd rfl (Or.inl rfl)) (pgs_cons (pg_name (i := 5) sc_child_lots.nd rfl (Or.inl rfl)) pgs_nil)))
      (pss_one (ps_if (pt_cmpR op_eq (pv 4) pe_str (nomark _))
        (pss_one (ps_expr (pe_appX (pe_bm PySem.F.plainAttrs_list PySem.F.slot_list_append PySem.F.type_list_append mt_append (PE.up (pv 3)) (pa_cons (PE.up (pe_tupX (pa_cons (pe_ix (ix_tupK K) (pv 2) (pv 5) (fun _ _ => rfl)) pa_nil))) pa_nil)))))
        (pss_one (ps_expr (pe_appX (pe_bm PySem.F.plainAttrs_list PySem.F.slot_list_append PySem.F.type_list_append mt_append (PE.up (pv 3)) (pa_cons (PE.up (pe_ix (ix_lstK K) (pv 1) (pv 5) (fun _ _ => rfl))) pa_nil))))))))
      (pss_one (ps_ret (pv 3))))), ?_⟩
    refine ⟨by show 0 ≤ 100000; decide, fun ra H1 nra e1 hra => ?_⟩
    have hcl : cvs.length = W.length := by rw [hcvs.len, List.length_map, hWl]
    refine ⟨.ref x, rfl, x, _, dx, _, .ref ca, rfl, e1 _ _ hx, T.c_Node, T.n_Node_children, rfl, ca, rfl, ⟨_, SqT.of (e1 _ _ hca)⟩, ?_⟩
    refine for_it (walk_tup (xs := cvs)) (fun i σ H2 => ∃ (u1 u2 : Option V) (ws : List V), σ = [some (.ref x), some (.ref la), some (.ref ea), some (.ref ra), u1, u2] ∧ ExS [ra] H1 H2 ∧ H2 ra = some (.lst ws) ∧ TDs H2 ws ((W.take i).map dN) ∧ ws.length = i) ⟨none, none, [], rfl, ExS.refl _ _, hra, .nil, rfl⟩ ?_ ?_ ?_
    · rintro i σ H2 hi ⟨u1, u2, ws, rfl, e2, h2, h3, h4⟩
      refine SqT.of (e2 _ _ (e1 _ _ hca) ?_)
      intro z
      rw [List.mem_singleton] at z
      rw [z, nra] at hca
      cases hca
    · rintro i cv σ H2 H2' hi ⟨u1, u2, ws, rfl, e2, h2, h3, h4⟩ ⟨eH, hcv⟩
      subst eH
      have en : Ex H H2' := fun a o ha => (e2 a o (e1 a o ha) fun z => by
        rw [List.mem_singleton] at z
        rw [z, nra] at ha
        cases ha)
      obtain ⟨d, hd, hT⟩ := hcvs.at' hcv
      rw [List.getElem?_map] at hd
      cases hc : r.cs[i]? with
      | none => rw [hc] at hd; cases hd
      | some c =>
        rw [hc] at hd
        have ed : c.dat = d := Option.some.inj hd
        subst ed
        have hWi : W[i]? = some W[i] := List.getElem?_eq_getElem (by omega)
        have hL := hW i c _ hc hWi
        have htk : (W.take (i + 1)).map dN = (W.take i).map dN ++ [dN W[i]] := by
          rw [take_succ_of hWi, List.map_append] <;> rfl
        have T2 := hT.ex en
        cases c with
        | leaf j =>
          obtain ⟨rr, hj, ew⟩ := hL
          obtain ⟨b, xs, rfl, hb, hxs⟩ := TD.tup_inv T2
          obtain ⟨x0, xs2, rfl, h0, hxs2⟩ := hxs.cons_inv
          cases h0.str_inv
          obtain ⟨x1, xs3, rfl, h1, hxs3⟩ := hxs2.cons_inv
          cases h1.int_inv
          cases hxs3.nil_inv
          refine ⟨b, _, rfl, SqT.of hb, rfl, _, _, rfl, _, _, rfl, rfl, ?_⟩
          refine ⟨_, rfl, rfl, true, by decide +kernel, iteT ?_⟩
          refine ⟨.ref ra, rfl, ra, rfl, ⟨_, h2⟩, .ref ea, rfl, _, rfl, ea, _, _, _, rfl, rfl, SqT.of (en _ _ hea), atN (vN_at hj), by show 1 ≤ 100000; decide, fun p H3 np e3 hp => ⟨ws, e3 _ _ h2, by omega, fun H4 e4 h5 => ?_⟩⟩
          have kk : Kp H3 H4 := kp_exS e4 fun z hz => by
            rw [List.mem_singleton] at hz
            subst hz
            exact ⟨_, e3 _ _ h2⟩
          refine ⟨_, _, ws ++ [.ref p], rfl, (e2.trans (exS_ex e3)).trans e4, h5, ?_, by rw [List.length_append, h4] <;> rfl⟩
          rw [htk, ew]
          refine ((h3.ex e3).kp kk).app (.cons ?_ .nil)
          exact (td_nat (l := [rr]) hp).kp kk
        | node j =>
          obtain ⟨v, hj, hv⟩ := hL
          obtain ⟨b, xs, rfl, hb, hxs⟩ := TD.tup_inv T2
          obtain ⟨x0, xs2, rfl, h0, hxs2⟩ := hxs.cons_inv
          cases h0.str_inv
          obtain ⟨x1, xs3, rfl, h1, hxs3⟩ := hxs2.cons_inv
          cases h1.int_inv
          cases hxs3.nil_inv
          refine ⟨b, _, rfl, SqT.of hb, rfl, _, _, rfl, _, _, rfl, rfl, ?_⟩
          refine ⟨_, rfl, rfl, false, by decide +kernel, iteF ?_⟩
          refine ⟨.ref ra, rfl, ra, rfl, ⟨_, h2⟩, .ref la, rfl, _, rfl, la, _, _, _, rfl, rfl, SqL.of (en _ _ hla), atN hj, ws, h2, by omega, fun H4 e4 h5 => ?_⟩
          have kk : Kp H2' H4 := kp_exS e4 fun z hz => by
            rw [List.mem_singleton] at hz
            subst hz
            exact ⟨_, h2⟩
          refine ⟨_, _, ws ++ [v], rfl, e2.trans e4, h5, ?_, by rw [List.length_append, h4] <;> rfl⟩
          rw [htk]
          refine (h3.kp kk).app (.cons ((hv.ex en).kp kk) .nil)
    · rintro σ H2 ⟨u1, u2, ws, rfl, e2, h2, h3, h4⟩
      have en : Ex H H2 := fun a o ha => (e2 a o (e1 a o ha) fun z => by
        rw [List.mem_singleton] at z
        rw [z, nra] at ha
        cases ha)
      refine ⟨.ref ra, rfl, q ra ws H2 en h2 ?_⟩
      rw [hcl, List.take_length] at h3
      exact h3
end
end K69
namespace K69
open PySem PySem.Spec PyProof.Rows L2
open Evl (Ex given)
/-! ### [e for x in xs for z in zs] -/
theorem lc2_cat {K : PySem.W.Frag} {a b : Addr} {xs zs : List V} {te : TE} {vs vs1 : List Nat} {σ : L2.St} {H1 : Hp} {D : Addr} {Qd : Hp → Prop} {j0 j1 l : Nat} (Pv : Nat → Nat → Hp → Prop)
    (hw : ∀ x, wipe ((wipe σ vs).set j0 (some x)) vs = wipe σ vs) (hl : ∀ x, ((wipe σ vs).set j0 (some x))[l]? = some (some (.ref b)))
    (hw1 : ∀ x z, wipe ((wipe ((wipe σ vs).set j0 (some x)) vs1).set j1 (some z)) vs1 = wipe ((wipe σ vs).set j0 (some x)) vs1)
    (h0 : Pv 0 0 (upd H1 D (.lst []))) (hG : ∀ i j H, Pv i j H → SqL K H a xs ∧ SqT K H b zs) (hr : ∀ i H, i < xs.length → Pv i zs.length H → Pv (i + 1) 0 H)
    (hs : ∀ i j x z H, Pv i j H → xs[i]? = some x → zs[j]? = some z → te ((wipe ((wipe σ vs).set j0 (some x)) vs1).set j1 (some z)) H fun y H7 => ∃ acc, H7 D = some (.lst acc) ∧ acc.length < sizeLine ∧ Pv i (j + 1) (upd H7 D (.lst (acc ++ [y]))))
    (hd : ∀ H, Pv xs.length 0 H → Qd H) :
    ∃ W : Nat → Nat → Hp → Prop, (∃ m, W 0 m (upd H1 D (.lst []))) ∧ ∀ i m H, W i m H →
      ((Itl K a).stop i H ∧ Qd H) ∨ ((Itl K a).go i H ∧ ∃ Nx : Hp → Prop, (∀ H', Nx H' → ∃ m', m' < m ∧ W (i + 1) m' H') ∧ ∀ x H', (Itl K a).yld i H x H' → gName j0 x (wipe σ vs) H' fun σ2 H2 => wipe σ2 vs = wipe σ vs ∧ tYes σ2 H2 fun b H3 =>
        if b = true then iTup K (tVar l) σ2 H3 fun J1 H4 => ∃ W1 : Nat → Nat → Hp → Prop, (∃ m, W1 0 m H4) ∧ ∀ j k H, W1 j k H →
          (J1.stop j H ∧ Nx H) ∨ (J1.go j H ∧ ∃ Nx1 : Hp → Prop, (∀ H', Nx1 H' → ∃ k', k' < k ∧ W1 (j + 1) k' H') ∧ ∀ x H', J1.yld j H x H' → gName j1 x (wipe σ2 vs1) H' fun σ3 H5 => wipe σ3 vs1 = wipe σ2 vs1 ∧ tYes σ3 H5 fun b H6 =>
            if b = true then te σ3 H6 fun y H7 => ∃ acc, H7 D = some (.lst acc) ∧ acc.length < sizeLine ∧ Nx1 (upd H7 D (.lst (acc ++ [y]))) else Nx1 H6)
        else Nx H3) := by
  unfold tYes gName
  refine ⟨fun i m H => m = xs.length - i ∧ i ≤ xs.length ∧ Pv i 0 H, ⟨xs.length, by simp, Nat.zero_le _, h0⟩, ?_⟩
  rintro i m H ⟨rfl, hi, p⟩
  have w0 := walk_list (K := K) (a := a) (xs := xs)
  have w1 := walk_tup (K := K) (a := b) (xs := zs)
  obtain ⟨g1, g2⟩ := hG _ _ _ p
  by_cases hlt : i < xs.length
  · refine .inr ⟨w0.goes i H hlt g1, Pv (i + 1) 0, fun H' p' => ⟨xs.length - (i + 1), by omega, rfl, hlt, p'⟩, fun x H' y => ?_⟩
    obtain ⟨eH, hx⟩ := w0.yields i H x H' hlt g1 y
    subst eH
    refine ⟨hw x, ?_⟩
    dsimp only
    rw [if_pos rfl]
    refine ⟨_, hl x, b, rfl, ⟨_, g2⟩, fun j m H => m = zs.length - j ∧ j ≤ zs.length ∧ Pv i j H, ⟨zs.length, by simp, Nat.zero_le _, p⟩, ?_⟩
    rintro j m H ⟨rfl, hj, p⟩
    obtain ⟨g1, g2⟩ := hG _ _ _ p
    by_cases hlt2 : j < zs.length
    · refine .inr ⟨w1.goes j H hlt2 g2, Pv i (j + 1), fun H' p' => ⟨zs.length - (j + 1), by omega, rfl, hlt2, p'⟩, fun z H' y => ?_⟩
      obtain ⟨eH, hz⟩ := w1.yields j H z H' hlt2 g2 y
      subst eH
      refine ⟨hw1 x z, ?_⟩
      rw [if_pos rfl]
      exact hs i j x z H' p hx hz
    · have ej : j = zs.length := by omega
      subst ej
      exact .inl ⟨w1.stops H g2, hr i H hlt p⟩
  · have ei : i = xs.length := by omega
    subst ei
    exact .inl ⟨w0.stops H g1, hd H p⟩
theorem stepL_snoc (C : List (List Nat)) (c u : List Nat) : stepL (C ++ [c]) u = stepL C u ++ u.map fun o => c ++ [o] := by
  unfold stepL
  rw [List.flatMap_append, List.flatMap_cons, List.flatMap_nil, List.append_nil]
theorem prodL_snoc (W : List (List Nat)) (u : List Nat) : prodL (W ++ [u]) = stepL (prodL W) u := by
  unfold prodL
  rw [List.foldl_append] <;> rfl
section
variable {P : Program} {w : World} {K : PySem.W.Frag} {mg : Str → Option Value} {base : Heap}
/-! ### good_contexts -/
def spGC (K : PySem.W.Frag) : Sp := fun vs H Q _ => ∃ (nv : V) (la ea : Addr) (k : Nat) (r : Rec) (rs : List Nat) (lvs : List V) (es : List Nat) (W : List (List Nat)), vs = [nv, .ref la, .ref ea] ∧ RecAt K k H nv r ∧ r.aim = .tuple [.str "best", dN rs] ∧ H la = some (.lst lvs) ∧ H ea = some (.tup (vN es)) ∧ Lots H lvs es r.cs W ∧
  1 ≤ W.length ∧ W.length ≤ 3 ∧ (∀ u ∈ W, u.length ≤ 4) ∧ (∀ u ∈ W, ∀ o ∈ u, o < rs.length) ∧
  ∀ a gs H', H a = none → Ex H H' → H' a = some (.lst gs) → TDs H' gs ((prodL W).map fun ctx => .tuple [dN ctx, dN (goodX rs ctx)]) → Q (.ref a) H'
theorem sc_good_contexts : FnScope ["node", "lots", "ends", "contexts", "lot", "context", "outcome"] ["node", "lots", "ends"] (defScope (topS 74)) := ⟨rfl, rfl, rfl, by decide +kernel, rfl, by decide +kernel, by decide +kernel⟩
theorem c_good_contexts (T : Txt K mg w) : Cal P w K mg base CX0 4 "good_contexts" ["node", "lots", "ends"] (spGC K) := by
  refine mkCal (T.d_good_contexts) sc_good_contexts (fun _ _ _ _ _ _ us hl => match us, hl with | [_, _, _], _ => rfl) (fun vs H Q E h => ?_) (fun f cdv A outer s H vs Q E hr h => ?_)
  · obtain ⟨nv, la, ea, k, r, rs, lvs, es, W, rfl, _⟩ := h
    rfl
  · obtain ⟨nv, la, ea, k, r, rs, lvs, es, W, rfl, hR, haim, hla, hea, hW, hW1, hW3, hW4, hWb, q⟩ := h
    refine ⟨_, (pss_cons (ps_set (i := 3) sc_good_contexts.nd rfl (Or.inl rfl) (pe_lstX (pa_cons (pe_tupX pa_nil) pa_nil)))
      (pss_cons (ps_for PassesOwn.never rfl (pi_lstK K (pe_cal (c_child_lots T) hr (by omega) (pa_cons (pv 0) (pa_cons (pv 1) (pa_cons (pv 2) pa_nil))))) (pg_name (i := 4) sc_good_contexts.nd rfl (Or.inr rfl))
      (pss_one (ps_setLc2 (i := 3) (own := [("context", 5), ("outcome", 6)]) (vs1 := [6]) rfl sc_good_contexts.nd rfl rfl (sw_true rfl rfl rfl (by decide +kernel)) (pi_lstK K (pv 3)) (blkOk_by (by kernel_rfl)) (by decide) (fun _ _ _ _ _ => (pg_name (i := 5) sc_good_contexts.nd rfl (Or.inl rfl))) (fun _ _ _ _ _ => pts_nil) (fun _ _ _ _ _ => (pi_tupK K (pv 4))) (fun _ _ _ _ _ => (pg_name (i := 6) sc_good_contexts.nd rfl (Or.inl rfl))) (fun _ _ _ _ _ => pts_nil) (fun _ _ _ _ _ => (pe_op op_catX (pv 5) (pe_tupX (pa_cons (pv 6) pa_nil)))))))
      (pss_one (ps_ret (pe_lc (own := [("context", 5)]) rfl sc_good_contexts.nd (pi_lstK K (pv 3)) (blkOk_by (by kernel_rfl)) (fun _ _ _ _ _ => (pg_name (i := 5) sc_good_contexts.nd rfl (Or.inl rfl))) (fun _ _ _ _ _ => pts_nil) (fun _ _ _ _ _ => (pe_tupX (pa_cons (pv 5) (pa_cons (pe_cal (c_good_options T) hr (by omega) (pa_cons (pe_fldK K (pe_fldK K (pv 0) rfl) rfl) (pa_cons (pv 5) (pa_cons (pe_fldK K (pe_fldK K (pv 0) rfl) rfl) pa_nil)))) pa_nil))))))))), ?_⟩
    refine ⟨by show 0 ≤ 100000; decide, fun p0 H1 np e1 hp0 => ⟨by show 1 ≤ 100000; decide, fun c0 H2 nc e2 hc0 => ?_⟩⟩
    have f2 := e1.trans e2
    refine ⟨nv, rfl, _, rfl, _, rfl, nv, la, ea, k, r, lvs, es, W, rfl, hR.kp (kp_ex f2), f2 _ _ hla, f2 _ _ hea, hW.kp (kp_ex f2), by omega, fun ra ws H3 e3 hra hws => ?_⟩
    have f3 := f2.trans e3
    have hwl : ws.length = W.length := by rw [hws.len, List.length_map]
    have plen : ∀ i, (prodL (W.take i)).length ≤ 64 := fun i => by
      have h1 := foldl_len (k := 4) (W := W.take i) (C := [[]]) fun u hu => hW4 u (List.mem_of_mem_take hu)
      have h2 : (W.take i).length ≤ 3 := by rw [List.length_take]; omega
      have h3 : 4 ^ (W.take i).length ≤ 4 ^ 3 := Nat.pow_le_pow_right (by decide) h2
      have h4 : (4 : Nat) ^ 3 = 64 := by decide
      rw [List.length_singleton] at h1
      show ((W.take i).foldl stepL [[]]).length ≤ 64
      omega
    refine ⟨ra, rfl, ⟨_, SqL.of hra⟩, for_it (walk_list (xs := ws)) (fun i σ H4 => ∃ (u4 u5 u6 : Option V) (cc : Addr) (cs : List V), σ = [some nv, some (.ref la), some (.ref ea), some (.ref cc), u4, u5, u6] ∧ Ex H3 H4 ∧ H4 cc = some (.lst cs) ∧ TDs H4 cs ((prodL (W.take i)).map dN)) ⟨none, none, none, c0, _, rfl, Ex.refl _, e3 _ _ hc0, ?_⟩ ?_ ?_ ?_⟩
    · exact .cons ((td_nat (l := []) hp0).ex (e2.trans e3)) .nil
    · rintro i σ H4 hi ⟨u4, u5, u6, cc, cs, rfl, e4, h4, h5⟩
      exact SqL.of (e4 _ _ hra)
    · rintro i lv σ H4 H4' hi ⟨u4, u5, u6, cc, cs, rfl, e4, h4, h5⟩ ⟨eH, hlv⟩
      subst eH
      obtain ⟨d, hd, hT⟩ := hws.at' hlv
      have hWi : W[i]? = some W[i] := List.getElem?_eq_getElem (by omega)
      have hum : W[i] ∈ W := List.getElem_mem _
      rw [List.getElem?_map, hWi] at hd
      have ed : dN W[i] = d := Option.some.inj hd
      subst ed
      obtain ⟨b, rfl, hb⟩ := td_nat_inv (hT.ex e4)
      have htk := take_succ_of hWi
      have hcl : cs.length = (prodL (W.take i)).length := by rw [h5.len, List.length_map]
      have hc64 := plen i
      refine ⟨_, rfl, cc, rfl, ⟨_, SqL.of h4⟩, fun D nD => lc2_cat (xs := cs) (zs := vN W[i]) (b := b) (fun j m H5 => Ex H4' H5 ∧ ∃ acc, H5 D = some (.lst acc) ∧ acc.length ≤ 100 * j + m ∧ j ≤ 64 ∧ TDs H5 acc ((stepL ((prodL (W.take i)).take j) W[i] ++ (W[i].take m).map fun o => (prodL (W.take i)).getD j [] ++ [o]).map dN)) (fun _ => rfl) (fun _ => rfl) (fun _ _ => rfl) ?_ ?_ ?_ ?_ ?_⟩
      · exact ⟨ex_upd nD, [], upd_same, Nat.zero_le _, Nat.zero_le _, .nil⟩
      · rintro j m H5 ⟨e5, _⟩
        exact ⟨SqL.of (e5 _ _ h4), SqT.of (e5 _ _ hb)⟩
      · rintro j H5 hj ⟨e5, acc, a1, a2, a3, a4⟩
        have hw4 := hW4 _ hum
        rw [vN_len] at a2 a4
        refine ⟨e5, acc, a1, by omega, by omega, ?_⟩
        have hcj : (prodL (W.take i))[j]? = some (prodL (W.take i))[j] := List.getElem?_eq_getElem (by omega)
        rw [List.take_length, List.getD_eq_getElem?_getD, hcj, Option.getD_some] at a4
        rw [take_succ_of hcj, stepL_snoc]
        show TDs H5 acc ((_ ++ []).map dN)
        rw [List.append_nil]
        exact a4
      · rintro j m cv ov H5 ⟨e5, acc, a1, a2, a3, a4⟩ hcv hov
        obtain ⟨d, hd2, hT2⟩ := h5.at' hcv
        rw [List.getElem?_map] at hd2
        cases hc : (prodL (W.take i))[j]? with
        | none => rw [hc] at hd2; cases hd2
        | some c =>
          rw [hc] at hd2
          have ed : dN c = d := Option.some.inj hd2
          subst ed
          obtain ⟨ca, rfl, hca⟩ := td_nat_inv (hT2.ex e5)
          obtain ⟨o, ho, rfl⟩ := vN_at_inv hov
          have hclen : c.length ≤ 3 := by
            have := (fitsW_iff.mp (mem_prodL.mp (List.mem_of_getElem? hc))).1
            rw [List.length_take] at this
            omega
          have hml : m < 4 := by
            have := (List.getElem?_eq_some_iff.mp ho).1
            have := hW4 _ hum
            omega
          refine ⟨_, rfl, _, rfl, by show 1 ≤ 100000; decide, fun p6 H6 n6 e6 hp6 => ⟨ca, p6, _, _, rfl, rfl, e6 _ _ hca, hp6, by rw [vN_len]; show c.length + 1 ≤ 100000; omega, fun p7 H7 e7 hp7 => ?_⟩⟩
          have hD7 := e7 _ _ (e6 _ _ a1)
          refine ⟨acc, hD7, Evl.sz_lt (by omega), Evl.Ex.mut ((e5.trans e6).trans e7) nD, _, upd_same, by rw [List.length_append]; show acc.length + 1 ≤ _; omega, a3, ?_⟩
          have kk : Kp H7 (upd H7 D (.lst (acc ++ [.ref p7]))) := kp_exS exS_upd fun z hz => by
            rw [List.mem_singleton] at hz
            subst hz
            exact ⟨_, hD7⟩
          have et : (W[i].take (m + 1)).map (fun o => (prodL (W.take i)).getD j [] ++ [o]) = (W[i].take m).map (fun o => (prodL (W.take i)).getD j [] ++ [o]) ++ [c ++ [o]] := by
            rw [take_succ_of ho, List.map_append, List.getD_eq_getElem?_getD, hc] <;> rfl
          rw [et, ← List.append_assoc, List.map_append]
          refine ((a4.ex (e6.trans e7)).kp kk).app (.cons ?_ .nil)
          refine (td_nat (l := c ++ [o]) ?_).kp kk
          rw [hp7, vN, vN, List.map_append] <;> rfl
      · rintro H5 ⟨e5, acc, a1, a2, a3, a4⟩
        refine ⟨_, _, _, D, acc, rfl, e4.trans e5, a1, ?_⟩
        rw [htk, prodL_snoc]
        have a5 : TDs H5 acc ((stepL ((prodL (W.take i)).take cs.length) W[i] ++ []).map dN) := a4
        rw [List.append_nil, hcl, List.take_length] at a5
        exact a5
    · rintro σ H4 ⟨u4, u5, u6, cc, cs, rfl, e4, h4, h5⟩
      rw [hwl, List.take_length] at h5
      have hcl : cs.length = (prodL W).length := by rw [h5.len, List.length_map]
      have hc64 := plen W.length
      rw [List.take_length] at hc64
      obtain ⟨x, dx, ax, adx, wy, pl, tv, ch, rfl, hx, hax, htv, hch⟩ := hR.kp (kp_ex (f3.trans e4))
      rw [haim] at htv
      refine ⟨_, rfl, cc, rfl, ⟨_, SqL.of h4⟩, fun D nD => lcm_lst (xs := cs) (fun i y H => ∃ ctx, (prodL W)[i]? = some ctx ∧ TD H y (.tuple [dN ctx, dN (goodX rs ctx)])) (stD_kp fun i y H H' k ⟨ctx, z1, z2⟩ => ⟨ctx, z1, z2.kp k⟩) nD (SqL.of h4) (by omega) (fun _ => rfl) ?_ ?_⟩
      · intro i cv H5 e5 _ hcv
        obtain ⟨d, hd2, hT2⟩ := h5.at' hcv
        rw [List.getElem?_map] at hd2
        cases hc : (prodL W)[i]? with
        | none => rw [hc] at hd2; cases hd2
        | some ctx =>
          rw [hc] at hd2
          have ed : dN ctx = d := Option.some.inj hd2
          subst ed
          obtain ⟨fl, ff⟩ := fitsW_iff.mp (mem_prodL.mp (List.mem_of_getElem? hc))
          have hmem : ∀ o ∈ ctx, o < rs.length := fun o ho => by
            obtain ⟨y, hy, e⟩ := List.mem_iff_getElem.mp ho
            have hu : W[y]? = some W[y] := List.getElem?_eq_getElem (by omega)
            have h6 := ff y _ hu
            rw [List.getD_eq_getElem?_getD, List.getElem?_eq_getElem hy, Option.getD_some, e] at h6
            exact hWb _ (List.getElem_mem _) o h6
          intro Q' q'
          refine ⟨cv, rfl, .ref x, rfl, x, _, dx, _, .ref ax, rfl, e5 _ _ hx, T.c_Node, T.n_Node_aim, rfl, ax, _, adx, _, tv, rfl, e5 _ _ hax, T.c_Aim, T.n_Aim_term, rfl, cv, rfl, .ref x, rfl, x, _, dx, _, .ref ax, rfl, e5 _ _ hx, T.c_Node, T.n_Node_aim, rfl, ax, _, adx, _, _, rfl, e5 _ _ hax, T.c_Aim, T.n_Aim_outcomes, rfl, tv, cv, _, rs, ctx, rfl, htv.ex e5, hT2.ex e5, (fun z => by rw [z] at fl; simp at fl; omega), by omega, hmem, fun v' H6 e6 hv' => ?_⟩
          refine ⟨by show 2 ≤ 100000; decide, fun p H7 np e7 hp => q' (.ref p) H7 (e6.trans e7) ⟨ctx, rfl, .tup hp (.cons ((hT2.ex e5).ex (e6.trans e7)) (.cons (hv'.ex e7) .nil))⟩⟩
      · intro H5 ys e5 hD hls
        refine q D ys H5 (gr_ex (f3.trans e4) _ nD) ((f3.trans e4).trans e5) hD (tds_of ?_ fun i y d h1 h2 => ?_)
        · rw [hls.1, hcl, List.length_map]
        · obtain ⟨ctx, z1, z2⟩ := hls.2 i y h1
          rw [List.getElem?_map, z1] at h2
          have ed : PyData.tuple [dN ctx, dN (goodX rs ctx)] = d := Option.some.inj h2
          rw [← ed]
          exact z2
end
end K69
namespace K69
open PySem PySem.Spec PyProof.Rows L2
open Evl (Ex given)
/-! ### a list of lists of numbers -/
structure Cells (H : Hp) (fa : Addr) (as : List Addr) (F : List (List Nat)) : Prop where
  fnd : H fa = some (.lst (as.map V.ref))
  nd : as.Nodup
  out : fa ∉ as
  len : as.length = F.length
  at_ : ∀ (x : Nat) (a : Addr) (f : List Nat), as[x]? = some a → F[x]? = some f → H a = some (.lst (vN f))
theorem Cells.ex {H H' : Hp} {fa : Addr} {as : List Addr} {F : List (List Nat)} (h : Cells H fa as F) (e : Ex H H') : Cells H' fa as F :=
  ⟨e _ _ h.fnd, h.nd, h.out, h.len, fun x a f h1 h2 => e _ _ (h.at_ x a f h1 h2)⟩
theorem nodup_at {α : Type} {as : List α} {x y : Nat} {a : α} (h : as.Nodup) (hx : as[x]? = some a) (hy : as[y]? = some a) : x = y := by
  obtain ⟨hx1, hx2⟩ := List.getElem?_eq_some_iff.mp hx
  obtain ⟨hy1, hy2⟩ := List.getElem?_eq_some_iff.mp hy
  rcases Nat.lt_trichotomy x y with q | q | q
  · exact absurd (hx2.trans hy2.symm) (List.pairwise_iff_getElem.mp h x y hx1 hy1 q)
  · exact q
  · exact absurd (hy2.trans hx2.symm) (List.pairwise_iff_getElem.mp h y x hy1 hx1 q)
theorem Cells.put {H H' : Hp} {fa a : Addr} {as : List Addr} {F : List (List Nat)} {x r : Nat} {f : List Nat} (h : Cells H fa as F) (ha : as[x]? = some a) (hf : F[x]? = some f) (e : ExS [a] H H') (h' : H' a = some (.lst (vN f ++ [.int (r : Int)]))) : Cells H' fa as (F.set x (f ++ [r])) where
  fnd := e _ _ h.fnd fun z => by
    rw [List.mem_singleton] at z
    exact h.out (by rw [z]; exact List.mem_of_getElem? ha)
  nd := h.nd
  out := h.out
  len := by rw [List.length_set, h.len]
  at_ := fun y b g hb hg => by
    by_cases q : y = x
    · subst q
      rw [List.getElem?_set_self (List.getElem?_eq_some_iff.mp hf).1] at hg
      rw [ha] at hb
      cases hb
      cases hg
      rw [h', vN, vN, List.map_append] <;> rfl
    · rw [List.getElem?_set_ne (Ne.symm q)] at hg
      refine e _ _ (h.at_ y b g hb hg) fun z => ?_
      rw [List.mem_singleton] at z
      subst z
      exact q (nodup_at h.nd hb ha)
/-! ### the hits, as far as they are gone through -/
def Done (rs : List Nat) (C : List (List Nat)) (i j x r : Nat) : Prop :=
  (∃ i' ctx, i' < i ∧ C[i']? = some ctx ∧ x ∈ goodX rs ctx ∧ ctx.getD x 0 = r) ∨ ∃ ctx, C[i]? = some ctx ∧ x ∈ (goodX rs ctx).take j ∧ ctx.getD x 0 = r
theorem done_zero {rs : List Nat} {C : List (List Nat)} {x r : Nat} : ¬ Done rs C 0 0 x r := by
  rintro (⟨i', ctx, h, _⟩ | ⟨ctx, _, h, _⟩)
  · omega
  · rw [List.take_zero] at h
    cases h
theorem done_turn {rs : List Nat} {C : List (List Nat)} {i x r : Nat} {ctx : List Nat} (hc : C[i]? = some ctx) : Done rs C i (goodX rs ctx).length x r ↔ Done rs C (i + 1) 0 x r := by
  constructor
  · rintro (⟨i', c, h, h1, h2⟩ | ⟨c, h1, h2, h3⟩)
    · exact .inl ⟨i', c, by omega, h1, h2⟩
    · have e : ctx = c := Option.some.inj (hc.symm.trans h1)
      subst e
      rw [List.take_length] at h2
      exact .inl ⟨i, ctx, by omega, hc, h2, h3⟩
  · rintro (⟨i', c, h, h1, h2, h3⟩ | ⟨c, h1, h2, h3⟩)
    · by_cases q : i' = i
      · subst q
        have e : ctx = c := Option.some.inj (hc.symm.trans h1)
        subst e
        exact .inr ⟨ctx, hc, by rw [List.take_length]; exact h2, h3⟩
      · exact .inl ⟨i', c, by omega, h1, h2, h3⟩
    · rw [List.take_zero] at h2
      cases h2
theorem done_step {rs : List Nat} {C : List (List Nat)} {i j x r x0 : Nat} {ctx : List Nat} (hc : C[i]? = some ctx) (hx : (goodX rs ctx)[j]? = some x0) : Done rs C i (j + 1) x r ↔ Done rs C i j x r ∨ (x = x0 ∧ r = ctx.getD x0 0) := by
  constructor
  · rintro (h | ⟨c, h1, h2, h3⟩)
    · exact .inl (.inl h)
    · have e : ctx = c := Option.some.inj (hc.symm.trans h1)
      subst e
      rw [take_succ_of hx] at h2
      rcases List.mem_append.mp h2 with h2 | h2
      · exact .inl (.inr ⟨ctx, hc, h2, h3⟩)
      · rw [List.mem_singleton] at h2
        subst h2
        exact .inr ⟨rfl, h3.symm⟩
  · rintro ((h | ⟨c, h1, h2, h3⟩) | ⟨e1, e2⟩)
    · exact .inl h
    · have e : ctx = c := Option.some.inj (hc.symm.trans h1)
      subst e
      exact .inr ⟨ctx, hc, by rw [take_succ_of hx]; exact List.mem_append_left _ h2, h3⟩
    · subst e1
      exact .inr ⟨ctx, hc, by rw [take_succ_of hx]; exact List.mem_append_right _ List.mem_cons_self, e2.symm⟩
theorem done_all {rs : List Nat} {C : List (List Nat)} {x r : Nat} : Done rs C C.length 0 x r ↔ Hit rs C x r := by
  constructor
  · rintro (⟨i', c, h, h1, h2⟩ | ⟨c, h1, h2, h3⟩)
    · exact ⟨c, List.mem_of_getElem? h1, h2⟩
    · rw [List.take_zero] at h2
      cases h2
  · rintro ⟨c, h1, h2⟩
    obtain ⟨i, hi, e⟩ := List.mem_iff_getElem.mp h1
    exact .inl ⟨i, c, hi, by rw [List.getElem?_eq_getElem hi, e], h2⟩
theorem ex_fresh {S : List Addr} {H H' : Hp} (e : ExS S H H') (h : ∀ a ∈ S, H a = none) : Ex H H' := fun a o q => e a o q fun z => by
  rw [h a z] at q
  cases q
section
variable {P : Program} {w : World} {K : PySem.W.Frag} {mg : Str → Option Value} {base : Heap}
/-! ### option_lots -/
def spOL (K : PySem.W.Frag) : Sp := fun vs H Q _ => ∃ (nv : V) (la ea : Addr) (k : Nat) (r : Rec) (rs : List Nat) (lvs : List V) (es : List Nat) (W : List (List Nat)), vs = [nv, .ref la, .ref ea] ∧ RecAt K k H nv r ∧ r.aim = .tuple [.str "best", dN rs] ∧ H la = some (.lst lvs) ∧ H ea = some (.tup (vN es)) ∧ Lots H lvs es r.cs W ∧
  1 ≤ W.length ∧ W.length ≤ 3 ∧ (∀ u ∈ W, u.length ≤ 4) ∧ (∀ u ∈ W, ∀ o ∈ u, o < rs.length) ∧
  ∀ fa as F H', Ex H H' → Cells H' fa as F → as.length = W.length → (∀ (x : Nat) (f : List Nat), F[x]? = some f → f.length ≤ 10000 ∧ ∀ o, o ∈ f ↔ Hit rs (prodL W) x o) → Q (.ref fa) H'
theorem sc_option_lots : FnScope ["node", "lots", "ends", "found", "context", "good", "option", "_"] ["node", "lots", "ends"] (defScope (topS 75)) := ⟨rfl, rfl, rfl, by decide +kernel, rfl, by decide +kernel, by decide +kernel⟩
theorem c_option_lots (T : Txt K mg w) : Cal P w K mg base CX0 5 "option_lots" ["node", "lots", "ends"] (spOL K) := by
  refine mkCal (T.d_option_lots) sc_option_lots (fun _ _ _ _ _ _ us hl => match us, hl with | [_, _, _], _ => rfl) (fun vs H Q E h => ?_) (fun f cdv A outer s H vs Q E hr h => ?_)
  · obtain ⟨nv, la, ea, k, r, rs, lvs, es, W, rfl, _⟩ := h
    rfl
  · obtain ⟨nv, la, ea, k, r, rs, lvs, es, W, rfl, hR, haim, hla, hea, hW, hW1, hW3, hW4, hWb, q⟩ := h
    refine ⟨_, (pss_cons (ps_setLc (i := 3) (own := [("_", 7)]) rfl sc_option_lots.nd rfl rfl (sw_true rfl rfl rfl (by decide +kernel)) (pi_tupK K (pe_fldK K (pv 0) rfl)) (blkOk_by (by kernel_rfl)) (fun _ _ _ _ _ => (pg_name (i := 7) sc_option_lots.nd rfl (Or.inl rfl))) (fun _ _ _ _ _ => pts_nil) (fun _ _ _ _ _ => (pe_lstX pa_nil)))
      (pss_cons (ps_for PassesOwn.never rfl (pi_lstK K (pe_cal (c_good_contexts T) hr (by omega) (pa_cons (pv 0) (pa_cons (pv 1) (pa_cons (pv 2) pa_nil))))) (pg_tup rfl (pgs_cons (pg_name (i := 4) sc_option_lots.nd rfl (Or.inl rfl)) (pgs_cons (pg_name (i := 5) sc_option_lots.nd rfl (Or.inl rfl)) pgs_nil)))
      (pss_one (ps_for PassesOwn.never rfl (pi_tupK K (pv 5)) (pg_name (i := 6) sc_option_lots.nd rfl (Or.inl rfl))
        (pss_one (ps_if (pt_cmpR (op_ninK K) (pe_ix (ix_tupK K) (pv 4) (pv 6) (fun _ _ => rfl)) (pe_ix (ix_lstK K) (pv 3) (pv 6) (fun _ _ => rfl)) (by rfl))
          (pss_one (ps_expr (pe_appX (pe_bm PySem.F.plainAttrs_list PySem.F.slot_list_append PySem.F.type_list_append mt_append (PE.up (pe_ix (ix_lstK K) (pv 3) (pv 6) (fun _ _ => rfl))) (pa_cons (PE.up (pe_ix (ix_tupK K) (pv 4) (pv 6) (fun _ _ => rfl))) pa_nil)))))
          pss_nil)))))
      (pss_one (ps_ret (pv 3))))), ?_⟩
    obtain ⟨x, dx, ax, adx, wy, pl, tv, ch, rfl, hx, hax, htv, hch⟩ := hR
    have hR : RecAt K k H (.ref x) r := ⟨x, dx, ax, adx, wy, pl, tv, ch, rfl, hx, hax, htv, hch⟩
    obtain ⟨ca, cvs, rfl, hca, hcvs⟩ := hch.tup_inv
    have hcl : cvs.length = W.length := by rw [hcvs.len, List.length_map, hW.1]
    -- found
    refine ⟨.ref x, rfl, x, _, dx, _, .ref ca, rfl, hx, T.c_Node, T.n_Node_children, rfl, ca, rfl, ⟨_, SqT.of hca⟩, fun D nD => lc_it (walk_tup (xs := cvs)) (fun i H1 => Ex H H1 ∧ ∃ as : List Addr, H1 D = some (.lst (as.map V.ref)) ∧ as.length = i ∧ as.Nodup ∧ D ∉ as ∧ ∀ a ∈ as, H1 a = some (.lst []) ∧ H a = none) ⟨ex_upd nD, [], upd_same, rfl, List.nodup_nil, (fun z => by cases z), fun a z => by cases z⟩ (fun i H1 _ ⟨e, _⟩ => SqT.of (e _ _ hca)) ?_ ?_⟩
    · rintro i cv H1 H1' hi ⟨e1, as, h1, h2, h3, h4, h5⟩ ⟨eH, _⟩
      subst eH
      refine ⟨rfl, ?_⟩
      unfold tYes
      dsimp only
      rw [if_pos rfl]
      refine ⟨by show 0 ≤ 100000; decide, fun p H2 np e2 hp => ⟨_, e2 _ _ h1, Evl.sz_lt (by rw [List.length_map]; omega), Evl.Ex.mut (e1.trans e2) nD, as ++ [p], ?_, by rw [List.length_append, h2] <;> rfl, ?_, ?_, ?_⟩⟩
      · rw [upd_same, List.map_append] <;> rfl
      · rw [List.nodup_append]
        refine ⟨h3, by simp, fun a ha b hb => ?_⟩
        rw [List.mem_singleton] at hb
        subst hb
        intro z
        subst z
        rw [(h5 a ha).1] at np
        cases np
      · intro z
        rcases List.mem_append.mp z with z | z
        · exact h4 z
        · rw [List.mem_singleton] at z
          subst z
          rw [h1] at np
          cases np
      · intro a ha
        have hne : a ≠ D := by
          rcases List.mem_append.mp ha with z | z
          · intro y
            subst y
            exact h4 z
          · rw [List.mem_singleton] at z
            subst z
            intro y
            subst y
            rw [h1] at np
            cases np
        rw [upd_ne hne]
        rcases List.mem_append.mp ha with z | z
        · exact ⟨e2 _ _ (h5 a z).1, (h5 a z).2⟩
        · rw [List.mem_singleton] at z
          subst z
          exact ⟨hp, gr_ex e1 _ np⟩
    rintro H1 ⟨e1, as, h1, h2, h3, h4, h5⟩
    -- the contexts
    refine ⟨_, rfl, _, rfl, _, rfl, .ref x, la, ea, k, r, rs, lvs, es, W, rfl, hR.kp (kp_ex e1), haim, e1 _ _ hla, e1 _ _ hea, hW.kp (kp_ex e1), hW1, hW3, hW4, hWb, fun ga gs H3 nga e3 hga hgs => ?_⟩
    have C64 : (prodL W).length ≤ 64 := by
      have h1 := foldl_len (k := 4) (W := W) (C := [[]]) hW4
      have h3 : 4 ^ W.length ≤ 4 ^ 3 := Nat.pow_le_pow_right (by decide) hW3
      have h4 : (4 : Nat) ^ 3 = 64 := by decide
      rw [List.length_singleton] at h1
      show (W.foldl stepL [[]]).length ≤ 64
      omega
    have hgl : gs.length = (prodL W).length := by rw [hgs.len, List.length_map]
    have kp3 : ∀ {H4 : Hp}, ExS as H3 H4 → Kp H3 H4 := fun e4 => kp_exS e4 fun a ha => ⟨_, e3 _ _ (h5 a ha).1⟩
    have hgan : ga ∉ as := fun z => by rw [(h5 ga z).1] at nga; cases nga
    have hD3 := e3 _ _ h1
    have rep : ∀ n : Nat, (List.replicate n ([] : List Nat)).length = n := fun n => List.length_replicate
    refine ⟨ga, rfl, ⟨_, SqL.of hga⟩, for_it (walk_list (xs := gs)) (fun i σ H4 => ∃ u4 u5 u6 u7 : Option V, σ = [some (.ref x), some (.ref la), some (.ref ea), some (.ref D), u4, u5, u6, u7] ∧ ExS as H3 H4 ∧ ∃ F, Cells H4 D as F ∧ ∀ (x : Nat) (f : List Nat), F[x]? = some f → f.length ≤ 100 * i + 0 ∧ ∀ o, o ∈ f ↔ Done rs (prodL W) i 0 x o)
      ⟨none, none, none, none, rfl, ExS.refl _ _, List.replicate as.length [], ⟨hD3, h3, h4, (rep _).symm, fun y a f ha hf => ?_⟩, fun y f hf => ?_⟩ ?_ ?_ ?_⟩
    · have ef := List.eq_of_mem_replicate (List.mem_of_getElem? hf)
      rw [ef]
      exact e3 _ _ (h5 a (List.mem_of_getElem? ha)).1
    · have ef := List.eq_of_mem_replicate (List.mem_of_getElem? hf)
      rw [ef]
      exact ⟨Nat.zero_le _, fun o => ⟨fun z => (by cases z), fun z => (done_zero z).elim⟩⟩
    · rintro i σ H4 hi ⟨u4, u5, u6, u7, rfl, e4, _⟩
      exact SqL.of (e4 _ _ hga hgan)
    · rintro i gv σ H4 H4' hi ⟨u4, u5, u6, u7, rfl, e4, F, hF, hFo⟩ ⟨eH, hgv⟩
      subst eH
      obtain ⟨d, hd, hT⟩ := hgs.at' hgv
      rw [List.getElem?_map] at hd
      cases hc : (prodL W)[i]? with
      | none => rw [hc] at hd; cases hd
      | some ctx =>
        rw [hc] at hd
        have ed : PyData.tuple [dN ctx, dN (goodX rs ctx)] = d := Option.some.inj hd
        subst ed
        obtain ⟨b, xs, rfl, hb, hxs⟩ := TD.tup_inv hT
        obtain ⟨x0, xs2, rfl, h0, hxs2⟩ := hxs.cons_inv
        obtain ⟨x1, xs3, rfl, h1', hxs3⟩ := hxs2.cons_inv
        cases hxs3.nil_inv
        obtain ⟨cxa, rfl, hcxa⟩ := td_nat_inv h0
        obtain ⟨gda, rfl, hgda⟩ := td_nat_inv h1'
        have cl := (fitsW_iff.mp (mem_prodL.mp (List.mem_of_getElem? hc))).1
        have hi64 : i < 64 := by
          have := (List.getElem?_eq_some_iff.mp hc).1
          omega
        have gl3 : (goodX rs ctx).length ≤ 3 := by
          have : (goodX rs ctx).length ≤ (List.range ctx.length).length := List.length_filter_le _ _
          rw [List.length_range] at this
          omega
        refine ⟨b, _, rfl, SqT.of ((kp3 e4).tup hb), rfl, _, _, rfl, _, _, rfl, rfl, ?_⟩
        refine ⟨_, rfl, gda, rfl, ⟨_, SqT.of ((kp3 e4).tup hgda)⟩, for_it (walk_tup (xs := vN (goodX rs ctx))) (fun j σ H4 => ∃ u6 : Option V, σ = [some (.ref x), some (.ref la), some (.ref ea), some (.ref D), some (.ref cxa), some (.ref gda), u6, u7] ∧ ExS as H3 H4 ∧ ∃ F, Cells H4 D as F ∧ ∀ (x : Nat) (f : List Nat), F[x]? = some f → f.length ≤ 100 * i + j ∧ ∀ o, o ∈ f ↔ Done rs (prodL W) i j x o) ⟨u6, rfl, e4, F, hF, hFo⟩ ?_ ?_ ?_⟩
        · rintro j σ H5 hj ⟨u6, rfl, e5, _⟩
          exact SqT.of ((kp3 e5).tup hgda)
        · rintro j ov σ H5 H5' hj ⟨u6, rfl, e5, F, hF, hFo⟩ ⟨eH, hov⟩
          subst eH
          obtain ⟨xx, hxx, rfl⟩ := vN_at_inv hov
          have hxl : xx < ctx.length := (mem_goodX.mp (List.mem_of_getElem? hxx)).1
          have hcx := (kp3 e5).tup hcxa
          have hr0 := at_getD hxl
          have hasx : as[xx]? = some as[xx] := List.getElem?_eq_getElem (by omega)
          have hfl := hF.len
          have hFx : F[xx]? = some F[xx] := List.getElem?_eq_getElem (by omega)
          obtain ⟨hf1, hf2⟩ := hFo xx _ hFx
          have hcell := hF.at_ xx _ _ hasx hFx
          have hat : (as.map V.ref)[xx]? = some (.ref as[xx]) := by rw [List.getElem?_map, hasx] <;> rfl
          have jl : j < 3 := by
            have := (List.getElem?_eq_some_iff.mp hxx).1
            omega
          refine ⟨.ref cxa, rfl, .int (xx : Int), rfl, cxa, _, _, .int ((ctx.getD xx 0 : Nat) : Int), rfl, rfl, SqT.of hcx, atN (vN_at hr0), .ref D, rfl, .int (xx : Int), rfl, D, _, _, .ref as[xx], rfl, rfl, SqL.of hF.fnd, atN hat, as[xx], vN F[xx], rfl, .inl (SqL.of hcell), rfl, vN_flat _, ?_⟩
          by_cases hin : ctx.getD xx 0 ∈ F[xx]
          · refine ⟨false, ?_, iteF ?_⟩
            · show V.bl (!inV (.int ((ctx.getD xx 0 : Nat) : Int)) (vN F[xx])) = V.bl false
              rw [inV_nat, decide_eq_true hin] <;> rfl
            refine ⟨_, rfl, e5, F, hF, fun y g hg => ?_⟩
            obtain ⟨hg1, hg2⟩ := hFo y g hg
            refine ⟨by omega, fun o => ?_⟩
            rw [hg2 o, done_step hc hxx]
            constructor
            · exact Or.inl
            · rintro (z | ⟨z1, z2⟩)
              · exact z
              · subst z1
                rw [hFx] at hg
                cases hg
                rw [z2]
                exact (hf2 _).mp hin
          · refine ⟨true, ?_, iteT ?_⟩
            · show V.bl (!inV (.int ((ctx.getD xx 0 : Nat) : Int)) (vN F[xx])) = V.bl true
              rw [inV_nat, decide_eq_false hin] <;> rfl
            refine ⟨.ref D, rfl, .int (xx : Int), rfl, D, _, _, .ref as[xx], rfl, rfl, SqL.of hF.fnd, atN hat, as[xx], rfl, ⟨_, hcell⟩, .ref cxa, rfl, .int (xx : Int), rfl, cxa, _, _, .int ((ctx.getD xx 0 : Nat) : Int), rfl, rfl, SqT.of hcx, atN (vN_at hr0), vN F[xx], hcell, by rw [vN_len]; omega, fun H6 e6 h6 => ?_⟩
            refine ⟨_, rfl, e5.trans (exS_mono e6 fun z hz => ?_), _, hF.put hasx hFx e6 h6, fun y g hg => ?_⟩
            · rw [List.mem_singleton] at hz
              subst hz
              exact List.mem_of_getElem? hasx
            · by_cases hy : y = xx
              · subst hy
                rw [List.getElem?_set_self (by omega)] at hg
                cases hg
                refine ⟨by rw [List.length_append, List.length_singleton]; omega, fun o => ?_⟩
                rw [List.mem_append, List.mem_singleton, hf2 o, done_step hc hxx]
                constructor
                · rintro (z | z)
                  · exact .inl z
                  · exact .inr ⟨rfl, z⟩
                · rintro (z | ⟨_, z⟩)
                  · exact .inl z
                  · exact .inr z
              · rw [List.getElem?_set_ne (Ne.symm hy)] at hg
                obtain ⟨hg1, hg2⟩ := hFo y g hg
                refine ⟨by omega, fun o => ?_⟩
                rw [hg2 o, done_step hc hxx]
                constructor
                · exact Or.inl
                · rintro (z | ⟨z, _⟩)
                  · exact z
                  · exact absurd z hy
        · rintro σ H5 ⟨u6, rfl, e5, F, hF, hFo⟩
          rw [vN_len] at hFo
          refine ⟨_, _, u6, u7, rfl, e5, F, hF, fun y g hg => ?_⟩
          obtain ⟨hg1, hg2⟩ := hFo y g hg
          exact ⟨by omega, fun o => by rw [hg2 o]; exact done_turn hc⟩
    · rintro σ H4 ⟨u4, u5, u6, u7, rfl, e4, F, hF, hFo⟩
      have e14 : ExS as H H4 := ((exS_ex e1).trans (exS_ex e3)).trans e4
      refine ⟨_, rfl, q D as F H4 (ex_fresh e14 fun a ha => (h5 a ha).2) hF (by omega) fun y g hg => ?_⟩
      obtain ⟨hg1, hg2⟩ := hFo y g hg
      rw [hgl] at hg2
      exact ⟨by omega, fun o => by rw [hg2 o]; exact done_all⟩
end
end K69
namespace K69
open PySem PySem.Spec PyProof.Rows L2
open Evl (Ex given)
theorem lay_det {ns : List Rec} {es : List Nat} {k : Nat} {D : List Nat} (t : Tr) : ∀ t' c, Lay ns es t c → Lay ns es t' c → val k D t = val k D t' ∧ rk D t = rk D t' := by
  refine Tr.ind (C := fun t => ∀ t' c, Lay ns es t c → Lay ns es t' c → val k D t = val k D t' ∧ rk D t = rk D t') (fun r t' c h h' => ?_) (fun p a ts ih t' c h h' => ?_) t
  · cases c with
    | node i => exact h.elim
    | leaf j =>
      cases t' with
      | node p a ts => exact h'.elim
      | leaf r' =>
        have h1 : es[j]? = some r := h
        have h2 : es[j]? = some r' := h'
        rw [h1] at h2
        cases h2
        exact ⟨rfl, rfl⟩
  · cases c with
    | leaf j => exact h.elim
    | node i =>
      cases t' with
      | leaf r' => exact h'.elim
      | node p' a' ts' =>
        obtain ⟨cs, h1, h2⟩ := h
        obtain ⟨cs', h1', h2'⟩ := h'
        rw [h1] at h1'
        cases h1'
        obtain ⟨l1, g1⟩ := layL_iff.mp h2
        obtain ⟨l2, g2⟩ := layL_iff.mp h2'
        have key : ∀ x u u', ts[x]? = some u → ts'[x]? = some u' → val k D u = val k D u' ∧ rk D u = rk D u' := fun x u u' hu hu' => by
          have hx := (List.getElem?_eq_some_iff.mp hu).1
          have hc : cs[x]? = some cs[x] := List.getElem?_eq_getElem (by omega)
          exact ih u (List.mem_of_getElem? hu) u' _ (g1 x u _ hu hc).1 (g2 x u' _ hu' hc).1
        have ek : rks D ts = rks D ts' := by
          rw [rks_map, rks_map]
          refine List.ext_getElem? fun x => ?_
          rw [List.getElem?_map, List.getElem?_map]
          by_cases hx : x < ts.length
          · have hu := List.getElem?_eq_getElem hx
            have hu' : ts'[x]? = some ts'[x] := List.getElem?_eq_getElem (by omega)
            rw [hu, hu', Option.map_some, Option.map_some, (key x _ _ hu hu').2]
          · rw [List.getElem?_eq_none_iff.mpr (by omega), List.getElem?_eq_none_iff.mpr (by omega)]
        have ev : ∀ r, r ∈ vals k D ts ↔ r ∈ vals k D ts' := fun r => by
          rw [mem_vals, mem_vals]
          constructor
          · rintro ⟨u, hu, hr⟩
            obtain ⟨x, hx, e⟩ := List.mem_iff_getElem.mp hu
            have hu1 : ts[x]? = some u := by rw [List.getElem?_eq_getElem hx, e]
            have hu' : ts'[x]? = some ts'[x] := List.getElem?_eq_getElem (by omega)
            rw [(key x _ _ hu1 hu').1] at hr
            exact ⟨_, List.mem_of_getElem? hu', hr⟩
          · rintro ⟨u, hu, hr⟩
            obtain ⟨x, hx, e⟩ := List.mem_iff_getElem.mp hu
            have hu1 : ts'[x]? = some u := by rw [List.getElem?_eq_getElem hx, e]
            have hu' : ts[x]? = some ts[x] := List.getElem?_eq_getElem (by omega)
            rw [← (key x _ _ hu' hu1).1] at hr
            exact ⟨_, List.mem_of_getElem? hu', hr⟩
        have er : rk D (.node p a ts) = rk D (.node p' a ts') := by
          show (if dn (rsOf a) = D then top (rks D ts) else low (rks D ts)) = (if dn (rsOf a) = D then top (rks D ts') else low (rks D ts'))
          rw [ek]
        refine ⟨?_, er⟩
        show (List.range k).filter _ = (List.range k).filter _
        refine List.filter_congr fun r _ => ?_
        rw [er, decide_eq_decide.mpr (ev r)]
theorem sub_fit {k : Nat} {t s : Tr} (h : t.Fit k) (hs : Sub s t) : s.Fit k := sub_all (C := fun t => t.Fit k) (fun p a ts h t ht => fits_mem.mp h.2.2.2.2 t ht) t h s hs
theorem sub_ord {k : Nat} {D : List Nat} {t s : Tr} (h : Ord k D t) (hs : Sub s t) : Ord k D s := sub_all (C := fun t => Ord k D t) (fun p a ts h t ht => h.child ht) t h s hs
theorem leaf_flat {rs : List Rec} {es : List Nat} {r : Nat} {c : Ch} (h : Flat rs es (.leaf r) c) : rs = [] ∧ es = [r] := by
  have h1 := h.aims
  have h2 : es.length = 1 := h.lvs
  have h3 := h.lay
  refine ⟨List.map_eq_nil_iff.mp h1, ?_⟩
  cases c with
  | node i => exact h3.elim
  | leaf j =>
    have h4 : es[j]? = some r := h3
    have h5 := (List.getElem?_eq_some_iff.mp h4).1
    have h6 : j = 0 := by omega
    subst h6
    match es, h2, h4 with
    | [x], _, h4 =>
      have e : x = r := Option.some.inj h4
      rw [e]
section
variable {P : Program} {w : World} {K : PySem.W.Frag} {mg : Str → Option Value} {base : Heap}
/-! ### walk_lots -/
def LotsOk (H : Hp) (k : Nat) (D : List Nat) (rs : List Rec) (es : List Nat) (n : Nat) (lvs : List V) : Prop := ∀ (i : Nat) (v : V) (s : Tr), n ≤ i → lvs[i]? = some v → Lay rs es s (.node i) → TD H v (dN (val k D s))
def spWL (K : PySem.W.Frag) : Sp := fun vs H Q _ => ∃ (x dx na ea : Addr) (k : Nat) (D : List Nat) (tv : V) (nvs : List V) (rs : List Rec) (es : List Nat) (t : Tr) (c : Ch), vs = [.ref x, .ref ea] ∧ H x = some (.ins (He.ga K "Game") dx (flG k tv na ea)) ∧
  H na = some (.tup nvs) ∧ H ea = some (.tup (vN es)) ∧ RecsAt K k H nvs rs ∧ Flat rs es t c ∧ t.Fit k ∧ Ord k D t ∧ DOk k D ∧ rs.length ≤ 1000 ∧
  ∀ p la y lvs H', Ex H H' → H' p = some (.tup [.ref la, y]) → H' la = some (.lst lvs) → lvs.length = rs.length → LotsOk H' k D rs es 0 lvs → Q (.ref p) H'
theorem sc_walk_lots : FnScope ["game", "ends", "lots", "founds", "index", "found", "_", "r", "lot"] ["game", "ends"] (defScope (topS 76)) := ⟨rfl, rfl, rfl, by decide +kernel, rfl, by decide +kernel, by decide +kernel⟩
theorem c_walk_lots (T : Txt K mg w) : Cal P w K mg base CX0 6 "walk_lots" ["game", "ends"] (spWL K) := by
  refine mkCal (T.d_walk_lots) sc_walk_lots (fun _ _ _ _ _ _ us hl => match us, hl with | [_, _], _ => rfl) (fun vs H Q E h => ?_) (fun f cdv A outer s H vs Q E hr h => ?_)
  · obtain ⟨x, dx, na, ea, k, D, tv, nvs, rs, es, t, c, rfl, _⟩ := h
    rfl
  · obtain ⟨x, dx, na, ea, k, D, tv, nvs, rs, es, t, c, rfl, hx, hna, hea, hR, hF, hFit, hO, hD, hz, q⟩ := h
    refine ⟨_, (pss_cons (ps_setLc (i := 2) (own := [("_", 6)]) rfl sc_walk_lots.nd rfl rfl (sw_true rfl rfl rfl (by decide +kernel)) (pi_tupK K (pe_fldK K (pv 0) rfl)) (blkOk_by (by kernel_rfl)) (fun _ _ _ _ _ => (pg_name (i := 6) sc_walk_lots.nd rfl (Or.inl rfl))) (fun _ _ _ _ _ => pts_nil) (fun _ _ _ _ _ => (pe_tupX pa_nil)))
      (pss_cons (ps_setLc (i := 3) (own := [("_", 6)]) rfl sc_walk_lots.nd rfl rfl (sw_true rfl rfl rfl (by decide +kernel)) (pi_tupK K (pe_fldK K (pv 0) rfl)) (blkOk_by (by kernel_rfl)) (fun _ _ _ _ _ => (pg_name (i := 6) sc_walk_lots.nd rfl (Or.inl rfl))) (fun _ _ _ _ _ => pts_nil) (fun _ _ _ _ _ => (pe_lstX pa_nil)))
      (pss_cons (ps_for PassesOwn.never rfl (pi_range3 rfl T.z_range (pa_cons (pe_op op_sub (pe_callB (cr_lenK K) (by rfl) T.z_len (by decide +kernel) (pa_cons (pe_fldK K (pv 0) rfl) pa_nil)) pe_int) (pa_cons (pe_un un_neg pe_int) (pa_cons (pe_un un_neg pe_int) pa_nil)))) (pg_name (i := 4) sc_walk_lots.nd rfl (Or.inl rfl))
      (pss_cons (ps_set (i := 5) sc_walk_lots.nd rfl (Or.inr rfl) (pe_cal (c_option_lots T) hr (by omega) (pa_cons (pe_ix (ix_tupK K) (pe_fldK K (pv 0) rfl) (pv 4) (fun _ _ => rfl)) (pa_cons (pv 2) (pa_cons (pv 1) pa_nil)))))
        (pss_cons (ps_asg (pe_callTy call_tupX (by rfl) T.z_tuple (by decide +kernel) (pa_cons (pe_lc (own := [("r", 7)]) rfl sc_walk_lots.nd (pi_range1 rfl T.z_range (pa_cons (pe_fldK K (pv 0) rfl) pa_nil)) (blkOk_by (by kernel_rfl)) (fun _ _ _ _ _ => (pg_name (i := 7) sc_walk_lots.nd rfl (Or.inr rfl))) (fun _ _ _ _ _ => (pts_one (pt_val (pe_callB (cr_anyK K) (by rfl) T.z_any (by decide +kernel) (pa_cons (pe_lc (own := [("lot", 8)]) rfl sc_walk_lots.nd (pi_lstK K (pv 5)) (blkOk_by (by kernel_rfl)) (fun _ _ _ _ _ => (pg_name (i := 8) sc_walk_lots.nd rfl (Or.inl rfl))) (fun _ _ _ _ _ => pts_nil) (fun _ _ _ _ _ => (pe_cmpR (op_inK K) (pv 7) (pv 8) (by rfl)))) pa_nil))))) (fun _ _ _ _ _ => (pv 7))) pa_nil)) (pg_sub (pv 2) (pv 4) set_list))
        (pss_one (ps_asg (pv 5) (pg_sub (pv 3) (pv 4) set_list))))))
      (pss_one (ps_ret (pe_tupX (pa_cons (pv 2) (pa_cons (pv 3) pa_nil)))))))), ?_⟩
    have hnl : nvs.length = rs.length := hR.1
    -- lots, founds
    refine ⟨.ref x, rfl, x, _, dx, _, .ref na, rfl, hx, T.c_Game, T.n_Game_nodes, rfl, na, rfl, ⟨_, SqT.of hna⟩, fun la nla => lcm_tup (xs := nvs) (fun i y _ => True) (fun _ _ _ _ _ _ _ => trivial) nla (SqT.of hna) (by omega) (fun _ => rfl) ?_ ?_⟩
    · intro i y H1 e1 _ _ Q' q'
      exact ⟨by show 0 ≤ 100000; decide, fun p H2 np e2 hp => q' _ H2 e2 trivial⟩
    intro H1 lv0 e1 hla1 hl1
    refine ⟨.ref x, rfl, x, _, dx, _, .ref na, rfl, e1 _ _ hx, T.c_Game, T.n_Game_nodes, rfl, na, rfl, ⟨_, SqT.of (e1 _ _ hna)⟩, fun fda nfda => lcm_tup (xs := nvs) (fun i y _ => True) (fun _ _ _ _ _ _ _ => trivial) nfda (SqT.of (e1 _ _ hna)) (by omega) (fun _ => rfl) ?_ ?_⟩
    · intro i y H1 e1 _ _ Q' q'
      exact ⟨by show 0 ≤ 100000; decide, fun p H2 np e2 hp => q' _ H2 e2 trivial⟩
    intro H2 fv0 e2 hfd2 hl2
    have f2 := e1.trans e2
    have hla2 := e2 _ _ hla1
    have hne : la ≠ fda := fun z => by rw [z, nfda] at hla1; cases hla1
    have nfd0 : H fda = none := gr_ex e1 _ nfda
    refine ⟨.ref x, rfl, x, _, dx, _, .ref na, rfl, f2 _ _ hx, T.c_Game, T.n_Game_nodes, rfl, na, nvs, rfl, .inr (SqT.of (f2 _ _ hna)), _, _, rfl, rfl, _, rfl, _, rfl, _, _, _, nvs.length, rfl, ?_, ?_⟩
    · have := RgC.neg (i := (nvs.length : Int) - 1) (j := -1) (by omega) (by omega) (by omega) (by omega)
      rw [show ((nvs.length : Int) - 1 - -1).toNat = nvs.length by omega] at this
      exact this
    have ki : ∀ {H3 : Hp}, ExS [la, fda] H2 H3 → Kp H2 H3 := fun e3 => kp_exS e3 fun z hz => by
      rcases List.mem_cons.mp hz with rfl | hz
      · exact ⟨_, hla2⟩
      rw [List.mem_singleton] at hz
      subst hz
      exact ⟨_, hfd2⟩
    refine for_it (walk_rangeC (lo := (nvs.length : Int) - 1) (c := -1) (n := nvs.length)) (fun m σ H3 => ∃ (u4 u5 u6 u7 u8 : Option V) (lvs fvs : List V), σ = [some (.ref x), some (.ref ea), some (.ref la), some (.ref fda), u4, u5, u6, u7, u8] ∧ ExS [la, fda] H2 H3 ∧ H3 la = some (.lst lvs) ∧ lvs.length = nvs.length ∧ H3 fda = some (.lst fvs) ∧ fvs.length = nvs.length ∧ LotsOk H3 k D rs es (nvs.length - m) lvs)
      ⟨none, none, none, none, none, lv0, fv0, rfl, ExS.refl _ _, hla2, hl1.1, hfd2, hl2.1, fun i v s hi hv _ => ?_⟩ (fun _ _ _ _ _ => trivial) ?_ ?_
    · have := (List.getElem?_eq_some_iff.mp hv).1
      have := hl1.1
      omega
    · rintro m iv σ H3 H3' hm ⟨u4, u5, u6, u7, u8, lvs, fvs, rfl, e3, hla3, hlv3, hfd3, hfv3, hOK⟩ ⟨eH, hiv⟩
      subst eH
      subst hiv
      have ei : (nvs.length : Int) - 1 + (m : Int) * -1 = ((nvs.length - 1 - m : Nat) : Int) := by omega
      obtain ⟨s, hs, hlay⟩ := hF.each (nvs.length - 1 - m) (by omega)
      have sF := sub_fit hFit hs
      have sO := sub_ord hO hs
      have hvi : nvs[nvs.length - 1 - m]? = some nvs[nvs.length - 1 - m] := List.getElem?_eq_getElem (by omega)
      cases s with
      | leaf r => exact hlay.elim
      | node p a ts =>
        obtain ⟨cs, hri, hLL⟩ := hlay
        have hlay : Lay rs es (.node p a ts) (.node (nvs.length - 1 - m)) := ⟨cs, hri, hLL⟩
        obtain ⟨cl, cg⟩ := layL_iff.mp hLL
        obtain ⟨rsk, ea', hrl, hrb, hro⟩ := sO _ List.mem_cons_self
        subst ea'
        have hRi := ((hR.kp (kp_ex f2)).kp (ki e3)).2 _ _ _ hvi hri
        have sF' := sF
        obtain ⟨_, _, hn1, hn3, hFs⟩ := sF'
        refine ⟨.ref x, rfl, x, _, dx, _, .ref na, rfl, (ki e3).ins (f2 _ _ hx), T.c_Game, T.n_Game_nodes, rfl, _, rfl, na, _, _, _, rfl, rfl, SqT.of ((ki e3).tup (f2 _ _ hna)), (by rw [ei]; exact atN hvi), _, rfl, _, rfl, ?_⟩
        refine ⟨_, la, ea, k, ⟨_, cs⟩, rsk, lvs, es, ts.map (val k D), rfl, hRi, rfl, hla3, (ki e3).tup (f2 _ _ hea), ⟨by rw [List.length_map, cl], fun y c u hc hu => ?_⟩, by rw [List.length_map]; exact hn1, by rw [List.length_map]; exact hn3, fun u hu => ?_, fun u hu o ho => ?_, fun fa as F H4 e4 hC hal hFh => ?_⟩
        · rw [List.getElem?_map] at hu
          cases htu : ts[y]? with
          | none => rw [htu] at hu; cases hu
          | some tc =>
            rw [htu] at hu
            have eu : val k D tc = u := Option.some.inj hu
            subst eu
            obtain ⟨k1, k2⟩ := cg y tc c htu hc
            cases c with
            | leaf j =>
              cases tc with
              | node p' a' ts' => exact k1.elim
              | leaf r => exact ⟨r, k1, rfl⟩
            | node j =>
              have hj := k2 j rfl
              have hjl : j < rs.length := by
                cases tc with
                | leaf r => exact k1.elim
                | node p' a' ts' =>
                  obtain ⟨cs', h1, _⟩ := k1
                  exact (List.getElem?_eq_some_iff.mp h1).1
              have hvj : lvs[j]? = some lvs[j] := List.getElem?_eq_getElem (by omega)
              exact ⟨_, hvj, hOK j _ tc (by omega) hvj k1⟩
        · obtain ⟨tc, htc, rfl⟩ := List.mem_map.mp hu
          have := val_len (D := D) tc hD.one
          have := hD.four
          omega
        · obtain ⟨tc, htc, rfl⟩ := List.mem_map.mp hu
          rw [hrl]
          exact ((val_props tc (fits_mem.mp hFs tc htc)).2 o ho).1
        have hFl := hC.len
        have hWn : F.length = ts.length := by rw [← hFl, hal, List.length_map]
        -- the outcomes in some of the lots
        refine ⟨.ref x, rfl, x, _, dx, _, .int (k : Int), rfl, e4 _ _ ((ki e3).ins (f2 _ _ hx)), T.c_Game, T.n_Game_outcomes, rfl, (k : Int), rfl, ?_, ?_, fun D5 nD5 => ?_⟩
        · have := hD.four; omega
        · have := hD.four; omega
        rw [show ((k : Int)).toNat = k by omega]
        refine lcf_rng (n := k) (fun r => F.any fun g => decide (r ∈ g)) (fun r => .int (r : Int)) nD5 (by have := hD.four; omega) (fun _ => rfl) ?_ ?_ ?_
        · intro r H5 e5 hrk
          intro Q5 q5
          have hC5 := hC.ex e5
          refine ⟨_, rfl, fa, rfl, ⟨_, SqL.of hC5.fnd⟩, fun D6 nD6 => lcm_lst (xs := as.map V.ref) (fun j y _ => y = .bl (decide (r ∈ F.getD j []))) (stD_val (f := fun j => .bl (decide (r ∈ F.getD j [])))) nD6 (SqL.of hC5.fnd) (by rw [List.length_map]; omega) (fun _ => rfl) ?_ ?_⟩
          · intro j y H6 e6 _ hy
            rw [List.getElem?_map] at hy
            cases haj : as[j]? with
            | none => rw [haj] at hy; cases hy
            | some aj =>
              rw [haj] at hy
              have ey : V.ref aj = y := Option.some.inj hy
              subst ey
              have hjl := (List.getElem?_eq_some_iff.mp haj).1
              have hFj : F[j]? = some F[j] := List.getElem?_eq_getElem (by omega)
              refine evQ_of fun Q6 q6 => ⟨_, rfl, _, rfl, aj, vN F[j], rfl, .inl (SqL.of (e6 _ _ (hC5.at_ j aj _ haj hFj))), rfl, vN_flat _, ?_⟩
              show Q6 (.bl (inV (.int (r : Int)) (vN F[j]))) H6
              rw [inV_nat]
              rw [List.getD_eq_getElem?_getD, hFj, Option.getD_some] at q6
              exact q6
          · intro H6 ys e6 hD6 hls
            have hys := LsAt.vals (f := fun j => .bl (decide (r ∈ F.getD j []))) hls
            have hys2 : ys = (F.map fun g => decide (r ∈ g)).map V.bl := by
              rw [hys, List.length_map]
              refine List.ext_getElem? fun j => ?_
              rw [List.getElem?_map, List.getElem?_map, List.getElem?_map]
              by_cases hj : j < F.length
              · rw [List.getElem?_range (by omega), List.getElem?_eq_getElem hj]
                show some (V.bl (decide (r ∈ F.getD j []))) = some (V.bl (decide (r ∈ F[j])))
                rw [List.getD_eq_getElem?_getD, List.getElem?_eq_getElem hj, Option.getD_some]
              · have h1 : F[j]? = none := List.getElem?_eq_none_iff.mpr (by omega)
                have h2 : (List.range as.length)[j]? = none := List.getElem?_eq_none_iff.mpr (by rw [List.length_range]; omega)
                rw [h1, h2] <;> rfl
            refine ⟨D6, _, rfl, (by rw [← hys2]; exact SqL.of hD6), _, rfl, ?_⟩
            have e8 : ((F.map fun g => decide (r ∈ g)).any id) = F.any fun g => decide (r ∈ g) := by
              rw [List.any_map] <;> rfl
            rw [e8]
            exact q5 H6 e6
        · intro r H5 e5 hrk _
          exact evQ_of fun Q5 q5 => ⟨_, rfl, q5⟩
        · intro H5 e5 hD5
          have ev : (List.range k).filter (fun r => F.any fun g => decide (r ∈ g)) = val k D (.node p (.tuple [.str "best", dN rsk]) ts) := by
            show _ = (List.range k).filter _
            refine List.filter_congr fun r hr => ?_
            have h1 : (F.any fun g => decide (r ∈ g)) = true ↔ r ∈ val k D (.node p (.tuple [.str "best", dN rsk]) ts) := by
              rw [← hit_val hD sF sO, List.any_eq_true]
              constructor
              · rintro ⟨g, hg, hrg⟩
                obtain ⟨y, hy, e⟩ := List.mem_iff_getElem.mp hg
                have hFy : F[y]? = some g := by rw [List.getElem?_eq_getElem hy, e]
                exact ⟨y, ((hFh y g hFy).2 r).mp (of_decide_eq_true hrg)⟩
              · rintro ⟨y, hh⟩
                have hyl : y < F.length := by
                  obtain ⟨ctx, hc, hg, _⟩ := hh
                  have h2 := (fitsW_iff.mp (mem_prodL.mp hc)).1
                  have h3 := (mem_goodX.mp hg).1
                  rw [List.length_map] at h2
                  omega
                have hFy : F[y]? = some F[y] := List.getElem?_eq_getElem hyl
                exact ⟨_, List.getElem_mem hyl, decide_eq_true (((hFh y _ hFy).2 r).mpr hh)⟩
            rw [mem_val_node] at h1
            have hrk := List.mem_range.mp hr
            rw [Bool.eq_iff_iff, h1]
            simp [hrk]
          rw [given_nat, ev] at hD5
          have il : nvs.length - 1 - m < lvs.length := by omega
          refine ⟨D5, _, rfl, .inl hD5, fun l H6 e6 hl6 => ?_⟩
          have e36 : Ex H3' H6 := (e4.trans e5).trans e6
          have hla6 := e36 _ _ hla3
          have hfd6 := e36 _ _ hfd3
          refine ⟨_, rfl, _, rfl, la, lvs, _, nvs.length - 1 - m, rfl, rfl, hla6, (by rw [ei]; exact Evl.ixN_nat il), ?_⟩
          refine ⟨_, rfl, _, rfl, _, rfl, fda, fvs, _, nvs.length - 1 - m, rfl, rfl, (by rw [upd_ne hne.symm]; exact hfd6), (by rw [ei]; exact Evl.ixN_nat (by omega)), ?_⟩
          have m1 : ∀ z, z ∈ [la] → z ∈ [la, fda] := fun z hz => by
            rw [List.mem_singleton] at hz
            rw [hz]; exact List.mem_cons_self
          have m2 : ∀ z, z ∈ [fda] → z ∈ [la, fda] := fun z hz => List.mem_cons_of_mem _ hz
          have k36 : ExS [la, fda] H6 (upd (upd H6 la (.lst (lvs.set (nvs.length - 1 - m) (.ref l)))) fda (.lst (fvs.set (nvs.length - 1 - m) (.ref fa)))) := (exS_mono exS_upd m1).trans (exS_mono exS_upd m2)
          have k68 : Kp H6 (upd (upd H6 la (.lst (lvs.set (nvs.length - 1 - m) (.ref l)))) fda (.lst (fvs.set (nvs.length - 1 - m) (.ref fa)))) := kp_exS k36 fun z hz => by
            rcases List.mem_cons.mp hz with rfl | hz
            · exact ⟨_, hla6⟩
            rw [List.mem_singleton] at hz
            subst hz
            exact ⟨_, hfd6⟩
          refine ⟨_, _, u6, u7, u8, _, _, rfl, (e3.trans (exS_ex e36)).trans k36, (by rw [upd_ne hne]; exact upd_same), by rw [List.length_set, hlv3], upd_same, by rw [List.length_set, hfv3], fun i v s' hi hv hlay' => ?_⟩
          by_cases q : i = nvs.length - 1 - m
          · subst q
            rw [List.getElem?_set_self il] at hv
            cases hv
            rw [(lay_det s' _ _ hlay' hlay).1]
            exact (td_nat hl6).kp k68
          · rw [List.getElem?_set_ne (Ne.symm q)] at hv
            exact (hOK i v s' (by omega) hv hlay').kp ((kp_ex e36).trans k68)
    · rintro σ H3 ⟨u4, u5, u6, u7, u8, lvs, fvs, rfl, e3, hla3, hlv3, hfd3, hfv3, hOK⟩
      rw [Nat.sub_self] at hOK
      refine ⟨_, rfl, _, rfl, by show 2 ≤ 100000; decide, fun p H4 np e4 hp => ?_⟩
      refine q p la _ lvs H4 (ex_fresh (((exS_ex f2).trans e3).trans (exS_ex e4)) fun z hz => ?_) hp (e4 _ _ hla3) (by omega) fun i v s h1 h2 h3 => (hOK i v s h1 h2 h3).ex e4
      rcases List.mem_cons.mp hz with rfl | hz
      · exact nla
      rw [List.mem_singleton] at hz
      subst hz
      exact nfd0
/-! ### value_lots, game_value -/
theorem sc_value_lots : FnScope ["game", "ends"] ["game", "ends"] (defScope (topS 77)) := ⟨rfl, rfl, rfl, by decide +kernel, rfl, by decide +kernel, by decide +kernel⟩
def spVL (K : PySem.W.Frag) : Sp := fun vs H Q _ => ∃ (x dx na ea : Addr) (k : Nat) (D : List Nat) (tv : V) (nvs : List V) (rs : List Rec) (es : List Nat) (t : Tr) (c : Ch), vs = [.ref x, .ref ea] ∧ H x = some (.ins (He.ga K "Game") dx (flG k tv na ea)) ∧
  H na = some (.tup nvs) ∧ H ea = some (.tup (vN es)) ∧ RecsAt K k H nvs rs ∧ Flat rs es t c ∧ t.Fit k ∧ Ord k D t ∧ DOk k D ∧ rs.length ≤ 1000 ∧
  ∀ la lvs H', Ex H H' → H' la = some (.lst lvs) → lvs.length = rs.length → LotsOk H' k D rs es 0 lvs → Q (.ref la) H'
theorem c_value_lots (T : Txt K mg w) : Cal P w K mg base CX0 7 "value_lots" ["game", "ends"] (spVL K) := by
  refine mkCal (T.d_value_lots) sc_value_lots (fun _ _ _ _ _ _ us hl => match us, hl with | [_, _], _ => rfl) (fun vs H Q E h => ?_) (fun f cdv A outer s H vs Q E hr h => ?_)
  · obtain ⟨x, dx, na, ea, k, D, tv, nvs, rs, es, t, c, rfl, _⟩ := h
    rfl
  · obtain ⟨x, dx, na, ea, k, D, tv, nvs, rs, es, t, c, rfl, hx, hna, hea, hR, hF, hFit, hO, hD, hz, q⟩ := h
    refine ⟨_, (pss_one (ps_ret (pe_ix (ix_tupK K) (pe_cal (c_walk_lots T) hr (by omega) (pa_cons (pv 0) (pa_cons (pv 1) pa_nil))) pe_int (fun _ _ => rfl)))), ?_⟩
    exact ⟨_, rfl, _, rfl, x, dx, na, ea, k, D, tv, nvs, rs, es, t, c, rfl, hx, hna, hea, hR, hF, hFit, hO, hD, hz, fun p la y lvs H' e hp hla hl hOK => ⟨p, _, 0, .ref la, rfl, rfl, SqT.of hp, atN (i := 0) rfl, q la lvs H' e hla hl hOK⟩⟩
theorem sc_game_value : FnScope ["game"] ["game"] (defScope (topS 78)) := ⟨rfl, rfl, rfl, by decide +kernel, rfl, by decide +kernel, by decide +kernel⟩
def spGV (K : PySem.W.Frag) : Sp := fun vs H Q _ => ∃ (gv : V) (k : Nat) (D : List Nat) (t : Tr), vs = [gv] ∧ GameAt K k H gv t ∧ t.Fit k ∧ Ord k D t ∧ DOk k D ∧ t.cnt ≤ 1000 ∧ ∀ v' H', Ex H H' → TD H' v' (dN (val k D t)) → Q v' H'
theorem c_game_value (T : Txt K mg w) : Cal P w K mg base CX0 8 "game_value" ["game"] (spGV K) := by
  refine mkCal (T.d_game_value) sc_game_value (fun _ _ _ _ _ _ us hl => match us, hl with | [_], _ => rfl) (fun vs H Q E h => ?_) (fun f cdv A outer s H vs Q E hr h => ?_)
  · obtain ⟨gv, k, D, t, rfl, _⟩ := h
    rfl
  · obtain ⟨gv, k, D, t, rfl, ⟨x, dx, na, ea, tv, nvs, rs, es, c, rfl, hx, hT, hna, hea, hR, hF⟩, hFit, hO, hD, hz, q⟩ := h
    refine ⟨_, (pss_cons (ps_if (pt_cmpR op_eq (pe_callB (cr_lenK K) (by rfl) T.z_len (by decide +kernel) (pa_cons (pe_fldK K (pv 0) rfl) pa_nil)) pe_int (nomark _))
      (pss_one (ps_ret (pe_tupX (pa_cons (pe_ix (ix_tupK K) (pe_fldK K (pv 0) rfl) pe_int (fun _ _ => rfl)) pa_nil))))
      pss_nil)
      (pss_one (ps_ret (pe_ix (ix_lstK K) (pe_cal (c_value_lots T) hr (by omega) (pa_cons (pv 0) (pa_cons (pe_fldK K (pv 0) rfl) pa_nil))) pe_int (fun _ _ => rfl))))), ?_⟩
    have hnl : nvs.length = t.cnt := by rw [hR.1, ← aims_len, ← hF.aims, List.length_map]
    cases t with
    | leaf r =>
      obtain ⟨e1, e2⟩ := leaf_flat hF
      subst e2
      refine ⟨.ref x, rfl, x, _, dx, _, .ref na, rfl, hx, T.c_Game, T.n_Game_nodes, rfl, na, nvs, rfl, .inr (SqT.of hna), rfl, true, ?_, iteT ?_⟩
      · rw [hnl] <;> rfl
      refine ⟨.ref x, rfl, x, _, dx, _, .ref ea, rfl, hx, T.c_Game, T.n_Game_ends, rfl, ea, _, 0, _, rfl, rfl, SqT.of hea, atN (i := 0) rfl, by show 1 ≤ 100000; decide, fun p H1 np e1 hp => ?_⟩
      exact q (.ref p) H1 e1 (td_nat (l := [r]) hp)
    | node p a ts =>
      have hc0 := hF.root p a ts rfl
      subst hc0
      refine ⟨.ref x, rfl, x, _, dx, _, .ref na, rfl, hx, T.c_Game, T.n_Game_nodes, rfl, na, nvs, rfl, .inr (SqT.of hna), rfl, false, ?_, iteF ?_⟩
      · rw [hnl]
        show V.bl (decide (V.int ((Tr.cnts ts + 1 : Nat) : Int) = V.int 0)) = V.bl false
        rw [decide_eq_false (fun z => by have := V.int.inj z; omega)]
      refine ⟨.ref x, rfl, .ref x, rfl, x, _, dx, _, .ref ea, rfl, hx, T.c_Game, T.n_Game_ends, rfl, x, dx, na, ea, k, D, tv, nvs, rs, es, _, _, rfl, hx, hna, hea, hR, hF, hFit, hO, hD, (by rw [← hR.1, hnl]; exact hz), fun la lvs H' e hla hl hOK => ?_⟩
      have h0 : 0 < lvs.length := by
        rw [hl, ← hR.1, hnl]
        exact Nat.succ_pos _
      have hv0 : lvs[0]? = some lvs[0] := List.getElem?_eq_getElem h0
      exact ⟨la, lvs, 0, _, rfl, rfl, SqL.of hla, atN hv0, q _ H' e (hOK 0 _ _ (Nat.le_refl _) hv0 hF.lay)⟩
end
end K69
namespace K69
open PySem PySem.Spec PyProof.Rows L2
open Evl (Ex given)
/-! ### duels -/
def dlR (up : Bool) : List Nat := if up then [0, 1] else [1, 0]
def dlA (up : Bool) : PyData := .tuple [.str "best", dN (dlR up)]
def Duel (t : Tr) : Prop := ∀ a ∈ t.aims, ∃ up, a = dlA up
theorem duel_ord {t : Tr} (h : Duel t) : Ord 2 [0, 1] t := fun a ha => by
  obtain ⟨up, e⟩ := h a ha
  refine ⟨dlR up, e, ?_, ?_, ?_⟩ <;> cases up <;> decide
theorem isD2 : IsD [0, 1] := fun d hd e he => by
  simp at hd ⊢
  omega
theorem dOk2 : DOk 2 [0, 1] := ⟨rfl, isD2, by decide, by decide⟩
def sideOf (a : PyData) : Nat := if rsOf a = [0, 1] then 1 else 0
theorem side_dl (up : Bool) : sideOf (dlA up) = if up then 1 else 0 := by
  unfold sideOf dlA
  rw [rsOf_best]
  cases up <;> decide
theorem top_bin {l : List Nat} (h : ∀ x ∈ l, x < 2) (hne : l ≠ []) : top l = if 1 ∈ l then 1 else 0 := by
  have h1 := h _ (top_mem hne)
  by_cases q : 1 ∈ l
  · rw [if_pos q]
    have := top_ge q
    omega
  · rw [if_neg q]
    have := top_mem hne
    by_cases e : top l = 1
    · rw [e] at this
      exact absurd this q
    · omega
theorem low_bin {l : List Nat} (h : ∀ x ∈ l, x < 2) (hne : l ≠ []) : low l = if 0 ∈ l then 0 else 1 := by
  have h1 := h _ (low_mem hne)
  by_cases q : 0 ∈ l
  · rw [if_pos q]
    have := low_le q
    omega
  · rw [if_neg q]
    have := low_mem hne
    by_cases e : low l = 0
    · rw [e] at this
      exact absurd this q
    · omega
theorem rk_two {t : Tr} (h : t.Fit 2) : rk [0, 1] t < 2 := by
  obtain ⟨h1, h2⟩ := val_props (D := [0, 1]) t h
  obtain ⟨r, rest, e⟩ := List.exists_cons_of_ne_nil h1
  have h3 := h2 r (by rw [e]; exact List.mem_cons_self)
  rw [← h3.2]
  match r, h3.1 with
  | 0, _ => decide
  | 1, _ => decide
/-- a duel's node: its side where some child is the side's, else the other -/
theorem rk_duel {p : Nat} {up : Bool} {ts : List Tr} (h : Tr.Fits 2 ts) (hne : ts ≠ []) : rk [0, 1] (.node p (dlA up) ts) = if (if up then 1 else 0) ∈ rks [0, 1] ts then (if up then 1 else 0) else 1 - (if up then 1 else 0) := by
  have hb : ∀ x ∈ rks [0, 1] ts, x < 2 := fun x hx => by
    rw [rks_map] at hx
    obtain ⟨t, ht, rfl⟩ := List.mem_map.mp hx
    exact rk_two (fits_mem.mp h t ht)
  have hn : rks [0, 1] ts ≠ [] := fun e => by
    rw [rks_map] at e
    exact hne (List.map_eq_nil_iff.mp e)
  show (if dn (rsOf (dlA up)) = [0, 1] then top (rks [0, 1] ts) else low (rks [0, 1] ts)) = _
  unfold dlA
  rw [rsOf_best]
  cases up with
  | true =>
    rw [if_pos (by decide), top_bin hb hn] <;> rfl
  | false =>
    rw [if_neg (by decide), low_bin hb hn] <;> rfl
theorem inV_non (l : List Nat) : inV .non (vN l) = false := by
  unfold inV
  rw [vN, List.any_map, List.any_eq_false]
  intro n _
  show ¬ (eqV (.int (n : Int)) .non = true)
  simp [eqV]
def Beh (wvs : List V) (es : List Nat) : Ch → V → Prop
  | .leaf j, u => ∃ r, es[j]? = some r ∧ u = .int ((r : Nat) : Int)
  | .node i, u => wvs[i]? = some u
def WinOk (rs : List Rec) (es : List Nat) (n : Nat) (wvs : List V) : Prop := ∀ (i : Nat) (v : V) (s : Tr), n ≤ i → wvs[i]? = some v → Lay rs es s (.node i) → v = .int ((rk [0, 1] s : Nat) : Int)
section
variable {P : Program} {w : World} {K : PySem.W.Frag} {mg : Str → Option Value} {base : Heap}
def spTB : Sp := fun vs H Q _ => ∃ (cv : V) (wa ea : Addr) (c : Ch) (wvs : List V) (es : List Nat) (u : V), vs = [cv, .ref wa, .ref ea] ∧ TD H cv c.dat ∧ H wa = some (.lst wvs) ∧ H ea = some (.tup (vN es)) ∧ Beh wvs es c u ∧ Q u H
theorem sc_told_behind : FnScope ["child", "told", "ends", "kind", "number"] ["child", "told", "ends"] (defScope (topS 66)) := ⟨rfl, rfl, rfl, by decide +kernel, rfl, by decide +kernel, by decide +kernel⟩
theorem c_told_behind (T : Txt K mg w) : Cal P w K mg base CX0 1 "told_behind" ["child", "told", "ends"] spTB := by
  refine mkCal (T.d_told_behind) sc_told_behind (fun _ _ _ _ _ _ us hl => match us, hl with | [_, _, _], _ => rfl) (fun vs H Q E h => ?_) (fun f cdv A outer s H vs Q E hr h => ?_)
  · obtain ⟨cv, wa, ea, c, wvs, es, u, rfl, _⟩ := h
    rfl
  · obtain ⟨cv, wa, ea, c, wvs, es, u, rfl, hT, hwa, hea, hu, q⟩ := h
    refine ⟨_, (pss_cons (ps_asg (pv 0) (pg_tup rfl (pgs_cons (pg_name (i := 3) sc_told_behind.nd rfl (Or.inl rfl)) (pgs_cons (pg_name (i := 4) sc_told_behind.nd rfl (Or.inl rfl)) pgs_nil))))
      (pss_cons (ps_if (pt_cmpR op_eq (pv 3) pe_str (nomark _))
      (pss_one (ps_ret (pe_ix (ix_tupK K) (pv 2) (pv 4) (fun _ _ => rfl))))
      pss_nil)
      (pss_one (ps_ret (pe_ix (ix_lstK K) (pv 1) (pv 4) (fun _ _ => rfl)))))), ?_⟩
    cases c with
    | leaf j =>
      obtain ⟨r, hj, rfl⟩ := hu
      obtain ⟨b, xs, rfl, hb, hxs⟩ := TD.tup_inv hT
      obtain ⟨x0, xs2, rfl, h0, hxs2⟩ := hxs.cons_inv
      cases h0.str_inv
      obtain ⟨x1, xs3, rfl, h1, hxs3⟩ := hxs2.cons_inv
      cases h1.int_inv
      cases hxs3.nil_inv
      refine ⟨_, rfl, b, _, rfl, SqT.of hb, rfl, _, _, rfl, _, _, rfl, rfl, ?_⟩
      refine ⟨_, rfl, rfl, true, by decide +kernel, iteT ?_⟩
      exact ⟨_, rfl, _, rfl, ea, _, _, _, rfl, rfl, SqT.of hea, atN (vN_at hj), q⟩
    | node j =>
      obtain ⟨b, xs, rfl, hb, hxs⟩ := TD.tup_inv hT
      obtain ⟨x0, xs2, rfl, h0, hxs2⟩ := hxs.cons_inv
      cases h0.str_inv
      obtain ⟨x1, xs3, rfl, h1, hxs3⟩ := hxs2.cons_inv
      cases h1.int_inv
      cases hxs3.nil_inv
      refine ⟨_, rfl, b, _, rfl, SqT.of hb, rfl, _, _, rfl, _, _, rfl, rfl, ?_⟩
      refine ⟨_, rfl, rfl, false, by decide +kernel, iteF ?_⟩
      exact ⟨_, rfl, _, rfl, wa, _, _, _, rfl, rfl, SqL.of hwa, atN hu, q⟩
/-! ### node_sides -/
def spNS (K : PySem.W.Frag) : Sp := fun vs H Q _ => ∃ (x dx na ea : Addr) (tv : V) (nvs : List V) (rs : List Rec), vs = [.ref x] ∧ H x = some (.ins (He.ga K "Game") dx (flG 2 tv na ea)) ∧
  H na = some (.tup nvs) ∧ RecsAt K 2 H nvs rs ∧ (∀ r ∈ rs, ∃ up, r.aim = dlA up) ∧ rs.length ≤ 1000 ∧ ∀ p H', Ex H H' → H' p = some (.tup (vN (rs.map fun r => sideOf r.aim))) → Q (.ref p) H'
theorem sc_node_sides : FnScope ["game", "sides", "i", "node", "term"] ["game"] (defScope (topS 65)) := ⟨rfl, rfl, rfl, by decide +kernel, rfl, by decide +kernel, by decide +kernel⟩
theorem c_node_sides (T : Txt K mg w) : Cal P w K mg base CX0 1 "node_sides" ["game"] (spNS K) := by
  refine mkCal (T.d_node_sides) sc_node_sides (fun _ _ _ _ _ _ us hl => match us, hl with | [_], _ => rfl) (fun vs H Q E h => ?_) (fun f cdv A outer s H vs Q E hr h => ?_)
  · obtain ⟨x, dx, na, ea, tv, nvs, rs, rfl, _⟩ := h
    rfl
  · obtain ⟨x, dx, na, ea, tv, nvs, rs, rfl, hx, hna, hR, hd, hz, q⟩ := h
    refine ⟨_, (pss_cons (ps_if (pt_cmpR op_ne (pe_fldK K (pv 0) rfl) pe_int (nomark _))
      (pss_one ps_never)
      pss_nil)
      (pss_cons (ps_set (i := 1) sc_node_sides.nd rfl (Or.inl rfl) (pe_lstX pa_nil))
      (pss_cons (ps_for PassesOwn.never rfl (pi_enumT (by rfl) T.z_enumerate (pa_cons (pe_fldK K (pv 0) rfl) pa_nil)) (pg_tup rfl (pgs_cons (pg_name (i := 2) sc_node_sides.nd rfl (Or.inl rfl)) (pgs_cons (pg_name (i := 3) sc_node_sides.nd rfl (Or.inl rfl)) pgs_nil)))
      (pss_cons (ps_set (i := 4) sc_node_sides.nd rfl (Or.inl rfl) (pe_fldK K (pe_fldK K (pv 3) rfl) rfl))
        (pss_cons (ps_if (PW.pt (pw_or (pt_cmpR op_ne (pe_ix (ix_tupK K) (pv 4) pe_int (fun _ _ => rfl)) pe_str (nomark _)) (pw_or1 (pt_cmpR op_eq (pe_ix (ix_tupK K) (pe_ix (ix_tupK K) (pv 4) pe_int (fun _ _ => rfl)) pe_int (fun _ _ => rfl)) (pe_ix (ix_tupK K) (pe_ix (ix_tupK K) (pv 4) pe_int (fun _ _ => rfl)) pe_int (fun _ _ => rfl)) (nomark _)))))
        (pss_one ps_never)
        pss_nil)
        (pss_one (ps_expr (pe_appX (pe_bm PySem.F.plainAttrs_list PySem.F.slot_list_append PySem.F.type_list_append mt_append (PE.up (pv 1)) (pa_cons (PE.up (pe_callTy call_int1 (by rfl) T.z_int (by decide +kernel) (pa_cons (pe_cmpR op_lt (pe_ix (ix_tupK K) (pe_ix (ix_tupK K) (pv 4) pe_int (fun _ _ => rfl)) pe_int (fun _ _ => rfl)) (pe_ix (ix_tupK K) (pe_ix (ix_tupK K) (pv 4) pe_int (fun _ _ => rfl)) pe_int (fun _ _ => rfl)) (nomark _)) pa_nil))) pa_nil))))))))
      (pss_one (ps_ret (pe_callTy call_tupX (by rfl) T.z_tuple (by decide +kernel) (pa_cons (pv 1) pa_nil))))))), ?_⟩
    refine ⟨.ref x, rfl, x, _, dx, _, _, rfl, hx, T.c_Game, T.n_Game_outcomes, rfl, rfl, false, rfl, iteF ?_⟩
    refine ⟨by show 0 ≤ 100000; decide, fun la H1 nla e1 hla => ?_⟩
    have hnl := hR.1
    refine ⟨.ref x, rfl, x, _, dx, _, .ref na, rfl, e1 _ _ hx, T.c_Game, T.n_Game_nodes, rfl, na, nvs, rfl, SqT.of (e1 _ _ hna), for_it (walk_enumT (xs := nvs)) (fun i σ H2 => ∃ (u2 u3 u4 : Option V), σ = [some (.ref x), some (.ref la), u2, u3, u4] ∧ ExS [la] H1 H2 ∧ H2 la = some (.lst (vN ((rs.take i).map fun r => sideOf r.aim)))) ⟨none, none, none, rfl, ExS.refl _ _, hla⟩ ?_ ?_ ?_⟩
    · rintro i σ H2 hi ⟨u2, u3, u4, rfl, e2, h2⟩
      exact SqT.of (ex_over nla e1 e2 _ _ hna)
    · rintro i iv σ H2 H3 hi ⟨u2, u3, u4, rfl, e2, h2⟩ ⟨Tp, y1, y2, rfl, nT, rfl, e3, e4⟩
      cases e3
      have hri : rs[i]? = some rs[i] := List.getElem?_eq_getElem (by omega)
      have en : Ex H H2 := ex_over nla e1 e2
      obtain ⟨up, hup⟩ := hd rs[i] (List.getElem_mem _)
      have hRi := (hR.2 i y2 _ e4 hri).kp (kp_ex (en.trans (ex_upd (o := .tup [V.int (i : Int), y2]) nT)))
      obtain ⟨nx, ndx, ax, adx, wy, pl, tv', ch, rfl, hnx, hax, htv, hch⟩ := hRi
      rw [hup] at htv
      obtain ⟨b, xs, rfl, hb, hxs⟩ := TD.tup_inv htv
      obtain ⟨x0, xs2, rfl, h0, hxs2⟩ := hxs.cons_inv
      cases h0.str_inv
      obtain ⟨x1, xs3, rfl, h1, hxs3⟩ := hxs2.cons_inv
      cases hxs3.nil_inv
      obtain ⟨ra, rfl, hra⟩ := td_nat_inv h1
      refine ⟨Tp, _, rfl, SqT.of upd_same, rfl, _, _, rfl, _, _, rfl, rfl, ?_⟩
      refine ⟨.ref nx, rfl, nx, _, ndx, _, _, rfl, hnx, T.c_Node, T.n_Node_aim, rfl, ax, _, adx, _, _, rfl, hax, T.c_Aim, T.n_Aim_term, rfl, ?_⟩
      refine ⟨_, rfl, b, _, 0, _, rfl, rfl, SqT.of hb, atN (i := 0) rfl, rfl, false, by decide +kernel, iteF ?_⟩
      have h2' := ex_upd (o := .tup [V.int (i : Int), V.ref nx]) nT _ _ h2
      have g0 : (vN (dlR up))[0]? = some (.int (if up then 0 else 1)) := by cases up <;> rfl
      have g1 : (vN (dlR up))[1]? = some (.int (if up then 1 else 0)) := by cases up <;> rfl
      refine ⟨_, rfl, b, _, 1, _, rfl, rfl, SqT.of hb, atN (i := 1) rfl, ra, _, 0, _, rfl, rfl, SqT.of hra, atN (i := 0) g0, _, rfl, b, _, 1, _, rfl, rfl, SqT.of hb, atN (i := 1) rfl, ra, _, 1, _, rfl, rfl, SqT.of hra, atN (i := 1) g1, rfl, false, by cases up <;> rfl, iteF ?_⟩
      refine ⟨.ref la, rfl, la, rfl, ⟨_, h2'⟩, _, rfl, b, _, 1, _, rfl, rfl, SqT.of hb, atN (i := 1) rfl, ra, _, 0, _, rfl, rfl, SqT.of hra, atN (i := 0) g0, _, rfl, b, _, 1, _, rfl, rfl, SqT.of hb, atN (i := 1) rfl, ra, _, 1, _, rfl, rfl, SqT.of hra, atN (i := 1) g1, _, _, rfl, rfl, .inr ⟨_, rfl, _, h2', ?_, fun H4 e4 h4 => ?_⟩⟩
      · rw [vN_len, List.length_map, List.length_take]
        omega
      · refine ⟨_, _, _, rfl, (e2.trans (exS_ex (ex_upd nT))).trans e4, ?_⟩
        rw [h4, take_succ_of hri, List.map_append, vN, vN, List.map_append]
        show some (HO.lst (_ ++ [V.int (if (decide ((if up then (0 : Int) else 1) < (if up then 1 else 0))) then 1 else 0)])) = some (HO.lst (_ ++ [V.int ((sideOf rs[i].aim : Nat) : Int)]))
        rw [hup, side_dl]
        cases up <;> rfl
    · rintro σ H2 ⟨u2, u3, u4, rfl, e2, h2⟩
      rw [hnl, List.take_length] at h2
      exact ⟨_, rfl, la, _, rfl, .inl h2, fun p H3 e3 hp => q p H3 ((ex_over nla e1 e2).trans e3) hp⟩
end
end K69
namespace K69
open PySem PySem.Spec PyProof.Rows L2
open Evl (Ex given)
section
variable {P : Program} {w : World} {K : PySem.W.Frag} {mg : Str → Option Value} {base : Heap}
/-! ### node_winners -/
def spNW (K : PySem.W.Frag) : Sp := fun vs H Q _ => ∃ (x dx na ea sa : Addr) (tv : V) (nvs : List V) (rs : List Rec) (es : List Nat) (t : Tr) (c : Ch), vs = [.ref x, .ref sa, .ref ea] ∧ H x = some (.ins (He.ga K "Game") dx (flG 2 tv na ea)) ∧
  H na = some (.tup nvs) ∧ H ea = some (.tup (vN es)) ∧ RecsAt K 2 H nvs rs ∧ Flat rs es t c ∧ t.Fit 2 ∧ Duel t ∧ H sa = some (.tup (vN (rs.map fun r => sideOf r.aim))) ∧ rs.length ≤ 1000 ∧
  ∀ la wvs H', Ex H H' → H' la = some (.lst wvs) → wvs.length = rs.length → WinOk rs es 0 wvs → Q (.ref la) H'
theorem sc_node_winners : FnScope ["game", "sides", "ends", "winners", "i", "behind", "_", "child"] ["game", "sides", "ends"] (defScope (topS 67)) := ⟨rfl, rfl, rfl, by decide +kernel, rfl, by decide +kernel, by decide +kernel⟩
theorem c_node_winners (T : Txt K mg w) : Cal P w K mg base CX0 2 "node_winners" ["game", "sides", "ends"] (spNW K) := by
  refine mkCal (T.d_node_winners) sc_node_winners (fun _ _ _ _ _ _ us hl => match us, hl with | [_, _, _], _ => rfl) (fun vs H Q E h => ?_) (fun f cdv A outer s H vs Q E hr h => ?_)
  · obtain ⟨x, dx, na, ea, sa, tv, nvs, rs, es, t, c, rfl, _⟩ := h
    rfl
  · obtain ⟨x, dx, na, ea, sa, tv, nvs, rs, es, t, c, rfl, hx, hna, hea, hR, hF, hFit, hDu, hsa, hz, q⟩ := h
    refine ⟨_, (pss_cons (ps_set (i := 3) sc_node_winners.nd rfl (Or.inr rfl) (pe_lc (own := [("_", 6)]) rfl sc_node_winners.nd (pi_tupK K (pe_fldK K (pv 0) rfl)) (blkOk_by (by kernel_rfl)) (fun _ _ _ _ _ => (pg_name (i := 6) sc_node_winners.nd rfl (Or.inl rfl))) (fun _ _ _ _ _ => pts_nil) (fun _ _ _ _ _ => pe_non)))
      (pss_cons (ps_for PassesOwn.never rfl (pi_range3 rfl T.z_range (pa_cons (pe_op op_sub (pe_callB (cr_lenK K) (by rfl) T.z_len (by decide +kernel) (pa_cons (pe_fldK K (pv 0) rfl) pa_nil)) pe_int) (pa_cons (pe_un un_neg pe_int) (pa_cons (pe_un un_neg pe_int) pa_nil)))) (pg_name (i := 4) sc_node_winners.nd rfl (Or.inl rfl))
      (pss_cons (ps_setLc (i := 5) (own := [("child", 7)]) rfl sc_node_winners.nd rfl rfl (sw_true rfl rfl rfl (by decide +kernel)) (pi_tupK K (pe_fldK K (pe_ix (ix_tupK K) (pe_fldK K (pv 0) rfl) (pv 4) (fun _ _ => rfl)) rfl)) (blkOk_by (by kernel_rfl)) (fun _ _ _ _ _ => (pg_name (i := 7) sc_node_winners.nd rfl (Or.inl rfl))) (fun _ _ _ _ _ => pts_nil) (fun _ _ _ _ _ => (pe_cal (c_told_behind T) hr (by omega) (pa_cons (pv 7) (pa_cons (pv 3) (pa_cons (pv 2) pa_nil))))))
        (pss_one (ps_if (pt_cmpR (op_inK K) (pe_ix (ix_tupK K) (pv 1) (pv 4) (fun _ _ => rfl)) (pv 5) (by rfl))
        (pss_one (ps_asg (pe_ix (ix_tupK K) (pv 1) (pv 4) (fun _ _ => rfl)) (pg_sub (pv 3) (pv 4) set_list)))
        (pss_one (ps_if (pt_cmpR (op_ninK K) pe_non (pv 5) (by rfl))
          (pss_one (ps_asg (pe_op op_sub pe_int (pe_ix (ix_tupK K) (pv 1) (pv 4) (fun _ _ => rfl))) (pg_sub (pv 3) (pv 4) set_list)))
          pss_nil))))))
      (pss_one (ps_ret (pv 3))))), ?_⟩
    have hnl : nvs.length = rs.length := hR.1
    refine ⟨.ref x, rfl, x, _, dx, _, .ref na, rfl, hx, T.c_Game, T.n_Game_nodes, rfl, na, rfl, ⟨_, SqT.of hna⟩, fun la nla => lcm_tup (xs := nvs) (fun i y _ => True) (fun _ _ _ _ _ _ _ => trivial) nla (SqT.of hna) (by omega) (fun _ => rfl) ?_ ?_⟩
    · intro i y H1 e1 _ _ Q' q'
      exact q' _ H1 (Ex.refl _) trivial
    intro H1 wv0 e1 hla1 hl1
    refine ⟨.ref x, rfl, x, _, dx, _, .ref na, rfl, e1 _ _ hx, T.c_Game, T.n_Game_nodes, rfl, na, nvs, rfl, .inr (SqT.of (e1 _ _ hna)), _, _, rfl, rfl, _, rfl, _, rfl, _, _, _, nvs.length, rfl, ?_, ?_⟩
    · have := RgC.neg (i := (nvs.length : Int) - 1) (j := -1) (by omega) (by omega) (by omega) (by omega)
      rw [show ((nvs.length : Int) - 1 - -1).toNat = nvs.length by omega] at this
      exact this
    have ki : ∀ {H3 : Hp}, ExS [la] H1 H3 → Kp H1 H3 := fun e3 => kp_exS e3 fun z hz => by
      rw [List.mem_singleton] at hz
      subst hz
      exact ⟨_, hla1⟩
    refine for_it (walk_rangeC (lo := (nvs.length : Int) - 1) (c := -1) (n := nvs.length)) (fun m σ H3 => ∃ (u4 u5 u6 u7 : Option V) (wvs : List V), σ = [some (.ref x), some (.ref sa), some (.ref ea), some (.ref la), u4, u5, u6, u7] ∧ ExS [la] H1 H3 ∧ H3 la = some (.lst wvs) ∧ wvs.length = nvs.length ∧ WinOk rs es (nvs.length - m) wvs)
      ⟨none, none, none, none, wv0, rfl, ExS.refl _ _, hla1, hl1.1, fun i v s hi hv _ => ?_⟩ (fun _ _ _ _ _ => trivial) ?_ ?_
    · have := (List.getElem?_eq_some_iff.mp hv).1
      have := hl1.1
      omega
    · rintro m iv σ H3 H3' hm ⟨u4, u5, u6, u7, wvs, rfl, e3, hla3, hwv3, hOK⟩ ⟨eH, hiv⟩
      subst eH
      subst hiv
      have ei : (nvs.length : Int) - 1 + (m : Int) * -1 = ((nvs.length - 1 - m : Nat) : Int) := by omega
      obtain ⟨s, hs, hlay⟩ := hF.each (nvs.length - 1 - m) (by omega)
      have sF := sub_fit hFit hs
      have hvi : nvs[nvs.length - 1 - m]? = some nvs[nvs.length - 1 - m] := List.getElem?_eq_getElem (by omega)
      cases s with
      | leaf r => exact hlay.elim
      | node p a ts =>
        obtain ⟨cs, hri, hLL⟩ := hlay
        have hlay : Lay rs es (.node p a ts) (.node (nvs.length - 1 - m)) := ⟨cs, hri, hLL⟩
        obtain ⟨cl, cg⟩ := layL_iff.mp hLL
        have ham : a ∈ t.aims := by
          rw [← hF.aims]
          exact List.mem_map.mpr ⟨_, List.mem_of_getElem? hri, rfl⟩
        obtain ⟨up, rfl⟩ := hDu a ham
        have hRi := ((hR.kp (kp_ex e1)).kp (ki e3)).2 _ _ _ hvi hri
        obtain ⟨_, _, hn1, hn3, hFs⟩ := sF
        have hne : ts ≠ [] := fun z => by rw [z] at hn1; simp at hn1
        obtain ⟨nx, ndx, ax, adx, wy, pl, tv', ch, hnv, hnx, hax, htv, hch⟩ := hRi
        obtain ⟨ca, cvs, rfl, hca, hcvs⟩ := hch.tup_inv
        have hcl : cvs.length = ts.length := by
          rw [hcvs.len]
          show (cs.map Ch.dat).length = _
          rw [List.length_map, cl]
        have hea3 := (ki e3).tup (e1 _ _ hea)
        have hsa3 := (ki e3).tup (e1 _ _ hsa)
        refine ⟨.ref x, rfl, x, _, dx, _, .ref na, rfl, (ki e3).ins (e1 _ _ hx), T.c_Game, T.n_Game_nodes, rfl, _, rfl, na, _, _, _, rfl, rfl, SqT.of ((ki e3).tup (e1 _ _ hna)), (by rw [ei]; exact atN hvi), ?_⟩
        refine ⟨nx, _, ndx, _, .ref ca, hnv, hnx, T.c_Node, T.n_Node_children, rfl, ca, rfl, ⟨_, SqT.of hca⟩, fun ba nba => lcm_tup (xs := cvs) (fun j y _ => y = .int (((rks [0, 1] ts).getD j 0 : Nat) : Int)) (stD_val (f := fun j => .int (((rks [0, 1] ts).getD j 0 : Nat) : Int))) nba (SqT.of hca) (by omega) (fun _ => rfl) ?_ ?_⟩
        · intro j cv H4 e4 _ hcv
          obtain ⟨d, hd, hT⟩ := hcvs.at' hcv
          rw [List.getElem?_map] at hd
          cases hc : cs[j]? with
          | none =>
            have := (List.getElem?_eq_some_iff.mp hcv).1
            have := List.getElem?_eq_none_iff.mp hc
            omega
          | some c =>
            have hd' : (some c).map Ch.dat = some d := by rw [← hc]; exact hd
            have ed : c.dat = d := Option.some.inj hd'
            subst ed
            have hjl := (List.getElem?_eq_some_iff.mp hcv).1
            have htj : ts[j]? = some ts[j] := List.getElem?_eq_getElem (by omega)
            obtain ⟨k1, k2⟩ := cg j _ c htj hc
            have hrj : (rks [0, 1] ts).getD j 0 = rk [0, 1] ts[j] := getD_at (by rw [rks_map, List.getElem?_map, htj] <;> rfl)
            refine evQ_of fun Q' q' => ⟨_, rfl, _, rfl, _, rfl, cv, la, ea, c, wvs, es, _, rfl, hT.ex e4, e4 _ _ hla3, e4 _ _ hea3, ?_, q'⟩
            rw [hrj]
            cases c with
            | leaf i =>
              cases htt : ts[j] with
              | node p' a' ts' => rw [htt] at k1; exact k1.elim
              | leaf r =>
                rw [htt] at k1
                have hFj := fits_mem.mp hFs _ (List.mem_of_getElem? htj)
                rw [htt] at hFj
                have hr2 : r < 2 := hFj
                refine ⟨r, k1, ?_⟩
                show V.int ((([0, 1] : List Nat).getD r 0 : Nat) : Int) = _
                match r, hr2 with
                | 0, _ => rfl
                | 1, _ => rfl
            | node i =>
              have hi := k2 i rfl
              have hil : i < rs.length := by
                cases htt : ts[j] with
                | leaf r => rw [htt] at k1; exact k1.elim
                | node p' a' ts' =>
                  rw [htt] at k1
                  obtain ⟨cs', h1, _⟩ := k1
                  exact (List.getElem?_eq_some_iff.mp h1).1
              have hvj : wvs[i]? = some wvs[i] := List.getElem?_eq_getElem (by omega)
              have := hOK i _ _ (by omega) hvj k1
              show wvs[i]? = _
              rw [hvj, this]
        intro H4 ys e4 hba hls
        have eys : ys = vN (rks [0, 1] ts) := by
          rw [LsAt.vals (f := fun j => .int (((rks [0, 1] ts).getD j 0 : Nat) : Int)) hls, hcl]
          refine List.ext_getElem? fun j => ?_
          rw [List.getElem?_map, vN, List.getElem?_map]
          have hrl : (rks [0, 1] ts).length = ts.length := by rw [rks_map, List.length_map]
          by_cases hj : j < ts.length
          · rw [List.getElem?_range hj, at_getD (l := rks [0, 1] ts) (by omega)] <;> rfl
          · have h1 : (rks [0, 1] ts)[j]? = none := List.getElem?_eq_none_iff.mpr (by omega)
            have h2 : (List.range ts.length)[j]? = none := List.getElem?_eq_none_iff.mpr (by rw [List.length_range]; omega)
            rw [h1, h2] <;> rfl
        subst eys
        have hsi : (vN (rs.map fun r => sideOf r.aim))[nvs.length - 1 - m]? = some (.int (((if up then 1 else 0 : Nat)) : Int)) := by
          refine vN_at ?_
          rw [List.getElem?_map, hri]
          show some (sideOf (dlA up)) = _
          rw [side_dl]
        have hsa4 := e4 _ _ hsa3
        have hla4 := e4 _ _ hla3
        have il : nvs.length - 1 - m < wvs.length := by omega
        have hrk := rk_duel (p := p) (up := up) hFs hne
        have fin : ∀ (wi : Int), wi = ((rk [0, 1] (.node p (dlA up) ts) : Nat) : Int) → ∀ H5, H5 = upd H4 la (.lst (wvs.set (nvs.length - 1 - m) (.int wi))) → ExS [la] H1 H5 ∧ H5 la = some (.lst (wvs.set (nvs.length - 1 - m) (.int wi))) ∧ (wvs.set (nvs.length - 1 - m) (.int wi)).length = nvs.length ∧ WinOk rs es (nvs.length - (m + 1)) (wvs.set (nvs.length - 1 - m) (.int wi)) := by
          intro wi hwn H5 e5
          subst e5
          refine ⟨(e3.trans (exS_ex e4)).trans exS_upd, upd_same, by rw [List.length_set, hwv3], fun i v s' hi hv hlay' => ?_⟩
          by_cases q : i = nvs.length - 1 - m
          · subst q
            rw [List.getElem?_set_self il] at hv
            cases hv
            rw [hwn, (lay_det (k := 2) (D := [0, 1]) s' _ _ hlay' hlay).2]
          · rw [List.getElem?_set_ne (Ne.symm q)] at hv
            exact hOK i v s' (by omega) hv hlay'
        refine ⟨_, rfl, _, rfl, sa, _, _, _, rfl, rfl, SqT.of hsa4, (by rw [ei]; exact atN hsi), _, rfl, ba, _, rfl, .inl (SqL.of hba), rfl, vN_flat _, ?_⟩
        by_cases hin : (if up then 1 else 0) ∈ rks [0, 1] ts
        · refine ⟨true, ?_, iteT ?_⟩
          · show V.bl (inV (.int ((if up then 1 else 0 : Nat) : Int)) (vN (rks [0, 1] ts))) = V.bl true
            rw [inV_nat, decide_eq_true hin]
          rw [if_pos hin] at hrk
          obtain ⟨g1, g2, g3, g4⟩ := fin _ (by rw [hrk]) _ rfl
          refine ⟨_, rfl, _, rfl, sa, _, _, _, rfl, rfl, SqT.of hsa4, (by rw [ei]; exact atN hsi), _, rfl, _, rfl, la, wvs, _, nvs.length - 1 - m, rfl, rfl, hla4, (by rw [ei]; exact Evl.ixN_nat il), ?_⟩
          exact ⟨_, _, u6, u7, _, rfl, g1, g2, g3, g4⟩
        · refine ⟨false, ?_, iteF ?_⟩
          · show V.bl (inV (.int ((if up then 1 else 0 : Nat) : Int)) (vN (rks [0, 1] ts))) = V.bl false
            rw [inV_nat, decide_eq_false hin]
          rw [if_neg hin] at hrk
          refine ⟨_, rfl, ba, _, rfl, .inl (SqL.of hba), rfl, vN_flat _, true, ?_, iteT ?_⟩
          · show V.bl (!inV .non (vN (rks [0, 1] ts))) = V.bl true
            rw [inV_non] <;> rfl
          refine ⟨_, rfl, _, rfl, sa, _, _, _, rfl, rfl, SqT.of hsa4, (by rw [ei]; exact atN hsi), _, _, rfl, rfl, _, rfl, _, rfl, la, wvs, _, nvs.length - 1 - m, rfl, rfl, hla4, (by rw [ei]; exact Evl.ixN_nat il), ?_⟩
          have ew : (1 : Int) - ((if up then 1 else 0 : Nat) : Int) = ((1 - (if up then 1 else 0) : Nat) : Int) := by cases up <;> rfl
          obtain ⟨g1, g2, g3, g4⟩ := fin ((1 : Int) - ((if up then 1 else 0 : Nat) : Int)) (by rw [hrk, ew]) _ rfl
          exact ⟨_, _, u6, u7, _, rfl, g1, g2, g3, g4⟩
    · rintro σ H3 ⟨u4, u5, u6, u7, wvs, rfl, e3, hla3, hwv3, hOK⟩
      rw [Nat.sub_self] at hOK
      refine ⟨_, rfl, q la wvs H3 (ex_fresh ((exS_ex e1).trans e3) fun z hz => ?_) hla3 (by omega) hOK⟩
      rw [List.mem_singleton] at hz
      subst hz
      exact nla
end
end K69
namespace K69
open PySem PySem.Spec PyProof.Rows L2
open Evl (Ex given)
section
variable {P : Program} {w : World} {K : PySem.W.Frag} {mg : Str → Option Value} {base : Heap}
/-! ### root_winner, duel_winner -/
def spRW : Sp := fun vs H Q _ => ∃ (la ea : Addr) (wvs : List V) (es : List Nat) (u : V), vs = [.ref la, .ref ea] ∧ H la = some (.lst wvs) ∧ H ea = some (.tup (vN es)) ∧ (wvs = [] ∧ (∃ r, es[0]? = some r ∧ u = .int ((r : Nat) : Int)) ∨ wvs[0]? = some u) ∧ Q u H
theorem sc_root_winner : FnScope ["winners", "ends"] ["winners", "ends"] (defScope (topS 68)) := ⟨rfl, rfl, rfl, by decide +kernel, rfl, by decide +kernel, by decide +kernel⟩
theorem c_root_winner (T : Txt K mg w) : Cal P w K mg base CX0 1 "root_winner" ["winners", "ends"] spRW := by
  refine mkCal (T.d_root_winner) sc_root_winner (fun _ _ _ _ _ _ us hl => match us, hl with | [_, _], _ => rfl) (fun vs H Q E h => ?_) (fun f cdv A outer s H vs Q E hr h => ?_)
  · obtain ⟨la, ea, wvs, es, u, rfl, _⟩ := h
    rfl
  · obtain ⟨la, ea, wvs, es, u, rfl, hla, hea, hu, q⟩ := h
    refine ⟨_, (pss_cons (ps_if (pt_cmpR op_eq (pe_callB (cr_lenK K) (by rfl) T.z_len (by decide +kernel) (pa_cons (pv 0) pa_nil)) pe_int (nomark _))
      (pss_one (ps_ret (pe_ix (ix_tupK K) (pv 1) pe_int (fun _ _ => rfl))))
      pss_nil)
      (pss_one (ps_ret (pe_ix (ix_lstK K) (pv 0) pe_int (fun _ _ => rfl))))), ?_⟩
    rcases hu with ⟨rfl, r, hr0, rfl⟩ | hu
    · refine ⟨_, rfl, la, _, rfl, .inl (SqL.of hla), rfl, true, rfl, iteT ?_⟩
      exact ⟨_, rfl, ea, _, 0, _, rfl, rfl, SqT.of hea, atN (i := 0) (vN_at hr0), q⟩
    · refine ⟨_, rfl, la, _, rfl, .inl (SqL.of hla), rfl, false, ?_, iteF ?_⟩
      · have := (List.getElem?_eq_some_iff.mp hu).1
        rw [decide_eq_false (fun z => by have := V.int.inj z; omega)]
      exact ⟨_, rfl, la, _, 0, _, rfl, rfl, SqL.of hla, atN (i := 0) hu, q⟩
def spDW (K : PySem.W.Frag) : Sp := fun vs H Q _ => ∃ (gv : V) (t : Tr), vs = [gv] ∧ GameAt K 2 H gv t ∧ t.Fit 2 ∧ Duel t ∧ t.cnt ≤ 1000 ∧ ∀ H', Ex H H' → Q (.int ((rk [0, 1] t : Nat) : Int)) H'
theorem sc_duel_winner : FnScope ["game"] ["game"] (defScope (topS 69)) := ⟨rfl, rfl, rfl, by decide +kernel, rfl, by decide +kernel, by decide +kernel⟩
theorem c_duel_winner (T : Txt K mg w) : Cal P w K mg base CX0 3 "duel_winner" ["game"] (spDW K) := by
  refine mkCal (T.d_duel_winner) sc_duel_winner (fun _ _ _ _ _ _ us hl => match us, hl with | [_], _ => rfl) (fun vs H Q E h => ?_) (fun f cdv A outer s H vs Q E hr h => ?_)
  · obtain ⟨gv, t, rfl, _⟩ := h
    rfl
  · obtain ⟨gv, t, rfl, ⟨x, dx, na, ea, tv, nvs, rs, es, c, rfl, hx, hT, hna, hea, hR, hF⟩, hFit, hDu, hz, q⟩ := h
    refine ⟨_, (pss_one (ps_ret (pe_cal (c_root_winner T) hr (by omega) (pa_cons (pe_cal (c_node_winners T) hr (by omega) (pa_cons (pv 0) (pa_cons (pe_cal (c_node_sides T) hr (by omega) (pa_cons (pv 0) pa_nil)) (pa_cons (pe_fldK K (pv 0) rfl) pa_nil)))) (pa_cons (pe_fldK K (pv 0) rfl) pa_nil))))), ?_⟩
    have hrl : rs.length = t.cnt := by rw [← aims_len, ← hF.aims, List.length_map]
    have hda : ∀ r ∈ rs, ∃ up, r.aim = dlA up := fun r hr => hDu _ (by rw [← hF.aims]; exact List.mem_map.mpr ⟨r, hr, rfl⟩)
    refine ⟨_, rfl, _, rfl, x, dx, na, ea, tv, nvs, rs, rfl, hx, hna, hR, hda, by omega, fun sa H1 e1 hsa => ?_⟩
    refine ⟨_, rfl, x, _, dx, _, .ref ea, rfl, e1 _ _ hx, T.c_Game, T.n_Game_ends, rfl, ?_⟩
    refine ⟨x, dx, na, ea, sa, tv, nvs, rs, es, t, c, rfl, e1 _ _ hx, e1 _ _ hna, e1 _ _ hea, hR.kp (kp_ex e1), hF, hFit, hDu, hsa, by omega, fun la wvs H2 e2 hla hwl hW => ?_⟩
    have e12 := e1.trans e2
    refine ⟨_, rfl, x, _, dx, _, .ref ea, rfl, e12 _ _ hx, T.c_Game, T.n_Game_ends, rfl, ?_⟩
    refine ⟨la, ea, wvs, es, _, rfl, hla, e12 _ _ hea, ?_, q H2 e12⟩
    cases t with
    | leaf r =>
      obtain ⟨z1, z2⟩ := leaf_flat hF
      subst z1 z2
      refine .inl ⟨List.length_eq_zero_iff.mp hwl, r, rfl, ?_⟩
      have hr2 : r < 2 := hFit
      show V.int ((([0, 1] : List Nat).getD r 0 : Nat) : Int) = _
      match r, hr2 with
      | 0, _ => rfl
      | 1, _ => rfl
    | node p a ts =>
      have hc0 := hF.root p a ts rfl
      subst hc0
      have h0 : 0 < wvs.length := by
        rw [hwl, hrl]
        exact Nat.succ_pos _
      have hv0 : wvs[0]? = some wvs[0] := List.getElem?_eq_getElem h0
      refine .inr ?_
      rw [hv0, hW 0 _ _ (Nat.le_refl _) hv0 hF.lay]
end
end K69
namespace K69
open PySem PySem.Spec PyProof.Rows L2
open Evl (Ex given)
/-! ### rows of numbers as data that is compared -/
theorem canLayN : ∀ l : List Nat, PyData.canLayAll0 (l.map fun n : Nat => PyData.int (n : Int)) = true
  | [] => by simp [PyData.canLayAll0]
  | _ :: r => by simp [PyData.canLayAll0, PyData.canLay0, canLayN r]
theorem depthN : ∀ l : List Nat, PyData.depthAll (l.map fun n : Nat => PyData.int (n : Int)) ≤ 1
  | [] => by simp [PyData.depthAll]
  | _ :: r => by
    have := depthN r
    simp only [List.map_cons, PyData.depthAll, PyData.depth]
    omega
theorem depthN' (l : List Nat) : PyData.depth (dN l) ≤ 2 := by
  have := depthN l
  simp only [PyData.depth]
  omega
theorem layN (l : List Nat) : PyData.canLay0 (dN l) = true := by
  simp only [PyData.canLay0]
  exact canLayN l
theorem shapedN (l : List Nat) : SeqAt.shaped (dN l) = true := by
  have := depthN' l
  show (PyData.canLay0 (dN l) && decide (PyData.depth (dN l) ≤ 64)) = true
  rw [layN l, decide_eq_true (by omega)] <;> rfl
theorem shapedT2 (a b : List Nat) : SeqAt.shaped (.tuple [dN a, dN b]) = true := by
  have h1 := depthN' a
  have h2 := depthN' b
  show (PyData.canLay0 (.tuple [dN a, dN b]) && decide (PyData.depth (.tuple [dN a, dN b]) ≤ 64)) = true
  have h3 : PyData.canLay0 (.tuple [dN a, dN b]) = true := by
    simp only [PyData.canLay0, PyData.canLayAll0]
    have := canLayN a
    have := canLayN b
    simp [*]
  have h4 : PyData.depth (.tuple [dN a, dN b]) ≤ 64 := by
    simp only [PyData.depth, PyData.depthAll] at h1 h2 ⊢
    omega
  rw [h3, decide_eq_true h4] <;> rfl
theorem shapedL2 (a b : List Nat) : SeqAt.shaped (.list [dN a, dN b]) = true := by
  have h1 := depthN' a
  have h2 := depthN' b
  show (PyData.canLay0 (.list [dN a, dN b]) && decide (PyData.depth (.list [dN a, dN b]) ≤ 64)) = true
  have h3 : PyData.canLay0 (.list [dN a, dN b]) = true := by
    simp only [PyData.canLay0, PyData.canLayAll0]
    have := canLayN a
    have := canLayN b
    simp [*]
  have h4 : PyData.depth (.list [dN a, dN b]) ≤ 64 := by
    simp only [PyData.depth, PyData.depthAll] at h1 h2 ⊢
    omega
  rw [h3, decide_eq_true h4] <;> rfl
theorem eqvAllN : ∀ a b : List Nat, PyData.eqvAll (a.map fun n : Nat => PyData.int (n : Int)) (b.map fun n : Nat => PyData.int (n : Int)) = decide (a = b)
  | [], [] => by simp [PyData.eqvAll]
  | [], _ :: _ => by simp [PyData.eqvAll]
  | _ :: _, [] => by simp [PyData.eqvAll]
  | x :: a, y :: b => by
    simp only [List.map_cons, PyData.eqvAll, PyData.eqv, eqvAllN a b]
    by_cases h : x = y <;> by_cases h' : a = b <;> simp [h, h'] <;> omega
theorem eqvN (a b : List Nat) : PyData.eqv (dN a) (dN b) = decide (a = b) := by
  simp only [PyData.eqv]
  exact eqvAllN a b
/-! ### the tree of a threshold -/
mutual
def thr (row : List Nat) (b : Int) : Tr → Tr
  | .leaf r => .leaf (if b ≤ ((row.getD r 0 : Nat) : Int) then 1 else 0)
  | .node p a ts => .node p (dlA (decide (dn (rsOf a) = dn row))) (thrs row b ts)
def thrs (row : List Nat) (b : Int) : List Tr → List Tr
  | [] => []
  | t :: ts => thr row b t :: thrs row b ts
end
theorem thrs_map (row : List Nat) (b : Int) : ∀ ts : List Tr, thrs row b ts = ts.map (thr row b)
  | [] => rfl
  | t :: ts => by
    show thr row b t :: thrs row b ts = thr row b t :: ts.map (thr row b)
    rw [thrs_map row b ts]
theorem aimOk_dl (up : Bool) : AimOk 2 3 (dlA up) := AimOk.best (by cases up <;> rfl) (by cases up <;> decide)
theorem thr_fit {k : Nat} {row : List Nat} {b : Int} (t : Tr) : t.Fit k → (thr row b t).Fit 2 := by
  refine Tr.ind (C := fun t => t.Fit k → (thr row b t).Fit 2) (fun r h => ?_) (fun p a ts ih h => ?_) t
  · show (if b ≤ ((row.getD r 0 : Nat) : Int) then 1 else 0) < 2
    split <;> decide
  · obtain ⟨h1, _, h3, h4, h5⟩ := h
    refine ⟨h1, aimOk_dl _, by rw [thrs_map, List.length_map]; exact h3, by rw [thrs_map, List.length_map]; exact h4, ?_⟩
    rw [thrs_map]
    refine fits_mem.mpr fun t ht => ?_
    obtain ⟨u, hu, rfl⟩ := List.mem_map.mp ht
    exact ih u hu (fits_mem.mp h5 u hu)
theorem thrs_aims {row : List Nat} {b : Int} {C : PyData → Prop} : ∀ {ts : List Tr}, (∀ t ∈ ts, ∀ a ∈ (thr row b t).aims, C a) → ∀ a ∈ Tr.aimss (thrs row b ts), C a
  | [], _, a, ha => by cases ha
  | t :: ts, h, a, ha => by
    have ha : a ∈ (thr row b t).aims ++ Tr.aimss (thrs row b ts) := ha
    rcases List.mem_append.mp ha with z | z
    · exact h t List.mem_cons_self a z
    · exact thrs_aims (fun t ht => h t (List.mem_cons_of_mem _ ht)) a z
theorem thr_duel {row : List Nat} {b : Int} (t : Tr) : Duel (thr row b t) := by
  refine Tr.ind (C := fun t => Duel (thr row b t)) (fun r a ha => by cases ha) (fun p a ts ih c hc => ?_) t
  rcases List.mem_cons.mp hc with e | hc
  · exact ⟨_, e⟩
  · exact thrs_aims (C := fun a => ∃ up, a = dlA up) ih c hc
theorem thrs_cnt {row : List Nat} {b : Int} : ∀ {ts : List Tr}, (∀ t ∈ ts, (thr row b t).cnt = t.cnt) → Tr.cnts (thrs row b ts) = Tr.cnts ts
  | [], _ => rfl
  | t :: ts, h => by
    show (thr row b t).cnt + Tr.cnts (thrs row b ts) = t.cnt + Tr.cnts ts
    rw [h t List.mem_cons_self, thrs_cnt fun t ht => h t (List.mem_cons_of_mem _ ht)]
theorem thr_cnt {row : List Nat} {b : Int} (t : Tr) : (thr row b t).cnt = t.cnt := by
  refine Tr.ind (C := fun t => (thr row b t).cnt = t.cnt) (fun r => rfl) (fun p a ts ih => ?_) t
  show Tr.cnts (thrs row b ts) + 1 = Tr.cnts ts + 1
  rw [thrs_cnt ih]
/-- a row of ranks whose order is D -/
structure Row (k : Nat) (D row : List Nat) : Prop where
  len : row.length = k
  lt : ∀ r ∈ row, r < 10
  dn : dn row = D
theorem Row.ok {k : Nat} {D row : List Nat} (h : Row k D row) (h1 : 1 ≤ k) (h4 : k ≤ 4) : DOk k D := ⟨by rw [← h.dn, dn_len, h.len], by rw [← h.dn]; exact dn_isD h.lt, h1, h4⟩
theorem Row.le {k : Nat} {D row : List Nat} (h : Row k D row) (hD : DOk k D) {r s : Nat} (hr : r < k) (hs : s < k) : D.getD r 0 ≤ D.getD s 0 ↔ row.getD r 0 ≤ row.getD s 0 := by
  have hl := h.len
  have hl2 := hD.len
  exact alike_of (fun _ => hD.lt) h.lt (by rw [hD.self, h.dn]) r s _ _ _ _ (at_getD (by omega)) (at_getD (by omega)) (at_getD (by omega)) (at_getD (by omega))
theorem Row.eq {k : Nat} {D row : List Nat} (h : Row k D row) (hD : DOk k D) {r s : Nat} (hr : r < k) (hs : s < k) : D.getD r 0 = D.getD s 0 ↔ row.getD r 0 = row.getD s 0 := by
  have h1 := h.le hD hr hs
  have h2 := h.le hD hs hr
  omega
theorem thr_rk {k : Nat} {D row : List Nat} {b : Int} (hR : Row k D row) (hD : DOk k D) (t : Tr) : t.Fit k → ∀ r ∈ val k D t, rk [0, 1] (thr row b t) = if b ≤ ((row.getD r 0 : Nat) : Int) then 1 else 0 := by
  refine Tr.ind (C := fun t => t.Fit k → ∀ r ∈ val k D t, rk [0, 1] (thr row b t) = if b ≤ ((row.getD r 0 : Nat) : Int) then 1 else 0) (fun r h x hx => ?_) (fun p a ts ih h x hx => ?_) t
  · have e : x = r := by simpa [val] using hx
    subst e
    show ([0, 1] : List Nat).getD (if b ≤ ((row.getD x 0 : Nat) : Int) then 1 else 0) 0 = _
    split <;> rfl
  · obtain ⟨_, _, h1, _, h2⟩ := h
    have hne : ts ≠ [] := fun e => by rw [e] at h1; simp at h1
    have hTF : Tr.Fits 2 (thrs row b ts) := by
      rw [thrs_map]
      refine fits_mem.mpr fun t ht => ?_
      obtain ⟨u, hu, rfl⟩ := List.mem_map.mp ht
      exact thr_fit u (fits_mem.mp h2 u hu)
    have hne2 : thrs row b ts ≠ [] := fun e => by
      rw [thrs_map] at e
      exact hne (List.map_eq_nil_iff.mp e)
    obtain ⟨xk, xv, xD⟩ := mem_val_node.mp hx
    obtain ⟨c, hc, hxc⟩ := mem_vals.mp xv
    have pc := ih c hc (fits_mem.mp h2 c hc) x hxc
    have hin : rk [0, 1] (thr row b c) ∈ rks [0, 1] (thrs row b ts) := by
      rw [rks_map, thrs_map, List.map_map]
      exact List.mem_map.mpr ⟨c, hc, rfl⟩
    rw [pc] at hin
    -- every child against x
    have all : ∀ u ∈ ts, ∃ y, y < k ∧ D.getD y 0 = rk D u ∧ rk [0, 1] (thr row b u) = if b ≤ ((row.getD y 0 : Nat) : Int) then 1 else 0 := fun u hu => by
      obtain ⟨g1, g2⟩ := val_props (D := D) u (fits_mem.mp h2 u hu)
      obtain ⟨y, rest, ey⟩ := List.exists_cons_of_ne_nil g1
      have hy : y ∈ val k D u := by rw [ey]; exact List.mem_cons_self
      exact ⟨y, (g2 y hy).1, (g2 y hy).2, ih u hu (fits_mem.mp h2 u hu) y hy⟩
    have hrn : rk [0, 1] (thr row b (.node p a ts)) = if dn (rsOf a) = D then top (rks [0, 1] (thrs row b ts)) else low (rks [0, 1] (thrs row b ts)) := by
      show (if dn (rsOf (dlA (decide (dn (rsOf a) = dn row)))) = [0, 1] then top (rks [0, 1] (thrs row b ts)) else low (rks [0, 1] (thrs row b ts))) = _
      rw [hR.dn]
      unfold dlA
      rw [rsOf_best]
      by_cases q : dn (rsOf a) = D
      · rw [decide_eq_true q, if_pos (by decide), if_pos q]
      · rw [decide_eq_false q, if_neg (by decide), if_neg q]
    rw [hrn]
    have hnn : rks [0, 1] (thrs row b ts) ≠ [] := fun e => by rw [e] at hin; cases hin
    have back : ∀ z ∈ rks [0, 1] (thrs row b ts), ∃ u ∈ ts, z = rk [0, 1] (thr row b u) := fun z hz => by
      rw [rks_map, thrs_map, List.map_map] at hz
      obtain ⟨u, hu, e⟩ := List.mem_map.mp hz
      exact ⟨u, hu, e.symm⟩
    have xD' : D.getD x 0 = if dn (rsOf a) = D then top (rks D ts) else low (rks D ts) := xD
    by_cases q : dn (rsOf a) = D
    · rw [if_pos q]
      rw [if_pos q] at xD'
      have h3 := top_ge hin
      obtain ⟨u, hu, e⟩ := back _ (top_mem hnn)
      obtain ⟨y, y1, y2, y3⟩ := all u hu
      have h4 : rk D u ≤ top (rks D ts) := top_ge (by rw [rks_map]; exact List.mem_map.mpr ⟨u, hu, rfl⟩)
      have h5 : row.getD y 0 ≤ row.getD x 0 := (hR.le hD y1 xk).mp (by omega)
      rw [y3] at e
      revert h3 e
      split <;> split <;> intro h3 e <;> omega
    · rw [if_neg q]
      rw [if_neg q] at xD'
      have h3 := low_le hin
      obtain ⟨u, hu, e⟩ := back _ (low_mem hnn)
      obtain ⟨y, y1, y2, y3⟩ := all u hu
      have h4 : low (rks D ts) ≤ rk D u := low_le (by rw [rks_map]; exact List.mem_map.mpr ⟨u, hu, rfl⟩)
      have h5 : row.getD x 0 ≤ row.getD y 0 := (hR.le hD xk y1).mp (by omega)
      rw [y3] at e
      revert h3 e
      split <;> split <;> intro h3 e <;> omega
/-- a duel's value is its winner alone -/
theorem val_two {t : Tr} (h : t.Fit 2) : val 2 [0, 1] t = [rk [0, 1] t] := by
  obtain ⟨h1, h2⟩ := val_props (D := [0, 1]) t h
  have key : ∀ r ∈ val 2 [0, 1] t, r = rk [0, 1] t := fun r hr => by
    obtain ⟨g1, g2⟩ := h2 r hr
    rw [← g2]
    match r, g1 with
    | 0, _ => rfl
    | 1, _ => rfl
  cases t with
  | leaf r => rw [← key r List.mem_cons_self] <;> rfl
  | node p a ts =>
    obtain ⟨q, hq⟩ : ∃ q : Nat → Bool, val 2 [0, 1] (.node p a ts) = (List.range 2).filter q := ⟨fun r => decide (r ∈ vals 2 [0, 1] ts) && decide (([0, 1] : List Nat).getD r 0 = rk [0, 1] (.node p a ts)), rfl⟩
    have e2 : List.range 2 = [0, 1] := rfl
    rw [hq, e2] at key h1 ⊢
    cases q0 : q 0 with
    | true =>
      cases q1 : q 1 with
      | true =>
        have k0 := key 0 (by simp [q0])
        have k1 := key 1 (by simp [q1])
        omega
      | false =>
        have k0 := key 0 (by simp [q0])
        rw [← k0]
        simp [q0, q1]
    | false =>
      cases q1 : q 1 with
      | true =>
        have k1 := key 1 (by simp [q1])
        rw [← k1]
        simp [q0, q1]
      | false => exact absurd (by simp [q0, q1]) h1
/-! ### the opposite order -/
theorem top_ag_sub {D : List Nat} : ∀ {l : List Nat}, l ≠ [] → (∀ x ∈ l, x ≤ top D) → low (l.map fun d => top D - d) = top D - top l := by
  intro l hne hb
  have h1 : low (l.map fun d => top D - d) ∈ l.map fun d => top D - d := low_mem fun e => hne (List.map_eq_nil_iff.mp e)
  obtain ⟨x, hx, e⟩ := List.mem_map.mp h1
  have h2 := top_ge hx
  have h3 : low (l.map fun d => top D - d) ≤ top D - top l := low_le (List.mem_map.mpr ⟨top l, top_mem hne, rfl⟩)
  have h4 := hb _ (top_mem hne)
  omega
theorem low_ag_sub {D : List Nat} : ∀ {l : List Nat}, l ≠ [] → (∀ x ∈ l, x ≤ top D) → top (l.map fun d => top D - d) = top D - low l := by
  intro l hne hb
  have h1 : top (l.map fun d => top D - d) ∈ l.map fun d => top D - d := top_mem fun e => hne (List.map_eq_nil_iff.mp e)
  obtain ⟨x, hx, e⟩ := List.mem_map.mp h1
  have h2 := low_le hx
  have h3 : top D - low l ≤ top (l.map fun d => top D - d) := top_ge (List.mem_map.mpr ⟨low l, low_mem hne, rfl⟩)
  have h4 := hb _ (low_mem hne)
  omega
theorem val_ag {k : Nat} {D : List Nat} (hD : DOk k D) (t : Tr) : t.Fit k → Ord k D t → val k (ag D) t = val k D t ∧ rk (ag D) t = top D - rk D t := by
  have hDne : D ≠ [] := fun e => by
    have h1 := hD.len
    have h2 := hD.one
    rw [e] at h1
    simp at h1
    omega
  have agd : ∀ r, r < k → (ag D).getD r 0 = top D - D.getD r 0 := fun r hr => getD_at (ag_at (at_getD (by rw [hD.len]; exact hr)))
  refine Tr.ind (C := fun t => t.Fit k → Ord k D t → val k (ag D) t = val k D t ∧ rk (ag D) t = top D - rk D t) (fun r h _ => ⟨rfl, agd r h⟩) (fun p a ts ih h ho => ?_) t
  obtain ⟨_, _, h1, _, h2⟩ := h
  have hne : ts ≠ [] := fun e => by rw [e] at h1; simp at h1
  have hk : rks (ag D) ts = (rks D ts).map fun d => top D - d := by
    rw [rks_map, rks_map, List.map_map]
    exact List.map_congr_left fun u hu => (ih u hu (fits_mem.mp h2 u hu) (ho.child hu)).2
  have hne2 : rks D ts ≠ [] := fun e => by
    rw [rks_map] at e
    exact hne (List.map_eq_nil_iff.mp e)
  have hb : ∀ x ∈ rks D ts, x ≤ top D := fun x hx => by
    rw [rks_map] at hx
    obtain ⟨u, hu, rfl⟩ := List.mem_map.mp hx
    obtain ⟨g1, g2⟩ := val_props (D := D) u (fits_mem.mp h2 u hu)
    obtain ⟨y, rest, ey⟩ := List.exists_cons_of_ne_nil g1
    have hy := g2 y (by rw [ey]; exact List.mem_cons_self)
    rw [← hy.2]
    exact top_ge (List.mem_of_getElem? (at_getD (by rw [hD.len]; exact hy.1)))
  have er : rk (ag D) (.node p a ts) = top D - rk D (.node p a ts) := by
    show (if dn (rsOf a) = ag D then top (rks (ag D) ts) else low (rks (ag D) ts)) = top D - (if dn (rsOf a) = D then top (rks D ts) else low (rks D ts))
    rw [hk]
    obtain ⟨rs, ea, _, _, hor⟩ := ho a List.mem_cons_self
    have ers : rsOf a = rs := by rw [ea, rsOf_best]
    rw [ers]
    by_cases q : D = ag D
    · -- all alike
      have hz : ∀ d ∈ D, d = 0 := fun d hd => by
        have h0 := isD_zero hD.isd hDne
        obtain ⟨i, hi, e⟩ := List.mem_iff_getElem.mp hd
        obtain ⟨j, hj, ej⟩ := List.mem_iff_getElem.mp h0
        have htop : top D = 0 := by
          have e1 : (ag D)[j]? = some (top D - 0) := ag_at (by rw [List.getElem?_eq_getElem hj, ej])
          rw [← q, List.getElem?_eq_getElem hj, ej] at e1
          have := Option.some.inj e1
          omega
        have := top_ge hd
        omega
      have ht0 : top D = 0 := hz _ (top_mem hDne)
      have all0 : ∀ x ∈ (rks D ts).map fun d => top D - d, x = 0 := fun x hx => by
        obtain ⟨d, hd, rfl⟩ := List.mem_map.mp hx
        omega
      have hm0 : ((rks D ts).map fun d => top D - d) ≠ [] := fun e => hne2 (List.map_eq_nil_iff.mp e)
      have z1 := all0 _ (top_mem hm0)
      have z2 := all0 _ (low_mem hm0)
      split <;> split <;> omega
    · rcases hor with e | e
      · rw [if_neg (fun z => q (e.symm.trans z)), if_pos e]
        exact top_ag_sub hne2 hb
      · rw [if_pos e, if_neg (fun z => q (z.symm.trans e))]
        exact low_ag_sub hne2 hb
  refine ⟨?_, er⟩
  show (List.range k).filter _ = (List.range k).filter _
  refine List.filter_congr fun r hr => ?_
  have hrk := List.mem_range.mp hr
  have ev : r ∈ vals k (ag D) ts ↔ r ∈ vals k D ts := by
    rw [mem_vals, mem_vals]
    constructor
    · rintro ⟨u, hu, hx⟩
      rw [(ih u hu (fits_mem.mp h2 u hu) (ho.child hu)).1] at hx
      exact ⟨u, hu, hx⟩
    · rintro ⟨u, hu, hx⟩
      rw [← (ih u hu (fits_mem.mp h2 u hu) (ho.child hu)).1] at hx
      exact ⟨u, hu, hx⟩
  rw [decide_eq_decide.mpr ev, er, agd r hrk]
  congr 1
  refine decide_eq_decide.mpr ?_
  have b1 : D.getD r 0 ≤ top D := top_ge (List.mem_of_getElem? (at_getD (by rw [hD.len]; exact hrk)))
  have b2 : rk D (.node p a ts) ≤ top D := by
    obtain ⟨u, hu, e⟩ := rk_node_mem (D := D) (p := p) (a := a) hne
    rw [← e]
    exact hb _ (by rw [rks_map]; exact List.mem_map.mpr ⟨u, hu, rfl⟩)
  omega
theorem ord_ag {k : Nat} {D : List Nat} (hD : DOk k D) {t : Tr} (h : Ord k D t) : Ord k (ag D) t := fun a ha => by
  obtain ⟨rs, e, h1, h2, h3⟩ := h a ha
  refine ⟨rs, e, h1, h2, ?_⟩
  have hDne : D ≠ [] := fun e => by
    have h1 := hD.len
    have h2 := hD.one
    rw [e] at h1
    simp at h1
    omega
  rcases h3 with h3 | h3
  · exact .inr (by rw [ag_ag hD.isd hDne]; exact h3)
  · exact .inl h3
end K69
namespace K69
open PySem PySem.Spec PyProof.Rows L2
open Evl (Ex given)
/-! ### a tree with one aim changed -/
mutual
def wa (i : Int) (b : PyData) : Tr → Tr
  | .leaf r => .leaf r
  | .node p a ts => if i < 0 then .node p a ts else if i = 0 then .node p b ts else .node p a (was (i - 1) b ts)
def was (i : Int) (b : PyData) : List Tr → List Tr
  | [] => []
  | t :: ts => wa i b t :: was (i - (t.cnt : Int)) b ts
end
theorem wa_neg {i : Int} {b : PyData} (h : i < 0) (t : Tr) : wa i b t = t := by
  cases t with
  | leaf r => rfl
  | node p a ts =>
    show (if i < 0 then Tr.node p a ts else _) = _
    rw [if_pos h]
theorem was_neg {b : PyData} : ∀ {ts : List Tr} {i : Int}, i < 0 → was i b ts = ts
  | [], _, _ => rfl
  | t :: ts, i, h => by
    show wa i b t :: was (i - (t.cnt : Int)) b ts = t :: ts
    rw [wa_neg h, was_neg (by omega)]
def setI (l : List PyData) (i : Int) (b : PyData) : List PyData := if i < 0 then l else l.set i.toNat b
theorem setI_app {l m : List PyData} {i : Int} {b : PyData} : setI l i b ++ setI m (i - (l.length : Int)) b = setI (l ++ m) i b := by
  unfold setI
  by_cases h : i < 0
  · rw [if_pos h, if_pos h, if_pos (by omega)]
  · rw [if_neg h, if_neg h]
    by_cases h2 : i.toNat < l.length
    · rw [if_pos (by omega), List.set_append_left _ _ h2]
    · rw [if_neg (by omega), List.set_append_right _ _ (by omega), List.set_eq_of_length_le (by omega)]
      rw [show (i - (l.length : Int)).toNat = i.toNat - l.length by omega]
theorem was_aims {b : PyData} : ∀ {ts : List Tr}, (∀ t ∈ ts, ∀ i, (wa i b t).aims = setI t.aims i b) → ∀ i, Tr.aimss (was i b ts) = setI (Tr.aimss ts) i b
  | [], _, i => by
    show [] = setI [] i b
    unfold setI
    split <;> rfl
  | t :: ts, h, i => by
    show (wa i b t).aims ++ Tr.aimss (was (i - (t.cnt : Int)) b ts) = setI (t.aims ++ Tr.aimss ts) i b
    rw [h t List.mem_cons_self, was_aims (fun t ht => h t (List.mem_cons_of_mem _ ht)), ← setI_app, aims_len]
theorem wa_aims {b : PyData} (t : Tr) : ∀ i, (wa i b t).aims = setI t.aims i b := by
  refine Tr.ind (C := fun t => ∀ i, (wa i b t).aims = setI t.aims i b) (fun r i => ?_) (fun p a ts ih i => ?_) t
  · show [] = setI [] i b
    unfold setI
    split <;> rfl
  · show (if i < 0 then Tr.node p a ts else if i = 0 then .node p b ts else .node p a (was (i - 1) b ts)).aims = setI (a :: Tr.aimss ts) i b
    unfold setI
    by_cases h : i < 0
    · rw [if_pos h, if_pos h] <;> rfl
    · rw [if_neg h, if_neg h]
      by_cases h0 : i = 0
      · rw [if_pos h0, h0] <;> rfl
      · rw [if_neg h0]
        show a :: Tr.aimss (was (i - 1) b ts) = _
        rw [was_aims ih, show i.toNat = (i - 1).toNat + 1 by omega, List.set_cons_succ]
        unfold setI
        rw [if_neg (by omega)]
theorem was_len {b : PyData} : ∀ {ts : List Tr} {i : Int}, (was i b ts).length = ts.length
  | [], _ => rfl
  | t :: ts, i => by
    show (was (i - (t.cnt : Int)) b ts).length + 1 = ts.length + 1
    rw [was_len]
theorem wa_cnt {b : PyData} (t : Tr) (i : Int) : (wa i b t).cnt = t.cnt := by
  rw [← aims_len, ← aims_len, wa_aims]
  unfold setI
  split
  · rfl
  · rw [List.length_set]
theorem was_fits {k : Nat} {b : PyData} : ∀ {ts : List Tr}, (∀ t ∈ ts, ∀ i, t.Fit k → (wa i b t).Fit k) → ∀ i, Tr.Fits k ts → Tr.Fits k (was i b ts)
  | [], _, _, _ => trivial
  | t :: ts, h, i, hf => ⟨h t List.mem_cons_self i hf.1, was_fits (fun t ht => h t (List.mem_cons_of_mem _ ht)) _ hf.2⟩
theorem wa_fit {k : Nat} {b : PyData} (hb : AimOk k 3 b) (t : Tr) : ∀ i, t.Fit k → (wa i b t).Fit k := by
  refine Tr.ind (C := fun t => ∀ i, t.Fit k → (wa i b t).Fit k) (fun r i h => h) (fun p a ts ih i h => ?_) t
  obtain ⟨h1, h2, h3, h4, h5⟩ := h
  show (if i < 0 then Tr.node p a ts else if i = 0 then .node p b ts else .node p a (was (i - 1) b ts)).Fit k
  split
  · exact ⟨h1, h2, h3, h4, h5⟩
  · split
    · exact ⟨h1, hb, h3, h4, h5⟩
    · exact ⟨h1, h2, by rw [was_len]; exact h3, by rw [was_len]; exact h4, was_fits ih _ h5⟩
theorem was_drop {b : PyData} : ∀ (ts : List Tr) (n : Nat) (i : Int), (was i b ts).drop n = was (i - (Tr.cnts (ts.take n) : Int)) b (ts.drop n)
  | ts, 0, i => by
    show was i b ts = was (i - ((Tr.cnts [] : Nat) : Int)) b ts
    rw [show i - ((Tr.cnts [] : Nat) : Int) = i by show i - ((0 : Nat) : Int) = i; omega]
  | [], n + 1, i => rfl
  | t :: ts, n + 1, i => by
    show (was (i - (t.cnt : Int)) b ts).drop n = was (i - ((t.cnt + Tr.cnts (ts.take n) : Nat) : Int)) b (ts.drop n)
    rw [was_drop, show i - (t.cnt : Int) - (Tr.cnts (ts.take n) : Int) = i - ((t.cnt + Tr.cnts (ts.take n) : Nat) : Int) by omega]
theorem was_at {b : PyData} {ts : List Tr} {n : Nat} {t : Tr} {i : Int} (h : ts[n]? = some t) : (was i b ts)[n]? = some (wa (i - (Tr.cnts (ts.take n) : Int)) b t) := by
  have h1 := was_drop (b := b) ts n i
  have h2 : ts.drop n = t :: ts.drop (n + 1) := by
    obtain ⟨hn, e⟩ := List.getElem?_eq_some_iff.mp h
    rw [List.drop_eq_getElem_cons hn, e]
  rw [h2] at h1
  have h3 : ((was i b ts).drop n)[0]? = some (wa (i - (Tr.cnts (ts.take n) : Int)) b t) := by rw [h1] <;> rfl
  rw [List.getElem?_drop] at h3
  exact h3
/-! ### wrong aims -/
def BadA (k : Nat) (D : List Nat) (b : PyData) : Prop := (∃ x r, b = .tuple (.str x :: r) ∧ x ≠ "best") ∨ ∃ rs : List Nat, b = .tuple [.str "best", dN rs] ∧ rs.length = k ∧ (∀ r ∈ rs, r < 10) ∧ dn rs ≠ D ∧ dn rs ≠ ag D
theorem dn_zeros (k : Nat) : dn (List.replicate k 0) = List.replicate k 0 := by
  unfold dn
  rw [List.map_replicate]
  congr 1
  unfold cnt
  rw [List.length_eq_zero_iff, List.filter_eq_nil_iff]
  intro s _
  simp
theorem ag_zeros (k : Nat) : ag (List.replicate k 0) = List.replicate k 0 := by
  unfold ag
  rw [List.map_replicate]
  congr 1
  by_cases h : List.replicate k (0 : Nat) = []
  · rw [h] <;> rfl
  · have := List.eq_of_mem_replicate (top_mem h)
    omega
theorem dn_ones {k : Nat} (h : 1 < k) : dn (0 :: List.replicate (k - 1) 1) ≠ List.replicate k 0 := fun e => by
  have hb : ∀ r ∈ 0 :: List.replicate (k - 1) 1, r < 10 := fun r hr => by
    rcases List.mem_cons.mp hr with z | z
    · omega
    · have := List.eq_of_mem_replicate z
      omega
  have h1 : (0 :: List.replicate (k - 1) 1)[1]? = some 1 := by
    show (List.replicate (k - 1) 1)[0]? = some 1
    rw [List.getElem?_replicate_of_lt (by omega)]
  have h2 := dn_at h1
  rw [e, List.getElem?_replicate_of_lt (by omega)] at h2
  have h3 := cnt_lt hb (x := 0) (y := 1) List.mem_cons_self (by omega)
  have := Option.some.inj h2
  omega
theorem zeros_both {k : Nat} {D : List Nat} (hD : DOk k D) (h : List.replicate k 0 = D ∨ List.replicate k 0 = ag D) : D = List.replicate k 0 ∧ ag D = List.replicate k 0 := by
  have hne : D ≠ [] := fun e => by
    have h1 := hD.len
    have h2 := hD.one
    rw [e] at h1
    simp at h1
    omega
  rcases h with h | h
  · exact ⟨h.symm, by rw [← h, ag_zeros]⟩
  · have : ag (ag D) = D := ag_ag hD.isd hne
    rw [← h, ag_zeros] at this
    exact ⟨this.symm, h.symm⟩
end K69
namespace K69
open PySem PySem.Spec PyProof.Rows L2
open Evl (Ex given)
theorem cut_from (xs : List V) (n : Nat) : cutV xs (some ((n : Nat) : Int)) none = xs.drop n := by
  unfold cutV
  rw [HT.sIx_nat, HT.sIx_none]
  by_cases h : n ≤ xs.length
  · rw [Nat.min_eq_left h]
    exact List.take_of_length_le (by rw [List.length_drop]; omega)
  · rw [Nat.min_eq_right (by omega), List.drop_eq_nil_of_le (Nat.le_refl _), List.drop_eq_nil_of_le (by omega), List.take_nil]
theorem cut_to (xs : List V) (n : Nat) : cutV xs none (some ((n : Nat) : Int)) = xs.take n := by
  unfold cutV
  rw [HT.sIx_nat, HT.sIx_none, List.drop_zero, Nat.sub_zero]
  by_cases h : n ≤ xs.length
  · rw [Nat.min_eq_left h]
  · rw [Nat.min_eq_right (by omega), List.take_of_length_le (Nat.le_refl _), List.take_of_length_le (by omega)]
theorem thr_dats (row : List Nat) (b : Int) (ts : List Tr) : Tr.dats (thrs row b ts) = ts.map fun t => (thr row b t).dat := by
  rw [dats_map, thrs_map, List.map_map] <;> rfl
section
variable {P : Program} {w : World} {K : PySem.W.Frag} {mg : Str → Option Value} {base : Heap}
/-! ### threshold_tree -/
def spTT (d : Nat) : Sp := fun vs H Q _ => ∃ (tv rv : V) (k : Nat) (D row : List Nat) (b : Int) (t : Tr), vs = [tv, rv, .int b] ∧ TD H tv t.dat ∧ TD H rv (dN row) ∧ t.Fit k ∧ Ord k D t ∧ Row k D row ∧ DOk k D ∧ t.dep < d ∧ ∀ v' H', Ex H H' → TD H' v' (thr row b t).dat → Q v' H'
theorem sc_threshold_tree : FnScope ["tree", "ranks", "least", "sides", "trees", "child"] ["tree", "ranks", "least"] (defScope (topS 70)) := ⟨rfl, rfl, rfl, by decide +kernel, rfl, by decide +kernel, by decide +kernel⟩
theorem c_threshold_tree (T : Txt K mg w) : ∀ d : Nat, Cal P w K mg base CX0 (d + 3) "threshold_tree" ["tree", "ranks", "least"] (spTT d) := by
  intro d
  induction d with
  | zero =>
    refine mkCal (T.d_threshold_tree) sc_threshold_tree (fun _ _ _ _ _ _ us hl => match us, hl with | [_, _, _], _ => rfl) (fun vs H Q E h => ?_) (fun f cdv A outer s H vs Q E hr h => ?_)
    · obtain ⟨tv, rv, k, D, row, b, t, rfl, _⟩ := h
      rfl
    · obtain ⟨tv, rv, k, D, row, b, t, rfl, _, _, _, _, _, _, hd, _⟩ := h
      omega
  | succ d ih =>
  refine mkCal (T.d_threshold_tree) sc_threshold_tree (fun _ _ _ _ _ _ us hl => match us, hl with | [_, _, _], _ => rfl) (fun vs H Q E h => ?_) (fun f cdv A outer s H vs Q E hr h => ?_)
  · obtain ⟨tv, rv, k, D, row, b, t, rfl, _⟩ := h
    rfl
  · obtain ⟨tv, rv, k, D, row, b, t, rfl, hT, hRv, hF, hO, hR, hD, hd, q⟩ := h
    obtain ⟨ra, rfl, hra⟩ := td_nat_inv hRv
    refine ⟨_, (pss_cons (ps_if (pt_cmpR op_eq (pe_ix (ix_tupK K) (pv 0) pe_int (fun _ _ => rfl)) pe_str (nomark _))
      (pss_one (ps_ret (pe_tupX (pa_cons pe_str (pa_cons (pe_callTy call_int1 (by rfl) T.z_int (by decide +kernel) (pa_cons (pe_cmpR op_ge (pe_ix (ix_tupK K) (pv 1) (pe_ix (ix_tupK K) (pv 0) pe_int (fun _ _ => rfl)) (fun _ _ => rfl)) (pv 2) (nomark _)) pa_nil)) pa_nil)))))
      pss_nil)
      (pss_cons (ps_set (i := 3) sc_threshold_tree.nd rfl (Or.inl rfl) (pe_tupX (pa_cons pe_int (pa_cons pe_int pa_nil))))
      (Evl.pss_cut (ps_if (pt_cmpR (op_eqDK K hr.units) (pe_cal (c_dense_ranks T) hr (by omega) (pa_cons (pe_ix (ix_tupK K) (pe_ix (ix_tupK K) (pv 0) pe_int (fun _ _ => rfl)) pe_int (fun _ _ => rfl)) pa_nil)) (pe_cal (c_dense_ranks T) hr (by omega) (pa_cons (pv 1) pa_nil)) (nomark _))
      (pss_one (ps_set (i := 3) sc_threshold_tree.nd rfl (Or.inl rfl) (pe_tupX (pa_cons pe_int (pa_cons pe_int pa_nil)))))
      pss_nil)
      (pss_cons (ps_setLc (i := 4) (own := [("child", 5)]) rfl sc_threshold_tree.nd rfl rfl (sw_true rfl rfl rfl (by decide +kernel)) (pi_tupK K (pe_slice sl_tupX (pv 0) (po_some pe_int) po_none)) (blkOk_by (by kernel_rfl)) (fun _ _ _ _ _ => (pg_name (i := 5) sc_threshold_tree.nd rfl (Or.inl rfl))) (fun _ _ _ _ _ => pts_nil) (fun _ _ _ _ _ => (pe_cal ih hr (by omega) (pa_cons (pv 5) (pa_cons (pv 1) (pa_cons (pv 2) pa_nil))))))
      (pss_one (ps_ret (pe_tupX (pa_cons pe_str (pa_cons (pe_ix (ix_tupK K) (pv 0) pe_int (fun _ _ => rfl)) (pa_cons (pe_tupX (pa_cons pe_str (pa_cons (pv 3) pa_nil))) (StX.pa_star (pv 4) pa_nil))))))))))), ?_⟩
    cases t with
    | leaf r =>
      obtain ⟨a, rfl, ha⟩ := leaf_inv hT
      have hrk : r < k := hF
      refine ⟨.ref a, rfl, a, _, 0, _, rfl, rfl, SqT.of ha, atN (i := 0) rfl, rfl, true, by decide +kernel, iteT ?_⟩
      refine ⟨.ref ra, rfl, .ref a, rfl, a, _, 1, _, rfl, rfl, SqT.of ha, atN (i := 1) rfl, ra, _, _, _, rfl, rfl, SqT.of hra, atN (vN_at (at_getD (by rw [hR.len]; exact hrk))), _, rfl, _, _, rfl, rfl, .inr ⟨_, rfl, ?_⟩⟩
      refine ⟨by show 2 ≤ 100000; decide, fun p H1 np e1 hp => q (.ref p) H1 e1 (.tup hp (.cons (.str _) (.cons ?_ .nil)))⟩
      have : (if decide (b ≤ ((row.getD r 0 : Nat) : Int)) = true then (1 : Int) else 0) = (((if b ≤ ((row.getD r 0 : Nat) : Int) then 1 else 0 : Nat)) : Int) := by
        by_cases z : b ≤ ((row.getD r 0 : Nat) : Int)
        · rw [decide_eq_true z, if_pos rfl, if_pos z] <;> rfl
        · rw [decide_eq_false z, if_neg (by decide), if_neg z] <;> rfl
      show TD H1 (.int (if decide (b ≤ ((row.getD r 0 : Nat) : Int)) = true then (1 : Int) else 0)) _
      rw [this]
      exact .int _
    | node p a ts =>
      obtain ⟨a', av, cvs, rfl, ha, hav, hcvs, hcl⟩ := node_inv hT
      obtain ⟨rs, rfl, hrl, hrb, hro⟩ := hO a List.mem_cons_self
      obtain ⟨hp8, hA, hn1, hn3, hFs⟩ := hF
      have hk1 := hD.one
      have hk4 := hD.four
      have hrl2 := hR.len
      refine ⟨.ref a', rfl, a', _, 0, _, rfl, rfl, SqT.of ha, atN (i := 0) rfl, rfl, false, by decide +kernel, iteF ?_⟩
      refine ⟨by show 2 ≤ 100000; decide, fun p1 H1 np1 e1 hp1 => ?_⟩
      obtain ⟨b1, xs, rfl, hb, hxs⟩ := TD.tup_inv hav
      obtain ⟨x0, xs2, rfl, h0, hxs2⟩ := hxs.cons_inv
      cases h0.str_inv
      obtain ⟨x1, xs3, rfl, h1, hxs3⟩ := hxs2.cons_inv
      cases hxs3.nil_inv
      refine ⟨fun σ H4 => ∃ p4, σ = [some (.ref a'), some (.ref ra), some (.int b), some (.ref p4), none, none] ∧ Ex H H4 ∧ H4 p4 = some (.tup (vN (dlR (decide (dn rs = dn row))))), ?_, ?_⟩
      · refine ⟨.ref a', rfl, a', _, 2, _, rfl, rfl, SqT.of (e1 _ _ ha), atN (i := 2) rfl, b1, _, 1, x1, rfl, rfl, SqT.of (e1 _ _ hb), atN (i := 1) rfl, x1, rs, rfl, h1.ex e1, by omega, by omega, hrb, fun d1 H2 e2 hd1 => ?_⟩
        have e12 := e1.trans e2
        refine ⟨.ref ra, rfl, .ref ra, row, rfl, td_nat (e12 _ _ hra), by omega, by omega, hR.lt, fun d2 H3 e3 hd2 => ?_⟩
        have e13 := e12.trans e3
        refine ⟨_, _, (hd1.ex e3).dp, hd2.dp, shapedN _, shapedN _, decide (dn rs = dn row), by rw [eqvN], ?_⟩
        by_cases hq : dn rs = dn row
        · rw [decide_eq_true hq]
          refine iteT ⟨by show 2 ≤ 100000; decide, fun p4 H4 np4 e4 hp4 => ⟨p4, rfl, e13.trans e4, hp4⟩⟩
        · rw [decide_eq_false hq]
          refine iteF ⟨p1, rfl, e13, (e2.trans e3) _ _ hp1⟩
      · rintro σ H4 ⟨p4, rfl, e4, hp4⟩
        refine ⟨.ref a', rfl, _, rfl, a', _, rfl, e4 _ _ ha, fun ca H5 e5 hca => ?_⟩
        have hca : H5 ca = some (.tup cvs) := by
          rw [show (some (3 : Int)) = some (((3 : Nat) : Int)) from rfl, cut_from] at hca
          exact hca
        have e45 := e4.trans e5
        refine ⟨ca, rfl, ⟨_, SqT.of hca⟩, fun D5 nD5 => lcm_tup (xs := cvs) (fun j y H => ∃ u, ts[j]? = some u ∧ TD H y (thr row b u).dat) (stD_kp fun j y H H' kk ⟨u, z1, z2⟩ => ⟨u, z1, z2.kp kk⟩) nD5 (SqT.of hca) (by omega) (fun _ => rfl) ?_ ?_⟩
        · intro j cv H6 e6 _ hcv
          obtain ⟨dd, hd2, hT2⟩ := hcvs.at' hcv
          rw [dats_map, List.getElem?_map] at hd2
          cases hu : ts[j]? with
          | none => rw [hu] at hd2; cases hd2
          | some u =>
            rw [hu] at hd2
            have ed : u.dat = dd := Option.some.inj hd2
            subst ed
            have hum := List.mem_of_getElem? hu
            have hdu : u.dep < d := by
              have h1 := deps_le hum
              have h2 : Tr.deps ts + 1 < d + 1 := hd
              omega
            intro Q' q'
            exact ⟨_, rfl, _, rfl, _, rfl, cv, .ref ra, k, D, row, b, u, rfl, hT2.ex (e45.trans e6), td_nat ((e45.trans e6) _ _ hra), fits_mem.mp hFs u hum, hO.child hum, hR, hD, hdu, fun v' H7 e7 hv => q' v' H7 e7 ⟨u, rfl, hv⟩⟩
        · intro H6 ys e6 hD6 hls
          have e46 := e45.trans e6
          refine ⟨.ref a', rfl, a', _, 1, _, rfl, rfl, SqT.of (e46 _ _ ha), atN (i := 1) rfl, _, rfl, by show 2 ≤ 100000; decide, fun p7 H7 np7 e7 hp7 => ?_⟩
          refine ⟨_, rfl, D5, ys, rfl, .inr (SqL.of (e7 _ _ hD6)), ?_⟩
          refine ⟨?_, fun p8 H8 np8 e8 hp8 => q (.ref p8) H8 (e46.trans (e7.trans e8)) (.tup hp8 (.cons (.str _) (.cons (.int _) (.cons (by rw [rsOf_best]; exact (TD.tup hp7 (.cons (.str _) (.cons (td_nat (e7 _ _ ((e5.trans e6) _ _ hp4))) .nil))).ex e8) ?_))))⟩
          · have := hls.1
            show (ys ++ []).length + 3 ≤ 100000
            rw [List.append_nil]
            omega
          · show TDs H8 (ys ++ []) _
            rw [List.append_nil, thr_dats]
            refine tds_of (by rw [hls.1, List.length_map, hcl]) fun j y dd h1 h2 => ?_
            obtain ⟨u, z1, z2⟩ := hls.2 j y h1
            rw [List.getElem?_map, z1] at h2
            have ed : (thr row b u).dat = dd := Option.some.inj h2
            rw [← ed]
            exact z2.ex (e7.trans e8)
end
end K69
namespace K69
open PySem PySem.Spec PyProof.Rows L2
open Evl (Ex given)
theorem cnts_sum : ∀ ts : List Tr, (ts.map fun t => (t.cnt : Int)).sum = (Tr.cnts ts : Int)
  | [] => rfl
  | t :: ts => by
    rw [List.map_cons, List.sum_cons, cnts_sum ts]
    show (t.cnt : Int) + (Tr.cnts ts : Int) = ((t.cnt + Tr.cnts ts : Nat) : Int)
    omega
section
variable {P : Program} {w : World} {K : PySem.W.Frag} {mg : Str → Option Value} {base : Heap}
/-! ### _law_threshold -/
def spLT (d : Nat) : Sp := fun vs H Q _ => ∃ (tv rv : V) (k : Nat) (D row : List Nat) (b : Int) (t : Tr), vs = [tv, rv, .int b] ∧ TD H tv t.dat ∧ TD H rv (dN row) ∧ t.Fit k ∧ Ord k D t ∧ Row k D row ∧ DOk k D ∧ t.dep < d ∧ ∀ v' H', Ex H H' → TD H' v' (thr row b t).dat → Q v' H'
theorem sc__law_threshold : FnScope ["_law_tree", "_law_ranks", "_law_bound", "_law_sides", "_law_child"] ["_law_tree", "_law_ranks", "_law_bound"] (defScope (topS 87)) := ⟨rfl, rfl, rfl, by decide +kernel, rfl, by decide +kernel, by decide +kernel⟩
theorem c__law_threshold (T : Txt K mg w) : ∀ d : Nat, Cal P w K mg base CX0 (d + 3) "_law_threshold" ["_law_tree", "_law_ranks", "_law_bound"] (spLT d) := by
  intro d
  induction d with
  | zero =>
    refine mkCal (T.d__law_threshold) sc__law_threshold (fun _ _ _ _ _ _ us hl => match us, hl with | [_, _, _], _ => rfl) (fun vs H Q E h => ?_) (fun f cdv A outer s H vs Q E hr h => ?_)
    · obtain ⟨tv, rv, k, D, row, b, t, rfl, _⟩ := h
      rfl
    · obtain ⟨tv, rv, k, D, row, b, t, rfl, _, _, _, _, _, _, hd, _⟩ := h
      omega
  | succ d ih =>
  refine mkCal (T.d__law_threshold) sc__law_threshold (fun _ _ _ _ _ _ us hl => match us, hl with | [_, _, _], _ => rfl) (fun vs H Q E h => ?_) (fun f cdv A outer s H vs Q E hr h => ?_)
  · obtain ⟨tv, rv, k, D, row, b, t, rfl, _⟩ := h
    rfl
  · obtain ⟨tv, rv, k, D, row, b, t, rfl, hT, hRv, hF, hO, hR, hD, hd, q⟩ := h
    obtain ⟨ra, rfl, hra⟩ := td_nat_inv hRv
    refine ⟨_, (pss_cons (ps_if (pt_cmpR op_eq (pe_ix (ix_tupK K) (pv 0) pe_int (fun _ _ => rfl)) pe_str (nomark _))
      (pss_one (ps_ret (pe_tupX (pa_cons pe_str (pa_cons (pe_callTy call_int1 (by rfl) T.z_int (by decide +kernel) (pa_cons (pe_cmpR op_ge (pe_ix (ix_tupK K) (pv 1) (pe_ix (ix_tupK K) (pv 0) pe_int (fun _ _ => rfl)) (fun _ _ => rfl)) (pv 2) (nomark _)) pa_nil)) pa_nil)))))
      pss_nil)
      (pss_cons (ps_set (i := 3) sc__law_threshold.nd rfl (Or.inl rfl) (pe_tupX (pa_cons pe_int (pa_cons pe_int pa_nil))))
      (Evl.pss_cut (ps_if (pt_cmpR (op_eqDK K hr.units) (pe_cal (c__law_dense T) hr (by omega) (pa_cons (pe_ix (ix_tupK K) (pe_ix (ix_tupK K) (pv 0) pe_int (fun _ _ => rfl)) pe_int (fun _ _ => rfl)) pa_nil)) (pe_cal (c__law_dense T) hr (by omega) (pa_cons (pv 1) pa_nil)) (nomark _))
      (pss_one (ps_set (i := 3) sc__law_threshold.nd rfl (Or.inl rfl) (pe_tupX (pa_cons pe_int (pa_cons pe_int pa_nil)))))
      pss_nil)
      (pss_one (ps_ret (pe_op op_catX (pe_tupX (pa_cons pe_str (pa_cons (pe_ix (ix_tupK K) (pv 0) pe_int (fun _ _ => rfl)) (pa_cons (pe_tupX (pa_cons pe_str (pa_cons (pv 3) pa_nil))) pa_nil)))) (pe_callTy call_tupX (by rfl) T.z_tuple (by decide +kernel) (pa_cons (pe_lc (own := [("_law_child", 4)]) rfl sc__law_threshold.nd (pi_tupK K (pe_slice sl_tupX (pv 0) (po_some pe_int) po_none)) (blkOk_by (by kernel_rfl)) (fun _ _ _ _ _ => (pg_name (i := 4) sc__law_threshold.nd rfl (Or.inl rfl))) (fun _ _ _ _ _ => pts_nil) (fun _ _ _ _ _ => (pe_cal ih hr (by omega) (pa_cons (pv 4) (pa_cons (pv 1) (pa_cons (pv 2) pa_nil)))))) pa_nil)))))))), ?_⟩
    cases t with
    | leaf r =>
      obtain ⟨a, rfl, ha⟩ := leaf_inv hT
      have hrk : r < k := hF
      refine ⟨.ref a, rfl, a, _, 0, _, rfl, rfl, SqT.of ha, atN (i := 0) rfl, rfl, true, by decide +kernel, iteT ?_⟩
      refine ⟨.ref ra, rfl, .ref a, rfl, a, _, 1, _, rfl, rfl, SqT.of ha, atN (i := 1) rfl, ra, _, _, _, rfl, rfl, SqT.of hra, atN (vN_at (at_getD (by rw [hR.len]; exact hrk))), _, rfl, _, _, rfl, rfl, .inr ⟨_, rfl, ?_⟩⟩
      refine ⟨by show 2 ≤ 100000; decide, fun p H1 np e1 hp => q (.ref p) H1 e1 (.tup hp (.cons (.str _) (.cons ?_ .nil)))⟩
      have : (if decide (b ≤ ((row.getD r 0 : Nat) : Int)) = true then (1 : Int) else 0) = (((if b ≤ ((row.getD r 0 : Nat) : Int) then 1 else 0 : Nat)) : Int) := by
        by_cases z : b ≤ ((row.getD r 0 : Nat) : Int)
        · rw [decide_eq_true z, if_pos rfl, if_pos z] <;> rfl
        · rw [decide_eq_false z, if_neg (by decide), if_neg z] <;> rfl
      show TD H1 (.int (if decide (b ≤ ((row.getD r 0 : Nat) : Int)) = true then (1 : Int) else 0)) _
      rw [this]
      exact .int _
    | node p a ts =>
      obtain ⟨a', av, cvs, rfl, ha, hav, hcvs, hcl⟩ := node_inv hT
      obtain ⟨rs, rfl, hrl, hrb, hro⟩ := hO a List.mem_cons_self
      obtain ⟨hp8, hA, hn1, hn3, hFs⟩ := hF
      have hk1 := hD.one
      have hk4 := hD.four
      have hrl2 := hR.len
      refine ⟨.ref a', rfl, a', _, 0, _, rfl, rfl, SqT.of ha, atN (i := 0) rfl, rfl, false, by decide +kernel, iteF ?_⟩
      refine ⟨by show 2 ≤ 100000; decide, fun p1 H1 np1 e1 hp1 => ?_⟩
      obtain ⟨b1, xs, rfl, hb, hxs⟩ := TD.tup_inv hav
      obtain ⟨x0, xs2, rfl, h0, hxs2⟩ := hxs.cons_inv
      cases h0.str_inv
      obtain ⟨x1, xs3, rfl, h1, hxs3⟩ := hxs2.cons_inv
      cases hxs3.nil_inv
      refine ⟨fun σ H4 => ∃ p4, σ = [some (.ref a'), some (.ref ra), some (.int b), some (.ref p4), none] ∧ Ex H H4 ∧ H4 p4 = some (.tup (vN (dlR (decide (dn rs = dn row))))), ?_, ?_⟩
      · refine ⟨.ref a', rfl, a', _, 2, _, rfl, rfl, SqT.of (e1 _ _ ha), atN (i := 2) rfl, b1, _, 1, x1, rfl, rfl, SqT.of (e1 _ _ hb), atN (i := 1) rfl, x1, rs, rfl, h1.ex e1, by omega, by omega, hrb, fun d1 H2 e2 hd1 => ?_⟩
        have e12 := e1.trans e2
        refine ⟨.ref ra, rfl, .ref ra, row, rfl, td_nat (e12 _ _ hra), by omega, by omega, hR.lt, fun d2 H3 e3 hd2 => ?_⟩
        have e13 := e12.trans e3
        refine ⟨_, _, (hd1.ex e3).dp, hd2.dp, shapedN _, shapedN _, decide (dn rs = dn row), by rw [eqvN], ?_⟩
        by_cases hq : dn rs = dn row
        · rw [decide_eq_true hq]
          refine iteT ⟨by show 2 ≤ 100000; decide, fun p4 H4 np4 e4 hp4 => ⟨p4, rfl, e13.trans e4, hp4⟩⟩
        · rw [decide_eq_false hq]
          refine iteF ⟨p1, rfl, e13, (e2.trans e3) _ _ hp1⟩
      · rintro σ H4 ⟨p4, rfl, e4, hp4⟩
        refine ⟨.ref a', rfl, a', _, 1, _, rfl, rfl, SqT.of (e4 _ _ ha), atN (i := 1) rfl, _, rfl, by show 2 ≤ 100000; decide, fun p7 H7 np7 e7 hp7 => ⟨by show 3 ≤ 100000; decide, fun p9 H9 np9 e9 hp9 => ?_⟩⟩
        have e49 := e4.trans (e7.trans e9)
        refine ⟨.ref a', rfl, _, rfl, a', _, rfl, e49 _ _ ha, fun ca H5 e5 hca => ?_⟩
        have hca : H5 ca = some (.tup cvs) := by
          rw [show (some (3 : Int)) = some (((3 : Nat) : Int)) from rfl, cut_from] at hca
          exact hca
        have e45 := e49.trans e5
        refine ⟨ca, rfl, ⟨_, SqT.of hca⟩, fun D5 nD5 => lcm_tup (xs := cvs) (fun j y H => ∃ u, ts[j]? = some u ∧ TD H y (thr row b u).dat) (stD_kp fun j y H H' kk ⟨u, z1, z2⟩ => ⟨u, z1, z2.kp kk⟩) nD5 (SqT.of hca) (by omega) (fun _ => rfl) ?_ ?_⟩
        · intro j cv H6 e6 _ hcv
          obtain ⟨dd, hd2, hT2⟩ := hcvs.at' hcv
          rw [dats_map, List.getElem?_map] at hd2
          cases hu : ts[j]? with
          | none => rw [hu] at hd2; cases hd2
          | some u =>
            rw [hu] at hd2
            have ed : u.dat = dd := Option.some.inj hd2
            subst ed
            have hum := List.mem_of_getElem? hu
            have hdu : u.dep < d := by
              have h1 := deps_le hum
              have h2 : Tr.deps ts + 1 < d + 1 := hd
              omega
            intro Q' q'
            exact ⟨_, rfl, _, rfl, _, rfl, cv, .ref ra, k, D, row, b, u, rfl, hT2.ex (e45.trans e6), td_nat ((e45.trans e6) _ _ hra), fits_mem.mp hFs u hum, hO.child hum, hR, hD, hdu, fun v' H7 e7 hv => q' v' H7 e7 ⟨u, rfl, hv⟩⟩
        · intro H6 ys e6 hD6 hls
          have e46 := e45.trans e6
          have hyl : ys.length = ts.length := by rw [hls.1, hcl]
          refine ⟨D5, ys, rfl, .inl hD6, fun l H7' e7' hl => ?_⟩
          refine ⟨p9, l, _, ys, rfl, rfl, e7' _ _ ((e5.trans e6) _ _ hp9), hl, by show 3 + ys.length ≤ 100000; omega, fun p8 H8 e8 hp8 => q (.ref p8) H8 ((e46.trans e7').trans e8) (.tup hp8 ?_)⟩
          have e98 : Ex H9 H8 := ((e5.trans e6).trans e7').trans e8
          refine .cons (.str _) (.cons (.int _) (.cons (by rw [rsOf_best]; exact (TD.tup (e9 _ _ hp7) (.cons (.str _) (.cons (td_nat ((e7.trans e9) _ _ hp4)) .nil))).ex e98) ?_))
          show TDs H8 ys _
          rw [thr_dats]
          refine tds_of (by rw [List.length_map, hyl]) fun j y dd h1 h2 => ?_
          obtain ⟨u, z1, z2⟩ := hls.2 j y h1
          rw [List.getElem?_map, z1] at h2
          have ed : (thr row b u).dat = dd := Option.some.inj h2
          rw [← ed]
          exact z2.ex (e7'.trans e8)
/-! ### _law_count -/
def spLC (d : Nat) : Sp := fun vs H Q _ => ∃ (tv : V) (t : Tr), vs = [tv] ∧ TD H tv t.dat ∧ t.dep < d ∧ (∀ p a ts, Sub (.node p a ts) t → ts.length ≤ 3) ∧ ∀ H', Ex H H' → Q (.int (t.cnt : Nat)) H'
theorem sc__law_count : FnScope ["_law_tree", "_law_child"] ["_law_tree"] (defScope (topS 88)) := ⟨rfl, rfl, rfl, by decide +kernel, rfl, by decide +kernel, by decide +kernel⟩
theorem c__law_count (T : Txt K mg w) : ∀ d : Nat, Cal P w K mg base CX0 (d + 1) "_law_count" ["_law_tree"] (spLC d) := by
  intro d
  induction d with
  | zero =>
    refine mkCal (T.d__law_count) sc__law_count (fun _ _ _ _ _ _ us hl => match us, hl with | [_], _ => rfl) (fun vs H Q E h => ?_) (fun f cdv A outer s H vs Q E hr h => ?_)
    · obtain ⟨tv, t, rfl, _⟩ := h
      rfl
    · obtain ⟨tv, t, rfl, _, hd, _⟩ := h
      omega
  | succ d ih =>
  refine mkCal (T.d__law_count) sc__law_count (fun _ _ _ _ _ _ us hl => match us, hl with | [_], _ => rfl) (fun vs H Q E h => ?_) (fun f cdv A outer s H vs Q E hr h => ?_)
  · obtain ⟨tv, t, rfl, _⟩ := h
    rfl
  · obtain ⟨tv, t, rfl, hT, hd, hS, q⟩ := h
    refine ⟨_, (pss_cons (ps_if (pt_cmpR op_eq (pe_ix (ix_tupK K) (pv 0) pe_int (fun _ _ => rfl)) pe_str (nomark _))
      (pss_one (ps_ret pe_int))
      pss_nil)
      (pss_one (ps_ret (pe_op op_add pe_int (pe_callB (cr_sumK K) (by rfl) T.z_sum (by decide +kernel) (pa_cons (pe_lc (own := [("_law_child", 1)]) rfl sc__law_count.nd (pi_tupK K (pe_slice sl_tupX (pv 0) (po_some pe_int) po_none)) (blkOk_by (by kernel_rfl)) (fun _ _ _ _ _ => (pg_name (i := 1) sc__law_count.nd rfl (Or.inl rfl))) (fun _ _ _ _ _ => pts_nil) (fun _ _ _ _ _ => (pe_cal ih hr (by omega) (pa_cons (pv 1) pa_nil)))) pa_nil)))))), ?_⟩
    cases t with
    | leaf r =>
      obtain ⟨a, rfl, ha⟩ := leaf_inv hT
      refine ⟨.ref a, rfl, a, _, 0, _, rfl, rfl, SqT.of ha, atN (i := 0) rfl, rfl, true, by decide +kernel, iteT ?_⟩
      exact q H (Ex.refl H)
    | node p a ts =>
      obtain ⟨a', av, cvs, rfl, ha, hav, hcvs, hcl⟩ := node_inv hT
      have h3 := hS p a ts (sub_refl _)
      refine ⟨.ref a', rfl, a', _, 0, _, rfl, rfl, SqT.of ha, atN (i := 0) rfl, rfl, false, by decide +kernel, iteF ?_⟩
      refine ⟨.ref a', rfl, _, rfl, a', _, rfl, ha, fun ca H5 e5 hca => ?_⟩
      have hca : H5 ca = some (.tup cvs) := by
        rw [show (some (3 : Int)) = some (((3 : Nat) : Int)) from rfl, cut_from] at hca
        exact hca
      refine ⟨ca, rfl, ⟨_, SqT.of hca⟩, fun D5 nD5 => lcm_tup (xs := cvs) (fun j y _ => y = .int (((ts.map Tr.cnt).getD j 0 : Nat) : Int)) (stD_val (f := fun j => .int (((ts.map Tr.cnt).getD j 0 : Nat) : Int))) nD5 (SqT.of hca) (by omega) (fun _ => rfl) ?_ ?_⟩
      · intro j cv H6 e6 _ hcv
        obtain ⟨dd, hd2, hT2⟩ := hcvs.at' hcv
        rw [dats_map, List.getElem?_map] at hd2
        cases hu : ts[j]? with
        | none => rw [hu] at hd2; cases hd2
        | some u =>
          rw [hu] at hd2
          have ed : u.dat = dd := Option.some.inj hd2
          subst ed
          have hum := List.mem_of_getElem? hu
          have hdu : u.dep < d := by
            have h1 := deps_le hum
            have h2 : Tr.deps ts + 1 < d + 1 := hd
            omega
          have hgd : (ts.map Tr.cnt).getD j 0 = u.cnt := getD_at (by rw [List.getElem?_map, hu] <;> rfl)
          rw [hgd]
          intro Q' q'
          exact ⟨_, rfl, cv, u, rfl, hT2.ex (e5.trans e6), hdu, fun p' b' us hs => hS p' b' us (sub_child hum hs), fun H7 e7 => q' _ H7 e7 rfl⟩
      · intro H6 ys e6 hD6 hls
        have eys : ys = (ts.map fun t => (t.cnt : Int)).map V.int := by
          rw [LsAt.vals (f := fun j => .int (((ts.map Tr.cnt).getD j 0 : Nat) : Int)) hls, hcl]
          refine List.ext_getElem? fun j => ?_
          rw [List.getElem?_map, List.getElem?_map, List.getElem?_map]
          by_cases hj : j < ts.length
          · have hu : ts[j]? = some ts[j] := List.getElem?_eq_getElem hj
            rw [List.getElem?_range hj, hu]
            show some (V.int (((ts.map Tr.cnt).getD j 0 : Nat) : Int)) = _
            rw [getD_at (n := ts[j].cnt) (by rw [List.getElem?_map, hu] <;> rfl)] <;> rfl
          · have h1 : ts[j]? = none := List.getElem?_eq_none_iff.mpr (by omega)
            have h2 : (List.range ts.length)[j]? = none := List.getElem?_eq_none_iff.mpr (by rw [List.length_range]; omega)
            rw [h1, h2] <;> rfl
        subst eys
        refine ⟨D5, _, rfl, SqL.of hD6, _, _, rfl, rfl, ?_⟩
        have e9 : (1 : Int) + (ts.map fun t => (t.cnt : Int)).sum = ((Tr.cnts ts + 1 : Nat) : Int) := by
          rw [cnts_sum]
          omega
        show Q (.int ((1 : Int) + (ts.map fun t => (t.cnt : Int)).sum)) H6
        rw [e9]
        exact q H6 (e5.trans e6)
end
end K69
namespace K69
open PySem PySem.Spec PyProof.Rows L2
open Evl (Ex given)
/-! ### the value as the law finds it -/
theorem min_is {l : List Nat} {m : Int} (hm : m ∈ l.map fun n : Nat => (n : Int)) (hle : ∀ y, y ∈ l.map (fun n : Nat => (n : Int)) → m ≤ y) : m = (low l : Nat) := by
  obtain ⟨n, hn, rfl⟩ := List.mem_map.mp hm
  have h1 := low_le hn
  have hne : l ≠ [] := fun e => by rw [e] at hn; cases hn
  have h2 := hle ((low l : Nat) : Int) (List.mem_map.mpr ⟨low l, low_mem hne, rfl⟩)
  have h2' : (n : Int) ≤ ((low l : Nat) : Int) := h2
  show (n : Int) = ((low l : Nat) : Int)
  omega
def tpv (k : Nat) (D row : List Nat) (t : Tr) : Nat := row.getD ((val k D t).getD 0 0) 0
def fnd (k : Nat) (D row : List Nat) (m : Nat) : List Tr → List Nat
  | [] => []
  | t :: ts => (if tpv k D row t = m then val k D t else []) ++ fnd k D row m ts
theorem mem_fnd {k : Nat} {D row : List Nat} {m r : Nat} : ∀ {ts : List Tr}, r ∈ fnd k D row m ts ↔ ∃ t ∈ ts, tpv k D row t = m ∧ r ∈ val k D t
  | [] => ⟨fun h => (by cases h), fun ⟨_, h, _⟩ => (by cases h)⟩
  | t :: ts => by
    show r ∈ (if tpv k D row t = m then val k D t else []) ++ fnd k D row m ts ↔ _
    rw [List.mem_append, mem_fnd (ts := ts)]
    constructor
    · rintro (h | ⟨u, hu, h⟩)
      · by_cases q : tpv k D row t = m
        · rw [if_pos q] at h
          exact ⟨t, List.mem_cons_self, q, h⟩
        · rw [if_neg q] at h
          cases h
      · exact ⟨u, List.mem_cons_of_mem _ hu, h⟩
    · rintro ⟨u, hu, q, h⟩
      rcases List.mem_cons.mp hu with e | hu
      · subst e
        rw [if_pos q]
        exact .inl h
      · exact .inr ⟨u, hu, q, h⟩
theorem fnd_snoc {k : Nat} {D row : List Nat} {m : Nat} : ∀ {ts : List Tr} {t : Tr}, fnd k D row m (ts ++ [t]) = fnd k D row m ts ++ (if tpv k D row t = m then val k D t else [])
  | [], t => by
    show (if tpv k D row t = m then val k D t else []) ++ [] = [] ++ _
    rw [List.append_nil, List.nil_append]
  | u :: ts, t => by
    show (if tpv k D row u = m then val k D u else []) ++ fnd k D row m (ts ++ [t]) = ((if tpv k D row u = m then val k D u else []) ++ fnd k D row m ts) ++ _
    rw [fnd_snoc, List.append_assoc]
theorem val_law {k : Nat} {D row rs : List Nat} {p : Nat} {ts : List Tr} (hR : Row k D row) (hD : DOk k D) (hF : Tr.Fit k (.node p (.tuple [.str "best", dN rs]) ts)) :
    (List.range k).filter (fun r => decide (r ∈ fnd k D row (if dn rs = dn row then top (ts.map (tpv k D row)) else low (ts.map (tpv k D row))) ts)) = val k D (.node p (.tuple [.str "best", dN rs]) ts) := by
  obtain ⟨_, _, h1, _, h2⟩ := hF
  have hne : ts ≠ [] := fun e => by rw [e] at h1; simp at h1
  -- the head of a child's value
  have hd : ∀ u ∈ ts, ∃ y, y < k ∧ D.getD y 0 = rk D u ∧ tpv k D row u = row.getD y 0 := fun u hu => by
    obtain ⟨g1, g2⟩ := val_props (D := D) u (fits_mem.mp h2 u hu)
    obtain ⟨y, rest, ey⟩ := List.exists_cons_of_ne_nil g1
    have hy : y ∈ val k D u := by rw [ey]; exact List.mem_cons_self
    refine ⟨y, (g2 y hy).1, (g2 y hy).2, ?_⟩
    unfold tpv
    rw [ey] <;> rfl
  have le : ∀ u ∈ ts, ∀ v ∈ ts, tpv k D row u ≤ tpv k D row v ↔ rk D u ≤ rk D v := fun u hu v hv => by
    obtain ⟨y, y1, y2, y3⟩ := hd u hu
    obtain ⟨z, z1, z2, z3⟩ := hd v hv
    rw [y3, z3, ← y2, ← z2]
    exact (hR.le hD y1 z1).symm
  have hmn : ts.map (tpv k D row) ≠ [] := fun e => hne (List.map_eq_nil_iff.mp e)
  have hrn : rks D ts ≠ [] := fun e => by
    rw [rks_map] at e
    exact hne (List.map_eq_nil_iff.mp e)
  have rkn : rk D (.node p (.tuple [.str "best", dN rs]) ts) = if dn rs = D then top (rks D ts) else low (rks D ts) := by
    show (if dn (rsOf _) = D then top (rks D ts) else low (rks D ts)) = _
    rw [rsOf_best]
  have key : ∀ u ∈ ts, tpv k D row u = (if dn rs = dn row then top (ts.map (tpv k D row)) else low (ts.map (tpv k D row))) ↔ rk D u = rk D (.node p (.tuple [.str "best", dN rs]) ts) := fun u hu => by
    rw [rkn, hR.dn]
    have in1 : tpv k D row u ∈ ts.map (tpv k D row) := List.mem_map.mpr ⟨u, hu, rfl⟩
    have in2 : rk D u ∈ rks D ts := by rw [rks_map]; exact List.mem_map.mpr ⟨u, hu, rfl⟩
    by_cases q : dn rs = D
    · rw [if_pos q, if_pos q]
      obtain ⟨v, hv, ev⟩ := List.mem_map.mp (top_mem hmn)
      have hw := top_mem hrn
      rw [rks_map] at hw
      obtain ⟨x, hx, ex⟩ := List.mem_map.mp hw
      rw [← rks_map] at ex
      have a1 := top_ge in1
      have a2 := top_ge in2
      have a3 : tpv k D row x ≤ top (ts.map (tpv k D row)) := top_ge (List.mem_map.mpr ⟨x, hx, rfl⟩)
      have a4 : rk D v ≤ top (rks D ts) := top_ge (by rw [rks_map]; exact List.mem_map.mpr ⟨v, hv, rfl⟩)
      have b1 := le x hx u hu
      have b2 := le v hv u hu
      omega
    · rw [if_neg q, if_neg q]
      obtain ⟨v, hv, ev⟩ := List.mem_map.mp (low_mem hmn)
      have hw := low_mem hrn
      rw [rks_map] at hw
      obtain ⟨x, hx, ex⟩ := List.mem_map.mp hw
      rw [← rks_map] at ex
      have a1 := low_le in1
      have a2 := low_le in2
      have a3 : low (ts.map (tpv k D row)) ≤ tpv k D row x := low_le (List.mem_map.mpr ⟨x, hx, rfl⟩)
      have a4 : low (rks D ts) ≤ rk D v := low_le (by rw [rks_map]; exact List.mem_map.mpr ⟨v, hv, rfl⟩)
      have b1 := le u hu x hx
      have b2 := le u hu v hv
      omega
  show _ = (List.range k).filter _
  refine List.filter_congr fun r hr => ?_
  rw [Bool.eq_iff_iff, Bool.and_eq_true, decide_eq_true_eq, decide_eq_true_eq, decide_eq_true_eq, mem_fnd, mem_vals]
  constructor
  · rintro ⟨u, hu, h3, h4⟩
    refine ⟨⟨u, hu, h4⟩, ?_⟩
    rw [((val_props (D := D) u (fits_mem.mp h2 u hu)).2 r h4).2]
    exact (key u hu).mp h3
  · rintro ⟨⟨u, hu, h4⟩, h5⟩
    rw [((val_props (D := D) u (fits_mem.mp h2 u hu)).2 r h4).2] at h5
    exact ⟨u, hu, (key u hu).mpr h5, h4⟩
section
variable {P : Program} {w : World} {K : PySem.W.Frag} {mg : Str → Option Value} {base : Heap}
/-! ### _law_value -/
def spLV (d : Nat) : Sp := fun vs H Q _ => ∃ (tv rv : V) (k : Nat) (D row : List Nat) (t : Tr), vs = [tv, rv] ∧ TD H tv t.dat ∧ TD H rv (dN row) ∧ t.Fit k ∧ Ord k D t ∧ Row k D row ∧ DOk k D ∧ t.dep < d ∧ ∀ a H', H a = none → Ex H H' → H' a = some (.lst (vN (val k D t))) → Q (.ref a) H'
theorem sc__law_value : FnScope ["_law_tree", "_law_ranks", "_law_values", "_law_tops", "_law_best", "_law_found", "_law_x", "_law_child", "_law_value_here", "_law_r"] ["_law_tree", "_law_ranks"] (defScope (topS 86)) := ⟨rfl, rfl, rfl, by decide +kernel, rfl, by decide +kernel, by decide +kernel⟩
theorem c__law_value (T : Txt K mg w) : ∀ d : Nat, Cal P w K mg base CX0 (d + 2) "_law_value" ["_law_tree", "_law_ranks"] (spLV d) := by
  intro d
  induction d with
  | zero =>
    refine mkCal (T.d__law_value) sc__law_value (fun _ _ _ _ _ _ us hl => match us, hl with | [_, _], _ => rfl) (fun vs H Q E h => ?_) (fun f cdv A outer s H vs Q E hr h => ?_)
    · obtain ⟨tv, rv, k, D, row, t, rfl, _⟩ := h
      rfl
    · obtain ⟨tv, rv, k, D, row, t, rfl, _, _, _, _, _, _, hd, _⟩ := h
      omega
  | succ d ih =>
  refine mkCal (T.d__law_value) sc__law_value (fun _ _ _ _ _ _ us hl => match us, hl with | [_, _], _ => rfl) (fun vs H Q E h => ?_) (fun f cdv A outer s H vs Q E hr h => ?_)
  · obtain ⟨tv, rv, k, D, row, t, rfl, _⟩ := h
    rfl
  · obtain ⟨tv, rv, k, D, row, t, rfl, hT, hRv, hF, hO, hR, hD, hd, q⟩ := h
    obtain ⟨ra, rfl, hra⟩ := td_nat_inv hRv
    refine ⟨_, (pss_cons (ps_if (pt_cmpR op_eq (pe_ix (ix_tupK K) (pv 0) pe_int (fun _ _ => rfl)) pe_str (nomark _))
      (pss_one (ps_ret (pe_lstX (pa_cons (pe_ix (ix_tupK K) (pv 0) pe_int (fun _ _ => rfl)) pa_nil))))
      pss_nil)
      (pss_cons (ps_setLc (i := 2) (own := [("_law_child", 7)]) rfl sc__law_value.nd rfl rfl (sw_true rfl rfl rfl (by decide +kernel)) (pi_tupK K (pe_slice sl_tupX (pv 0) (po_some pe_int) po_none)) (blkOk_by (by kernel_rfl)) (fun _ _ _ _ _ => (pg_name (i := 7) sc__law_value.nd rfl (Or.inl rfl))) (fun _ _ _ _ _ => pts_nil) (fun _ _ _ _ _ => (pe_cal ih hr (by omega) (pa_cons (pv 7) (pa_cons (pv 1) pa_nil)))))
      (pss_cons (ps_setLc (i := 3) (own := [("_law_value_here", 8)]) rfl sc__law_value.nd rfl rfl (sw_true rfl rfl rfl (by decide +kernel)) (pi_lstK K (pv 2)) (blkOk_by (by kernel_rfl)) (fun _ _ _ _ _ => (pg_name (i := 8) sc__law_value.nd rfl (Or.inl rfl))) (fun _ _ _ _ _ => pts_nil) (fun _ _ _ _ _ => (pe_ix (ix_tupK K) (pv 1) (pe_ix (ix_lstK K) (pv 8) pe_int (fun _ _ => rfl)) (fun _ _ => rfl))))
      (pss_cons (ps_set (i := 4) sc__law_value.nd rfl (Or.inl rfl) (pe_callB (cr_minK K) (by rfl) T.z_min (by decide +kernel) (pa_cons (pv 3) pa_nil)))
      (Evl.pss_cut (ps_if (pt_cmpR (op_eqDK K hr.units) (pe_cal (c__law_dense T) hr (by omega) (pa_cons (pe_ix (ix_tupK K) (pe_ix (ix_tupK K) (pv 0) pe_int (fun _ _ => rfl)) pe_int (fun _ _ => rfl)) pa_nil)) (pe_cal (c__law_dense T) hr (by omega) (pa_cons (pv 1) pa_nil)) (nomark _))
      (pss_one (ps_set (i := 4) sc__law_value.nd rfl (Or.inl rfl) (pe_callB (cr_maxK K) (by rfl) T.z_max (by decide +kernel) (pa_cons (pv 3) pa_nil))))
      pss_nil)
      (pss_cons (ps_set (i := 5) sc__law_value.nd rfl (Or.inr rfl) (pe_lstX pa_nil))
      (pss_cons (ps_for PassesOwn.never rfl (pi_range1 rfl T.z_range (pa_cons (pe_callB (cr_lenK K) (by rfl) T.z_len (by decide +kernel) (pa_cons (pv 2) pa_nil)) pa_nil)) (pg_name (i := 6) sc__law_value.nd rfl (Or.inl rfl))
      (pss_one (ps_if (pt_cmpR op_eq (pe_ix (ix_lstK K) (pv 3) (pv 6) (fun _ _ => rfl)) (pv 4) (nomark _))
        (pss_one (ps_set (i := 5) sc__law_value.nd rfl (Or.inr rfl) (pe_op op_catL (pv 5) (pe_ix (ix_lstK K) (pv 2) (pv 6) (fun _ _ => rfl)))))
        pss_nil)))
      (pss_one (ps_ret (pe_lc (own := [("_law_r", 9)]) rfl sc__law_value.nd (pi_range1 rfl T.z_range (pa_cons (pe_callB (cr_lenK K) (by rfl) T.z_len (by decide +kernel) (pa_cons (pv 1) pa_nil)) pa_nil)) (blkOk_by (by kernel_rfl)) (fun _ _ _ _ _ => (pg_name (i := 9) sc__law_value.nd rfl (Or.inl rfl))) (fun _ _ _ _ _ => (pts_one (pt_cmpR (op_inK K) (pv 9) (pv 5) (by rfl)))) (fun _ _ _ _ _ => (pv 9)))))))))))), ?_⟩
    cases t with
    | leaf r =>
      obtain ⟨a, rfl, ha⟩ := leaf_inv hT
      refine ⟨.ref a, rfl, a, _, 0, _, rfl, rfl, SqT.of ha, atN (i := 0) rfl, rfl, true, by decide +kernel, iteT ?_⟩
      exact ⟨.ref a, rfl, a, _, 1, _, rfl, rfl, SqT.of ha, atN (i := 1) rfl, by show 1 ≤ 100000; decide, fun p H1 np e1 hp => q p H1 np e1 hp⟩
    | node p a ts =>
      obtain ⟨a', av, cvs, rfl, ha, hav, hcvs, hcl⟩ := node_inv hT
      obtain ⟨rs, rfl, hrl, hrb, hro⟩ := hO a List.mem_cons_self
      have hF' := hF
      obtain ⟨hp8, hA, hn1, hn3, hFs⟩ := hF'
      have hk1 := hD.one
      have hk4 := hD.four
      have hrl2 := hR.len
      refine ⟨.ref a', rfl, a', _, 0, _, rfl, rfl, SqT.of ha, atN (i := 0) rfl, rfl, false, by decide +kernel, iteF ?_⟩
      -- the children's values
      refine ⟨.ref a', rfl, _, rfl, a', _, rfl, ha, fun ca H1 e1 hca => ?_⟩
      have hca : H1 ca = some (.tup cvs) := by
        rw [show (some (3 : Int)) = some (((3 : Nat) : Int)) from rfl, cut_from] at hca
        exact hca
      refine ⟨ca, rfl, ⟨_, SqT.of hca⟩, fun va nva => lcm_tup (xs := cvs) (fun j y H => ∃ b u, y = .ref b ∧ ts[j]? = some u ∧ b ≠ va ∧ H b = some (.lst (vN (val k D u)))) (fun j y H H' e _ ⟨b, u, z1, z2, z3, z4⟩ => ⟨b, u, z1, z2, z3, e _ _ z4 (by simpa using z3)⟩) nva (SqT.of hca) (by omega) (fun _ => rfl) ?_ ?_⟩
      · intro j cv H2 e2 hex hcv
        obtain ⟨dd, hd2, hT2⟩ := hcvs.at' hcv
        rw [dats_map, List.getElem?_map] at hd2
        cases hu : ts[j]? with
        | none => rw [hu] at hd2; cases hd2
        | some u =>
          rw [hu] at hd2
          have ed : u.dat = dd := Option.some.inj hd2
          subst ed
          have hum := List.mem_of_getElem? hu
          have hdu : u.dep < d := by
            have h1 := deps_le hum
            have h2 : Tr.deps ts + 1 < d + 1 := hd
            omega
          intro Q' q'
          refine ⟨_, rfl, _, rfl, cv, .ref ra, k, D, row, u, rfl, hT2.ex (e1.trans e2), td_nat ((e1.trans e2) _ _ hra), fits_mem.mp hFs u hum, hO.child hum, hR, hD, hdu, fun b H3 nb e3 hb => q' _ H3 e3 ⟨b, u, rfl, rfl, fun z => ?_, hb⟩⟩
          obtain ⟨ys, hys⟩ := hex
          rw [← z, nb] at hys
          cases hys
      intro H2 vys e2 hva hvl
      have e12 := e1.trans e2
      have hvlen : vys.length = ts.length := by rw [hvl.1, hcl]
      -- their ranks
      refine ⟨_, rfl, va, rfl, ⟨_, SqL.of hva⟩, fun pa npa => lcm_lst (xs := vys) (fun j y _ => y = .int (((ts.map (tpv k D row)).getD j 0 : Nat) : Int)) (stD_val (f := fun j => .int (((ts.map (tpv k D row)).getD j 0 : Nat) : Int))) npa (SqL.of hva) (by omega) (fun _ => rfl) ?_ ?_⟩
      · intro j y H3 e3 _ hy
        obtain ⟨b, u, rfl, hu, _, hb⟩ := hvl.2 j y hy
        have hgd : (ts.map (tpv k D row)).getD j 0 = tpv k D row u := getD_at (by rw [List.getElem?_map, hu] <;> rfl)
        obtain ⟨g1, g2⟩ := val_props (D := D) u (fits_mem.mp hFs u (List.mem_of_getElem? hu))
        have h0 : (val k D u)[0]? = some ((val k D u).getD 0 0) := at_getD (List.length_pos_iff.mpr g1)
        have hlt := (g2 _ (List.mem_of_getElem? h0)).1
        rw [hgd]
        exact evQ_of fun Q' q' => ⟨_, rfl, _, rfl, b, _, 0, _, rfl, rfl, SqL.of (e3 _ _ hb), atN (i := 0) (vN_at h0), ra, _, _, _, rfl, rfl, SqT.of (e3 _ _ (e12 _ _ hra)), atN (vN_at (at_getD (by omega))), q'⟩
      intro H3 tys e3 hpa htl
      have etys : tys = vN (ts.map (tpv k D row)) := by
        rw [LsAt.vals (f := fun j => .int (((ts.map (tpv k D row)).getD j 0 : Nat) : Int)) htl, hvlen]
        refine List.ext_getElem? fun j => ?_
        rw [List.getElem?_map, vN, List.getElem?_map]
        by_cases hj : j < ts.length
        · rw [List.getElem?_range hj, at_getD (l := ts.map (tpv k D row)) (by rw [List.length_map]; exact hj)] <;> rfl
        · have h1 : (ts.map (tpv k D row))[j]? = none := List.getElem?_eq_none_iff.mpr (by rw [List.length_map]; omega)
          have h2 : (List.range ts.length)[j]? = none := List.getElem?_eq_none_iff.mpr (by rw [List.length_range]; omega)
          rw [h1, h2] <;> rfl
      subst etys
      have e13 := e12.trans e3
      have tpos : 0 < ((ts.map (tpv k D row)).map fun n : Nat => (n : Int)).length := by rw [List.length_map, List.length_map]; exact hn1
      refine ⟨_, rfl, pa, _, rfl, (by rw [← vN_int]; exact SqL.of hpa), tpos, fun m hm hle => ?_⟩
      have em := min_is hm hle
      subst em
      -- the best
      obtain ⟨b1, xs, rfl, hb, hxs⟩ := TD.tup_inv hav
      obtain ⟨x0, xs2, rfl, h0, hxs2⟩ := hxs.cons_inv
      cases h0.str_inv
      obtain ⟨x1, xs3, rfl, h1, hxs3⟩ := hxs2.cons_inv
      cases hxs3.nil_inv
      refine ⟨fun σ H4 => ∃ u5 u6 u7 u8 u9 : Option V, σ = [some (.ref a'), some (.ref ra), some (.ref va), some (.ref pa), some (.int (((if dn rs = dn row then top (ts.map (tpv k D row)) else low (ts.map (tpv k D row))) : Nat) : Int)), u5, u6, u7, u8, u9] ∧ Ex H3 H4, ?_, ?_⟩
      · refine ⟨.ref a', rfl, a', _, 2, _, rfl, rfl, SqT.of (e13 _ _ ha), atN (i := 2) rfl, b1, _, 1, x1, rfl, rfl, SqT.of (e13 _ _ hb), atN (i := 1) rfl, x1, rs, rfl, h1.ex e13, by omega, by omega, hrb, fun d1 H4 e4 hd1 => ?_⟩
        refine ⟨.ref ra, rfl, .ref ra, row, rfl, td_nat ((e13.trans e4) _ _ hra), by omega, by omega, hR.lt, fun d2 H5 e5 hd2 => ?_⟩
        refine ⟨_, _, (hd1.ex e5).dp, hd2.dp, shapedN _, shapedN _, decide (dn rs = dn row), by rw [eqvN], ?_⟩
        by_cases hq : dn rs = dn row
        · rw [decide_eq_true hq, if_pos hq]
          refine iteT ⟨_, rfl, pa, _, rfl, (by rw [← vN_int]; exact SqL.of ((e4.trans e5) _ _ hpa)), tpos, fun m hm hle => ?_⟩
          have em := max_is hm hle
          subst em
          exact ⟨_, _, _, _, _, rfl, e4.trans e5⟩
        · rw [decide_eq_false hq, if_neg hq]
          exact iteF ⟨_, _, _, _, _, rfl, e4.trans e5⟩
      · rintro σ H4 ⟨u5, u6, u7, u8, u9, rfl, e4⟩
        have hvlw := val_law hR hD hF
        revert hvlw
        generalize (if dn rs = dn row then top (ts.map (tpv k D row)) else low (ts.map (tpv k D row))) = m
        intro hvlw
        refine ⟨by show 0 ≤ 100000; decide, fun fa H5 nfa e5 hfa => ?_⟩
        have e35 := e4.trans e5
        have hva5 := (e3.trans e35) _ _ hva
        have hpa5 := e35 _ _ hpa
        refine ⟨_, rfl, va, _, rfl, .inl (SqL.of hva5), _, rfl, by omega, by omega, ?_⟩
        rw [show ((vys.length : Nat) : Int).toNat = ts.length by omega]
        refine for_range (lo := 0) (n := ts.length) (fun i σ H6 => ∃ (u6 u7 u8 u9 : Option V) (fb : Addr), σ = [some (.ref a'), some (.ref ra), some (.ref va), some (.ref pa), some (.int (m : Int)), some (.ref fb), u6, u7, u8, u9] ∧ Ex H5 H6 ∧ H6 fb = some (.lst (vN (fnd k D row m (ts.take i)))) ∧ (fnd k D row m (ts.take i)).length ≤ 4 * i) ⟨_, _, _, _, fa, rfl, Ex.refl _, hfa, Nat.zero_le _⟩ ?_ ?_
        · rintro i σ H6 hi ⟨u6, u7, u8, u9, fb, rfl, e6, hfb, hfl⟩
          have e0 : (0 : Int) + (i : Int) = (i : Int) := Int.zero_add _
          have hti : ts[i]? = some ts[i] := List.getElem?_eq_getElem hi
          have htp : (ts.map (tpv k D row))[i]? = some (tpv k D row ts[i]) := by rw [List.getElem?_map, hti] <;> rfl
          have hvi : vys[i]? = some vys[i] := List.getElem?_eq_getElem (by omega)
          obtain ⟨b, u, hbv, hu, _, hb⟩ := hvl.2 i _ hvi
          rw [hti] at hu
          cases hu
          rw [hbv] at hvi
          refine ⟨_, rfl, _, rfl, pa, _, _, _, rfl, rfl, SqL.of (e6 _ _ hpa5), (by rw [e0]; exact atN (vN_at htp)), _, rfl, rfl, decide (tpv k D row ts[i] = m), ?_, ?_⟩
          · show V.bl (decide (V.int ((tpv k D row ts[i] : Nat) : Int) = V.int (m : Int))) = _
            rw [show decide (V.int ((tpv k D row ts[i] : Nat) : Int) = V.int (m : Int)) = decide (tpv k D row ts[i] = m) from decide_eq_decide.mpr ⟨fun z => by have := V.int.inj z; omega, fun z => by rw [z]⟩]
          have htk : fnd k D row m (ts.take (i + 1)) = fnd k D row m (ts.take i) ++ (if tpv k D row ts[i] = m then val k D ts[i] else []) := by rw [take_succ_of hti, fnd_snoc]
          by_cases hq : tpv k D row ts[i] = m
          · rw [decide_eq_true hq]
            rw [if_pos hq] at htk
            have hv4 := val_len (k := k) (D := D) ts[i] hk1
            refine iteT ⟨_, rfl, _, rfl, _, rfl, va, _, _, _, rfl, rfl, SqL.of (e6 _ _ hva5), (by rw [e0]; exact atN hvi), fb, b, _, _, rfl, rfl, hfb, (e3.trans (e35.trans e6)) _ _ hb, by rw [vN_len, vN_len]; omega, fun p H7 np e7 hp => ?_⟩
            refine ⟨_, _, _, _, p, rfl, e6.trans e7, ?_, ?_⟩
            · rw [hp, htk, vN, vN, vN, List.map_append]
            · rw [htk, List.length_append]
              omega
          · rw [decide_eq_false hq]
            rw [if_neg hq, List.append_nil] at htk
            exact iteF ⟨_, _, _, _, fb, rfl, e6, by rw [htk]; exact hfb, by rw [htk]; omega⟩
        · rintro σ H6 ⟨u6, u7, u8, u9, fb, rfl, e6, hfb, hfl⟩
          rw [List.take_length] at hfb
          have e16 := (e13.trans e35).trans e6
          refine ⟨_, rfl, ra, _, rfl, .inr (SqT.of (e16 _ _ hra)), _, rfl, by rw [vN_len]; omega, by rw [vN_len]; omega, fun D7 nD7 => ?_⟩
          rw [show (((vN row).length : Nat) : Int).toNat = k by rw [vN_len]; omega]
          refine lcf_rng (n := k) (fun r => decide (r ∈ fnd k D row m ts)) (fun r => .int (r : Int)) nD7 (by omega) (fun _ => rfl) ?_ ?_ ?_
          · intro r H7 e7 hrk
            refine evB_of fun Q' q' => ⟨_, rfl, _, rfl, fb, _, rfl, .inl (SqL.of (e7 _ _ hfb)), rfl, vN_flat _, _, ?_, q'⟩
            show V.bl (inV (.int (r : Int)) (vN (fnd k D row m ts))) = _
            rw [inV_nat]
          · intro r H7 e7 hrk _
            exact evQ_of fun Q' q' => ⟨_, rfl, q'⟩
          · intro H7 e7 hD7
            rw [given_nat, hvlw] at hD7
            exact q D7 H7 (gr_ex e16 _ nD7) (e16.trans e7) hD7
end
end K69
namespace K69
open PySem PySem.Spec PyProof.Rows L2
open Evl (Ex given)
/-! ### plain data: words, numbers, tuples of such -/
inductive Pl : Nat → PyData → Prop where
  | int {d : Nat} (i : Int) : Pl (d + 1) (.int i)
  | str {d : Nat} (x : Str) : Pl (d + 1) (.str x)
  | tup {d : Nat} {ds : List PyData} (h : ∀ x ∈ ds, Pl d x) (hl : ds.length ≤ 1000) : Pl (d + 1) (.tuple ds)
theorem pl_mono {d e : Nat} {a : PyData} (h : Pl d a) : d ≤ e → Pl e a := by
  induction h generalizing e with
  | int i => intro z; match e, z with | e + 1, _ => exact .int i
  | str x => intro z; match e, z with | e + 1, _ => exact .str x
  | tup h hl ih => intro z; match e, z with | e + 1, z => exact .tup (fun x hx => ih x hx (by omega)) hl
theorem pl_nat {l : List Nat} (h : l.length ≤ 1000) : Pl 2 (dN l) := .tup (fun x hx => by
  obtain ⟨n, _, rfl⟩ := List.mem_map.mp hx
  exact .int _) (by rw [List.length_map]; exact h)
section
variable {P : Program} {w : World} {K : PySem.W.Frag} {mg : Str → Option Value} {base : Heap}
/-! ### _law_same -/
def spSame (d : Nat) : Sp := fun vs H Q _ => ∃ (av dv : V) (a : PyData), vs = [av, dv] ∧ TD H av a ∧ TD H dv a ∧ Pl d a ∧ ∀ H', Ex H H' → Q (.bl true) H'
theorem sc__law_same : FnScope ["_law_actual", "_law_due", "_law_p"] ["_law_actual", "_law_due"] (defScope (topS 82)) := ⟨rfl, rfl, rfl, by decide +kernel, rfl, by decide +kernel, by decide +kernel⟩
theorem c__law_same (T : Txt K mg w) : ∀ d : Nat, Cal P w K mg base CX0 (d + 1) "_law_same" ["_law_actual", "_law_due"] (spSame d) := by
  intro d
  induction d with
  | zero =>
    refine mkCal (T.d__law_same) sc__law_same (fun _ _ _ _ _ _ us hl => match us, hl with | [_, _], _ => rfl) (fun vs H Q E h => ?_) (fun f cdv A outer s H vs Q E hr h => ?_)
    · obtain ⟨av, dv, a, rfl, _⟩ := h
      rfl
    · obtain ⟨av, dv, a, rfl, _, _, h, _⟩ := h
      cases h
  | succ d ih =>
  refine mkCal (T.d__law_same) sc__law_same (fun _ _ _ _ _ _ us hl => match us, hl with | [_, _], _ => rfl) (fun vs H Q E h => ?_) (fun f cdv A outer s H vs Q E hr h => ?_)
  · obtain ⟨av, dv, a, rfl, _⟩ := h
    rfl
  · obtain ⟨av, dv, a, rfl, hA, hD, hP, q⟩ := h
    refine ⟨_, (pss_cons (ps_if (pt_val (pe_callB (cr_isiK K) (by rfl) T.z_isinstance (by decide +kernel) (pa_cons (pv 1) (pa_cons (pe_bltn (v := .ty "tuple") (by rfl) T.z_tuple (by decide +kernel) rfl) pa_nil))))
      (pss_cons (ps_if (PW.pt (pw_or (pt_not (pt_val (pe_callB (cr_isiK K) (by rfl) T.z_isinstance (by decide +kernel) (pa_cons (pv 0) (pa_cons (pe_bltn (v := .ty "tuple") (by rfl) T.z_tuple (by decide +kernel) rfl) pa_nil))))) (pw_or1 (pt_cmpR op_ne (pe_callB (cr_lenK K) (by rfl) T.z_len (by decide +kernel) (pa_cons (pv 0) pa_nil)) (pe_callB (cr_lenK K) (by rfl) T.z_len (by decide +kernel) (pa_cons (pv 1) pa_nil)) (nomark _)))))
        (pss_one (ps_ret pe_bl))
        pss_nil)
        (pss_one (ps_ret (pe_callB (cr_allK K) (by rfl) T.z_all (by decide +kernel) (pa_cons (pe_lc (own := [("_law_p", 2)]) rfl sc__law_same.nd (pi_range1 rfl T.z_range (pa_cons (pe_callB (cr_lenK K) (by rfl) T.z_len (by decide +kernel) (pa_cons (pv 1) pa_nil)) pa_nil)) (blkOk_by (by kernel_rfl)) (fun _ _ _ _ _ => (pg_name (i := 2) sc__law_same.nd rfl (Or.inl rfl))) (fun _ _ _ _ _ => pts_nil) (fun _ _ _ _ _ => (pe_cal ih hr (by omega) (pa_cons (pe_ix (ix_tupK K) (pv 0) (pv 2) (fun _ _ => rfl)) (pa_cons (pe_ix (ix_tupK K) (pv 1) (pv 2) (fun _ _ => rfl)) pa_nil))))) pa_nil)))))
      pss_nil)
      (pss_cons (ps_if (pt_cmpR op_isN (pv 1) pe_non (nomark _))
      (pss_one (ps_ret (pe_cmpR op_isN (pv 0) pe_non (nomark _))))
      pss_nil)
      (pss_cons (ps_if (pt_val (pe_callB (cr_isiK K) (by rfl) T.z_isinstance (by decide +kernel) (pa_cons (pv 1) (pa_cons (pe_bltn (v := .ty "str") (by rfl) T.z_str (by decide +kernel) rfl) pa_nil))))
      (pss_one (ps_ret (pe_and (pe_callB (cr_isiK K) (by rfl) T.z_isinstance (by decide +kernel) (pa_cons (pv 0) (pa_cons (pe_bltn (v := .ty "str") (by rfl) T.z_str (by decide +kernel) rfl) pa_nil))) (pe_one (pe_cmpR op_eq (pv 0) (pv 1) (nomark _))))))
      pss_nil)
      (pss_cons (ps_if (pt_val (pe_callB (cr_isiK K) (by rfl) T.z_isinstance (by decide +kernel) (pa_cons (pv 1) (pa_cons (pe_bltn (v := .ty "bool") (by rfl) T.z_bool (by decide +kernel) rfl) pa_nil))))
      (pss_one (ps_ret (pe_and (pe_callB (cr_isiK K) (by rfl) T.z_isinstance (by decide +kernel) (pa_cons (pv 0) (pa_cons (pe_bltn (v := .ty "bool") (by rfl) T.z_bool (by decide +kernel) rfl) pa_nil))) (pe_one (pe_cmpR op_eq (pv 0) (pv 1) (nomark _))))))
      pss_nil)
      (pss_one (ps_ret (pe_and (pe_callB (cr_isiK K) (by rfl) T.z_isinstance (by decide +kernel) (pa_cons (pv 0) (pa_cons (pe_bltn (v := .ty "int") (by rfl) T.z_int (by decide +kernel) rfl) pa_nil))) (pe_and (pe_not (pe_callB (cr_isiK K) (by rfl) T.z_isinstance (by decide +kernel) (pa_cons (pv 0) (pa_cons (pe_bltn (v := .ty "bool") (by rfl) T.z_bool (by decide +kernel) rfl) pa_nil)))) (pe_one (pe_cmpR op_eq (pv 0) (pv 1) (nomark _))))))))))), ?_⟩
    cases hP with
    | int i =>
      cases hA.int_inv
      cases hD.int_inv
      refine ⟨.int i, rfl, .int i, .ty "tuple", .type "int", .type "tuple", false, rfl, .ty _, .base (.int i), kit_ty (by decide +kernel), false, rfl, iteF ?_⟩
      refine ⟨.int i, rfl, rfl, false, rfl, iteF ?_⟩
      refine ⟨.int i, rfl, .int i, .ty "str", .type "int", .type "str", false, rfl, .ty _, .base (.int i), kit_ty (by decide +kernel), false, rfl, iteF ?_⟩
      refine ⟨.int i, rfl, .int i, .ty "bool", .type "int", .type "bool", false, rfl, .ty _, .base (.int i), kit_ty (by decide +kernel), false, rfl, iteF ?_⟩
      refine ⟨.int i, rfl, .int i, .ty "int", .type "int", .type "int", true, rfl, .ty _, .base (.int i), kit_ty (by decide +kernel), true, rfl, iteT ?_⟩
      refine ⟨.int i, rfl, .int i, .ty "bool", .type "int", .type "bool", false, rfl, .ty _, .base (.int i), kit_ty (by decide +kernel), false, rfl, true, rfl, iteT ?_⟩
      refine ⟨.int i, rfl, .int i, rfl, rfl, ?_⟩
      show Q (.bl (decide (V.int i = V.int i))) H
      rw [decide_eq_true rfl]
      exact q H (Ex.refl H)
    | str x =>
      cases hA.str_inv
      cases hD.str_inv
      refine ⟨.str x, rfl, .str x, .ty "tuple", .type "str", .type "tuple", false, rfl, .ty _, .base (.str x), kit_ty (by decide +kernel), false, rfl, iteF ?_⟩
      refine ⟨.str x, rfl, rfl, false, rfl, iteF ?_⟩
      refine ⟨.str x, rfl, .str x, .ty "str", .type "str", .type "str", true, rfl, .ty _, .base (.str x), kit_ty (by decide +kernel), true, rfl, iteT ?_⟩
      refine ⟨.str x, rfl, .str x, .ty "str", .type "str", .type "str", true, rfl, .ty _, .base (.str x), kit_ty (by decide +kernel), true, rfl, iteT ?_⟩
      refine ⟨.str x, rfl, .str x, rfl, rfl, ?_⟩
      show Q (.bl (decide (V.str x = V.str x))) H
      rw [decide_eq_true rfl]
      exact q H (Ex.refl H)
    | @tup _ ds hds hl =>
      obtain ⟨a, xs, rfl, ha, hxs⟩ := hA.tup_inv
      obtain ⟨b, ys, rfl, hb, hys⟩ := hD.tup_inv
      have hxl := hxs.len
      have hyl := hys.len
      refine ⟨.ref b, rfl, .ref b, .ty "tuple", .type "tuple", .type "tuple", true, rfl, .ty _, .base (.tup hb), kit_ty (by decide +kernel), true, rfl, iteT ?_⟩
      refine ⟨.ref a, rfl, .ref a, .ty "tuple", .type "tuple", .type "tuple", true, rfl, .ty _, .base (.tup ha), kit_ty (by decide +kernel), true, rfl, iteF ?_⟩
      refine ⟨.ref a, rfl, a, _, rfl, .inr (SqT.of ha), .ref b, rfl, b, _, rfl, .inr (SqT.of hb), rfl, _, rfl, ?_⟩
      rw [hxl, hyl]
      refine iteNS rfl ?_
      refine ⟨.ref b, rfl, b, _, rfl, .inr (SqT.of hb), _, rfl, by omega, by omega, fun D nD => ?_⟩
      rw [show ((ys.length : Nat) : Int).toNat = ds.length by omega]
      refine lcm_rng (n := ds.length) (fun i y _ => y = .bl true) (stD_val (f := fun _ => .bl true)) nD (by omega) (fun _ => rfl) ?_ ?_
      · intro i H1 e1 _ hi
        have hdi : ds[i]? = some ds[i] := List.getElem?_eq_getElem hi
        obtain ⟨x, hx, hTx⟩ := hxs.at hdi
        obtain ⟨y, hy, hTy⟩ := hys.at hdi
        intro Q' q'
        exact ⟨_, rfl, _, rfl, a, _, _, x, rfl, rfl, SqT.of (e1 _ _ ha), atN hx, _, rfl, _, rfl, b, _, _, y, rfl, rfl, SqT.of (e1 _ _ hb), atN hy, x, y, _, rfl, hTx.ex e1, hTy.ex e1, hds _ (List.getElem_mem hi), fun H2 e2 => q' _ H2 e2 rfl⟩
      · intro H1 zs e1 hD1 hls
        have ez : zs = ((List.range ds.length).map fun _ => true).map V.bl := by
          rw [LsAt.vals (f := fun _ => .bl true) hls, List.map_map] <;> rfl
        refine ⟨D, _, rfl, (by rw [← ez]; exact SqL.of hD1), ?_⟩
        have e5 : ((List.range ds.length).map fun _ => true).all id = true := by
          rw [List.all_map]
          exact List.all_eq_true.mpr fun _ _ => rfl
        rw [e5]
        exact q H1 e1
/-! ### the state of the draws -/
def StAt (H : Hp) (st sc : Addr) : Prop := ∃ (seed rest : Int) (pos : Nat) (ns : List Int), H st = some (.lst [.int seed, .ref sc, .int (pos : Int), .int rest]) ∧ H sc = some (.lst (ns.map V.int)) ∧ sc ≠ st
theorem StAt.ex {H H' : Hp} {st sc : Addr} (h : StAt H st sc) (e : Ex H H') : StAt H' st sc := by
  obtain ⟨seed, rest, pos, ns, h1, h2, h3⟩ := h
  exact ⟨seed, rest, pos, ns, e _ _ h1, e _ _ h2, h3⟩
theorem StAt.exS {H H' : Hp} {S : List Addr} {st sc : Addr} (h : StAt H st sc) (e : ExS S H H') (n1 : st ∉ S) (n2 : sc ∉ S) : StAt H' st sc := by
  obtain ⟨seed, rest, pos, ns, h1, h2, h3⟩ := h
  exact ⟨seed, rest, pos, ns, e _ _ h1 n1, e _ _ h2 n2, h3⟩
theorem kp_st {H H' : Hp} {st sc : Addr} (h : StAt H st sc) (e : ExS [st] H H') : Kp H H' := kp_exS e fun z hz => by
  rw [List.mem_singleton] at hz
  subst hz
  obtain ⟨seed, rest, pos, ns, h1, h2, h3⟩ := h
  exact ⟨_, h1⟩
/-! ### _law_start -/
def spStart (K : PySem.W.Frag) : Sp := fun vs H Q _ => ∃ (a : Addr) (ns : List Int), vs = [.ref a] ∧ SqL K H a (ns.map V.int) ∧ ns.length ≤ 1000 ∧ ∀ st sc H', Ex H H' → StAt H' st sc → Q (.ref st) H'
theorem sc__law_start : FnScope ["_law_script", "_law_seed", "_law_k"] ["_law_script"] (defScope (topS 80)) := ⟨rfl, rfl, rfl, by decide +kernel, rfl, by decide +kernel, by decide +kernel⟩
theorem c__law_start (T : Txt K mg w) : Cal P w K mg base CX0 1 "_law_start" ["_law_script"] (spStart K) := by
  refine mkCal (T.d__law_start) sc__law_start (fun _ _ _ _ _ _ us hl => match us, hl with | [_], _ => rfl) (fun vs H Q E h => ?_) (fun f cdv A outer s H vs Q E hr h => ?_)
  · obtain ⟨a, ns, rfl, _⟩ := h
    rfl
  · obtain ⟨a, ns, rfl, ha, hl, q⟩ := h
    refine ⟨_, (pss_cons (ps_set (i := 1) sc__law_start.nd rfl (Or.inl rfl) pe_int)
      (pss_cons (ps_for PassesOwn.never rfl (pi_range1 rfl T.z_range (pa_cons (pe_callB (cr_lenK K) (by rfl) T.z_len (by decide +kernel) (pa_cons (pv 0) pa_nil)) pa_nil)) (pg_name (i := 2) sc__law_start.nd rfl (Or.inl rfl))
      (pss_one (ps_set (i := 1) sc__law_start.nd rfl (Or.inl rfl) (pe_op op_mod (pe_op op_add (pe_op op_add (pe_op op_add (pe_op op_mul (pv 1) pe_int) (pe_op op_mod (pe_callTy call_int1 (by rfl) T.z_int (by decide +kernel) (pa_cons (pe_ix (ix_lstK K) (pv 0) (pv 2) (fun _ _ => rfl)) pa_nil)) pe_int)) (pv 2)) pe_int) pe_int))))
      (pss_one (ps_ret (pe_lstX (pa_cons (pv 1) (pa_cons (pe_callTy (cr_lstK K) (by rfl) T.z_list (by decide +kernel) (pa_cons (pv 0) pa_nil)) (pa_cons pe_int (pa_cons pe_int pa_nil))))))))), ?_⟩
    refine ⟨.ref a, rfl, a, _, rfl, .inl ha, _, rfl, by rw [List.length_map]; omega, by rw [List.length_map]; omega, ?_⟩
    rw [show (((ns.map V.int).length : Nat) : Int).toNat = ns.length by rw [List.length_map]; omega]
    refine for_range (lo := 0) (n := ns.length) (fun i σ H2 => H2 = H ∧ ∃ (i1 : Int) (u2 : Option V), σ = [some (.ref a), some (.int i1), u2]) ⟨rfl, 7, none, rfl⟩ ?_ ?_
    · rintro i σ H2 hi ⟨rfl, i1, u2, rfl⟩
      have e0 : (0 : Int) + (i : Int) = (i : Int) := Int.zero_add _
      have hn : (ns.map V.int)[i]? = some (.int ns[i]) := by rw [List.getElem?_map, List.getElem?_eq_getElem hi] <;> rfl
      refine ⟨_, rfl, _, _, rfl, rfl, .inr ⟨by decide, by decide⟩, _, rfl, _, rfl, a, _, _, _, rfl, rfl, ha, (by rw [e0]; exact atN hn), .inl ⟨_, rfl, _, _, rfl, rfl, (by show (0 : Int) < 2147483647; decide), _, _, rfl, rfl, _, rfl, _, _, rfl, rfl, _, _, rfl, rfl, _, _, rfl, rfl, (by show (0 : Int) < 2147483647; decide), ?_⟩⟩
      exact ⟨rfl, _, _, rfl⟩
    · rintro σ H2 ⟨rfl, i1, u2, rfl⟩
      refine ⟨_, rfl, _, rfl, a, _, rfl, .inl ha, fun sc H1 nsc e1 hsc => ⟨by show 4 ≤ 100000; decide, fun st H3 nst e3 hst => ?_⟩⟩
      exact q st sc H3 (e1.trans e3) ⟨_, 0, 0, ns, hst, e3 _ _ hsc, fun z => by rw [z, nst] at hsc; cases hsc⟩
/-! ### _law_pick -/
def spPick : Sp := fun vs H Q _ => ∃ (st sc : Addr) (n : Nat), vs = [.ref st, .int (n : Int)] ∧ StAt H st sc ∧ 1 ≤ n ∧ n ≤ 1000 ∧ ∀ (r : Nat) H', r < n → ExS [st] H H' → StAt H' st sc → Q (.int (r : Int)) H'
theorem sc__law_pick : FnScope ["_law_state", "_law_limit", "_law_cell", "_law_mixed", "_law_rest"] ["_law_state", "_law_limit"] (defScope (topS 81)) := ⟨rfl, rfl, rfl, by decide +kernel, rfl, by decide +kernel, by decide +kernel⟩
theorem c__law_pick (T : Txt K mg w) : Cal P w K mg base CX0 1 "_law_pick" ["_law_state", "_law_limit"] spPick := by
  refine mkCal (T.d__law_pick) sc__law_pick (fun _ _ _ _ _ _ us hl => match us, hl with | [_, _], _ => rfl) (fun vs H Q E h => ?_) (fun f cdv A outer s H vs Q E hr h => ?_)
  · obtain ⟨st, sc, n, rfl, _⟩ := h
    rfl
  · obtain ⟨st, sc, n, rfl, ⟨seed, rest, pos, ns, hst, hsc, hne⟩, h1, h2, q⟩ := h
    have fin : ∀ (i : Int) (H' : Hp), ExS [st] H H' → StAt H' st sc → Q (.int (i % (n : Int))) H' := fun i H' e hS => by
      have p1 := Int.emod_nonneg i (show (n : Int) ≠ 0 by omega)
      have p2 := Int.emod_lt_of_pos i (show (0 : Int) < n by omega)
      have := q (i % (n : Int)).toNat H' (by omega) e hS
      rw [show (((i % (n : Int)).toNat : Nat) : Int) = i % (n : Int) by omega] at this
      exact this
    have set_st : ∀ (H1 : Hp) (s1 r1 : Int) (p1 : Nat), ExS [st] H H1 → H1 sc = some (.lst (ns.map V.int)) → ExS [st] H (upd H1 st (.lst [.int s1, .ref sc, .int (p1 : Int), .int r1])) ∧ StAt (upd H1 st (.lst [.int s1, .ref sc, .int (p1 : Int), .int r1])) st sc := fun H1 s1 r1 p1 e h =>
      ⟨e.trans exS_upd, s1, r1, p1, ns, upd_same, by rw [upd_ne hne]; exact h, hne⟩
    refine ⟨_, (pss_cons (ps_if (pt_cmpR op_ge (pe_ix (ix_lstK K) (pv 0) pe_int (fun _ _ => rfl)) (pv 1) (nomark _))
      (pss_cons (ps_set (i := 4) sc__law_pick.nd rfl (Or.inl rfl) (pe_callTy call_int1 (by rfl) T.z_int (by decide +kernel) (pa_cons (pe_ix (ix_lstK K) (pv 0) pe_int (fun _ _ => rfl)) pa_nil)))
        (pss_cons (ps_asg (pe_op op_fdivN (pv 4) (pv 1)) (pg_sub (pv 0) pe_int set_list))
        (pss_one (ps_ret (pe_op op_mod (pv 4) (pv 1))))))
      pss_nil)
      (pss_cons (ps_set (i := 2) sc__law_pick.nd rfl (Or.inl rfl) pe_int)
      (Evl.pss_cut (ps_if (pt_cmpR op_lt (pe_ix (ix_lstK K) (pv 0) pe_int (fun _ _ => rfl)) (pe_callB (cr_lenK K) (by rfl) T.z_len (by decide +kernel) (pa_cons (pe_ix (ix_lstK K) (pv 0) pe_int (fun _ _ => rfl)) pa_nil)) (nomark _))
      (pss_cons (ps_set (i := 2) sc__law_pick.nd rfl (Or.inl rfl) (pe_callTy call_int1 (by rfl) T.z_int (by decide +kernel) (pa_cons (pe_ix (ix_lstK K) (pe_ix (ix_lstK K) (pv 0) pe_int (fun _ _ => rfl)) (pe_ix (ix_lstK K) (pv 0) pe_int (fun _ _ => rfl)) (fun _ _ => rfl)) pa_nil)))
        (pss_cons (ps_asg (pe_op op_add (pe_ix (ix_lstK K) (pv 0) pe_int (fun _ _ => rfl)) pe_int) (pg_sub (pv 0) pe_int set_list))
        (Evl.pss_cut (ps_if (pt_cmpR op_lt (pv 2) pe_int (nomark _))
        (pss_one (ps_set (i := 2) sc__law_pick.nd rfl (Or.inl rfl) (pe_op op_sub pe_int (pv 2))))
        pss_nil)
        (pss_one (ps_if (pt_cmpR op_ge (pv 2) (pe_op op_pow pe_int pe_int) (nomark _))
        (pss_cons (ps_asg (pe_op op_fdivN (pv 2) (pv 1)) (pg_sub (pv 0) pe_int set_list))
          (pss_one (ps_ret (pe_op op_mod (pv 2) (pv 1)))))
        pss_nil)))))
      pss_nil)
      (pss_cons (ps_set (i := 3) sc__law_pick.nd rfl (Or.inl rfl) (pe_op op_mod (pe_op op_mul (pe_op op_add (pe_op op_add (pe_callTy call_int1 (by rfl) T.z_int (by decide +kernel) (pa_cons (pe_ix (ix_lstK K) (pv 0) pe_int (fun _ _ => rfl)) pa_nil)) (pe_op op_mod (pv 2) pe_int)) pe_int) pe_int) pe_int))
      (pss_cons (ps_asg (pe_op op_mod (pe_op op_add (pe_op op_mul (pv 3) pe_int) pe_int) pe_int) (pg_sub (pv 0) pe_int set_list))
      (pss_one (ps_ret (pe_op op_mod (pe_op op_fdivN (pe_callTy call_int1 (by rfl) T.z_int (by decide +kernel) (pa_cons (pe_ix (ix_lstK K) (pv 0) pe_int (fun _ _ => rfl)) pa_nil)) pe_int) (pv 1))))))))), ?_⟩
    refine ⟨.ref st, rfl, st, _, 3, _, rfl, rfl, SqL.of hst, atN (i := 3) rfl, _, rfl, _, _, rfl, rfl, decide ((n : Int) ≤ rest), rfl, ?_⟩
    by_cases hq : (n : Int) ≤ rest
    · rw [decide_eq_true hq]
      refine iteT ⟨.ref st, rfl, st, _, 3, _, rfl, rfl, SqL.of hst, atN (i := 3) rfl, .inl ⟨_, rfl, ?_⟩⟩
      refine ⟨_, rfl, _, rfl, _, _, rfl, rfl, ⟨by omega, by omega⟩, _, rfl, st, _, 3, 3, rfl, rfl, hst, rfl, ?_⟩
      obtain ⟨g1, g2⟩ := set_st H seed (rest.fdiv n) pos (ExS.refl _ _) hsc
      exact ⟨_, rfl, _, rfl, _, _, rfl, rfl, (by show (0 : Int) < n; omega), fin _ _ g1 g2⟩
    rw [decide_eq_false hq]
    refine iteF ?_
    refine ⟨fun σ H1 => ∃ (cell : Int) (u3 u4 : Option V), σ = [some (.ref st), some (.int (n : Int)), some (.int cell), u3, u4] ∧ ExS [st] H H1 ∧ ∃ p1 : Nat, H1 st = some (.lst [.int seed, .ref sc, .int (p1 : Int), .int rest]) ∧ H1 sc = some (.lst (ns.map V.int)), ?_, ?_⟩
    · refine ⟨.ref st, rfl, st, _, 2, _, rfl, rfl, SqL.of hst, atN (i := 2) rfl, .ref st, rfl, st, _, 1, .ref sc, rfl, rfl, SqL.of hst, atN (i := 1) rfl, sc, _, rfl, .inl (SqL.of hsc), _, _, rfl, rfl, decide (((pos : Nat) : Int) < ((ns.map V.int).length : Nat)), rfl, ?_⟩
      by_cases hp : ((pos : Nat) : Int) < (((ns.map V.int).length : Nat) : Int)
      · rw [decide_eq_true hp]
        rw [List.length_map] at hp
        have hn : (ns.map V.int)[pos]? = some (.int (ns[pos]'(by omega))) := by rw [List.getElem?_map, List.getElem?_eq_getElem (by omega)] <;> rfl
        refine iteT ⟨.ref st, rfl, st, _, 1, .ref sc, rfl, rfl, SqL.of hst, atN (i := 1) rfl, .ref st, rfl, st, _, 2, _, rfl, rfl, SqL.of hst, atN (i := 2) rfl, sc, _, _, _, rfl, rfl, SqL.of hsc, atN hn, .inl ⟨_, rfl, ?_⟩⟩
        refine ⟨.ref st, rfl, st, _, 2, _, rfl, rfl, SqL.of hst, atN (i := 2) rfl, _, _, rfl, rfl, .ref st, rfl, st, _, 2, 2, rfl, rfl, hst, rfl, ?_⟩
        have e9 : (((pos : Nat) : Int) + 1) = ((pos + 1 : Nat) : Int) := by omega
        obtain ⟨g1, g2⟩ := set_st H seed rest (pos + 1) (ExS.refl _ _) hsc
        have hst1 : (upd H st (.lst [.int seed, .ref sc, .int (((pos : Nat) : Int) + 1), .int rest])) st = some (.lst [.int seed, .ref sc, .int ((pos + 1 : Nat) : Int), .int rest]) := by rw [upd_same, e9]
        have hsc1 : (upd H st (.lst [.int seed, .ref sc, .int (((pos : Nat) : Int) + 1), .int rest])) sc = some (.lst (ns.map V.int)) := by rw [upd_ne hne]; exact hsc
        refine ⟨fun σ H1 => H1 = upd H st (.lst [.int seed, .ref sc, .int (((pos : Nat) : Int) + 1), .int rest]) ∧ ∃ (cell : Int) (u3 u4 : Option V), σ = [some (.ref st), some (.int (n : Int)), some (.int cell), u3, u4], ?_, ?_⟩
        · refine ⟨_, rfl, _, _, rfl, rfl, decide ((ns[pos]'(by omega)) < 0), rfl, ?_⟩
          by_cases hneg : (ns[pos]'(by omega)) < 0
          · rw [decide_eq_true hneg]
            exact iteT ⟨_, rfl, _, _, rfl, rfl, rfl, _, _, _, rfl⟩
          · rw [decide_eq_false hneg]
            exact iteF ⟨rfl, _, _, _, rfl⟩
        · rintro σ H1 ⟨rfl, cell, u3, u4, rfl⟩
          refine ⟨_, rfl, _, _, rfl, rfl, ⟨by decide, by decide, by decide⟩, _, _, rfl, rfl, decide ((10 : Int) ^ 18 ≤ cell), rfl, ?_⟩
          by_cases hbig : (10 : Int) ^ 18 ≤ cell
          · rw [decide_eq_true hbig]
            refine iteT ⟨_, rfl, _, rfl, _, _, rfl, rfl, ⟨by omega, by omega⟩, _, rfl, st, _, 3, 3, rfl, rfl, hst1, rfl, ?_⟩
            obtain ⟨g3, g4⟩ := set_st _ seed (cell.fdiv n) (pos + 1) (exS_upd (o := .lst [.int seed, .ref sc, .int (((pos : Nat) : Int) + 1), .int rest])) hsc1
            exact ⟨_, rfl, _, rfl, _, _, rfl, rfl, (by show (0 : Int) < n; omega), fin _ _ g3 g4⟩
          · rw [decide_eq_false hbig]
            exact iteF ⟨_, _, _, rfl, exS_upd, pos + 1, hst1, hsc1⟩
      · rw [decide_eq_false hp]
        exact iteF ⟨_, _, _, rfl, ExS.refl _ _, pos, hst, hsc⟩
    · rintro σ H1 ⟨cell, u3, u4, rfl, e1, p1, hst1, hsc1⟩
      refine ⟨.ref st, rfl, st, _, 0, _, rfl, rfl, SqL.of hst1, atN (i := 0) rfl, .inl ⟨_, rfl, _, rfl, _, _, rfl, rfl, (by show (0 : Int) < 2147483647; decide), _, _, rfl, rfl, _, _, rfl, rfl, _, _, rfl, rfl, .inr ⟨by decide, by decide⟩, _, _, rfl, rfl, (by show (0 : Int) < 2147483647; decide), ?_⟩⟩
      refine ⟨_, rfl, _, _, rfl, rfl, .inr ⟨by decide, by decide⟩, _, _, rfl, rfl, _, _, rfl, rfl, (by show (0 : Int) < 2147483647; decide), _, rfl, st, _, 0, 0, rfl, rfl, hst1, rfl, ?_⟩
      refine ⟨_, rfl, st, _, 0, _, rfl, rfl, SqL.of upd_same, atN (i := 0) rfl, .inl ⟨_, rfl, _, _, rfl, rfl, ⟨by decide, by decide⟩, _, rfl, _, _, rfl, rfl, (by show (0 : Int) < n; omega), ?_⟩⟩
      obtain ⟨g3, g4⟩ := set_st H1 (((((seed + cell % 2147483647 + 1) * 48271) % 2147483647) * 69621 + 12345) % 2147483647) rest p1 e1 hsc1
      exact fin _ _ g3 g4
end
end K69
namespace K69
open PySem PySem.Spec PyProof.Rows L2
open Evl (Ex given)
/-! ### [e for x in range(n)] where e changes other lists -/
theorem lcs_rng {n : Nat} {te : TE} {vs : List Nat} {σ : L2.St} {H1 : Hp} {D : Addr} {Qd : Hp → Prop} {j : Nat} (I : Nat → List V → Hp → Prop) (hn : n ≤ 100000) (hw : ∀ x, wipe ((wipe σ vs).set j (some x)) vs = wipe σ vs)
    (hst : ∀ i ys zs xs H, H D = some (.lst zs) → I i ys H → I i ys (upd H D (.lst xs))) (h0 : I 0 [] (upd H1 D (.lst [])))
    (hs : ∀ (i : Nat) ys H, I i ys H → H D = some (.lst ys) → i < n → ∀ Q : VK, (∀ y H', H' D = some (.lst ys) → I (i + 1) (ys ++ [y]) H' → Q y H') → te ((wipe σ vs).set j (some (.int (i : Nat)))) H Q)
    (hd : ∀ H ys, H D = some (.lst ys) → ys.length = n → I n ys H → Qd H) : lcB (Itr 0 n) (gName j) tYes te vs σ H1 D Qd := by
  refine lc_it walk_range (fun i H => ∃ ys, H D = some (.lst ys) ∧ ys.length = i ∧ I i ys H) ⟨[], upd_same, rfl, h0⟩ (fun _ _ _ _ => trivial) ?_ ?_
  · rintro i x H H' hi ⟨ys, h1, h2, h3⟩ ⟨eH, hx⟩
    subst eH
    have hx : x = .int ((0 : Int) + (i : Int)) := hx
    rw [Int.zero_add] at hx
    subst hx
    refine ⟨hw _, ?_⟩
    unfold tYes
    dsimp only
    rw [if_pos rfl]
    exact hs i ys H' h3 h1 hi _ fun y H2 h4 h5 => ⟨ys, h4, Evl.sz_lt (by omega), ys ++ [y], upd_same, by rw [List.length_append, h2] <;> rfl, hst _ _ _ _ _ h4 h5⟩
  · rintro H ⟨ys, h1, h2, h3⟩
    exact hd H ys h1 h2 h3
section
variable {P : Program} {w : World} {K : PySem.W.Frag} {mg : Str → Option Value} {base : Heap}
/-! ### _law_spaced -/
def spSpaced : Sp := fun vs H Q _ => ∃ (st sc : Addr) (dv : V) (k : Nat) (D : List Nat), vs = [.ref st, dv] ∧ StAt H st sc ∧ TD H dv (dN D) ∧ DOk k D ∧ ∀ v' row H', ExS [st] H H' → StAt H' st sc → TD H' v' (dN row) → Row k D row → Q v' H'
theorem sc__law_spaced : FnScope ["_law_state", "_law_dense_here", "_law_row", "_law_step", "_law_rank"] ["_law_state", "_law_dense_here"] (defScope (topS 84)) := ⟨rfl, rfl, rfl, by decide +kernel, rfl, by decide +kernel, by decide +kernel⟩
theorem c__law_spaced (T : Txt K mg w) : Cal P w K mg base CX0 2 "_law_spaced" ["_law_state", "_law_dense_here"] spSpaced := by
  refine mkCal (T.d__law_spaced) sc__law_spaced (fun _ _ _ _ _ _ us hl => match us, hl with | [_, _], _ => rfl) (fun vs H Q E h => ?_) (fun f cdv A outer s H vs Q E hr h => ?_)
  · obtain ⟨st, sc, dv, k, D, rfl, _⟩ := h
    rfl
  · obtain ⟨st, sc, dv, k, D, rfl, hS, hDv, hD, q⟩ := h
    obtain ⟨da, rfl, hda⟩ := td_nat_inv hDv
    refine ⟨_, (pss_cons (ps_set (i := 2) sc__law_spaced.nd rfl (Or.inr rfl) (pe_lstX (pa_cons (pe_cal (c__law_pick T) hr (by omega) (pa_cons (pv 0) (pa_cons pe_int pa_nil))) pa_nil)))
      (pss_cons (ps_for PassesOwn.never rfl (pi_range1 rfl T.z_range (pa_cons pe_int pa_nil)) (pg_name (i := 3) sc__law_spaced.nd rfl (Or.inl rfl))
      (pss_one (ps_expr (pe_appX (pe_bm PySem.F.plainAttrs_list PySem.F.slot_list_append PySem.F.type_list_append mt_append (PE.up (pv 2)) (pa_cons (PE.up (pe_op op_add (pe_op op_add (pe_ix (ix_lstK K) (pv 2) (pe_un un_neg pe_int) (fun _ _ => rfl)) pe_int) (pe_cal (c__law_pick T) hr (by omega) (pa_cons (pv 0) (pa_cons pe_int pa_nil))))) pa_nil))))))
      (pss_one (ps_ret (pe_callTy call_tupX (by rfl) T.z_tuple (by decide +kernel) (pa_cons (pe_lc (own := [("_law_rank", 4)]) rfl sc__law_spaced.nd (pi_tupK K (pv 1)) (blkOk_by (by kernel_rfl)) (fun _ _ _ _ _ => (pg_name (i := 4) sc__law_spaced.nd rfl (Or.inl rfl))) (fun _ _ _ _ _ => pts_nil) (fun _ _ _ _ _ => (pe_ix (ix_lstK K) (pv 2) (pv 4) (fun _ _ => rfl)))) pa_nil)))))), ?_⟩
    refine ⟨_, rfl, st, sc, 4, rfl, hS, by decide, by decide, fun r0 H1 hr0 e1 hS1 => ⟨by show 1 ≤ 100000; decide, fun la H2 nla e2 hla => ?_⟩⟩
    have hda2 := e2 _ _ ((kp_st hS e1).tup hda)
    have nst : la ≠ st := fun z => by
      obtain ⟨_, _, _, _, h1, _⟩ := hS1
      rw [z] at nla
      rw [nla] at h1
      cases h1
    have nsc : la ≠ sc := fun z => by
      obtain ⟨_, _, _, _, _, h1, _⟩ := hS1
      rw [z] at nla
      rw [nla] at h1
      cases h1
    refine ⟨_, rfl, by omega, by omega, ?_⟩
    refine for_range (lo := 0) (n := 3) (fun i σ H3 => ∃ (u3 : Option V) (l : List Nat) (m : Nat), σ = [some (.ref st), some (.ref da), some (.ref la), u3, none] ∧ ExS [la, st] H2 H3 ∧ StAt H3 st sc ∧ H3 la = some (.lst (vN l ++ [.int (m : Int)])) ∧ l.length = i ∧ Up (l ++ [m]) ∧ m ≤ 3 + 2 * i) ⟨none, [], r0, rfl, ExS.refl _ _, hS1.ex e2, hla, rfl, List.pairwise_singleton _ _, by omega⟩ ?_ ?_
    · rintro i σ H3 hi ⟨u3, l, m, rfl, e3, hS3, hla3, hll, hup, hm⟩
      refine ⟨_, rfl, la, rfl, ⟨_, hla3⟩, _, rfl, _, rfl, la, _, _, _, rfl, rfl, SqL.of hla3, atI_last _ _, _, _, rfl, rfl, _, rfl, st, sc, 2, rfl, hS3, by decide, by decide, fun r H4 hr4 e4 hS4 => ?_⟩
      have hla4 := e4 _ _ hla3 (by simpa using nst)
      refine ⟨_, _, rfl, rfl, _, hla4, by rw [List.length_append, vN_len]; show l.length + 1 < 100000; omega, fun H5 e5 hla5 => ?_⟩
      refine ⟨_, l ++ [m], m + 1 + r, rfl, (e3.trans (exS_mono e4 fun z hz => ?_)).trans (exS_mono e5 fun z hz => ?_), hS4.exS e5 (by simpa using nst.symm) (by simpa using nsc.symm), ?_, by rw [List.length_append, hll] <;> rfl, ?_, by omega⟩
      · exact List.mem_cons_of_mem _ hz
      · rw [List.mem_singleton] at hz
        rw [hz]; exact List.mem_cons_self
      · rw [hla5, vN, vN, List.map_append]
        have e9 : ((m : Int) + 1 + (r : Int)) = ((m + 1 + r : Nat) : Int) := by omega
        show some (HO.lst (_ ++ [V.int ((m : Int) + 1 + (r : Int))])) = _
        rw [e9] <;> rfl
      · refine List.pairwise_append.mpr ⟨hup, List.pairwise_singleton _ _, fun x hx y hy => ?_⟩
        rw [List.mem_singleton] at hy
        subst hy
        rcases List.mem_append.mp hx with hx | hx
        · have := (List.pairwise_append.mp hup).2.2 x hx m List.mem_cons_self
          omega
        · rw [List.mem_singleton] at hx
          omega
    · rintro σ H3 ⟨u3, l, m, rfl, e3, hS3, hla3, hll, hup, hm⟩
      have hda3 : H3 da = some (.tup (vN D)) := by
        refine e3 _ _ hda2 fun z => ?_
        rcases List.mem_cons.mp z with z | z
        · rw [z, hla] at hda2
          cases hda2
        · rw [List.mem_singleton] at z
          obtain ⟨_, _, _, _, h1, _⟩ := hS
          rw [z, h1] at hda
          cases hda
      have hD4 := hD.four
      have hDl := hD.len
      have hget : ∀ x ∈ D, (l ++ [m])[x]? = some ((l ++ [m]).getD x 0) := fun x hx => at_getD (by
        have := isD_lt hD.isd hx
        rw [List.length_append, List.length_singleton]
        omega)
      refine ⟨_, rfl, da, rfl, ⟨_, SqT.of hda3⟩, fun pa npa => lcm_tup (xs := vN D) (fun i y _ => y = .int (((D.map fun x => (l ++ [m]).getD x 0).getD i 0 : Nat) : Int)) (stD_val (f := fun i => .int (((D.map fun x => (l ++ [m]).getD x 0).getD i 0 : Nat) : Int))) npa (SqT.of hda3) (by rw [vN_len]; omega) (fun _ => rfl) ?_ ?_⟩
      · intro i y H4 e4 _ hy
        obtain ⟨x, hx, rfl⟩ := vN_at_inv hy
        have hxm := List.mem_of_getElem? hx
        have hg : (D.map fun x => (l ++ [m]).getD x 0).getD i 0 = (l ++ [m]).getD x 0 := getD_at (by rw [List.getElem?_map, hx] <;> rfl)
        rw [hg]
        have hat : (vN l ++ [.int (m : Int)])[x]? = some (.int (((l ++ [m]).getD x 0 : Nat) : Int)) := by
          have := vN_at (hget x hxm)
          rw [vN, List.map_append] at this
          exact this
        exact evQ_of fun Q' q' => ⟨_, rfl, _, rfl, la, _, _, _, rfl, rfl, SqL.of (e4 _ _ hla3), atN hat, q'⟩
      · intro H4 ys e4 hpa hls
        have eys : ys = vN (D.map fun x => (l ++ [m]).getD x 0) := by
          rw [LsAt.vals (f := fun i => .int (((D.map fun x => (l ++ [m]).getD x 0).getD i 0 : Nat) : Int)) hls, vN_len]
          have := range_map_get D (fun i => V.int (((D.map fun x => (l ++ [m]).getD x 0).getD i 0 : Nat) : Int)) (fun x => V.int (((l ++ [m]).getD x 0 : Nat) : Int)) fun i n hn => by
            have hg : (D.map fun x => (l ++ [m]).getD x 0).getD i 0 = (l ++ [m]).getD n 0 := getD_at (by rw [List.getElem?_map, hn] <;> rfl)
            rw [hg]
          rw [this, vN, List.map_map] <;> rfl
        subst eys
        refine ⟨pa, _, rfl, .inl hpa, fun v H5 e5 hv => ?_⟩
        have all : ∀ x ∈ l ++ [m], x ≤ m := fun x hx => by
          rcases List.mem_append.mp hx with hx | hx
          · exact Nat.le_of_lt ((List.pairwise_append.mp hup).2.2 x hx m List.mem_cons_self)
          · rw [List.mem_singleton] at hx
            omega
        have hlt : ∀ x ∈ D, (l ++ [m]).getD x 0 < 10 := fun x hx => by
          have := all _ (List.mem_of_getElem? (hget x hx))
          omega
        have e25 : ExS [la, st] H1 H5 := (exS_ex e2).trans (e3.trans (exS_ex (e4.trans e5)))
        refine q (.ref v) (D.map fun x => (l ++ [m]).getD x 0) H5 (e1.trans (exS_drop e25 nla)) ((hS3.ex e4).ex e5) (td_nat hv) ⟨by rw [List.length_map, hDl], fun r hr => ?_, dn_through hD.isd _ (fun x y hx hy hxy => ?_) hlt⟩
        · obtain ⟨x, hx, rfl⟩ := List.mem_map.mp hr
          exact hlt x hx
        · obtain ⟨h1, h1'⟩ := List.getElem?_eq_some_iff.mp (hget x hx)
          obtain ⟨h2, h2'⟩ := List.getElem?_eq_some_iff.mp (hget y hy)
          rw [← h1', ← h2']
          exact List.pairwise_iff_getElem.mp hup x y h1 h2 hxy
end
end K69
namespace K69
open PySem PySem.Spec PyProof.Rows L2
open Evl (Ex given)
theorem aimss_inv {a : PyData} : ∀ {ts : List Tr}, a ∈ Tr.aimss ts → ∃ t ∈ ts, a ∈ t.aims
  | [], h => by cases h
  | u :: ts, h => by
    have h : a ∈ u.aims ++ Tr.aimss ts := h
    rcases List.mem_append.mp h with z | z
    · exact ⟨u, List.mem_cons_self, z⟩
    · obtain ⟨t, ht, ha⟩ := aimss_inv z
      exact ⟨t, List.mem_cons_of_mem _ ht, ha⟩
theorem ord_node {k : Nat} {D : List Nat} {p : Nat} {a : PyData} {ts : List Tr} (h : OrdA k D a) (hs : ∀ t ∈ ts, Ord k D t) : Ord k D (.node p a ts) := fun b hb => by
  rcases List.mem_cons.mp hb with e | hb
  · rw [e]; exact h
  · obtain ⟨t, ht, hb⟩ := aimss_inv hb
    exact hs t ht b hb
theorem DOk.ag {k : Nat} {D : List Nat} (h : DOk k D) : DOk k (ag D) := by
  have hne : D ≠ [] := fun e => by
    have h1 := h.len
    have h2 := h.one
    rw [e] at h1
    simp at h1
    omega
  exact ⟨by rw [ag_len, h.len], ag_isD h.isd hne, h.one, h.four⟩
section
variable {P : Program} {w : World} {K : PySem.W.Frag} {mg : Str → Option Value} {base : Heap}
/-! ### _law_sided_tree -/
def spST (d : Nat) : Sp := fun vs H Q _ => ∃ (st sc oa ro : Addr) (dv gv : V) (k : Nat) (D : List Nat) (m lv : Nat), vs = [.ref st, .int (k : Int), .ref oa, .ref ro, .int (lv : Int)] ∧ DOk k D ∧ StAt H st sc ∧ H oa = some (.lst [dv, gv]) ∧ TD H dv (dN D) ∧ TD H gv (dN (ag D)) ∧ H ro = some (.lst [.int (m : Int)]) ∧ ro ≠ sc ∧ m < d ∧ m ≤ 100 ∧
  ∀ v' H' t m', ExS [st, ro] H H' → StAt H' st sc → H' ro = some (.lst [.int ((m' : Nat) : Int)]) → t.cnt + m' ≤ m → TD H' v' t.dat → t.Fit k → Ord k D t → Q v' H'
theorem sc__law_sided_tree : FnScope ["_law_state", "_law_k", "_law_orders", "_law_room", "_law_levels", "_law_order", "_law_n", "_law_head", "_law_x"] ["_law_state", "_law_k", "_law_orders", "_law_room", "_law_levels"] (defScope (topS 85)) := ⟨rfl, rfl, rfl, by decide +kernel, rfl, by decide +kernel, by decide +kernel⟩
theorem c__law_sided_tree (T : Txt K mg w) : ∀ d : Nat, Cal P w K mg base CX0 (d + 3) "_law_sided_tree" ["_law_state", "_law_k", "_law_orders", "_law_room", "_law_levels"] (spST d) := by
  intro d
  induction d with
  | zero =>
    refine mkCal (T.d__law_sided_tree) sc__law_sided_tree (fun _ _ _ _ _ _ us hl => match us, hl with | [_, _, _, _, _], _ => rfl) (fun vs H Q E h => ?_) (fun f cdv A outer s H vs Q E hr h => ?_)
    · obtain ⟨st, sc, oa, ro, dv, gv, k, D, m, lv, rfl, _⟩ := h
      rfl
    · obtain ⟨st, sc, oa, ro, dv, gv, k, D, m, lv, rfl, _, _, _, _, _, _, _, hd, _⟩ := h
      omega
  | succ d ih =>
  refine mkCal (T.d__law_sided_tree) sc__law_sided_tree (fun _ _ _ _ _ _ us hl => match us, hl with | [_, _, _, _, _], _ => rfl) (fun vs H Q E h => ?_) (fun f cdv A outer s H vs Q E hr h => ?_)
  · obtain ⟨st, sc, oa, ro, dv, gv, k, D, m, lv, rfl, _⟩ := h
    rfl
  · obtain ⟨st, sc, oa, ro, dv, gv, k, D, m, lv, rfl, hD, hS, hoa, hdv, hgv, hro, hrs, hmd, hm100, q⟩ := h
    have hk1 := hD.one
    have hk4 := hD.four
    have hrst : ro ≠ st := fun z => by
      obtain ⟨_, _, _, _, h1, _⟩ := hS
      rw [z, h1] at hro
      simp at hro
    have host : oa ≠ st := fun z => by
      obtain ⟨_, _, _, _, h1, _⟩ := hS
      rw [z, h1] at hoa
      simp at hoa
    have hoar : oa ≠ ro := fun z => by
      rw [z, hro] at hoa
      simp at hoa
    have m1 : ∀ z, z ∈ [st] → z ∈ [st, ro] := fun z hz => by
      rw [List.mem_singleton] at hz
      rw [hz]; exact List.mem_cons_self
    have m2 : ∀ z, z ∈ [ro] → z ∈ [st, ro] := fun z hz => List.mem_cons_of_mem _ hz
    refine ⟨_, (Evl.pss_cut (ps_if (PW.pt (pw_or (pt_cmpR op_eq (pe_ix (ix_lstK K) (pv 3) pe_int (fun _ _ => rfl)) pe_int (nomark _)) (pw_or1 (pt_cmpR op_eq (pe_cal (c__law_pick T) hr (by omega) (pa_cons (pv 0) (pa_cons (pe_ix (ix_lstK K) (pe_lstX (pa_cons pe_int (pa_cons pe_int (pa_cons pe_int (pa_cons pe_int (pa_cons pe_int pa_nil)))))) (pe_callB (call_min2 rfl) (by rfl) T.z_min (by decide +kernel) (pa_cons (pv 4) (pa_cons pe_int pa_nil))) (fun _ _ => rfl)) pa_nil))) pe_int (nomark _)))))
      (pss_one (ps_ret (pe_tupX (pa_cons pe_str (pa_cons (pe_cal (c__law_pick T) hr (by omega) (pa_cons (pv 0) (pa_cons (pv 1) pa_nil))) pa_nil)))))
      pss_nil)
      (pss_cons (ps_asg (pe_op op_sub (pe_ix (ix_lstK K) (pv 3) pe_int (fun _ _ => rfl)) pe_int) (pg_sub (pv 3) pe_int set_list))
      (pss_cons (ps_set (i := 5) sc__law_sided_tree.nd rfl (Or.inl rfl) (pe_ix (ix_lstK K) (pv 2) (pe_cal (c__law_pick T) hr (by omega) (pa_cons (pv 0) (pa_cons pe_int pa_nil))) (fun _ _ => rfl)))
      (pss_cons (ps_set (i := 6) sc__law_sided_tree.nd rfl (Or.inl rfl) (pe_op op_add pe_int (pe_cal (c__law_pick T) hr (by omega) (pa_cons (pv 0) (pa_cons pe_int pa_nil)))))
      (pss_cons (ps_set (i := 7) sc__law_sided_tree.nd rfl (Or.inl rfl) (pe_tupX (pa_cons pe_str (pa_cons (pe_cal (c__law_pick T) hr (by omega) (pa_cons (pv 0) (pa_cons pe_int pa_nil))) (pa_cons (pe_tupX (pa_cons pe_str (pa_cons (pe_cal (c__law_spaced T) hr (by omega) (pa_cons (pv 0) (pa_cons (pv 5) pa_nil))) pa_nil))) pa_nil)))))
      (pss_one (ps_ret (pe_op op_catX (pv 7) (pe_callTy call_tupX (by rfl) T.z_tuple (by decide +kernel) (pa_cons (pe_lc (own := [("_law_x", 8)]) rfl sc__law_sided_tree.nd (pi_range1 rfl T.z_range (pa_cons (pv 6) pa_nil)) (blkOk_by (by kernel_rfl)) (fun _ _ _ _ _ => (pg_name (i := 8) sc__law_sided_tree.nd rfl (Or.inl rfl))) (fun _ _ _ _ _ => pts_nil) (fun _ _ _ _ _ => (pe_cal ih hr (by omega) (pa_cons (pv 0) (pa_cons (pv 1) (pa_cons (pv 2) (pa_cons (pv 3) (pa_cons (pe_op op_add (pv 4) pe_int) pa_nil)))))))) pa_nil)))))))))), ?_⟩
    refine ⟨fun σ H1 => σ = [some (.ref st), some (.int (k : Int)), some (.ref oa), some (.ref ro), some (.int (lv : Int)), none, none, none, none] ∧ 1 ≤ m ∧ ExS [st] H H1 ∧ StAt H1 st sc, ?_, ?_⟩
    · refine ⟨_, rfl, ro, _, 0, _, rfl, rfl, SqL.of hro, atN (i := 0) rfl, rfl, decide (m = 0), ?_, ?_⟩
      · show V.bl (decide (V.int (m : Int) = V.int 0)) = _
        rw [show decide (V.int (m : Int) = V.int 0) = decide (m = 0) from decide_eq_decide.mpr ⟨fun z => by have := V.int.inj z; omega, fun z => by rw [z] <;> rfl⟩]
      by_cases hm0 : m = 0
      · rw [decide_eq_true hm0]
        refine iteT (iteT ⟨_, rfl, _, rfl, st, sc, k, rfl, hS, hk1, by omega, fun r H1 hr1 e1 hS1 => ⟨by show 2 ≤ 100000; decide, fun p H2 np e2 hp => ?_⟩⟩)
        refine q (.ref p) H2 (.leaf r) m (exS_mono (e1.trans (exS_ex e2)) m1) (hS1.ex e2) (e2 _ _ (e1 _ _ hro (by simpa using hrst))) (by show 0 + m ≤ m; omega) (.tup hp (.cons (.str _) (.cons (.int _) .nil))) hr1 (fun a ha => by cases ha)
      · rw [decide_eq_false hm0]
        refine iteF ?_
        refine ⟨_, rfl, by show 5 ≤ 100000; decide, fun pl H1 npl e1 hpl => ⟨_, rfl, _, _, rfl, ?_⟩⟩
        have hix : ∃ c : Nat, c < 5 ∧ (if (4 : Int) < (lv : Int) then (4 : Int) else (lv : Int)) = (c : Int) := by
          by_cases z : (4 : Int) < (lv : Int)
          · exact ⟨4, by decide, by rw [if_pos z] <;> rfl⟩
          · exact ⟨lv, by omega, by rw [if_neg z]⟩
        obtain ⟨c, hc5, ec⟩ := hix
        rw [ec]
        have hat : ∃ n : Nat, 1 ≤ n ∧ n ≤ 5 ∧ ([V.int 5, .int 3, .int 2, .int 2, .int 2])[c]? = some (.int (n : Int)) := by
          match c, hc5 with
          | 0, _ => exact ⟨5, by decide, by decide, rfl⟩
          | 1, _ => exact ⟨3, by decide, by decide, rfl⟩
          | 2, _ => exact ⟨2, by decide, by decide, rfl⟩
          | 3, _ => exact ⟨2, by decide, by decide, rfl⟩
          | 4, _ => exact ⟨2, by decide, by decide, rfl⟩
        obtain ⟨n, hn1, hn5, hat⟩ := hat
        refine ⟨pl, _, _, _, rfl, rfl, SqL.of hpl, atN hat, st, sc, n, rfl, hS.ex e1, hn1, by omega, fun r H2 hr2 e2 hS2 => ?_⟩
        refine ⟨rfl, decide (r = 0), ?_, ?_⟩
        · show V.bl (decide (V.int (r : Int) = V.int 0)) = _
          rw [show decide (V.int (r : Int) = V.int 0) = decide (r = 0) from decide_eq_decide.mpr ⟨fun z => by have := V.int.inj z; omega, fun z => by rw [z] <;> rfl⟩]
        have e12 : ExS [st] H H2 := (exS_ex e1).trans e2
        by_cases hr0 : r = 0
        · rw [decide_eq_true hr0]
          refine iteT ⟨_, rfl, _, rfl, st, sc, k, rfl, hS2, hk1, by omega, fun r3 H3 hr3 e3 hS3 => ⟨by show 2 ≤ 100000; decide, fun p H4 np e4 hp => ?_⟩⟩
          refine q (.ref p) H4 (.leaf r3) m (exS_mono ((e12.trans e3).trans (exS_ex e4)) m1) (hS3.ex e4) (e4 _ _ ((e12.trans e3) _ _ hro (by simpa using hrst))) (by show 0 + m ≤ m; omega) (.tup hp (.cons (.str _) (.cons (.int _) .nil))) hr3 (fun a ha => by cases ha)
        · rw [decide_eq_false hr0]
          exact iteF ⟨rfl, by omega, e12, hS2⟩
    · rintro σ H1 ⟨rfl, hm1, e1, hS1⟩
      have hro1 := e1 _ _ hro (by simpa using hrst)
      refine ⟨_, rfl, ro, _, 0, _, rfl, rfl, SqL.of hro1, atN (i := 0) rfl, _, _, rfl, rfl, _, rfl, ro, _, 0, 0, rfl, rfl, hro1, rfl, ?_⟩
      have em1 : ((m : Int) - 1) = ((m - 1 : Nat) : Int) := by omega
      have k2 : ∀ (H2 : Hp), H2 = upd H1 ro (.lst (List.set [V.int (m : Int)] 0 (.int ((m : Int) - 1)))) → ExS [st, ro] H H2 ∧ StAt H2 st sc ∧ H2 ro = some (.lst [.int ((m - 1 : Nat) : Int)]) := fun H2 e => by
        subst e
        refine ⟨(exS_mono e1 m1).trans (exS_mono exS_upd m2), hS1.exS exS_upd (by simpa using hrst.symm) (by simpa using hrs.symm), ?_⟩
        rw [upd_same]
        show some (HO.lst [V.int ((m : Int) - 1)]) = _
        rw [em1]
      obtain ⟨e2, hS2, hro2⟩ := k2 _ rfl
      revert e2 hS2 hro2
      show ∀ (_ : ExS [st, ro] H (upd H1 ro (.lst (List.set [V.int (m : Int)] 0 (.int ((m : Int) - 1)))))) (_ : StAt (upd H1 ro (.lst (List.set [V.int (m : Int)] 0 (.int ((m : Int) - 1))))) st sc) (_ : (upd H1 ro (.lst (List.set [V.int (m : Int)] 0 (.int ((m : Int) - 1))))) ro = some (.lst [.int ((m - 1 : Nat) : Int)])), _
      generalize (upd H1 ro (.lst (List.set [V.int (m : Int)] 0 (.int ((m : Int) - 1))))) = H2
      intro e2 hS2 hro2
      have kp2 : ∀ {H' : Hp}, ExS [st, ro] H H' → Kp H H' := fun e => kp_exS e fun z hz => by
        rcases List.mem_cons.mp hz with rfl | hz
        · obtain ⟨_, _, _, _, h1, _⟩ := hS
          exact ⟨_, h1⟩
        rw [List.mem_singleton] at hz
        subst hz
        exact ⟨_, hro⟩
      have hoan : oa ∉ [st, ro] := fun z => by
        rcases List.mem_cons.mp z with z | z
        · exact host z
        · rw [List.mem_singleton] at z
          exact hoar z
      -- the order
      refine ⟨_, rfl, _, rfl, st, sc, 2, rfl, hS2, by decide, by decide, fun r H3 hr3 e3 hS3 => ?_⟩
      have e3' : ExS [st, ro] H H3 := e2.trans (exS_mono e3 m1)
      have hov : ∃ (ov : V) (D' : List Nat), [dv, gv][r]? = some ov ∧ TD H ov (dN D') ∧ DOk k D' ∧ (D' = D ∨ D' = K69.ag D) := by
        match r, hr3 with
        | 0, _ => exact ⟨dv, D, rfl, hdv, hD, .inl rfl⟩
        | 1, _ => exact ⟨gv, K69.ag D, rfl, hgv, hD.ag, .inr rfl⟩
      obtain ⟨ov, D', hov, hovT, hD', hDD⟩ := hov
      refine ⟨oa, _, _, ov, rfl, rfl, SqL.of (e3' _ _ hoa hoan), atN hov, ?_⟩
      -- how many
      refine ⟨_, rfl, st, sc, 3, rfl, hS3, by decide, by decide, fun r2 H4 hr4 e4 hS4 => ⟨_, _, rfl, rfl, ?_⟩⟩
      have e4' := e3'.trans (exS_mono e4 m1)
      -- the head
      refine ⟨_, rfl, st, sc, 8, rfl, hS4, by decide, by decide, fun pl H5 hpl e5 hS5 => ?_⟩
      have e5' := e4'.trans (exS_mono e5 m1)
      refine ⟨_, rfl, _, rfl, st, sc, ov, k, D', rfl, hS5, hovT.kp (kp2 e5'), hD', fun rv row H6 e6 hS6 hrv hrow => ⟨by show 2 ≤ 100000; decide, fun p6 H7 np6 e7 hp6 => ⟨by show 3 ≤ 100000; decide, fun p7 H8 np7 e8 hp7 => ?_⟩⟩⟩
      have e8' : ExS [st, ro] H H8 := (e5'.trans (exS_mono e6 m1)).trans (exS_ex (e7.trans e8))
      have hS8 := hS6.ex (e7.trans e8)
      have hro8 : H8 ro = some (.lst [.int ((m - 1 : Nat) : Int)]) := by
        refine (e7.trans e8) _ _ (e6 _ _ (e5 _ _ (e4 _ _ (e3 _ _ hro2 ?_) ?_) ?_) ?_) <;> simpa using hrst
      refine ⟨_, rfl, _, rfl, _, rfl, (by show (-(2 ^ 62) : Int) ≤ 1 + (r2 : Int); omega), (by show (1 : Int) + (r2 : Int) < 2 ^ 62; omega), fun D9 nD9 => ?_⟩
      rw [show ((1 : Int) + (r2 : Int)).toNat = 1 + r2 by omega]
      have n9st : D9 ≠ st := fun z => by
        obtain ⟨_, _, _, _, h1, _⟩ := hS8
        rw [z, h1] at nD9
        cases nD9
      have n9sc : D9 ≠ sc := fun z => by
        obtain ⟨_, _, _, _, _, h1, _⟩ := hS8
        rw [z, h1] at nD9
        cases nD9
      have n9ro : D9 ≠ ro := fun z => by
        rw [z, hro8] at nD9
        cases nD9
      have m9 : ∀ z, z ∈ [D9] → z ∈ [D9, st, ro] := fun z hz => by
        rw [List.mem_singleton] at hz
        rw [hz]; exact List.mem_cons_self
      have m92 : ∀ z, z ∈ [st, ro] → z ∈ [D9, st, ro] := fun z hz => List.mem_cons_of_mem _ hz
      refine lcs_rng (n := 1 + r2) (fun i ys H9 => ExS [D9, st, ro] H8 H9 ∧ StAt H9 st sc ∧ ∃ (us : List Tr) (mi : Nat), H9 ro = some (.lst [.int ((mi : Nat) : Int)]) ∧ TDs H9 ys (us.map Tr.dat) ∧ us.length = i ∧ Tr.cnts us + mi ≤ m - 1 ∧ ∀ u ∈ us, u.Fit k ∧ Ord k D u) (by omega) (fun _ => rfl) ?_ ?_ ?_ ?_
      · rintro i ys zs xs H9 hz ⟨g1, g2, us, mi, g3, g4, g5, g6, g7⟩
        refine ⟨g1.trans (exS_mono exS_upd m9), g2.exS exS_upd (by simpa using n9st.symm) (by simpa using n9sc.symm), us, mi, by rw [upd_ne n9ro.symm]; exact g3, g4.kp (kp_exS exS_upd fun z hz2 => ?_), g5, g6, g7⟩
        rw [List.mem_singleton] at hz2
        subst hz2
        exact ⟨_, hz⟩
      · refine ⟨exS_mono exS_upd m9, hS8.exS exS_upd (by simpa using n9st.symm) (by simpa using n9sc.symm), [], m - 1, by rw [upd_ne n9ro.symm]; exact hro8, .nil, rfl, (by show 0 + (m - 1) ≤ m - 1; omega), fun u hu => (by cases hu)⟩
      · rintro i ys H9 ⟨g1, g2, us, mi, g3, g4, g5, g6, g7⟩ hz hi Q' q'
        have n9oa : D9 ≠ oa := fun z => by
          have := e8' _ _ hoa hoan
          rw [z, this] at nD9
          cases nD9
        have hoa9 : H9 oa = some (.lst [dv, gv]) := g1 _ _ (e8' _ _ hoa hoan) fun z => by
          rcases List.mem_cons.mp z with z | z
          · exact n9oa z.symm
          · exact hoan z
        have kp89 : Kp H8 H9 := fun a o ha nl => g1 a o ha fun z => by
          rcases List.mem_cons.mp z with z | z
          · rw [z, nD9] at ha
            cases ha
          rcases List.mem_cons.mp z with z | z
          · obtain ⟨_, _, _, _, h1, _⟩ := hS8
            rw [z, h1] at ha
            exact nl _ (Option.some.inj ha).symm
          · rw [List.mem_singleton] at z
            rw [z, hro8] at ha
            exact nl _ (Option.some.inj ha).symm
        have kpa := (kp2 e8').trans kp89
        refine ⟨_, rfl, _, rfl, _, rfl, _, rfl, _, rfl, _, _, rfl, rfl, st, sc, oa, ro, dv, gv, k, D, mi, lv + 1, rfl, hD, g2, hoa9, hdv.kp kpa, hgv.kp kpa, g3, hrs, by omega, by omega, fun v' H10 t m' e10 hS10 hro10 hc hTt hFt hOt => ?_⟩
        have hz10 := e10 _ _ hz (by simp; exact ⟨n9st, n9ro⟩)
        have k910 : Kp H9 H10 := kp_exS e10 fun z hz2 => by
          rcases List.mem_cons.mp hz2 with rfl | hz2
          · obtain ⟨_, _, _, _, h1, _⟩ := g2
            exact ⟨_, h1⟩
          rw [List.mem_singleton] at hz2
          subst hz2
          exact ⟨_, g3⟩
        refine q' v' H10 hz10 ⟨g1.trans (exS_mono e10 m92), hS10, us ++ [t], m', hro10, ?_, by rw [List.length_append, g5] <;> rfl, ?_, ?_⟩
        · rw [List.map_append]
          exact (g4.kp k910).app (.cons hTt .nil)
        · rw [cnts_snoc]
          omega
        · intro u hu
          rcases List.mem_append.mp hu with hu | hu
          · exact g7 u hu
          · rw [List.mem_singleton] at hu
            rw [hu]
            exact ⟨hFt, hOt⟩
      · rintro H9 ys hz hyl ⟨g1, g2, us, mi, g3, g4, g5, g6, g7⟩
        have kp89 : Kp H8 H9 := fun a o ha nl => g1 a o ha fun z => by
          rcases List.mem_cons.mp z with z | z
          · rw [z, nD9] at ha
            cases ha
          rcases List.mem_cons.mp z with z | z
          · obtain ⟨_, _, _, _, h1, _⟩ := hS8
            rw [z, h1] at ha
            exact nl _ (Option.some.inj ha).symm
          · rw [List.mem_singleton] at z
            rw [z, hro8] at ha
            exact nl _ (Option.some.inj ha).symm
        refine ⟨D9, ys, rfl, .inl hz, fun l H10 e10 hl => ?_⟩
        refine ⟨p7, l, _, ys, rfl, rfl, e10 _ _ (kp89.tup hp7), hl, by show 3 + ys.length ≤ 100000; omega, fun p8 H11 e11 hp8 => ?_⟩
        have e911 := e10.trans e11
        have e8'' : ExS [D9, st, ro] H8 H11 := g1.trans (exS_ex e911)
        refine q (.ref p8) H11 (.node pl (.tuple [.str "best", dN row]) us) mi (e8'.trans (exS_drop e8'' nD9)) (g2.ex e911) (e911 _ _ g3) ?_ ?_ ?_ ?_
        · show Tr.cnts us + 1 + mi ≤ m
          omega
        · refine .tup hp8 (.cons (.str _) (.cons (.int _) (.cons ?_ ?_)))
          · exact ((TD.tup hp6 (.cons (.str _) (.cons (hrv.ex e7) .nil))).ex e8).kp (kp89.trans (kp_ex e911))
          · rw [dats_map]
            exact g4.ex e911
        · refine ⟨hpl, AimOk.best hrow.len hrow.lt, by omega, by omega, fits_mem.mpr fun u hu => (g7 u hu).1⟩
        · refine ord_node ⟨row, rfl, hrow.len, hrow.lt, ?_⟩ fun u hu => (g7 u hu).2
          rw [hrow.dn]
          exact hDD
end
end K69
namespace K69
open PySem PySem.Spec PyProof.Rows L2
open Evl (Ex given)
section
variable {P : Program} {w : World} {K : PySem.W.Frag} {mg : Str → Option Value} {base : Heap}
/-! ### _law_with_aim -/
def spWA (d : Nat) : Sp := fun vs H Q _ => ∃ (tv av : V) (i : Int) (k : Nat) (t : Tr) (b : PyData), vs = [tv, .int i, av] ∧ TD H tv t.dat ∧ TD H av b ∧ t.Fit k ∧ t.dep < d ∧ ∀ v' H', Ex H H' → TD H' v' (wa i b t).dat → Q v' H'
theorem sc__law_with_aim : FnScope ["_law_tree", "_law_at", "_law_aim", "_law_trees", "_law_rest", "_law_child"] ["_law_tree", "_law_at", "_law_aim"] (defScope (topS 89)) := ⟨rfl, rfl, rfl, by decide +kernel, rfl, by decide +kernel, by decide +kernel⟩
theorem c__law_with_aim (T : Txt K mg w) : ∀ d : Nat, Cal P w K mg base CX0 (d + 2) "_law_with_aim" ["_law_tree", "_law_at", "_law_aim"] (spWA d) := by
  intro d
  induction d with
  | zero =>
    refine mkCal (T.d__law_with_aim) sc__law_with_aim (fun _ _ _ _ _ _ us hl => match us, hl with | [_, _, _], _ => rfl) (fun vs H Q E h => ?_) (fun f cdv A outer s H vs Q E hr h => ?_)
    · obtain ⟨tv, av, i, k, t, b, rfl, _⟩ := h
      rfl
    · obtain ⟨tv, av, i, k, t, b, rfl, _, _, _, hd, _⟩ := h
      omega
  | succ d ih =>
  refine mkCal (T.d__law_with_aim) sc__law_with_aim (fun _ _ _ _ _ _ us hl => match us, hl with | [_, _, _], _ => rfl) (fun vs H Q E h => ?_) (fun f cdv A outer s H vs Q E hr h => ?_)
  · obtain ⟨tv, av, i, k, t, b, rfl, _⟩ := h
    rfl
  · obtain ⟨tv, av, i, k, t, b, rfl, hT, hav, hF, hd, q⟩ := h
    refine ⟨_, (pss_cons (ps_if (PW.pt (pw_or (pt_cmpR op_eq (pe_ix (ix_tupK K) (pv 0) pe_int (fun _ _ => rfl)) pe_str (nomark _)) (pw_or1 (pt_cmpR op_lt (pv 1) pe_int (nomark _)))))
      (pss_one (ps_ret (pv 0)))
      pss_nil)
      (pss_cons (ps_if (pt_cmpR op_eq (pv 1) pe_int (nomark _))
      (pss_one (ps_ret (pe_op op_catX (pe_tupX (pa_cons pe_str (pa_cons (pe_ix (ix_tupK K) (pv 0) pe_int (fun _ _ => rfl)) (pa_cons (pv 2) pa_nil)))) (pe_slice sl_tupX (pv 0) (po_some pe_int) po_none))))
      pss_nil)
      (pss_cons (ps_set (i := 3) sc__law_with_aim.nd rfl (Or.inl rfl) (pe_lstX pa_nil))
      (pss_cons (ps_set (i := 4) sc__law_with_aim.nd rfl (Or.inl rfl) (pe_op op_sub (pv 1) pe_int))
      (pss_cons (ps_for PassesOwn.never rfl (pi_tupK K (pe_slice sl_tupX (pv 0) (po_some pe_int) po_none)) (pg_name (i := 5) sc__law_with_aim.nd rfl (Or.inl rfl))
      (pss_cons (ps_expr (pe_appX (pe_bm PySem.F.plainAttrs_list PySem.F.slot_list_append PySem.F.type_list_append mt_append (PE.up (pv 3)) (pa_cons (PE.up (pe_cal ih hr (by omega) (pa_cons (pv 5) (pa_cons (pv 4) (pa_cons (pv 2) pa_nil))))) pa_nil))))
        (pss_one (ps_set (i := 4) sc__law_with_aim.nd rfl (Or.inl rfl) (pe_op op_sub (pv 4) (pe_cal (c__law_count T d) hr (by omega) (pa_cons (pv 5) pa_nil)))))))
      (pss_one (ps_ret (pe_op op_catX (pe_slice sl_tupX (pv 0) po_none (po_some pe_int)) (pe_callTy call_tupX (by rfl) T.z_tuple (by decide +kernel) (pa_cons (pv 3) pa_nil)))))))))), ?_⟩
    cases t with
    | leaf r =>
      obtain ⟨a, rfl, ha⟩ := leaf_inv hT
      refine ⟨.ref a, rfl, a, _, 0, _, rfl, rfl, SqT.of ha, atN (i := 0) rfl, rfl, true, by decide +kernel, iteT ?_⟩
      exact ⟨_, rfl, q (.ref a) H (Ex.refl H) hT⟩
    | node p a ts =>
      obtain ⟨a', bv, cvs, rfl, ha, hbv, hcvs, hcl⟩ := node_inv hT
      obtain ⟨hp8, hA, hn1, hn3, hFs⟩ := hF
      have hwa : wa i b (.node p a ts) = if i < 0 then .node p a ts else if i = 0 then .node p b ts else .node p a (was (i - 1) b ts) := rfl
      refine ⟨.ref a', rfl, a', _, 0, _, rfl, rfl, SqT.of ha, atN (i := 0) rfl, rfl, false, by decide +kernel, iteF ?_⟩
      refine ⟨_, rfl, _, _, rfl, rfl, decide (i < 0), rfl, ?_⟩
      by_cases hneg : i < 0
      · rw [decide_eq_true hneg]
        rw [if_pos hneg] at hwa
        exact iteT ⟨_, rfl, q (.ref a') H (Ex.refl H) (by rw [hwa]; exact hT)⟩
      rw [decide_eq_false hneg]
      rw [if_neg hneg] at hwa
      refine iteF ⟨_, rfl, rfl, decide (i = 0), ?_, ?_⟩
      · show V.bl (decide (V.int i = V.int 0)) = _
        rw [show decide (V.int i = V.int 0) = decide (i = 0) from decide_eq_decide.mpr ⟨fun z => V.int.inj z, fun z => by rw [z]⟩]
      by_cases h0 : i = 0
      · rw [decide_eq_true h0]
        rw [if_pos h0] at hwa
        refine iteT ⟨.ref a', rfl, a', _, 1, _, rfl, rfl, SqT.of ha, atN (i := 1) rfl, _, rfl, by show 3 ≤ 100000; decide, fun p1 H1 np1 e1 hp1 => ?_⟩
        refine ⟨.ref a', rfl, _, rfl, a', _, rfl, e1 _ _ ha, fun ca H2 e2 hca => ?_⟩
        have hca : H2 ca = some (.tup cvs) := by
          rw [show (some (3 : Int)) = some (((3 : Nat) : Int)) from rfl, cut_from] at hca
          exact hca
        refine ⟨p1, ca, _, cvs, rfl, rfl, e2 _ _ hp1, hca, by show 3 + cvs.length ≤ 100000; omega, fun p2 H3 e3 hp2 => q (.ref p2) H3 ((e1.trans e2).trans e3) ?_⟩
        have e13 := (e1.trans e2).trans e3
        rw [hwa]
        exact .tup hp2 (.cons (.str _) (.cons (.int _) (.cons (hav.ex e13) (hcvs.ex e13))))
      rw [decide_eq_false h0]
      rw [if_neg h0] at hwa
      refine iteF ⟨by show 0 ≤ 100000; decide, fun la H1 nla e1 hla => ?_⟩
      refine ⟨_, rfl, _, _, rfl, rfl, ?_⟩
      refine ⟨.ref a', rfl, _, rfl, a', _, rfl, e1 _ _ ha, fun ca H2 e2 hca => ?_⟩
      have hca : H2 ca = some (.tup cvs) := by
        rw [show (some (3 : Int)) = some (((3 : Nat) : Int)) from rfl, cut_from] at hca
        exact hca
      have e12 := e1.trans e2
      have exn : ∀ {H3 : Hp}, ExS [la] H2 H3 → Ex H H3 := fun e => ex_over nla e12 e
      refine ⟨ca, rfl, ⟨_, SqT.of hca⟩, for_it (walk_tup (xs := cvs)) (fun n σ H3 => ∃ (u : Option V) (ws : List V), σ = [some (.ref a'), some (.int i), some av, some (.ref la), some (.int (i - 1 - (Tr.cnts (ts.take n) : Int))), u] ∧ ExS [la] H2 H3 ∧ H3 la = some (.lst ws) ∧ TDs H3 ws (((was (i - 1) b ts).take n).map Tr.dat) ∧ ws.length = n) ⟨none, [], ?_, ExS.refl _ _, e2 _ _ hla, .nil, rfl⟩ ?_ ?_ ?_⟩
      · show [some (V.ref a'), some (.int i), some av, some (.ref la), some (.int (i - 1)), none] = _
        rw [show (i - 1 - ((Tr.cnts (ts.take 0) : Nat) : Int)) = i - 1 by show i - 1 - ((0 : Nat) : Int) = i - 1; omega]
      · rintro n σ H3 hn ⟨u, ws, rfl, e3, h1, h2, h3⟩
        refine SqT.of (e3 _ _ hca fun z => ?_)
        rw [List.mem_singleton] at z
        rw [z, e2 _ _ hla] at hca
        cases hca
      · rintro n cv σ H3 H3' hn ⟨u, ws, rfl, e3, h1, h2, h3⟩ ⟨eH, hcv⟩
        subst eH
        obtain ⟨dd, hd2, hT2⟩ := hcvs.at' hcv
        rw [dats_map, List.getElem?_map] at hd2
        cases hu : ts[n]? with
        | none => rw [hu] at hd2; cases hd2
        | some c =>
          rw [hu] at hd2
          have ed : c.dat = dd := Option.some.inj hd2
          subst ed
          have hum := List.mem_of_getElem? hu
          have hdu : c.dep < d := by
            have h1 := deps_le hum
            have h2 : Tr.deps ts + 1 < d + 1 := hd
            omega
          have hcF := fits_mem.mp hFs c hum
          have en := exn e3
          have hws := was_at (b := b) (i := i - 1) hu
          refine ⟨_, rfl, la, rfl, ⟨_, h1⟩, _, rfl, _, rfl, _, rfl, cv, av, _, k, c, b, rfl, hT2.ex en, hav.ex en, hcF, hdu, fun v' H4 e4 hv => ⟨ws, e4 _ _ h1, by omega, fun H5 e5 h5 => ?_⟩⟩
          have k45 : Kp H4 H5 := kp_exS e5 fun z hz => by
            rw [List.mem_singleton] at hz
            subst hz
            exact ⟨_, e4 _ _ h1⟩
          refine ⟨_, rfl, _, rfl, cv, c, rfl, ((hT2.ex en).ex e4).kp k45, hdu, fun p' b' us hs => (sub_fit hcF hs).2.2.2.1, fun H6 e6 => ⟨_, _, rfl, rfl, ?_⟩⟩
          refine ⟨some cv, ws ++ [v'], ?_, ((e3.trans (exS_ex e4)).trans e5).trans (exS_ex e6), e6 _ _ h5, ?_, by rw [List.length_append, h3] <;> rfl⟩
          · show [some (V.ref a'), some (.int i), some av, some (.ref la), some (.int (i - 1 - ((Tr.cnts (ts.take n) : Nat) : Int) - ((c.cnt : Nat) : Int))), some cv] = _
            rw [take_succ_of hu, cnts_snoc, show (i - 1 - ((Tr.cnts (ts.take n) : Nat) : Int) - ((c.cnt : Nat) : Int)) = i - 1 - ((Tr.cnts (ts.take n) + c.cnt : Nat) : Int) by omega]
          · rw [take_succ_of hws, List.map_append]
            exact (((h2.ex e4).kp k45).ex e6).app (.cons ((hv.kp k45).ex e6) .nil)
      · rintro σ H3 ⟨u, ws, rfl, e3, h1, h2, h3⟩
        have en := exn e3
        rw [hcl, ← was_len (b := b) (i := i - 1), List.take_length] at h2
        refine ⟨.ref a', rfl, _, rfl, a', _, rfl, en _ _ ha, fun ha3 H4 e4 hha3 => ?_⟩
        have hha : H4 ha3 = some (.tup [.str "node", .int (p : Int), bv]) := by
          rw [show (some (3 : Int)) = some (((3 : Nat) : Int)) from rfl, cut_to] at hha3
          exact hha3
        refine ⟨_, rfl, la, ws, rfl, .inl (e4 _ _ h1), fun l H5 e5 hl => ?_⟩
        refine ⟨ha3, l, _, ws, rfl, rfl, e5 _ _ hha, hl, by show 3 + ws.length ≤ 100000; omega, fun p2 H6 e6 hp2 => q (.ref p2) H6 (en.trans ((e4.trans e5).trans e6)) ?_⟩
        have e36 := (e4.trans e5).trans e6
        rw [hwa]
        refine .tup hp2 (.cons (.str _) (.cons (.int _) (.cons ((hbv.ex en).ex e36) ?_)))
        rw [dats_map]
        exact h2.ex e36
end
end K69
namespace K69
open PySem PySem.Spec PyProof.Rows L2
open Evl (Ex given)
theorem hu65 {A : Around} {k : Nat} (r : Room k A) : A.units + 65 < cLine := by
  have := r.un
  omega
theorem rep_vN (a : Nat) : ∀ m : Nat, (List.replicate m [V.int (a : Int)]).flatten = vN (List.replicate m a)
  | 0 => rfl
  | m + 1 => by
    rw [List.replicate_succ, List.flatten_cons, rep_vN a m] <;> rfl
theorem inD2 (x a b : List Nat) : ([dN a, dN b].any fun z => PyData.eqv z (dN x)) = decide (x = a ∨ x = b) := by
  rw [List.any_cons, List.any_cons, List.any_nil, eqvN, eqvN]
  by_cases h1 : x = a <;> by_cases h2 : x = b <;> simp [h1, h2] <;> (try exact fun z => h1 z.symm) <;> (try exact fun z => h2 z.symm) <;> (try exact ⟨fun z => h1 z.symm, fun z => h2 z.symm⟩)
section
variable {P : Program} {w : World} {K : PySem.W.Frag} {mg : Str → Option Value} {base : Heap}
/-! ### _law_wrong_aim -/
def spWr : Sp := fun vs H Q _ => ∃ (st sc : Addr) (rv dv gv : V) (k : Nat) (D row : List Nat), vs = [.ref st, rv, dv, gv] ∧ StAt H st sc ∧ TD H rv (dN row) ∧ TD H dv (dN D) ∧ TD H gv (dN (ag D)) ∧ Row k D row ∧ DOk k D ∧
  ∀ v' b H', ExS [st] H H' → StAt H' st sc → TD H' v' b → AimOk k 3 b → BadA k D b → Q v' H'
theorem sc__law_wrong_aim : FnScope ["_law_state", "_law_ranks", "_law_dense_here", "_law_against", "_law_k", "_law_other", "_law_words", "_law_r"] ["_law_state", "_law_ranks", "_law_dense_here", "_law_against"] (defScope (topS 90)) := ⟨rfl, rfl, rfl, by decide +kernel, rfl, by decide +kernel, by decide +kernel⟩
theorem c__law_wrong_aim (T : Txt K mg w) : Cal P w K mg base CX0 2 "_law_wrong_aim" ["_law_state", "_law_ranks", "_law_dense_here", "_law_against"] spWr := by
  refine mkCal (T.d__law_wrong_aim) sc__law_wrong_aim (fun _ _ _ _ _ _ us hl => match us, hl with | [_, _, _, _], _ => rfl) (fun vs H Q E h => ?_) (fun f cdv A outer s H vs Q E hr h => ?_)
  · obtain ⟨st, sc, rv, dv, gv, k, D, row, rfl, _⟩ := h
    rfl
  · obtain ⟨st, sc, rv, dv, gv, k, D, row, rfl, hS, hrv, hdv, hgv, hR, hD, q⟩ := h
    obtain ⟨ra, rfl, hra⟩ := td_nat_inv hrv
    have hk1 := hD.one
    have hk4 := hD.four
    have hrl := hR.len
    refine ⟨_, (pss_cons (ps_set (i := 4) sc__law_wrong_aim.nd rfl (Or.inl rfl) (pe_callB (cr_lenK K) (by rfl) T.z_len (by decide +kernel) (pa_cons (pv 1) pa_nil)))
      (pss_cons (ps_set (i := 5) sc__law_wrong_aim.nd rfl (Or.inl rfl) (pe_callTy call_tupX (by rfl) T.z_tuple (by decide +kernel) (pa_cons (pe_lc (own := [("_law_r", 7)]) rfl sc__law_wrong_aim.nd (pi_range1 rfl T.z_range (pa_cons (pv 4) pa_nil)) (blkOk_by (by kernel_rfl)) (fun _ _ _ _ _ => (pg_name (i := 7) sc__law_wrong_aim.nd rfl (Or.inl rfl))) (fun _ _ _ _ _ => pts_nil) (fun _ _ _ _ _ => (pe_cal (c__law_pick T) hr (by omega) (pa_cons (pv 0) (pa_cons pe_int pa_nil))))) pa_nil)))
      (Evl.pss_cut (ps_if (pt_cmpR (op_inDK K (hu65 hr)) (pe_cal (c__law_dense T) hr (by omega) (pa_cons (pv 5) pa_nil)) (pe_lstX (pa_cons (pv 2) (pa_cons (pv 3) pa_nil))) (by rfl))
      (pss_one (ps_set (i := 5) sc__law_wrong_aim.nd rfl (Or.inl rfl) (pe_op op_repA (pe_tupX (pa_cons pe_int pa_nil)) (pv 4))))
      pss_nil)
      (Evl.pss_cut (ps_if (pt_cmpR (op_inDK K (hu65 hr)) (pe_cal (c__law_dense T) hr (by omega) (pa_cons (pv 5) pa_nil)) (pe_lstX (pa_cons (pv 2) (pa_cons (pv 3) pa_nil))) (by rfl))
      (pss_one (ps_set (i := 5) sc__law_wrong_aim.nd rfl (Or.inl rfl) (pe_op op_catX (pe_tupX (pa_cons pe_int pa_nil)) (pe_op op_repA (pe_tupX (pa_cons pe_int pa_nil)) (pe_op op_sub (pv 4) pe_int)))))
      pss_nil)
      (Evl.pss_cut (ps_if (PW.pt (pw_and (pt_cmpR op_gt (pv 4) pe_int (nomark _)) (pw_and1 (pt_cmpR op_eq (pe_cal (c__law_pick T) hr (by omega) (pa_cons (pv 0) (pa_cons pe_int pa_nil))) pe_int (nomark _)))))
      (pss_one (ps_ret (pe_tupX (pa_cons pe_str (pa_cons (pv 5) pa_nil)))))
      pss_nil)
      (pss_cons (ps_set (i := 6) sc__law_wrong_aim.nd rfl (Or.inl rfl) (pe_lstX (pa_cons (pe_tupX (pa_cons pe_str pa_nil)) (pa_cons (pe_tupX (pa_cons pe_str pa_nil)) (pa_cons (pe_tupX (pa_cons pe_str (pa_cons (pe_tupX (pa_cons pe_str (pa_cons (pv 1) pa_nil))) pa_nil))) (pa_cons (pe_tupX (pa_cons pe_str (pa_cons (pv 1) pa_nil))) (pa_cons (pe_tupX (pa_cons pe_str (pa_cons (pe_tupX (pa_cons pe_str (pa_cons (pe_tupX (pa_cons pe_str (pa_cons (pv 1) pa_nil))) pa_nil))) pa_nil))) pa_nil)))))))
      (pss_one (ps_ret (pe_ix (ix_lstK K) (pv 6) (pe_cal (c__law_pick T) hr (by omega) (pa_cons (pv 0) (pa_cons pe_int pa_nil))) (fun _ _ => rfl)))))))))), ?_⟩
    refine ⟨_, rfl, ra, _, rfl, .inr (SqT.of hra), ?_⟩
    rw [vN_len, hrl]
    refine ⟨_, rfl, _, rfl, by omega, by omega, fun D9 nD9 => ?_⟩
    rw [show ((k : Nat) : Int).toNat = k by omega]
    have n9st : D9 ≠ st := fun z => by
      obtain ⟨_, _, _, _, h1, _⟩ := hS
      rw [z, h1] at nD9
      cases nD9
    have n9sc : D9 ≠ sc := fun z => by
      obtain ⟨_, _, _, _, _, h1, _⟩ := hS
      rw [z, h1] at nD9
      cases nD9
    have m9 : ∀ z, z ∈ [D9] → z ∈ [D9, st] := fun z hz => by
      rw [List.mem_singleton] at hz
      rw [hz]; exact List.mem_cons_self
    have m92 : ∀ z, z ∈ [st] → z ∈ [D9, st] := fun z hz => List.mem_cons_of_mem _ hz
    refine lcs_rng (n := k) (fun i ys H9 => ExS [D9, st] H H9 ∧ StAt H9 st sc ∧ ∃ os : List Nat, ys = vN os ∧ os.length = i ∧ ∀ o ∈ os, o < 3) (by omega) (fun _ => rfl) ?_ ?_ ?_ ?_
    · rintro i ys zs xs H9 hz ⟨g1, g2, g3⟩
      exact ⟨g1.trans (exS_mono exS_upd m9), g2.exS exS_upd (by simpa using n9st.symm) (by simpa using n9sc.symm), g3⟩
    · exact ⟨exS_mono exS_upd m9, hS.exS exS_upd (by simpa using n9st.symm) (by simpa using n9sc.symm), [], rfl, rfl, fun o ho => (by cases ho)⟩
    · rintro i ys H9 ⟨g1, g2, os, rfl, g4, g5⟩ hz hi Q' q'
      refine ⟨_, rfl, st, sc, 3, rfl, g2, by decide, by decide, fun r H10 hr10 e10 hS10 => ?_⟩
      refine q' _ H10 (e10 _ _ hz (by simpa using n9st)) ⟨g1.trans (exS_mono e10 m92), hS10, os ++ [r], ?_, by rw [List.length_append, g4] <;> rfl, fun o ho => ?_⟩
      · rw [vN, vN, List.map_append] <;> rfl
      · rcases List.mem_append.mp ho with ho | ho
        · exact g5 o ho
        · rw [List.mem_singleton] at ho
          omega
    rintro H9 ys hz hyl ⟨g1, g2, os, rfl, g4, g5⟩
    refine ⟨D9, _, rfl, .inl hz, fun oa H10 e10 hoa => ?_⟩
    have b10 : ExS [st] H H10 := exS_drop (g1.trans (exS_ex e10)) nD9
    -- the test
    have tst : ∀ (oa : Addr) (os : List Nat) (H1 : Hp), ExS [st] H H1 → H1 oa = some (.tup (vN os)) → os.length = k → (∀ o ∈ os, o < 10) → ∀ (Qb : Bool → Hp → Prop), (∀ H2, Ex H1 H2 → Qb (decide (dn os = D ∨ dn os = ag D)) H2) →
        ∀ (u4 u5 u6 u7 : Option V), u5 = some (.ref oa) → tTest (tOp (rInD K) (tCal spDense (tCons (tVar 5) tNil)) (tLstX (tCons (tVar 2) (tCons (tVar 3) tNil)))) [some (.ref st), some (.ref ra), some dv, some gv, u4, u5, u6, u7] H1 Qb := by
      intro oa os H1 e1 hoa hl hb Qb qb u4 u5 u6 u7 h5
      subst h5
      have kp1 := kp_st hS e1
      refine ⟨_, rfl, .ref oa, os, rfl, td_nat hoa, by omega, by omega, hb, fun d1 H2 e2 hd1 => ⟨_, rfl, _, rfl, by show 2 ≤ 100000; decide, fun la H3 nla e3 hla => ?_⟩⟩
      refine ⟨_, [dN D, dN (ag D)], (hd1.ex e3).dp, .lst (SqL.of hla) (.cons ((hdv.kp kp1).ex (e2.trans e3)).dp (.cons ((hgv.kp kp1).ex (e2.trans e3)).dp .nil)), shapedN _, shapedL2 _ _, _, ?_, qb H3 (e2.trans e3)⟩
      rw [inD2]
    refine ⟨fun σ H1 => ∃ (oa : Addr) (os : List Nat) (u6 u7 : Option V), σ = [some (.ref st), some (.ref ra), some dv, some gv, some (.int (k : Int)), some (.ref oa), u6, u7] ∧ ExS [st] H H1 ∧ StAt H1 st sc ∧ H1 oa = some (.tup (vN os)) ∧ os.length = k ∧ (∀ o ∈ os, o < 10) ∧ ((dn os ≠ D ∧ dn os ≠ ag D) ∨ os = List.replicate k 0), ?_, ?_⟩
    · refine tst oa os H10 b10 hoa g4 (fun o ho => by have := g5 o ho; omega) _ (fun H11 e11 => ?_) _ _ _ _ rfl
      have b11 : ExS [st] H H11 := b10.trans (exS_ex e11)
      by_cases hq : dn os = D ∨ dn os = ag D
      · rw [decide_eq_true hq]
        refine iteT ⟨by show 1 ≤ 100000; decide, fun p H12 np e12 hp => ⟨_, rfl, p, (k : Int), _, rfl, rfl, hp, by simp, by omega, by omega, by show 1 ≤ 1000; decide, fun p2 H13 e13 hp2 => ?_⟩⟩
        have hp2 : H13 p2 = some (.tup (vN (List.replicate k 0))) := by
          rw [show ((k : Nat) : Int).toNat = k by omega] at hp2
          rw [hp2, ← rep_vN] <;> rfl
        refine ⟨p2, List.replicate k 0, _, _, rfl, b11.trans (exS_ex (e12.trans e13)), ((g2.ex e10).ex e11).ex (e12.trans e13), hp2, List.length_replicate, fun o ho => ?_, .inr rfl⟩
        have := List.eq_of_mem_replicate ho
        omega
      · rw [decide_eq_false hq]
        exact iteF ⟨oa, os, _, _, rfl, b11, (g2.ex e10).ex e11, e11 _ _ hoa, g4, fun o ho => (by have := g5 o ho; omega), .inl ⟨fun z => hq (.inl z), fun z => hq (.inr z)⟩⟩
    rintro σ H1 ⟨oa, os, u6, u7, rfl, e1, hS1, hoa, hol, hob, hor⟩
    refine ⟨fun σ H1 => ∃ (oa : Addr) (os : List Nat) (u6 u7 : Option V), σ = [some (.ref st), some (.ref ra), some dv, some gv, some (.int (k : Int)), some (.ref oa), u6, u7] ∧ ExS [st] H H1 ∧ StAt H1 st sc ∧ H1 oa = some (.tup (vN os)) ∧ os.length = k ∧ (∀ o ∈ os, o < 10) ∧ (1 < k → dn os ≠ D ∧ dn os ≠ ag D), ?_, ?_⟩
    · refine tst oa os H1 e1 hoa hol hob _ (fun H11 e11 => ?_) _ _ _ _ rfl
      have b11 : ExS [st] H H11 := e1.trans (exS_ex e11)
      by_cases hq : dn os = D ∨ dn os = ag D
      · rw [decide_eq_true hq]
        refine iteT ⟨by show 1 ≤ 100000; decide, fun p H12 np e12 hp => ⟨by show 1 ≤ 100000; decide, fun p' H13 np' e13 hp' => ⟨_, rfl, _, _, rfl, rfl, p', (k : Int) - 1, _, rfl, rfl, hp', by simp, by omega, by omega, by show 1 ≤ 1000; decide, fun p2 H14 e14 hp2 => ?_⟩⟩⟩
        have hp2 : H14 p2 = some (.tup (vN (List.replicate (k - 1) 1))) := by
          rw [show ((k : Nat) : Int) - 1 = ((k - 1 : Nat) : Int) by omega, show (((k - 1 : Nat) : Nat) : Int).toNat = k - 1 by omega] at hp2
          rw [hp2, ← rep_vN] <;> rfl
        refine ⟨p, p2, _, _, rfl, rfl, (e13.trans e14) _ _ hp, hp2, ?_, fun p3 H15 e15 hp3 => ?_⟩
        · show 1 + (vN (List.replicate (k - 1) 1)).length ≤ 100000
          rw [vN_len, List.length_replicate]
          omega
        have e' := ((e12.trans e13).trans e14).trans e15
        refine ⟨p3, 0 :: List.replicate (k - 1) 1, _, _, rfl, b11.trans (exS_ex e'), (hS1.ex e11).ex e', hp3, ?_, fun o ho => ?_, fun hk => ?_⟩
        · rw [List.length_cons, List.length_replicate]
          omega
        · rcases List.mem_cons.mp ho with z | z
          · omega
          · have := List.eq_of_mem_replicate z
            omega
        · have hz : os = List.replicate k 0 := by
            rcases hor with ⟨h1, h2⟩ | h
            · rcases hq with z | z
              · exact absurd z h1
              · exact absurd z h2
            · exact h
          rw [hz, dn_zeros] at hq
          obtain ⟨z1, z2⟩ := zeros_both hD hq
          have := dn_ones hk
          rw [z2]
          exact ⟨fun z => this (z.trans z1), this⟩
      · rw [decide_eq_false hq]
        exact iteF ⟨oa, os, _, _, rfl, b11, hS1.ex e11, e11 _ _ hoa, hol, hob, fun _ => ⟨fun z => hq (.inl z), fun z => hq (.inr z)⟩⟩
    rintro σ H2 ⟨oa, os, u6, u7, rfl, e2, hS2, hoa, hol, hob, hor⟩
    refine ⟨fun σ H3 => ∃ (u5 u6 u7 : Option V), σ = [some (.ref st), some (.ref ra), some dv, some gv, some (.int (k : Int)), u5, u6, u7] ∧ ExS [st] H H3 ∧ StAt H3 st sc, ?_, ?_⟩
    · refine ⟨_, rfl, _, _, rfl, rfl, decide ((1 : Int) < (k : Int)), rfl, ?_⟩
      by_cases hk : 1 < k
      · rw [decide_eq_true (by omega)]
        refine iteT ⟨_, rfl, st, sc, 2, rfl, hS2, by decide, by decide, fun r H3 hr3 e3 hS3 => ⟨rfl, decide (r = 0), ?_, ?_⟩⟩
        · show V.bl (decide (V.int (r : Int) = V.int 0)) = _
          rw [show decide (V.int (r : Int) = V.int 0) = decide (r = 0) from decide_eq_decide.mpr ⟨fun z => by have := V.int.inj z; omega, fun z => by rw [z] <;> rfl⟩]
        by_cases hr0 : r = 0
        · rw [decide_eq_true hr0]
          have hoa3 := (kp_st hS2 e3).tup hoa
          refine iteT ⟨_, rfl, by show 2 ≤ 100000; decide, fun p H4 np e4 hp => ?_⟩
          refine q (.ref p) (.tuple [.str "best", dN os]) H4 ((e2.trans e3).trans (exS_ex e4)) (hS3.ex e4) (.tup hp (.cons (.str _) (.cons (td_nat (e4 _ _ hoa3)) .nil))) (AimOk.best hol hob) (.inr ⟨os, rfl, hol, hob, hor hk⟩)
        · rw [decide_eq_false hr0]
          exact iteF ⟨_, _, _, rfl, e2.trans e3, hS3⟩
      · rw [decide_eq_false (by omega)]
        exact iteF ⟨_, _, _, rfl, e2, hS2⟩
    rintro σ H3 ⟨u5, u6, u7, rfl, e3, hS3⟩
    have hra3 := (kp_st hS e3).tup hra
    refine ⟨by show 1 ≤ 100000; decide, fun w1 G1 nw1 f1 hw1 => ⟨by show 1 ≤ 100000; decide, fun w2 G2 nw2 f2 hw2 => ?_⟩⟩
    refine ⟨_, rfl, by show 2 ≤ 100000; decide, fun w3 G3 nw3 f3 hw3 => ⟨by show 2 ≤ 100000; decide, fun w4 G4 nw4 f4 hw4 => ?_⟩⟩
    refine ⟨_, rfl, by show 2 ≤ 100000; decide, fun w5 G5 nw5 f5 hw5 => ?_⟩
    refine ⟨_, rfl, by show 2 ≤ 100000; decide, fun w6 G6 nw6 f6 hw6 => ⟨by show 2 ≤ 100000; decide, fun w7 G7 nw7 f7 hw7 => ⟨by show 2 ≤ 100000; decide, fun w8 G8 nw8 f8 hw8 => ⟨by show 5 ≤ 100000; decide, fun wl G9 nwl f9 hwl => ?_⟩⟩⟩⟩
    have e39 : Ex H3 G9 := (((((((f1.trans f2).trans f3).trans f4).trans f5).trans f6).trans f7).trans f8).trans f9
    have hS9 := hS3.ex e39
    have nwst : wl ≠ st := fun z => by
      obtain ⟨_, _, _, _, h1, _⟩ := hS3.ex ((((((f1.trans f2).trans f3).trans f4).trans f5).trans f6).trans (f7.trans f8))
      rw [z, h1] at nwl
      cases nwl
    refine ⟨_, rfl, _, rfl, st, sc, 5, rfl, hS9, by decide, by decide, fun r H4 hr4 e4 hS4 => ?_⟩
    have hwl4 := e4 _ _ hwl (by simpa using nwst)
    have kp94 : Kp G9 H4 := kp_st hS9 e4
    have bt : ExS [st] H H4 := (e3.trans (exS_ex e39)).trans e4
    have tR : ∀ {G : Hp}, Ex H3 G → TD G (.ref ra) (dN row) := fun e => td_nat (e _ _ hra3)
    have dB : PyData := .tuple [.str "best", dN row]
    have w9 : ∀ {x : V} {d : PyData}, TD G9 x d → TD H4 x d := fun h => h.kp kp94
    match r, hr4 with
    | 0, _ =>
      refine ⟨wl, _, _, .ref w1, rfl, rfl, SqL.of hwl4, atN (i := 0) rfl, q _ (.tuple [.str "most"]) H4 bt hS4 (w9 ?_) .most (.inl ⟨_, _, rfl, by decide +kernel⟩)⟩
      exact .tup (((((((f2.trans f3).trans f4).trans f5).trans f6).trans f7).trans f8).trans f9 _ _ hw1) (.cons (.str _) .nil)
    | 1, _ =>
      refine ⟨wl, _, _, .ref w2, rfl, rfl, SqL.of hwl4, atN (i := 1) rfl, q _ (.tuple [.str "any"]) H4 bt hS4 (w9 ?_) .any (.inl ⟨_, _, rfl, by decide +kernel⟩)⟩
      exact .tup ((((((f3.trans f4).trans f5).trans f6).trans f7).trans f8).trans f9 _ _ hw2) (.cons (.str _) .nil)
    | 2, _ =>
      refine ⟨wl, _, _, .ref w4, rfl, rfl, SqL.of hwl4, atN (i := 2) rfl, q _ (.tuple [.str "first", .tuple [.str "best", dN row]]) H4 bt hS4 (w9 ?_) (.first (.best hR.len hR.lt)) (.inl ⟨_, _, rfl, by decide +kernel⟩)⟩
      have fa := (((f5.trans f6).trans f7).trans f8).trans f9
      exact .tup (fa _ _ hw4) (.cons (.str _) (.cons (.tup ((f4.trans fa) _ _ hw3) (.cons (.str _) (.cons (tR e39) .nil))) .nil))
    | 3, _ =>
      refine ⟨wl, _, _, .ref w5, rfl, rfl, SqL.of hwl4, atN (i := 3) rfl, q _ (.tuple [.str "second", dN row]) H4 bt hS4 (w9 ?_) (.second hR.len hR.lt) (.inl ⟨_, _, rfl, by decide +kernel⟩)⟩
      exact .tup (((f6.trans f7).trans f8).trans f9 _ _ hw5) (.cons (.str _) (.cons (tR e39) .nil))
    | 4, _ =>
      refine ⟨wl, _, _, .ref w8, rfl, rfl, SqL.of hwl4, atN (i := 4) rfl, q _ (.tuple [.str "not", .tuple [.str "not", .tuple [.str "best", dN row]]]) H4 bt hS4 (w9 ?_) (.not (.not (.best hR.len hR.lt))) (.inl ⟨_, _, rfl, by decide +kernel⟩)⟩
      exact .tup (f9 _ _ hw8) (.cons (.str _) (.cons (.tup ((f8.trans f9) _ _ hw7) (.cons (.str _) (.cons (.tup (((f7.trans f8).trans f9) _ _ hw6) (.cons (.str _) (.cons (tR e39) .nil))) .nil))) .nil))
end
end K69
namespace K69
open PySem PySem.Spec PyProof.Rows L2
open Evl (Ex given)
theorem dN_dI (row : List Nat) : dN row = dI (row.map fun n : Nat => (n : Int)) := by
  show PyData.tuple _ = PyData.tuple _
  rw [List.map_map] <;> rfl
section
variable {P : Program} {w : World} {K : PySem.W.Frag} {mg : Str → Option Value} {base : Heap}
/-! ### NotDuel.__init__ -/
def spND (K : PySem.W.Frag) : Sp := fun vs H Q _ => ∃ (a : Addr) (i : Int), vs = [.ref a, .int i] ∧ H a = some (exo a (He.ga K "NotDuel") none) ∧ ∀ dx, H dx = none → dx ≠ a → Q .non (upd (upd H dx (exd dx [("index", .int i)])) a (exo a (He.ga K "NotDuel") (some dx)))
theorem sc_NotDuel___init__ : FnScope ["self", "index"] ["self", "index"] (defScope (inClass (topS 11) 0)) := ⟨rfl, rfl, rfl, by decide +kernel, rfl, by decide +kernel, by decide +kernel⟩
theorem ok_NotDuel (TX : TxX K) : ∃ fI fd, PySem.W.findIn K (.ref (He.ga K "NotDuel")) "__init__" = some (some (.ref fI)) ∧ PySem.W.typeIn K (.ref fI) = some (.type "function") ∧ FnOk P w K mg base CX0 1 fI fd ["self", "index"] (spND K) ∧ Binds K fd ["self", "index"] [] := by
  obtain ⟨fI, fd, h1, h2, F⟩ := TX.iN
  refine ⟨fI, fd, h1, h2, F.ok sc_NotDuel___init__ (fun vs H Q E h => ?_) (fun cdv A outer s H vs Q E hr h => ?_), F.bindsN (fun _ _ _ _ _ _ us hl => match us, hl with | [_, _], _ => rfl)⟩
  · obtain ⟨a, i, rfl, _⟩ := h
    rfl
  · obtain ⟨a, i, rfl, ha, q⟩ := h
    have hb : PSs (cxOf CX0 P w K mg base ["self", "index"] "NotDuel.__init__" (defScope (inClass (topS 11) 0)) fI cdv A outer s H E).nox (defBody (inClass (topS 11) 0)) _ := pss_one (ps_ost (pv 0) (pv 1))
    exact ⟨_, hb.nox, ⟨_, rfl, _, rfl, a, _, rfl, TX.oN, TX.nN, .inl ⟨ha, fun dx n ne => q dx n ne⟩⟩⟩
/-! ### threshold_duel -/
def spTD (K : PySem.W.Frag) : Sp := fun vs H Q E => ∃ (gv rv : V) (b : Int) (k : Nat) (t : Tr) (is : List Int), vs = [gv, rv, .int b] ∧ GameAt K k H gv t ∧ t.Fit k ∧ t.cnt ≤ 6 ∧ 1 ≤ k ∧ k ≤ 4 ∧ TD H rv (dI is) ∧ is.length ≤ 100 ∧
  ((¬(is.length = k ∧ ∀ i ∈ is, 0 ≤ i ∧ i < 10) ∧ ∀ H', Ex H H' → E (.ref (He.ga K "OutOfRange")) none H') ∨
   ∃ (D row : List Nat) (R : Nat → Prop), is = row.map (fun n : Nat => (n : Int)) ∧ Row k D row ∧ DOk k D ∧ R 0 ∧
    (∀ (j : Nat) (a : PyData), R j → t.aims[j]? = some a → (OrdA k D a ∧ R (j + 1)) ∨ (BadA k D a ∧ ∀ d H', Ex H H' → H' d = some (.xd [("index", .int (j : Int))]) → E (.ref (He.ga K "NotDuel")) (some d) H')) ∧
    (R t.cnt → Ord k D t ∧ ∀ v' H', Ex H H' → GameAt K 2 H' v' (thr row b t) → Q v' H'))
theorem sc_threshold_duel : FnScope ["game", "ranks", "least", "i", "node", "term", "rank"] ["game", "ranks", "least"] (defScope (topS 71)) := ⟨rfl, rfl, rfl, by decide +kernel, rfl, by decide +kernel, by decide +kernel⟩
theorem c_threshold_duel (T : Txt K mg w) (TX : TxX K) : CalK P w K mg base (L2.CX P w) 20 "threshold_duel" ["game", "ranks", "least"] 2 ["least"] (spTD K) := by
  refine mkCalKX (T.d_threshold_duel) sc_threshold_duel (fun _ _ _ _ _ _ us ws h1 h2 => match us, ws, h1, h2 with | [_, _], [_], _, _ => rfl) (fun vs H Q E h => ?_) (fun f cdv A outer s H vs Q E hr h => ?_)
  · obtain ⟨gv, rv, b, k, t, is, rfl, _⟩ := h
    rfl
  · obtain ⟨gv, rv, b, k, t, is, rfl, ⟨x, dx, na, ea, tv, nvs, rs, es, c, rfl, hx, hT, hna, hea, hR, hF⟩, hFit, hz, hk1, hk4, hrv, hil, hor⟩ := h
    obtain ⟨ra, rfl, hra⟩ := td_int_inv hrv
    obtain ⟨fI, fdI, hI1, hI2, hI3, hI4⟩ := ok_NotDuel (P := P) (w := w) (mg := mg) (base := base) TX
    refine ⟨_, (Evl.pss_cut (ps_if (PW.pt (pw_or (pt_not (pt_val (pe_callB (cr_isiK K) (by rfl) T.z_isinstance (by decide +kernel) (pa_cons (pv 1) (pa_cons (pe_bltn (v := .ty "tuple") (by rfl) T.z_tuple (by decide +kernel) rfl) pa_nil))))) (pw_or1 (pt_cmpR op_ne (pe_callB (cr_lenK K) (by rfl) T.z_len (by decide +kernel) (pa_cons (pv 1) pa_nil)) (pe_fldK K (pv 0) rfl) (nomark _)))))
      (pss_one (ps_raise rfl (takes_of rfl rfl rfl rfl) (pmk_own PySem.F.excBase_ValueError TX.xO T.g_OutOfRange TX.kO (raises_own TX.bO TX.tO) rfl)))
      pss_nil)
      (Evl.pss_cut (ps_if (pt_not (pt_val (pe_callB (cr_allK K) (by rfl) T.z_all (by decide +kernel) (pa_cons (pe_lc (own := [("rank", 6)]) rfl sc_threshold_duel.nd (pi_tupK K (pv 1)) (blkOk_by (by kernel_rfl)) (fun _ _ _ _ _ => (pg_name (i := 6) sc_threshold_duel.nd rfl (Or.inl rfl))) (fun _ _ _ _ _ => pts_nil) (fun _ _ _ _ _ => (pe_cal (c_is_below T) hr (by omega) (pa_cons (pv 6) (pa_cons (pe_op op_add (pe_gint T.i_MOST_RANK) pe_int) pa_nil))))) pa_nil))))
      (pss_one (ps_raise rfl (takes_of rfl rfl rfl rfl) (pmk_own PySem.F.excBase_ValueError TX.xO T.g_OutOfRange TX.kO (raises_own TX.bO TX.tO) rfl)))
      pss_nil)
      (pss_cons (ps_for (passes_of rfl) rfl (pi_enumT (by rfl) T.z_enumerate (pa_cons (pe_fldK K (pv 0) rfl) pa_nil)) (pg_tup rfl (pgs_cons (pg_name (i := 3) sc_threshold_duel.nd rfl (Or.inl rfl)) (pgs_cons (pg_name (i := 4) sc_threshold_duel.nd rfl (Or.inl rfl)) pgs_nil)))
      (pss_cons (ps_set (i := 5) sc_threshold_duel.nd rfl (Or.inl rfl) (pe_fldK K (pe_fldK K (pv 4) rfl) rfl))
        (pss_one (ps_if (PW.pt (pw_or (pt_cmpR op_ne (pe_ix (ix_tupK K) (pv 5) pe_int (fun _ _ => rfl)) pe_str (nomark _)) (pw_or1 (pt_cmpR (op_ninDTK K (hu65 hr)) (pe_cal (c_dense_ranks T) hr (by omega) (pa_cons (pe_ix (ix_tupK K) (pv 5) pe_int (fun _ _ => rfl)) pa_nil)) (pe_tupX (pa_cons (pe_cal (c_dense_ranks T) hr (by omega) (pa_cons (pv 1) pa_nil)) (pa_cons (pe_cal (c_opposite_ranks T) hr (by omega) (pa_cons (pv 1) pa_nil)) pa_nil))) (by rfl)))))
        (pss_one (ps_raise rfl (takes_of rfl rfl rfl rfl) (pmk_oex TX.oN hI1 hI2 hI3 (hr.mono (by omega)) hI4 .nil pass0 rfl T.g_NotDuel (pa_cons (pv 3) pa_nil))))
        pss_nil))))
      (pss_one (ps_ret (pe_mkr (c_Game T) hr (by omega) (pa_cons pe_int (pa_cons (pe_cal (c_threshold_tree T 7) hr (by omega) (pa_cons (pe_fldK K (pv 0) rfl) (pa_cons (pv 1) (pa_cons (pv 2) pa_nil)))) pa_nil)))))))), ?_⟩
    refine ⟨fun σ H1 => σ = [some (.ref x), some (.ref ra), some (.int b), none, none, none, none] ∧ H1 = H ∧ is.length = k, ?_, ?_⟩
    · refine ⟨.ref ra, rfl, .ref ra, .ty "tuple", .type "tuple", .type "tuple", true, rfl, .ty _, .base (.tup hra), kit_ty (by decide +kernel), true, rfl, iteF ?_⟩
      refine ⟨.ref ra, rfl, ra, _, rfl, .inr (SqT.of hra), .ref x, rfl, x, _, dx, _, _, rfl, hx, T.c_Game, T.n_Game_outcomes, rfl, rfl, decide (is.length ≠ k), ?_, ?_⟩
      · rw [List.length_map]
        show V.bl (!decide (V.int ((is.length : Nat) : Int) = V.int (k : Int))) = _
        rw [show decide (V.int ((is.length : Nat) : Int) = V.int (k : Int)) = decide (is.length = k) from decide_eq_decide.mpr ⟨fun z => by have := V.int.inj z; omega, fun z => by rw [z]⟩]
        by_cases z : is.length = k
        · rw [decide_eq_true z, decide_eq_false (fun n => n z)] <;> rfl
        · rw [decide_eq_false z, decide_eq_true z] <;> rfl
      by_cases hl : is.length = k
      · rw [decide_eq_false (fun n => n hl)]
        exact iteF ⟨rfl, rfl, hl⟩
      · rw [decide_eq_true hl]
        refine iteT ?_
        rcases hor with ⟨_, q⟩ | ⟨D, row, R, rfl, hRow, _⟩
        · exact q H (Ex.refl H)
        · rw [List.length_map] at hl
          exact absurd hRow.len hl
    rintro σ H1 ⟨rfl, rfl, hl⟩
    refine ⟨fun σ H2 => ∃ u6 : Option V, σ = [some (.ref x), some (.ref ra), some (.int b), none, none, none, u6] ∧ Ex H1 H2 ∧ ∀ i ∈ is, 0 ≤ i ∧ i < 10, ?_, ?_⟩
    · refine ⟨.ref ra, rfl, ra, rfl, ⟨_, SqT.of hra⟩, fun D9 nD9 => lcm_tup (xs := is.map V.int) (fun i y _ => y = .bl (decide (0 ≤ is.getD i 0) && decide (is.getD i 0 < 10))) (stD_val (f := fun i => .bl (decide (0 ≤ is.getD i 0) && decide (is.getD i 0 < 10)))) nD9 (SqT.of hra) (by rw [List.length_map]; omega) (fun _ => rfl) ?_ ?_⟩
      · intro i y H2 e2 _ hy
        rw [List.getElem?_map] at hy
        cases hi : is[i]? with
        | none => rw [hi] at hy; cases hy
        | some z =>
          rw [hi] at hy
          have ey : V.int z = y := Option.some.inj hy
          subst ey
          have hg : is.getD i 0 = z := by rw [List.getD_eq_getElem?_getD, hi] <;> rfl
          rw [hg]
          exact evQ_of fun Q' q' => ⟨_, rfl, _, _, rfl, rfl, _, _, rfl, q'⟩
      · intro H2 ys e2 hD9 hls
        have hys : ys = ((List.range is.length).map fun i => decide (0 ≤ is.getD i 0) && decide (is.getD i 0 < 10)).map V.bl := by
          rw [LsAt.vals (f := fun i => .bl (decide (0 ≤ is.getD i 0) && decide (is.getD i 0 < 10))) hls, List.length_map, List.map_map] <;> rfl
        refine ⟨D9, _, rfl, (by rw [← hys]; exact SqL.of hD9), _, rfl, ?_⟩
        have hall : (((List.range is.length).map fun i => decide (0 ≤ is.getD i 0) && decide (is.getD i 0 < 10)).all id = true) ↔ ∀ i ∈ is, 0 ≤ i ∧ i < 10 := by
          rw [List.all_map, List.all_eq_true]
          constructor
          · intro h i hi
            obtain ⟨n, hn, e⟩ := List.mem_iff_getElem.mp hi
            have := h n (List.mem_range.mpr hn)
            have hg : is.getD n 0 = i := by rw [List.getD_eq_getElem?_getD, List.getElem?_eq_getElem hn, Option.getD_some, e]
            have this : (decide (0 ≤ is.getD n 0) && decide (is.getD n 0 < 10)) = true := this
            rw [hg, Bool.and_eq_true, decide_eq_true_eq, decide_eq_true_eq] at this
            exact this
          · intro h n hn
            have hn := List.mem_range.mp hn
            have hg : is.getD n 0 = is[n] := by rw [List.getD_eq_getElem?_getD, List.getElem?_eq_getElem hn, Option.getD_some]
            have := h is[n] (List.getElem_mem hn)
            show (decide (0 ≤ is.getD n 0) && decide (is.getD n 0 < 10)) = true
            rw [hg, Bool.and_eq_true, decide_eq_true_eq, decide_eq_true_eq]
            exact this
        by_cases hq : ∀ i ∈ is, 0 ≤ i ∧ i < 10
        · rw [hall.mpr hq]
          exact iteF ⟨_, rfl, e2, hq⟩
        · rw [Bool.eq_false_iff.mpr fun z => hq (hall.mp z)]
          refine iteT ?_
          rcases hor with ⟨_, q⟩ | ⟨D, row, R, rfl, hRow, _⟩
          · exact q H2 e2
          · refine absurd (fun i hi => ?_) hq
            obtain ⟨n, hn, rfl⟩ := List.mem_map.mp hi
            have := hRow.lt n hn
            omega
    rintro σ H2 ⟨u6, rfl, e2, hin⟩
    rcases hor with ⟨hbad, _⟩ | ⟨D, row, R, rfl, hRow, hD, hR0, hstep, hend⟩
    · exact absurd ⟨hl, hin⟩ hbad
    have hrowT : TD H1 (.ref ra) (dN row) := by rw [dN_dI]; exact hrv
    have hrl := hRow.len
    have hnl : nvs.length = t.cnt := by rw [hR.1, ← aims_len, ← hF.aims, List.length_map]
    refine ⟨.ref x, rfl, x, _, dx, _, .ref na, rfl, e2 _ _ hx, T.c_Game, T.n_Game_nodes, rfl, na, nvs, rfl, SqT.of (e2 _ _ hna), for_it (walk_enumT (xs := nvs)) (fun i σ H3 => ∃ (u3 u4 u5 u6 : Option V), σ = [some (.ref x), some (.ref ra), some (.int b), u3, u4, u5, u6] ∧ Ex H1 H3 ∧ R i) ⟨_, _, _, _, rfl, e2, hR0⟩ ?_ ?_ ?_⟩
    · rintro i σ H3 hi ⟨u3, u4, u5, u6, rfl, e3, _⟩
      exact SqT.of (e3 _ _ hna)
    · rintro i iv σ H3 H4 hi ⟨u3, u4, u5, u6, rfl, e3, hRi⟩ ⟨Tp, y1, y2, rfl, nT, rfl, f3, f4⟩
      cases f3
      obtain ⟨rr, hri⟩ : ∃ rr, rs[i]? = some rr := ⟨_, List.getElem?_eq_getElem (by have := hR.1; omega)⟩
      have e4 : Ex H1 (upd H3 Tp (.tup [V.int (i : Int), y2])) := e3.trans (ex_upd nT)
      have hRec := (hR.2 i y2 _ f4 hri).kp (kp_ex e4)
      obtain ⟨nx, ndx, ax, adx, wy, pl, tv', ch, rfl, hnx, hax, htv, hch⟩ := hRec
      have haim : t.aims[i]? = some rr.aim := by rw [← hF.aims, List.getElem?_map, hri] <;> rfl
      have hfitA : ∃ y r, rr.aim = .tuple (.str y :: r) := by
        obtain ⟨s, hs, hlay⟩ := hF.each i (by have := hR.1; omega)
        have sF := sub_fit hFit hs
        cases s with
        | leaf r => exact hlay.elim
        | node p a ts =>
          obtain ⟨cs, h1, _⟩ := hlay
          rw [hri] at h1
          have ea := congrArg Rec.aim (Option.some.inj h1)
          rw [ea]
          obtain ⟨y, r, h3, _⟩ := sF.2.1.head T
          exact ⟨y, r, h3⟩
      refine ⟨Tp, _, rfl, SqT.of upd_same, rfl, _, _, rfl, _, _, rfl, rfl, ?_⟩
      refine ⟨.ref nx, rfl, nx, _, ndx, _, _, rfl, hnx, T.c_Node, T.n_Node_aim, rfl, ax, _, adx, _, _, rfl, hax, T.c_Aim, T.n_Aim_term, rfl, ?_⟩
      revert hnx hax htv hch e4
      generalize upd H3 Tp (.tup [V.int (i : Int), V.ref nx]) = H4
      intro e4 hnx hax htv hch
      -- the raise
      have rz : ∀ H5, Ex H1 H5 → BadA k D rr.aim → (∀ d H', Ex H1 H' → H' d = some (.xd [("index", .int (i : Int))]) → E (.ref (He.ga K "NotDuel")) (some d) H') →
          tMkO (He.ga K "NotDuel") (spND K) [] (tCons (tVar 3) tNil) [some (.ref x), some (.ref ra), some (.int b), some (.int (i : Int)), some (.ref nx), some tv', u6] H5 (fun cls d H' => E cls d H') := by
        intro H5 e5 _ hE
        refine ⟨_, rfl, by show 1 ≤ 1000; decide, fun a ha => ⟨a, (i : Int), rfl, upd_same, fun d hd hda => ⟨rfl, d, [("index", .int (i : Int))], upd_same, ?_, ?_, ?_⟩⟩⟩
        · rw [upd_ne hda]
          exact upd_same
        · rw [upd_ne hda] at hd
          exact hd
        · have hd5 : H5 d = none := by rw [upd_ne hda] at hd; exact hd
          refine hE d _ (fun y o hy => ?_) upd_same
          have h5 := e5 _ _ hy
          have hya : y ≠ a := fun z => by rw [z, ha] at h5; cases h5
          have hyd : y ≠ d := fun z => by rw [z, hd5] at h5; cases h5
          rw [upd_ne hyd, del_ne hya, upd_ne hya, upd_ne hyd, upd_ne hya]
          exact h5
      obtain ⟨wd, rest, hwd⟩ := hfitA
      rw [hwd] at htv
      obtain ⟨tb, xs, rfl, htb, hxs⟩ := TD.tup_inv htv
      obtain ⟨x0, xs2, rfl, h0, hxs2⟩ := hxs.cons_inv
      cases h0.str_inv
      refine ⟨_, rfl, tb, _, 0, _, rfl, rfl, SqT.of htb, atN (i := 0) rfl, rfl, decide (wd ≠ "best"), ?_, ?_⟩
      · show V.bl (!decide (V.str wd = V.str "best")) = _
        by_cases z : wd = "best"
        · rw [decide_eq_true (by rw [z] : V.str wd = V.str "best"), decide_eq_false (fun n => n z)] <;> rfl
        · rw [decide_eq_false (fun n => z (V.str.inj n)), decide_eq_true z] <;> rfl
      by_cases hwb : wd = "best"
      · subst hwb
        rw [decide_eq_false (fun n => n rfl)]
        refine iteF ?_
        have key : ∃ rsk : List Nat, rr.aim = .tuple [.str "best", dN rsk] ∧ rsk.length = k ∧ (∀ r ∈ rsk, r < 10) ∧ ((dn rsk = D ∨ dn rsk = ag D) ↔ OrdA k D rr.aim) := by
          rcases hstep i _ hRi haim with ⟨ho, _⟩ | ⟨hb, _⟩
          · obtain ⟨rsk, g1, g2, g3, g4⟩ := ho
            exact ⟨rsk, g1, g2, g3, fun _ => ⟨rsk, g1, g2, g3, g4⟩, fun _ => g4⟩
          · rcases hb with ⟨y, r, g1, g2⟩ | ⟨rsk, g1, g2, g3, g4, g5⟩
            · rw [hwd] at g1
              have := (PyData.str.inj (List.cons.inj (PyData.tuple.inj g1)).1)
              exact absurd this.symm g2
            · refine ⟨rsk, g1, g2, g3, fun z => (z.elim (fun z => absurd z g4) (fun z => absurd z g5)), ?_⟩
              rintro ⟨rs2, q1, _, _, q4⟩
              have e2 : rs2 = rsk := by
                have := congrArg rsOf (q1.symm.trans g1)
                rw [rsOf_best, rsOf_best] at this
                exact this
              rw [e2] at q4
              exact q4
        obtain ⟨rsk, g1, g2, g3, g4⟩ := key
        rw [hwd] at g1
        cases g1
        obtain ⟨x1, xs3, rfl, h1, hxs3⟩ := hxs2.cons_inv
        cases hxs3.nil_inv
        refine ⟨_, rfl, tb, _, 1, x1, rfl, rfl, SqT.of htb, atN (i := 1) rfl, x1, rsk, rfl, h1, by omega, by omega, g3, fun d1 H5 e5 hd1 => ?_⟩
        have e45 := e4.trans e5
        refine ⟨_, rfl, .ref ra, row, rfl, hrowT.ex e45, by omega, by omega, hRow.lt, fun d2 H6 e6 hd2 => ?_⟩
        refine ⟨_, rfl, .ref ra, row, rfl, hrowT.ex (e45.trans e6), by omega, by omega, hRow.lt, fun d3 H7 e7 hd3 => ⟨by show 2 ≤ 100000; decide, fun p8 H8 np8 e8 hp8 => ?_⟩⟩
        have e18 := (e45.trans e6).trans (e7.trans e8)
        refine ⟨_, [dN (dn row), dN (ag (dn row))], ((hd1.ex e6).ex (e7.trans e8)).dp, (TD.tup hp8 (.cons (hd2.ex (e7.trans e8)) (.cons (hd3.ex e8) .nil))).dp, shapedN _, shapedT2 _ _, !decide (dn rsk = dn row ∨ dn rsk = ag (dn row)), by rw [inD2], ?_⟩
        rw [hRow.dn]
        rcases hstep i _ hRi haim with ⟨ho, hR1⟩ | ⟨hb, hE⟩
        · rw [decide_eq_true (g4.mpr ho)]
          exact iteF ⟨_, _, _, _, rfl, e18, hR1⟩
        · have hno : ¬(dn rsk = D ∨ dn rsk = ag D) := by
            rcases hb with ⟨y, r, q1, q2⟩ | ⟨rs2, q1, _, _, q4, q5⟩
            · rw [hwd] at q1
              have := (PyData.str.inj (List.cons.inj (PyData.tuple.inj q1)).1)
              exact absurd this.symm q2
            · rw [hwd] at q1
              have e2 : rsk = rs2 := by
                have := congrArg rsOf q1
                rw [rsOf_best, rsOf_best] at this
                exact this
              rw [e2]
              exact fun z => z.elim q4 q5
          rw [decide_eq_false hno]
          refine iteT ?_
          exact rz H8 e18 hb hE
      · rw [decide_eq_true hwb]
        refine iteT ?_
        rcases hstep i _ hRi haim with ⟨ho, _⟩ | ⟨hb, hE⟩
        · obtain ⟨rsk, q1, _⟩ := ho
          rw [hwd] at q1
          exact absurd (PyData.str.inj (List.cons.inj (PyData.tuple.inj q1)).1) hwb
        · exact rz H4 e4 hb hE
    · rintro σ H3 ⟨u3, u4, u5, u6, rfl, e3, hRn⟩
      rw [hnl] at hRn
      obtain ⟨hO, q⟩ := hend hRn
      have hdep := dep_le_cnt t
      refine ⟨.ref x, rfl, x, _, dx, _, tv, rfl, e3 _ _ hx, T.c_Game, T.n_Game_tree, rfl, _, rfl, _, rfl, tv, .ref ra, k, D, row, b, t, rfl, hT.ex e3, hrowT.ex e3, hFit, hO, hRow, hD, by omega, fun dv H4 e4 hdv => ?_⟩
      intro y dy H5 ny ndy nyd e5 hy _
      refine ⟨y, dy, 2, dv, thr row b t, rfl, hy, hdv.ex e5, thr_fit t hFit, by decide, by decide, by rw [thr_cnt]; exact hz, fun H6 e6 hG => ⟨rfl, q (.ref y) H6 (e3.trans (e4.trans (ex_over ny e5 e6))) hG⟩⟩
end
end K69
namespace K69
open PySem PySem.Spec PyProof.Rows L2
open Evl (Ex given)
theorem th_int (b x : Int) : (if decide (b ≤ x) = true then (1 : Int) else 0) = (((if b ≤ x then 1 else 0 : Nat)) : Int) := by
  by_cases z : b ≤ x
  · rw [decide_eq_true z, if_pos rfl, if_pos z] <;> rfl
  · rw [decide_eq_false z, if_neg (by decide), if_neg z] <;> rfl
theorem pl_dl (up : Bool) : Pl 3 (dlA up) := .tup (fun x hx => by
  rcases List.mem_cons.mp hx with e | hx
  · rw [e]; exact .str _
  · rw [List.mem_singleton] at hx
    rw [hx]
    exact pl_nat (by cases up <;> decide)) (by show 2 ≤ 1000; decide)
theorem pl_duel {k : Nat} (t : Tr) : t.Fit k → Duel t → Pl (t.dep + 4) t.dat := by
  refine Tr.ind (C := fun t => t.Fit k → Duel t → Pl (t.dep + 4) t.dat) (fun r _ _ => ?_) (fun p a ts ih h hD => ?_) t
  · refine .tup (fun x hx => ?_) (by show 2 ≤ 1000; decide)
    rcases List.mem_cons.mp hx with e | hx
    · rw [e]; exact .str _
    · rw [List.mem_singleton] at hx
      rw [hx]; exact .int _
  · obtain ⟨_, _, _, h4, h5⟩ := h
    show Pl ((Tr.deps ts + 1) + 4) (.tuple (.str "node" :: .int (p : Int) :: a :: Tr.dats ts))
    rw [show Tr.deps ts + 1 + 4 = (Tr.deps ts + 4) + 1 by omega]
    refine .tup (fun x hx => ?_) (by
      rw [List.length_cons, List.length_cons, List.length_cons, dats_map, List.length_map]
      omega)
    rcases List.mem_cons.mp hx with e | hx
    · rw [e]; exact .str _
    rcases List.mem_cons.mp hx with e | hx
    · rw [e]; exact .int _
    rcases List.mem_cons.mp hx with e | hx
    · rw [e]
      obtain ⟨up, rfl⟩ := hD a List.mem_cons_self
      exact pl_mono (pl_dl up) (by omega)
    · rw [dats_map] at hx
      obtain ⟨u, hu, rfl⟩ := List.mem_map.mp hx
      have := deps_le hu
      exact pl_mono (ih u hu (fits_mem.mp h5 u hu) fun b hb => hD b (List.mem_cons_of_mem _ (mem_aimss hu hb))) (by omega)
section
variable {P : Program} {w : World} {K : PySem.W.Frag} {mg : Str → Option Value} {base : Heap}
/-! ### _law_holds -/
def spHo (K : PySem.W.Frag) : Sp := fun vs H Q _ => ∃ (gv tv rv : V) (b : Int) (va : Addr) (k : Nat) (D row : List Nat) (t : Tr), vs = [gv, tv, rv, .int b, .ref va] ∧ GameAt K k H gv t ∧ TD H tv t.dat ∧ TD H rv (dN row) ∧ Row k D row ∧ DOk k D ∧ t.Fit k ∧ Ord k D t ∧ t.cnt ≤ 6 ∧ H va = some (.lst (vN (val k D t))) ∧ ∀ H', Ex H H' → Q (.bl true) H'
theorem sc__law_holds : FnScope ["_law_game", "_law_tree", "_law_ranks", "_law_bound", "_law_value_here", "_law_duel", "_law_r"] ["_law_game", "_law_tree", "_law_ranks", "_law_bound", "_law_value_here"] (defScope (topS 92)) := ⟨rfl, rfl, rfl, by decide +kernel, rfl, by decide +kernel, by decide +kernel⟩
theorem c__law_holds (T : Txt K mg w) (TX : TxX K) : Cal P w K mg base CX0 21 "_law_holds" ["_law_game", "_law_tree", "_law_ranks", "_law_bound", "_law_value_here"] (spHo K) := by
  refine mkCal (T.d__law_holds) sc__law_holds (fun _ _ _ _ _ _ us hl => match us, hl with | [_, _, _, _, _], _ => rfl) (fun vs H Q E h => ?_) (fun f cdv A outer s H vs Q E hr h => ?_)
  · obtain ⟨gv, tv, rv, b, va, k, D, row, t, rfl, _⟩ := h
    rfl
  · obtain ⟨gv, tv, rv, b, va, k, D, row, t, rfl, hG, hT, hrv, hR, hD, hF, hO, hz, hva, q⟩ := h
    have hk1 := hD.one
    have hk4 := hD.four
    have hrl := hR.len
    have hdep := dep_le_cnt t
    have hdep2 := dep_le_cnt (thr row b t)
    rw [thr_cnt] at hdep2
    obtain ⟨ra, rfl, hra⟩ := td_nat_inv hrv
    refine ⟨_, (pss_cons (ps_set (i := 5) sc__law_holds.nd rfl (Or.inr rfl) (pe_calKX (c_threshold_duel T TX) hr (by omega) (pa_cons (pv 0) (pa_cons (pv 2) pa_nil)) (pk_cons (pv 3) pk_nil)))
      (pss_cons (ps_if (PW.pt (pw_or (pt_not (pt_val (pe_cal (c__law_same T 10) hr (by omega) (pa_cons (pe_fldK K (pv 5) rfl) (pa_cons pe_int pa_nil))))) (pw_or1 (pt_not (pt_val (pe_cal (c__law_same T 10) hr (by omega) (pa_cons (pe_fldK K (pv 5) rfl) (pa_cons (pe_cal (c__law_threshold T 7) hr (by omega) (pa_cons (pv 1) (pa_cons (pv 2) (pa_cons (pv 3) pa_nil)))) pa_nil))))))))
      (pss_one (ps_ret pe_bl))
      pss_nil)
      (pss_cons (ps_if (pt_not (pt_val (pe_callB (cr_allK K) (by rfl) T.z_all (by decide +kernel) (pa_cons (pe_lc (own := [("_law_r", 6)]) rfl sc__law_holds.nd (pi_lstK K (pv 4)) (blkOk_by (by kernel_rfl)) (fun _ _ _ _ _ => (pg_name (i := 6) sc__law_holds.nd rfl (Or.inl rfl))) (fun _ _ _ _ _ => pts_nil) (fun _ _ _ _ _ => (pe_cal (c__law_same T 10) hr (by omega) (pa_cons (pe_cal (c_duel_winner T) hr (by omega) (pa_cons (pv 5) pa_nil)) (pa_cons (pe_callTy call_int1 (by rfl) T.z_int (by decide +kernel) (pa_cons (pe_cmpR op_ge (pe_ix (ix_tupK K) (pv 2) (pv 6) (fun _ _ => rfl)) (pv 3) (nomark _)) pa_nil)) pa_nil))))) pa_nil))))
      (pss_one (ps_ret pe_bl))
      pss_nil)
      (pss_one (ps_ret (pe_cal (c__law_same T 10) hr (by omega) (pa_cons (pe_cal (c_game_value T) hr (by omega) (pa_cons (pv 5) pa_nil)) (pa_cons (pe_tupX (pa_cons (pe_callTy call_int1 (by rfl) T.z_int (by decide +kernel) (pa_cons (pe_cmpR op_ge (pe_ix (ix_tupK K) (pv 2) (pe_ix (ix_lstK K) (pv 4) pe_int (fun _ _ => rfl)) (fun _ _ => rfl)) (pv 3) (nomark _)) pa_nil)) pa_nil)) pa_nil)))))))), ?_⟩
    refine ⟨_, rfl, _, rfl, _, rfl, rfl, rfl, gv, .ref ra, b, k, t, row.map (fun n : Nat => (n : Int)), rfl, hG, hF, hz, hk1, hk4, by rw [← dN_dI]; exact hrv, by rw [List.length_map]; omega, .inr ⟨D, row, fun _ => True, rfl, hR, hD, trivial, fun j a _ ha => .inl ⟨hO a (List.mem_of_getElem? ha), trivial⟩, fun _ => ⟨hO, fun dv H1 e1 hG1 => ?_⟩⟩⟩
    have hG1' := hG1
    obtain ⟨x, dx, na, ea, dtv, nvs, rs, es, c, rfl, hx, hdT, _⟩ := hG1'
    refine ⟨_, rfl, x, _, dx, _, _, rfl, hx, T.c_Game, T.n_Game_outcomes, rfl, _, _, .int 2, rfl, .int 2, .int 2, .int 2, fun H2 e2 => ⟨true, rfl, iteF ?_⟩⟩
    have e12 := e1.trans e2
    refine ⟨_, rfl, x, _, dx, _, dtv, rfl, e2 _ _ hx, T.c_Game, T.n_Game_tree, rfl, _, rfl, _, rfl, _, rfl, tv, .ref ra, k, D, row, b, t, rfl, hT.ex e12, hrv.ex e12, hF, hO, hR, hD, by omega, fun lv H3 e3 hlv => ?_⟩
    have e13 := e12.trans e3
    refine ⟨dtv, lv, _, rfl, hdT.ex (e2.trans e3), hlv, pl_mono (pl_duel (k := 2) _ (thr_fit t hF) (thr_duel t)) (by omega), fun H4 e4 => ⟨true, rfl, iteF ?_⟩⟩
    have e14 := e13.trans e4
    have hG4 := hG1.kp (kp_ex ((e2.trans e3).trans e4))
    have hval := val_props (D := D) t hF
    -- the winner against each outcome of the value
    have win : ∀ r ∈ val k D t, rk [0, 1] (thr row b t) = if b ≤ ((row.getD r 0 : Nat) : Int) then 1 else 0 := thr_rk hR hD t hF
    have hvl := val_len (D := D) t hk1
    refine ⟨_, rfl, va, rfl, ⟨_, SqL.of (e14 _ _ hva)⟩, fun D9 nD9 => lcm_lst (xs := vN (val k D t)) (fun i y _ => y = .bl true) (stD_val (f := fun _ => .bl true)) nD9 (SqL.of (e14 _ _ hva)) (by rw [vN_len]; omega) (fun _ => rfl) ?_ ?_⟩
    · intro i y H5 e5 _ hy
      obtain ⟨r, hr, rfl⟩ := vN_at_inv hy
      have hrm := List.mem_of_getElem? hr
      intro Q' q'
      refine ⟨_, rfl, .ref x, thr row b t, rfl, hG4.kp (kp_ex e5), thr_fit t hF, thr_duel t, by rw [thr_cnt]; omega, fun H6 e6 => ?_⟩
      refine ⟨_, rfl, _, rfl, ra, _, _, _, rfl, rfl, SqT.of ((e14.trans (e5.trans e6)) _ _ hra), atN (vN_at (at_getD (by rw [hrl]; exact (hval.2 r hrm).1))), _, rfl, _, _, rfl, rfl, .inr ⟨_, rfl, ?_⟩⟩
      refine ⟨_, _, .int ((rk [0, 1] (thr row b t) : Nat) : Int), rfl, .int _, ?_, .int _, fun H7 e7 => q' _ H7 (e6.trans e7) rfl⟩
      show TD H6 (.int (if decide (b ≤ ((row.getD r 0 : Nat) : Int)) = true then (1 : Int) else 0)) _
      rw [th_int, win r hrm]
      exact .int _
    · intro H5 ys e5 hD9 hls
      have ez : ys = ((List.range (vN (val k D t)).length).map fun _ => true).map V.bl := by
        rw [LsAt.vals (f := fun _ => .bl true) hls, List.map_map] <;> rfl
      refine ⟨D9, _, rfl, (by rw [← ez]; exact SqL.of hD9), true, ?_, iteF ?_⟩
      · have e5' : ((List.range (vN (val k D t)).length).map fun _ => true).all id = true := by
          rw [List.all_map]
          exact List.all_eq_true.mpr fun _ _ => rfl
        rw [e5']
      have e15 := e14.trans e5
      refine ⟨_, rfl, .ref x, 2, [0, 1], thr row b t, rfl, hG4.kp (kp_ex e5), thr_fit t hF, duel_ord (thr_duel t), dOk2, by rw [thr_cnt]; omega, fun wv H6 e6 hwv => ?_⟩
      have h0 : (val k D t)[0]? = some ((val k D t).getD 0 0) := at_getD (List.length_pos_iff.mpr hval.1)
      have h0m := List.mem_of_getElem? h0
      refine ⟨_, rfl, _, rfl, va, _, 0, _, rfl, rfl, SqL.of ((e15.trans e6) _ _ hva), atN (i := 0) (vN_at h0), ra, _, _, _, rfl, rfl, SqT.of ((e15.trans e6) _ _ hra), atN (vN_at (at_getD (by rw [hrl]; exact (hval.2 _ h0m).1))), _, rfl, _, _, rfl, rfl, .inr ⟨_, rfl, by show 1 ≤ 100000; decide, fun p H7 np e7 hp => ?_⟩⟩
      refine ⟨wv, .ref p, dN [rk [0, 1] (thr row b t)], rfl, ?_, ?_, pl_mono (pl_nat (by show 1 ≤ 1000; decide)) (by decide), fun H8 e8 => q H8 (((e15.trans e6).trans e7).trans e8)⟩
      · rw [← val_two (thr_fit t hF)]
        exact hwv.ex e7
      · refine td_nat ?_
        rw [hp, win _ h0m]
        show some (HO.tup [V.int (if decide (b ≤ ((row.getD ((val k D t).getD 0 0) 0 : Nat) : Int)) = true then (1 : Int) else 0)]) = _
        rw [th_int] <;> rfl
/-! ### _law_refused -/
def spRe (K : PySem.W.Frag) : Sp := fun vs H Q _ => ∃ (gv rv : V) (b : Int) (k : Nat) (t : Tr) (is : List Int), vs = [gv, rv, .int b] ∧ GameAt K k H gv t ∧ t.Fit k ∧ t.cnt ≤ 6 ∧ 1 ≤ k ∧ k ≤ 4 ∧ TD H rv (dI is) ∧ is.length ≤ 100 ∧
  ((¬(is.length = k ∧ ∀ i ∈ is, 0 ≤ i ∧ i < 10) ∧ ∀ v' H', Ex H H' → TD H' v' (.tuple [.str "refused", .int 1]) → Q v' H') ∨
   ∃ (D row : List Nat) (i : Nat) (a : PyData), is = row.map (fun n : Nat => (n : Int)) ∧ Row k D row ∧ DOk k D ∧ t.aims[i]? = some a ∧ BadA k D a ∧ (∀ (j : Nat) (c : PyData), j < i → t.aims[j]? = some c → OrdA k D c) ∧
    ∀ v' H', Ex H H' → TD H' v' (.tuple [.str "node", .int (i : Int)]) → Q v' H')
theorem sc__law_refused : FnScope ["_law_game", "_law_ranks", "_law_bound", "e"] ["_law_game", "_law_ranks", "_law_bound"] (defScope (topS 91)) := ⟨rfl, rfl, rfl, by decide +kernel, rfl, by decide +kernel, by decide +kernel⟩
theorem c__law_refused (T : Txt K mg w) (TX : TxX K) : Cal P w K mg base CX0 21 "_law_refused" ["_law_game", "_law_ranks", "_law_bound"] (spRe K) := by
  refine mkCal (T.d__law_refused) sc__law_refused (fun _ _ _ _ _ _ us hl => match us, hl with | [_, _, _], _ => rfl) (fun vs H Q E h => ?_) (fun f cdv A outer s H vs Q E hr h => ?_)
  · obtain ⟨gv, rv, b, k, t, is, rfl, _⟩ := h
    rfl
  · obtain ⟨gv, rv, b, k, t, is, rfl, hG, hF, hz, hk1, hk4, hrv, hil, hor⟩ := h
    refine ⟨_, (pss_cons (ps_try_as (i := 3) (Wout := fun _ _ _ _ => False) rfl rfl sc__law_refused.nd rfl rfl ⟨rfl, by decide, .inl T.g_ChoosersError⟩ takes0
      (fun W pn xe tk _ => (pss_one (ps_expr (pe_calKS (c_threshold_duel T TX) hr (by omega) (fun σ => passAt tk σ) (pa_cons (pv 0) (pa_cons (pv 1) pa_nil)) (pk_cons (pv 2) pk_nil)))))
      (fun a oe cls d pn hz hf => (pss_cons (ps_if (PW.pt (pw_and (pt_val (pe_callB (call_isX hz hf) (by rfl) T.z_isinstance (by decide +kernel) (pa_cons (pv 3) (pa_cons (pe_gref T.g_NotDuel) pa_nil)))) (pw_and1 (pt_not (pt_val (pe_callB (call_isXT hz hf) (by rfl) T.z_isinstance (by decide +kernel) (pa_cons (pv 3) (pa_cons (pe_tupX (pa_cons (pe_gref T.g_OutOfRange) (pa_cons (pe_gref T.g_SizeMismatch) pa_nil))) pa_nil))))))))
        (pss_one (ps_ret (pe_tupX (pa_cons pe_str (pa_cons (pe_xf TX.fN TX.nN hz hf (pv 3)) pa_nil)))))
        pss_nil)
        (pss_one (ps_ret (pe_tupX (pa_cons pe_str (pa_cons (pe_callTy call_int1 (by rfl) T.z_int (by decide +kernel) (pa_cons (pe_and (pe_callB (call_isX hz hf) (by rfl) T.z_isinstance (by decide +kernel) (pa_cons (pv 3) (pa_cons (pe_gref T.g_OutOfRange) pa_nil))) (pe_one (pe_not (pe_callB (call_isXT hz hf) (by rfl) T.z_isinstance (by decide +kernel) (pa_cons (pv 3) (pa_cons (pe_tupX (pa_cons (pe_gref T.g_NotDuel) (pa_cons (pe_gref T.g_SizeMismatch) pa_nil))) pa_nil)))))) pa_nil)) pa_nil))))))))
      (pss_one (ps_ret (pe_tupX (pa_cons pe_str (pa_cons pe_int pa_nil)))))), ?_⟩
    refine ⟨_, rfl, _, rfl, _, rfl, rfl, rfl, gv, rv, b, k, t, is, rfl, hG, hF, hz, hk1, hk4, hrv, hil, ?_⟩
    rcases hor with ⟨hbad, q⟩ | ⟨D, row, i, a, e, hR, hD, hai, hba, hlt, q⟩
    · refine .inl ⟨hbad, fun H1 e1 => ⟨true, TX.eO, fun _ x hx => ?_, fun z => Bool.noConfusion z⟩⟩
      refine ⟨_, rfl, He.ga K "OutOfRange", .ref (He.ga K "NotDuel"), .ref (He.ga K "NotDuel"), false, rfl, rfl, TX.cO, (fun dd h => by cases h), .own _, TX.qON, false, rfl, iteF ?_⟩
      refine ⟨_, rfl, He.ga K "OutOfRange", .ref (He.ga K "OutOfRange"), .ref (He.ga K "OutOfRange"), true, rfl, rfl, TX.cO, (fun dd h => by cases h), .own _, TX.qOO, true, rfl, iteT ?_⟩
      refine ⟨_, rfl, by show 2 ≤ 100000; decide, fun tp H2 np e2 htp => ?_⟩
      refine ⟨He.ga K "OutOfRange", tp, _, [.ref (He.ga K "NotDuel"), .ref (He.ga K "SizeMismatch")], false, rfl, rfl, TX.cO, (fun dd h => by cases h), htp, .cons (.own _) (.cons (.own _) .nil), kitAny_cons TX.qON (fun _ => kitAny_cons TX.qOS (fun _ => rfl) (fun z => nomatch z)) (fun z => nomatch z), false, rfl, .inr ⟨_, rfl, ?_⟩⟩
      exact ⟨by show 2 ≤ 100000; decide, fun p H3 np3 e3 hp => q (.ref p) H3 (e1.trans (e2.trans e3)) (.tup hp (.cons (.str _) (.cons (.int _) .nil)))⟩
    · refine .inr ⟨D, row, fun j => j ≤ i, e, hR, hD, Nat.zero_le _, fun j c hj hc => ?_, fun hn => ?_⟩
      · rcases Nat.lt_or_eq_of_le hj with hlt' | rfl
        · exact .inl ⟨hlt j c hlt' hc, hlt'⟩
        · rw [hai] at hc
          cases hc
          refine .inr ⟨hba, fun d H1 e1 hd => ⟨true, TX.eN, fun _ x hx => ?_, fun z => Bool.noConfusion z⟩⟩
          have hxd : ∀ {H2 : Hp}, Ex H1 H2 → XD H2 (some d) := fun e dd h => by
            cases h
            exact ⟨_, e _ _ hd⟩
          refine ⟨_, rfl, He.ga K "NotDuel", .ref (He.ga K "NotDuel"), .ref (He.ga K "NotDuel"), true, rfl, rfl, TX.cN, hxd (Ex.refl _), .own _, TX.qNN, true, rfl, iteT ?_⟩
          refine ⟨_, rfl, by show 2 ≤ 100000; decide, fun tp H2 np e2 htp => ?_⟩
          refine ⟨He.ga K "NotDuel", tp, _, [.ref (He.ga K "OutOfRange"), .ref (He.ga K "SizeMismatch")], false, rfl, rfl, TX.cN, hxd e2, htp, .cons (.own _) (.cons (.own _) .nil), kitAny_cons TX.qNO (fun _ => kitAny_cons TX.qNS (fun _ => rfl) (fun z => nomatch z)) (fun z => nomatch z), false, rfl, iteT ?_⟩
          refine ⟨_, rfl, rfl, rfl, d, _, _, rfl, e2 _ _ hd, rfl, by show 2 ≤ 100000; decide, fun p H3 np3 e3 hp => q (.ref p) H3 (e1.trans (e2.trans e3)) (.tup hp (.cons (.str _) (.cons (.int _) .nil)))⟩
      · have := (List.getElem?_eq_some_iff.mp hai).1
        rw [aims_len] at this
        omega
end
end K69
namespace K69
open PySem PySem.Spec PyProof.Rows L2
open Evl (Ex given)
/-! ### where the law stands -/
structure LawSt (K : PySem.W.Frag) (st sc va : Addr) (rv dv gv tv mv : V) (k : Nat) (D row : List Nat) (t : Tr) (H : Hp) : Prop where
  S : StAt H st sc
  r : TD H rv (dN row)
  d : TD H dv (dN D)
  g : TD H gv (dN (ag D))
  tr : TD H tv t.dat
  m : GameAt K k H mv t
  v : H va = some (.lst (vN (val k D t)))
  ne : va ≠ st
section
variable {K : PySem.W.Frag} {st sc va : Addr} {rv dv gv tv mv : V} {k : Nat} {D row : List Nat} {t : Tr} {H H' : Hp}
theorem LawSt.ex (h : LawSt K st sc va rv dv gv tv mv k D row t H) (e : Ex H H') : LawSt K st sc va rv dv gv tv mv k D row t H' :=
  ⟨h.S.ex e, h.r.ex e, h.d.ex e, h.g.ex e, h.tr.ex e, h.m.kp (kp_ex e), e _ _ h.v, h.ne⟩
theorem LawSt.step (h : LawSt K st sc va rv dv gv tv mv k D row t H) (e : ExS [st] H H') (hS : StAt H' st sc) : LawSt K st sc va rv dv gv tv mv k D row t H' :=
  have k := kp_st h.S e
  ⟨hS, h.r.kp k, h.d.kp k, h.g.kp k, h.tr.kp k, h.m.kp k, e _ _ h.v (by simpa using h.ne), h.ne⟩
end
theorem cut_init (xs : List V) : cutV xs none (some (-1)) = xs.take (xs.length - 1) := by
  unfold cutV
  rw [HT.sIx_none, List.drop_zero, Nat.sub_zero]
  have e : HT.sIx xs.length xs.length (some (-1)) = xs.length - 1 := by
    show (if (-1 : Int) < 0 then ((-1 : Int) + (xs.length : Int)).toNat else min ((-1 : Int)).toNat xs.length) = _
    rw [if_pos (by decide)]
    omega
  rw [e]
section
variable {P : Program} {w : World} {K : PySem.W.Frag} {mg : Str → Option Value} {base : Heap}
/-! ### law -/
def spLaw (K : PySem.W.Frag) : Sp := fun vs H Q _ => ∃ (a : Addr) (ns : List Int), vs = [.ref a] ∧ SqL K H a (ns.map V.int) ∧ ns.length ≤ 63 ∧ ∀ H', Q (.bl true) H'
theorem sc_law : FnScope ["_law_script", "_law_state", "_law_k", "_law_top", "_law_low", "_law_ranks", "_law_dense_here", "_law_against", "_law_tree", "_law_game", "_law_value_here", "_law_far", "_law_bound", "_law_near", "_law_row", "_law_at", "_law_wrongs", "_law_many", "_law_first", "_law_second", "_law_spoilt", "_law_other", "_law_r", "_law_rank", "_law_wrong"] ["_law_script"] (defScope (topS 93)) := ⟨rfl, rfl, rfl, by decide +kernel, rfl, by decide +kernel, by decide +kernel⟩
theorem mkFn {x : Str} {st : Stmt} {N ps : List Str} {k : Nat} {sp : Sp} {f0 : Addr} {fd0 : FuncData} (F : FunD K x x (defArgs st) (defBody st) (defScope st) [] [] f0 fd0) (S : FnScope N ps (defScope st)) (hb : BindsBy x st ps) (len : ∀ vs H Q E, sp vs H Q E → vs.length = ps.length)
    (hbody : ∀ (f : Addr) (cdv : Value) (A : Around) (outer : List Env) (s : Shared) (H : Hp) (vs : List V) (Q : VK) (E : XK), Room k (A.deeper (envOfC x (defScope st) s.heap.objs.size f cdv)) → sp vs H Q E →
      ∃ t, PSs (cxOf CX0 P w K mg base N x (defScope st) f cdv A outer s H E).nox (defBody st) t ∧ t { nx := fun _ H' => Q .non H', rt := Q } (start N vs) H) : FnOk P w K mg base CX0 (k + 1) f0 fd0 ps sp :=
  F.ok S len fun cdv A outer s H vs Q E hr h => by
    obtain ⟨t, h1, h2⟩ := hbody f0 cdv A outer s H vs Q E hr h
    exact ⟨t, h1.nox, h2⟩
theorem c_law (T : Txt K mg w) (TX : TxX K) {f0 : Addr} {fd0 : FuncData} (D : FunD K "law" "law" (defArgs (topS 93)) (defBody (topS 93)) (defScope (topS 93)) [] [] f0 fd0) : FnOk P w K mg base CX0 22 f0 fd0 ["_law_script"] (spLaw K) := by
  refine mkFn D sc_law (fun _ _ _ _ _ _ us hl => match us, hl with | [_], _ => rfl) (fun vs H Q E h => ?_) (fun f cdv A outer s H vs Q E hr h => ?_)
  · obtain ⟨a, ns, rfl, _⟩ := h
    rfl
  · obtain ⟨a, ns, rfl, ha, hl, q⟩ := h
    refine ⟨_, (pss_cons (ps_set (i := 1) sc_law.nd rfl (Or.inr rfl) (pe_cal (c__law_start T) hr (by omega) (pa_cons (pv 0) pa_nil)))
      (Evl.pss_cut (ps_set (i := 2) sc_law.nd rfl (Or.inl rfl) (pe_op op_add pe_int (pe_cal (c__law_pick T) hr (by omega) (pa_cons (pv 1) (pa_cons pe_int pa_nil)))))
      (pss_cons (ps_set (i := 3) sc_law.nd rfl (Or.inr rfl) (pe_ix (ix_lstK K) (pe_lstX (pa_cons pe_int (pa_cons pe_int (pa_cons pe_int (pa_cons pe_int pa_nil))))) (pe_cal (c__law_pick T) hr (by omega) (pa_cons (pv 1) (pa_cons pe_int pa_nil))) (fun _ _ => rfl)))
      (pss_cons (ps_set (i := 4) sc_law.nd rfl (Or.inr rfl) (pe_cal (c__law_pick T) hr (by omega) (pa_cons (pv 1) (pa_cons (pe_op op_sub pe_int (pv 3)) pa_nil))))
      (Evl.pss_cut (ps_set (i := 5) sc_law.nd rfl (Or.inl rfl) (pe_callTy call_tupX (by rfl) T.z_tuple (by decide +kernel) (pa_cons (pe_lc (own := [("_law_r", 22)]) rfl sc_law.nd (pi_range1 rfl T.z_range (pa_cons (pv 2) pa_nil)) (blkOk_by (by kernel_rfl)) (fun _ _ _ _ _ => (pg_name (i := 22) sc_law.nd rfl (Or.inl rfl))) (fun _ _ _ _ _ => pts_nil) (fun _ _ _ _ _ => (pe_op op_add (pv 4) (pe_cal (c__law_pick T) hr (by omega) (pa_cons (pv 1) (pa_cons (pv 3) pa_nil)))))) pa_nil)))
      (pss_cons (ps_set (i := 6) sc_law.nd rfl (Or.inr rfl) (pe_cal (c__law_dense T) hr (by omega) (pa_cons (pv 5) pa_nil)))
      (pss_cons (ps_set (i := 7) sc_law.nd rfl (Or.inl rfl) (pe_callTy call_tupX (by rfl) T.z_tuple (by decide +kernel) (pa_cons (pe_lc (own := [("_law_rank", 23)]) rfl sc_law.nd (pi_tupK K (pv 6)) (blkOk_by (by kernel_rfl)) (fun _ _ _ _ _ => (pg_name (i := 23) sc_law.nd rfl (Or.inl rfl))) (fun _ _ _ _ _ => pts_nil) (fun _ _ _ _ _ => (pe_op op_sub (pe_callB (cr_maxTK K) (by rfl) T.z_max (by decide +kernel) (pa_cons (pv 6) pa_nil)) (pv 23)))) pa_nil)))
      (pss_cons (ps_if (PW.pt (pw_or (pt_not (pt_val (pe_cal (c__law_same T 10) hr (by omega) (pa_cons (pe_cal (c_dense_ranks T) hr (by omega) (pa_cons (pv 5) pa_nil)) (pa_cons (pv 6) pa_nil))))) (pw_or1 (pt_not (pt_val (pe_cal (c__law_same T 10) hr (by omega) (pa_cons (pe_cal (c_opposite_ranks T) hr (by omega) (pa_cons (pv 5) pa_nil)) (pa_cons (pv 7) pa_nil))))))))
      (pss_one (ps_ret pe_bl))
      pss_nil)
      (pss_cons (ps_set (i := 8) sc_law.nd rfl (Or.inl rfl) (pe_cal (c__law_sided_tree T 7) hr (by omega) (pa_cons (pv 1) (pa_cons (pv 2) (pa_cons (pe_lstX (pa_cons (pv 6) (pa_cons (pv 7) pa_nil))) (pa_cons (pe_lstX (pa_cons (pe_cal (c__law_pick T) hr (by omega) (pa_cons (pv 1) (pa_cons pe_int pa_nil))) pa_nil)) (pa_cons pe_int pa_nil)))))))
      (pss_cons (ps_set (i := 9) sc_law.nd rfl (Or.inr rfl) (pe_mkr (c_Game T) hr (by omega) (pa_cons (pv 2) (pa_cons (pv 8) pa_nil))))
      (Evl.pss_cut (ps_set (i := 10) sc_law.nd rfl (Or.inl rfl) (pe_cal (c__law_value T 7) hr (by omega) (pa_cons (pv 8) (pa_cons (pv 5) pa_nil))))
      (pss_cons (ps_if (pt_not (pt_val (pe_cal (c__law_same T 10) hr (by omega) (pa_cons (pe_cal (c_game_value T) hr (by omega) (pa_cons (pv 9) pa_nil)) (pa_cons (pe_callTy call_tupX (by rfl) T.z_tuple (by decide +kernel) (pa_cons (pv 10) pa_nil)) pa_nil)))))
      (pss_one (ps_ret pe_bl))
      pss_nil)
      (pss_cons (ps_set (i := 11) sc_law.nd rfl (Or.inl rfl) (pe_op op_add (pe_ix (ix_lstK K) (pe_lstX (pa_cons (pe_op op_pow pe_int pe_int) (pa_cons (pe_op op_pow pe_int pe_int) (pa_cons (pe_op op_pow pe_int pe_int) pa_nil)))) (pe_cal (c__law_pick T) hr (by omega) (pa_cons (pv 1) (pa_cons pe_int pa_nil))) (fun _ _ => rfl)) (pe_cal (c__law_pick T) hr (by omega) (pa_cons (pv 1) (pa_cons pe_int pa_nil)))))
      (pss_cons (ps_for PassesOwn.never rfl (pi_lstK K (pe_op op_catL (pe_listRg rfl (by rfl) T.z_list (prg_2 (by rfl) T.z_range (pe_un un_neg pe_int) pe_int)) (pe_lstX (pa_cons (pv 11) (pa_cons (pe_un un_neg (pv 11)) pa_nil))))) (pg_name (i := 12) sc_law.nd rfl (Or.inl rfl))
      (pss_one (ps_if (pt_not (pt_val (pe_cal (c__law_holds T TX) hr (by omega) (pa_cons (pv 9) (pa_cons (pv 8) (pa_cons (pv 5) (pa_cons (pv 12) (pa_cons (pv 10) pa_nil))))))))
        (pss_one (ps_ret pe_bl))
        pss_nil)))
      (Evl.pss_cut (ps_set (i := 13) sc_law.nd rfl (Or.inr rfl) (pe_cal (c__law_pick T) hr (by omega) (pa_cons (pv 1) (pa_cons pe_int pa_nil))))
      (pss_cons (ps_for PassesOwn.never rfl (pi_lstK K (pe_lstX (pa_cons (pe_cal (c__law_spaced T) hr (by omega) (pa_cons (pv 1) (pa_cons (pv 6) pa_nil))) (pa_cons (pe_cal (c__law_spaced T) hr (by omega) (pa_cons (pv 1) (pa_cons (pv 7) pa_nil))) pa_nil)))) (pg_name (i := 14) sc_law.nd rfl (Or.inl rfl))
      (pss_one (ps_for PassesOwn.never rfl (pi_lstK K (pe_lstX (pa_cons (pv 13) (pa_cons (pe_ix (ix_tupK K) (pv 14) (pe_ix (ix_lstK K) (pv 10) pe_int (fun _ _ => rfl)) (fun _ _ => rfl)) (pa_cons (pe_op op_add (pe_ix (ix_tupK K) (pv 14) (pe_ix (ix_lstK K) (pv 10) pe_int (fun _ _ => rfl)) (fun _ _ => rfl)) pe_int) pa_nil))))) (pg_name (i := 12) sc_law.nd rfl (Or.inl rfl))
        (pss_one (ps_if (pt_not (pt_val (pe_cal (c__law_holds T TX) hr (by omega) (pa_cons (pv 9) (pa_cons (pv 8) (pa_cons (pv 14) (pa_cons (pv 12) (pa_cons (pv 10) pa_nil))))))))
          (pss_one (ps_ret pe_bl))
          pss_nil)))))
      (pss_cons (ps_set (i := 15) sc_law.nd rfl (Or.inl rfl) (pe_cal (c__law_pick T) hr (by omega) (pa_cons (pv 1) (pa_cons (pv 2) pa_nil))))
      (Evl.pss_cut (ps_set (i := 16) sc_law.nd rfl (Or.inl rfl) (pe_lstX (pa_cons (pe_op op_catX (pv 5) (pe_tupX (pa_cons pe_int pa_nil))) (pa_cons (pe_slice sl_tupX (pv 5) po_none (po_some (pe_un un_neg pe_int))) (pa_cons (pe_op op_catX (pe_op op_catX (pe_slice sl_tupX (pv 5) po_none (po_some (pv 15))) (pe_tupX (pa_cons pe_int pa_nil))) (pe_slice sl_tupX (pv 5) (po_some (pe_op op_add (pv 15) pe_int)) po_none)) (pa_cons (pe_op op_catX (pe_op op_catX (pe_slice sl_tupX (pv 5) po_none (po_some (pv 15))) (pe_tupX (pa_cons (pe_un un_neg pe_int) pa_nil))) (pe_slice sl_tupX (pv 5) (po_some (pe_op op_add (pv 15) pe_int)) po_none)) pa_nil))))))
      (pss_cons (ps_if (pt_not (pt_val (pe_callB (cr_allK K) (by rfl) T.z_all (by decide +kernel) (pa_cons (pe_lc (own := [("_law_wrong", 24)]) rfl sc_law.nd (pi_lstK K (pv 16)) (blkOk_by (by kernel_rfl)) (fun _ _ _ _ _ => (pg_name (i := 24) sc_law.nd rfl (Or.inl rfl))) (fun _ _ _ _ _ => pts_nil) (fun _ _ _ _ _ => (pe_cal (c__law_same T 10) hr (by omega) (pa_cons (pe_cal (c__law_refused T TX) hr (by omega) (pa_cons (pv 9) (pa_cons (pv 24) (pa_cons (pv 13) pa_nil)))) (pa_cons (pe_tupX (pa_cons pe_str (pa_cons pe_int pa_nil))) pa_nil))))) pa_nil))))
      (pss_one (ps_ret pe_bl))
      pss_nil)
      (pss_cons (ps_set (i := 17) sc_law.nd rfl (Or.inl rfl) (pe_cal (c__law_count T 7) hr (by omega) (pa_cons (pv 8) pa_nil)))
      (pss_cons (ps_if (pt_cmpR op_eq (pv 17) pe_int (nomark _))
      (pss_one (ps_ret (pe_cal (c__law_same T 10) hr (by omega) (pa_cons (pe_fldK K (pv 9) rfl) (pa_cons (pv 8) pa_nil)))))
      pss_nil)
      (pss_cons (ps_set (i := 18) sc_law.nd rfl (Or.inl rfl) (pe_cal (c__law_pick T) hr (by omega) (pa_cons (pv 1) (pa_cons (pv 17) pa_nil))))
      (pss_cons (ps_set (i := 19) sc_law.nd rfl (Or.inl rfl) (pe_cal (c__law_pick T) hr (by omega) (pa_cons (pv 1) (pa_cons (pv 17) pa_nil))))
      (pss_cons (ps_set (i := 20) sc_law.nd rfl (Or.inl rfl) (pe_cal (c__law_with_aim T 7) hr (by omega) (pa_cons (pv 8) (pa_cons (pv 18) (pa_cons (pe_cal (c__law_wrong_aim T) hr (by omega) (pa_cons (pv 1) (pa_cons (pv 5) (pa_cons (pv 6) (pa_cons (pv 7) pa_nil))))) pa_nil)))))
      (pss_cons (ps_set (i := 20) sc_law.nd rfl (Or.inl rfl) (pe_cal (c__law_with_aim T 7) hr (by omega) (pa_cons (pv 20) (pa_cons (pv 19) (pa_cons (pe_cal (c__law_wrong_aim T) hr (by omega) (pa_cons (pv 1) (pa_cons (pv 5) (pa_cons (pv 6) (pa_cons (pv 7) pa_nil))))) pa_nil)))))
      (pss_cons (ps_set (i := 21) sc_law.nd rfl (Or.inr rfl) (pe_mkr (c_Game T) hr (by omega) (pa_cons (pv 2) (pa_cons (pv 20) pa_nil))))
      (pss_cons (ps_if (pt_not (pt_val (pe_cal (c__law_same T 10) hr (by omega) (pa_cons (pe_cal (c__law_refused T TX) hr (by omega) (pa_cons (pv 21) (pa_cons (pv 5) (pa_cons (pv 13) pa_nil)))) (pa_cons (pe_tupX (pa_cons pe_str (pa_cons (pe_callB (call_min2 rfl) (by rfl) T.z_min (by decide +kernel) (pa_cons (pv 18) (pa_cons (pv 19) pa_nil))) pa_nil))) pa_nil)))))
      (pss_one (ps_ret pe_bl))
      pss_nil)
      (pss_cons (ps_if (pt_not (pt_val (pe_callB (cr_allK K) (by rfl) T.z_all (by decide +kernel) (pa_cons (pe_lc (own := [("_law_wrong", 24)]) rfl sc_law.nd (pi_lstK K (pv 16)) (blkOk_by (by kernel_rfl)) (fun _ _ _ _ _ => (pg_name (i := 24) sc_law.nd rfl (Or.inl rfl))) (fun _ _ _ _ _ => pts_nil) (fun _ _ _ _ _ => (pe_cal (c__law_same T 10) hr (by omega) (pa_cons (pe_cal (c__law_refused T TX) hr (by omega) (pa_cons (pv 21) (pa_cons (pv 24) (pa_cons (pv 13) pa_nil)))) (pa_cons (pe_tupX (pa_cons pe_str (pa_cons pe_int pa_nil))) pa_nil))))) pa_nil))))
      (pss_one (ps_ret pe_bl))
      pss_nil)
      (pss_one (ps_ret (pe_and (pe_cal (c__law_holds T TX) hr (by omega) (pa_cons (pv 9) (pa_cons (pv 8) (pa_cons (pv 5) (pa_cons (pv 13) (pa_cons (pv 10) pa_nil)))))) (pe_one (pe_cal (c__law_same T 10) hr (by omega) (pa_cons (pe_cal (c_game_value T) hr (by omega) (pa_cons (pv 9) pa_nil)) (pa_cons (pe_callTy call_tupX (by rfl) T.z_tuple (by decide +kernel) (pa_cons (pv 10) pa_nil)) pa_nil))))))))))))))))))))))))))))))))))), ?_⟩
    refine ⟨_, rfl, a, ns, rfl, ha, by omega, fun st sc H1 e1 hS1 => ?_⟩
    refine ⟨fun σ H2 => ∃ k : Nat, σ = [some (.ref a), some (.ref st), some (.int (k : Int))] ++ List.replicate 22 none ∧ 1 ≤ k ∧ k ≤ 4 ∧ StAt H2 st sc, ?_, ?_⟩
    · refine ⟨_, rfl, st, sc, 4, rfl, hS1, by decide, by decide, fun r H2 hr2 e2 hS2 => ⟨_, _, rfl, rfl, 1 + r, ?_, by omega, by omega, hS2⟩⟩
      have e9 : (1 : Int) + (r : Int) = ((1 + r : Nat) : Int) := by omega
      show [some (V.ref a), some (.ref st), some (.int ((1 : Int) + (r : Int)))] ++ List.replicate 22 none = _
      rw [e9]
    rintro σ H2 ⟨k, rfl, hk1, hk4, hS2⟩
    -- top
    refine ⟨by show 4 ≤ 100000; decide, fun pl H3 npl e3 hpl => ⟨_, rfl, st, sc, 4, rfl, hS2.ex e3, by decide, by decide, fun r3 H4 hr4 e4 hS4 => ?_⟩⟩
    have plst : pl ≠ st := fun z => by
      obtain ⟨_, _, _, _, h1, _⟩ := hS2
      rw [z, h1] at npl
      cases npl
    have hpl4 := e4 _ _ hpl (by simpa using plst)
    have htop : ∃ top : Nat, 1 ≤ top ∧ top ≤ 10 ∧ [V.int 1, .int 2, .int 3, .int 10][r3]? = some (.int (top : Int)) := by
      match r3, hr4 with
      | 0, _ => exact ⟨1, by decide, by decide, rfl⟩
      | 1, _ => exact ⟨2, by decide, by decide, rfl⟩
      | 2, _ => exact ⟨3, by decide, by decide, rfl⟩
      | 3, _ => exact ⟨10, by decide, by decide, rfl⟩
    obtain ⟨top, ht1, ht10, htat⟩ := htop
    refine ⟨pl, _, _, _, rfl, rfl, SqL.of hpl4, atN htat, ?_⟩
    -- low
    refine ⟨_, rfl, _, rfl, _, _, rfl, rfl, st, sc, 11 - top, ?_, hS4, by omega, by omega, fun low H5 hlow e5 hS5 => ?_⟩
    · show [V.ref st, V.int ((11 : Int) - (top : Int))] = _
      rw [show (11 : Int) - (top : Int) = ((11 - top : Nat) : Int) by omega]
    -- ranks
    refine ⟨fun σ H6 => ∃ (u3 u4 : Option V) (ra : Addr) (row : List Nat), σ = [some (.ref a), some (.ref st), some (.int (k : Int)), u3, u4, some (.ref ra)] ++ List.replicate 19 none ∧ StAt H6 st sc ∧ H6 ra = some (.tup (vN row)) ∧ row.length = k ∧ ∀ r ∈ row, r < 10, ?_, ?_⟩
    · refine ⟨_, rfl, _, rfl, by omega, by omega, fun D9 nD9 => ?_⟩
      rw [show ((k : Nat) : Int).toNat = k by omega]
      have n9st : D9 ≠ st := fun z => by
        obtain ⟨_, _, _, _, h1, _⟩ := hS5
        rw [z, h1] at nD9
        cases nD9
      have n9sc : D9 ≠ sc := fun z => by
        obtain ⟨_, _, _, _, _, h1, _⟩ := hS5
        rw [z, h1] at nD9
        cases nD9
      refine lcs_rng (n := k) (fun i ys H9 => StAt H9 st sc ∧ ∃ os : List Nat, ys = vN os ∧ os.length = i ∧ ∀ o ∈ os, o < 10) (by omega) (fun _ => rfl) ?_ ?_ ?_ ?_
      · rintro i ys zs xs H9 hz ⟨g2, g3⟩
        exact ⟨g2.exS exS_upd (by simpa using n9st.symm) (by simpa using n9sc.symm), g3⟩
      · exact ⟨hS5.exS exS_upd (by simpa using n9st.symm) (by simpa using n9sc.symm), [], rfl, rfl, fun o ho => (by cases ho)⟩
      · rintro i ys H9 ⟨g2, os, rfl, g4, g5⟩ hz hi Q' q'
        refine ⟨_, rfl, _, rfl, _, rfl, st, sc, top, rfl, g2, ht1, by omega, fun r H10 hr10 e10 hS10 => ⟨_, _, rfl, rfl, ?_⟩⟩
        refine q' _ H10 (e10 _ _ hz (by simpa using n9st)) ⟨hS10, os ++ [low + r], ?_, by rw [List.length_append, g4] <;> rfl, fun o ho => ?_⟩
        · rw [vN, vN, List.map_append]
          show _ ++ [V.int ((low : Int) + (r : Int))] = _
          rw [show (low : Int) + (r : Int) = ((low + r : Nat) : Int) by omega] <;> rfl
        · rcases List.mem_append.mp ho with ho | ho
          · exact g5 o ho
          · rw [List.mem_singleton] at ho
            omega
      · rintro H9 ys hz hyl ⟨g2, os, rfl, g4, g5⟩
        exact ⟨D9, _, rfl, .inl hz, fun ra H10 e10 hra => ⟨_, _, ra, os, rfl, g2.ex e10, hra, g4, g5⟩⟩
    rintro σ H6 ⟨u3, u4, ra, row, rfl, hS6, hra6, hrl, hrb⟩
    have hrv6 : TD H6 (.ref ra) (dN row) := td_nat hra6
    -- dense, against
    refine ⟨_, rfl, .ref ra, row, rfl, hrv6, by omega, by omega, hrb, fun dv H7 e7 hdv7 => ?_⟩
    obtain ⟨da, rfl, hda7⟩ := td_nat_inv hdv7
    have hR : Row k (dn row) row := ⟨hrl, hrb, rfl⟩
    have hD : DOk k (dn row) := hR.ok hk1 hk4
    have hdl := dn_len row
    refine ⟨_, rfl, da, rfl, ⟨_, SqT.of hda7⟩, fun D8 nD8 => lcm_tup (xs := vN (dn row)) (fun i y _ => y = .int ((K69.top (dn row) - (dn row).getD i 0 : Nat) : Int)) (stD_val (f := fun i => .int ((K69.top (dn row) - (dn row).getD i 0 : Nat) : Int))) nD8 (SqT.of hda7) (by rw [vN_len]; omega) (fun x => rfl) ?_ ?_⟩
    · intro i x H8 e8 _ hi
      obtain ⟨n, hn, rfl⟩ := vN_at_inv hi
      rw [getD_at hn]
      refine evQ_of fun Q' q' => ⟨_, rfl, da, _, rfl, (by rw [← vN_int]; exact SqT.of (e8 _ _ hda7)), by rw [List.length_map]; omega, fun m hm hle => ?_⟩
      have em := max_is hm hle
      subst em
      refine ⟨.int (n : Int), rfl, _, _, rfl, rfl, ?_⟩
      have hle2 := top_ge (List.mem_of_getElem? hn)
      have e2 : (((K69.top (dn row) : Nat) : Int) - (n : Int)) = ((K69.top (dn row) - n : Nat) : Int) := by omega
      show Q' (.int (((K69.top (dn row) : Nat) : Int) - (n : Int))) H8
      rw [e2]
      exact q'
    intro H8 ys e8 hD8 hls
    refine ⟨D8, ys, rfl, .inl hD8, fun ga H9 e9 hga => ?_⟩
    have hgv9 : TD H9 (.ref ga) (dN (ag (dn row))) := by
      refine td_nat ?_
      rw [hga, LsAt.vals (f := fun i => .int ((K69.top (dn row) - (dn row).getD i 0 : Nat) : Int)) hls, vN_len]
      have := range_map_get (dn row) (fun i => V.int ((K69.top (dn row) - (dn row).getD i 0 : Nat) : Int)) (fun r => V.int ((K69.top (dn row) - r : Nat) : Int)) fun i n hn => by
        rw [getD_at hn]
      rw [this]
      show some (HO.tup _) = some (HO.tup (((dn row).map fun d => K69.top (dn row) - d).map fun n : Nat => V.int (n : Int)))
      rw [List.map_map] <;> rfl
    have e69 := (e7.trans e8).trans e9
    have hrv9 := hrv6.ex e69
    have hdv9 : TD H9 (.ref da) (dN (dn row)) := td_nat ((e8.trans e9) _ _ hda7)
    have hS9 := hS6.ex e69
    -- they agree
    refine ⟨_, rfl, .ref ra, row, rfl, hrv9, by omega, by omega, hrb, fun v1 H10 e10 hv1 => ⟨_, rfl, v1, .ref da, _, rfl, hv1, hdv9.ex e10, pl_mono (pl_nat (by omega)) (by decide), fun H11 e11 => ⟨true, rfl, iteF ?_⟩⟩⟩
    have e911 := e10.trans e11
    refine ⟨_, rfl, .ref ra, row, rfl, hrv9.ex e911, by omega, by omega, hrb, fun v2 H12 e12 hv2 => ⟨_, rfl, v2, .ref ga, _, rfl, hv2, hgv9.ex (e911.trans e12), pl_mono (pl_nat (by rw [ag_len]; omega)) (by decide), fun H13 e13 => ⟨true, rfl, iteF ?_⟩⟩⟩
    have e913 := e911.trans (e12.trans e13)
    have hS13 := hS9.ex e913
    -- the tree
    refine ⟨_, rfl, _, rfl, _, rfl, _, rfl, by show 2 ≤ 100000; decide, fun oa H14 noa e14 hoa => ⟨_, rfl, st, sc, 7, rfl, hS13.ex e14, by decide, by decide, fun m H15 hm e15 hS15 => ⟨by show 1 ≤ 100000; decide, fun ro H16 nro e16 hro => ?_⟩⟩⟩
    have oast : oa ≠ st := fun z => by
      obtain ⟨_, _, _, _, h1, _⟩ := hS13
      rw [z, h1] at noa
      cases noa
    have rosc : ro ≠ sc := fun z => by
      obtain ⟨_, _, _, _, _, h1, _⟩ := hS15
      rw [z, h1] at nro
      cases nro
    have hS16 := hS15.ex e16
    have k916 : Kp H9 H16 := ((kp_ex (e913.trans e14)).trans (kp_st (hS13.ex e14) e15)).trans (kp_ex e16)
    refine ⟨st, sc, oa, ro, .ref da, .ref ga, k, dn row, m, 0, rfl, hD, hS16, e16 _ _ (e15 _ _ hoa (by simpa using oast)), hdv9.kp k916, hgv9.kp k916, hro, rosc, hm, by omega, fun tv H17 t m' e17 hS17 hro17 hcnt hTt hFt hOt => ?_⟩
    have k1617 : Kp H16 H17 := kp_exS e17 fun z hz => by
      rcases List.mem_cons.mp hz with rfl | hz
      · obtain ⟨_, _, _, _, h1, _⟩ := hS16
        exact ⟨_, h1⟩
      rw [List.mem_singleton] at hz
      subst hz
      exact ⟨_, hro⟩
    have k917 := k916.trans k1617
    have hc6 : t.cnt ≤ 6 := by omega
    have hdep := dep_le_cnt t
    -- the game
    refine ⟨_, rfl, _, rfl, fun gx gdx H18 ngx ngdx nge e18 hgx _ => ⟨gx, gdx, k, tv, t, rfl, hgx, hTt.ex e18, hFt, hk1, hk4, hc6, fun H19 e19 hG => ⟨rfl, ?_⟩⟩⟩
    have e1719 : Ex H17 H19 := ex_over ngx e18 e19
    have k919 := k917.trans (kp_ex e1719)
    refine ⟨fun σ H20 => ∃ (u3 u4 : Option V) (va : Addr), σ = [some (.ref a), some (.ref st), some (.int (k : Int)), u3, u4, some (.ref ra), some (.ref da), some (.ref ga), some tv, some (.ref gx), some (.ref va)] ++ List.replicate 14 none ∧ LawSt K st sc va (.ref ra) (.ref da) (.ref ga) tv (.ref gx) k (dn row) row t H20, ?_, ?_⟩
    · have hS19 := hS17.ex e1719
      refine ⟨_, rfl, _, rfl, tv, .ref ra, k, dn row, row, t, rfl, hTt.ex e1719, hrv9.kp k919, hFt, hOt, hR, hD, by omega, fun va H20 nva e20 hva => ⟨_, _, va, rfl, ⟨hS19.ex e20, (hrv9.kp k919).ex e20, (hdv9.kp k919).ex e20, (hgv9.kp k919).ex e20, (hTt.ex e1719).ex e20, hG.kp (kp_ex e20), hva, fun z => ?_⟩⟩⟩
      obtain ⟨_, _, _, _, h1, _⟩ := hS19
      rw [z, h1] at nva
      cases nva
    clear k919 k917 k1617 k916 hro17 hro e17 hS17 hS16 e16 e15 hS15 e14 hoa hG e19 e18 hgx e1719 hTt
    rintro σ H20 ⟨u3, u4, va, rfl, L⟩
    have hvl := val_len (D := dn row) t hk1
    -- its value
    refine ⟨_, rfl, .ref gx, k, dn row, t, rfl, L.m, hFt, hOt, hD, by omega, fun v' H21 e21 hv => ⟨_, rfl, va, _, rfl, .inl (e21 _ _ L.v), fun l H22 e22 hl => ⟨v', .ref l, _, rfl, hv.ex e22, td_nat hl, pl_mono (pl_nat (by omega)) (by decide), fun H23 e23 => ⟨true, rfl, iteF ?_⟩⟩⟩⟩
    have L23 := L.ex ((e21.trans e22).trans e23)
    -- far
    refine ⟨_, _, rfl, rfl, ⟨by decide, by decide, by decide⟩, _, _, rfl, rfl, ⟨by decide, by decide, by decide⟩, _, _, rfl, rfl, ⟨by decide, by decide, by decide⟩, by show 3 ≤ 100000; decide, fun fl H24 nfl e24 hfl => ⟨_, rfl, st, sc, 3, rfl, L23.S.ex e24, by decide, by decide, fun r H25 hr25 e25 hS25 => ?_⟩⟩
    have flst : fl ≠ st := fun z => by
      obtain ⟨_, _, _, _, h1, _⟩ := L23.S
      rw [z, h1] at nfl
      cases nfl
    have L25 := (L23.ex e24).step e25 hS25
    have hfl25 := e25 _ _ hfl (by simpa using flst)
    obtain ⟨z0, hz0⟩ : ∃ z : Int, [V.int ((10 : Int) ^ (2 : Int).toNat), .int ((10 : Int) ^ (18 : Int).toNat), .int ((10 : Int) ^ (39 : Int).toNat)][r]? = some (.int z) := by
      match r, hr25 with
      | 0, _ => exact ⟨_, rfl⟩
      | 1, _ => exact ⟨_, rfl⟩
      | 2, _ => exact ⟨_, rfl⟩
    refine ⟨fl, _, _, _, rfl, rfl, SqL.of hfl25, atN hz0, _, rfl, st, sc, 1000, rfl, hS25, by decide, by decide, fun r2 H26 _ e26 hS26 => ⟨_, _, rfl, rfl, ?_⟩⟩
    have L26 := L25.step e26 hS26
    -- every bound
    refine ⟨_, rfl, _, _, rfl, rfl, ⟨by decide, by decide, by decide, by decide, by decide⟩, fun q1 nq1 => ⟨_, rfl, _, rfl, _, rfl, by show 2 ≤ 100000; decide, fun p1 H27 np1 e27 hp1 => ⟨q1, p1, _, _, rfl, rfl, e27 _ _ upd_same, hp1, (by show (rgV (-1) 12).length + 2 ≤ 100000; decide), fun p2 H28 np2 e28 hp2 => ⟨p2, rfl, ⟨_, SqL.of hp2⟩, ?_⟩⟩⟩⟩
    have L28 := L26.ex ((ex_upd nq1).trans (e27.trans e28))
    have allInt : ∀ (i : Nat) (v : V), (rgV (-1) 12 ++ [V.int (z0 + (r2 : Int)), .int (-(z0 + (r2 : Int)))])[i]? = some v → ∃ z : Int, v = .int z := fun i v hv => by
      rcases List.mem_append.mp (List.mem_of_getElem? hv) with h | h
      · unfold rgV at h
        obtain ⟨j, _, rfl⟩ := List.mem_map.mp h
        exact ⟨_, rfl⟩
      · rcases List.mem_cons.mp h with h | h
        · exact ⟨_, h⟩
        · rw [List.mem_singleton] at h
          exact ⟨_, h⟩
    refine for_it (walk_list (xs := rgV (-1) 12 ++ [V.int (z0 + (r2 : Int)), .int (-(z0 + (r2 : Int)))])) (fun i σ H29 => ∃ u12 : Option V, σ = [some (.ref a), some (.ref st), some (.int (k : Int)), u3, u4, some (.ref ra), some (.ref da), some (.ref ga), some tv, some (.ref gx), some (.ref va), some (.int (z0 + (r2 : Int))), u12] ++ List.replicate 12 none ∧ Ex H28 H29) ⟨none, rfl, Ex.refl _⟩ ?_ ?_ ?_
    · rintro i σ H29 hi ⟨u12, rfl, e29⟩
      exact SqL.of (e29 _ _ hp2)
    · rintro i bv σ H29 H29' hi ⟨u12, rfl, e29⟩ ⟨eH, hbv⟩
      subst eH
      obtain ⟨z, rfl⟩ := allInt i bv hbv
      have L29 := L28.ex e29
      refine ⟨_, rfl, _, rfl, _, rfl, _, rfl, _, rfl, .ref gx, tv, .ref ra, z, va, k, dn row, row, t, rfl, L29.m, L29.tr, L29.r, hR, hD, hFt, hOt, hc6, L29.v, fun H30 e30 => ⟨true, rfl, iteF ⟨_, rfl, e29.trans e30⟩⟩⟩
    rintro σ H29 ⟨u12, rfl, e29⟩
    have L29 := L28.ex e29
    -- near
    refine ⟨fun σ H30 => ∃ (u11 u12 : Option V) (near : Int), σ = [some (.ref a), some (.ref st), some (.int (k : Int)), u3, u4, some (.ref ra), some (.ref da), some (.ref ga), some tv, some (.ref gx), some (.ref va), u11, u12, some (.int near)] ++ List.replicate 11 none ∧ LawSt K st sc va (.ref ra) (.ref da) (.ref ga) tv (.ref gx) k (dn row) row t H30, ?_, ?_⟩
    · exact ⟨_, rfl, st, sc, 10, rfl, L29.S, by decide, by decide, fun r H30 _ e30 hS30 => ⟨_, u12, (r : Int), rfl, L29.step e30 hS30⟩⟩
    clear L29 e29 L28 allInt L26 e26 hS26 hz0 hfl25 L25 e25 hS25
    rintro σ H30 ⟨u11, u12, near, rfl, L30⟩
    -- rows of the same and of the opposite order
    refine ⟨_, rfl, _, rfl, st, sc, .ref da, k, dn row, rfl, L30.S, L30.d, hD, fun w1 row1 H31 e31 hS31 hw1 hR1 => ?_⟩
    have L31 := L30.step e31 hS31
    refine ⟨_, rfl, _, rfl, st, sc, .ref ga, k, ag (dn row), rfl, L31.S, L31.g, hD.ag, fun w2 row2 H32 e32 hS32 hw2 hR2 => ⟨by show 2 ≤ 100000; decide, fun rl H33 nrl e33 hrl33 => ?_⟩⟩
    have L32 := L31.step e32 hS32
    have L33 := L32.ex e33
    have hw1' := (hw1.kp (kp_st hS31 e32)).ex e33
    have hw2' := hw2.ex e33
    obtain ⟨hva2, _⟩ := val_ag hD t hFt hOt
    have rows : ∀ (i : Nat) (v : V), [w1, w2][i]? = some v → ∃ (D' row' : List Nat), TD H33 v (dN row') ∧ Row k D' row' ∧ DOk k D' ∧ Ord k D' t ∧ val k D' t = val k (dn row) t := fun i v hv => by
      match i, hv with
      | 0, hv =>
        cases hv
        exact ⟨_, row1, hw1', hR1, hD, hOt, rfl⟩
      | 1, hv =>
        cases hv
        exact ⟨_, row2, hw2', hR2, hD.ag, ord_ag hD hOt, hva2⟩
    refine ⟨rl, rfl, ⟨_, SqL.of hrl33⟩, for_it (walk_list (xs := [w1, w2])) (fun i σ H34 => ∃ u12 u14 : Option V, σ = [some (.ref a), some (.ref st), some (.int (k : Int)), u3, u4, some (.ref ra), some (.ref da), some (.ref ga), some tv, some (.ref gx), some (.ref va), u11, u12, some (.int near), u14] ++ List.replicate 10 none ∧ Ex H33 H34) ⟨u12, none, rfl, Ex.refl _⟩ ?_ ?_ ?_⟩
    · rintro i σ H34 hi ⟨_, _, rfl, e34⟩
      exact SqL.of (e34 _ _ hrl33)
    · rintro i wv σ H34 H34' hi ⟨u12', u14, rfl, e34⟩ ⟨eH, hwv⟩
      subst eH
      obtain ⟨D', row', hwT, hR', hD', hO', hval⟩ := rows i wv hwv
      have L34 := L33.ex e34
      have hwT34 := hwT.ex e34
      obtain ⟨wa', rfl, hwa⟩ := td_nat_inv hwT34
      obtain ⟨g1, g2⟩ := val_props (D := dn row) t hFt
      have h0 : (val k (dn row) t)[0]? = some ((val k (dn row) t).getD 0 0) := at_getD (List.length_pos_iff.mpr g1)
      have h0k := (g2 _ (List.mem_of_getElem? h0)).1
      have hrl' := hR'.len
      have hat := atN (vN_at (at_getD (l := row') (i := (val k (dn row) t).getD 0 0) (by omega)))
      refine ⟨_, rfl, _, rfl, _, rfl, va, _, 0, _, rfl, rfl, SqL.of L34.v, atN (i := 0) (vN_at h0), wa', _, _, _, rfl, rfl, SqT.of hwa, hat, _, rfl, _, rfl, va, _, 0, _, rfl, rfl, SqL.of L34.v, atN (i := 0) (vN_at h0), wa', _, _, _, rfl, rfl, SqT.of hwa, hat, _, _, rfl, rfl, by show 3 ≤ 100000; decide, fun bl H35 nbl e35 hbl => ⟨bl, rfl, ⟨_, SqL.of hbl⟩, ?_⟩⟩
      refine for_it (walk_list (xs := [V.int near, .int ((row'.getD ((val k (dn row) t).getD 0 0) 0 : Nat) : Int), .int (((row'.getD ((val k (dn row) t).getD 0 0) 0 : Nat) : Int) + 1)])) (fun i σ H36 => ∃ u12 : Option V, σ = [some (.ref a), some (.ref st), some (.int (k : Int)), u3, u4, some (.ref ra), some (.ref da), some (.ref ga), some tv, some (.ref gx), some (.ref va), u11, u12, some (.int near), some (.ref wa')] ++ List.replicate 10 none ∧ Ex H35 H36) ⟨u12', rfl, Ex.refl _⟩ ?_ ?_ ?_
      · rintro j σ H36 hj ⟨_, rfl, e36⟩
        exact SqL.of (e36 _ _ hbl)
      · rintro j bv σ H36 H36' hj ⟨_, rfl, e36⟩ ⟨eH, hbv⟩
        subst eH
        obtain ⟨z, rfl⟩ : ∃ z : Int, bv = .int z := by
          match j, hbv with
          | 0, h => exact ⟨_, (Option.some.inj h).symm⟩
          | 1, h => exact ⟨_, (Option.some.inj h).symm⟩
          | 2, h => exact ⟨_, (Option.some.inj h).symm⟩
        have L36 := L34.ex (e35.trans e36)
        refine ⟨_, rfl, _, rfl, _, rfl, _, rfl, _, rfl, .ref gx, tv, .ref wa', z, va, k, D', row', t, rfl, L36.m, L36.tr, hwT34.ex (e35.trans e36), hR', hD', hFt, hO', hc6, by rw [hval]; exact L36.v, fun H37 e37 => ⟨true, rfl, iteF ⟨_, rfl, e36.trans e37⟩⟩⟩
      · rintro σ H36 ⟨u12'', rfl, e36⟩
        exact ⟨_, _, rfl, e34.trans (e35.trans e36)⟩
    rintro σ H34 ⟨u12', u14, rfl, e34⟩
    have L34 := L33.ex e34
    -- ranks that are refused
    refine ⟨_, rfl, _, rfl, st, sc, k, rfl, L34.S, hk1, by omega, fun pt H35 hpt e35 hS35 => ?_⟩
    have L35 := L34.step e35 hS35
    obtain ⟨ra', era, hra35⟩ := td_nat_inv L35.r
    cases era
    refine ⟨fun σ H36 => ∃ (wl : Addr) (ws : List V), σ = [some (.ref a), some (.ref st), some (.int (k : Int)), u3, u4, some (.ref ra), some (.ref da), some (.ref ga), some tv, some (.ref gx), some (.ref va), u11, u12', some (.int near), u14, some (.int (pt : Int)), some (.ref wl)] ++ List.replicate 8 none ∧ LawSt K st sc va (.ref ra) (.ref da) (.ref ga) tv (.ref gx) k (dn row) row t H36 ∧ H36 wl = some (.lst ws) ∧ wl ≠ st ∧ ws.length ≤ 4 ∧
      ∀ (i : Nat) (v : V), ws[i]? = some v → ∃ is : List Int, TD H36 v (dI is) ∧ is.length ≤ 100 ∧ ¬(is.length = k ∧ ∀ i ∈ is, 0 ≤ i ∧ i < 10), ?_, ?_⟩
    · have rl5 : (vN row).length ≤ 4 := by rw [vN_len]; omega
      refine ⟨_, rfl, by show 1 ≤ 100000; decide, fun p1 G1 n1 f1 hp1 => ⟨ra, p1, _, _, rfl, rfl, f1 _ _ hra35, hp1, (by show (vN row).length + 1 ≤ 100000; omega), fun p2 G2 f2 hp2 => ?_⟩⟩
      have F2 := f1.trans f2
      refine ⟨_, rfl, _, rfl, _, rfl, ra, _, rfl, F2 _ _ hra35, fun p3 G3 f3 hp3 => ?_⟩
      have F3 := F2.trans f3
      have cl : ∀ lo hi, (cutV (vN row) lo hi).length ≤ 4 := fun lo hi => Nat.le_trans (cutV_length _ _ _) rl5
      refine ⟨_, rfl, _, rfl, _, rfl, ra, _, rfl, F3 _ _ hra35, fun p4 G4 f4 hp4 => ⟨by show 1 ≤ 100000; decide, fun p5 G5 n5 f5 hp5 => ⟨p4, p5, _, _, rfl, rfl, f5 _ _ hp4, hp5, (by have := cl none (some (pt : Int)); show (cutV (vN row) none (some (pt : Int))).length + 1 ≤ 100000; omega), fun p6 G6 f6 hp6 => ?_⟩⟩⟩
      have F6 := ((F3.trans f4).trans f5).trans f6
      refine ⟨_, rfl, _, rfl, _, _, rfl, rfl, _, rfl, ra, _, rfl, F6 _ _ hra35, fun p7 G7 f7 hp7 => ⟨p6, p7, _, _, rfl, rfl, f7 _ _ hp6, hp7, ?_, fun p8 G8 f8 hp8 => ?_⟩⟩
      · have h1 := cl none (some (pt : Int))
        have h2 := cl (some ((pt : Int) + 1)) none
        rw [List.length_append]
        show (cutV (vN row) none (some (pt : Int))).length + 1 + (cutV (vN row) (some ((pt : Int) + 1)) none).length ≤ 100000
        omega
      have F8 := (F6.trans f7).trans f8
      refine ⟨_, rfl, _, rfl, _, rfl, ra, _, rfl, F8 _ _ hra35, fun q4 K4 g4 hq4 => ⟨_, rfl, by show 1 ≤ 100000; decide, fun q5 K5 m5 g5 hq5 => ⟨q4, q5, _, _, rfl, rfl, g5 _ _ hq4, hq5, (by have := cl none (some (pt : Int)); show (cutV (vN row) none (some (pt : Int))).length + 1 ≤ 100000; omega), fun q6 K6 g6 hq6 => ?_⟩⟩⟩
      have F86 := (g4.trans g5).trans g6
      refine ⟨_, rfl, _, rfl, _, _, rfl, rfl, _, rfl, ra, _, rfl, F86 _ _ (F8 _ _ hra35), fun q7 K7 g7 hq7 => ⟨q6, q7, _, _, rfl, rfl, g7 _ _ hq6, hq7, ?_, fun q8 K8 g8 hq8 => ?_⟩⟩
      · have h1 := cl none (some (pt : Int))
        have h2 := cl (some ((pt : Int) + 1)) none
        rw [List.length_append]
        show (cutV (vN row) none (some (pt : Int))).length + 1 + (cutV (vN row) (some ((pt : Int) + 1)) none).length ≤ 100000
        omega
      have F88 := (F86.trans g7).trans g8
      refine ⟨by show 4 ≤ 100000; decide, fun wl K9 nwl g9 hwl => ⟨wl, _, rfl, L35.ex ((F8.trans F88).trans g9), hwl, fun z => ?_, by show 4 ≤ 4; decide, fun i v hv => ?_⟩⟩
      · obtain ⟨_, _, _, _, h1, _⟩ := (L35.ex (F8.trans F88)).S
        rw [z, h1] at nwl
        cases nwl
      have ept : ((pt : Int) + 1) = ((pt + 1 : Nat) : Int) := by omega
      have hri : ∀ i ∈ row.map (fun n : Nat => (n : Int)), True := fun _ _ => trivial
      have hlr : (row.map fun n : Nat => (n : Int)).length = k := by rw [List.length_map, hrl]
      have w1 : G2 p2 = some (.tup (((row.map fun n : Nat => (n : Int)) ++ [0]).map V.int)) := by
        rw [hp2, List.map_append, ← vN_int] <;> rfl
      have w2 : G3 p3 = some (.tup (((row.map fun n : Nat => (n : Int)).take (k - 1)).map V.int)) := by
        have hp3x : G3 p3 = some (.tup (cutV (vN row) none (some (-1)))) := hp3
        rw [hp3x, cut_init, vN_len, hrl, List.map_take, ← vN_int]
      have w3 : G8 p8 = some (.tup (((row.map fun n : Nat => (n : Int)).take pt ++ [10] ++ (row.map fun n : Nat => (n : Int)).drop (pt + 1)).map V.int)) := by
        have hp8x : G8 p8 = some (.tup ((cutV (vN row) none (some (pt : Int)) ++ [V.int 10]) ++ cutV (vN row) (some ((pt : Int) + 1)) none)) := hp8
        rw [hp8x, cut_to, ept, cut_from, List.map_append, List.map_append, List.map_take, List.map_drop, ← vN_int] <;> rfl
      have w4 : K8 q8 = some (.tup (((row.map fun n : Nat => (n : Int)).take pt ++ [-1] ++ (row.map fun n : Nat => (n : Int)).drop (pt + 1)).map V.int)) := by
        have hq8x : K8 q8 = some (.tup ((cutV (vN row) none (some (pt : Int)) ++ [V.int (-1)]) ++ cutV (vN row) (some ((pt : Int) + 1)) none)) := hq8
        rw [hq8x, cut_to, ept, cut_from, List.map_append, List.map_append, List.map_take, List.map_drop, ← vN_int] <;> rfl
      have len3 : ∀ z : Int, ((row.map fun n : Nat => (n : Int)).take pt ++ [z] ++ (row.map fun n : Nat => (n : Int)).drop (pt + 1)).length ≤ 100 := fun z => by
        rw [List.length_append, List.length_append, List.length_take, List.length_drop, List.length_singleton, hlr]
        omega
      have in3 : ∀ z : Int, z ∈ (row.map fun n : Nat => (n : Int)).take pt ++ [z] ++ (row.map fun n : Nat => (n : Int)).drop (pt + 1) := fun z => List.mem_append_left _ (List.mem_append_right _ List.mem_cons_self)
      match i, hv with
      | 0, hv =>
        cases hv
        exact ⟨_, td_int ((((((f3.trans f4).trans f5).trans f6).trans (f7.trans f8)).trans (F88.trans g9)) _ _ w1), by rw [List.length_append, hlr]; show k + 1 ≤ 100; omega, fun ⟨z, _⟩ => by rw [List.length_append, hlr] at z; have z : k + 1 = k := z; omega⟩
      | 1, hv =>
        cases hv
        exact ⟨_, td_int (((((f4.trans f5).trans f6).trans (f7.trans f8)).trans (F88.trans g9)) _ _ w2), by rw [List.length_take, hlr]; omega, fun ⟨z, _⟩ => by rw [List.length_take, hlr] at z; omega⟩
      | 2, hv =>
        cases hv
        exact ⟨_, td_int ((F88.trans g9) _ _ w3), len3 10, fun ⟨_, z⟩ => by have := z 10 (in3 10); omega⟩
      | 3, hv =>
        cases hv
        exact ⟨_, td_int (g9 _ _ w4), len3 (-1), fun ⟨_, z⟩ => by have := z (-1) (in3 (-1)); omega⟩
    clear L35 e35 hS35
    rintro σ H36 ⟨wl, ws, rfl, L36, hwl, wlst, hws4, hws⟩
    -- one refusal after the other
    have refl : ∀ (mv : V) (t' : Tr) (H : Hp) (v : V) (is : List Int), GameAt K k H mv t' → t'.Fit k → t'.cnt ≤ 6 → TD H v (dI is) → is.length ≤ 100 → ¬(is.length = k ∧ ∀ i ∈ is, 0 ≤ i ∧ i < 10) → ∀ Q' : VK, (∀ H', Ex H H' → Q' (.bl true) H') →
        spRe K [mv, v, .int near] H (fun v1 H1 => 2 ≤ 100000 ∧ ∀ p H2, H1 p = none → Ex H1 H2 → H2 p = some (.tup [.str "refused", .int 1]) → spSame 10 [v1, .ref p] H2 Q' E0) E0 := by
      intro mv t' H v is hG hF' hc' hv hl hb Q' q'
      refine ⟨mv, v, near, k, t', is, rfl, hG, hF', hc', hk1, hk4, hv, hl, .inl ⟨hb, fun v1 H1 e1 hv1 => ⟨by decide, fun p H2 np e2 hp => ⟨v1, .ref p, _, rfl, hv1.ex e2, .tup hp (.cons (.str _) (.cons (.int _) .nil)), ?_, fun H3 e3 => q' H3 ((e1.trans e2).trans e3)⟩⟩⟩⟩
      exact .tup (fun x hx => by
        rcases List.mem_cons.mp hx with e | hx
        · rw [e]; exact .str _
        · rw [List.mem_singleton] at hx
          rw [hx]; exact .int _) (by show 2 ≤ 1000; decide)
    refine ⟨_, rfl, wl, rfl, ⟨_, SqL.of hwl⟩, fun D9 nD9 => lcm_lst (xs := ws) (fun i y _ => y = .bl true) (stD_val (f := fun _ => .bl true)) nD9 (SqL.of hwl) (by omega) (fun _ => rfl) ?_ ?_⟩
    · intro i v H37 e37 _ hv
      obtain ⟨is, g1, g2, g3⟩ := hws i v hv
      intro Q' q'
      exact ⟨_, rfl, _, rfl, _, rfl, refl (.ref gx) t H37 v is (L36.m.kp (kp_ex e37)) hFt hc6 (g1.ex e37) g2 g3 _ fun H' e' => q' _ H' e' rfl⟩
    intro H37 ys37 e37 hD9 hls37
    have all1 : ∀ n : Nat, ((List.range n).map fun _ => true).all id = true := fun n => by
      rw [List.all_map]
      exact List.all_eq_true.mpr fun _ _ => rfl
    have ez37 : ys37 = ((List.range ws.length).map fun _ => true).map V.bl := by
      rw [LsAt.vals (f := fun _ => .bl true) hls37, List.map_map] <;> rfl
    refine ⟨D9, _, rfl, (by rw [← ez37]; exact SqL.of hD9), true, by rw [all1], iteF ?_⟩
    have L37 := L36.ex e37
    -- how many nodes
    refine ⟨_, rfl, tv, t, rfl, L37.tr, by omega, fun p' b' us hs => (sub_fit hFt hs).2.2.2.1, fun H38 e38 => ?_⟩
    have L38 := L37.ex e38
    refine ⟨_, rfl, rfl, decide (t.cnt = 0), ?_, ?_⟩
    · show V.bl (decide (V.int ((t.cnt : Nat) : Int) = V.int 0)) = _
      rw [show decide (V.int ((t.cnt : Nat) : Int) = V.int 0) = decide (t.cnt = 0) from decide_eq_decide.mpr ⟨fun z => by have := V.int.inj z; omega, fun z => by rw [z] <;> rfl⟩]
    by_cases hc0 : t.cnt = 0
    · rw [decide_eq_true hc0]
      obtain ⟨gx', gdx', na, ea, tv', nvs, rs, es, c, egx, hgx', hT', _⟩ := L38.m
      cases egx
      have hpl : Pl 10 t.dat := by
        cases t with
        | leaf r => exact pl_mono (d := 2) (.tup (fun x hx => by
            rcases List.mem_cons.mp hx with e | hx
            · rw [e]; exact .str _
            · rw [List.mem_singleton] at hx
              rw [hx]; exact .int _) (by show 2 ≤ 1000; decide)) (by decide)
        | node p b ts =>
          have : Tr.cnts ts + 1 = 0 := hc0
          omega
      exact iteT ⟨_, rfl, gx, _, gdx', _, tv', rfl, hgx', T.c_Game, T.n_Game_tree, rfl, _, rfl, tv', tv, t.dat, rfl, hT', L38.tr, hpl, fun H' _ => q H'⟩
    rw [decide_eq_false hc0]
    refine iteF ?_
    -- two nodes spoilt
    refine ⟨_, rfl, _, rfl, st, sc, t.cnt, rfl, L38.S, by omega, by omega, fun n1 H39 hn1 e39 hS39 => ?_⟩
    have L39 := L38.step e39 hS39
    refine ⟨_, rfl, _, rfl, st, sc, t.cnt, rfl, L39.S, by omega, by omega, fun n2 H40 hn2 e40 hS40 => ?_⟩
    have L40 := L39.step e40 hS40
    refine ⟨_, rfl, _, rfl, _, rfl, _, rfl, _, rfl, _, rfl, st, sc, .ref ra, .ref da, .ref ga, k, dn row, row, rfl, L40.S, L40.r, L40.d, L40.g, hR, hD, fun av1 b1 H41 e41 hS41 hav1 hA1 hB1 => ?_⟩
    have L41 := L40.step e41 hS41
    refine ⟨tv, av1, (n1 : Int), k, t, b1, rfl, L41.tr, hav1, hFt, by omega, fun sv1 H42 e42 hsv1 => ?_⟩
    have L42 := L41.ex e42
    have hF1 : (wa (n1 : Int) b1 t).Fit k := wa_fit hA1 t _ hFt
    have hcn1 : (wa (n1 : Int) b1 t).cnt = t.cnt := wa_cnt t _
    have hdp1 := dep_le_cnt (wa (n1 : Int) b1 t)
    refine ⟨_, rfl, _, rfl, _, rfl, _, rfl, _, rfl, _, rfl, st, sc, .ref ra, .ref da, .ref ga, k, dn row, row, rfl, L42.S, L42.r, L42.d, L42.g, hR, hD, fun av2 b2 H43 e43 hS43 hav2 hA2 hB2 => ?_⟩
    have L43 := L42.step e43 hS43
    refine ⟨sv1, av2, (n2 : Int), k, wa (n1 : Int) b1 t, b2, rfl, hsv1.kp (kp_st L42.S e43), hav2, hF1, by omega, fun sv2 H44 e44 hsv2 => ?_⟩
    have L44 := L43.ex e44
    have hF2 : (wa (n2 : Int) b2 (wa (n1 : Int) b1 t)).Fit k := wa_fit hA2 _ _ hF1
    have hcn2 : (wa (n2 : Int) b2 (wa (n1 : Int) b1 t)).cnt = t.cnt := by rw [wa_cnt, hcn1]
    refine ⟨_, rfl, _, rfl, fun ox odx H45 nox nodx noe e45 hox _ => ⟨ox, odx, k, sv2, _, rfl, hox, hsv2.ex e45, hF2, hk1, hk4, by omega, fun H46 e46 hG2 => ⟨rfl, ?_⟩⟩⟩
    have L46 := L44.ex (ex_over nox e45 e46)
    have big : ExS [st] H36 H46 := (((((((exS_ex (e37.trans e38)).trans e39).trans e40).trans e41).trans (exS_ex e42)).trans e43).trans (exS_ex e44)).trans (exS_ex (ex_over nox e45 e46))
    have hwl46 := big _ _ hwl (by simpa using wlst)
    have kbig := kp_st L36.S big
    have hal : t.aims.length = t.cnt := aims_len t
    have ha2 : (wa (n2 : Int) b2 (wa (n1 : Int) b1 t)).aims = (t.aims.set n1 b1).set n2 b2 := by
      rw [wa_aims, wa_aims]
      unfold setI
      rw [if_neg (by omega), if_neg (by omega)]
      rfl
    have key : ∃ (i : Nat) (bb : PyData), (if (n2 : Int) < (n1 : Int) then (n2 : Int) else (n1 : Int)) = (i : Int) ∧ (wa (n2 : Int) b2 (wa (n1 : Int) b1 t)).aims[i]? = some bb ∧ BadA k (dn row) bb ∧ ∀ (j : Nat) (c : PyData), j < i → (wa (n2 : Int) b2 (wa (n1 : Int) b1 t)).aims[j]? = some c → OrdA k (dn row) c := by
      rw [ha2]
      have low : ∀ (i : Nat), i ≤ n1 → i ≤ n2 → ∀ (j : Nat) (c : PyData), j < i → ((t.aims.set n1 b1).set n2 b2)[j]? = some c → OrdA k (dn row) c := fun i h1 h2 j c hj hc => by
        rw [List.getElem?_set_ne (by omega), List.getElem?_set_ne (by omega)] at hc
        exact hOt c (List.mem_of_getElem? hc)
      by_cases hlt : n2 < n1
      · refine ⟨n2, b2, by rw [if_pos (by omega)], ?_, hB2, low n2 (by omega) (by omega)⟩
        rw [List.getElem?_set_self (by rw [List.length_set]; omega)]
      · by_cases heq : n2 = n1
        · refine ⟨n1, b2, by rw [if_neg (by omega)], ?_, hB2, low n1 (by omega) (by omega)⟩
          rw [heq, List.getElem?_set_self (by rw [List.length_set]; omega)]
        · refine ⟨n1, b1, by rw [if_neg (by omega)], ?_, hB1, low n1 (by omega) (by omega)⟩
          rw [List.getElem?_set_ne (by omega), List.getElem?_set_self (by omega)]
    obtain ⟨i, bb, hi, hai, hbb, hlow⟩ := key
    refine ⟨_, rfl, _, rfl, _, rfl, .ref ox, .ref ra, near, k, _, row.map (fun n : Nat => (n : Int)), rfl, hG2, hF2, by omega, hk1, hk4, (by rw [← dN_dI]; exact L46.r), by rw [List.length_map]; omega, .inr ⟨dn row, row, i, bb, rfl, hR, hD, hai, hbb, hlow, fun v1 H47 e47 hv1 => ⟨_, rfl, _, rfl, _, _, rfl, by show 2 ≤ 100000; decide, fun p H48 np e48 hp => ⟨v1, .ref p, _, rfl, hv1.ex e48, .tup hp (.cons (.str _) (.cons (by rw [hi]; exact .int _) .nil)), ?_, fun H49 e49 => ⟨true, rfl, iteF ?_⟩⟩⟩⟩⟩
    · exact .tup (fun x hx => by
        rcases List.mem_cons.mp hx with e | hx
        · rw [e]; exact .str _
        · rw [List.mem_singleton] at hx
          rw [hx]; exact .int _) (by show 2 ≤ 1000; decide)
    have e4649 := (e47.trans e48).trans e49
    have L49 := L46.ex e4649
    have hwl49 := e4649 _ _ hwl46
    refine ⟨_, rfl, wl, rfl, ⟨_, SqL.of hwl49⟩, fun D9 nD9 => lcm_lst (xs := ws) (fun i y _ => y = .bl true) (stD_val (f := fun _ => .bl true)) nD9 (SqL.of hwl49) (by omega) (fun _ => rfl) ?_ ?_⟩
    · intro i v H50 e50 _ hv
      obtain ⟨is, g1, g2, g3⟩ := hws i v hv
      intro Q' q'
      exact ⟨_, rfl, _, rfl, _, rfl, refl (.ref ox) _ H50 v is (hG2.kp (kp_ex (e4649.trans e50))) hF2 (by omega) ((g1.kp kbig).ex (e4649.trans e50)) g2 g3 _ fun H' e' => q' _ H' e' rfl⟩
    intro H50 ys50 e50 hD50 hls50
    have ez50 : ys50 = ((List.range ws.length).map fun _ => true).map V.bl := by
      rw [LsAt.vals (f := fun _ => .bl true) hls50, List.map_map] <;> rfl
    refine ⟨D9, _, rfl, (by rw [← ez50]; exact SqL.of hD50), true, by rw [all1], iteF ?_⟩
    have L50 := L49.ex e50
    refine ⟨_, rfl, _, rfl, _, rfl, _, rfl, _, rfl, .ref gx, tv, .ref ra, near, va, k, dn row, row, t, rfl, L50.m, L50.tr, L50.r, hR, hD, hFt, hOt, hc6, L50.v, fun H51 e51 => ⟨true, rfl, iteT ?_⟩⟩
    have L51 := L50.ex e51
    refine ⟨_, rfl, .ref gx, k, dn row, t, rfl, L51.m, hFt, hOt, hD, by omega, fun v' H52 e52 hv => ⟨_, rfl, va, _, rfl, .inl (e52 _ _ L51.v), fun l H53 e53 hl => ⟨v', .ref l, _, rfl, hv.ex e53, td_nat hl, pl_mono (pl_nat (by omega)) (by decide), fun H54 _ => q H54⟩⟩⟩
end
end K69
namespace K69
open PySem PySem.Spec PyProof.Rows L2
open Evl (Ex given)
/-! ### what the head tells -/
section
variable {w : World} {K : PySem.W.Frag} {h : Heap} {mg : Str → Option Value}
theorem df_of (X : K.In h) (G : h.Ns mainGlobals mg) (c : He.SaysD hfa hfn K) {x : Str} {st : Stmt} (i j : Nat) (hd : hfn[i]? = some ⟨(x, none), x, x, defArgs st, defBody st, defScope st, [], []⟩ := by rfl) (hf : hfa[j]? = some (.glo x) := by rfl) : Df K mg x st := by
  obtain ⟨fd, F⟩ := c.def_ i hd
  exact ⟨_, fd, F, He.glo_ok X G (c.fact j hf)⟩
theorem mk_of (c : He.SaysD hfa hfn K) {x q : Str} {st : Stmt} (i j : Nat) (hd : hfn[i]? = some ⟨(x, some "__init__"), "__init__", q, defArgs st, defBody st, defScope st, [], []⟩ := by rfl) (hf : hfa[j]? = some (.mkr x) := by rfl) : ∃ f fd, Mk K (He.ga K x) f ∧ FunD K "__init__" q (defArgs st) (defBody st) (defScope st) [] [] f fd := by
  obtain ⟨fd, F⟩ := c.def_ i hd
  exact ⟨_, fd, He.mkr_ok (c.fact j hf), F⟩
theorem cv_of {f : Str} {i : Int} (h : cvB K f i = true) : ∃ u, ClX.CVal K (He.ga K "Game") (.type "type") f (.int i) u := by
  unfold cvB at h
  split at h
  · rename_i u e
    exact ⟨u, e, He.relB_ok h⟩
  · cases h
theorem eqB_ok {a b : Option Bool} (h : eqB a b = true) : a = b := of_decide_eq_true h
theorem oex_of {C : Addr} (h : oexB K C = true) : ∃ nm q N bs bm sn sub ab col dd k0 k1 k2 k3 k5, K.lookup C = some (excClassObj nm q C N bs bm true sn sub ab col dd k0 k1 k2 k3 k5 "ValueError.__new__") ∧ PySem.HandSPX.refsVE bm = true := by
  unfold oexB at h
  split at h
  · rename_i dd cd sl ho
    split at h
    · rename_i C' bm k0 k1 k2 k3 n k5 hm hs
      simp only [Bool.and_eq_true, beq_iff_eq, Bool.not_eq_true'] at h
      obtain ⟨⟨⟨⟨rfl, rfl⟩, hdel⟩, hdc⟩, ht⟩ := h
      obtain ⟨nm, bs, mro, ns, qn, hd, sn, sub, ab, col, del⟩ := cd
      dsimp only at hm hdel hdc
      subst hm hdel hdc
      have hsl : sl = #[k0, k1, k2, k3, some (.builtin "ValueError.__new__"), k5] := by
        obtain ⟨l⟩ := sl
        simp only at hs
        rw [hs]
      subst hsl
      exact ⟨nm, qn, ns, bs, bm, sn, sub, ab, col, dd, k0, k1, k2, k3, k5, ho, ht⟩
    · cases h
  · cases h
theorem xc_of {D : Addr} (h : xcB K D = true) : ExcC K D := by
  obtain ⟨h1, h⟩ := He.ba h
  obtain ⟨h2, h⟩ := He.ba h
  obtain ⟨h3, h⟩ := He.ba h
  obtain ⟨h4, h⟩ := He.ba h
  obtain ⟨h5, h⟩ := He.ba h
  obtain ⟨h6, h⟩ := He.ba h
  obtain ⟨h7, h8⟩ := He.ba h
  exact ⟨He.eqO_ok h1, He.eqO_ok h2, eqB_ok h3, h4, He.eqO_ok h5, He.eqO_ok h6, eqB_ok h7, eqB_ok h8⟩
theorem txt_of (X : K.In h) (G : h.Ns mainGlobals mg) (c : SaysM w K) : Txt K mg w := by
  have d := c.t.d
  obtain ⟨hA, _⟩ := He.ba c.more
  obtain ⟨a1, hA⟩ := He.ba hA
  obtain ⟨a2, hA⟩ := He.ba hA
  obtain ⟨a3, hA⟩ := He.ba hA
  obtain ⟨a4, hA⟩ := He.ba hA
  obtain ⟨a5, a6⟩ := He.ba hA
  have wd : ∀ (i : Nat) (x : Str) (v : He.Dv), lw[i]? = some (x, v) → ∃ u, PySem.W.nsIn K (He.ga K "LENGTHS") x = some (some u) ∧ RelV (v.v K) u := fun i x v e => He.valsB_ok a1 (q := (x, v)) (List.mem_of_getElem? e)
  exact {
    d_count_choices := df_of X G d 0 32
    d_is_small := df_of X G d 1 33
    d_is_below := df_of X G d 2 34
    d_check_numbers := df_of X G d 3 35
    d_check_head := df_of X G d 4 36
    d_check_aim := df_of X G d 5 37
    d_ranked := df_of X G d 6 38
    d_simple_good := df_of X G d 7 39
    d_good_options := df_of X G d 8 40
    d_check_tree := df_of X G d 9 41
    d_scan_tree := df_of X G d 10 42
    d_dense_ranks := df_of X G d 11 43
    d_opposite_ranks := df_of X G d 12 44
    d_node_sides := df_of X G d 13 45
    d_told_behind := df_of X G d 14 46
    d_node_winners := df_of X G d 15 47
    d_root_winner := df_of X G d 16 48
    d_duel_winner := df_of X G d 17 49
    d_threshold_tree := df_of X G d 18 50
    d_threshold_duel := df_of X G d 19 51
    d_child_lots := df_of X G d 20 52
    d_good_contexts := df_of X G d 21 53
    d_option_lots := df_of X G d 22 54
    d_walk_lots := df_of X G d 23 55
    d_value_lots := df_of X G d 24 56
    d_game_value := df_of X G d 25 57
    d__law_start := df_of X G d 26 58
    d__law_pick := df_of X G d 27 59
    d__law_same := df_of X G d 28 60
    d__law_dense := df_of X G d 29 61
    d__law_spaced := df_of X G d 30 62
    d__law_sided_tree := df_of X G d 31 63
    d__law_value := df_of X G d 32 64
    d__law_threshold := df_of X G d 33 65
    d__law_count := df_of X G d 34 66
    d__law_with_aim := df_of X G d 35 67
    d__law_wrong_aim := df_of X G d 36 68
    d__law_refused := df_of X G d 37 69
    d__law_holds := df_of X G d 38 70
    z_len := He.free_ok X G (d.fact 0 (f := .free "len") rfl)
    z_isinstance := He.free_ok X G (d.fact 1 (f := .free "isinstance") rfl)
    z_tuple := He.free_ok X G (d.fact 2 (f := .free "tuple") rfl)
    z_max := He.free_ok X G (d.fact 3 (f := .free "max") rfl)
    z_min := He.free_ok X G (d.fact 4 (f := .free "min") rfl)
    z_list := He.free_ok X G (d.fact 5 (f := .free "list") rfl)
    z_int := He.free_ok X G (d.fact 6 (f := .free "int") rfl)
    z_any := He.free_ok X G (d.fact 7 (f := .free "any") rfl)
    z_all := He.free_ok X G (d.fact 8 (f := .free "all") rfl)
    z_sum := He.free_ok X G (d.fact 9 (f := .free "sum") rfl)
    z_sorted := He.free_ok X G (d.fact 10 (f := .free "sorted") rfl)
    z_set := He.free_ok X G (d.fact 11 (f := .free "set") rfl)
    z_enumerate := He.free_ok X G (d.fact 12 (f := .free "enumerate") rfl)
    z_range := He.free_ok X G (d.fact 13 (f := .free "range") rfl)
    z_str := He.free_ok X G (d.fact 14 (f := .free "str") rfl)
    z_bool := He.free_ok X G (d.fact 15 (f := .free "bool") rfl)
    i_MOST_AIM_LEVELS := He.int_ok X G (d.fact 16 (f := .int "MOST_AIM_LEVELS" 6) rfl)
    i_MOST_RANK := He.int_ok X G (d.fact 17 (f := .int "MOST_RANK" 9) rfl)
    i_MOST_SMALL_OPTIONS := He.int_ok X G (d.fact 18 (f := .int "MOST_SMALL_OPTIONS" 8) rfl)
    i_MOST_CONTEXTS := He.int_ok X G (d.fact 19 (f := .int "MOST_CONTEXTS" 256) rfl)
    i_MOST_OPTIONS := He.int_ok X G (d.fact 20 (f := .int "MOST_OPTIONS" 64) rfl)
    i_MOST_OUTCOMES := He.int_ok X G (d.fact 21 (f := .int "MOST_OUTCOMES" 4) rfl)
    i_MOST_PLAYERS := He.int_ok X G (d.fact 22 (f := .int "MOST_PLAYERS" 8) rfl)
    g_Aim := He.glo_ok X G (d.fact 23 (f := .glo "Aim") rfl)
    g_Node := He.glo_ok X G (d.fact 24 (f := .glo "Node") rfl)
    g_Game := He.glo_ok X G (d.fact 25 (f := .glo "Game") rfl)
    g_ChoosersError := He.glo_ok X G (d.fact 26 (f := .glo "ChoosersError") rfl)
    g_OutOfRange := He.glo_ok X G (d.fact 27 (f := .glo "OutOfRange") rfl)
    g_SizeMismatch := He.glo_ok X G (d.fact 28 (f := .glo "SizeMismatch") rfl)
    g_NotDuel := He.glo_ok X G (d.fact 29 (f := .glo "NotDuel") rfl)
    g_InvalidAim := He.glo_ok X G (d.fact 30 (f := .glo "InvalidAim") rfl)
    g_LENGTHS := He.glo_ok X G (d.fact 31 (f := .glo "LENGTHS") rfl)
    c_Aim := He.cls_ok (d.fact 72 (f := .cls "Aim") rfl)
    m_Aim := mk_of d 40 75
    c_Node := He.cls_ok (d.fact 73 (f := .cls "Node") rfl)
    m_Node := mk_of d 41 76
    c_Game := He.cls_ok (d.fact 74 (f := .cls "Game") rfl)
    m_Game := mk_of d 42 77
    n_Aim_term := He.noat_ok (d.fact 78 (f := .noat "Aim" "term") rfl)
    n_Aim_options := He.noat_ok (d.fact 79 (f := .noat "Aim" "options") rfl)
    n_Aim_outcomes := He.noat_ok (d.fact 80 (f := .noat "Aim" "outcomes") rfl)
    n_Node_way := He.noat_ok (d.fact 81 (f := .noat "Node" "way") rfl)
    n_Node_player := He.noat_ok (d.fact 82 (f := .noat "Node" "player") rfl)
    n_Node_aim := He.noat_ok (d.fact 83 (f := .noat "Node" "aim") rfl)
    n_Node_children := He.noat_ok (d.fact 84 (f := .noat "Node" "children") rfl)
    n_Game_outcomes := He.noat_ok (d.fact 85 (f := .noat "Game" "outcomes") rfl)
    n_Game_tree := He.noat_ok (d.fact 86 (f := .noat "Game" "tree") rfl)
    n_Game_nodes := He.noat_ok (d.fact 87 (f := .noat "Game" "nodes") rfl)
    n_Game_ends := He.noat_ok (d.fact 88 (f := .noat "Game" "ends") rfl)
    k_LENGTHS := c.t.tab 0
    l_most := wd 0 _ _ rfl
    l_any := wd 1 _ _ rfl
    l_first := wd 2 _ _ rfl
    l_best := wd 3 _ _ rfl
    l_second := wd 4 _ _ rfl
    l_not := wd 5 _ _ rfl
    r_Game := ⟨a2, He.eqO_ok a3⟩
    v_MOST_NODES := cv_of a4
    v_MOST_LEAVES := cv_of a5
    v_MOST_LEVELS := cv_of a6 }
theorem txx_of (c : SaysM w K) : TxX K := by
  have d := c.t.d
  obtain ⟨_, hr⟩ := He.ba c.more
  obtain ⟨hB, hr⟩ := He.ba hr
  obtain ⟨hC, hD⟩ := He.ba hr
  obtain ⟨b1, hB⟩ := He.ba hB
  obtain ⟨b2, hB⟩ := He.ba hB
  obtain ⟨b3, b4⟩ := He.ba hB
  obtain ⟨c1, hC⟩ := He.ba hC
  obtain ⟨c2, hC⟩ := He.ba hC
  obtain ⟨c3, hC⟩ := He.ba hC
  obtain ⟨c4, hC⟩ := He.ba hC
  obtain ⟨c5, hC⟩ := He.ba hC
  obtain ⟨c6, hC⟩ := He.ba hC
  obtain ⟨c7, hC⟩ := He.ba hC
  obtain ⟨c8, c9⟩ := He.ba hC
  obtain ⟨d1, hD⟩ := He.ba hD
  obtain ⟨d2, hD⟩ := He.ba hD
  obtain ⟨d3, hD⟩ := He.ba hD
  obtain ⟨d4, hD⟩ := He.ba hD
  obtain ⟨d5, hD⟩ := He.ba hD
  obtain ⟨d6, hD⟩ := He.ba hD
  obtain ⟨d7, hD⟩ := He.ba hD
  obtain ⟨d8, hD⟩ := He.ba hD
  obtain ⟨d9, d10⟩ := He.ba hD
  obtain ⟨fd, F⟩ := d.def_ 43 (d := ⟨("NotDuel", some "__init__"), "__init__", "NotDuel.__init__", defArgs (inClass (topS 11) 0), defBody (inClass (topS 11) 0), defScope (inClass (topS 11) 0), [], []⟩) rfl
  exact { xO := b1, kO := b2, bO := eqB_ok b3, tO := of_decide_eq_true b4, oN := ⟨oex_of c1, He.eqO_ok c2, eqB_ok c3, of_decide_eq_true c4, c5⟩, iN := ⟨_, fd, He.eqO_ok c6, of_decide_eq_true c7, F⟩, nN := He.eqO_ok c8, fN := xfB_ok c9, cN := xc_of d1, cO := xc_of d2, eN := eqB_ok d3, eO := eqB_ok d4, qNN := eqB_ok d5, qNO := eqB_ok d6, qNS := eqB_ok d7, qON := eqB_ok d8, qOO := eqB_ok d9, qOS := eqB_ok d10 }
end
theorem law_facts {P : Program} {w : World} {K : PySem.W.Frag} {h : Heap} {mg : Str → Option Value} {f : Addr} (X : K.In h) (G : h.Ns mainGlobals mg) (hfa' : mg ("law" : Str) = some (.ref f)) (c : SaysM w K) :
    ∃ fd : FuncData, (∀ (s : Shared) (v : Value), BindsTo s fd ⟨[v], []⟩ [("_law_script", v)]) ∧ ∀ base : Heap, K.In base → base.Ns mainGlobals mg → FnOk P w K mg base CX0 22 f fd ["_law_script"] (spLaw K) := by
  have T := txt_of X G c
  have TX := txx_of c
  obtain ⟨fd, F⟩ := c.t.d.def_ 39 (d := ⟨("law", none), "law", "law", defArgs (topS 93), defBody (topS 93), defScope (topS 93), [], []⟩) rfl
  have e := hfa'.symm.trans (He.glo_ok X G (c.t.d.fact 71 (f := .glo "law") rfl))
  cases e
  have b := FunD.bindsA (ps := ["_law_script"]) F fun _ _ _ _ _ _ us hl => match us, hl with | [_], _ => rfl
  exact ⟨fd, fun s v => b s [v] rfl, fun base _ _ => c_law T TX F⟩
end K69
open PySem PySem.W PySem.Calls PyProof.Rows
theorem PySem.Challenge.cw_choosersrow_k69_whole_thresholds_holds : PySem.Challenge.rw_choosersrow_k69_whole_thresholds.Holds := by
  w_on; o_law
  refine HandSHeadRun.head_any (r := K69.R) (q := view K69.R.prog [93]) (H := K69.hk) (ob := K69.ob) (M := 20000) (loose := K69.names) (d := HandSHeadRun.topDef K69.R.prog 93) (kwd := []) K69.ob_eq
    (by kernel_rfl) (fun s => by kernel_rfl) K69.run (by kernel_rfl) (by kernel_rfl) (by kernel_rfl) (by rfl) (by first | assumption | decide +kernel) (by decide +kernel) ⟨rfl, rfl, rfl, rfl, rfl, by decide +kernel⟩ ?hw ?hc
  case hw => w_witness2
  case hc =>
    refine L2.walk_ofE (l := PySem.Challenge.rw_choosersrow_k69_whole_thresholds) (n := 63) (k := 22) (x := "_law_script") (CX := L2.CX0) rfl (by decide) (by kernel_rfl) ⟨rfl, by decide, by decide⟩ ?F (fun _ _ _ _ z => z)
    intro w mg fa h Y G hmg0
    obtain ⟨K, KX, c⟩ := Y
    have hmg : mg ("law" : PySem.Str) = some (.ref fa) := by
      have e : (HandSHeadRun.topDef K69.R.prog 93).name = ("law" : PySem.Str) := by kernel_rfl
      rw [← e]
      exact hmg0
    obtain ⟨fd, hb, hF⟩ := K69.law_facts (P := (PySem.Challenge.rw_choosersrow_k69_whole_thresholds).prog) (w := w) KX G hmg c
    exact ⟨K, fd, K69.spLaw K, KX, hb, fun H a ns hl _ hS => ⟨a, ns, rfl, hS, hl, fun _ => rfl⟩, hF⟩
