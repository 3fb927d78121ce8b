import PyProof.Rows.All
import Wide.All
import OpenK.AllK
import Wide.FinOn
import HandS.ForMost
import HandS.Evl
import HandS.Defaults
import HandS.IsInst
import HandS.Wide
import HandS.Rev
import HandS.Zip
import HandS.TupAny
import HandS.TupMul
import HandS.CallLocal
import HandS.Style
import HandS.More
import HandS.TryOnly
import HandS.WordsExc
import HandS.Walk
import PySem.Challenge.RW_partmill_k89_whole_other_bases
import KE.KStateDown
import HandS.Head0
import HandS.Head1
import HandS.Head2
import HandS.HeadEnd
import HandS.HeadHook1
import HandS.HeadHook2
import HandS.HeadHook3
import Open.Tops
import KE.KRevSl
set_option Elab.async false
set_option linter.all false
set_option maxRecDepth 100000
set_option maxHeartbeats 4000000
namespace Bz
open PySem L2
def top (i : Nat) : Stmt := PySem.Challenge.pw_partmill_k89_whole_other_bases.main.body.getD i (.Pass ⟨0, 0, 0, 0⟩)
abbrev s_is_whole_rows : Stmt := top 12
abbrev s_is_row : Stmt := top 14
abbrev s_bare_row : Stmt := top 15
abbrev s_row_of : Stmt := top 16
abbrev s_number_of : Stmt := top 17
abbrev s_figure_at : Stmt := top 18
abbrev s_plus : Stmt := top 19
abbrev s_moved : Stmt := top 20
abbrev s_cut : Stmt := top 21
abbrev s_led : Stmt := top 23
abbrev s_half_of : Stmt := top 24
abbrev s_lifted : Stmt := top 25
abbrev s_halves : Stmt := top 26
abbrev s_is_node : Stmt := top 27
abbrev s_shows_halves : Stmt := top 28
abbrev s_number_in : Stmt := top 157
abbrev s_numbers_in : Stmt := top 159
abbrev s_words_of : Stmt := top 160
abbrev s_pointed : Stmt := top 161
abbrev s_show_row : Stmt := top 162
abbrev s_read_row : Stmt := top 163
abbrev s_want : Stmt := top 177
abbrev s_number_told_desk : Stmt := top 178
abbrev s_row_told : Stmt := top 181
abbrev s_lead_said : Stmt := top 195
abbrev s_law_pot : Stmt := top 199
abbrev s_law_take : Stmt := top 200
abbrev s_law_base : Stmt := top 201
abbrev s_law_row : Stmt := top 202
abbrev s_law_leaves : Stmt := top 203
abbrev s_law_desks_right : Stmt := top 204
abbrev s_law_tree_right : Stmt := top 205
abbrev s_law : Stmt := top 206
abbrev s_desk_init : Stmt := inClass (top 197) 0
abbrev s_desk_say : Stmt := inClass (top 197) 1
end Bz

set_option maxHeartbeats 0
namespace Bz
open PySem PySem.Spec PyProof.Rows L2
def dd (at_ : Str × Option Str) (name qual : Str) (st : Stmt) : He.DefD := ⟨at_, name, qual, defArgs st, defBody st, defScope st, [], []⟩
def d_is_whole_rows : He.DefD := dd ("is_whole_rows", none) "is_whole" "is_whole" s_is_whole_rows
def d_is_row : He.DefD := dd ("is_row", none) "is_row" "is_row" s_is_row
def d_bare_row : He.DefD := dd ("bare_row", none) "bare_row" "bare_row" s_bare_row
def d_row_of : He.DefD := dd ("row_of", none) "row_of" "row_of" s_row_of
def d_number_of : He.DefD := dd ("number_of", none) "number_of" "number_of" s_number_of
def d_figure_at : He.DefD := dd ("figure_at", none) "figure_at" "figure_at" s_figure_at
def d_plus : He.DefD := dd ("plus", none) "plus" "plus" s_plus
def d_moved : He.DefD := dd ("moved", none) "moved" "moved" s_moved
def d_cut : He.DefD := dd ("cut", none) "cut" "cut" s_cut
def d_led : He.DefD := dd ("led", none) "led" "led" s_led
def d_half_of : He.DefD := dd ("half_of", none) "half_of" "half_of" s_half_of
def d_lifted : He.DefD := dd ("lifted", none) "lifted" "lifted" s_lifted
def d_halves : He.DefD := dd ("halves", none) "halves" "halves" s_halves
def d_is_node : He.DefD := dd ("is_node", none) "is_node" "is_node" s_is_node
def d_shows_halves : He.DefD := dd ("shows_halves", none) "shows_halves" "shows_halves" s_shows_halves
def d_number_in : He.DefD := dd ("number_in", none) "number_in" "number_in" s_number_in
def d_numbers_in : He.DefD := dd ("numbers_in", none) "numbers_in" "numbers_in" s_numbers_in
def d_words_of : He.DefD := dd ("words_of", none) "words_of" "words_of" s_words_of
def d_pointed : He.DefD := dd ("pointed", none) "pointed" "pointed" s_pointed
def d_show_row : He.DefD := dd ("show_row", none) "show_row" "show_row" s_show_row
def d_read_row : He.DefD := dd ("read_row", none) "read_row" "read_row" s_read_row
def d_want : He.DefD := dd ("want", none) "want" "want" s_want
def d_number_told_desk : He.DefD := dd ("number_told_desk", none) "number_told" "number_told" s_number_told_desk
def d_row_told : He.DefD := dd ("row_told", none) "row_told" "row_told" s_row_told
def d_lead_said : He.DefD := dd ("lead_said", none) "lead_said" "lead_said" s_lead_said
def d_law_pot : He.DefD := dd ("_law_pot", none) "_law_pot" "_law_pot" s_law_pot
def d_law_take : He.DefD := dd ("_law_take", none) "_law_take" "_law_take" s_law_take
def d_law_base : He.DefD := dd ("_law_base", none) "_law_base" "_law_base" s_law_base
def d_law_row : He.DefD := dd ("_law_row", none) "_law_row" "_law_row" s_law_row
def d_law_leaves : He.DefD := dd ("_law_leaves", none) "_law_leaves" "_law_leaves" s_law_leaves
def d_law_desks_right : He.DefD := dd ("_law_desks_right", none) "_law_desks_right" "_law_desks_right" s_law_desks_right
def d_law_tree_right : He.DefD := dd ("_law_tree_right", none) "_law_tree_right" "_law_tree_right" s_law_tree_right
def d_law : He.DefD := dd ("law", none) "law" "law" s_law
def d_desk_init : He.DefD := dd ("Desk", some "__init__") "__init__" "Desk.__init__" s_desk_init
def d_desk_say : He.DefD := dd ("Desk", some "say") "say" "Desk.say" s_desk_say
def fn : List He.DefD := [d_is_whole_rows, d_is_row, d_bare_row, d_row_of, d_number_of, d_figure_at, d_plus, d_moved, d_cut, d_led, d_half_of, d_lifted, d_halves, d_is_node, d_shows_halves, d_number_in, d_numbers_in, d_words_of, d_pointed, d_show_row, d_read_row, d_want, d_number_told_desk, d_row_told, d_lead_said, d_law_pot, d_law_take, d_law_base, d_law_row, d_law_leaves, d_law_desks_right, d_law_tree_right, d_law, d_desk_init, d_desk_say]
def fa1 : List He.Fa := [.glo "is_whole_rows", .glo "is_row", .glo "bare_row", .glo "row_of", .glo "number_of", .glo "figure_at", .glo "plus", .glo "moved", .glo "cut", .glo "led", .glo "half_of", .glo "lifted", .glo "halves", .glo "is_node", .glo "shows_halves", .glo "number_in", .glo "numbers_in", .glo "words_of", .glo "pointed", .glo "show_row", .glo "read_row", .glo "want", .glo "number_told_desk", .glo "row_told", .glo "lead_said", .glo "_law_pot", .glo "_law_take", .glo "_law_base", .glo "_law_row", .glo "_law_leaves", .glo "_law_desks_right", .glo "_law_tree_right", .glo "law", .glo "Desk"]
def fa2 : List He.Fa := [.glo "ASKED", .glo "NoText", .free "len", .free "isinstance", .free "int", .free "bool", .free "tuple", .free "all", .free "divmod", .free "reversed", .free "range", .free "max", .free "min", .free "zip", .free "str", .free "abs", .str "FIGURES" "0123456789", .int "MOST_FIGURES" 60, .str "NOUGHT" "-", .int "MOST_NUMBER" 1000000, .cls "Desk", .noat "Desk" "kept_base", .noat "Desk" "kept_plan", .meth "Desk" "say", .mkr "Desk"]
def fa : List He.Fa := fa1 ++ fa2
def tsA : List He.Tab := [(fun K => He.ga K "ASKED", ["plan", "best", "cost", "work", "takes", "times", "square", "through", "rests", "turn", "divide", "root", "lead"])]
def names0 : List PySem.Str := ["MillError", "Below", "NoDivisor", "NoRoot", "TooGreat", "NoText", "NoLine", "Uneven", "Unfit", "Shared", "is_whole", "is_whole_rows"]
def names1 : List PySem.Str := ["is_row", "bare_row", "row_of", "number_of", "figure_at", "plus", "moved", "cut", "led", "half_of", "lifted", "halves"]
def names2 : List PySem.Str := ["is_node", "shows_halves", "MOST_PARTS", "WAYS", "part_sizes", "may_cut", "may_go", "is_whole_plans", "is_plan", "NONE", "together", "often"]
def names3 : List PySem.Str := ["products_count", "squares_count", "Products", "Squares", "last_count", "differences_count", "parts_count", "kind_named", "cost_of", "priced", "way_cost", "ways_at"]
def names4 : List PySem.Str := ["best", "carried", "is_prime", "power_rest", "prime_divisors", "is_root", "any_root", "least_power", "root", "common", "shared", "look_apart"]
def names5 : List PySem.Str := ["rests", "inverse", "told_rest", "mixed", "number_told", "number_told_resting", "put_back", "STEP_WORDS", "is_whole_works", "is_cell", "is_step", "are_steps"]
def names6 : List PySem.Str := ["are_outs", "is_work", "stepped", "ran", "Form", "put_to", "form_together", "form_product", "form_by", "form_part", "form_behind", "forms_known"]
def names7 : List PySem.Str := ["outs_of", "product_numbers", "shows_product", "TurnSteps", "turned_whole", "turned_cells", "turn_work", "rest_made", "ran_rests", "turning_size", "filled", "look_sums"]
def names8 : List PySem.Str := ["sums_over", "by_turning", "by_fields", "power_of", "near_sizes", "least_times", "guess_behind", "is_whole_part", "nears", "divided", "Bench", "lay_products"]
def names9 : List PySem.Str := ["lay_out_of_square", "lay_squares", "factors_together", "Parting", "by_plan", "joined", "unlike", "work_of", "square_of", "through_squares", "multiplied", "squared"]
def names10 : List PySem.Str := ["as_long", "through", "root_sizes", "first_figures", "halved_root", "root_guess", "is_first_root", "root_nears", "rooted", "FIGURES", "MOST_FIGURES", "NOUGHT"]
def names11 : List PySem.Str := ["SIGNS", "WORDS", "number_in", "signed_in", "numbers_in", "words_of", "pointed", "show_row", "read_row", "show_plan", "read_plan", "show_work"]
def names12 : List PySem.Str := ["step_in", "read_work", "MOST_SIZE_FIGURES", "MOST_BEST", "MOST_COST", "MOST_WORK", "MOST_NUMBER", "PRICES", "TOO_LONG", "want", "number_told_desk", "size_told"]
def names13 : List PySem.Str := ["row_told", "plan_said", "best_said", "cost_said", "work_said", "takes_said", "rows_told", "times_said", "square_said", "through_said", "rests_said", "turn_said"]
def names14 : List PySem.Str := ["divide_said", "root_said", "lead_said", "ASKED", "Desk", "_law_pot", "_law_take", "_law_base", "_law_row", "_law_leaves", "_law_desks_right", "_law_tree_right"]
def names : List PySem.Str := names0 ++ (names1 ++ (names2 ++ (names3 ++ (names4 ++ (names5 ++ (names6 ++ (names7 ++ (names8 ++ (names9 ++ (names10 ++ (names11 ++ (names12 ++ (names13 ++ (names14))))))))))))))
abbrev R : PySem.W.OpenRow := PySem.W.OpenLaw.row PySem.Challenge.rw_partmill_k89_whole_other_bases
/-! the written part that the facts look at: what my names stand for, and what these name, three steps far -/
def my1 : List PySem.Str := ["is_whole_rows", "is_row", "bare_row", "row_of", "number_of", "figure_at", "plus", "moved", "cut", "led", "half_of", "lifted"]
def my2 : List PySem.Str := ["halves", "is_node", "shows_halves", "number_in", "numbers_in", "words_of", "pointed", "show_row", "read_row", "want", "number_told_desk", "row_told"]
def my3 : List PySem.Str := ["lead_said", "_law_pot", "_law_take", "_law_base", "_law_row", "_law_leaves", "_law_desks_right", "_law_tree_right", "law", "Desk", "ASKED", "NoText"]
def myNames : List PySem.Str := my1 ++ (my2 ++ my3)
def roots (g : Addr → Option Obj) : List Addr := myNames.map (He.ga (He.frG g [mainGlobals]))
def grow1 (g : Addr → Option Obj) (as : List Addr) : List Addr := as.flatMap fun a => match g a with
  | some o => He.refsO o
  | none => []
def asN (g : Addr → Option Obj) : Nat → List Addr → List Addr
  | 0, as => as
  | n + 1, as => as ++ asN g n (grow1 g as)
def seesB (K : PySem.W.Frag) : Bool := He.valsB K (He.ga K "ASKED") [("lead", .glo "lead_said")]
def obsK (K : PySem.W.Frag) : He.AlT × Bool := (He.obsT fa fn tsA K, seesB K)
def obsB (g : Addr → Option Obj) : He.AlT × Bool := obsK (He.frG g (mainGlobals :: asN g 3 (roots g)))
def hk : PySem.W.Hook where
  α := He.AlT × Bool
  obs := fun s => obsB s.heap.get?
  val := fun w => (He.valT fn tsA w, true)
  says := fun w h => ∃ K : PySem.W.Frag, K.In h ∧ (He.obsT fa fn tsA K, seesB K) = (He.valT fn tsA w, true)
  of := fun _ _ e => ⟨_, He.frG_in, e⟩
  keeps := fun _ _ _ ⟨K, hK, c⟩ k => ⟨K, PySem.W.Frag.In.keeps hK k, c⟩
def ob (s : PySem.W.SharedT) : He.AlT × Bool := obsB (HandSHeadRun.getT s)
theorem ob_eq (s : PySem.W.SharedT) : ob s = hk.obs s.abs := by
  have e : HandSHeadRun.getT s = s.abs.heap.get? := funext (HandSHeadRun.getT_eq s)
  show obsB (HandSHeadRun.getT s) = obsB s.abs.heap.get?
  rw [e]
abbrev qv : Program := PySem.W.view R.prog [206]
theorem join3 {α β γ δ : Type} {o : Option α} {f : α → β} {g : α → γ} {h : α → δ} {a : β} {b : γ} {c : δ} (x : o.map f = some a) (y : o.map g = some b) (z : o.map h = some c) : o.map (fun s => (f s, g s, h s)) = some (a, b, c) := by
  cases o with
  | none => cases x
  | some s =>
    cases x
    cases y
    cases z
    rfl
abbrev wf (w : World) (b : Bool) : World := w.withFollow "special-get-raises" b
end Bz

set_option maxHeartbeats 4000000
/-! The head's run in parts: from the boot to the first statement, over the statements (the chain), to the end. -/
namespace Bz
open PySem PySem.W PySem.Calls PyProof.Rows
section
variable (st : PySem.W.SharedT → Thread → Option (PySem.W.SharedT × Thread)) (n0 : Nat) (ann : Option Value)
/-- so many steps of the top -/
def goM : Nat → PySem.W.SharedT → Thread → Option (PySem.W.SharedT × Thread)
  | 0, s, t => some (s, t)
  | m + 1, s, t => match through t with
    | true => none
    | false => match stepOk n0 ann t with
      | false => none
      | true => match st s t with
        | some (s', t') => HandSHeadRun.frS s' fun s' => goM m s' t'
        | none => none
/-- a piece, to its end -/
def sgM : Nat → PySem.W.SharedT → Thread → Option (Flow × PySem.W.SharedT × Code × Pos)
  | 0, _, _ => none
  | m + 1, s, t => match endAt 1 t with
    | some f => some (f, s, t.code, t.pos)
    | none => match stepOk n0 ann t with
      | false => none
      | true => match st s t with
        | some (s', t') => HandSHeadRun.frS s' fun s' => sgM m s' t'
        | none => none
end
theorem goM_ok {tb : String → Option Builtin} {p : Program} {w : World} {n0 : Nat} {ann : Option Value} : ∀ {m : Nat} {s s' : PySem.W.SharedT} {t t' : Thread}, goM (PySem.W.stepT (denote tb) p w) n0 ann m s t = some (s', t') → topGo tb p w n0 ann m s.abs t = some (s'.abs, t')
  | 0, _, _, _, _, h => by
    cases h
    rfl
  | m + 1, s, s', t, t', h => by
    have h1 : (match through t with
      | true => none
      | false => match stepOk n0 ann t with
        | false => none
        | true => match PySem.W.stepT (denote tb) p w s t with
          | some (s', t') => HandSHeadRun.frS s' fun s' => goM (PySem.W.stepT (denote tb) p w) n0 ann m s' t'
          | none => none) = some (s', t') := h
    unfold topGo
    cases ht : through t with
    | true =>
      rw [ht] at h1
      cases h1
    | false =>
      rw [ht] at h1
      cases hk : stepOk n0 ann t with
      | false =>
        rw [hk] at h1
        cases h1
      | true =>
        rw [hk] at h1
        have h2 : (match PySem.W.stepT (denote tb) p w s t with
          | some (s', t') => HandSHeadRun.frS s' fun s' => goM (PySem.W.stepT (denote tb) p w) n0 ann m s' t'
          | none => none) = some (s', t') := h1
        cases hs : PySem.W.stepT (denote tb) p w s t with
        | none =>
          rw [hs] at h2
          cases h2
        | some r =>
          obtain ⟨s2, t2⟩ := r
          rw [hs] at h2
          have h3 : (HandSHeadRun.frS s2 fun s' => goM (PySem.W.stepT (denote tb) p w) n0 ann m s' t2) = some (s', t') := h2
          rw [HandSHeadRun.frS_eq] at h3
          have q := goM_ok h3
          show (match step (denote tb) p w s.abs t with
            | .go s' t' => topGo tb p w n0 ann m s' t'
            | .halt _ _ => none) = some (s'.abs, t')
          rw [PySem.W.stepT_spec hs]
          exact q
theorem sgM_ok {tb : String → Option Builtin} {p : Program} {w : World} {n0 : Nat} {ann : Option Value} : ∀ {m : Nat} {s s' : PySem.W.SharedT} {t : Thread} {f : Flow} {c : Code} {pos : Pos}, sgM (PySem.W.stepT (denote tb) p w) n0 ann m s t = some (f, s', c, pos) → segRun tb p w n0 ann 1 m s.abs t = some (f, s'.abs, c, pos)
  | 0, _, _, _, _, _, _, h => by cases h
  | m + 1, s, s', t, f, c, pos, h => by
    have h1 : (match endAt 1 t with
      | some f => some (f, s, t.code, t.pos)
      | none => match stepOk n0 ann t with
        | false => none
        | true => match PySem.W.stepT (denote tb) p w s t with
          | some (s', t') => HandSHeadRun.frS s' fun s' => sgM (PySem.W.stepT (denote tb) p w) n0 ann m s' t'
          | none => none) = some (f, s', c, pos) := h
    unfold segRun
    cases ht : endAt 1 t with
    | some f2 =>
      rw [ht] at h1
      cases h1
      rfl
    | none =>
      rw [ht] at h1
      cases hk : stepOk n0 ann t with
      | false =>
        rw [hk] at h1
        cases h1
      | true =>
        rw [hk] at h1
        have h2 : (match PySem.W.stepT (denote tb) p w s t with
          | some (s', t') => HandSHeadRun.frS s' fun s' => sgM (PySem.W.stepT (denote tb) p w) n0 ann m s' t'
          | none => none) = some (f, s', c, pos) := h1
        cases hs : PySem.W.stepT (denote tb) p w s t with
        | none =>
          rw [hs] at h2
          cases h2
        | some r =>
          obtain ⟨s2, t2⟩ := r
          rw [hs] at h2
          have h3 : (HandSHeadRun.frS s2 fun s' => sgM (PySem.W.stepT (denote tb) p w) n0 ann m s' t2) = some (f, s', c, pos) := h2
          rw [HandSHeadRun.frS_eq] at h3
          have q := sgM_ok h3
          show (match step (denote tb) p w s.abs t with
            | .go s' t' => segRun tb p w n0 ann 1 m s' t'
            | .halt _ _ => none) = some (f, s'.abs, c, pos)
          rw [PySem.W.stepT_spec hs]
          exact q
/-- the head, if some state behind the top is known -/
theorem left_ex {p q : Program} {loose : List Str} {Xt : Shared → Bool} {α : Type} {Yf : Shared → α} {Ya : World → α} {N : Nat}
    (e : opening p = plainProg p.main.scope.names) (hN : Nat.ble 600 N = true) (f : ∀ s, fenceModules? p s = some s)
    (run : ∀ (w : World) (os : OsState), ∃ (M : Nat) (r : Shared), Nat.ble M N = true ∧ topRun treeTable p w (boot_heap w.params).objs.size (HandSHeadRun.bootAnn w) M ⟨boot_heap w.params, #[], boot_drawn, boot_toks, os⟩ (topStub p) = some r ∧
      HandSHeadRun.looksF p (boot_heap w.params) r = true ∧ openSeen q loose (importedModules p.main.body) Xt true r = openGood q loose ∧ Yf r = Ya w) :
    LeftO p q loose Xt Yf Ya N true := fun w => by
  obtain ⟨⟨h, gs, d, k, os⟩, a, a'⟩ := Option.map_eq_some_iff.mp (boot_open e hN f w)
  obtain ⟨rfl, rfl, rfl, rfl⟩ : h = boot_heap w.params ∧ gs = Array.mk [] ∧ d = boot_drawn ∧ k = boot_toks := by simpa using a'
  obtain ⟨M, r0, le, hr, l1, l2, l3⟩ := run w os
  have r := topRun_mono (N - M) _ _ _ _ hr
  rw [show M + (N - M) = N by have := Nat.le_of_ble_eq_true le; omega] at r
  have l1' : (staticsOk (importedModules p.main.body) (boot_heap w.params) r0.heap && namesBound p r0.heap && gensDone r0 && laidKept (boot_heap w.params) r0.heap) = true := l1
  have t : topFrom treeTable p w N ⟨boot_heap w.params, Array.mk [], boot_drawn, boot_toks, os⟩ = some r0 := by
    unfold topFrom
    dsimp only
    rw [HandSHeadRun.boot_ns]
    show (topRun treeTable p w (boot_heap w.params).objs.size (HandSHeadRun.bootAnn w) N ⟨boot_heap w.params, #[], boot_drawn, boot_toks, os⟩ (topStub p)).bind _ = _
    rw [r]
    show (match staticsOk (importedModules p.main.body) (boot_heap w.params) r0.heap && namesBound p r0.heap && gensDone r0 && laidKept (boot_heap w.params) r0.heap with | true => some r0 | false => none) = _
    rw [l1']
  unfold openEnds
  rw [a]
  show (topFrom treeTable p w N _).map _ = _
  rw [t]
  exact congrArg some (Prod.ext l2 l3)
/-- the law's head by such a state -/
theorem head_ex {r : OpenRow} {q : Program} {H : Hook} {N : Nat} {loose : List PySem.Str} {d : DefRec} {kwd : List (PySem.Str × PySem.Expr)}
    (e : opening r.prog = plainProg r.prog.main.scope.names) (hN : Nat.ble 600 N = true) (f : ∀ s, fenceModules? r.prog s = some s)
    (run : ∀ (w : World) (os : OsState), ∃ (M : Nat) (s : Shared), Nat.ble M N = true ∧ topRun treeTable r.prog w (boot_heap w.params).objs.size (HandSHeadRun.bootAnn w) M ⟨boot_heap w.params, #[], boot_drawn, boot_toks, os⟩ (topStub r.prog) = some s ∧
      HandSHeadRun.looksF r.prog (boot_heap w.params) s = true ∧ openSeen q loose (importedModules r.prog.main.body) (fun s => xlAt q [] s && recOk r.toRowW.records s) true s = openGood q loose ∧ H.obs s = H.val w)
    (hdef : defOf q r.name = some (d, kwd)) (hp : r.prog.theDef r.name = some (d.params, d.body, d.scope)) (hk : kwWritten? d.params.kwonlyargs d.params.kw_defaults = some kwd)
    (hwr : (!r.writes || r.records.isEmpty) = true) (k1 : r.wellSaid = true) (ok : (chainsOk q && opensWell r.prog && (frees r.toRowW && r.within.isEmpty)) = true) (hb : r.prog.bare) (hw : r.toRowW.promised)
    (call : WalkO q loose (XL q []) H.says r.toRowW d kwd fun f vs => PySem.call f vs) : r.Holds :=
  holds_open (r := r) (q := q) (loose := loose) (XP := XL q []) (YP := H.says) (d := d) (kwd := kwd) (left_ex (Xt := fun s => xlAt q [] s && recOk r.toRowW.records s) (Yf := H.obs) (Ya := H.val) e hN f run) H.of H.keeps (fun s z => xl_of s (Bool.and_eq_true_iff.mp z).1) XL.keeps hdef hp hk
    (fun s z => recFacts_of (Bool.and_eq_true_iff.mp z).2) hwr k1 ok hb hw call
/-- the boot as a tree -/
noncomputable def bootS (w : World) (os : OsState) : Option PySem.W.SharedT := match HandSHeadRun.putAll (boot_heap w.params).objs.toList .nil 0 with
  | some (t, n) => some (HandSHeadRun.bootT w os (t, n))
  | none => none
theorem bootS_ok {w : World} {os : OsState} {s : PySem.W.SharedT} (h : bootS w os = some s) : s.abs = ⟨boot_heap w.params, #[], boot_drawn, boot_toks, os⟩ := by
  unfold bootS at h
  cases e : HandSHeadRun.putAll (boot_heap w.params).objs.toList .nil 0 with
  | none =>
    rw [e] at h
    cases h
  | some r =>
    obtain ⟨t, n⟩ := r
    rw [e] at h
    have h1 : some (HandSHeadRun.bootT w os (t, n)) = some s := h
    cases h1
    have eh := HandSHeadRun.putAll_heap e
    show (⟨absHeap t n (boot_heap w.params).life, #[], boot_drawn, boot_toks, os⟩ : Shared) = _
    rw [eh]
noncomputable abbrev stQ (p : Program) (w : World) : PySem.W.SharedT → Thread → Option (PySem.W.SharedT × Thread) := HandSHeadRun.stepQ (HandSHeadRun.denQ HandSHeadRun.tabQ) p w
theorem stQ_eq (p : Program) (w : World) : stQ p w = PySem.W.stepT (denote treeTable) p w := by
  unfold stQ
  rw [HandSHeadRun.stepQ_eq, HandSHeadRun.denQ_eq, HandSHeadRun.tabQ_eq]
theorem run_parts {p : Program} {w : World} {os : OsState} {env : Env} {q pos posB posK : Pos} {bE rest : List Stmt} {SbT KT : PySem.W.SharedT} {n1 n2 n3 m0 : Nat} {ann : Option Value} {A : Nat → Nat} {good : Shared → Prop}
    (hm : (boot_heap w.params).objs.size = m0) (ha : HandSHeadRun.bootAnn w = ann)
    (pre : ((bootS w os).bind fun s0 => (goM (stQ p w) m0 ann n1 s0 (topStub p)).map fun x => x.2) = some ⟨HandSHeadRun.denQ HandSHeadRun.tabQ (.body bE env), .body bE env, pos, [topFrame q]⟩)
    (blk : ((bootS w os).bind fun s0 => (goM (stQ p w) m0 ann n1 s0 (topStub p)).bind fun x => sgM (stQ p w) m0 ann n2 x.1 (blockOf bE env (.body bE env) pos [topFrame q])) = some (.next, SbT, .body bE env, posB))
    (chain : ∀ (N : Nat) (r : Shared), topRun treeTable p w m0 ann N KT.abs (restOf rest env (.body bE env) posK [topFrame q]) = some r → topRun treeTable p w m0 ann (A N) SbT.abs (restOf bE env (.body bE env) posB [topFrame q]) = some r)
    (fin : ∃ r : PySem.W.SharedT, HandSHeadRun.goF (stQ p w) m0 ann n3 KT (restOf rest env (.body bE env) posK [topFrame q]) = some r ∧ good r.abs) :
    ∃ r : Shared, topRun treeTable p w (boot_heap w.params).objs.size (HandSHeadRun.bootAnn w) (n1 + (n2 + A n3)) ⟨boot_heap w.params, #[], boot_drawn, boot_toks, os⟩ (topStub p) = some r ∧ good r := by
  obtain ⟨r, hr, g⟩ := fin
  refine ⟨r.abs, ?_, g⟩
  rw [hm, ha]
  rw [stQ_eq] at hr pre blk
  have h3 := chain _ _ (HandSHeadRun.goF_ok hr)
  cases e : bootS w os with
  | none =>
    rw [e] at pre
    cases pre
  | some s0 =>
    rw [e] at pre blk
    have pre1 : ((goM (PySem.W.stepT (denote treeTable) p w) m0 ann n1 s0 (topStub p)).map fun x => x.2) = some ⟨HandSHeadRun.denQ HandSHeadRun.tabQ (.body bE env), .body bE env, pos, [topFrame q]⟩ := pre
    have blk1 : ((goM (PySem.W.stepT (denote treeTable) p w) m0 ann n1 s0 (topStub p)).bind fun x => sgM (PySem.W.stepT (denote treeTable) p w) m0 ann n2 x.1 (blockOf bE env (.body bE env) pos [topFrame q])) = some (.next, SbT, .body bE env, posB) := blk
    cases e2 : goM (PySem.W.stepT (denote treeTable) p w) m0 ann n1 s0 (topStub p) with
    | none =>
      rw [e2] at pre1
      cases pre1
    | some x =>
      obtain ⟨sa, th⟩ := x
      rw [e2] at pre1 blk1
      have pre2 : some th = some ⟨HandSHeadRun.denQ HandSHeadRun.tabQ (.body bE env), .body bE env, pos, [topFrame q]⟩ := pre1
      have blk2 : sgM (PySem.W.stepT (denote treeTable) p w) m0 ann n2 sa (blockOf bE env (.body bE env) pos [topFrame q]) = some (.next, SbT, .body bE env, posB) := blk1
      have e3 := Option.some.inj pre2
      rw [← HandSHeadRun.denQ_eq, ← HandSHeadRun.tabQ_eq] at e3
      have h1 := goM_ok e2
      rw [bootS_ok e, e3] at h1
      exact go_top h1 (piece_block (sgM_ok blk2) h3)
end Bz

set_option maxHeartbeats 0
namespace Bz
open PySem PySem.W PySem.Calls PyProof.Rows
open_shared hs for PySem.Challenge.pw_partmill_k89_whole_other_bases leaving 81
theorem m0_eq (w : World) : (boot_heap w.params).objs.size = 11 := by kernel_rfl
theorem ann_eq (w : World) : HandSHeadRun.bootAnn w = some (.ref 6) := by kernel_rfl
def bO : List Stmt := behindTheImports R.prog
abbrev p0 : Pos := ⟨0, 0, 0, 0⟩
abbrev pK : Pos := ⟨617, 0, 617, 8⟩
noncomputable abbrev KT (w : World) (os : OsState) : PySem.W.SharedT := { tree := hs.tree_969 w.params, n := 902, life := { }, gens := { toList := [] }, drawn := { }, toks := 1480, os := os }
noncomputable abbrev SbT (w : World) (os : OsState) : PySem.W.SharedT := { tree := hs.tree_4 w.params, n := 15, life := { }, gens := { toList := [] }, drawn := { }, toks := 187, os := os }
noncomputable abbrev cO : Code := .body bO hs.env_1
theorem pre_ok (w : World) (os : OsState) : ((bootS w os).bind fun s0 => (goM (stQ R.prog w) 11 (some (.ref 6)) 12 s0 (topStub R.prog)).map fun x => x.2) = some ⟨HandSHeadRun.denQ HandSHeadRun.tabQ cO, cO, p0, [topFrame p0]⟩ := by kernel_rfl
theorem blk_ok (w : World) (os : OsState) : ((bootS w os).bind fun s0 => (goM (stQ R.prog w) 11 (some (.ref 6)) 12 s0 (topStub R.prog)).bind fun x => sgM (stQ R.prog w) 11 (some (.ref 6)) 1 x.1 (blockOf bO hs.env_1 cO p0 [topFrame p0])) = some (.next, SbT w os, cO, p0) := by kernel_rfl
theorem text_ok : hs.sts_4 ++ (hs.sts_21 ++ (hs.sts_37 ++ (hs.sts_53 ++ (hs.sts_69 ++ (hs.sts_85 ++ (hs.sts_101 ++ (hs.sts_117 ++ (hs.sts_140 ++ (hs.sts_163 ++ (hs.sts_212 ++ (hs.sts_293 ++ (hs.sts_354 ++ (hs.sts_406 ++ (hs.sts_457 ++ (hs.sts_536 ++ (hs.sts_615 ++ (hs.sts_668 ++ (hs.sts_725 ++ (hs.sts_757 ++ (hs.sts_814 ++ (hs.sts_895 ++ (hs.sts_912 ++ bO.drop 126)))))))))))))))))))))) = bO := by kernel_rfl
noncomputable abbrev endK (w : World) (os : OsState) : Option PySem.W.SharedT := HandSHeadRun.goF (stQ R.prog w) 11 (some (.ref 6)) 6000 (KT w os) (restOf (bO.drop 126) hs.env_1 cO pK [topFrame p0])
theorem looks0 (w : World) (os : OsState) : (endK (wf w false) os).map (fun s => HandSHeadRun.looksF R.prog (PySem.W.boot_heap (wf w false).params) s.abs) = some true := by kernel_rfl
theorem seen0 (w : World) (os : OsState) : (endK (wf w false) os).map (fun s => HandSHeadRun.seenQ qv names (importedModules R.prog.main.body) (fun s => PySem.W.xlAt qv [] s && PySem.W.recOk R.toRowW.records s) s.abs) = some (PySem.W.openGood qv names) := by kernel_rfl
theorem obs0 (w : World) (os : OsState) : (endK (wf w false) os).map ob = some (hk.val (wf w false)) := by kernel_rfl
theorem looks1 (w : World) (os : OsState) : (endK (wf w true) os).map (fun s => HandSHeadRun.looksF R.prog (PySem.W.boot_heap (wf w true).params) s.abs) = some true := by kernel_rfl
theorem seen1 (w : World) (os : OsState) : (endK (wf w true) os).map (fun s => HandSHeadRun.seenQ qv names (importedModules R.prog.main.body) (fun s => PySem.W.xlAt qv [] s && PySem.W.recOk R.toRowW.records s) s.abs) = some (PySem.W.openGood qv names) := by kernel_rfl
theorem obs1 (w : World) (os : OsState) : (endK (wf w true) os).map ob = some (hk.val (wf w true)) := by kernel_rfl
def Good (w : World) (s : Shared) : Prop := HandSHeadRun.looksF R.prog (PySem.W.boot_heap w.params) s = true ∧ openSeen qv names (importedModules R.prog.main.body) (fun s => PySem.W.xlAt qv [] s && PySem.W.recOk R.toRowW.records s) true s = PySem.W.openGood qv names ∧ hk.obs s = hk.val w
theorem endK_good {w : World} {os : OsState} (a : (endK w os).map (fun s => HandSHeadRun.looksF R.prog (PySem.W.boot_heap w.params) s.abs) = some true) (b : (endK w os).map (fun s => HandSHeadRun.seenQ qv names (importedModules R.prog.main.body) (fun s => PySem.W.xlAt qv [] s && PySem.W.recOk R.toRowW.records s) s.abs) = some (PySem.W.openGood qv names))
    (c : (endK w os).map ob = some (hk.val w)) : ∃ r : PySem.W.SharedT, endK w os = some r ∧ Good w r.abs := by
  cases e : endK w os with
  | none =>
    rw [e] at a
    cases a
  | some r =>
    rw [e] at a b c
    refine ⟨r, rfl, Option.some.inj a, ?_, ?_⟩
    · rw [HandSHeadRun.seenQ_eq]
      exact Option.some.inj b
    · rw [← ob_eq]
      exact Option.some.inj c
theorem endK_ok (w : World) : ∀ os : OsState, ∃ r : PySem.W.SharedT, endK w os = some r ∧ Good w r.abs :=
  PySem.W.byRow2 "special-get-raises" (P := fun w => ∀ os : OsState, ∃ r : PySem.W.SharedT, endK w os = some r ∧ Good w r.abs) (fun w os => endK_good (looks0 w os) (seen0 w os) (obs0 w os)) (fun w os => endK_good (looks1 w os) (seen1 w os) (obs1 w os)) w
theorem run (w : World) (os : OsState) : ∃ (M : Nat) (s : Shared), Nat.ble M 20000 = true ∧ topRun treeTable R.prog w (boot_heap w.params).objs.size (HandSHeadRun.bootAnn w) M ⟨boot_heap w.params, #[], boot_drawn, boot_toks, os⟩ (topStub R.prog) = some s ∧ Good w s := by
  obtain ⟨r, hr, g⟩ := run_parts (p := R.prog) (w := w) (os := os) (n3 := 6000) (good := Good w) (m0_eq w) (ann_eq w) (pre_ok w os) (blk_ok w os) (fun N r h => by
    have h2 := hs.chain R.prog bO w os (bO.drop 126) N r h
    rw [text_ok] at h2
    exact h2) (endK_ok w os)
  exact ⟨_, r, rfl, hr, g⟩
end Bz

/-! Plain mathematics: rows of figures, the least first, and what they tell; trees of halves. -/
namespace Bz
/-- the number of a row, the least figure first -/
def val (b : Int) : List Int → Int
  | [] => 0
  | x :: r => x + b * val b r
def Fig (b : Int) (r : List Int) : Prop := ∀ x ∈ r, 0 ≤ x ∧ x < b
def Top (r : List Int) : Prop := ∀ x, r.getLast? = some x → x ≠ 0
def Row (b : Int) (r : List Int) : Prop := Fig b r ∧ Top r

theorem fig_nil {b : Int} : Fig b [] := fun _ h => nomatch h
theorem top_nil : Top [] := fun _ h => nomatch h
theorem row_nil {b : Int} : Row b [] := ⟨fig_nil, top_nil⟩
theorem fig_cons {b x : Int} {r : List Int} (h : Fig b (x :: r)) : (0 ≤ x ∧ x < b) ∧ Fig b r := ⟨h x (List.mem_cons_self), fun y hy => h y (List.mem_cons_of_mem _ hy)⟩
theorem fig_mk {b x : Int} {r : List Int} (h0 : 0 ≤ x) (h1 : x < b) (h : Fig b r) : Fig b (x :: r) := fun y hy => by
  rcases List.mem_cons.mp hy with e | e
  · rw [e]; exact ⟨h0, h1⟩
  · exact h y e
theorem fig_append {b : Int} {r s : List Int} (h : Fig b r) (k : Fig b s) : Fig b (r ++ s) := fun y hy => by
  rcases List.mem_append.mp hy with e | e
  · exact h y e
  · exact k y e
theorem fig_take {b : Int} {r : List Int} (n : Nat) (h : Fig b r) : Fig b (r.take n) := fun y hy => h y (List.mem_of_mem_take hy)
theorem fig_drop {b : Int} {r : List Int} (n : Nat) (h : Fig b r) : Fig b (r.drop n) := fun y hy => h y (List.mem_of_mem_drop hy)
theorem fig_one {b x : Int} (h0 : 0 ≤ x) (h1 : x < b) : Fig b [x] := fig_mk h0 h1 fig_nil

theorem pow_pos {b : Int} (hb : 0 < b) (n : Nat) : 0 < b ^ n := Int.pow_pos hb

theorem val_nonneg {b : Int} (hb : 0 ≤ b) : ∀ {r : List Int}, Fig b r → 0 ≤ val b r
  | [], _ => Int.le_refl 0
  | x :: r, h => by
    obtain ⟨⟨h0, _⟩, h2⟩ := fig_cons h
    have ih := val_nonneg hb h2
    have := Int.mul_nonneg hb ih
    show 0 ≤ x + b * val b r
    omega
theorem val_append (b : Int) : ∀ (r s : List Int), val b (r ++ s) = val b r + b ^ r.length * val b s
  | [], s => by simp [val]
  | x :: r, s => by
    have ih := val_append b r s
    show x + b * val b (r ++ s) = (x + b * val b r) + b ^ (r.length + 1) * val b s
    rw [ih, Int.mul_add, Int.pow_succ, ← Int.mul_assoc, Int.mul_comm (b ^ r.length) b, Int.add_assoc]
theorem val_one (b x : Int) : val b [x] = x := by simp [val]
theorem val_lt {b : Int} (hb : 0 < b) : ∀ {r : List Int}, Fig b r → val b r < b ^ r.length
  | [], _ => by show (0 : Int) < b ^ 0; rw [Int.pow_zero]; decide
  | x :: r, h => by
    obtain ⟨⟨_, h1⟩, h2⟩ := fig_cons h
    have ih := val_lt hb h2
    show x + b * val b r < b ^ (r.length + 1)
    rw [Int.pow_succ, Int.mul_comm (b ^ r.length) b]
    have h3 : b * (val b r + 1) ≤ b * b ^ r.length := Int.mul_le_mul_of_nonneg_left (by omega) (by omega)
    rw [Int.mul_add, Int.mul_one] at h3
    omega
/-- a row that is not () tells at least its last figure's weight -/
theorem val_ge {b : Int} (hb : 0 < b) {r : List Int} (h : Row b r) (hn : r ≠ []) : b ^ (r.length - 1) ≤ val b r := by
  have e := List.dropLast_concat_getLast hn
  have hl := h.2 (r.getLast hn) (List.getLast?_eq_some_getLast hn)
  have hf := h.1 (r.getLast hn) (List.getLast_mem hn)
  have hd : Fig b r.dropLast := fun y hy => h.1 y (List.dropLast_subset r hy)
  have h1 : val b r = val b r.dropLast + b ^ r.dropLast.length * val b [r.getLast hn] := by
    rw [← val_append, e]
  rw [h1, val_one, List.length_dropLast]
  have h2 := val_nonneg (by omega : (0 : Int) ≤ b) hd
  have h3 : b ^ (r.length - 1) * 1 ≤ b ^ (r.length - 1) * r.getLast hn := Int.mul_le_mul_of_nonneg_left (by omega) (Int.le_of_lt (pow_pos hb _))
  omega
theorem row_tail {b x : Int} {r : List Int} (h : Row b (x :: r)) : Row b r := ⟨(fig_cons h.1).2, fun y hy => h.2 y (by
  cases r with
  | nil => cases hy
  | cons z t => rw [List.getLast?_cons_cons]; exact hy)⟩
theorem row_pos {b : Int} (hb : 0 < b) {r : List Int} (h : Row b r) (hn : r ≠ []) : 0 < val b r := by
  have := val_ge hb h hn
  have := pow_pos hb (r.length - 1)
  omega
/-- a row is determined by what it tells -/
theorem row_uniq {b : Int} (hb : 0 < b) : ∀ {r s : List Int}, Row b r → Row b s → val b r = val b s → r = s
  | [], [], _, _, _ => rfl
  | [], y :: s, _, h, e => by
    have := row_pos hb h (by simp)
    have e0 : (0 : Int) = val b (y :: s) := e
    omega
  | x :: r, [], h, _, e => by
    have := row_pos hb h (by simp)
    have e0 : val b (x :: r) = 0 := e
    omega
  | x :: r, y :: s, h, k, e => by
    obtain ⟨⟨h0, h1⟩, _⟩ := fig_cons h.1
    obtain ⟨⟨k0, k1⟩, _⟩ := fig_cons k.1
    have e0 : x + b * val b r = y + b * val b s := e
    have ex : x = y := by
      have e1 := congrArg (· % b) e0
      simp only [Int.add_mul_emod_self_left] at e1
      rw [Int.emod_eq_of_lt h0 h1, Int.emod_eq_of_lt k0 k1] at e1
      exact e1
    subst ex
    have e2 : b * val b r = b * val b s := by omega
    have e3 := Int.eq_of_mul_eq_mul_left (by omega : b ≠ 0) e2
    rw [row_uniq hb (row_tail h) (row_tail k) e3]

/-- how long a row is, by what it tells -/
theorem row_len {b : Int} (hb : 2 ≤ b) {r : List Int} (h : Row b r) {k : Nat} (hk : val b r < 2 ^ k) : r.length ≤ k := by
  by_cases hn : r = []
  · rw [hn]; exact Nat.zero_le _
  · have h1 := val_ge (by omega) h hn
    have h2 : (2 : Int) ^ (r.length - 1) ≤ b ^ (r.length - 1) := by
      generalize r.length - 1 = n
      induction n with
      | zero => rw [Int.pow_zero, Int.pow_zero]; exact Int.le_refl _
      | succ n ih =>
        rw [Int.pow_succ, Int.pow_succ]
        exact Int.mul_le_mul ih hb (by decide) (Int.le_of_lt (pow_pos (by omega) _))
    have h3 : (2 : Int) ^ (r.length - 1) < 2 ^ k := by omega
    have h4 : (2 : Nat) ^ (r.length - 1) < 2 ^ k := by
      have e1 : ∀ n : Nat, (2 : Int) ^ n = ((2 ^ n : Nat) : Int) := fun n => by rw [Int.natCast_pow]; rfl
      rw [e1, e1] at h3
      exact Int.ofNat_lt.mp h3
    have h5 := (Nat.pow_lt_pow_iff_right (by decide : 1 < 2)).mp h4
    have : 0 < r.length := List.length_pos_iff.mpr hn
    omega
/-- .. and how great what it tells is, by its length -/
theorem val_bits {b : Int} {c : Nat} (hb : 0 < b) (hc : b ≤ 2 ^ c) {r : List Int} (h : Fig b r) {n : Nat} (hn : r.length ≤ n) : val b r < 2 ^ (c * n) := by
  have h1 := val_lt hb h
  have h2 : b ^ r.length ≤ (2 ^ c : Int) ^ r.length := by
    generalize r.length = n
    induction n with
    | zero => rw [Int.pow_zero, Int.pow_zero]; exact Int.le_refl _
    | succ n ih =>
      rw [Int.pow_succ, Int.pow_succ]
      exact Int.mul_le_mul ih hc (by omega) (Int.le_of_lt (pow_pos (pow_pos (by decide) _) _))
  have e1 : ∀ n : Nat, (2 : Int) ^ n = ((2 ^ n : Nat) : Int) := fun n => by rw [Int.natCast_pow]; rfl
  have h3 : (2 ^ c : Int) ^ r.length ≤ 2 ^ (c * n) := by
    rw [e1, e1, ← Int.natCast_pow, ← Nat.pow_mul]
    exact Int.ofNat_le.mpr (Nat.pow_le_pow_right (by decide) (Nat.mul_le_mul_left _ hn))
  omega

/-- one figure more, from the front, from the back -/
theorem val_take (b : Int) (r : List Int) (i : Nat) : val b (r.take (i + 1)) = val b (r.take i) + b ^ i * r.getD i 0 := by
  by_cases h : i < r.length
  · rw [List.take_add_one, List.getElem?_eq_getElem h, val_append, List.length_take, Nat.min_eq_left (Nat.le_of_lt h)]
    have e : r.getD i 0 = r[i] := by rw [List.getD_eq_getElem?_getD, List.getElem?_eq_getElem h] <;> rfl
    rw [e]
    show _ + b ^ i * val b [r[i]] = _
    rw [val_one]
  · rw [List.take_of_length_le (by omega), List.take_of_length_le (by omega)]
    have e : r.getD i 0 = 0 := by rw [List.getD_eq_getElem?_getD, List.getElem?_eq_none (by omega)] <;> rfl
    rw [e, Int.mul_zero, Int.add_zero]
theorem val_drop (b : Int) {r : List Int} {i : Nat} (h : i < r.length) : val b (r.drop i) = r[i] + b * val b (r.drop (i + 1)) := by
  rw [List.drop_eq_getElem_cons h]
  rfl
theorem fig_getD {b : Int} (hb : 0 < b) {r : List Int} (h : Fig b r) (i : Nat) : 0 ≤ r.getD i 0 ∧ r.getD i 0 < b := by
  rw [List.getD_eq_getElem?_getD]
  cases e : r[i]? with
  | none => exact ⟨Int.le_refl 0, hb⟩
  | some x => exact h x (List.mem_of_getElem? e)
theorem two_pow_cast (n : Nat) : (2 : Int) ^ n = ((2 ^ n : Nat) : Int) := by rw [Int.natCast_pow]; rfl
theorem two_le_pow {b : Int} (hb : 2 ≤ b) (n : Nat) : (2 : Int) ^ n ≤ b ^ n := by
  induction n with
  | zero => rw [Int.pow_zero, Int.pow_zero]; exact Int.le_refl _
  | succ n ih =>
    rw [Int.pow_succ, Int.pow_succ]
    exact Int.mul_le_mul ih hb (by decide) (Int.le_of_lt (pow_pos (by omega) _))
theorem pow_len {b n N : Int} {l k : Nat} (hb : 2 ≤ b) (hn : 0 < n) (h : b ^ l * n ≤ N) (hk : N < 2 ^ k) : l < k := by
  have h1 := two_le_pow hb l
  have h2 : b ^ l * 1 ≤ b ^ l * n := Int.mul_le_mul_of_nonneg_left (by omega) (Int.le_of_lt (pow_pos (by omega) l))
  have h3 : (2 : Int) ^ l < 2 ^ k := by omega
  rw [two_pow_cast, two_pow_cast] at h3
  exact (Nat.pow_lt_pow_iff_right (by decide : 1 < 2)).mp (Int.ofNat_lt.mp h3)
theorem div_lt_self {n b : Int} (hb : 2 ≤ b) (hn : 0 < n) : 0 ≤ n / b ∧ n / b < n := by
  refine ⟨Int.ediv_nonneg (by omega) (by omega), ?_⟩
  have h := Int.emod_add_mul_ediv n b
  have h0 := Int.emod_nonneg n (show b ≠ 0 by omega)
  have h1 := Int.ediv_nonneg (show 0 ≤ n by omega) (show 0 ≤ b by omega)
  have h2 : 2 * (n / b) ≤ b * (n / b) := Int.mul_le_mul_of_nonneg_right hb h1
  omega
/-- a turn of row_of: (figures, number) to (figures and the rest, the quotient) -/
theorem row_turn {b n N : Int} {fs : List Int} (hb : 2 ≤ b) (hn : 0 < n) (hf : Fig b fs) (h : val b fs + b ^ fs.length * n = N) :
    Fig b (fs ++ [n % b]) ∧ val b (fs ++ [n % b]) + b ^ (fs ++ [n % b]).length * (n / b) = N ∧ (0 < n / b ∨ Top (fs ++ [n % b])) := by
  have h0 := Int.emod_nonneg n (show b ≠ 0 by omega)
  have h1 := Int.emod_lt_of_pos n (show 0 < b by omega)
  have hd := Int.emod_add_mul_ediv n b
  refine ⟨fig_append hf (fig_one h0 h1), ?_, ?_⟩
  · rw [val_append, val_one, List.length_append, List.length_singleton, Int.pow_succ, Int.mul_assoc, Int.add_assoc, ← Int.mul_add, hd]
    exact h
  · by_cases hq : 0 < n / b
    · exact Or.inl hq
    · refine Or.inr fun x hx => ?_
      rw [List.getLast?_concat] at hx
      cases hx
      have := (div_lt_self hb hn).1
      have hz : n / b = 0 := by omega
      rw [hz, Int.mul_zero] at hd
      omega
/-- a turn of plus -/
theorem plus_turn {b c : Int} {fs one other : List Int} (hb : 2 ≤ b) (hc : 0 ≤ c ∧ c ≤ 1) (hf : Fig b fs) (h1 : Fig b one) (h2 : Fig b other) (h : val b fs + b ^ fs.length * c = val b (one.take fs.length) + val b (other.take fs.length)) :
    let s := one.getD fs.length 0 + other.getD fs.length 0 + c
    (0 ≤ s / b ∧ s / b ≤ 1) ∧ Fig b (fs ++ [s % b]) ∧ val b (fs ++ [s % b]) + b ^ (fs.length + 1) * (s / b) = val b (one.take (fs.length + 1)) + val b (other.take (fs.length + 1)) := by
  intro s
  have g1 := fig_getD (by omega : 0 < b) h1 fs.length
  have g2 := fig_getD (by omega : 0 < b) h2 fs.length
  have hs0 : 0 ≤ s := by show 0 ≤ one.getD fs.length 0 + other.getD fs.length 0 + c; omega
  have hs1 : s < b * 2 := by show one.getD fs.length 0 + other.getD fs.length 0 + c < b * 2; omega
  have m0 := Int.emod_nonneg s (show b ≠ 0 by omega)
  have m1 := Int.emod_lt_of_pos s (show 0 < b by omega)
  have hd := Int.emod_add_mul_ediv s b
  have q0 : 0 ≤ s / b := Int.ediv_nonneg hs0 (by omega)
  have q1 : s / b < 2 := Int.ediv_lt_of_lt_mul (by omega) (by rw [Int.mul_comm]; exact hs1)
  refine ⟨⟨q0, by omega⟩, fig_append hf (fig_one m0 m1), ?_⟩
  rw [val_append, val_one, val_take, val_take, Int.pow_succ, Int.mul_assoc, Int.add_assoc, ← Int.mul_add, hd]
  have e : b ^ fs.length * s = b ^ fs.length * one.getD fs.length 0 + b ^ fs.length * other.getD fs.length 0 + b ^ fs.length * c := by
    show b ^ fs.length * (one.getD fs.length 0 + other.getD fs.length 0 + c) = _
    rw [Int.mul_add, Int.mul_add]
  omega
theorem val_move (b : Int) : ∀ (n : Nat), val b (List.replicate n 0 ++ [1]) = b ^ n
  | 0 => by show (1 : Int) + b * 0 = b ^ 0; rw [Int.pow_zero]; omega
  | n + 1 => by
    have ih := val_move b n
    rw [List.replicate_succ]
    show 0 + b * val b (List.replicate n 0 ++ [1]) = _
    rw [ih, Int.pow_succ, Int.zero_add, Int.mul_comm]
/-! ### noughts at the end -/
def bare (r : List Int) : List Int := (r.reverse.dropWhile (· == 0)).reverse
theorem bare_nil : bare [] = [] := rfl
theorem bare_snoc0 (r : List Int) : bare (r ++ [0]) = bare r := by
  unfold bare
  rw [List.reverse_append]
  rfl
theorem bare_snoc {x : Int} (r : List Int) (h : x ≠ 0) : bare (r ++ [x]) = r ++ [x] := by
  unfold bare
  rw [List.reverse_append]
  have e : (x == 0) = false := by simpa using h
  show (List.dropWhile (· == 0) (x :: r.reverse)).reverse = _
  rw [List.dropWhile_cons, e]
  simp
theorem snoc_cases {α : Type} (r : List α) : r = [] ∨ ∃ s x, r = s ++ [x] := by
  by_cases h : r = []
  · exact Or.inl h
  · exact Or.inr ⟨r.dropLast, r.getLast h, (List.dropLast_concat_getLast h).symm⟩
theorem bare_all (b : Int) : ∀ (n : Nat) (r : List Int), r.length = n → (val b (bare r) = val b r) ∧ Top (bare r) ∧ (bare r).length ≤ r.length ∧ (∀ x ∈ bare r, x ∈ r) ∧ (bare r = r.take (bare r).length)
  | 0, r, h => by
    have e := List.eq_nil_of_length_eq_zero h
    subst e
    exact ⟨rfl, top_nil, Nat.le_refl _, fun _ h => h, rfl⟩
  | n + 1, r, h => by
    rcases snoc_cases r with e | ⟨s, x, e⟩
    · subst e; cases h
    · subst e
      have hs : s.length = n := by simpa using h
      by_cases hx : x = 0
      · subst hx
        obtain ⟨i1, i2, i3, i4, i5⟩ := bare_all b n s hs
        rw [bare_snoc0]
        refine ⟨?_, i2, ?_, fun y hy => List.mem_append_left _ (i4 y hy), ?_⟩
        · rw [i1, val_append, val_one, Int.mul_zero, Int.add_zero]
        · rw [List.length_append]; omega
        · rw [List.take_append_of_le_length i3]; exact i5
      · rw [bare_snoc s hx]
        refine ⟨rfl, fun y hy => ?_, Nat.le_refl _, fun _ h => h, (List.take_of_length_le (Nat.le_refl _)).symm⟩
        rw [List.getLast?_concat] at hy
        cases hy
        exact hx
theorem bare_val (b : Int) (r : List Int) : val b (bare r) = val b r := (bare_all b _ r rfl).1
theorem bare_len (r : List Int) : (bare r).length ≤ r.length := (bare_all 0 _ r rfl).2.2.1
theorem bare_row {b : Int} {r : List Int} (h : Fig b r) : Row b (bare r) := ⟨fun x hx => h x ((bare_all b _ r rfl).2.2.2.1 x hx), (bare_all b _ r rfl).2.1⟩
/-- the loop: a nought at the end is left out -/
theorem bare_take0 {r : List Int} {n : Nat} (h : r[n]? = some 0) : bare (r.take (n + 1)) = bare (r.take n) := by
  rw [List.take_add_one, h]
  exact bare_snoc0 _
theorem bare_take1 {r : List Int} {n : Nat} {x : Int} (h : r[n]? = some x) (hx : x ≠ 0) : bare (r.take (n + 1)) = r.take (n + 1) := by
  rw [List.take_add_one, h]
  exact bare_snoc _ hx
theorem bare_of_row {r : List Int} (h : Top r) : bare r = r := by
  rcases snoc_cases r with e | ⟨s, x, e⟩
  · rw [e]; rfl
  · rw [e]
    refine bare_snoc s (h x ?_)
    rw [e, List.getLast?_concat]

/-! ### halves -/
def half (r : List Int) : Nat := (r.length + 1) / 2
def lowOf (r : List Int) : List Int := bare (r.take (half r))
def highOf (r : List Int) : List Int := r.drop (half r)
theorem half_lt {r : List Int} (h : 2 ≤ r.length) : half r < r.length := by unfold half; omega
theorem half_pos {r : List Int} (h : 1 ≤ r.length) : 1 ≤ half r := by unfold half; omega
theorem low_row {b : Int} {r : List Int} (h : Fig b r) : Row b (lowOf r) := bare_row (fig_take _ h)
theorem drop_last {α : Type} {r : List α} {n : Nat} (h : n < r.length) : (r.drop n).getLast? = r.getLast? := by
  rw [List.getLast?_drop, if_neg (by omega)]
theorem high_row {b : Int} {r : List Int} (h : Row b r) : Row b (highOf r) := by
  refine ⟨fig_drop _ h.1, fun x hx => ?_⟩
  unfold highOf at hx
  by_cases hl : half r < r.length
  · rw [drop_last hl] at hx
    exact h.2 x hx
  · rw [List.drop_eq_nil_of_le (by omega)] at hx
    cases hx
theorem low_len (r : List Int) : (lowOf r).length ≤ half r := Nat.le_trans (bare_len _) (by rw [List.length_take]; exact Nat.min_le_left _ _)
theorem high_len (r : List Int) : (highOf r).length = r.length - half r := by unfold highOf; rw [List.length_drop]
theorem half_val (b : Int) (r : List Int) (h : half r ≤ r.length) : val b r = val b (lowOf r) + val b (highOf r) * b ^ half r := by
  unfold lowOf highOf
  rw [bare_val, Int.mul_comm (val b _)]
  have e : (r.take (half r)).length = half r := by rw [List.length_take]; exact Nat.min_eq_left h
  have q := val_append b (r.take (half r)) (r.drop (half r))
  rw [List.take_append_drop, e] at q
  exact q

inductive Tr where
  | leaf (r : List Int)
  | node (r : List Int) (l h : Tr)
def Tr.top : Tr → List Int
  | .leaf r => r
  | .node r _ _ => r
def Tr.leaves : Tr → Nat
  | .leaf _ => 1
  | .node _ l h => l.leaves + h.leaves
/-- each node is a row of the goal of no more than so many figures -/
def Tr.Rows (g : Int) (m : Nat) : Tr → Prop
  | .leaf r => Row g r ∧ r.length ≤ m
  | .node r l h => (Row g r ∧ r.length ≤ m) ∧ l.Rows g m ∧ h.Rows g m
theorem Tr.Rows.top {g : Int} {m : Nat} {t : Tr} (h : t.Rows g m) : Row g t.top ∧ t.top.length ≤ m := by
  cases t with
  | leaf r => exact h
  | node r a b => exact h.1
/-- the tree of a row led by its halves -/
inductive TreeOf (b g : Int) : List Int → Tr → Prop
  | leaf {row t : List Int} : row.length < 2 → Row g t → val g t = val b row → TreeOf b g row (.leaf t)
  | node {row t : List Int} {l h : Tr} : 2 ≤ row.length → Row g t → val g t = val b row → TreeOf b g (lowOf row) l → TreeOf b g (highOf row) h → TreeOf b g row (.node t l h)
theorem TreeOf.top {b g : Int} {row : List Int} {t : Tr} (h : TreeOf b g row t) : Row g t.top ∧ val g t.top = val b row := by
  cases h with
  | leaf h1 h2 h3 => exact ⟨h2, h3⟩
  | node h1 h2 h3 _ _ => exact ⟨h2, h3⟩
theorem TreeOf.leaves {b g : Int} {row : List Int} {t : Tr} (h : TreeOf b g row t) : 1 ≤ t.leaves ∧ t.leaves ≤ max 1 row.length := by
  induction h with
  | leaf _ _ _ => exact ⟨Nat.le_refl _, Nat.le_max_left _ _⟩
  | @node row t l h h2 _ _ _ _ i1 i2 =>
    have e1 := low_len row
    have e2 := high_len row
    have e3 := half_lt h2
    have e4 := half_pos (r := row) (by omega)
    refine ⟨?_, ?_⟩
    · show 1 ≤ l.leaves + h.leaves
      omega
    · show l.leaves + h.leaves ≤ _
      omega
theorem TreeOf.rows {b g : Int} {m : Nat} (hb : 0 < b) (hg : 2 ≤ g) {row : List Int} {t : Tr} (h : TreeOf b g row t) : Fig b row → val b row < 2 ^ m → t.Rows g m := by
  induction h with
  | leaf h1 h2 h3 => exact fun hf hv => ⟨h2, row_len hg h2 (by rw [h3]; exact hv)⟩
  | @node row t l h h2 h3 h4 _ _ i1 i2 =>
    intro hf hv
    have e := half_val b row (Nat.le_of_lt (half_lt h2))
    have l0 := val_nonneg (Int.le_of_lt hb) (low_row hf).1
    have k0 := val_nonneg (Int.le_of_lt hb) (fig_drop (half row) hf)
    have p := pow_pos hb (half row)
    have q : val b (highOf row) * 1 ≤ val b (highOf row) * b ^ half row := Int.mul_le_mul_of_nonneg_left (by omega) k0
    have k1 : 0 ≤ val b (highOf row) := k0
    exact ⟨⟨h3, row_len hg h3 (by rw [h4]; exact hv)⟩, i1 (low_row hf).1 (by omega), i2 (fig_drop _ hf) (by omega)⟩
end Bz

set_option maxHeartbeats 4000000
/-! Two rules that I lack: a tuple times 1 (it is itself), a tuple's slice [::-1]. -/
namespace L2
open PySem PySem.Spec PyProof.Rows
theorem tuple_mul1 (l : Addr) (items : Array Value) (n : Nat) (dd : Option Addr) (sl : Array (Option Value)) (u : Tok) :
    Meets (Builtin.«tuple.__mul__» ⟨[.ref l, .int 1 u], []⟩) (fun _ R s => s.heap.get? l = some { cls := .type "tuple", dict := dd, data := .seq items n, slots := sl } ∧ R (.ok (.ret (Value.ref l))) s) :=
  .of_wp fun prog w A R s h => by
    obtain ⟨hp, g, d, tk, os⟩ := s
    obtain ⟨hl, h⟩ := h
    have f1 := AutoSeq1.idx_int
    have c0 : (decide ((1 : Int) < -(2 ^ 63)) || decide ((1 : Int) ≥ 2 ^ 63)) = false := by decide
    have c1 : (items.isEmpty || ((1 : Int) == 1)) = true := by simp
    wp_walk using wpAny_loadPart' hl
    repeat (first
      | (refine wpAny_ite_false (decide_eq_false (by rw [c0]; exact Bool.false_ne_true)) ?_; wp_walk using wpAny_loadPart' hl)
      | (refine wpAny_ite_true (decide_eq_true (by rw [c1])) ?_; wp_walk using wpAny_loadPart' hl))
    exact ⟨_, rfl, h⟩
def rRep1 (K : PySem.W.Frag) : R2 := fun x y H Q => ∃ l xs, x = .ref l ∧ y = .int 1 ∧ SqT K H l xs ∧ Q (.ref l) H
section
variable {X : Cx}
theorem op_rep1 : OpR X (binaryOp .Mult) (rRep1 X.K) := by
  intro pins s σ H x y v u Q I rx ry h
  obtain ⟨l, xs, rfl, rfl, hT, q⟩ := h
  cases rx
  obtain ⟨t, rfl⟩ := ry
  obtain ⟨its, r, ⟨⟨cls, dd, data, sl⟩, ho, hc, n, hd⟩, hs⟩ := I.tuple hT
  simp only at hc hd
  subst hc hd
  refine wpAny_binaryOp_repeat_ref (T := "tuple") (U := "int") (by decide) ⟨_, ho, rfl⟩ (fun s' => typeIs_int s' 1 t) noFill_tuple_mul F.fills_int_mul F.slot_int_rmul repeat_tuple F.slot_int_index.lookup
    (call_meets F.slot_int_rmul (typeIs_int s 1 t) F.entry_int_rmul (F.args_int_rmul_2 _ _) (int_rmul_tuple 1 t l its.toArray n dd sl)
      ⟨ho, rfl, ⟨_, ho, rfl⟩, call_meets F.slot_tuple_mul ⟨_, ho, rfl⟩ F.entry_tuple_mul (F.args_tuple_mul_2 _ _) (tuple_mul1 l its.toArray n dd sl t) ⟨ho, ?_⟩⟩)
  exact ⟨.ref l, H, I, rfl, q⟩
theorem op_repA : OpR X (binaryOp .Mult) (fun x y H Q => rRepT X.K x y H Q ∨ rRep1 X.K x y H Q) := op_repT.or op_rep1
end
end L2
namespace HT
open PySem PySem.Spec PyProof.Rows L2
section
variable {prog : Program} {w : World} {A : Around} {E : Value → Shared → Prop} {s : Shared}
theorem adjust_rev (n : Nat) : Builtin.Slice.sliceAdjust none none (-1) (n : Int) = ((n : Int) - 1, -1) := by
  unfold Builtin.Slice.sliceAdjust
  have h1 : ((-1 : Int) < 0) := by decide
  simp only [h1, if_true]
theorem places_rev (n : Nat) : Builtin.Slice.slicePlaces ((n : Int) - 1) (-1) (-1) = n := by
  unfold Builtin.Slice.slicePlaces
  have h1 : ¬ ((-1 : Int) > 0) := by decide
  simp only [h1, if_false]
  by_cases h : (n : Int) - 1 > -1
  · rw [if_pos h, show (-(-1) : Int) = 1 by decide, Int.ediv_one]
    omega
  · rw [if_neg h]
    omega
theorem sliceApplied_rev {sl : Addr} {vs : Value} {n : Nat} {Q : Int × Int × Nat → Shared → Prop} (hs : s.heap.IsSliceOf sl .none .none vs) (ps : IsPart vs (some (-1)))
    (h : Q ((n : Int) - 1, -1, n) s) : wpAny (model prog w) A (Builtin.Slice.sliceApplied (.ref sl) (pure (n : Int))) Q E s := by
  obtain ⟨os, hos, hcs, hds⟩ := id hs
  unfold Builtin.Slice.sliceApplied Builtin.Slice.sliceFields
  refine wpAny_bind (wpAny_bind (wpAny_field hos hds (x := .none) rfl (wpAny_bind (wpAny_field hos hds (x := .none) rfl (wpAny_bind (wpAny_field hos hds (x := vs) rfl (wpAny_pure ?_)))))))
  refine wpAny_bind (slicePart_ ps ?_)
  show wpAny _ _ (if ((-1 : Int) == 0) = true then _ else _) _ _ s
  rw [if_neg (by decide)]
  refine wpAny_bind (slicePart_none (wpAny_bind (slicePart_none (wpAny_bind (wpAny_pure ?_)))))
  show wpAny _ _ (match Builtin.Slice.sliceAdjust none none (-1) (n : Int) with | (lo, hi) => pure (lo, (-1 : Int), Builtin.Slice.slicePlaces lo hi (-1))) _ _ s
  rw [adjust_rev n]
  show wpAny _ _ (pure ((n : Int) - 1, (-1 : Int), Builtin.Slice.slicePlaces ((n : Int) - 1) (-1) (-1))) _ _ s
  rw [places_rev]
  exact wpAny_pure h
theorem fm_congr {α β : Type} {f g : α → Option β} : ∀ {l : List α}, (∀ x ∈ l, f x = g x) → l.filterMap f = l.filterMap g
  | [], _ => rfl
  | x :: l, h => by
    rw [List.filterMap_cons, List.filterMap_cons, h x List.mem_cons_self, fm_congr fun y hy => h y (List.mem_cons_of_mem _ hy)]
theorem pick_rev (xs : Array Value) : ((List.range xs.size).filterMap fun (m : Nat) => xs[((xs.size : Int) - 1 + (m : Int) * (-1)).toNat]?).toArray = xs.toList.reverse.toArray := by
  have e : (List.range xs.size).filterMap (fun (m : Nat) => xs[((xs.size : Int) - 1 + (m : Int) * (-1)).toNat]?) = ((List.range xs.size).map fun k => xs.size - 1 - k).filterMap (fun m => xs[m]?) := by
    rw [List.filterMap_map]
    refine fm_congr fun m hm => ?_
    have hm2 := List.mem_range.mp hm
    show _ = xs[xs.size - 1 - m]?
    have : ((xs.size : Int) - 1 + (m : Int) * (-1)).toNat = xs.size - 1 - m := by omega
    rw [this]
  rw [e, PySem.W.krv_range, List.filterMap_reverse, PySem.W.krv_all]
theorem getItem_tuple_rev {t sl : Addr} {items : Array Value} {vs : Value} {Q : Value → Shared → Prop} (ht : IsTup s.heap t items) (hs : s.heap.IsSliceOf sl .none .none vs) (ps : IsPart vs (some (-1)))
    (h : Q (.ref s.heap.objs.size) { s with heap := s.heap.push { cls := .type "tuple", data := .seq items.toList.reverse.toArray } })
    (hsz : items.size ≤ sizeLine) : wpAny (model prog w) A (getItem (.ref t) (.ref sl)) Q E s := by
  have htake : sizeOk (.seq items.toList.reverse.toArray) := by
    show items.toList.reverse.toArray.size ≤ sizeLine
    rw [List.size_toArray, List.length_reverse, Array.length_toList]
    exact hsz
  obtain ⟨os, hos, hcs, hds⟩ := id hs
  have hTs : s.TypeIs (.ref sl) "slice" := ⟨os, hos, hcs⟩
  unfold getItem
  try with_reducible refine wpAny_holding ?_
  first | refine wpAny_bind (wpAny_pure ?_) | skip
  refine wpAny_bind (wpAny_sequenceKey ht.typeIs (by decide) ?_)
  refine wpAny_bind (wpAny_callSpecial?_slot (name := Str.ofString "__getitem__") ht.typeIs PyProof.Rows.slot_tuple_getitem
    (wpAny_call_entry PyProof.Rows.slot_tuple_getitem ht.typeIs entry_tuple_getitem ?_ (args_tuple_getitem _ _)))
  show wpAny _ _ (Builtin.Tuple.tupleItemsOf (.ref t) >>= _) _ _ s
  refine wpAny_bind (tupleItemsOf_ ht ?_)
  refine wpAny_bind (wpAny_typeOf hTs ?_)
  rw [if_pos (by decide)]
  refine wpAny_bind (sliceApplied_rev hs ps ?_)
  have hno : ¬ (((items.size : Int) - 1 == 0 && (-1 : Int) == 1 && items.size == items.size) = true) := by
    intro q
    rw [Bool.and_eq_true, Bool.and_eq_true] at q
    exact absurd q.1.2 (by decide)
  show wpAny _ _ (if ((items.size : Int) - 1 == 0 && (-1 : Int) == 1 && items.size == items.size) = true then _ else _) _ _ s
  rw [if_neg hno, pick_rev]
  first
    | exact wpAny_bind (m := Builtin.Tuple.tupleExact _) (wpAny_newObj_type (wpAny_pure ⟨_, rfl, wpAny_pure h⟩) htake)
    | exact wpAny_bind (m := Builtin.Tuple.tupleExact _) (wpAny_newObj_type (wpAny_bind (wpAny_pure (wpAny_pure ⟨_, rfl, wpAny_pure h⟩))) htake)
    | exact wpAny_bind (wpAny_bind (m := Builtin.Tuple.tupleExact _) (wpAny_newObj_type (wpAny_pure (wpAny_pure ⟨_, rfl, wpAny_pure h⟩)) htake))
    | exact wpAny_bind (wpAny_bind (m := Builtin.Tuple.tupleExact _) (wpAny_newObj_type (wpAny_pure ⟨_, rfl, wpAny_pure h⟩) htake))
end
end HT
namespace L2
open PySem PySem.Spec PyProof.Rows
section
variable {X : Cx}
def tRevT (K : PySem.W.Frag) (te : TE) : TE := fun σ H Q => te σ H fun x H1 => ∃ a xs, x = .ref a ∧ SqT K H1 a xs ∧ ∀ p, H1 p = none → Q (.ref p) (upd H1 p (.tup xs.reverse))
theorem pe_revT {e : Expr} {te : TE} {k : Nat} {p1 p2 p3 pos : Pos} (he : PE X e te) : PE X (.Subscript e (.Slice none none (some (.UnaryOp .USub (.Constant (.int 1) k p1) p2)) p3) pos) (tRevT X.K te) := by
  refine ⟨fun pins s σ H Q I h => ?_⟩
  refine Subscript_ (thn (he.run pins s σ H _ I h) fun v s1 ⟨x, H1, I1, r1, q1⟩ => ?_)
  obtain ⟨a, xs, ex, hx, q⟩ := q1
  subst ex
  cases r1
  have hst : PO X (some (.UnaryOp .USub (.Constant (.int 1) k p1) p2)) (tPart (tUn (rU fun i => .int (-i)) (tC (.int 1)))) := po_some (pe_un un_neg pe_int)
  refine wpAny_Slice ?_
  rw [evalPart_none]
  refine wpAny_pure ?_
  refine wpAny_pure ?_
  refine thn (hst.run pins s1 σ H1 (fun o H4 => o = some (-1) ∧ H4 = H1) I1 ⟨1, rfl, -1, rfl, rfl, rfl⟩) fun vs s4 ⟨o, H4, I4, ps, eo, e4⟩ => ?_
  subst eo e4
  have I5 : Inv X pins σ H4 { s4 with heap := s4.heap.push { cls := .type "slice", data := .fields #[.none, .none, vs] } } := I4.kept (t' := s4.toks) fun b ob q => Heap.get?_push_of_some _ q
  obtain ⟨its, r, ht, hz⟩ := I5.tuple hx
  have hlen := r.length
  show wpAny (model X.prog X.w) X.A (subscriptTail e (.Slice none none (some (.UnaryOp .USub (.Constant (.int 1) k p1) p2)) p3) (.ref a) (.ref s4.heap.objs.size)) (EP X pins σ Q) X.xe { s4 with heap := s4.heap.push { cls := .type "slice", data := .fields #[.none, .none, vs] } }
  refine tail_any (ops := [.ref a, .ref s4.heap.objs.size]) ht.typeIs (PyProof.Rows.slot_tuple_getitem.lookup) ?_ (by with_unfolding_all rfl)
  refine HT.getItem_tuple_rev ht (Heap.IsSliceOf.new _ .none .none vs) ps ?_ (by rw [List.size_toArray]; omega)
  refine ⟨.ref _, _, I5.laid (t' := s4.toks) (o := .tup xs.reverse) (fun b ob q => Heap.get?_push_of_some _ q) (Nat.le_refl _) ?_, rfl, q _ (I5.hok.fresh (Nat.le_refl _))⟩
  exact ⟨by rw [List.length_reverse]; exact hz, _, r.reverse, IsTup.new _ _⟩
end
end L2

set_option maxHeartbeats 4000000
/-! Rows as texts, read back. -/
namespace Bz
open PySem PySem.Spec PyProof.Rows L2 TL
def digI (x : Int) : Str := Str.ofString (toString x)
theorem tl_digI {x : Int} (h : 0 ≤ x) : tl (digI x) = numL x.toNat := by
  have e : x = ((x.toNat : Nat) : Int) := (Int.toNat_of_nonneg h).symm
  have q := tl_num x.toNat
  rw [← e] at q
  exact q
theorem digI_len {x : Int} (h : 0 ≤ x) (h1 : x ≤ 1000000) : (digI x).length ≤ 7 := by
  rw [len_tl, tl_digI h]
  exact numL_len (by decide) (by have e : (10 : Nat) ^ 7 = 10000000 := by decide
                                 rw [e]
                                 omega)
theorem digI_pos {x : Int} (h : 0 ≤ x) : 1 ≤ (digI x).length := by
  rw [len_tl, tl_digI h]
  exact List.length_pos_iff.mpr (numL_ne _)
theorem digI_int {x : Int} (h : 0 ≤ x) (h1 : x ≤ 1000000) : intText? (digI x) = some x := by
  have e : x = ((x.toNat : Nat) : Int) := (Int.toNat_of_nonneg h).symm
  have l := digI_len h h1
  rw [len_tl, tl_digI h] at l
  have q := int_num (n := x.toNat) (by omega)
  rw [← e] at q
  exact q
theorem numL_head : ∀ (k n : Nat), n < k → (numL n).head? = some 48 → n = 0
  | 0, n, h, _ => by omega
  | k + 1, n, h, e => by
    by_cases c : n < 10
    · rw [numL_lt c] at e
      have : 48 + n = 48 := Option.some.inj e
      omega
    · rw [numL_step (by omega)] at e
      have h2 : (numL (n / 10)).head? = some 48 := by
        cases q : numL (n / 10) with
        | nil => exact absurd q (numL_ne _)
        | cons a l => rw [q] at e; exact e
      have := numL_head k (n / 10) (by omega) h2
      omega
/-- a number's text that begins with 0 is 0 -/
theorem digI_zero {x : Int} (h : 0 ≤ x) {c : Nat} (hc : (tl (digI x))[0]? = some c) (h48 : c = 48) : digI x = "0" := by
  subst h48
  rw [tl_digI h] at hc
  have e := numL_head (x.toNat + 1) x.toNat (by omega) (by rw [List.head?_eq_getElem?]; exact hc)
  have ex : x = 0 := by omega
  subst ex
  refine ext_tl ?_
  rw [tl_digI (by decide)]
  decide +kernel
theorem digI_fig {x : Int} (h : 0 ≤ x) {c : Nat} (hc : c ∈ tl (digI x)) : c ∈ tl ("0123456789" : Str) := by
  rw [tl_digI h] at hc
  have r := numL_digits _ c hc
  have e : tl ("0123456789" : Str) = [48, 49, 50, 51, 52, 53, 54, 55, 56, 57] := by decide +kernel
  rw [e]
  have : c = 48 ∨ c = 49 ∨ c = 50 ∨ c = 51 ∨ c = 52 ∨ c = 53 ∨ c = 54 ∨ c = 55 ∨ c = 56 ∨ c = 57 := by omega
  rcases this with z | z | z | z | z | z | z | z | z | z <;> (subst z; simp)
theorem digI_free {x : Int} (h : 0 ≤ x) {c : Nat} (hc : c < 48 ∨ 57 < c) : c ∉ tl (digI x) := by
  rw [tl_digI h]
  exact numL_free hc
/-! ### a row's text -/
def rowText (r : List Int) : Str := if r = [] then "-" else Txt.join "." (r.reverse.map digI)
theorem tl_dot : tl ("." : Str) = [46] := by decide +kernel
theorem tl_blank : tl (" " : Str) = [32] := by decide +kernel
theorem tl_dash : tl ("-" : Str) = [45] := by decide +kernel
theorem joinL_len {S : List Nat} : ∀ {ps : List (List Nat)}, (∀ p ∈ ps, p.length ≤ 7) → S.length ≤ 1 → (joinL S ps).length ≤ 8 * ps.length
  | [], _, _ => Nat.zero_le _
  | [p], h, _ => by
    have := h p (List.mem_singleton.mpr rfl)
    show p.length ≤ 8 * 1
    omega
  | p :: q :: r, h, hS => by
    have h1 := h p List.mem_cons_self
    have ih := joinL_len (ps := q :: r) (fun x hx => h x (List.mem_cons_of_mem _ hx)) hS
    show (p ++ (S ++ joinL S (q :: r))).length ≤ 8 * ((q :: r).length + 1)
    rw [List.length_append, List.length_append]
    omega
theorem joinL_free {s c : Nat} : ∀ {ps : List (List Nat)}, c ≠ s → (∀ p ∈ ps, c ∉ p) → c ∉ joinL [s] ps
  | [], _, _ => List.not_mem_nil
  | [p], _, h => h p (List.mem_singleton.mpr rfl)
  | p :: q :: r, hc, h => by
    show c ∉ p ++ ([s] ++ joinL [s] (q :: r))
    rw [List.mem_append, List.mem_append, List.mem_singleton]
    rintro (z | z | z)
    · exact h p List.mem_cons_self z
    · exact hc z
    · exact joinL_free (ps := q :: r) hc (fun x hx => h x (List.mem_cons_of_mem _ hx)) z
theorem tl_rowText {r : List Int} (h : r ≠ []) : tl (rowText r) = joinL [46] (r.reverse.map fun x => tl (digI x)) := by
  unfold rowText
  rw [if_neg h, join_eq, tl_join, tl_dot, List.map_map]
  rfl
/-- figures of any base that is meant -/
def Figs (r : List Int) : Prop := ∀ x ∈ r, 0 ≤ x ∧ x ≤ 1000000
theorem figs_of {b : Int} (hb : b ≤ 1000000) {r : List Int} (h : Fig b r) : Figs r := fun x hx => ⟨(h x hx).1, by have := (h x hx).2; omega⟩
theorem figs_rev {r : List Int} (h : Figs r) : Figs r.reverse := fun x hx => h x (List.mem_reverse.mp hx)
theorem rowText_len {r : List Int} (h : Figs r) : (rowText r).length ≤ 8 * r.length + 1 := by
  by_cases e : r = []
  · subst e
    decide +kernel
  · rw [len_tl, tl_rowText e]
    have q := joinL_len (S := [46]) (ps := r.reverse.map fun x => tl (digI x)) (fun p hp => by
      obtain ⟨x, hx, rfl⟩ := List.mem_map.mp hp
      have hx2 := h x (List.mem_reverse.mp hx)
      have l := digI_len hx2.1 hx2.2
      rw [len_tl] at l
      exact l) (by decide)
    rw [List.length_map, List.length_reverse] at q
    omega
theorem rowText_free {r : List Int} (h : Figs r) : 32 ∉ tl (rowText r) := by
  by_cases e : r = []
  · subst e
    show 32 ∉ tl ("-" : Str)
    rw [tl_dash]
    decide
  · rw [tl_rowText e]
    refine joinL_free (by decide) fun p hp => ?_
    obtain ⟨x, hx, rfl⟩ := List.mem_map.mp hp
    exact digI_free (h x (List.mem_reverse.mp hx)).1 (Or.inl (by decide))
theorem rowText_split {r : List Int} (h : Figs r) (e : r ≠ []) : Txt.split (rowText r) "." = r.reverse.map digI := by
  unfold rowText
  rw [if_neg e]
  refine split_join (s := 46) (S := []) tl_dot (by decide +kernel) (fun z => e ?_) fun p hp => ?_
  · have := congrArg List.length z
    rw [List.length_map, List.length_reverse] at this
    exact List.eq_nil_of_length_eq_zero this
  · obtain ⟨x, hx, rfl⟩ := List.mem_map.mp hp
    exact digI_free (h x (List.mem_reverse.mp hx)).1 (Or.inl (by decide))
theorem rowText_dash {r : List Int} (h : Figs r) (e : r ≠ []) : rowText r ≠ "-" := fun z => by
  have q := rowText_split h e
  rw [z] at q
  have q2 : Txt.split ("-" : Str) "." = [("-" : Str)] := split_join (y := ".") (s := 46) (S := []) tl_dot (by decide +kernel) (parts := [("-" : Str)]) (by simp) (fun p hp => by
    rw [List.mem_singleton.mp hp, tl_dash]
    decide)
  rw [q2] at q
  have hm : ("-" : Str) ∈ r.reverse.map digI := by rw [← q]; exact List.mem_singleton.mpr rfl
  obtain ⟨x, hx, ex⟩ := List.mem_map.mp hm
  have hf := digI_free (c := 45) (h x (List.mem_reverse.mp hx)).1 (Or.inl (by decide))
  rw [ex, tl_dash] at hf
  exact hf (List.mem_singleton.mpr rfl)
/-! ### a line -/
def lineOf (g : Int) (r : List Int) : Str := (("lead " : Str) ++ digI g ++ " ") ++ rowText r
theorem tl_lead : tl ("lead " : Str) = [108, 101, 97, 100, 32] := by decide +kernel
theorem tl_lead0 : tl ("lead" : Str) = [108, 101, 97, 100] := by decide +kernel
theorem line_join (g : Int) (r : List Int) : lineOf g r = Txt.join " " [("lead" : Str), digI g, rowText r] := by
  refine ext_tl ?_
  rw [join_eq, tl_join]
  unfold lineOf
  rw [tl_append, tl_append, tl_append, tl_lead, tl_blank]
  show _ = tl ("lead" : Str) ++ ([32] ++ (tl (digI g) ++ ([32] ++ tl (rowText r))))
  rw [tl_lead0]
  simp
theorem line_split {g : Int} {r : List Int} (hg : 0 ≤ g) (h : Figs r) : Txt.split (lineOf g r) " " = [("lead" : Str), digI g, rowText r] := by
  rw [line_join]
  refine split_join (s := 32) (S := []) tl_blank (by decide +kernel) (by simp) fun p hp => ?_
  rcases List.mem_cons.mp hp with e | hp
  · rw [e, tl_lead0]
    decide
  rcases List.mem_cons.mp hp with e | hp
  · rw [e]
    exact digI_free hg (Or.inl (by decide))
  · rw [List.mem_singleton.mp hp]
    exact rowText_free h
theorem line_len {g : Int} {r : List Int} (hg : 0 ≤ g) (hg1 : g ≤ 1000000) (h : Figs r) : (lineOf g r).length ≤ 8 * r.length + 20 := by
  have a := digI_len hg hg1
  have b := rowText_len h
  rw [len_tl] at a b ⊢
  unfold lineOf
  rw [tl_append, tl_append, tl_append, tl_lead, tl_blank]
  simp only [List.length_append, List.length_cons, List.length_nil]
  omega
end Bz

set_option maxHeartbeats 4000000
/-! Small helps for the walk. -/
namespace Bz
open PySem PySem.Spec PyProof.Rows L2
/-- a base -/
def Bd (b : Int) : Prop := 2 ≤ b ∧ b ≤ 1000000
theorem Bd.pos {b : Int} (h : Bd b) : 0 < b := by unfold Bd at h; omega
theorem Bd.nn {b : Int} (h : Bd b) : 0 ≤ b := Int.le_of_lt h.pos
theorem Bd.two {b : Int} (h : Bd b) : 2 ≤ b := h.1
theorem Bd.bits {b : Int} (h : Bd b) : b ≤ 2 ^ 20 := by
  have e : (2 : Int) ^ 20 = 1048576 := by decide
  rw [e]
  unfold Bd at h
  omega
theorem Bd.mul {b i : Int} (h : Bd b) : CMul i b := Or.inr ⟨by have := h.1; omega, by have := h.2; omega⟩
theorem Bd.div {b i : Int} (h : Bd b) : CDiv i b := ⟨by have := h.1; omega, by have := h.2; omega⟩
/-- a tuple of iv -/
abbrev iv (r : List Int) : List V := r.map V.int
theorem iv_len (r : List Int) : (iv r).length = r.length := List.length_map _
theorem iv_take (r : List Int) (m : Nat) : iv (r.take m) = (iv r).take m := List.map_take
theorem iv_drop (r : List Int) (m : Nat) : iv (r.drop m) = (iv r).drop m := List.map_drop
theorem iv_snoc (r : List Int) (x : Int) : iv (r ++ [x]) = iv r ++ [V.int x] := List.map_append
theorem iv_app (r s : List Int) : iv (r ++ s) = iv r ++ iv s := List.map_append
theorem toFun {K : PySem.W.Frag} {x qual : Str} {st : Stmt} {f : Addr} {fd : FuncData} (F : FunD K x qual (defArgs st) (defBody st) (defScope st) [] [] f fd) : Fun K x qual st f fd := by
  obtain ⟨oc, od, dV, kV, doc, pm, an, cdv, ct, osl, rfl, lk, hcd, hD, hK⟩ := F.ex
  rcases hD with ⟨_, rfl⟩ | ⟨e, _⟩
  · exact ⟨⟨oc, od, kV, doc, pm, an, cdv, ct, osl, rfl, lk, hcd⟩, F.kp⟩
  · exact absurd rfl e
theorem same_new {H : Hp} {p : Addr} (h : H p = none) (o : HO) : Same H (upd H p o) := fun b u q => by rw [upd_ne (ne_of_none q h)]; exact q
/-- an object that H doesn't know may change -/
theorem same_mut {H H' : Hp} {p : Addr} {o : HO} (e : Same H H') (h : H p = none) : Same H (upd H' p o) := fun a u ha => by
  rw [upd_ne (ne_of_none ha h)]
  exact e a u ha
theorem tT {K : PySem.W.Frag} {H : Hp} {a : Addr} {xs : List V} (h : H a = some (.tup xs)) : SqT K H a xs := Or.inl (Or.inl h)
theorem tL {K : PySem.W.Frag} {H : Hp} {a : Addr} {xs : List V} (h : H a = some (.lst xs)) : SqL K H a xs := Or.inl (Or.inl h)
theorem sz {n : Nat} (h : n ≤ 100000) : n ≤ sizeLine := Nat.le_trans h (by decide)
theorem szl {n : Nat} (h : n < 100000) : n < sizeLine := Nat.lt_of_lt_of_le h (by decide)
/-! ### == of tuples of iv -/
theorem eqv_ints : ∀ r s : List Int, PyData.eqvAll (r.map PyData.int) (s.map PyData.int) = decide (r = s)
  | [], [] => by simp [PyData.eqvAll]
  | [], _ :: _ => by simp [PyData.eqvAll]
  | _ :: _, [] => by simp [PyData.eqvAll]
  | x :: r, y :: s => by
    have ih := eqv_ints r s
    show (PyData.eqv (.int x) (.int y) && PyData.eqvAll (r.map PyData.int) (s.map PyData.int)) = _
    rw [ih]
    by_cases e : x = y
    · subst e
      by_cases e2 : r = s
      · subst e2; simp [PyData.eqv]
      · simp [PyData.eqv, e2]
    · simp [PyData.eqv, e]
theorem dp_ints {K : PySem.W.Frag} {H : Hp} : ∀ r : List Int, DpAll K H (iv r) (r.map PyData.int)
  | [] => .nil
  | _ :: r => .cons (.int _) (dp_ints r)
theorem shaped_ints (r : List Int) : SeqAt.shaped (.tuple (r.map PyData.int)) = true := by
  have c : ∀ l : List Int, PyData.canLayAll0 (l.map PyData.int) = true := by
    intro l
    induction l with
    | nil => simp [PyData.canLayAll0]
    | cons x l ih => simp [PyData.canLayAll0, PyData.canLay0, ih]
  have d : ∀ l : List Int, PyData.depthAll (l.map PyData.int) ≤ 1 := by
    intro l
    induction l with
    | nil => simp [PyData.depthAll]
    | cons x l ih => simp [PyData.depthAll, PyData.depth] <;> omega
  have := c r
  have := d r
  unfold SeqAt.shaped
  simp [PyData.canLay0, PyData.depth, *]
  try omega
theorem eqT {K : PySem.W.Frag} {H : Hp} {a c : Addr} {r s : List Int} {Q : VK} (h : H a = some (.tup (iv r))) (k : H c = some (.tup (iv s))) (q : Q (.bl (decide (r = s))) H) : rEqD K (.ref a) (.ref c) H Q := by
  refine ⟨.tuple (r.map PyData.int), .tuple (s.map PyData.int), .tup (tT h) (dp_ints r), .tup (tT k) (dp_ints s), shaped_ints r, shaped_ints s, ?_⟩
  have e : PyData.eqv (.tuple (r.map PyData.int)) (.tuple (s.map PyData.int)) = decide (r = s) := by
    rw [← eqv_ints]
    simp [PyData.eqv]
  rw [e]
  exact q
theorem neT {K : PySem.W.Frag} {H : Hp} {a c : Addr} {r s : List Int} {Q : VK} (h : H a = some (.tup (iv r))) (k : H c = some (.tup (iv s))) (q : Q (.bl (!decide (r = s))) H) : rNeD K (.ref a) (.ref c) H Q := by
  refine ⟨.tuple (r.map PyData.int), .tuple (s.map PyData.int), .tup (tT h) (dp_ints r), .tup (tT k) (dp_ints s), shaped_ints r, shaped_ints s, ?_⟩
  have e : PyData.eqv (.tuple (r.map PyData.int)) (.tuple (s.map PyData.int)) = decide (r = s) := by
    rw [← eqv_ints]
    simp [PyData.eqv]
  rw [e]
  exact q
theorem neL {K : PySem.W.Frag} {H : Hp} {a c : Addr} {r s : List Int} {Q : VK} (h : H a = some (.lst (iv r))) (k : H c = some (.lst (iv s))) (q : Q (.bl (!decide (r = s))) H) : rNeD K (.ref a) (.ref c) H Q := by
  have sh : ∀ r : List Int, SeqAt.shaped (.list (r.map PyData.int)) = true := fun r => by
    have := shaped_ints r
    unfold SeqAt.shaped at this ⊢
    simpa [PyData.canLay0, PyData.depth] using this
  refine ⟨.list (r.map PyData.int), .list (s.map PyData.int), .lst (tL h) (dp_ints r), .lst (tL k) (dp_ints s), sh r, sh s, ?_⟩
  have e : PyData.eqv (.list (r.map PyData.int)) (.list (s.map PyData.int)) = decide (r = s) := by
    rw [← eqv_ints]
    simp [PyData.eqv]
  rw [e]
  exact q
/-- an item of iv -/
theorem at_iv {r : List Int} {i : Nat} {x : Int} (h : r[i]? = some x) : atI (iv r) (i : Int) = some (.int x) := atI_nat (by rw [List.getElem?_map, h] <;> rfl)
theorem at_last {r : List Int} (e : r ≠ []) : atI (iv r) (-1) = some (.int (r.getLast e)) := by
  have e2 : iv r = iv r.dropLast ++ [V.int (r.getLast e)] := by
    have q := congrArg (fun l => l.map V.int) (List.dropLast_concat_getLast e)
    simp only [List.map_append] at q
    exact q.symm
  rw [e2]
  exact atI_last _ _
theorem at0 {x : V} {xs : List V} : atI (x :: xs) 0 = some x := atI_nat (j := 0) rfl
theorem at1 {x y : V} {xs : List V} : atI (x :: y :: xs) 1 = some y := atI_nat (j := 1) rfl
theorem iv_get {r : List Int} {i : Nat} {v : V} (h : (iv r)[i]? = some v) : ∃ x, r[i]? = some x ∧ v = .int x := by
  rw [List.getElem?_map] at h
  cases e : r[i]? with
  | none => rw [e] at h; cases h
  | some x => rw [e] at h; exact ⟨x, rfl, (Option.some.inj h).symm⟩
end Bz

set_option maxHeartbeats 4000000
namespace Bz
open PySem PySem.Spec PyProof.Rows L2
section
variable {P : Program} {w : World} {K : PySem.W.Frag} {mg : Str → Option Value} {base : Heap} {f : Addr} {fd : FuncData}
/-! ### is_whole -/
theorem sc_is_whole : FnScope ["thing"] ["thing"] (defScope s_is_whole_rows) := ⟨rfl, rfl, rfl, by decide +kernel, rfl, by decide +kernel, by decide +kernel⟩
def spWhole : Sp := fun vs H Q _ => ∃ n : Int, vs = [.int n] ∧ Q (.bl true) H
theorem ok_is_whole (F : Fun K "is_whole" "is_whole" s_is_whole_rows f fd) (mi : mg "isinstance" = none) (mint : mg "int" = none) (mb : mg "bool" = none) : FnOk P w K mg base CX0 1 f fd ["thing"] spWhole := by
  refine F.ok sc_is_whole (fun vs H Q E h => ?_) (fun cdv A outer s H vs Q E hr h => ?_)
  · obtain ⟨n, rfl, _⟩ := h
    rfl
  obtain ⟨n, rfl, q⟩ := h
  refine ⟨_, pss_one (ps_ret (pe_and (pe_callB call_isi (by rfl) mi PyProof.Rows.boot_isinstance (pa_cons (pv 0) (pa_cons (pe_bltn (v := .ty "int") (by rfl) mint PyProof.Rows.boot_int rfl) pa_nil)))
    (pe_one (pe_not (pe_callB call_isi (by rfl) mi PyProof.Rows.boot_isinstance (pa_cons (pv 0) (pa_cons (pe_bltn (v := .ty "bool") (by rfl) mb PyProof.Rows.boot_bool rfl) pa_nil))))))), ?_⟩
  refine ⟨_, rfl, _, _, _, _, _, rfl, .ty _, .base (.int n), kit_ty (by decide +kernel), true, rfl, iteT ?_⟩
  exact ⟨_, rfl, _, _, _, _, _, rfl, .ty _, .base (.int n), kit_ty (by decide +kernel), false, rfl, q⟩
/-! ### is_row: of a row -/
theorem sc_is_row : FnScope ["base", "thing", "one"] ["base", "thing"] (defScope s_is_row) := ⟨rfl, rfl, rfl, by decide +kernel, rfl, by decide +kernel, by decide +kernel⟩
def spIsRow : Sp := fun vs H Q _ => ∃ (b : Int) (a : Addr) (r : List Int), vs = [.int b, .ref a] ∧ H a = some (.tup (iv r)) ∧ Row b r ∧ r.length ≤ 50000 ∧ ∀ H', Same H H' → Q (.bl true) H'
theorem all_true (n : Nat) : (List.replicate n true).all id = true := by
  induction n with
  | zero => rfl
  | succ n ih => rw [List.replicate_succ, List.all_cons, ih] <;> rfl
theorem ok_is_row {g : Addr} {gd : FuncData} (F : Fun K "is_row" "is_row" s_is_row f fd) (G : FnOk P w K mg base CX0 1 g gd ["thing"] spWhole) (bG : Binds K gd ["thing"] []) (kG : PySem.W.keepIn K (.ref g) = true) (mG : mg "is_whole_rows" = some (.ref g))
    (mi : mg "isinstance" = none) (mt : mg "tuple" = none) (ma : mg "all" = none) : FnOk P w K mg base CX0 2 f fd ["base", "thing"] spIsRow := by
  refine F.ok sc_is_row (fun vs H Q E h => ?_) (fun cdv A outer s H vs Q E hr h => ?_)
  · obtain ⟨b, a, r, rfl, _⟩ := h
    rfl
  obtain ⟨b, a, r, rfl, ha, hR, hl, q⟩ := h
  refine ⟨_, pss_cons (ps_if (PW.pt (pw_or (pt_not (pt_val (pe_callB call_isi (by rfl) mi PyProof.Rows.boot_isinstance (pa_cons (pv 1) (pa_cons (pe_bltn (v := .ty "tuple") (by rfl) mt PyProof.Rows.boot_tuple rfl) pa_nil)))))
      (pw_or1 (pt_not (pt_val (pe_callB (cr_all rfl) (by rfl) ma PyProof.Rows.boot_all (pa_cons
        (pe_lc (own := [("one", 2)]) (g := gName 2) (tt := tYes) rfl sc_is_row.nd (pi_tup (pv 1)) (blkOk_by (N := ["base", "thing", "one"]) (sc := defScope s_is_row) (by decide +kernel))
          (fun _ _ _ _ _ => pg_name (i := 2) sc_is_row.nd rfl (Or.inl rfl)) (fun _ _ _ _ _ => pts_nil)
          (fun _ _ _ _ _ => pe_and (pe_call G hr (by rfl) mG kG bG .nil pass0 (pa_cons (pv 2) pa_nil)) (pe_one (pe_chain op_le op_lt pe_int (pv 2) (pv 0))))) pa_nil)))))))
      (pss_one (ps_ret pe_bl)) pss_nil)
    (pss_one (ps_ret (pe_or (pe_cmpR (op_eqD hr.units) (pv 1) (pe_tup pa_nil) (nomark _)) (pe_one (pe_cmpR op_ne (pe_ix ix_tup (pv 1) (pe_un un_neg pe_int) (fun _ _ => rfl)) pe_int (nomark _)))))), ?_⟩
  have hT : SqT K H a (iv r) := tT ha
  refine ⟨_, rfl, _, _, _, _, _, rfl, .ty _, .base (.tup ha), kit_ty (by decide +kernel), true, rfl, iteF ?_⟩
  refine ⟨_, rfl, a, rfl, ⟨_, hT⟩, fun D hD => ?_⟩
  refine lc_tup (K := K) (a := a) (xs := iv r) (fun i H' => Same H H' ∧ H' D = some (.lst ((List.replicate i true).map V.bl))) ⟨same_new hD _, upd_same⟩ (fun i H' _ p => tT (p.1 _ _ ha)) ?_ ?_
  · rintro i x H' hx ⟨p1, p2⟩
    obtain ⟨n, hn, rfl⟩ := iv_get hx
    have hf := hR.1 n (List.mem_of_getElem? hn)
    have hi : i < r.length := (List.getElem?_eq_some_iff.mp hn).1
    refine ⟨rfl, ?_⟩
    refine ⟨_, rfl, n, rfl, true, rfl, iteT ?_⟩
    refine ⟨_, rfl, _, _, rfl, rfl, _, rfl, ?_⟩
    rw [decide_eq_true hf.1]
    refine iteT ⟨_, rfl, _, _, rfl, rfl, ?_⟩
    simp only [decide_eq_true hf.2]
    refine ⟨_, p2, szl (by rw [List.length_map, List.length_replicate]; omega), same_mut p1 hD, ?_⟩
    rw [upd_same, List.replicate_succ', List.map_append] <;> rfl
  · rintro H' ⟨p1, p2⟩
    refine ⟨D, List.replicate (iv r).length true, rfl, tL p2, true, ?_, ?_⟩
    · rw [all_true]
    refine iteF ?_
    refine ⟨_, rfl, sz (by show 0 ≤ 100000; omega), fun t ht => ?_⟩
    refine eqT (s := []) ((p1.trans (same_new ht _)) _ _ ha) upd_same ?_
    refine ⟨_, rfl, ?_⟩
    by_cases e : r = []
    · rw [decide_eq_true e]
      exact iteT (q _ (p1.trans (same_new ht _)))
    · rw [decide_eq_false e]
      refine iteF ⟨_, rfl, 1, rfl, ?_⟩
      have hl2 := hR.2 _ (List.getLast?_eq_some_getLast e)
      refine ⟨a, iv r, -1, .int (r.getLast e), rfl, rfl, tT ((p1.trans (same_new ht _)) _ _ ha), ?_, ?_⟩
      · exact at_last e
      · refine ⟨rfl, ?_⟩
        rw [decide_eq_false (fun z => hl2 (V.int.inj z))]
        exact q _ (p1.trans (same_new ht _))
end
end Bz

set_option maxHeartbeats 4000000
namespace Bz
open PySem PySem.Spec PyProof.Rows L2
theorem slOr {X : Cx} {r r' : V → Option Int → Option Int → Hp → VK → Prop} (h : SlR X r) (h' : SlR X r') : SlR X (fun x lo hi H Q => r x lo hi H Q ∨ r' x lo hi H Q) := by
  intro pins s σ H x v vl vu lo hi sl Q I rx hs pl pu e
  rcases e with e | e
  · exact h pins s σ H x v vl vu lo hi sl Q I rx hs pl pu e
  · exact h' pins s σ H x v vl vu lo hi sl Q I rx hs pl pu e
theorem cut_take {xs : List V} {k : Nat} (h : k ≤ xs.length) : cutV xs none (some (k : Int)) = xs.take k := by
  unfold cutV
  rw [HT.sIx_none, HT.sIx_nat, Nat.min_eq_left h, List.drop_zero, Nat.sub_zero]
theorem cut_drop {xs : List V} {k : Nat} (h : k ≤ xs.length) : cutV xs (some (k : Int)) none = xs.drop k := by
  unfold cutV
  rw [HT.sIx_none, HT.sIx_nat, Nat.min_eq_left h, List.take_of_length_le (by rw [List.length_drop]; exact Nat.le_refl _)]
section
variable {P : Program} {w : World} {K : PySem.W.Frag} {mg : Str → Option Value} {base : Heap} {f : Addr} {fd : FuncData}
/-! ### bare_row, of a list or a tuple -/
theorem sc_bare_row : FnScope ["figures", "size"] ["figures"] (defScope s_bare_row) := ⟨rfl, rfl, rfl, by decide +kernel, rfl, by decide +kernel, by decide +kernel⟩
def spBare : Sp := fun vs H Q _ => ∃ (a : Addr) (r : List Int), vs = [.ref a] ∧ (H a = some (.lst (iv r)) ∨ H a = some (.tup (iv r))) ∧ r.length ≤ 60000 ∧
  ∀ (p : Addr) (H' : Hp), Same H H' → H' p = some (.tup (iv (bare r))) → Q (.ref p) H'
def rTupOf (K : PySem.W.Frag) : List V → Hp → VK → Prop := fun xs H Q => ∃ p ys, xs = [V.ref p] ∧ ((SqL K H p ys ∧ ∀ l, H l = none → Q (.ref l) (upd H l (.tup ys))) ∨ (SqT K H p ys ∧ Q (.ref p) H))
def rSlLA (K : PySem.W.Frag) : V → Option Int → Option Int → Hp → VK → Prop := fun x lo hi H Q => rSlL K x lo hi H Q ∨ rSlA K x lo hi H Q
/-- return tuple(figures[:size]) -/
theorem fin_bare {K : PySem.W.Frag} {D : Ends} {H : Hp} {a : Addr} {r : List Int} {m : Nat} (ha : H a = some (.lst (iv r)) ∨ H a = some (.tup (iv r))) (hl : r.length ≤ 60000) (hm : m ≤ r.length) (hb : bare r = r.take m)
    (q : ∀ (p : Addr) (H' : Hp), Same H H' → H' p = some (.tup (iv (bare r))) → D.rt (.ref p) H') :
    tRet (tCB (rTupOf K) (tCons (tSl (rSlLA K) (tVar 0) tNoPart (tPart (tVar 1))) tNil)) D [some (.ref a), some (.int (m : Int))] H := by
  have ht : (iv r).take m = iv (bare r) := by rw [hb, iv_take]
  have hm2 : m ≤ (iv r).length := by rw [iv_len]; exact hm
  refine ⟨_, rfl, _, rfl, _, rfl, ?_⟩
  rcases ha with ha | ha
  · refine Or.inl ⟨a, _, rfl, tL ha, fun p hp => ⟨p, _, rfl, Or.inl ⟨tL upd_same, fun l hl => ?_⟩⟩⟩
    refine q l _ ((same_new hp _).trans (same_new hl _)) ?_
    rw [upd_same, cut_take hm2, ht]
  · refine Or.inr ⟨a, _, rfl, tT ha, fun hw => ?_, fun hw p hp => ?_⟩
    · refine ⟨a, _, rfl, Or.inr ⟨tT ha, q a _ (Same.refl _) ?_⟩⟩
      rw [HT.sIx_nat] at hw
      have e : bare r = r := by
        rw [hb]
        refine List.take_of_length_le ?_
        have := hw.2
        rw [iv_len] at this
        omega
      rw [e]
      exact ha
    · refine ⟨p, _, rfl, Or.inr ⟨tT upd_same, q p _ (same_new hp _) ?_⟩⟩
      rw [upd_same, cut_take hm2, ht]
theorem ok_bare_row (F : Fun K "bare_row" "bare_row" s_bare_row f fd) (ml : mg "len" = none) (mt : mg "tuple" = none) : FnOk P w K mg base CX0 1 f fd ["figures"] spBare := by
  refine F.ok sc_bare_row (fun vs H Q E h => ?_) (fun cdv A outer s H vs Q E hr h => ?_)
  · obtain ⟨a, r, rfl, _⟩ := h
    rfl
  obtain ⟨a, r, rfl, ha, hl, q⟩ := h
  refine ⟨_, pss_cons (ps_set (i := 1) sc_bare_row.nd rfl (Or.inl rfl) (pe_callB call_len (by rfl) ml PySem.boot_len (pa_cons (pv 0) pa_nil)))
    (pss_cons (ps_while PassesOwn.never (PW.pt (pw_and (pt_cmpR op_gt (pv 1) pe_int (nomark _)) (pw_and1 (pt_cmpR op_eq (pe_ix ix_seq (pv 0) (pe_op op_sub (pv 1) pe_int) (fun _ _ => rfl)) pe_int (nomark _)))))
      (pss_one (ps_aug (i := 1) sc_bare_row.nd rfl (.inl rfl) pe_int ip_sub)))
    (pss_one (ps_ret (pe_callTy call_tuple_of (by rfl) mt PyProof.Rows.boot_tuple (pa_cons (pe_slice (slOr sl_list sl_tupA) (pv 0) po_none (po_some (pv 1))) pa_nil))))), ?_⟩
  have hlen : LenV K (.ref a) H r.length := by
    rcases ha with ha | ha
    · exact .inl ⟨_, tL ha, (iv_len r).symm⟩
    · exact .inr ⟨_, tT ha, (iv_len r).symm⟩
  refine ⟨_, rfl, _, _, rfl, hlen, ?_⟩
  refine ⟨fun m σ H' => σ = [some (.ref a), some (.int (m : Int))] ∧ H' = H ∧ m ≤ r.length ∧ bare (r.take m) = bare r, ⟨r.length, rfl, rfl, Nat.le_refl _, by rw [List.take_of_length_le (Nat.le_refl _)]⟩, ?_⟩
  rintro m σ H' ⟨rfl, rfl, hm, hb⟩
  refine ⟨_, rfl, _, _, rfl, rfl, _, rfl, ?_⟩
  cases m with
  | zero =>
    refine iteF ?_
    exact fin_bare (m := 0) ha hl hm (by rw [← hb]; rfl) q
  | succ j =>
    have hj : j < r.length := hm
    have hx : r[j]? = some r[j] := List.getElem?_eq_getElem hj
    rw [decide_eq_true (show (0 : Int) < ((j + 1 : Nat) : Int) by omega)]
    refine iteT ?_
    have ej : ((j + 1 : Nat) : Int) - 1 = (j : Int) := by omega
    have hat : atI (iv r) (((j + 1 : Nat) : Int) - 1) = some (.int r[j]) := by rw [ej]; exact at_iv hx
    refine ⟨_, rfl, _, rfl, _, _, rfl, rfl, ?_⟩
    have hA := ha
    rcases ha with ha' | ha'
    · refine Or.inl ⟨a, _, _, _, rfl, rfl, tL ha', hat, ?_⟩
      refine ⟨rfl, _, rfl, ?_⟩
      by_cases e : r[j] = 0
      · rw [decide_eq_true (by rw [e])]
        refine iteT ⟨_, fun _ _ n => n, _, rfl, _, _, rfl, rfl, j, Nat.lt_succ_self _, ?_, rfl, Nat.le_of_lt hj, ?_⟩
        · show [some (V.ref a), some (V.int (((j + 1 : Nat) : Int) - 1))] = _
          rw [ej]
        · rw [← hb, bare_take0 (by rw [hx, e])]
      · rw [decide_eq_false (fun z => e (V.int.inj z))]
        exact iteF (fin_bare hA hl hm (by rw [← hb, bare_take1 hx e]) q)
    · refine Or.inr (Or.inl ⟨a, _, _, _, rfl, rfl, tT ha', hat, ?_⟩)
      refine ⟨rfl, _, rfl, ?_⟩
      by_cases e : r[j] = 0
      · rw [decide_eq_true (by rw [e])]
        refine iteT ⟨_, fun _ _ n => n, _, rfl, _, _, rfl, rfl, j, Nat.lt_succ_self _, ?_, rfl, Nat.le_of_lt hj, ?_⟩
        · show [some (V.ref a), some (V.int (((j + 1 : Nat) : Int) - 1))] = _
          rw [ej]
        · rw [← hb, bare_take0 (by rw [hx, e])]
      · rw [decide_eq_false (fun z => e (V.int.inj z))]
        exact iteF (fin_bare hA hl hm (by rw [← hb, bare_take1 hx e]) q)
end
end Bz

set_option maxHeartbeats 4000000
namespace Bz
open PySem PySem.Spec PyProof.Rows L2
section
variable {P : Program} {w : World} {K : PySem.W.Frag} {mg : Str → Option Value} {base : Heap} {f : Addr} {fd : FuncData}
/-! ### row_of -/
theorem sc_row_of : FnScope ["base", "number", "figures", "figure"] ["base", "number"] (defScope s_row_of) := ⟨rfl, rfl, rfl, by decide +kernel, rfl, by decide +kernel, by decide +kernel⟩
def spRowOf : Sp := fun vs H Q _ => ∃ (b N : Int) (k : Nat), vs = [.int b, .int N] ∧ Bd b ∧ 0 ≤ N ∧ N < 2 ^ k ∧ k ≤ 50000 ∧
  ∀ (r : List Int) (a : Addr) (H' : Hp), Same H H' → Row b r → val b r = N → H' a = some (.tup (iv r)) → Q (.ref a) H'
theorem ok_row_of (F : Fun K "row_of" "row_of" s_row_of f fd) (md : mg "divmod" = none) (mt : mg "tuple" = none) : FnOk P w K mg base CX0 1 f fd ["base", "number"] spRowOf := by
  refine F.ok sc_row_of (fun vs H Q E h => ?_) (fun cdv A outer s H vs Q E hr h => ?_)
  · obtain ⟨b, N, k, rfl, _⟩ := h
    rfl
  obtain ⟨b, N, k, rfl, hb, h0, hk, hk2, q⟩ := h
  refine ⟨_, pss_cons (ps_set (i := 2) sc_row_of.nd rfl (Or.inl rfl) (pe_lst pa_nil))
    (pss_cons (ps_while PassesOwn.never (pt_cmpR op_gt (pv 1) pe_int (nomark _))
      (pss_cons (ps_asg (pe_callB call_divmod (by rfl) md PyProof.Rows.boot_divmod (pa_cons (pv 1) (pa_cons (pv 0) pa_nil))) (pg_tup rfl (pgs_cons (pg_name (i := 1) sc_row_of.nd rfl (.inl rfl)) (pgs_cons (pg_name (i := 3) sc_row_of.nd rfl (.inl rfl)) pgs_nil))))
      (pss_one (ps_expr (pe_bm PySem.F.plainAttrs_list PySem.F.slot_list_append PySem.F.type_list_append mt_append (pv 2) (pa_cons (pv 3) pa_nil))))))
    (pss_one (ps_ret (pe_callTy call_tuple_of (by rfl) mt PyProof.Rows.boot_tuple (pa_cons (pv 2) pa_nil))))), ?_⟩
  refine ⟨sz (by show 0 ≤ 100000; omega), fun l hl => ?_⟩
  refine ⟨fun m σ H' => ∃ (n : Int) (fs : List Int) (v : Option V), σ = [some (.int b), some (.int n), some (.ref l), v] ∧ m = n.toNat ∧ 0 ≤ n ∧ Same H H' ∧ H' l = some (.lst (iv fs)) ∧ Fig b fs ∧ val b fs + b ^ fs.length * n = N ∧ (0 < n ∨ Top fs),
    ⟨N.toNat, N, [], none, rfl, rfl, h0, same_new hl _, upd_same, fig_nil, ?_, ?_⟩, ?_⟩
  · show (0 : Int) + b ^ 0 * N = N
    rw [Int.pow_zero]
    omega
  · exact Or.inr top_nil
  rintro m σ H' ⟨n, fs, v, rfl, rfl, hn, hS, hl', hf, hv, ht⟩
  refine ⟨_, rfl, _, _, rfl, rfl, _, rfl, ?_⟩
  by_cases c : 0 < n
  · rw [decide_eq_true c]
    obtain ⟨t1, t2, t3⟩ := row_turn hb.two c hf hv
    have hlen := pow_len hb.two c (show b ^ fs.length * n ≤ N by have := val_nonneg hb.nn hf; omega) hk
    obtain ⟨d1, d2⟩ := div_lt_self hb.two c
    refine iteT ⟨_, fun _ _ z => z, ?_⟩
    refine ⟨_, rfl, _, rfl, n, b, rfl, hb.div, fun p hp => ?_⟩
    refine ⟨p, _, rfl, tT upd_same, rfl, _, _, rfl, _, _, rfl, rfl, ?_⟩
    have hne : l ≠ p := ne_of_none hl' hp
    refine ⟨_, rfl, .inl ⟨rfl, _, tL (by rw [upd_ne hne]; exact hl')⟩, _, rfl, l, _, _, rfl, rfl, by rw [upd_ne hne]; exact hl', szl (by rw [iv_len]; omega), ?_⟩
    refine ⟨(n / b).toNat, by omega, n / b, fs ++ [n % b], _, rfl, rfl, d1, ?_, ?_, t1, t2, t3⟩
    · exact same_mut (hS.trans (same_new hp _)) hl
    · rw [upd_same, iv_snoc]
  · rw [decide_eq_false c]
    have z : n = 0 := by omega
    subst z
    refine iteF ⟨_, rfl, l, _, rfl, Or.inl ⟨tL hl', fun p hp => ?_⟩⟩
    refine q fs p _ (hS.trans (same_new hp _)) ⟨hf, ht.resolve_left (by omega)⟩ ?_ upd_same
    rw [Int.mul_zero, Int.add_zero] at hv
    exact hv
/-! ### number_of -/
theorem sc_number_of : FnScope ["base", "row", "number", "figure"] ["base", "row"] (defScope s_number_of) := ⟨rfl, rfl, rfl, by decide +kernel, rfl, by decide +kernel, by decide +kernel⟩
def spNum : Sp := fun vs H Q _ => ∃ (b : Int) (a : Addr) (r : List Int), vs = [.int b, .ref a] ∧ Bd b ∧ H a = some (.tup (iv r)) ∧ Q (.int (val b r)) H
theorem ok_number_of (F : Fun K "number_of" "number_of" s_number_of f fd) (mr : mg "reversed" = none) : FnOk P w K mg base CX0 1 f fd ["base", "row"] spNum := by
  refine F.ok sc_number_of (fun vs H Q E h => ?_) (fun cdv A outer s H vs Q E hr h => ?_)
  · obtain ⟨b, a, r, rfl, _⟩ := h
    rfl
  obtain ⟨b, a, r, rfl, hb, ha, q⟩ := h
  refine ⟨_, pss_cons (ps_set (i := 2) sc_number_of.nd rfl (Or.inl rfl) pe_int)
    (pss_cons (ps_for PassesOwn.never rfl (RT.pi_revA (by rfl) mr (pv 1)) (pg_name (i := 3) sc_number_of.nd rfl (Or.inl rfl))
      (pss_one (ps_set (i := 2) sc_number_of.nd rfl (Or.inl rfl) (pe_op op_add (pe_op op_mul (pv 2) (pv 0)) (pv 3)))))
    (pss_one (ps_ret (pv 2)))), ?_⟩
  refine ⟨_, rfl, a, iv r, rfl, Or.inr ⟨tT ha, ?_⟩⟩
  refine RT.for_ItvT (fun i σ H' => H' = H ∧ ∃ v, σ = [some (.int b), some (.ref a), some (.int (val b (r.drop (r.length - i)))), v]) ⟨rfl, none, ?_⟩ (fun i σ H' p => by rw [p.1]; exact tT ha) ?_ ?_
  · rw [Nat.sub_zero, List.drop_eq_nil_of_le (Nat.le_refl _)] <;> rfl
  · rintro i x σ H' hi hx ⟨rfl, v, rfl⟩
    obtain ⟨n, hn, rfl⟩ := iv_get hx
    rw [iv_len] at hi hn
    have hj : r.length - 1 - i < r.length := by omega
    have e1 : r.length - i = r.length - 1 - i + 1 := by omega
    have e2 : r.length - (i + 1) = r.length - 1 - i := by omega
    have ev := val_drop b hj
    have en : r[r.length - 1 - i] = n := by
      rw [List.getElem?_eq_getElem hj] at hn
      exact Option.some.inj hn
    rw [en, ← e1] at ev
    refine ⟨_, rfl, _, rfl, _, _, rfl, rfl, hb.mul, _, rfl, _, _, rfl, rfl, rfl, some (.int n), ?_⟩
    rw [e2, ev, Int.add_comm, Int.mul_comm] <;> rfl
  · rintro σ H' ⟨rfl, v, rfl⟩
    refine ⟨_, rfl, ?_⟩
    rw [iv_len, Nat.sub_self, List.drop_zero]
    exact q
/-! ### figure_at -/
theorem sc_figure_at : FnScope ["row", "place"] ["row", "place"] (defScope s_figure_at) := ⟨rfl, rfl, rfl, by decide +kernel, rfl, by decide +kernel, by decide +kernel⟩
def spFig : Sp := fun vs H Q _ => ∃ (a : Addr) (r : List Int) (i : Nat), vs = [.ref a, .int (i : Int)] ∧ H a = some (.tup (iv r)) ∧ Q (.int (r.getD i 0)) H
theorem ok_figure_at (F : Fun K "figure_at" "figure_at" s_figure_at f fd) (ml : mg "len" = none) : FnOk P w K mg base CX0 1 f fd ["row", "place"] spFig := by
  refine F.ok sc_figure_at (fun vs H Q E h => ?_) (fun cdv A outer s H vs Q E hr h => ?_)
  · obtain ⟨a, r, i, rfl, _⟩ := h
    rfl
  obtain ⟨a, r, i, rfl, ha, q⟩ := h
  refine ⟨_, pss_cons (ps_if (pt_cmpR op_lt (pv 1) (pe_callB call_len (by rfl) ml PySem.boot_len (pa_cons (pv 0) pa_nil)) (nomark _)) (pss_one (ps_ret (pe_ix ix_tup (pv 0) (pv 1) (fun _ _ => rfl)))) pss_nil) (pss_one (ps_ret pe_int)), ?_⟩
  refine ⟨_, rfl, _, rfl, _, _, rfl, .inr ⟨_, tT ha, rfl⟩, _, _, rfl, rfl, _, rfl, ?_⟩
  rw [List.getD_eq_getElem?_getD] at q
  by_cases c : i < r.length
  · rw [decide_eq_true (show (i : Int) < (((iv r).length : Nat) : Int) by rw [iv_len]; omega)]
    rw [List.getElem?_eq_getElem c] at q
    refine iteT ⟨_, rfl, _, rfl, a, _, _, _, rfl, rfl, tT ha, at_iv (List.getElem?_eq_getElem c), q⟩
  · rw [decide_eq_false (show ¬ (i : Int) < (((iv r).length : Nat) : Int) by rw [iv_len]; omega)]
    rw [List.getElem?_eq_none (by omega)] at q
    exact iteF q
end
end Bz

set_option maxHeartbeats 4000000
namespace Bz
open PySem PySem.Spec PyProof.Rows L2
section
variable {P : Program} {w : World} {K : PySem.W.Frag} {mg : Str → Option Value} {base : Heap} {f : Addr} {fd : FuncData}
/-! ### plus -/
theorem sc_plus : FnScope ["base", "one", "other", "figures", "carry", "place", "figure"] ["base", "one", "other"] (defScope s_plus) := ⟨rfl, rfl, rfl, by decide +kernel, rfl, by decide +kernel, by decide +kernel⟩
def spPlus : Sp := fun vs H Q _ => ∃ (b : Int) (x y : Addr) (one other : List Int), vs = [.int b, .ref x, .ref y] ∧ Bd b ∧ H x = some (.tup (iv one)) ∧ H y = some (.tup (iv other)) ∧ Fig b one ∧ Fig b other ∧ one.length ≤ 50000 ∧ other.length ≤ 50000 ∧
  ∀ (r : List Int) (a : Addr) (H' : Hp), Same H H' → Row b r → val b r = val b one + val b other → H' a = some (.tup (iv r)) → Q (.ref a) H'
theorem ok_plus {g1 g2 : Addr} {gd1 gd2 : FuncData} (F : Fun K "plus" "plus" s_plus f fd) (G1 : FnOk P w K mg base CX0 1 g1 gd1 ["row", "place"] spFig) (b1 : Binds K gd1 ["row", "place"] []) (k1 : PySem.W.keepIn K (.ref g1) = true) (m1 : mg "figure_at" = some (.ref g1))
    (G2 : FnOk P w K mg base CX0 1 g2 gd2 ["figures"] spBare) (b2 : Binds K gd2 ["figures"] []) (k2 : PySem.W.keepIn K (.ref g2) = true) (m2 : mg "bare_row" = some (.ref g2))
    (ml : mg "len" = none) (mm : mg "max" = none) (mr : mg "range" = none) (md : mg "divmod" = none) : FnOk P w K mg base CX0 2 f fd ["base", "one", "other"] spPlus := by
  refine F.ok sc_plus (fun vs H Q E h => ?_) (fun cdv A outer s H vs Q E hr h => ?_)
  · obtain ⟨b, x, y, one, other, rfl, _⟩ := h
    rfl
  obtain ⟨b, x, y, one, other, rfl, hb, hx, hy, h1, h2, l1, l2, q⟩ := h
  refine ⟨_, pss_cons (ps_set (i := 3) sc_plus.nd rfl (Or.inl rfl) (pe_lst pa_nil))
    (pss_cons (ps_set (i := 4) sc_plus.nd rfl (Or.inl rfl) pe_int)
    (pss_cons (ps_for PassesOwn.never rfl (pi_range1 (by rfl) mr (pa_cons (pe_callB (call_max2 rfl) (by rfl) mm PyProof.Rows.boot_max (pa_cons (pe_callB call_len (by rfl) ml PySem.boot_len (pa_cons (pv 1) pa_nil)) (pa_cons (pe_callB call_len (by rfl) ml PySem.boot_len (pa_cons (pv 2) pa_nil)) pa_nil))) pa_nil)) (pg_name (i := 5) sc_plus.nd rfl (Or.inl rfl))
      (pss_cons (ps_asg (pe_callB call_divmod (by rfl) md PyProof.Rows.boot_divmod (pa_cons
          (pe_op op_add (pe_op op_add (pe_call G1 hr (by rfl) m1 k1 b1 .nil pass0 (pa_cons (pv 1) (pa_cons (pv 5) pa_nil))) (pe_call G1 hr (by rfl) m1 k1 b1 .nil pass0 (pa_cons (pv 2) (pa_cons (pv 5) pa_nil)))) (pv 4)) (pa_cons (pv 0) pa_nil)))
          (pg_tup rfl (pgs_cons (pg_name (i := 4) sc_plus.nd rfl (.inl rfl)) (pgs_cons (pg_name (i := 6) sc_plus.nd rfl (.inl rfl)) pgs_nil))))
      (pss_one (ps_expr (pe_bm PySem.F.plainAttrs_list PySem.F.slot_list_append PySem.F.type_list_append mt_append (pv 3) (pa_cons (pv 6) pa_nil))))))
    (pss_one (ps_ret (pe_call G2 hr (by rfl) m2 k2 b2 .nil pass0 (pa_cons (pe_op op_cat (pv 3) (pe_lst (pa_cons (pv 4) pa_nil))) pa_nil)))))), ?_⟩
  refine ⟨sz (by show 0 ≤ 100000; omega), fun l hl => ?_⟩
  have k0 : Same H (upd H l (.lst [])) := same_new hl _
  refine ⟨_, rfl, _, _, rfl, .inr ⟨_, tT (k0 _ _ hx), rfl⟩, _, rfl, _, _, rfl, .inr ⟨_, tT (k0 _ _ hy), rfl⟩, _, _, rfl, ?_⟩
  rw [iv_len, iv_len]
  obtain ⟨n, hn, hnl⟩ : ∃ n : Nat, (if (other.length : Int) > (one.length : Int) then (other.length : Int) else (one.length : Int)) = (n : Int) ∧ one.length ≤ n ∧ other.length ≤ n ∧ n ≤ 50000 := by
    by_cases c : (other.length : Int) > (one.length : Int)
    · exact ⟨other.length, by rw [if_pos c], by omega, Nat.le_refl _, l2⟩
    · exact ⟨one.length, by rw [if_neg c], Nat.le_refl _, by omega, l1⟩
  rw [hn]
  refine ⟨(n : Int), rfl, by omega, by omega, ?_⟩
  refine for_range (lo := 0) (n := n) (fun i σ H' => ∃ (c : Int) (fs : List Int) (v u : Option V), σ = [some (.int b), some (.ref x), some (.ref y), some (.ref l), some (.int c), v, u] ∧ (0 ≤ c ∧ c ≤ 1) ∧ fs.length = i ∧ Same H H' ∧ H' l = some (.lst (iv fs)) ∧ Fig b fs ∧
      val b fs + b ^ fs.length * c = val b (one.take fs.length) + val b (other.take fs.length)) ⟨0, [], none, none, rfl, ⟨Int.le_refl _, by omega⟩, rfl, k0, upd_same, fig_nil, ?_⟩ ?_ ?_
  · show (0 : Int) + b ^ 0 * 0 = val b (one.take 0) + val b (other.take 0)
    rw [List.take_zero, List.take_zero]
    show (0 : Int) + b ^ 0 * 0 = 0 + 0
    omega
  · rintro i σ H' hi ⟨c, fs, v, u, rfl, hc, rfl, hS, hl', hf, hv⟩
    obtain ⟨t1, t2, t3⟩ := plus_turn hb.two hc hf h1 h2 hv
    have ei : (0 : Int) + (fs.length : Int) = (fs.length : Int) := Int.zero_add _
    refine ⟨_, rfl, _, rfl, x, one, fs.length, by rw [ei] <;> rfl, hS _ _ hx, ?_⟩
    refine ⟨_, rfl, _, rfl, y, other, fs.length, by rw [ei] <;> rfl, hS _ _ hy, ?_⟩
    refine ⟨_, _, rfl, rfl, _, rfl, _, _, rfl, rfl, _, rfl, _, _, rfl, hb.div, fun p hp => ?_⟩
    refine ⟨p, _, rfl, tT upd_same, rfl, _, _, rfl, _, _, rfl, rfl, ?_⟩
    have hne : l ≠ p := ne_of_none hl' hp
    refine ⟨_, rfl, .inl ⟨rfl, _, tL (by rw [upd_ne hne]; exact hl')⟩, _, rfl, l, _, _, rfl, rfl, by rw [upd_ne hne]; exact hl', szl (by rw [iv_len]; omega), ?_⟩
    refine ⟨_, fs ++ [(one.getD fs.length 0 + other.getD fs.length 0 + c) % b], _, _, rfl, t1, by simp, same_mut (hS.trans (same_new hp _)) hl, by rw [upd_same, iv_snoc], t2, ?_⟩
    rw [List.length_append, List.length_singleton]
    exact t3
  · rintro σ H' ⟨c, fs, v, u, rfl, hc, hfl, hS, hl', hf, hv⟩
    rw [hfl, List.take_of_length_le hnl.1, List.take_of_length_le hnl.2.1] at hv
    refine ⟨_, rfl, _, rfl, sz (by show 1 ≤ 100000; omega), fun p hp => ?_⟩
    refine ⟨l, p, _, _, rfl, rfl, by rw [upd_ne (ne_of_none hl' hp)]; exact hl', upd_same, sz (by rw [iv_len, hfl]; show n + 1 ≤ 100000; omega), fun t ht => ?_⟩
    have hfc : Fig b (fs ++ [c]) := fig_append hf (fig_one hc.1 (by have := hb.two; omega))
    refine ⟨t, fs ++ [c], rfl, Or.inl (by rw [upd_same, iv_snoc] <;> rfl), by rw [List.length_append, hfl]; show n + 1 ≤ 60000; omega, fun z H2 s2 hz => ?_⟩
    refine q (bare (fs ++ [c])) z H2 (((hS.trans (same_new hp _)).trans (same_new ht _)).trans s2) (bare_row hfc) ?_ hz
    rw [bare_val, val_append, val_one, hfl]
    exact hv
/-! ### moved: (1,) -/
theorem sc_moved : FnScope ["row", "many"] ["row", "many"] (defScope s_moved) := ⟨rfl, rfl, rfl, by decide +kernel, rfl, by decide +kernel, by decide +kernel⟩
def spMoved : Sp := fun vs H Q _ => ∃ (a : Addr) (n : Nat), vs = [.ref a, .int (n : Int)] ∧ H a = some (.tup (iv [1])) ∧ 1 ≤ n ∧ n ≤ 1000 ∧
  ∀ (p : Addr) (H' : Hp), Same H H' → H' p = some (.tup (iv (List.replicate n 0 ++ [1]))) → Q (.ref p) H'
theorem rep_flat (n : Nat) : (List.replicate n [V.int 0]).flatten = iv (List.replicate n 0) := by
  induction n with
  | zero => rfl
  | succ n ih =>
    rw [List.replicate_succ, List.flatten_cons, ih, List.replicate_succ]
    rfl
theorem ok_moved (F : Fun K "moved" "moved" s_moved f fd) : FnOk P w K mg base CX0 1 f fd ["row", "many"] spMoved := by
  refine F.ok sc_moved (fun vs H Q E h => ?_) (fun cdv A outer s H vs Q E hr h => ?_)
  · obtain ⟨a, n, rfl, _⟩ := h
    rfl
  obtain ⟨a, n, rfl, ha, h1, h2, q⟩ := h
  refine ⟨_, pss_cons (ps_if (pt_cmpR (op_eqD hr.units) (pv 0) (pe_tup pa_nil) (nomark _)) (pss_one (ps_ret (pe_tup pa_nil))) pss_nil)
    (pss_one (ps_ret (pe_op op_catA (pe_op op_repA (pe_tup (pa_cons pe_int pa_nil)) (pv 1)) (pv 0)))), ?_⟩
  refine ⟨_, rfl, sz (by show 0 ≤ 100000; omega), fun t ht => ?_⟩
  have k1 := same_new ht (.tup [])
  refine eqT (s := []) (k1 _ _ ha) upd_same ⟨_, rfl, ?_⟩
  rw [decide_eq_false (by simp)]
  refine iteF ⟨sz (by show 1 ≤ 100000; omega), fun u hu => ?_⟩
  have k2 := k1.trans (same_new hu (.tup [V.int 0]))
  refine ⟨_, rfl, ?_⟩
  have last : ∀ (z : Addr) (H1 : Hp), Same H H1 → H1 z = some (.tup (iv (List.replicate n 0))) → ∃ v, ([some (V.ref a), some (V.int (n : Int))] : L2.St)[0]? = some (some v) ∧ rCatA K (.ref z) v H1 Q := fun z H1 s1 hz => by
    refine ⟨_, rfl, z, a, _, _, rfl, rfl, tT hz, tT (s1 _ _ ha), sz (by rw [iv_len, List.length_replicate]; show n + 1 ≤ 100000; omega), fun e => ?_, fun _ e => by simp at e, fun _ _ p hp => ?_⟩
    · have e2 := congrArg List.length e
      rw [iv_len, List.length_replicate, List.length_nil] at e2
      omega
    · refine q p _ (s1.trans (same_new hp _)) ?_
      rw [upd_same, iv_app]
  by_cases c : n = 1
  · subst c
    refine Or.inr ⟨u, _, rfl, rfl, tT upd_same, ?_⟩
    exact last u _ k2 (by rw [upd_same] <;> rfl)
  · refine Or.inl ⟨u, _, _, rfl, rfl, tT upd_same, by simp, by omega, by omega, by simp, fun z hz => ?_⟩
    refine last z _ (k2.trans (same_new hz _)) ?_
    rw [upd_same, Int.toNat_natCast, rep_flat]
/-! ### cut -/
theorem sc_cut : FnScope ["row", "at"] ["row", "at"] (defScope s_cut) := ⟨rfl, rfl, rfl, by decide +kernel, rfl, by decide +kernel, by decide +kernel⟩
def spCut : Sp := fun vs H Q _ => ∃ (a : Addr) (r : List Int) (n : Nat), vs = [.ref a, .int (n : Int)] ∧ H a = some (.tup (iv r)) ∧ 1 ≤ n ∧ n < r.length ∧ r.length ≤ 50000 ∧
  ∀ (p x y : Addr) (H' : Hp), Same H H' → H' p = some (.tup [.ref x, .ref y]) → H' x = some (.tup (iv (bare (r.take n)))) → H' y = some (.tup (iv (r.drop n))) → Q (.ref p) H'
theorem ok_cut {g : Addr} {gd : FuncData} (F : Fun K "cut" "cut" s_cut f fd) (G : FnOk P w K mg base CX0 1 g gd ["figures"] spBare) (bG : Binds K gd ["figures"] []) (kG : PySem.W.keepIn K (.ref g) = true) (mG : mg "bare_row" = some (.ref g)) : FnOk P w K mg base CX0 2 f fd ["row", "at"] spCut := by
  refine F.ok sc_cut (fun vs H Q E h => ?_) (fun cdv A outer s H vs Q E hr h => ?_)
  · obtain ⟨a, r, n, rfl, _⟩ := h
    rfl
  obtain ⟨a, r, n, rfl, ha, h1, h2, h3, q⟩ := h
  refine ⟨_, pss_one (ps_ret (pe_tup (pa_cons (pe_call G hr (by rfl) mG kG bG .nil pass0 (pa_cons (pe_slice sl_tup (pv 0) po_none (po_some (pv 1))) pa_nil)) (pa_cons (pe_slice sl_tup (pv 0) (po_some (pv 1)) po_none) pa_nil)))), ?_⟩
  have hn : n ≤ (iv r).length := by rw [iv_len]; omega
  refine ⟨_, rfl, _, rfl, _, rfl, a, _, rfl, tT ha, ?_, fun t ht => ?_⟩
  · rw [HT.sIx_nat, iv_len]
    omega
  refine ⟨t, r.take n, rfl, Or.inr (by rw [upd_same, cut_take hn, iv_take]), by rw [List.length_take]; omega, fun x H1 s1 hx => ?_⟩
  have k1 := (same_new ht _).trans s1
  refine ⟨_, rfl, _, rfl, _, rfl, a, _, rfl, tT (k1 _ _ ha), ?_, fun y hy => ?_⟩
  · rw [HT.sIx_nat, iv_len]
    omega
  refine ⟨sz (by show 2 ≤ 100000; omega), fun p hp => ?_⟩
  have k2 := same_new hy (.tup (cutV (iv r) (some (n : Int)) none))
  have k3 := same_new hp (.tup [.ref x, .ref y])
  refine q p x y _ ((k1.trans k2).trans k3) upd_same ((k2.trans k3) _ _ hx) (k3 _ _ ?_)
  rw [upd_same, cut_drop hn, iv_drop]
end
end Bz

set_option maxHeartbeats 4000000
namespace Bz
open PySem PySem.Spec PyProof.Rows L2
/-! ### a tree as it stands -/
def TrAt (H : Hp) : Addr → Tr → Prop
  | a, .leaf r => ∃ p e, H a = some (.tup [.ref p, .ref e]) ∧ H p = some (.tup (iv r)) ∧ H e = some (.tup [])
  | a, .node r l h => ∃ p q x y, H a = some (.tup [.ref p, .ref q]) ∧ H p = some (.tup (iv r)) ∧ H q = some (.tup [.ref x, .ref y]) ∧ TrAt H x l ∧ TrAt H y h
theorem TrAt.mono {H H' : Hp} (s : Same H H') : ∀ {t : Tr} {a : Addr}, TrAt H a t → TrAt H' a t
  | .leaf r, a, h => by
    obtain ⟨p, e, h1, h2, h3⟩ := h
    exact ⟨p, e, s _ _ h1, s _ _ h2, s _ _ h3⟩
  | .node r l h, a, z => by
    obtain ⟨p, q, x, y, h1, h2, h3, h4, h5⟩ := z
    exact ⟨p, q, x, y, s _ _ h1, s _ _ h2, s _ _ h3, TrAt.mono s h4, TrAt.mono s h5⟩
def Tr.kids : Tr → Int
  | .leaf _ => 0
  | .node _ _ _ => 2
theorem TrAt.top {H : Hp} {t : Tr} {a : Addr} (h : TrAt H a t) : ∃ p q bs, H a = some (.tup [.ref p, .ref q]) ∧ H p = some (.tup (iv t.top)) ∧ H q = some (.tup bs) ∧ (bs.length : Int) = t.kids := by
  cases t with
  | leaf r =>
    obtain ⟨p, e, h1, h2, h3⟩ := h
    exact ⟨p, e, _, h1, h2, h3, rfl⟩
  | node r l k =>
    obtain ⟨p, q, x, y, h1, h2, h3, _⟩ := h
    exact ⟨p, q, _, h1, h2, h3, rfl⟩
theorem bits_of {b : Int} (hb : Bd b) {r : List Int} (hf : Fig b r) (hl : r.length ≤ 2000) : ∃ k : Nat, val b r < 2 ^ k ∧ k ≤ 50000 :=
  ⟨20 * 2000, val_bits hb.pos hb.bits hf hl, by decide⟩
theorem pow_bits {b : Int} (hb : Bd b) {n : Nat} (hn : n ≤ 1000) : ∃ k : Nat, (b ^ n).natAbs < 2 ^ k ∧ 0 < k ∧ k ≤ 50000 := by
  have h1 := val_bits (n := 1001) hb.pos hb.bits (r := List.replicate n 0 ++ [1]) (fig_append (fun x hx => by rw [List.eq_of_mem_replicate hx]; exact ⟨Int.le_refl _, hb.pos⟩) (fig_one (by decide) (by have := hb.two; omega))) (by rw [List.length_append, List.length_replicate]; show n + 1 ≤ 1001; omega)
  rw [val_move] at h1
  have h0 := pow_pos hb.pos n
  refine ⟨20 * 1001, ?_, by decide, by decide⟩
  rw [two_pow_cast] at h1
  generalize 2 ^ (20 * 1001) = N at h1
  omega
theorem nat_bits {v : Int} {k : Nat} (h0 : 0 ≤ v) (h : v < 2 ^ k) : v.natAbs < 2 ^ k := by
  rw [two_pow_cast] at h
  generalize 2 ^ k = N at h
  omega
section
variable {P : Program} {w : World} {K : PySem.W.Frag} {mg : Str → Option Value} {base : Heap} {f : Addr} {fd : FuncData}
/-! ### led -/
theorem sc_led : FnScope ["base", "goal", "row"] ["base", "goal", "row"] (defScope s_led) := ⟨rfl, rfl, rfl, by decide +kernel, rfl, by decide +kernel, by decide +kernel⟩
def spLed : Sp := fun vs H Q _ => ∃ (b g : Int) (a : Addr) (r : List Int), vs = [.int b, .int g, .ref a] ∧ Bd b ∧ Bd g ∧ H a = some (.tup (iv r)) ∧ Fig b r ∧ r.length ≤ 2000 ∧
  ∀ (t : List Int) (p : Addr) (H' : Hp), Same H H' → Row g t → val g t = val b r → H' p = some (.tup (iv t)) → Q (.ref p) H'
theorem ok_led {g1 g2 : Addr} {gd1 gd2 : FuncData} (F : Fun K "led" "led" s_led f fd) (G1 : FnOk P w K mg base CX0 1 g1 gd1 ["base", "number"] spRowOf) (b1 : Binds K gd1 ["base", "number"] []) (k1 : PySem.W.keepIn K (.ref g1) = true) (m1 : mg "row_of" = some (.ref g1))
    (G2 : FnOk P w K mg base CX0 1 g2 gd2 ["base", "row"] spNum) (b2 : Binds K gd2 ["base", "row"] []) (k2 : PySem.W.keepIn K (.ref g2) = true) (m2 : mg "number_of" = some (.ref g2)) : FnOk P w K mg base CX0 2 f fd ["base", "goal", "row"] spLed := by
  refine F.ok sc_led (fun vs H Q E h => ?_) (fun cdv A outer s H vs Q E hr h => ?_)
  · obtain ⟨b, g, a, r, rfl, _⟩ := h
    rfl
  obtain ⟨b, g, a, r, rfl, hb, hg, ha, hf, hl, q⟩ := h
  refine ⟨_, pss_one (ps_ret (pe_call G1 hr (by rfl) m1 k1 b1 .nil pass0 (pa_cons (pv 1) (pa_cons (pe_call G2 hr (by rfl) m2 k2 b2 .nil pass0 (pa_cons (pv 0) (pa_cons (pv 2) pa_nil))) pa_nil)))), ?_⟩
  obtain ⟨k, hk, hk2⟩ := bits_of hb hf hl
  exact ⟨_, rfl, _, rfl, _, rfl, b, a, r, rfl, hb, ha, g, val b r, k, rfl, hg, val_nonneg hb.nn hf, hk, hk2, fun t p H' s1 h1 h2 h3 => q t p H' s1 h1 h2 h3⟩
/-! ### half_of -/
theorem sc_half_of : FnScope ["row"] ["row"] (defScope s_half_of) := ⟨rfl, rfl, rfl, by decide +kernel, rfl, by decide +kernel, by decide +kernel⟩
def spHalf : Sp := fun vs H Q _ => ∃ (a : Addr) (r : List Int), vs = [.ref a] ∧ H a = some (.tup (iv r)) ∧ Q (.int (half r : Nat)) H
theorem half_int (r : List Int) : ((r.length : Int) + 1) / 2 = (half r : Nat) := by
  unfold half
  omega
theorem ok_half_of (F : Fun K "half_of" "half_of" s_half_of f fd) (ml : mg "len" = none) : FnOk P w K mg base CX0 1 f fd ["row"] spHalf := by
  refine F.ok sc_half_of (fun vs H Q E h => ?_) (fun cdv A outer s H vs Q E hr h => ?_)
  · obtain ⟨a, r, rfl, _⟩ := h
    rfl
  obtain ⟨a, r, rfl, ha, q⟩ := h
  refine ⟨_, pss_one (ps_ret (pe_op op_fdiv (pe_op op_add (pe_callB call_len (by rfl) ml PySem.boot_len (pa_cons (pv 0) pa_nil)) pe_int) pe_int)), ?_⟩
  refine ⟨_, rfl, _, _, rfl, .inr ⟨_, tT ha, (iv_len r).symm⟩, _, _, rfl, rfl, _, _, rfl, rfl, ⟨by decide, by decide⟩, ?_⟩
  show Q (.int (((r.length : Int) + 1) / 2)) H
  rw [half_int]
  exact q
/-! ### lifted -/
theorem sc_lifted : FnScope ["base", "goal", "row", "at"] ["base", "goal", "row", "at"] (defScope s_lifted) := ⟨rfl, rfl, rfl, by decide +kernel, rfl, by decide +kernel, by decide +kernel⟩
def spLifted : Sp := fun vs H Q _ => ∃ (b g : Int) (a : Addr) (r : List Int) (n k : Nat), vs = [.int b, .int g, .ref a, .int (n : Int)] ∧ Bd b ∧ Bd g ∧ H a = some (.tup (iv r)) ∧ Fig g r ∧ 1 ≤ n ∧ n ≤ 1000 ∧ val g r * b ^ n < 2 ^ k ∧ k ≤ 50000 ∧
  ∀ (t : List Int) (p : Addr) (H' : Hp), Same H H' → Row g t → val g t = val g r * b ^ n → H' p = some (.tup (iv t)) → Q (.ref p) H'
theorem ok_lifted {g1 g2 g3 : Addr} {gd1 gd2 gd3 : FuncData} (F : Fun K "lifted" "lifted" s_lifted f fd) (G1 : FnOk P w K mg base CX0 1 g1 gd1 ["base", "number"] spRowOf) (b1 : Binds K gd1 ["base", "number"] []) (k1 : PySem.W.keepIn K (.ref g1) = true) (m1 : mg "row_of" = some (.ref g1))
    (G2 : FnOk P w K mg base CX0 1 g2 gd2 ["base", "row"] spNum) (b2 : Binds K gd2 ["base", "row"] []) (k2 : PySem.W.keepIn K (.ref g2) = true) (m2 : mg "number_of" = some (.ref g2))
    (G3 : FnOk P w K mg base CX0 1 g3 gd3 ["row", "many"] spMoved) (b3 : Binds K gd3 ["row", "many"] []) (k3 : PySem.W.keepIn K (.ref g3) = true) (m3 : mg "moved" = some (.ref g3)) : FnOk P w K mg base CX0 2 f fd ["base", "goal", "row", "at"] spLifted := by
  refine F.ok sc_lifted (fun vs H Q E h => ?_) (fun cdv A outer s H vs Q E hr h => ?_)
  · obtain ⟨b, g, a, r, n, k, rfl, _⟩ := h
    rfl
  obtain ⟨b, g, a, r, n, k, rfl, hb, hg, ha, hf, hn1, hn2, hk, hk2, q⟩ := h
  refine ⟨_, pss_one (ps_ret (pe_call G1 hr (by rfl) m1 k1 b1 .nil pass0 (pa_cons (pv 1) (pa_cons (pe_op op_mulW (pe_call G2 hr (by rfl) m2 k2 b2 .nil pass0 (pa_cons (pv 1) (pa_cons (pv 2) pa_nil)))
    (pe_call G2 hr (by rfl) m2 k2 b2 .nil pass0 (pa_cons (pv 0) (pa_cons (pe_call G3 hr (by rfl) m3 k3 b3 .nil pass0 (pa_cons (pe_tup (pa_cons pe_int pa_nil)) (pa_cons (pv 3) pa_nil))) pa_nil)))) pa_nil)))), ?_⟩
  refine ⟨_, rfl, _, rfl, _, rfl, g, a, r, rfl, hg, ha, _, rfl, sz (by show 1 ≤ 100000; omega), fun u hu => ?_⟩
  refine ⟨_, rfl, u, n, rfl, upd_same, hn1, hn2, fun z H1 s1 hz => ?_⟩
  refine ⟨b, z, _, rfl, hb, hz, val g r, val b (List.replicate n 0 ++ [1]), rfl, rfl, ?_, g, val g r * val b (List.replicate n 0 ++ [1]), k, rfl, hg, ?_, ?_, hk2, fun t p H' s2 h1 h2 h3 => q t p H' (((same_new hu _).trans s1).trans s2) h1 (by rw [h2, val_move]) h3⟩
  · rw [val_move]
    obtain ⟨k2, e1, e2, e3⟩ := pow_bits hb hn2
    have v0 := val_nonneg hg.nn hf
    have p0 := pow_pos hb.pos n
    have le : val g r * 1 ≤ val g r * b ^ n := Int.mul_le_mul_of_nonneg_left (by omega) v0
    have hv : (val g r).natAbs < 2 ^ (k + 1) := nat_bits v0 (by
      rw [Int.pow_succ]
      have := pow_pos (show (0 : Int) < 2 by decide) k
      omega)
    exact wide_mul hv e1 (Nat.succ_pos _) e2 (by omega)
  · rw [val_move]
    exact Int.mul_nonneg (val_nonneg hg.nn hf) (Int.le_of_lt (pow_pos hb.pos n))
  · rw [val_move]
    exact hk
end
end Bz

set_option maxHeartbeats 4000000
namespace Bz
open PySem PySem.Spec PyProof.Rows L2
/-- what the halves' defs lean on -/
structure Kit (P : Program) (w : World) (K : PySem.W.Frag) (mg : Str → Option Value) (base : Heap) (gLed gHalf gCut gPlus gLift : Addr) (dLed dHalf dCut dPlus dLift : FuncData) : Prop where
  led : FnOk P w K mg base CX0 2 gLed dLed ["base", "goal", "row"] spLed
  bLed : Binds K dLed ["base", "goal", "row"] []
  kLed : PySem.W.keepIn K (.ref gLed) = true
  mLed : mg "led" = some (.ref gLed)
  half : FnOk P w K mg base CX0 1 gHalf dHalf ["row"] spHalf
  bHalf : Binds K dHalf ["row"] []
  kHalf : PySem.W.keepIn K (.ref gHalf) = true
  mHalf : mg "half_of" = some (.ref gHalf)
  cut : FnOk P w K mg base CX0 2 gCut dCut ["row", "at"] spCut
  bCut : Binds K dCut ["row", "at"] []
  kCut : PySem.W.keepIn K (.ref gCut) = true
  mCut : mg "cut" = some (.ref gCut)
  plus : FnOk P w K mg base CX0 2 gPlus dPlus ["base", "one", "other"] spPlus
  bPlus : Binds K dPlus ["base", "one", "other"] []
  kPlus : PySem.W.keepIn K (.ref gPlus) = true
  mPlus : mg "plus" = some (.ref gPlus)
  lift : FnOk P w K mg base CX0 2 gLift dLift ["base", "goal", "row", "at"] spLifted
  bLift : Binds K dLift ["base", "goal", "row", "at"] []
  kLift : PySem.W.keepIn K (.ref gLift) = true
  mLift : mg "lifted" = some (.ref gLift)
  len : mg "len" = none
/-- the halves of a row that is no more than 2 ^ (n + 1) long -/
theorem halves_fit {r : List Int} {n : Nat} (h2 : 2 ≤ r.length) (h : r.length ≤ 2 ^ (n + 1)) (hl : r.length ≤ 2000) : 1 ≤ half r ∧ half r < r.length ∧ half r ≤ 1000 ∧ (lowOf r).length ≤ 2 ^ n ∧ (highOf r).length ≤ 2 ^ n ∧ (lowOf r).length ≤ 2000 ∧ (highOf r).length ≤ 2000 := by
  have a := low_len r
  have b := high_len r
  have e : 2 ^ (n + 1) = 2 * 2 ^ n := by rw [Nat.pow_succ, Nat.mul_comm]
  rw [e] at h
  generalize 2 ^ n = N at h ⊢
  have c : half r = (r.length + 1) / 2 := rfl
  rw [b]
  refine ⟨by omega, by omega, by omega, by omega, by omega, by omega, by omega⟩
theorem high_le {b : Int} (hb : 0 < b) {r : List Int} (hf : Fig b r) (h : half r ≤ r.length) : 0 ≤ val b (highOf r) ∧ val b (highOf r) * b ^ half r ≤ val b r ∧ val b (lowOf r) ≤ val b r := by
  have e := half_val b r h
  have l0 := val_nonneg (Int.le_of_lt hb) (low_row hf).1
  have k0 := val_nonneg (Int.le_of_lt hb) (fig_drop (half r) hf)
  have k1 : 0 ≤ val b (highOf r) * b ^ half r := Int.mul_nonneg k0 (Int.le_of_lt (pow_pos hb _))
  exact ⟨k0, by omega, by omega⟩
section
variable {P : Program} {w : World} {K : PySem.W.Frag} {mg : Str → Option Value} {base : Heap} {f : Addr} {fd : FuncData}
/-! ### halves -/
theorem sc_halves : FnScope ["base", "goal", "row", "at", "low", "high", "below"] ["base", "goal", "row"] (defScope s_halves) := ⟨rfl, rfl, rfl, by decide +kernel, rfl, by decide +kernel, by decide +kernel⟩
def spHalves (n : Nat) : Sp := fun vs H Q _ => ∃ (b g : Int) (a : Addr) (r : List Int), vs = [.int b, .int g, .ref a] ∧ Bd b ∧ Bd g ∧ H a = some (.tup (iv r)) ∧ Row b r ∧ r.length ≤ 2 ^ n ∧ r.length ≤ 2000 ∧
  ∀ (t : Tr) (p : Addr) (H' : Hp), Same H H' → TreeOf b g r t → TrAt H' p t → Q (.ref p) H'
theorem ok_halves {gLed gHalf gCut gPlus gLift : Addr} {dLed dHalf dCut dPlus dLift : FuncData} (F : Fun K "halves" "halves" s_halves f fd) (bF : Binds K fd ["base", "goal", "row"] []) (mF : mg "halves" = some (.ref f)) (T : Kit P w K mg base gLed gHalf gCut gPlus gLift dLed dHalf dCut dPlus dLift) :
    ∀ n : Nat, FnOk P w K mg base CX0 (n + 3) f fd ["base", "goal", "row"] (spHalves n)
  | 0 => by
    refine F.ok sc_halves (fun vs H Q E h => ?_) (fun cdv A outer s H vs Q E hr h => ?_)
    · obtain ⟨b, g, a, r, rfl, _⟩ := h
      rfl
    obtain ⟨b, g, a, r, rfl, hb, hg, ha, hR, hl, hl2, q⟩ := h
    refine ⟨_, pss_cons (ps_if (pt_cmpR op_lt (pe_callB call_len (by rfl) T.len PySem.boot_len (pa_cons (pv 2) pa_nil)) pe_int (nomark _))
      (pss_one (ps_ret (pe_tup (pa_cons (pe_call T.led hr (by rfl) T.mLed T.kLed T.bLed .nil pass0 (pa_cons (pv 0) (pa_cons (pv 1) (pa_cons (pv 2) pa_nil)))) (pa_cons (pe_tup pa_nil) pa_nil))))) pss_nil) pss_never, ?_⟩
    refine ⟨_, rfl, _, _, rfl, .inr ⟨_, tT ha, (iv_len r).symm⟩, _, _, rfl, rfl, _, rfl, ?_⟩
    have hl1 : r.length ≤ 1 := hl
    rw [decide_eq_true (show (r.length : Int) < 2 by omega)]
    refine iteT ⟨_, rfl, _, rfl, _, rfl, b, g, a, r, rfl, hb, hg, ha, hR.1, hl2, fun t x H1 s1 h1 h2 hx => ?_⟩
    refine ⟨sz (by show 0 ≤ 100000; omega), fun e he => ?_⟩
    refine ⟨sz (by show 2 ≤ 100000; omega), fun p hp => ?_⟩
    have k1 := same_new he (.tup [])
    have k2 := same_new hp (.tup [.ref x, .ref e])
    exact q (.leaf t) p _ ((s1.trans k1).trans k2) (.leaf (by omega) h1 h2) ⟨x, e, upd_same, k2 _ _ (k1 _ _ hx), k2 _ _ upd_same⟩
  | n + 1 => by
    have ih := ok_halves F bF mF T n
    refine F.ok sc_halves (fun vs H Q E h => ?_) (fun cdv A outer s H vs Q E hr h => ?_)
    · obtain ⟨b, g, a, r, rfl, _⟩ := h
      rfl
    obtain ⟨b, g, a, r, rfl, hb, hg, ha, hR, hl, hl2, q⟩ := h
    have hr2 : Room 2 _ := hr.mono (by omega : 2 ≤ n + 3)
    have hr1 : Room 1 _ := hr.mono (by omega : 1 ≤ n + 3)
    refine ⟨_, pss_cons (ps_if (pt_cmpR op_lt (pe_callB call_len (by rfl) T.len PySem.boot_len (pa_cons (pv 2) pa_nil)) pe_int (nomark _))
      (pss_one (ps_ret (pe_tup (pa_cons (pe_call T.led hr2 (by rfl) T.mLed T.kLed T.bLed .nil pass0 (pa_cons (pv 0) (pa_cons (pv 1) (pa_cons (pv 2) pa_nil)))) (pa_cons (pe_tup pa_nil) pa_nil))))) pss_nil)
      (pss_cons (ps_set (i := 3) sc_halves.nd rfl (Or.inl rfl) (pe_call T.half hr1 (by rfl) T.mHalf T.kHalf T.bHalf .nil pass0 (pa_cons (pv 2) pa_nil)))
      (pss_cons (ps_asg (pe_call T.cut hr2 (by rfl) T.mCut T.kCut T.bCut .nil pass0 (pa_cons (pv 2) (pa_cons (pv 3) pa_nil))) (pg_tup rfl (pgs_cons (pg_name (i := 4) sc_halves.nd rfl (.inl rfl)) (pgs_cons (pg_name (i := 5) sc_halves.nd rfl (.inl rfl)) pgs_nil))))
      (pss_cons (ps_set (i := 6) sc_halves.nd rfl (Or.inl rfl) (pe_tup (pa_cons (pe_call ih hr (by rfl) mF F.kp bF .nil pass0 (pa_cons (pv 0) (pa_cons (pv 1) (pa_cons (pv 4) pa_nil)))) (pa_cons (pe_call ih hr (by rfl) mF F.kp bF .nil pass0 (pa_cons (pv 0) (pa_cons (pv 1) (pa_cons (pv 5) pa_nil)))) pa_nil))))
      (pss_one (ps_ret (pe_tup (pa_cons
        (pe_call T.plus hr2 (by rfl) T.mPlus T.kPlus T.bPlus .nil pass0 (pa_cons (pv 1) (pa_cons (pe_ix ix_tup (pe_ix ix_tup (pv 6) pe_int (fun _ _ => rfl)) pe_int (fun _ _ => rfl))
          (pa_cons (pe_call T.lift hr2 (by rfl) T.mLift T.kLift T.bLift .nil pass0 (pa_cons (pv 0) (pa_cons (pv 1) (pa_cons (pe_ix ix_tup (pe_ix ix_tup (pv 6) pe_int (fun _ _ => rfl)) pe_int (fun _ _ => rfl)) (pa_cons (pv 3) pa_nil))))) pa_nil))))
        (pa_cons (pv 6) pa_nil)))))))), ?_⟩
    refine ⟨_, rfl, _, _, rfl, .inr ⟨_, tT ha, (iv_len r).symm⟩, _, _, rfl, rfl, _, rfl, ?_⟩
    by_cases c : r.length < 2
    · rw [decide_eq_true (show (r.length : Int) < 2 by omega)]
      refine iteT ⟨_, rfl, _, rfl, _, rfl, b, g, a, r, rfl, hb, hg, ha, hR.1, hl2, fun t x H1 s1 h1 h2 hx => ?_⟩
      refine ⟨sz (by show 0 ≤ 100000; omega), fun e he => ?_⟩
      refine ⟨sz (by show 2 ≤ 100000; omega), fun p hp => ?_⟩
      have k1 := same_new he (.tup [])
      have k2 := same_new hp (.tup [.ref x, .ref e])
      exact q (.leaf t) p _ ((s1.trans k1).trans k2) (.leaf c h1 h2) ⟨x, e, upd_same, k2 _ _ (k1 _ _ hx), k2 _ _ upd_same⟩
    rw [decide_eq_false (show ¬ (r.length : Int) < 2 by omega)]
    have h2 : 2 ≤ r.length := by omega
    obtain ⟨f1, f2, f3, f4, f5, f6, f7⟩ := halves_fit h2 hl hl2
    refine iteF ?_
    refine ⟨_, rfl, a, r, rfl, ha, ?_⟩
    refine ⟨_, rfl, _, rfl, a, r, half r, rfl, ha, f1, f2, Nat.le_trans hl2 (by omega), fun p x y H1 s1 hp hx hy => ?_⟩
    refine ⟨p, _, rfl, tT hp, rfl, _, _, rfl, _, _, rfl, rfl, ?_⟩
    refine ⟨_, rfl, _, rfl, _, rfl, b, g, x, lowOf r, rfl, hb, hg, hx, low_row hR.1, f4, f6, fun t1 z1 H2 s2 o1 a1 => ?_⟩
    refine ⟨_, rfl, _, rfl, _, rfl, b, g, y, highOf r, rfl, hb, hg, s2 _ _ hy, high_row hR, f5, f7, fun t2 z2 H3 s3 o2 a2 => ?_⟩
    refine ⟨sz (by show 2 ≤ 100000; omega), fun bl hbl => ?_⟩
    have kb := same_new hbl (.tup [.ref z1, .ref z2])
    obtain ⟨p1, q1, bs1, e1, e2, _, _⟩ := (a1.mono (s3.trans kb)).top
    obtain ⟨p2, q2, bs2, e3, e4, _, _⟩ := (a2.mono kb).top
    obtain ⟨v1, v2⟩ := o1.top
    obtain ⟨v3, v4⟩ := o2.top
    obtain ⟨k, hk, hk2⟩ := bits_of hb hR.1 hl2
    obtain ⟨n0, n1, n2⟩ := high_le hb.pos hR.1 (Nat.le_of_lt f2)
    have hv := half_val b r (Nat.le_of_lt f2)
    refine ⟨_, rfl, _, rfl, bl, _, 0, _, rfl, rfl, tT upd_same, at0, z1, _, 0, _, rfl, rfl, tT e1, at0, ?_⟩
    refine ⟨_, rfl, _, rfl, _, rfl, bl, _, 1, _, rfl, rfl, tT upd_same, at1, z2, _, 0, _, rfl, rfl, tT e3, at0, _, rfl, ?_⟩
    refine ⟨b, g, p2, t2.top, half r, k, rfl, hb, hg, e4, v3.1, f1, f3, by rw [v4]; omega, hk2, fun t p4 H4 s4 l1 l2 hp4 => ?_⟩
    rw [v4] at l2
    refine ⟨g, p1, p4, t1.top, t, rfl, hg, s4 _ _ e2, hp4, v1.1, l1.1, Nat.le_trans (row_len hg.two v1 (k := k) (by omega)) hk2, Nat.le_trans (row_len hg.two l1 (k := k) (by omega)) hk2, fun rr z H5 s5 r1 r2 hz => ?_⟩
    refine ⟨_, rfl, sz (by show 2 ≤ 100000; omega), fun pp hpp => ?_⟩
    have kp := same_new hpp (.tup [.ref z, .ref bl])
    have kt := (s4.trans s5).trans kp
    refine q (.node rr t1 t2) pp _ (((((s1.trans s2).trans s3).trans kb).trans kt)) (.node h2 r1 (by rw [r2, l2, v2]; omega) o1 o2) ⟨z, bl, z1, z2, upd_same, kp _ _ hz, kt _ _ upd_same, a1.mono ((s3.trans kb).trans kt), a2.mono (kb.trans kt)⟩
end
end Bz

set_option maxHeartbeats 4000000
namespace Bz
open PySem PySem.Spec PyProof.Rows L2
theorem treeOf_leaf {b g : Int} {r t : List Int} : TreeOf b g r (.leaf t) ↔ r.length < 2 ∧ Row g t ∧ val g t = val b r :=
  ⟨fun h => by cases h with | leaf a b c => exact ⟨a, b, c⟩, fun h => .leaf h.1 h.2.1 h.2.2⟩
theorem treeOf_node {b g : Int} {r t : List Int} {x y : Tr} : TreeOf b g r (.node t x y) ↔ 2 ≤ r.length ∧ Row g t ∧ val g t = val b r ∧ TreeOf b g (lowOf r) x ∧ TreeOf b g (highOf r) y :=
  ⟨fun h => by cases h with | node a b c d e => exact ⟨a, b, c, d, e⟩, fun h => .node h.1 h.2.1 h.2.2.1 h.2.2.2.1 h.2.2.2.2⟩
section
variable {P : Program} {w : World} {K : PySem.W.Frag} {mg : Str → Option Value} {base : Heap} {f : Addr} {fd : FuncData}
/-! ### is_node -/
theorem sc_is_node : FnScope ["goal", "thing", "many"] ["goal", "thing", "many"] (defScope s_is_node) := ⟨rfl, rfl, rfl, by decide +kernel, rfl, by decide +kernel, by decide +kernel⟩
def spNode : Sp := fun vs H Q _ => ∃ (g many : Int) (a : Addr) (t : Tr), vs = [.int g, .ref a, .int many] ∧ TrAt H a t ∧ Row g t.top ∧ t.top.length ≤ 50000 ∧ ∀ H', Same H H' → Q (.bl (decide (t.kids = many))) H'
theorem ok_is_node {g : Addr} {gd : FuncData} (F : Fun K "is_node" "is_node" s_is_node f fd) (G : FnOk P w K mg base CX0 2 g gd ["base", "thing"] spIsRow) (bG : Binds K gd ["base", "thing"] []) (kG : PySem.W.keepIn K (.ref g) = true) (mG : mg "is_row" = some (.ref g))
    (mi : mg "isinstance" = none) (mt : mg "tuple" = none) (ml : mg "len" = none) : FnOk P w K mg base CX0 3 f fd ["goal", "thing", "many"] spNode := by
  refine F.ok sc_is_node (fun vs H Q E h => ?_) (fun cdv A outer s H vs Q E hr h => ?_)
  · obtain ⟨g, many, a, t, rfl, _⟩ := h
    rfl
  obtain ⟨gl, many, a, t, rfl, ha, hR, hl, q⟩ := h
  obtain ⟨p, z, bs, e1, e2, e3, e4⟩ := ha.top
  refine ⟨_, pss_cons (ps_if (PW.pt (pw_or (pt_not (pt_val (pe_callB call_isi (by rfl) mi PyProof.Rows.boot_isinstance (pa_cons (pv 1) (pa_cons (pe_bltn (v := .ty "tuple") (by rfl) mt PyProof.Rows.boot_tuple rfl) pa_nil)))))
      (pw_or (pt_cmpR op_ne (pe_callB call_len (by rfl) ml PySem.boot_len (pa_cons (pv 1) pa_nil)) pe_int (nomark _))
      (pw_or1 (pt_not (pt_val (pe_call G hr (by rfl) mG kG bG .nil pass0 (pa_cons (pv 0) (pa_cons (pe_ix ix_tup (pv 1) pe_int (fun _ _ => rfl)) pa_nil))))))))) (pss_one (ps_ret pe_bl)) pss_nil)
    (pss_one (ps_ret (pe_and (pe_callB call_isi (by rfl) mi PyProof.Rows.boot_isinstance (pa_cons (pe_ix ix_tup (pv 1) pe_int (fun _ _ => rfl)) (pa_cons (pe_bltn (v := .ty "tuple") (by rfl) mt PyProof.Rows.boot_tuple rfl) pa_nil)))
      (pe_one (pe_cmpR op_eq (pe_callB call_len (by rfl) ml PySem.boot_len (pa_cons (pe_ix ix_tup (pv 1) pe_int (fun _ _ => rfl)) pa_nil)) (pv 2) (nomark _)))))), ?_⟩
  refine ⟨_, rfl, _, _, _, _, _, rfl, .ty _, .base (.tup e1), kit_ty (by decide +kernel), true, rfl, iteF ?_⟩
  refine ⟨_, rfl, _, _, rfl, .inr ⟨_, tT e1, rfl⟩, rfl, _, rfl, iteF ?_⟩
  refine ⟨_, rfl, _, rfl, a, _, 0, _, rfl, rfl, tT e1, at0, gl, p, t.top, rfl, e2, hR, hl, fun H1 s1 => ⟨true, rfl, iteF ?_⟩⟩
  refine ⟨_, rfl, a, _, 1, _, rfl, rfl, tT (s1 _ _ e1), at1, _, _, _, _, _, rfl, .ty _, .base (.tup (s1 _ _ e3)), kit_ty (by decide +kernel), true, rfl, iteT ?_⟩
  refine ⟨_, rfl, a, _, 1, _, rfl, rfl, tT (s1 _ _ e1), at1, _, _, rfl, .inr ⟨_, tT (s1 _ _ e3), rfl⟩, _, rfl, rfl, ?_⟩
  have e : decide (V.int (bs.length : Int) = V.int many) = decide (t.kids = many) := by
    rw [e4]
    exact decide_eq_decide.mpr ⟨fun z => V.int.inj z, fun z => by rw [z]⟩
  rw [e]
  exact q H1 s1
/-! ### shows_halves -/
theorem sc_shows : FnScope ["base", "goal", "row", "thing", "at", "part", "below", "low", "high"] ["base", "goal", "row", "thing"] (defScope s_shows_halves) := ⟨rfl, rfl, rfl, by decide +kernel, rfl, by decide +kernel, by decide +kernel⟩
def spShows (n : Nat) : Sp := fun vs H Q _ => ∃ (b g : Int) (a p : Addr) (r : List Int) (t : Tr) (m : Nat), vs = [.int b, .int g, .ref a, .ref p] ∧ Bd b ∧ Bd g ∧ H a = some (.tup (iv r)) ∧ Row b r ∧ r.length ≤ 2 ^ n ∧ r.length ≤ 2000 ∧ TrAt H p t ∧ t.Rows g m ∧ m ≤ 50000 ∧
  ∀ (c : Bool) (H' : Hp), (c = true ↔ TreeOf b g r t) → Same H H' → Q (.bl c) H'
theorem noIff {p : Prop} (h : ¬ p) : (false = true ↔ p) := ⟨fun z => Bool.noConfusion z, fun z => (h z).elim⟩
/-- the leaf's answer -/
theorem leaf_answer {b g : Int} {r t0 lr : List Int} (hg : Bd g) (c : r.length < 2) (h0 : Row g t0) (h1 : Row g lr) (h2 : val g lr = val b r) : (decide (t0 = lr) = true ↔ TreeOf b g r (.leaf t0)) := by
  rw [treeOf_leaf, decide_eq_true_iff]
  refine ⟨fun e => ?_, fun e => row_uniq hg.pos h0 h1 (e.2.2.trans h2.symm)⟩
  subst e
  exact ⟨c, h0, h2⟩
theorem ok_shows {gLed gHalf gCut gPlus gLift gN : Addr} {dLed dHalf dCut dPlus dLift dN : FuncData} (F : Fun K "shows_halves" "shows_halves" s_shows_halves f fd) (bF : Binds K fd ["base", "goal", "row", "thing"] []) (mF : mg "shows_halves" = some (.ref f)) (T : Kit P w K mg base gLed gHalf gCut gPlus gLift dLed dHalf dCut dPlus dLift)
    (G : FnOk P w K mg base CX0 3 gN dN ["goal", "thing", "many"] spNode) (bG : Binds K dN ["goal", "thing", "many"] []) (kG : PySem.W.keepIn K (.ref gN) = true) (mG : mg "is_node" = some (.ref gN)) (mz : mg "zip" = none) :
    ∀ n : Nat, FnOk P w K mg base CX0 (n + 4) f fd ["base", "goal", "row", "thing"] (spShows n)
  | 0 => by
    refine F.ok sc_shows (fun vs H Q E h => ?_) (fun cdv A outer s H vs Q E hr h => ?_)
    · obtain ⟨b, g, a, p, r, t, m, rfl, _⟩ := h
      rfl
    obtain ⟨b, g, a, p, r, t, m, rfl, hb, hg, ha, hR, hl, hl2, hT, hTR, hm, q⟩ := h
    have hr2 : Room 2 _ := hr.mono (by omega : 2 ≤ 3)
    refine ⟨_, pss_cons (ps_if (pt_cmpR op_lt (pe_callB call_len (by rfl) T.len PySem.boot_len (pa_cons (pv 2) pa_nil)) pe_int (nomark _))
      (pss_one (ps_ret (pe_and (pe_call G hr (by rfl) mG kG bG .nil pass0 (pa_cons (pv 1) (pa_cons (pv 3) (pa_cons pe_int pa_nil))))
        (pe_one (pe_cmpR (op_eqD hr.units) (pe_ix ix_tup (pv 3) pe_int (fun _ _ => rfl)) (pe_call T.led hr2 (by rfl) T.mLed T.kLed T.bLed .nil pass0 (pa_cons (pv 0) (pa_cons (pv 1) (pa_cons (pv 2) pa_nil)))) (nomark _)))))) pss_nil) pss_never, ?_⟩
    refine ⟨_, rfl, _, _, rfl, .inr ⟨_, tT ha, (iv_len r).symm⟩, _, _, rfl, rfl, _, rfl, ?_⟩
    have hl1 : r.length ≤ 1 := hl
    rw [decide_eq_true (show (r.length : Int) < 2 by omega)]
    refine iteT ⟨_, rfl, _, rfl, g, 0, p, t, rfl, hT, hTR.top.1, Nat.le_trans hTR.top.2 hm, fun H1 s1 => ⟨_, rfl, ?_⟩⟩
    cases t with
    | node t0 x y => exact iteF (q false H1 (noIff fun z => by have := (treeOf_node.mp z).1; omega) s1)
    | leaf t0 =>
      obtain ⟨z1, z2, bs, e1, e2, e3, e4⟩ := (hT.mono s1).top
      refine iteT ⟨_, rfl, p, _, 0, _, rfl, rfl, tT e1, at0, _, rfl, _, rfl, _, rfl, b, g, a, r, rfl, hb, hg, s1 _ _ ha, hR.1, hl2, fun lr x H2 s2 h1 h2 hx => ?_⟩
      exact eqT (s2 _ _ e2) hx (q _ H2 (leaf_answer hg (by omega) hTR.top.1 h1 h2) (s1.trans s2))
  | n + 1 => by
    have ih := ok_shows F bF mF T G bG kG mG mz n
    refine F.ok sc_shows (fun vs H Q E h => ?_) (fun cdv A outer s H vs Q E hr h => ?_)
    · obtain ⟨b, g, a, p, r, t, m, rfl, _⟩ := h
      rfl
    obtain ⟨b, g, a, p, r, t, m, rfl, hb, hg, ha, hR, hl, hl2, hT, hTR, hm, q⟩ := h
    have hr3 : Room 3 _ := hr.mono (by omega : 3 ≤ n + 4)
    have hr2 : Room 2 _ := hr.mono (by omega : 2 ≤ n + 4)
    have hr1 : Room 1 _ := hr.mono (by omega : 1 ≤ n + 4)
    refine ⟨_, pss_cons (ps_if (pt_cmpR op_lt (pe_callB call_len (by rfl) T.len PySem.boot_len (pa_cons (pv 2) pa_nil)) pe_int (nomark _))
      (pss_one (ps_ret (pe_and (pe_call G hr3 (by rfl) mG kG bG .nil pass0 (pa_cons (pv 1) (pa_cons (pv 3) (pa_cons pe_int pa_nil))))
        (pe_one (pe_cmpR (op_eqD hr.units) (pe_ix ix_tup (pv 3) pe_int (fun _ _ => rfl)) (pe_call T.led hr2 (by rfl) T.mLed T.kLed T.bLed .nil pass0 (pa_cons (pv 0) (pa_cons (pv 1) (pa_cons (pv 2) pa_nil)))) (nomark _)))))) pss_nil)
      (pss_cons (ps_if (pt_not (pt_val (pe_call G hr3 (by rfl) mG kG bG .nil pass0 (pa_cons (pv 1) (pa_cons (pv 3) (pa_cons pe_int pa_nil)))))) (pss_one (ps_ret pe_bl)) pss_nil)
      (pss_cons (ps_set (i := 4) sc_shows.nd rfl (Or.inl rfl) (pe_call T.half hr1 (by rfl) T.mHalf T.kHalf T.bHalf .nil pass0 (pa_cons (pv 2) pa_nil)))
      (pss_cons (ps_for PassesOwn.never rfl (RZ.pi_zipA (by rfl) mz (pa_cons (pe_call T.cut hr2 (by rfl) T.mCut T.kCut T.bCut .nil pass0 (pa_cons (pv 2) (pa_cons (pv 4) pa_nil))) (pa_cons (pe_ix ix_tup (pv 3) pe_int (fun _ _ => rfl)) pa_nil)))
          (pg_tup rfl (pgs_cons (pg_name (i := 5) sc_shows.nd rfl (.inl rfl)) (pgs_cons (pg_name (i := 6) sc_shows.nd rfl (.inl rfl)) pgs_nil)))
        (pss_one (ps_if (pt_not (pt_val (pe_call ih hr (by rfl) mF F.kp bF .nil pass0 (pa_cons (pv 0) (pa_cons (pv 1) (pa_cons (pv 5) (pa_cons (pv 6) pa_nil))))))) (pss_one (ps_ret pe_bl)) pss_nil)))
      (pss_cons (ps_asg (pe_ix ix_tup (pv 3) pe_int (fun _ _ => rfl)) (pg_tup rfl (pgs_cons (pg_name (i := 7) sc_shows.nd rfl (.inl rfl)) (pgs_cons (pg_name (i := 8) sc_shows.nd rfl (.inl rfl)) pgs_nil))))
      (pss_one (ps_ret (pe_cmpR (op_eqD hr.units) (pe_ix ix_tup (pv 3) pe_int (fun _ _ => rfl))
        (pe_call T.plus hr2 (by rfl) T.mPlus T.kPlus T.bPlus .nil pass0 (pa_cons (pv 1) (pa_cons (pe_ix ix_tup (pv 7) pe_int (fun _ _ => rfl))
          (pa_cons (pe_call T.lift hr2 (by rfl) T.mLift T.kLift T.bLift .nil pass0 (pa_cons (pv 0) (pa_cons (pv 1) (pa_cons (pe_ix ix_tup (pv 8) pe_int (fun _ _ => rfl)) (pa_cons (pv 4) pa_nil))))) pa_nil)))) (nomark _)))))))), ?_⟩
    refine ⟨_, rfl, _, _, rfl, .inr ⟨_, tT ha, (iv_len r).symm⟩, _, _, rfl, rfl, _, rfl, ?_⟩
    by_cases c : r.length < 2
    · rw [decide_eq_true (show (r.length : Int) < 2 by omega)]
      refine iteT ⟨_, rfl, _, rfl, g, 0, p, t, rfl, hT, hTR.top.1, Nat.le_trans hTR.top.2 hm, fun H1 s1 => ⟨_, rfl, ?_⟩⟩
      cases t with
      | node t0 x y => exact iteF (q false H1 (noIff fun z => by have := (treeOf_node.mp z).1; omega) s1)
      | leaf t0 =>
        obtain ⟨z1, z2, bs, e1, e2, e3, e4⟩ := (hT.mono s1).top
        refine iteT ⟨_, rfl, p, _, 0, _, rfl, rfl, tT e1, at0, _, rfl, _, rfl, _, rfl, b, g, a, r, rfl, hb, hg, s1 _ _ ha, hR.1, hl2, fun lr x H2 s2 h1 h2 hx => ?_⟩
        exact eqT (s2 _ _ e2) hx (q _ H2 (leaf_answer hg (by omega) hTR.top.1 h1 h2) (s1.trans s2))
    rw [decide_eq_false (show ¬ (r.length : Int) < 2 by omega)]
    have h2 : 2 ≤ r.length := by omega
    obtain ⟨f1, f2, f3, f4, f5, f6, f7⟩ := halves_fit h2 hl hl2
    refine iteF ⟨_, rfl, _, rfl, g, 2, p, t, rfl, hT, hTR.top.1, Nat.le_trans hTR.top.2 hm, fun H1 s1 => ⟨_, rfl, ?_⟩⟩
    cases t with
    | leaf t0 => exact iteT (q false H1 (noIff fun z => by have := (treeOf_leaf.mp z).1; omega) s1)
    | node t0 t1 t2 =>
      refine iteF ?_
      obtain ⟨hT0, hT1, hT2⟩ := hTR
      refine ⟨_, rfl, a, r, rfl, s1 _ _ ha, ?_⟩
      refine ⟨_, rfl, _, rfl, a, r, half r, rfl, s1 _ _ ha, f1, f2, Nat.le_trans hl2 (by omega), fun cp x y H2 s2 hcp hx hy => ?_⟩
      obtain ⟨pt, pq, u1, u2, d1, d2, d3, d4, d5⟩ := hT.mono (s1.trans s2)
      refine ⟨_, rfl, p, _, 1, _, rfl, rfl, tT d1, at1, cp, pq, _, _, rfl, Or.inr ⟨tT hcp, tT d3, ?_⟩⟩
      refine RZ.for_zipT (xs := [.ref x, .ref y]) (ys := [.ref u1, .ref u2]) rfl
        (fun i σ H' => ∃ v5 v6, σ = [some (.int b), some (.int g), some (.ref a), some (.ref p), some (.int (half r : Nat)), v5, v6, none, none] ∧ Same H2 H' ∧ (1 ≤ i → TreeOf b g (lowOf r) t1) ∧ (2 ≤ i → TreeOf b g (highOf r) t2))
        ⟨none, none, rfl, Same.refl _, fun z => by omega, fun z => by omega⟩ (fun i σ H' ⟨_, _, _, k, _⟩ => ⟨tT (k _ _ hcp), tT (k _ _ d3)⟩) ?_ ?_
      · rintro i x' y' TT σ H' hxi hyi ⟨v5, v6, rfl, k1, k2, k3⟩ hTT
        have kn := same_new hTT (.tup [x', y'])
        refine ⟨TT, _, rfl, tT upd_same, rfl, _, _, rfl, _, _, rfl, rfl, ?_⟩
        match i, hxi, hyi with
        | 0, hxi, hyi =>
          cases hxi
          cases hyi
          refine ⟨_, rfl, _, rfl, _, rfl, _, rfl, b, g, x, u1, lowOf r, t1, m, rfl, hb, hg, kn _ _ (k1 _ _ hx), low_row hR.1, f4, f6, d4.mono (k1.trans kn), hT1, hm, fun c H3 hc s3 => ⟨c, rfl, ?_⟩⟩
          cases c with
          | false => exact iteT (q false _ (noIff fun z => Bool.noConfusion (hc.mpr (treeOf_node.mp z).2.2.2.1)) (((((s1.trans s2).trans k1).trans kn).trans s3)))
          | true => exact iteF ⟨_, _, rfl, (k1.trans kn).trans s3, fun _ => hc.mp rfl, fun z => by omega⟩
        | 1, hxi, hyi =>
          cases hxi
          cases hyi
          refine ⟨_, rfl, _, rfl, _, rfl, _, rfl, b, g, y, u2, highOf r, t2, m, rfl, hb, hg, kn _ _ (k1 _ _ hy), high_row hR, f5, f7, d5.mono (k1.trans kn), hT2, hm, fun c H3 hc s3 => ⟨c, rfl, ?_⟩⟩
          cases c with
          | false => exact iteT (q false _ (noIff fun z => Bool.noConfusion (hc.mpr (treeOf_node.mp z).2.2.2.2)) (((((s1.trans s2).trans k1).trans kn).trans s3)))
          | true => exact iteF ⟨_, _, rfl, (k1.trans kn).trans s3, fun _ => k2 (by omega), fun _ => hc.mp rfl⟩
        | j + 2, hxi, _ => cases hxi
      · rintro σ H3 ⟨v5, v6, rfl, k1, k2, k3⟩
        have o1 := k2 (by show 1 ≤ 2; omega)
        have o2 := k3 (by show 2 ≤ 2; omega)
        have sA := (s1.trans s2).trans k1
        obtain ⟨v1, v2⟩ := o1.top
        obtain ⟨v3, v4⟩ := o2.top
        obtain ⟨p1, q1, bs1, e1, e2, _, _⟩ := (d4.mono k1).top
        obtain ⟨p2, q2, bs2, e3, e4, _, _⟩ := (d5.mono k1).top
        obtain ⟨k, hk, hk2⟩ := bits_of hb hR.1 hl2
        obtain ⟨n0, n1, n2⟩ := high_le hb.pos hR.1 (Nat.le_of_lt f2)
        have hv := half_val b r (Nat.le_of_lt f2)
        refine ⟨_, rfl, p, _, 1, _, rfl, rfl, tT (k1 _ _ d1), at1, pq, _, rfl, tT (k1 _ _ d3), rfl, _, _, rfl, _, _, rfl, rfl, ?_⟩
        refine ⟨_, rfl, p, _, 0, _, rfl, rfl, tT (k1 _ _ d1), at0, _, rfl, _, rfl, u1, _, 0, _, rfl, rfl, tT e1, at0, ?_⟩
        refine ⟨_, rfl, _, rfl, _, rfl, u2, _, 0, _, rfl, rfl, tT e3, at0, _, rfl, ?_⟩
        refine ⟨b, g, p2, t2.top, half r, k, rfl, hb, hg, e4, v3.1, f1, f3, by rw [v4]; omega, hk2, fun tt p4 H4 s4 l1 l2 hp4 => ?_⟩
        rw [v4] at l2
        refine ⟨g, p1, p4, t1.top, tt, rfl, hg, s4 _ _ e2, hp4, v1.1, l1.1, Nat.le_trans (row_len hg.two v1 (k := k) (by omega)) hk2, Nat.le_trans (row_len hg.two l1 (k := k) (by omega)) hk2, fun rr z H5 s5 r1 r2 hz => ?_⟩
        refine eqT ((s4.trans s5) _ _ (k1 _ _ d2)) hz ?_
        refine q _ H5 ?_ ((sA.trans s4).trans s5)
        rw [treeOf_node, decide_eq_true_iff]
        refine ⟨fun e => ?_, fun e => row_uniq hg.pos hT0.1 r1 ?_⟩
        · subst e
          exact ⟨h2, r1, by rw [r2, l2, v2]; omega, o1, o2⟩
        · rw [e.2.2.1, r2, l2, v2]
          omega
end
end Bz

set_option maxHeartbeats 4000000
namespace Bz
open PySem PySem.Spec PyProof.Rows L2 TL
theorem sign_zero {c : Nat} (h : (⟨#[c]⟩ : Str) = "0") : c = 48 := by
  have e := congrArg tl h
  have e2 : tl ("0" : Str) = [48] := by decide +kernel
  rw [e2] at e
  have e3 : [c] = [48] := e
  cases e3
  rfl
theorem no_non : ∀ ns : List Int, inV .non (iv ns) = false
  | [] => rfl
  | x :: r => by
    have ih := no_non r
    show (eqV (V.int x) V.non || inV .non (iv r)) = false
    rw [ih] <;> rfl
theorem all_flat : ∀ ns : List Int, (iv ns).all flatV = true
  | [] => rfl
  | x :: r => by
    show (flatV (V.int x) && (iv r).all flatV) = true
    rw [all_flat r] <;> rfl
section
variable {P : Program} {w : World} {K : PySem.W.Frag} {mg : Str → Option Value} {base : Heap} {f : Addr} {fd : FuncData}
/-! ### number_in, of a number's text -/
theorem sc_number_in : FnScope ["word", "sign"] ["word"] (defScope s_number_in) := ⟨rfl, rfl, rfl, by decide +kernel, rfl, by decide +kernel, by decide +kernel⟩
def spNumIn : Sp := fun vs H Q _ => ∃ n : Int, vs = [.str (digI n)] ∧ 0 ≤ n ∧ n ≤ 1000000 ∧ ∀ H', Same H H' → Q (.int n) H'
theorem ok_number_in {t1 t2 : Tok} (F : Fun K "number_in" "number_in" s_number_in f fd) (ml : mg "len" = none) (ma : mg "all" = none) (mi : mg "int" = none) (m1 : mg "MOST_FIGURES" = some (.int 60 t1)) (m2 : mg "FIGURES" = some (.str "0123456789" t2)) : FnOk P w K mg base CX0 1 f fd ["word"] spNumIn := by
  refine F.ok sc_number_in (fun vs H Q E h => ?_) (fun cdv A outer s H vs Q E hr h => ?_)
  · obtain ⟨n, rfl, _⟩ := h
    rfl
  obtain ⟨n, rfl, h0, h1, q⟩ := h
  refine ⟨_, pss_cons (ps_if (PW.pt (pw_or (pt_not (pt_chain op_le op_le pe_int (pe_callB call_len (by rfl) ml PySem.boot_len (pa_cons (pv 0) pa_nil)) (pe_glob (v := .int 60) (by rfl) m1 ⟨_, rfl⟩)))
      (pw_or1 (pt_not (pt_val (pe_callB (cr_all rfl) (by rfl) ma PyProof.Rows.boot_all (pa_cons
        (pe_lc (own := [("sign", 1)]) (g := gName 1) (tt := tYes) rfl sc_number_in.nd (pi_str (pv 0)) (blkOk_by (N := ["word", "sign"]) (sc := defScope s_number_in) (by decide +kernel))
          (fun _ _ _ _ _ => pg_name (i := 1) sc_number_in.nd rfl (Or.inl rfl)) (fun _ _ _ _ _ => pts_nil)
          (fun _ _ _ _ _ => pe_cmpR op_in_sign (pv 1) (pe_glob (v := .str "0123456789") (by rfl) m2 ⟨_, rfl⟩) (by rfl))) pa_nil)))))))
      (pss_one (ps_ret pe_non)) pss_nil)
    (pss_cons (ps_if (PW.pt (pw_and (pt_cmpR op_eq (pe_ix ix_str (pv 0) pe_int (fun _ _ => rfl)) pe_str (nomark _)) (pw_and1 (pt_cmpR op_ne (pv 0) pe_str (nomark _))))) (pss_one (ps_ret pe_non)) pss_nil)
    (pss_one (ps_ret (pe_callTy call_int_str (by rfl) mi PyProof.Rows.boot_int (pa_cons (pv 0) pa_nil))))), ?_⟩
  have hl := digI_len h0 h1
  have hp := digI_pos h0
  refine ⟨_, rfl, _, _, rfl, ⟨sz (by omega), rfl⟩, _, _, rfl, rfl, _, rfl, ?_⟩
  rw [decide_eq_true (show (1 : Int) ≤ (((digI n).length : Nat) : Int) by omega)]
  refine iteT ⟨_, _, rfl, rfl, ?_⟩
  simp only [decide_eq_true (show (((digI n).length : Nat) : Int) ≤ 60 by omega)]
  refine ⟨true, rfl, iteF ?_⟩
  refine ⟨_, rfl, _, rfl, fun D hD => ?_⟩
  refine lc_it (walk_str (z := digI n)) (fun i H' => Same H H' ∧ H' D = some (.lst ((List.replicate i true).map V.bl))) ⟨same_new hD _, upd_same⟩ (fun _ _ _ _ => trivial) ?_ ?_
  · rintro i x H1 H' hi ⟨p1, p2⟩ ⟨rfl, c, hc, rfl⟩
    refine ⟨rfl, ?_⟩
    have hm : c ∈ tl (digI n) := List.mem_of_getElem? (i := i) (by rw [Array.getElem?_toList]; exact hc)
    have hi2 : i < (digI n).length := hi
    refine ⟨_, rfl, c, _, rfl, rfl, ?_⟩
    simp only [decide_eq_true (digI_fig h0 hm)]
    refine ⟨_, p2, szl (by rw [List.length_map, List.length_replicate]; omega), same_mut p1 hD, ?_⟩
    rw [upd_same, List.replicate_succ', List.map_append] <;> rfl
  · rintro H' ⟨p1, p2⟩
    refine ⟨D, List.replicate (digI n).cps.size true, rfl, tL p2, true, ?_, ?_⟩
    · rw [all_true]
    refine iteF ?_
    have hlt : 0 < (tl (digI n)).length := by rw [← len_tl]; omega
    obtain ⟨c, hc⟩ : ∃ c, (tl (digI n))[0]? = some c := ⟨_, List.getElem?_eq_getElem hlt⟩
    refine ⟨_, rfl, digI n, 0, c, rfl, rfl, sz (by omega), atI_nat (j := 0) hc, rfl, _, rfl, ?_⟩
    have fin : ∃ v, ([some (V.str (digI n)), none] : L2.St)[0]? = some (some v) ∧ ∃ a m, [v] = [V.str a] ∧ PySem.intText? a = some m ∧ a.length ≤ 640 ∧ Q (.int m) H' := ⟨_, rfl, digI n, n, rfl, digI_int h0 h1, by omega, q H' p1⟩
    by_cases e : c = 48
    · have ez := digI_zero h0 hc e
      rw [decide_eq_true (show V.str ⟨#[c]⟩ = V.str "0" by rw [e] <;> rfl)]
      refine iteT ⟨_, rfl, rfl, _, rfl, ?_⟩
      rw [decide_eq_true (show V.str (digI n) = V.str "0" by rw [ez] <;> rfl)]
      exact iteF fin
    · rw [decide_eq_false (show ¬ V.str ⟨#[c]⟩ = V.str "0" from fun z => e (sign_zero (V.str.inj z)))]
      exact iteF (iteF fin)
/-! ### numbers_in -/
theorem sc_numbers_in : FnScope ["words", "numbers", "word"] ["words"] (defScope s_numbers_in) := ⟨rfl, rfl, rfl, by decide +kernel, rfl, by decide +kernel, by decide +kernel⟩
def spNumsIn : Sp := fun vs H Q _ => ∃ (a : Addr) (ns : List Int), vs = [.ref a] ∧ H a = some (.lst ((ns.map digI).map V.str)) ∧ Figs ns ∧ ns.length ≤ 2000 ∧ ∀ (p : Addr) (H' : Hp), Same H H' → H' p = some (.tup (iv ns)) → Q (.ref p) H'
theorem ok_numbers_in {g : Addr} {gd : FuncData} (F : Fun K "numbers_in" "numbers_in" s_numbers_in f fd) (G : FnOk P w K mg base CX0 1 g gd ["word"] spNumIn) (bG : Binds K gd ["word"] []) (kG : PySem.W.keepIn K (.ref g) = true) (mG : mg "number_in" = some (.ref g)) (mt : mg "tuple" = none) : FnOk P w K mg base CX0 2 f fd ["words"] spNumsIn := by
  refine F.ok sc_numbers_in (fun vs H Q E h => ?_) (fun cdv A outer s H vs Q E hr h => ?_)
  · obtain ⟨a, ns, rfl, _⟩ := h
    rfl
  obtain ⟨a, ns, rfl, ha, hf, hl, q⟩ := h
  refine ⟨_, pss_cons (ps_setLc (i := 1) (own := [("word", 2)]) (g := gName 2) (tt := tYes) rfl sc_numbers_in.nd rfl rfl (sw_true rfl rfl rfl (by decide +kernel)) (pi_list (pv 0)) (blkOk_by (N := ["words", "numbers", "word"]) (sc := defScope s_numbers_in) (by decide +kernel))
          (fun _ _ _ _ _ => pg_name (i := 2) sc_numbers_in.nd rfl (Or.inl rfl)) (fun _ _ _ _ _ => pts_nil)
          (fun _ _ _ _ _ => pe_call G hr (by rfl) mG kG bG .nil pass0 (pa_cons (pv 2) pa_nil)))
    (pss_cons (ps_if (pt_cmpR op_in_seq pe_non (pv 1) (by rfl)) pss_never pss_nil)
    (pss_one (ps_ret (pe_callTy call_tuple_of (by rfl) mt PyProof.Rows.boot_tuple (pa_cons (pv 1) pa_nil))))), ?_⟩
  refine ⟨_, rfl, a, rfl, ⟨_, tL ha⟩, fun D hD => ?_⟩
  refine lc_list (K := K) (a := a) (xs := (ns.map digI).map V.str) (fun i H' => Same H H' ∧ H' D = some (.lst (iv (ns.take i)))) ⟨same_new hD _, upd_same⟩ (fun i H' _ p => tL (p.1 _ _ ha)) ?_ ?_
  · rintro i x H' hx ⟨p1, p2⟩
    rw [List.getElem?_map, List.getElem?_map] at hx
    cases e : ns[i]? with
    | none => rw [e] at hx; cases hx
    | some n =>
      rw [e] at hx
      cases hx
      have hn := hf n (List.mem_of_getElem? e)
      have hi : i < ns.length := (List.getElem?_eq_some_iff.mp e).1
      refine ⟨rfl, _, rfl, n, rfl, hn.1, hn.2, fun H2 s2 => ⟨_, s2 _ _ p2, szl (by rw [iv_len, List.length_take]; omega), same_mut (p1.trans s2) hD, ?_⟩⟩
      rw [upd_same, List.take_add_one, e]
      show _ = some (HO.lst (iv (ns.take i ++ [n])))
      rw [iv_snoc]
  · rintro H' ⟨p1, p2⟩
    rw [List.length_map, List.length_map, List.take_length] at p2
    refine ⟨_, rfl, D, _, rfl, .inl (tL p2), rfl, all_flat ns, _, rfl, ?_⟩
    rw [no_non]
    refine iteF ⟨_, rfl, D, _, rfl, Or.inl ⟨tL p2, fun p hp => q p _ (p1.trans (same_new hp _)) upd_same⟩⟩
/-! ### words_of -/
theorem sc_words_of : FnScope ["text", "sign"] ["text", "sign"] (defScope s_words_of) := ⟨rfl, rfl, rfl, by decide +kernel, rfl, by decide +kernel, by decide +kernel⟩
def spWords : Sp := fun vs H Q _ => ∃ t d : Str, vs = [.str t, .str d] ∧ (d.length == 0) = false ∧ t.length ≤ 90000 ∧ ∀ (p : Addr) (H' : Hp), Same H H' → H' p = some (.lst ((Txt.split t d).map V.str)) → Q (.ref p) H'
theorem ok_words_of (F : Fun K "words_of" "words_of" s_words_of f fd) (mi : mg "isinstance" = none) (ms : mg "str" = none) : FnOk P w K mg base CX0 1 f fd ["text", "sign"] spWords := by
  refine F.ok sc_words_of (fun vs H Q E h => ?_) (fun cdv A outer s H vs Q E hr h => ?_)
  · obtain ⟨t, d, rfl, _⟩ := h
    rfl
  obtain ⟨t, d, rfl, hd, ht, q⟩ := h
  refine ⟨_, pss_cons (ps_if (pt_not (pt_val (pe_callB call_isi (by rfl) mi PyProof.Rows.boot_isinstance (pa_cons (pv 0) (pa_cons (pe_bltn (v := .ty "str") (by rfl) ms PyProof.Rows.boot_str rfl) pa_nil))))) pss_never pss_nil)
    (pss_one (ps_ret (pe_split (pv 0) (pv 1)))), ?_⟩
  refine ⟨_, rfl, _, _, _, _, _, rfl, .ty _, .base (.str t), kit_ty (by decide +kernel), true, rfl, iteF ?_⟩
  exact ⟨_, rfl, ⟨_, rfl⟩, _, rfl, t, d, rfl, rfl, hd, sz (by omega), fun p hp => q p _ (same_new hp _) upd_same⟩
end
end Bz

set_option maxHeartbeats 4000000
namespace Bz
open PySem PySem.Spec PyProof.Rows L2 TL
theorem log_ok {n : Int} (h0 : 0 ≤ n) (h1 : n ≤ 1000000) : n.natAbs.log2 < 1920 := by
  have e : (2 : Nat) ^ 20 = 1048576 := by decide
  have := PySem.Flt.log2_lt_of (show 0 < 20 by decide) (show n.natAbs < 2 ^ 20 by rw [e]; omega)
  omega
theorem sum_digits : ∀ {ns : List Int}, Figs ns → ((ns.map digI).map (·.length)).sum ≤ 7 * ns.length
  | [], _ => Nat.le_refl _
  | x :: r, h => by
    have h1 := h x List.mem_cons_self
    have ih := sum_digits (ns := r) fun y hy => h y (List.mem_cons_of_mem _ hy)
    have l := digI_len h1.1 h1.2
    show (digI x).length + ((r.map digI).map (·.length)).sum ≤ 7 * (r.length + 1)
    omega
theorem iv_rev (r : List Int) : iv r.reverse = (iv r).reverse := List.map_reverse
section
variable {P : Program} {w : World} {K : PySem.W.Frag} {mg : Str → Option Value} {base : Heap} {f : Addr} {fd : FuncData}
/-! ### pointed -/
theorem sc_pointed : FnScope ["numbers", "number"] ["numbers"] (defScope s_pointed) := ⟨rfl, rfl, rfl, by decide +kernel, rfl, by decide +kernel, by decide +kernel⟩
def spPointed : Sp := fun vs H Q _ => ∃ (a : Addr) (ns : List Int), vs = [.ref a] ∧ H a = some (.tup (iv ns)) ∧ Figs ns ∧ ns.length ≤ 2000 ∧ ∀ H', Same H H' → Q (.str (Txt.join "." (ns.map digI))) H'
theorem ok_pointed (F : Fun K "pointed" "pointed" s_pointed f fd) (ms : mg "str" = none) : FnOk P w K mg base CX0 1 f fd ["numbers"] spPointed := by
  refine F.ok sc_pointed (fun vs H Q E h => ?_) (fun cdv A outer s H vs Q E hr h => ?_)
  · obtain ⟨a, ns, rfl, _⟩ := h
    rfl
  obtain ⟨a, ns, rfl, ha, hf, hl, q⟩ := h
  refine ⟨_, pss_one (ps_ret (pe_join pe_str (pe_lc (own := [("number", 1)]) (g := gName 1) (tt := tYes) rfl sc_pointed.nd (pi_tup (pv 0)) (blkOk_by (N := ["numbers", "number"]) (sc := defScope s_pointed) (by decide +kernel))
          (fun _ _ _ _ _ => pg_name (i := 1) sc_pointed.nd rfl (Or.inl rfl)) (fun _ _ _ _ _ => pts_nil)
          (fun _ _ _ _ _ => pe_callTy call_str_int (by rfl) ms PyProof.Rows.boot_str (pa_cons (pv 1) pa_nil))))), ?_⟩
  refine ⟨⟨_, rfl⟩, _, rfl, a, rfl, ⟨_, tT ha⟩, fun D hD => ?_⟩
  refine lc_tup (K := K) (a := a) (xs := iv ns) (fun i H' => Same H H' ∧ H' D = some (.lst (((ns.take i).map digI).map V.str))) ⟨same_new hD _, upd_same⟩ (fun i H' _ p => tT (p.1 _ _ ha)) ?_ ?_
  · rintro i x H' hx ⟨p1, p2⟩
    obtain ⟨n, hn, rfl⟩ := iv_get hx
    have hb := hf n (List.mem_of_getElem? hn)
    have hi : i < ns.length := (List.getElem?_eq_some_iff.mp hn).1
    refine ⟨rfl, _, rfl, n, rfl, log_ok hb.1 hb.2, _, p2, szl (by rw [List.length_map, List.length_map, List.length_take]; omega), same_mut p1 hD, ?_⟩
    rw [upd_same, List.take_add_one, hn, List.map_append, List.map_append] <;> rfl
  · rintro H' ⟨p1, p2⟩
    rw [iv_len, List.take_length] at p2
    have e1 : ("." : Str).length = 1 := by decide +kernel
    have e2 := sum_digits hf
    refine ⟨_, D, ns.map digI, rfl, rfl, .inl (tL p2), ?_, q H' p1⟩
    rw [List.length_map, e1]
    omega
/-! ### show_row -/
theorem sc_show_row : FnScope ["row"] ["row"] (defScope s_show_row) := ⟨rfl, rfl, rfl, by decide +kernel, rfl, by decide +kernel, by decide +kernel⟩
def spShowRow : Sp := fun vs H Q _ => ∃ (a : Addr) (r : List Int), vs = [.ref a] ∧ H a = some (.tup (iv r)) ∧ Figs r ∧ r.length ≤ 2000 ∧ ∀ H', Same H H' → Q (.str (rowText r)) H'
theorem ok_show_row {g : Addr} {gd : FuncData} {t1 : Tok} (F : Fun K "show_row" "show_row" s_show_row f fd) (G : FnOk P w K mg base CX0 1 g gd ["numbers"] spPointed) (bG : Binds K gd ["numbers"] []) (kG : PySem.W.keepIn K (.ref g) = true) (mG : mg "pointed" = some (.ref g))
    (ml : mg "len" = none) (m1 : mg "NOUGHT" = some (.str "-" t1)) : FnOk P w K mg base CX0 2 f fd ["row"] spShowRow := by
  refine F.ok sc_show_row (fun vs H Q E h => ?_) (fun cdv A outer s H vs Q E hr h => ?_)
  · obtain ⟨a, r, rfl, _⟩ := h
    rfl
  obtain ⟨a, r, rfl, ha, hf, hl, q⟩ := h
  refine ⟨_, pss_cons (ps_if (pt_cmpR op_eq (pe_callB call_len (by rfl) ml PySem.boot_len (pa_cons (pv 0) pa_nil)) pe_int (nomark _)) (pss_one (ps_ret (pe_glob (v := .str "-") (by rfl) m1 ⟨_, rfl⟩))) pss_nil)
    (pss_one (ps_ret (pe_call G hr (by rfl) mG kG bG .nil pass0 (pa_cons (pe_revT (pv 0)) pa_nil)))), ?_⟩
  refine ⟨_, rfl, _, _, rfl, .inr ⟨_, tT ha, (iv_len r).symm⟩, rfl, _, rfl, ?_⟩
  by_cases e : r = []
  · subst e
    exact iteT (q H (Same.refl _))
  · have hp : 0 < r.length := List.length_pos_iff.mpr e
    rw [decide_eq_false (show ¬ V.int (r.length : Int) = V.int 0 from fun z => by have := V.int.inj z; omega)]
    refine iteF ⟨_, rfl, a, _, rfl, tT ha, fun p hp => ?_⟩
    refine ⟨p, r.reverse, rfl, by rw [upd_same, iv_rev], figs_rev hf, by rw [List.length_reverse]; exact hl, fun H' s1 => ?_⟩
    have et : Txt.join "." (r.reverse.map digI) = rowText r := by unfold rowText; rw [if_neg e]
    rw [et]
    exact q H' ((same_new hp _).trans s1)
/-! ### read_row, of a row's text -/
theorem sc_read_row : FnScope ["base", "text", "words", "row"] ["base", "text"] (defScope s_read_row) := ⟨rfl, rfl, rfl, by decide +kernel, rfl, by decide +kernel, by decide +kernel⟩
def spReadRow : Sp := fun vs H Q _ => ∃ (b : Int) (r : List Int), vs = [.int b, .str (rowText r)] ∧ Bd b ∧ Row b r ∧ r.length ≤ 2000 ∧ ∀ (p : Addr) (H' : Hp), Same H H' → H' p = some (.tup (iv r)) → Q (.ref p) H'
theorem ok_read_row {g1 g2 g3 : Addr} {gd1 gd2 gd3 : FuncData} {t1 : Tok} (F : Fun K "read_row" "read_row" s_read_row f fd)
    (G1 : FnOk P w K mg base CX0 1 g1 gd1 ["text", "sign"] spWords) (b1 : Binds K gd1 ["text", "sign"] []) (k1 : PySem.W.keepIn K (.ref g1) = true) (m1 : mg "words_of" = some (.ref g1))
    (G2 : FnOk P w K mg base CX0 2 g2 gd2 ["words"] spNumsIn) (b2 : Binds K gd2 ["words"] []) (k2 : PySem.W.keepIn K (.ref g2) = true) (m2 : mg "numbers_in" = some (.ref g2))
    (G3 : FnOk P w K mg base CX0 2 g3 gd3 ["base", "thing"] spIsRow) (b3 : Binds K gd3 ["base", "thing"] []) (k3 : PySem.W.keepIn K (.ref g3) = true) (m3 : mg "is_row" = some (.ref g3))
    (m4 : mg "NOUGHT" = some (.str "-" t1)) : FnOk P w K mg base CX0 3 f fd ["base", "text"] spReadRow := by
  refine F.ok sc_read_row (fun vs H Q E h => ?_) (fun cdv A outer s H vs Q E hr h => ?_)
  · obtain ⟨b, r, rfl, _⟩ := h
    rfl
  obtain ⟨b, r, rfl, hb, hR, hl, q⟩ := h
  have hr1 : Room 1 _ := hr.mono (by decide : 1 ≤ 2)
  refine ⟨_, pss_cons (ps_set (i := 2) sc_read_row.nd rfl (Or.inl rfl) (pe_call G1 hr1 (by rfl) m1 k1 b1 .nil pass0 (pa_cons (pv 1) (pa_cons pe_str pa_nil))))
    (pss_cons (ps_if (pt_cmpR op_eq (pv 1) (pe_glob (v := .str "-") (by rfl) m4 ⟨_, rfl⟩) (nomark _)) (pss_one (ps_ret (pe_tup pa_nil))) pss_nil)
    (pss_cons (ps_set (i := 3) sc_read_row.nd rfl (Or.inl rfl) (pe_revT (pe_call G2 hr (by rfl) m2 k2 b2 .nil pass0 (pa_cons (pv 2) pa_nil))))
    (pss_cons (ps_if (pt_not (pt_val (pe_call G3 hr (by rfl) m3 k3 b3 .nil pass0 (pa_cons (pv 0) (pa_cons (pv 3) pa_nil))))) pss_never pss_nil)
    (pss_one (ps_ret (pv 3)))))), ?_⟩
  have hf := figs_of hb.2 hR.1
  have hlen := rowText_len hf
  refine ⟨_, rfl, rowText r, _, rfl, by decide +kernel, by omega, fun p H1 s1 hp => ?_⟩
  refine ⟨_, rfl, rfl, _, rfl, ?_⟩
  by_cases e : r = []
  · subst e
    refine iteT ⟨sz (by show 0 ≤ 100000; omega), fun t ht => q t _ (s1.trans (same_new ht _)) upd_same⟩
  · rw [decide_eq_false (show ¬ V.str (rowText r) = V.str "-" from fun z => rowText_dash hf e (V.str.inj z))]
    rw [rowText_split hf e] at hp
    refine iteF ⟨_, rfl, p, r.reverse, rfl, hp, figs_rev hf, by rw [List.length_reverse]; exact hl, fun t H2 s2 ht => ?_⟩
    refine ⟨t, _, rfl, tT ht, fun u hu => ?_⟩
    have ku := same_new hu (.tup (iv r.reverse).reverse)
    have eu : upd H2 u (.tup (iv r.reverse).reverse) u = some (.tup (iv r)) := by rw [upd_same, ← iv_rev, List.reverse_reverse]
    refine ⟨_, rfl, _, rfl, b, u, r, rfl, eu, hR, Nat.le_trans hl (by omega), fun H3 s3 => ⟨true, rfl, iteF ?_⟩⟩
    exact ⟨_, rfl, q u H3 (((s1.trans s2).trans ku).trans s3) (s3 _ _ eu)⟩
/-! ### want -/
theorem sc_want : FnScope ["holds"] ["holds"] (defScope s_want) := ⟨rfl, rfl, rfl, by decide +kernel, rfl, by decide +kernel, by decide +kernel⟩
def spWant : Sp := fun vs H Q _ => vs = [.bl true] ∧ Q .non H
theorem ok_want (F : Fun K "want" "want" s_want f fd) : FnOk P w K mg base CX0 1 f fd ["holds"] spWant := by
  refine F.ok sc_want (fun vs H Q E h => ?_) (fun cdv A outer s H vs Q E hr h => ?_)
  · obtain ⟨rfl, _⟩ := h
    rfl
  obtain ⟨rfl, q⟩ := h
  refine ⟨_, pss_one (ps_if (pt_not (pt_val (pv 0))) pss_never pss_nil), ?_⟩
  exact ⟨_, rfl, true, rfl, iteF q⟩
/-! ### number_told, the desk's -/
theorem sc_told : FnScope ["word", "least", "greatest", "number"] ["word", "least", "greatest"] (defScope s_number_told_desk) := ⟨rfl, rfl, rfl, by decide +kernel, rfl, by decide +kernel, by decide +kernel⟩
def spTold : Sp := fun vs H Q _ => ∃ n lo hi : Int, vs = [.str (digI n), .int lo, .int hi] ∧ 0 ≤ n ∧ n ≤ 1000000 ∧ lo ≤ n ∧ n ≤ hi ∧ ∀ H', Same H H' → Q (.int n) H'
theorem ok_told {g1 g2 : Addr} {gd1 gd2 : FuncData} (F : Fun K "number_told" "number_told" s_number_told_desk f fd)
    (G1 : FnOk P w K mg base CX0 1 g1 gd1 ["word"] spNumIn) (b1 : Binds K gd1 ["word"] []) (k1 : PySem.W.keepIn K (.ref g1) = true) (m1 : mg "number_in" = some (.ref g1))
    (G2 : FnOk P w K mg base CX0 1 g2 gd2 ["holds"] spWant) (b2 : Binds K gd2 ["holds"] []) (k2 : PySem.W.keepIn K (.ref g2) = true) (m2 : mg "want" = some (.ref g2)) : FnOk P w K mg base CX0 2 f fd ["word", "least", "greatest"] spTold := by
  refine F.ok sc_told (fun vs H Q E h => ?_) (fun cdv A outer s H vs Q E hr h => ?_)
  · obtain ⟨n, lo, hi, rfl, _⟩ := h
    rfl
  obtain ⟨n, lo, hi, rfl, h0, h1, h2, h3, q⟩ := h
  refine ⟨_, pss_cons (ps_set (i := 3) sc_told.nd rfl (Or.inl rfl) (pe_call G1 hr (by rfl) m1 k1 b1 .nil pass0 (pa_cons (pv 0) pa_nil)))
    (pss_cons (ps_expr (pe_call G2 hr (by rfl) m2 k2 b2 .nil pass0 (pa_cons (pe_and (pe_cmpR op_notN (pv 3) pe_non (nomark _)) (pe_one (pe_chain op_le op_le (pv 1) (pv 3) (pv 2)))) pa_nil)))
    (pss_one (ps_ret (pv 3)))), ?_⟩
  refine ⟨_, rfl, n, rfl, h0, h1, fun H1 s1 => ?_⟩
  refine ⟨_, rfl, rfl, true, rfl, iteT ?_⟩
  refine ⟨_, rfl, _, rfl, _, _, rfl, rfl, _, rfl, ?_⟩
  rw [decide_eq_true h2]
  refine iteT ⟨_, rfl, _, _, rfl, rfl, ?_⟩
  simp only [decide_eq_true h3]
  exact ⟨rfl, _, rfl, q H1 s1⟩
end
end Bz

set_option maxHeartbeats 4000000
namespace Bz
open PySem PySem.Spec PyProof.Rows L2 TL
section
variable {X : Cx} {d : Addr} {es : Array DictEntry} {n : Nat}
/-- D[t], D a written dict with text keys -/
theorem ix_kd (D : KDict X.K X.w d es n) : IxR X (fun x y H Q => ∃ (z : Str) (u0 : Value) (v0 : V), x = .ref d ∧ y = .str z ∧ PySem.W.nsIn X.K d z = some (some u0) ∧ RelV v0 u0 ∧ Q v0 H) := by
  intro value slice pins s σ H x y v u Q I rx ry h hs
  obtain ⟨z, u0, v0, rfl, rfl, e, r, q⟩ := h
  have w2 := op_item_kd D pins s σ H _ _ _ _ Q I rx ry ⟨z, u0, v0, rfl, rfl, e, r, q⟩
  have hx : v = Value.ref d := rx
  subst hx
  exact tail_any (kd_type D I) PySem.F.slot_dict_getitem.lookup w2 hs
end
section
variable {P : Program} {w : World} {K : PySem.W.Frag} {mg : Str → Option Value} {base : Heap} {f : Addr} {fd : FuncData}
/-! ### row_told -/
theorem sc_row_told : FnScope ["base", "word", "row"] ["base", "word"] (defScope s_row_told) := ⟨rfl, rfl, rfl, by decide +kernel, rfl, by decide +kernel, by decide +kernel⟩
theorem ok_row_told {g1 : Addr} {gd1 : FuncData} {c : Value} (F : Fun K "row_told" "row_told" s_row_told f fd)
    (G1 : FnOk P w K mg base CX0 3 g1 gd1 ["base", "text"] spReadRow) (b1 : Binds K gd1 ["base", "text"] []) (k1 : PySem.W.keepIn K (.ref g1) = true) (m1 : mg "read_row" = some (.ref g1)) (mN : mg "NoText" = some c) : FnOk P w K mg base CX0 4 f fd ["base", "word"] spReadRow := by
  refine F.ok sc_row_told (fun vs H Q E h => ?_) (fun cdv A outer s H vs Q E hr h => ?_)
  · obtain ⟨b, r, rfl, _⟩ := h
    rfl
  obtain ⟨b, r, rfl, hb, hR, hl, q⟩ := h
  refine ⟨_, pss_cons (ps_try_only (tb := fun W => tAsg (tCall spReadRow [] E0 (tCons (tVar 0) (tCons (tVar 1) tNil))) (gName 2)) (ts := fun _ _ _ => tNever) (Wout := fun _ _ _ _ => False) rfl rfl ⟨rfl, by decide, .inl mN⟩ takes0
      (fun W pn xe tk _ => pss_one (ps_set (i := 2) sc_row_told.nd rfl (Or.inl rfl) (by exact (pe_call G1 hr (by rfl) m1 k1 b1 .nil pass0 (by exact (pa_cons (pv 0) (pa_cons (pv 1) pa_nil)))))))
      (fun a oe cls d pn _ _ => pss_never))
    (pss_one (ps_ret (pv 2))), ?_⟩
  exact ⟨_, rfl, _, rfl, b, r, rfl, hb, hR, hl, fun p H1 s1 hp => ⟨_, rfl, q p H1 s1 hp⟩⟩
/-! ### the desk -/
/-- a desk at x, of the base b -/
def DeskAt (C : Addr) (H : Hp) (x : Addr) (b : Int) : Prop := ∃ dx fs, H x = some (.ins C dx fs) ∧ fs.lookup ("kept_base" : Str) = some (V.int b) ∧ fs.lookup ("say" : Str) = none
theorem DeskAt.mono {C : Addr} {H H' : Hp} {x : Addr} {b : Int} (s : Same H H') (h : DeskAt C H x b) : DeskAt C H' x b := by
  obtain ⟨dx, fs, h1, h2, h3⟩ := h
  exact ⟨dx, fs, s _ _ h1, h2, h3⟩
theorem sc_init : FnScope ["self", "base"] ["self", "base"] (defScope s_desk_init) := ⟨rfl, rfl, rfl, by decide +kernel, rfl, by decide +kernel, by decide +kernel⟩
def spInit (C : Addr) : Sp := fun vs H Q _ => ∃ (x dx : Addr) (b : Int), vs = [.ref x, .int b] ∧ H x = some (.ins C dx []) ∧ ∀ H' : Hp, (∀ q o, H q = some o → q ≠ x → H' q = some o) → DeskAt C H' x b → Q .non H'
theorem ok_init {C : Addr} (F : Fun K "__init__" "Desk.__init__" s_desk_init f fd) (cD : Cls K C) (n1 : NoAttr K C "kept_base") (n2 : NoAttr K C "kept_plan") : FnOk P w K mg base CX0 1 f fd ["self", "base"] (spInit C) := by
  refine F.ok sc_init (fun vs H Q E h => ?_) (fun cdv A outer s H vs Q E hr h => ?_)
  · obtain ⟨x, dx, b, rfl, _⟩ := h
    rfl
  obtain ⟨x, dx, b, rfl, hx, q⟩ := h
  refine ⟨_, pss_cons (ps_fld (pv 0) (pv 1) rfl) (pss_one (ps_fld (pv 0) (pe_tup (pa_cons pe_int pa_nil)) rfl)), ?_⟩
  refine ⟨_, rfl, _, rfl, x, C, dx, [], rfl, hx, cD, n1, by decide, ?_⟩
  refine ⟨sz (by show 1 ≤ 100000; omega), fun p hp => ?_⟩
  have hne : x ≠ p := fun e => by
    rw [← e, upd_same] at hp
    cases hp
  refine ⟨_, rfl, x, C, dx, _, rfl, (by rw [upd_ne hne, upd_same]), cD, n2, Nat.lt_of_le_of_lt (length_putF _ _ _) (by decide), ?_⟩
  refine q _ (fun a o ha hax => ?_) ⟨dx, _, upd_same, rfl, rfl⟩
  have hap : a ≠ p := fun e => by
    rw [e] at ha hax
    rw [upd_ne hax, ha] at hp
    cases hp
  rw [upd_ne hax, upd_ne hap, upd_ne hax]
  exact ha
/-! ### lead_said -/
theorem sc_lead : FnScope ["desk", "words", "goal"] ["desk", "words"] (defScope s_lead_said) := ⟨rfl, rfl, rfl, by decide +kernel, rfl, by decide +kernel, by decide +kernel⟩
def spLead (C : Addr) : Sp := fun vs H Q _ => ∃ (x a : Addr) (b g : Int) (r : List Int) (k : Nat), vs = [.ref x, .ref a] ∧ DeskAt C H x b ∧ H a = some (.lst [.str "lead", .str (digI g), .str (rowText r)]) ∧ Bd b ∧ Bd g ∧ Row b r ∧ r.length ≤ 2000 ∧ val b r < 2 ^ k ∧ k ≤ 2000 ∧
  ∀ (t : List Int) (H' : Hp), Same H H' → Row g t → val g t = val b r → Q (.str (rowText t)) H'
theorem ok_lead {C : Addr} {g1 g2 g3 g4 g5 : Addr} {gd1 gd2 gd3 gd4 gd5 : FuncData} {tk : Tok} (F : Fun K "lead_said" "lead_said" s_lead_said f fd) (cD : Cls K C) (n1 : NoAttr K C "kept_base")
    (G1 : FnOk P w K mg base CX0 1 g1 gd1 ["holds"] spWant) (b1 : Binds K gd1 ["holds"] []) (k1 : PySem.W.keepIn K (.ref g1) = true) (m1 : mg "want" = some (.ref g1))
    (G2 : FnOk P w K mg base CX0 2 g2 gd2 ["word", "least", "greatest"] spTold) (b2 : Binds K gd2 ["word", "least", "greatest"] []) (k2 : PySem.W.keepIn K (.ref g2) = true) (m2 : mg "number_told_desk" = some (.ref g2))
    (G3 : FnOk P w K mg base CX0 2 g3 gd3 ["row"] spShowRow) (b3 : Binds K gd3 ["row"] []) (k3 : PySem.W.keepIn K (.ref g3) = true) (m3 : mg "show_row" = some (.ref g3))
    (G4 : FnOk P w K mg base CX0 2 g4 gd4 ["base", "goal", "row"] spLed) (b4 : Binds K gd4 ["base", "goal", "row"] []) (k4 : PySem.W.keepIn K (.ref g4) = true) (m4 : mg "led" = some (.ref g4))
    (G5 : FnOk P w K mg base CX0 4 g5 gd5 ["base", "word"] spReadRow) (b5 : Binds K gd5 ["base", "word"] []) (k5 : PySem.W.keepIn K (.ref g5) = true) (m5 : mg "row_told" = some (.ref g5))
    (ml : mg "len" = none) (mN : mg "MOST_NUMBER" = some (.int 1000000 tk)) : FnOk P w K mg base CX0 5 f fd ["desk", "words"] (spLead C) := by
  refine F.ok sc_lead (fun vs H Q E h => ?_) (fun cdv A outer s H vs Q E hr h => ?_)
  · obtain ⟨x, a, b, g, r, k, rfl, _⟩ := h
    rfl
  obtain ⟨x, a, b, g, r, k, rfl, hD, ha, hb, hg, hR, hl, hk, hk2, q⟩ := h
  have hr2 : Room 2 _ := hr.mono (by decide : 2 ≤ 4)
  have hr1 : Room 1 _ := hr.mono (by decide : 1 ≤ 4)
  refine ⟨_, pss_cons (ps_expr (pe_call G1 hr1 (by rfl) m1 k1 b1 .nil pass0 (pa_cons (pe_cmpR op_eq (pe_callB call_len (by rfl) ml PySem.boot_len (pa_cons (pv 1) pa_nil)) pe_int (nomark _)) pa_nil)))
    (pss_cons (ps_set (i := 2) sc_lead.nd rfl (Or.inl rfl) (pe_call G2 hr2 (by rfl) m2 k2 b2 .nil pass0 (pa_cons (pe_ix ix_list (pv 1) pe_int (fun _ _ => rfl)) (pa_cons pe_int (pa_cons (pe_glob (v := .int 1000000) (by rfl) mN ⟨_, rfl⟩) pa_nil)))))
    (pss_one (ps_ret (pe_call G3 hr2 (by rfl) m3 k3 b3 .nil pass0 (pa_cons (pe_call G4 hr2 (by rfl) m4 k4 b4 .nil pass0 (pa_cons (pe_fld (pv 0) rfl) (pa_cons (pv 2)
      (pa_cons (pe_call G5 hr (by rfl) m5 k5 b5 .nil pass0 (pa_cons (pe_fld (pv 0) rfl) (pa_cons (pe_ix ix_list (pv 1) pe_int (fun _ _ => rfl)) pa_nil))) pa_nil)))) pa_nil))))), ?_⟩
  obtain ⟨dx, fs, d1, d2, d3⟩ := hD
  have g0 := hg.1
  have g1' := hg.2
  refine ⟨_, rfl, _, _, rfl, .inl ⟨_, tL ha, rfl⟩, rfl, rfl, ?_⟩
  refine ⟨_, rfl, a, _, 1, _, rfl, rfl, tL ha, at1, g, 2, 1000000, rfl, by omega, by omega, by omega, by omega, fun H1 s1 => ?_⟩
  refine ⟨_, rfl, x, C, dx, fs, _, rfl, s1 _ _ d1, cD, n1, d2, _, rfl, _, rfl, x, C, dx, fs, _, rfl, s1 _ _ d1, cD, n1, d2, ?_⟩
  refine ⟨_, rfl, a, _, 2, _, rfl, rfl, tL (s1 _ _ ha), atI_nat (j := 2) rfl, b, r, rfl, hb, hR, hl, fun p H2 s2 hp => ?_⟩
  refine ⟨b, g, p, r, rfl, hb, hg, hp, hR.1, hl, fun t z H3 s3 t1 t2 hz => ?_⟩
  refine ⟨z, t, rfl, hz, figs_of hg.2 t1.1, Nat.le_trans (row_len hg.two t1 (k := k) (by rw [t2]; exact hk)) hk2, fun H4 s4 => q t H4 (((s1.trans s2).trans s3).trans s4) t1 t2⟩
/-! ### say -/
theorem sc_say : FnScope ["self", "line", "words", "said"] ["self", "line"] (defScope s_desk_say) := ⟨rfl, rfl, rfl, by decide +kernel, rfl, by decide +kernel, by decide +kernel⟩
def spSay (C : Addr) : Sp := fun vs H Q _ => ∃ (x : Addr) (b g : Int) (r : List Int) (k : Nat), vs = [.ref x, .str (lineOf g r)] ∧ DeskAt C H x b ∧ Bd b ∧ Bd g ∧ Row b r ∧ r.length ≤ 2000 ∧ val b r < 2 ^ k ∧ k ≤ 2000 ∧
  ∀ (t : List Int) (H' : Hp), Same H H' → Row g t → val g t = val b r → Q (.str (rowText t)) H'
theorem ok_say {C d : Addr} {es : Array DictEntry} {n : Nat} {g1 g2 : Addr} {gd1 gd2 : FuncData} (F : Fun K "say" "Desk.say" s_desk_say f fd)
    (G1 : FnOk P w K mg base CX0 1 g1 gd1 ["holds"] spWant) (b1 : Binds K gd1 ["holds"] []) (k1 : PySem.W.keepIn K (.ref g1) = true) (m1 : mg "want" = some (.ref g1))
    (G2 : FnOk P w K mg base CX0 5 g2 gd2 ["desk", "words"] (spLead C)) (b2 : Binds K gd2 ["desk", "words"] []) (k2 : PySem.W.keepIn K (.ref g2) = true)
    (mA : mg "ASKED" = some (.ref d)) (D : KDict K w d es n) (hA : PySem.W.nsIn K d "lead" = some (some (.ref g2))) (mi : mg "isinstance" = none) (ms : mg "str" = none) : FnOk P w K mg base CX0 6 f fd ["self", "line"] (spSay C) := by
  refine F.ok sc_say (fun vs H Q E h => ?_) (fun cdv A outer s H vs Q E hr h => ?_)
  · obtain ⟨x, b, g, r, k, rfl, _⟩ := h
    rfl
  obtain ⟨x, b, g, r, k, rfl, hD, hb, hg, hR, hl, hk, hk2, q⟩ := h
  have hr1 : Room 1 _ := hr.mono (by decide : 1 ≤ 5)
  refine ⟨_, pss_cons (ps_expr (pe_call G1 hr1 (by rfl) m1 k1 b1 .nil pass0 (pa_cons (pe_callB call_isi (by rfl) mi PyProof.Rows.boot_isinstance (pa_cons (pv 1) (pa_cons (pe_bltn (v := .ty "str") (by rfl) ms PyProof.Rows.boot_str rfl) pa_nil))) pa_nil)))
    (pss_cons (ps_set (i := 2) sc_say.nd rfl (Or.inl rfl) (pe_split (pv 1) pe_str))
    (pss_cons (ps_expr (pe_call G1 hr1 (by rfl) m1 k1 b1 .nil pass0 (pa_cons (pe_cmpR (op_in_kd D) (pe_ix ix_list (pv 2) pe_int (fun _ _ => rfl)) (pe_glob (v := .ref d) (by rfl) mA rfl) (by rfl)) pa_nil)))
    (pss_cons (ps_set (i := 3) sc_say.nd rfl (Or.inl rfl) (pe_ix (ix_kd D) (pe_glob (v := .ref d) (by rfl) mA rfl) (pe_ix ix_list (pv 2) pe_int (fun _ _ => rfl)) (fun _ _ => rfl)))
    (pss_one (ps_ret (pe_callL (i := 3) G2 hr rfl (Or.inl rfl) k2 b2 .nil pass0 (pa_cons (pv 0) (pa_cons (pv 2) pa_nil)))))))), ?_⟩
  have hf := figs_of hb.2 hR.1
  have g0 := hg.1
  have hlen := line_len (g := g) (by omega) hg.2 hf
  refine ⟨_, rfl, _, _, _, _, _, rfl, .ty _, .base (.str _), kit_ty (by decide +kernel), rfl, ?_⟩
  refine ⟨_, rfl, ⟨_, rfl⟩, _, _, rfl, rfl, by decide +kernel, sz (by omega), fun p hp => ?_⟩
  rw [line_split (by omega) hf]
  have kp := same_new hp (.lst ([("lead" : Str), digI g, rowText r].map V.str))
  have hp2 : upd H p (.lst ([("lead" : Str), digI g, rowText r].map V.str)) p = some (.lst [.str "lead", .str (digI g), .str (rowText r)]) := upd_same
  refine ⟨_, rfl, p, _, 0, _, rfl, rfl, tL hp2, at0, _, _, rfl, rfl, hA, rfl, ?_⟩
  refine ⟨_, rfl, p, _, 0, _, rfl, rfl, tL hp2, at0, _, _, .ref g2, rfl, rfl, hA, rfl, ?_⟩
  exact ⟨rfl, _, rfl, _, rfl, x, p, b, g, r, k, rfl, hD.mono kp, hp2, hb, hg, hR, hl, hk, hk2, fun t H' s1 t1 t2 => q t H' (kp.trans s1) t1 t2⟩
end
end Bz

set_option maxHeartbeats 4000000
namespace Bz
open PySem PySem.Spec PyProof.Rows L2 TL
/-- a pot at p: three ints -/
def PotAt (H : Hp) (p : Addr) : Prop := ∃ d m c : Int, H p = some (.lst [.int d, .int m, .int c])
/-- all but p is as it was -/
def But (p : Addr) (H H' : Hp) : Prop := ∀ c o, c ≠ p → H c = some o → H' c = some o
theorem But.refl (p : Addr) (H : Hp) : But p H H := fun _ _ _ h => h
theorem But.trans {p : Addr} {H H1 H2 : Hp} (a : But p H H1) (b : But p H1 H2) : But p H H2 := fun c o n h => b c o n (a c o n h)
theorem same_but {p : Addr} {H H' : Hp} (s : Same H H') : But p H H' := fun c o _ h => s c o h
theorem but_upd {p : Addr} {H : Hp} {o : HO} : But p H (upd H p o) := fun c u n h => by rw [upd_ne n]; exact h
theorem but_mut {p a : Addr} {H H' : Hp} {o : HO} (e : But p H H') (h : H a = none) : But p H (upd H' a o) := fun c u n hc => by
  rw [upd_ne (ne_of_none hc h)]
  exact e c u n hc
theorem PotAt.upd {p : Addr} {H : Hp} {d m c : Int} : PotAt (L2.upd H p (.lst [.int d, .int m, .int c])) p := ⟨d, m, c, upd_same⟩
theorem PotAt.ne {p a : Addr} {H : Hp} (h : PotAt H p) (ha : H a = none) : p ≠ a := by
  obtain ⟨d, m, c, e⟩ := h
  exact ne_of_none e ha
theorem PotAt.new {p a : Addr} {H : Hp} {o : HO} (h : PotAt H p) (ha : H a = none) : PotAt (L2.upd H a o) p := by
  have n := h.ne ha
  obtain ⟨d, m, c, e⟩ := h
  exact ⟨d, m, c, by rw [upd_ne n]; exact e⟩
theorem PotAt.other {p a : Addr} {H : Hp} {o : HO} (h : PotAt H p) (n : p ≠ a) : PotAt (L2.upd H a o) p := by
  obtain ⟨d, m, c, e⟩ := h
  exact ⟨d, m, c, by rw [upd_ne n]; exact e⟩
theorem at2 {x y z : V} {xs : List V} : atI (x :: y :: z :: xs) 2 = some z := atI_nat (j := 2) rfl
theorem pick {p : Int → Prop} {ns : List Int} {k : Int} (h0 : 0 ≤ k) (h1 : k < (ns.length : Int)) (hb : ∀ x ∈ ns, p x) : ∃ x, atI (iv ns) k = some (.int x) ∧ p x := by
  have hk : k.toNat < ns.length := by omega
  have hx := at_iv (List.getElem?_eq_getElem hk)
  rw [Int.toNat_of_nonneg h0] at hx
  exact ⟨_, hx, hb _ (List.getElem_mem hk)⟩
theorem ite_small (b : Bool) : -(2 ^ 64) < (if b then (1 : Int) else 0) ∧ (if b then (1 : Int) else 0) < 2 ^ 64 := by cases b <;> decide
theorem z1 : (0 : Int) < 2147483647 := by decide
theorem z2 : (0 : Int) < 2147483629 := by decide
theorem z3 : (0 : Int) < 40009 := by decide
theorem z4 : (0 : Int) < 1009 := by decide
theorem z5 : (0 : Int) < 998244353 := by decide
section
variable {P : Program} {w : World} {K : PySem.W.Frag} {mg : Str → Option Value} {base : Heap} {f : Addr} {fd : FuncData}
/-! ### _law_pot -/
theorem sc_pot : FnScope ["_law_script", "_law_k", "_law_cell", "_law_digits"] ["_law_script", "_law_k"] (defScope s_law_pot) := ⟨rfl, rfl, rfl, by decide +kernel, rfl, by decide +kernel, by decide +kernel⟩
def spPot (K : PySem.W.Frag) : Sp := fun vs H Q _ => ∃ (a : Addr) (ns : List Int) (k : Nat), vs = [.ref a, .int (k : Int)] ∧ SqL K H a (iv ns) ∧ ∀ (p : Addr) (H' : Hp), H p = none → Same H H' → PotAt H' p → Q (.ref p) H'
theorem ok_pot (F : Fun K "_law_pot" "_law_pot" s_law_pot f fd) (ml : mg "len" = none) (ma : mg "abs" = none) (mi : mg "int" = none) : FnOk P w K mg base CX0 1 f fd ["_law_script", "_law_k"] (spPot K) := by
  refine F.ok sc_pot (fun vs H Q E h => ?_) (fun cdv A outer s H vs Q E hr h => ?_)
  · obtain ⟨a, ns, k, rfl, _⟩ := h
    rfl
  obtain ⟨a, ns, k, rfl, hS, q⟩ := h
  refine ⟨_, pss_cons (ps_set (i := 2) sc_pot.nd rfl (Or.inl rfl) pe_int)
    (pss_cons (ps_if (pt_cmpR op_lt (pv 1) (pe_callB call_len (by rfl) ml PySem.boot_len (pa_cons (pv 0) pa_nil)) (nomark _)) (pss_one (ps_set (i := 2) sc_pot.nd rfl (Or.inl rfl) (pe_ix ix_list (pv 0) (pv 1) (fun _ _ => rfl)))) pss_nil)
    (pss_cons (ps_set (i := 3) sc_pot.nd rfl (Or.inl rfl) (pe_op op_mul (pe_callB call_abs (by rfl) ma PyProof.Rows.boot_abs (pa_cons (pv 2) pa_nil))
      (pe_callTy call_int1 (by rfl) mi PyProof.Rows.boot_int (pa_cons (pe_cmpR op_ge (pe_callB call_abs (by rfl) ma PyProof.Rows.boot_abs (pa_cons (pv 2) pa_nil)) (pe_op op_pow pe_int pe_int) (nomark _)) pa_nil))))
    (pss_one (ps_ret (pe_lst (pa_cons (pv 3) (pa_cons (pe_op op_mod (pe_op op_mul (pe_op op_add (pe_op op_add (pe_op op_mod (pv 2) pe_int) (pe_op op_mul pe_int (pv 1))) pe_int) pe_int) pe_int) (pa_cons pe_int pa_nil)))))))), ?_⟩
  have fin : ∀ c : Int, tSeq (tAsg (tOp (rI CMul fun i j => .int (i * j)) (tCB (fun xs H Q => ∃ i, xs = [.int i] ∧ Q (.int (if i < 0 then -i else i)) H) (tCons (tVar 2) tNil))
      (tCB (fun xs H Q => (∃ i, xs = [.int i] ∧ Q (.int i) H) ∨ ∃ k, xs = [.bl k] ∧ Q (.int (if k then 1 else 0)) H) (tCons (tOp (rI0 fun i j => .bl (decide (j ≤ i))) (tCB (fun xs H Q => ∃ i, xs = [.int i] ∧ Q (.int (if i < 0 then -i else i)) H) (tCons (tVar 2) tNil)) (tOp (rI CPow fun i j => .int (i ^ j.toNat)) (tC (.int 10)) (tC (.int 18)))) tNil))) (gName 3))
      (tRet (tLst (tCons (tVar 3) (tCons (tOp (rI (fun _ j => 0 < j) fun i j => .int (i % j)) (tOp (rI CMul fun i j => .int (i * j)) (tOp (rI0 fun i j => .int (i + j)) (tOp (rI0 fun i j => .int (i + j)) (tOp (rI (fun _ j => 0 < j) fun i j => .int (i % j)) (tVar 2) (tC (.int 2147483647))) (tOp (rI CMul fun i j => .int (i * j)) (tC (.int 7919)) (tVar 1))) (tC (.int 11))) (tC (.int 48271))) (tC (.int 2147483629))) (tCons (tC (.int 60)) tNil)))))
      { nx := fun _ H' => Q .non H', rt := Q } [some (.ref a), some (.int (k : Int)), some (.int c), none] H := fun c => by
    refine ⟨_, rfl, _, rfl, _, rfl, _, rfl, _, _, rfl, rfl, ⟨by decide, by decide, by decide⟩, _, _, rfl, rfl, .inr ⟨_, rfl, ?_⟩⟩
    refine ⟨_, _, rfl, rfl, .inr (ite_small _), ?_⟩
    refine ⟨_, rfl, _, rfl, _, _, rfl, rfl, z1, _, rfl, _, _, rfl, rfl, .inl ⟨by decide, by decide⟩, _, _, rfl, rfl, _, _, rfl, rfl, _, _, rfl, rfl, .inr ⟨by decide, by decide⟩, _, _, rfl, rfl, z2, sz (by show 3 ≤ 100000; omega), fun p hp => ?_⟩
    exact q p _ hp (same_new hp _) ⟨_, _, _, upd_same⟩
  refine ⟨_, rfl, _, rfl, _, _, rfl, .inl ⟨_, hS, rfl⟩, _, _, rfl, rfl, _, rfl, ?_⟩
  by_cases c : k < ns.length
  · rw [decide_eq_true (show (k : Int) < (((iv ns).length : Nat) : Int) by rw [iv_len]; omega)]
    exact iteT ⟨_, rfl, _, rfl, a, _, _, _, rfl, rfl, hS, at_iv (List.getElem?_eq_getElem c), fin _⟩
  · rw [decide_eq_false (show ¬ (k : Int) < (((iv ns).length : Nat) : Int) by rw [iv_len]; omega)]
    exact iteF (fin 0)
/-! ### _law_take -/
theorem sc_take : FnScope ["_law_pot_here", "_law_many", "_law_found", "_law_once"] ["_law_pot_here", "_law_many"] (defScope s_law_take) := ⟨rfl, rfl, rfl, by decide +kernel, rfl, by decide +kernel, by decide +kernel⟩
def spTake : Sp := fun vs H Q _ => ∃ (p : Addr) (m : Int), vs = [.ref p, .int m] ∧ PotAt H p ∧ 0 < m ∧ m ≤ 1000000 ∧ ∀ (k : Int) (H' : Hp), 0 ≤ k → k < m → PotAt H' p → But p H H' → Q (.int k) H'
theorem ok_take (F : Fun K "_law_take" "_law_take" s_law_take f fd) : FnOk P w K mg base CX0 1 f fd ["_law_pot_here", "_law_many"] spTake := by
  refine F.ok sc_take (fun vs H Q E h => ?_) (fun cdv A outer s H vs Q E hr h => ?_)
  · obtain ⟨p, m, rfl, _⟩ := h
    rfl
  obtain ⟨p, m, rfl, hP, h0, h1, q⟩ := h
  refine ⟨_, pss_cons (ps_if (PW.pt (pw_and (pt_cmpR op_gt (pe_ix ix_list (pv 0) pe_int (fun _ _ => rfl)) pe_int (nomark _)) (pw_and1 (pt_cmpR op_gt (pe_ix ix_list (pv 0) pe_int (fun _ _ => rfl)) pe_int (nomark _)))))
      (pss_cons (ps_set (i := 2) sc_take.nd rfl (Or.inl rfl) (pe_op op_mod (pe_ix ix_list (pv 0) pe_int (fun _ _ => rfl)) (pv 1)))
      (pss_cons (ps_asg (pe_op op_fdivN (pe_ix ix_list (pv 0) pe_int (fun _ _ => rfl)) (pv 1)) (pg_sub (pv 0) pe_int set_list))
      (pss_cons (ps_asg (pe_op op_sub (pe_ix ix_list (pv 0) pe_int (fun _ _ => rfl)) pe_int) (pg_sub (pv 0) pe_int set_list))
      (pss_one (ps_ret (pv 2)))))) pss_nil)
    (pss_cons (ps_asg (pe_op op_mod (pe_op op_mul (pe_op op_add (pe_ix ix_list (pv 0) pe_int (fun _ _ => rfl)) pe_int) pe_int) pe_int) (pg_sub (pv 0) pe_int set_list))
    (pss_cons (ps_set (i := 3) sc_take.nd rfl (Or.inl rfl) (pe_op op_mod (pe_op op_mul (pe_ix ix_list (pv 0) pe_int (fun _ _ => rfl)) (pe_op op_add (pe_op op_mod (pe_ix ix_list (pv 0) pe_int (fun _ _ => rfl)) pe_int) pe_int)) pe_int))
    (pss_one (ps_ret (pe_op op_mod (pe_op op_fdiv (pe_op op_mod (pe_op op_mul (pv 3) (pe_op op_add (pe_op op_mod (pv 3) pe_int) pe_int)) pe_int) pe_int) (pv 1)))))), ?_⟩
  obtain ⟨d, e, c, hp⟩ := hP
  have small : ∀ (x j a : Int), 0 < j → j ≤ 1000000 → 0 ≤ a → a ≤ 1000 → -(2 ^ 64) < x % j + a ∧ x % j + a < 2 ^ 64 := fun x j a hj hj2 ha ha2 => by
    have m0 := Int.emod_nonneg x (show j ≠ 0 by omega)
    have m1 := Int.emod_lt_of_pos x hj
    constructor <;> omega
  have rest : tSeq (tAsg (tOp (rI (fun _ j => 0 < j) fun i j => .int (i % j)) (tOp (rI CMul fun i j => .int (i * j)) (tOp (rI0 fun i j => .int (i + j)) (tOp (rIxL K) (tVar 0) (tC (.int 1))) (tC (.int 39373))) (tC (.int 48271))) (tC (.int 2147483647))) (gSub (tVar 0) (tC (.int 1)) rSetL))
      (tSeq (tAsg (tOp (rI (fun _ j => 0 < j) fun i j => .int (i % j)) (tOp (rI CMul fun i j => .int (i * j)) (tOp (rIxL K) (tVar 0) (tC (.int 1))) (tOp (rI0 fun i j => .int (i + j)) (tOp (rI (fun _ j => 0 < j) fun i j => .int (i % j)) (tOp (rIxL K) (tVar 0) (tC (.int 1))) (tC (.int 40009))) (tC (.int 7)))) (tC (.int 2147483629))) (gName 3))
      (tRet (tOp (rI (fun _ j => 0 < j) fun i j => .int (i % j)) (tOp (rI CDiv fun i j => .int (i / j)) (tOp (rI (fun _ j => 0 < j) fun i j => .int (i % j)) (tOp (rI CMul fun i j => .int (i * j)) (tVar 3) (tOp (rI0 fun i j => .int (i + j)) (tOp (rI (fun _ j => 0 < j) fun i j => .int (i % j)) (tVar 3) (tC (.int 1009))) (tC (.int 3)))) (tC (.int 998244353))) (tC (.int 7))) (tVar 1))))
      { nx := fun _ H' => Q .non H', rt := Q } [some (.ref p), some (.int m), none, none] H := by
    refine ⟨_, rfl, p, _, _, _, rfl, rfl, tL hp, at1, _, _, rfl, rfl, _, _, rfl, rfl, .inr ⟨by decide, by decide⟩, _, _, rfl, rfl, z1, _, rfl, p, _, _, 1, rfl, rfl, hp, rfl, ?_⟩
    refine ⟨_, rfl, p, _, _, _, rfl, rfl, tL upd_same, at1, _, rfl, p, _, _, _, rfl, rfl, tL upd_same, at1, _, _, rfl, rfl, z3, _, _, rfl, rfl, _, _, rfl, rfl, .inr (small _ _ _ (by decide) (by decide) (by decide) (by decide)), _, _, rfl, rfl, z2, ?_⟩
    refine ⟨_, rfl, _, rfl, _, _, rfl, rfl, z4, _, _, rfl, rfl, _, _, rfl, rfl, .inr (small _ _ _ (by decide) (by decide) (by decide) (by decide)), _, _, rfl, rfl, z5, _, _, rfl, rfl, ⟨by decide, by decide⟩, _, rfl, _, _, rfl, rfl, h0, ?_⟩
    exact q _ _ (Int.emod_nonneg _ (by omega)) (Int.emod_lt_of_pos _ h0) ⟨_, _, _, upd_same⟩ but_upd
  refine ⟨_, rfl, p, _, 0, _, rfl, rfl, tL hp, at0, _, _, rfl, rfl, _, rfl, ?_⟩
  by_cases c1 : 0 < d
  · rw [decide_eq_true c1]
    refine iteT ⟨_, rfl, p, _, 2, _, rfl, rfl, tL hp, at2, _, _, rfl, rfl, _, rfl, ?_⟩
    by_cases c2 : 0 < c
    · rw [decide_eq_true c2]
      refine iteT ⟨_, rfl, p, _, 0, _, rfl, rfl, tL hp, at0, _, rfl, _, _, rfl, rfl, h0, ?_⟩
      refine ⟨_, rfl, p, _, 0, _, rfl, rfl, tL hp, at0, _, rfl, _, _, rfl, rfl, ⟨by omega, by omega⟩, _, rfl, p, _, _, 0, rfl, rfl, hp, rfl, ?_⟩
      refine ⟨_, rfl, p, _, 2, _, rfl, rfl, tL upd_same, at2, _, _, rfl, rfl, _, rfl, p, _, _, 2, rfl, rfl, upd_same, rfl, ?_⟩
      exact ⟨_, rfl, q _ _ (Int.emod_nonneg _ (by omega)) (Int.emod_lt_of_pos _ h0) ⟨_, _, _, upd_same⟩ (but_upd.trans but_upd)⟩
    · rw [decide_eq_false c2]
      exact iteF rest
  · rw [decide_eq_false c1]
    exact iteF (iteF rest)
end
end Bz

set_option maxHeartbeats 4000000
namespace Bz
open PySem PySem.Spec PyProof.Rows L2 TL
section
variable {P : Program} {w : World} {K : PySem.W.Frag} {mg : Str → Option Value} {base : Heap} {f : Addr} {fd : FuncData}
/-! ### _law_base -/
theorem sc_base : FnScope ["_law_pot_here", "_law_some"] ["_law_pot_here"] (defScope s_law_base) := ⟨rfl, rfl, rfl, by decide +kernel, rfl, by decide +kernel, by decide +kernel⟩
def spBase : Sp := fun vs H Q _ => ∃ p : Addr, vs = [.ref p] ∧ PotAt H p ∧ ∀ (b : Int) (H' : Hp), Bd b → PotAt H' p → But p H H' → Q (.int b) H'
theorem ok_base {g : Addr} {gd : FuncData} (F : Fun K "_law_base" "_law_base" s_law_base f fd) (G : FnOk P w K mg base CX0 1 g gd ["_law_pot_here", "_law_many"] spTake) (bG : Binds K gd ["_law_pot_here", "_law_many"] []) (kG : PySem.W.keepIn K (.ref g) = true) (mG : mg "_law_take" = some (.ref g)) :
    FnOk P w K mg base CX0 2 f fd ["_law_pot_here"] spBase := by
  refine F.ok sc_base (fun vs H Q E h => ?_) (fun cdv A outer s H vs Q E hr h => ?_)
  · obtain ⟨p, rfl, _⟩ := h
    rfl
  obtain ⟨p, rfl, hP, q⟩ := h
  refine ⟨_, pss_cons (ps_set (i := 1) sc_base.nd rfl (Or.inl rfl) (pe_lst (pa_cons pe_int (pa_cons pe_int (pa_cons pe_int (pa_cons pe_int (pa_cons pe_int (pa_cons pe_int (pa_cons (pe_op op_pow pe_int pe_int) (pa_cons (pe_op op_add pe_int (pe_call G hr (by rfl) mG kG bG .nil pass0 (pa_cons (pv 0) (pa_cons pe_int pa_nil)))) pa_nil))))))))))
    (pss_cons (ps_expr (pe_bm PySem.F.plainAttrs_list PySem.F.slot_list_append PySem.F.type_list_append mt_append (pv 1) (pa_cons (pe_op op_add pe_int (pe_call G hr (by rfl) mG kG bG .nil pass0 (pa_cons (pv 0) (pa_cons (pe_op op_sub (pe_op op_pow pe_int pe_int) pe_int) pa_nil)))) pa_nil)))
    (pss_one (ps_ret (pe_ix ix_list (pv 1) (pe_call G hr (by rfl) mG kG bG .nil pass0 (pa_cons (pv 0) (pa_cons pe_int pa_nil))) (fun _ _ => rfl))))), ?_⟩
  have e6 : (10 : Int) ^ (6 : Int).toNat = 1000000 := by decide
  refine ⟨_, _, rfl, rfl, ⟨by decide, by decide, by decide⟩, ?_⟩
  simp only [e6]
  refine ⟨_, rfl, p, 99, rfl, hP, by decide, by decide, fun k1 H1 a1 a2 P1 B1 => ⟨_, _, rfl, rfl, ?_⟩⟩
  refine ⟨sz (by show 8 ≤ 100000; omega), fun l hl => ?_⟩
  have P2 := P1.new (o := .lst (iv [2, 3, 10, 16, 256, 999, 1000000, 2 + k1])) hl
  have hpl : p ≠ l := P1.ne hl
  refine ⟨_, rfl, .inl ⟨rfl, _, tL upd_same⟩, _, rfl, _, _, rfl, rfl, ⟨by decide, by decide, by decide⟩, ?_⟩
  simp only [e6]
  refine ⟨_, _, rfl, rfl, p, _, rfl, P2, by decide, by decide, fun k2 H2 a3 a4 P3 B2 => ⟨_, _, rfl, rfl, ?_⟩⟩
  have hl2 : H2 l = some (.lst (iv [2, 3, 10, 16, 256, 999, 1000000, 2 + k1])) := B2 l _ (Ne.symm hpl) upd_same
  refine ⟨l, _, _, rfl, rfl, hl2, szl (by show 8 < 100000; omega), ?_⟩
  have P4 := P3.other (o := .lst (iv [2, 3, 10, 16, 256, 999, 1000000, 2 + k1, 2 + k2])) hpl
  refine ⟨_, rfl, _, rfl, p, 9, rfl, P4, by decide, by decide, fun k3 H3 a5 a6 P5 B3 => ?_⟩
  have hl3 : H3 l = some (.lst (iv [2, 3, 10, 16, 256, 999, 1000000, 2 + k1, 2 + k2])) := B3 l _ (Ne.symm hpl) upd_same
  obtain ⟨x, hx, hb⟩ := pick (p := Bd) (ns := [2, 3, 10, 16, 256, 999, 1000000, 2 + k1, 2 + k2]) a5 (by show k3 < 9; omega) (fun x hx => by
    simp only [List.mem_cons, List.not_mem_nil, or_false] at hx
    unfold Bd
    omega)
  refine ⟨l, _, k3, _, rfl, rfl, tL hl3, hx, q x H3 hb P5 ?_⟩
  exact fun c o n hc => B3 c o n (by
    rw [upd_ne (ne_of_none (B1 c o n hc) hl)]
    exact B2 c o n (by rw [upd_ne (ne_of_none (B1 c o n hc) hl)]; exact B1 c o n hc))
/-! ### _law_row -/
theorem sc_row : FnScope ["_law_pot_here", "_law_base_here", "_law_most", "_law_figures", "_law_way", "_law_k", "_law_some"] ["_law_pot_here", "_law_base_here", "_law_most"] (defScope s_law_row) := ⟨rfl, rfl, rfl, by decide +kernel, rfl, by decide +kernel, by decide +kernel⟩
def spRow : Sp := fun vs H Q _ => ∃ (p : Addr) (b : Int), vs = [.ref p, .int b, .int 30] ∧ Bd b ∧ PotAt H p ∧ ∀ (r : List Int) (a : Addr) (H' : Hp), Row b r → r.length ≤ 30 → H' a = some (.tup (iv r)) → PotAt H' p → But p H H' → Q (.ref a) H'
theorem iv_init (r : List Int) : iv r.dropLast = (iv r).dropLast := List.map_dropLast
theorem ok_row {g : Addr} {gd : FuncData} (F : Fun K "_law_row" "_law_row" s_law_row f fd) (G : FnOk P w K mg base CX0 1 g gd ["_law_pot_here", "_law_many"] spTake) (bG : Binds K gd ["_law_pot_here", "_law_many"] []) (kG : PySem.W.keepIn K (.ref g) = true) (mG : mg "_law_take" = some (.ref g))
    (mr : mg "range" = none) (mt : mg "tuple" = none) : FnOk P w K mg base CX0 2 f fd ["_law_pot_here", "_law_base_here", "_law_most"] spRow := by
  refine F.ok sc_row (fun vs H Q E h => ?_) (fun cdv A outer s H vs Q E hr h => ?_)
  · obtain ⟨p, b, rfl, _⟩ := h
    rfl
  obtain ⟨p, b, rfl, hb, hP, q⟩ := h
  refine ⟨_, pss_cons (ps_set (i := 3) sc_row.nd rfl (Or.inl rfl) (pe_lst pa_nil))
    (pss_cons (ps_set (i := 4) sc_row.nd rfl (Or.inl rfl) (pe_call G hr (by rfl) mG kG bG .nil pass0 (pa_cons (pv 0) (pa_cons pe_int pa_nil))))
    (pss_cons (ps_for PassesOwn.never rfl (pi_range1 (by rfl) mr (pa_cons (pe_call G hr (by rfl) mG kG bG .nil pass0 (pa_cons (pv 0) (pa_cons (pe_op op_add (pv 2) pe_int) pa_nil))) pa_nil)) (pg_name (i := 5) sc_row.nd rfl (Or.inl rfl))
      (pss_cons (ps_set (i := 6) sc_row.nd rfl (Or.inl rfl) (pe_lst (pa_cons (pe_call G hr (by rfl) mG kG bG .nil pass0 (pa_cons (pv 0) (pa_cons (pv 1) pa_nil))) (pa_cons pe_int (pa_cons (pe_op op_sub (pv 1) pe_int) (pa_cons pe_int pa_nil))))))
      (pss_one (ps_expr (pe_bm PySem.F.plainAttrs_list PySem.F.slot_list_append PySem.F.type_list_append mt_append (pv 3) (pa_cons (pe_ix ix_list (pv 6)
        (pe_ix ix_list (pe_lst (pa_cons pe_int (pa_cons pe_int (pa_cons pe_int (pa_cons pe_int (pa_cons pe_int (pa_cons (pe_call G hr (by rfl) mG kG bG .nil pass0 (pa_cons (pv 0) (pa_cons pe_int pa_nil))) pa_nil))))))) (pv 4) (fun _ _ => rfl)) (fun _ _ => rfl)) pa_nil))))))
    (pss_cons (ps_while PassesOwn.never (PW.pt (pw_and (pt_cmpR (op_neD hr.units) (pv 3) (pe_lst pa_nil) (nomark _)) (pw_and1 (pt_cmpR op_eq (pe_ix ix_list (pv 3) (pe_un un_neg pe_int) (fun _ _ => rfl)) pe_int (nomark _)))))
      (pss_one (ps_expr (pe_bm0 PySem.F.plainAttrs_list PySem.F.slot_list_pop PySem.F.type_list_pop mt_pop (pv 3)))))
    (pss_one (ps_ret (pe_callTy call_tuple_of (by rfl) mt PyProof.Rows.boot_tuple (pa_cons (pv 3) pa_nil))))))), ?_⟩
  refine ⟨sz (by show 0 ≤ 100000; omega), fun l hl => ?_⟩
  have hpl : p ≠ l := hP.ne hl
  refine ⟨_, rfl, p, 6, rfl, hP.new hl, by decide, by decide, fun wy H1 w1 w2 P1 B1 => ?_⟩
  have hl1 : H1 l = some (.lst (iv [])) := B1 l _ (Ne.symm hpl) upd_same
  have B1' : But p H H1 := fun c o n hc => B1 c o n (by rw [upd_ne (ne_of_none hc hl)]; exact hc)
  refine ⟨_, rfl, _, rfl, _, _, rfl, rfl, p, 31, rfl, P1, by decide, by decide, fun n H2 n1 n2 P2 B2 => ?_⟩
  refine ⟨n, rfl, by omega, by omega, ?_⟩
  refine for_range (lo := 0) (n := n.toNat) (fun i σ H' => ∃ (fs : List Int) (v u : Option V), σ = [some (.ref p), some (.int b), some (.int 30), some (.ref l), some (.int wy), v, u] ∧ Fig b fs ∧ fs.length = i ∧ H' l = some (.lst (iv fs)) ∧ PotAt H' p ∧ But p H H')
    ⟨[], none, none, rfl, fig_nil, rfl, B2 l _ (Ne.symm hpl) hl1, P2, B1'.trans B2⟩ ?_ ?_
  · rintro i σ H3 hi ⟨fs, v, u, rfl, hf, hfl, hl3, P3, B3⟩
    refine ⟨_, rfl, _, rfl, p, b, rfl, P3, hb.pos, hb.2, fun x H4 x1 x2 P4 B4 => ?_⟩
    refine ⟨_, rfl, _, _, rfl, rfl, sz (by show 4 ≤ 100000; omega), fun sm hsm => ?_⟩
    have hl4 : H4 l = some (.lst (iv fs)) := B4 l _ (Ne.symm hpl) hl3
    have hls : l ≠ sm := ne_of_none hl4 hsm
    have P5 := P4.new (o := .lst (iv [x, 0, b - 1, 1])) hsm
    have hps : p ≠ sm := P4.ne hsm
    refine ⟨_, rfl, .inl ⟨rfl, _, tL (by rw [upd_ne hls]; exact hl4)⟩, _, rfl, _, rfl, p, 4, rfl, P5, by decide, by decide, fun y H5 y1 y2 P6 B5 => ?_⟩
    refine ⟨sz (by show 6 ≤ 100000; omega), fun tm htm => ?_⟩
    have hsm5 : H5 sm = some (.lst (iv [x, 0, b - 1, 1])) := B5 sm _ (Ne.symm hps) upd_same
    have hl5 : H5 l = some (.lst (iv fs)) := B5 l _ (Ne.symm hpl) (by rw [upd_ne hls]; exact hl4)
    have hst : sm ≠ tm := ne_of_none hsm5 htm
    have hlt : l ≠ tm := ne_of_none hl5 htm
    obtain ⟨j, hj, hj2⟩ := pick (p := fun z => 0 ≤ z ∧ z < 4) (ns := [0, 0, 0, 1, 2, y]) w1 (by show wy < 6; omega) (fun z hz => by
      simp only [List.mem_cons, List.not_mem_nil, or_false] at hz
      omega)
    obtain ⟨z, hz, hz2⟩ := pick (p := fun z => 0 ≤ z ∧ z < b) (ns := [x, 0, b - 1, 1]) hj2.1 (by show j < 4; omega) (fun z hz => by
      have := hb.two
      simp only [List.mem_cons, List.not_mem_nil, or_false] at hz
      omega)
    refine ⟨_, rfl, tm, _, wy, _, rfl, rfl, tL upd_same, hj, sm, _, j, _, rfl, rfl, tL (by rw [upd_ne hst]; exact hsm5), hz, ?_⟩
    refine ⟨l, _, _, rfl, rfl, by rw [upd_ne hlt]; exact hl5, szl (by rw [iv_len]; omega), ?_⟩
    refine ⟨fs ++ [z], _, _, rfl, fig_append hf (fig_one hz2.1 hz2.2), by rw [List.length_append, hfl] <;> rfl, by rw [upd_same, iv_snoc], (P6.new htm).other hpl, ?_⟩
    refine but_mut ?_ hl
    intro c o nn hc
    have c4 := B4 c o nn (B3 c o nn hc)
    have c5 := B5 c o nn (by rw [upd_ne (ne_of_none c4 hsm)]; exact c4)
    rw [upd_ne (ne_of_none c5 htm)]
    exact c5
  · rintro σ H3 ⟨fs, v, u, rfl, hf, hfl, hl3, P3, B3⟩
    refine ⟨fun m σ H' => ∃ fs : List Int, σ = [some (.ref p), some (.int b), some (.int 30), some (.ref l), some (.int wy), v, u] ∧ m = fs.length ∧ Fig b fs ∧ fs.length ≤ 30 ∧ H' l = some (.lst (iv fs)) ∧ PotAt H' p ∧ But p H H',
      ⟨fs.length, fs, rfl, rfl, hf, by omega, hl3, P3, B3⟩, ?_⟩
    rintro m σ H4 ⟨gs, rfl, rfl, hg, hgl, hl4, P4, B4⟩
    refine ⟨_, rfl, sz (by show 0 ≤ 100000; omega), fun t ht => ?_⟩
    have hlt : l ≠ t := ne_of_none hl4 ht
    have kt := same_new ht (.lst [])
    have hl5 := kt _ _ hl4
    have P5 := P4.new (o := .lst []) ht
    have fin : Top gs → tRet (tCB (rTupOf K) (tCons (tVar 3) tNil)) { nx := fun _ H' => Q .non H', rt := Q } [some (.ref p), some (.int b), some (.int 30), some (.ref l), some (.int wy), v, u] (upd H4 t (.lst [])) := fun htop => by
      refine ⟨_, rfl, l, _, rfl, Or.inl ⟨tL hl5, fun a ha => ?_⟩⟩
      refine q gs a _ ⟨hg, htop⟩ hgl upd_same (P5.new ha) ((B4.trans (same_but kt)).trans (same_but (same_new ha _)))
    refine neL (s := []) hl5 upd_same ⟨_, rfl, ?_⟩
    by_cases e : gs = []
    · rw [decide_eq_true e]
      exact iteF (fin (by rw [e]; exact top_nil))
    · rw [decide_eq_false e]
      refine iteT ⟨_, rfl, 1, rfl, l, _, -1, _, rfl, rfl, tL hl5, at_last e, rfl, _, rfl, ?_⟩
      by_cases e0 : gs.getLast e = 0
      · rw [decide_eq_true (by rw [e0])]
        have hpos := List.length_pos_iff.mpr e
        refine iteT ⟨_, fun _ _ z => z, _, rfl, .inl ⟨rfl, _, tL hl5⟩, l, iv gs, .int (gs.getLast e), rfl, rfl, hl5, ?_, ?_⟩
        · rw [iv_len, List.getElem?_map, List.getLast_eq_getElem, List.getElem?_eq_getElem (by omega)] <;> rfl
        · refine ⟨gs.length - 1, by omega, gs.dropLast, rfl, by rw [List.length_dropLast], fun x hx => hg x (List.dropLast_subset gs hx), by rw [List.length_dropLast]; omega, by rw [upd_same, iv_init], P5.other hpl, ?_⟩
          exact but_mut (B4.trans (same_but kt)) hl
      · rw [decide_eq_false (fun z => e0 (V.int.inj z))]
        exact iteF (fin fun x hx => by
          rw [List.getLast?_eq_some_getLast e] at hx
          cases hx
          exact e0)
end
end Bz

set_option maxHeartbeats 4000000
namespace Bz
open PySem PySem.Spec PyProof.Rows L2 TL
/-- one more: a row by one figure longer at most -/
theorem more_len {b : Int} (hb : 2 ≤ b) {r s : List Int} (hr : Fig b r) (hs : Row b s) (e : val b s = val b r + 1) : s.length ≤ r.length + 1 := by
  by_cases hn : s = []
  · rw [hn]
    exact Nat.zero_le _
  have h1 := val_ge (by omega) hs hn
  have h2 := val_lt (by omega : 0 < b) hr
  by_cases c : s.length ≤ r.length + 1
  · exact c
  have h3 : b ^ (r.length + 1) ≤ b ^ (s.length - 1) := by
    obtain ⟨k, hk⟩ : ∃ k, s.length - 1 = r.length + 1 + k := ⟨s.length - 1 - (r.length + 1), by omega⟩
    rw [hk, Int.pow_add b (r.length + 1) k]
    have p1 := pow_pos (by omega : 0 < b) k
    have p2 := pow_pos (by omega : 0 < b) (r.length + 1)
    have : b ^ (r.length + 1) * 1 ≤ b ^ (r.length + 1) * b ^ k := Int.mul_le_mul_of_nonneg_left (by omega) (by omega)
    omega
  rw [Int.pow_succ] at h3
  have p3 := pow_pos (by omega : 0 < b) r.length
  have h4 : b ^ r.length * 2 ≤ b ^ r.length * b := Int.mul_le_mul_of_nonneg_left hb (by omega)
  omega
theorem ne_false {x y : V} (h : x = y) : (!decide (x = y)) = false := by rw [decide_eq_true h] <;> rfl
theorem ne_falseL {x y : List Int} (h : x = y) : (!decide (x = y)) = false := by rw [decide_eq_true h] <;> rfl
section
variable {P : Program} {w : World} {K : PySem.W.Frag} {mg : Str → Option Value} {base : Heap} {f : Addr} {fd : FuncData}
/-! ### _law_leaves -/
theorem sc_leaves : FnScope ["_law_base_here", "_law_goal", "_law_row_here", "_law_tree", "_law_top", "_law_below", "_law_low", "_law_high", "_law_first", "_law_second"] ["_law_base_here", "_law_goal", "_law_row_here", "_law_tree"] (defScope s_law_leaves) := ⟨rfl, rfl, rfl, by decide +kernel, rfl, by decide +kernel, by decide +kernel⟩
def spLeaves (n : Nat) : Sp := fun vs H Q _ => ∃ (b g : Int) (a p : Addr) (r : List Int) (t : Tr), vs = [.int b, .int g, .ref a, .ref p] ∧ Bd b ∧ Bd g ∧ H a = some (.tup (iv r)) ∧ Row b r ∧ r.length ≤ 2 ^ n ∧ r.length ≤ 2000 ∧ TrAt H p t ∧ TreeOf b g r t ∧
  ∀ H' : Hp, Same H H' → Q (.int (t.leaves : Nat)) H'
theorem ok_leaves {g1 g2 : Addr} {gd1 gd2 : FuncData} (F : Fun K "_law_leaves" "_law_leaves" s_law_leaves f fd) (bF : Binds K fd ["_law_base_here", "_law_goal", "_law_row_here", "_law_tree"] []) (mF : mg "_law_leaves" = some (.ref f))
    (G1 : FnOk P w K mg base CX0 1 g1 gd1 ["base", "row"] spNum) (b1 : Binds K gd1 ["base", "row"] []) (k1 : PySem.W.keepIn K (.ref g1) = true) (m1 : mg "number_of" = some (.ref g1))
    (G2 : FnOk P w K mg base CX0 2 g2 gd2 ["row", "at"] spCut) (b2 : Binds K gd2 ["row", "at"] []) (k2 : PySem.W.keepIn K (.ref g2) = true) (m2 : mg "cut" = some (.ref g2)) (ml : mg "len" = none) :
    ∀ n : Nat, FnOk P w K mg base CX0 (n + 3) f fd ["_law_base_here", "_law_goal", "_law_row_here", "_law_tree"] (spLeaves n)
  | 0 => by
    refine F.ok sc_leaves (fun vs H Q E h => ?_) (fun cdv A outer s H vs Q E hr h => ?_)
    · obtain ⟨b, g, a, p, r, t, rfl, _⟩ := h
      rfl
    obtain ⟨b, g, a, p, r, t, rfl, hb, hg, ha, hR, hl, hl2, hT, hO, q⟩ := h
    have hr1 : Room 1 _ := hr.mono (by decide : 1 ≤ 2)
    refine ⟨_, pss_cons (ps_asg (pv 3) (pg_tup rfl (pgs_cons (pg_name (i := 4) sc_leaves.nd rfl (.inl rfl)) (pgs_cons (pg_name (i := 5) sc_leaves.nd rfl (.inl rfl)) pgs_nil))))
      (pss_cons (ps_if (pt_cmpR op_ne (pe_call G1 hr1 (by rfl) m1 k1 b1 .nil pass0 (pa_cons (pv 1) (pa_cons (pv 4) pa_nil))) (pe_call G1 hr1 (by rfl) m1 k1 b1 .nil pass0 (pa_cons (pv 0) (pa_cons (pv 2) pa_nil))) (nomark _)) pss_never pss_nil)
      (pss_cons (ps_if (pt_cmpR op_lt (pe_callB call_len (by rfl) ml PySem.boot_len (pa_cons (pv 2) pa_nil)) pe_int (nomark _)) (pss_one (ps_ret (pe_ifExp (pt_cmpR (op_eqD hr.units) (pv 5) (pe_tup pa_nil) (nomark _)) pe_int (pe_un un_neg pe_int)))) pss_nil) pss_never)), ?_⟩
    have hl1 : r.length ≤ 1 := hl
    obtain ⟨o1, o2⟩ := hO.top
    cases hO with
    | node h2 _ _ _ _ => exact absurd h2 (by omega)
    | @leaf _ t0 h1 _ _ =>
      obtain ⟨z, e, e1, e2, e3⟩ := hT
      refine ⟨_, rfl, p, _, rfl, tT e1, rfl, _, _, rfl, _, _, rfl, rfl, ?_⟩
      refine ⟨_, rfl, _, rfl, g, z, _, rfl, hg, e2, _, rfl, _, rfl, b, a, r, rfl, hb, ha, rfl, _, rfl, ?_⟩
      rw [ne_false (congrArg V.int (show val g t0 = val b r from o2))]
      refine iteF ⟨_, rfl, _, _, rfl, .inr ⟨_, tT ha, (iv_len r).symm⟩, _, _, rfl, rfl, _, rfl, ?_⟩
      rw [decide_eq_true (show (r.length : Int) < 2 by omega)]
      refine iteT ⟨_, rfl, sz (by show 0 ≤ 100000; omega), fun u hu => ?_⟩
      have ku := same_new hu (.tup [])
      exact eqT (r := []) (s := []) (ku _ _ e3) upd_same ⟨_, rfl, iteT (q _ ku)⟩
  | n + 1 => by
    have ih := ok_leaves F bF mF G1 b1 k1 m1 G2 b2 k2 m2 ml n
    refine F.ok sc_leaves (fun vs H Q E h => ?_) (fun cdv A outer s H vs Q E hr h => ?_)
    · obtain ⟨b, g, a, p, r, t, rfl, _⟩ := h
      rfl
    obtain ⟨b, g, a, p, r, t, rfl, hb, hg, ha, hR, hl, hl2, hT, hO, q⟩ := h
    have hr1 : Room 1 _ := hr.mono (by omega : 1 ≤ n + 3)
    have hr2 : Room 2 _ := hr.mono (by omega : 2 ≤ n + 3)
    refine ⟨_, pss_cons (ps_asg (pv 3) (pg_tup rfl (pgs_cons (pg_name (i := 4) sc_leaves.nd rfl (.inl rfl)) (pgs_cons (pg_name (i := 5) sc_leaves.nd rfl (.inl rfl)) pgs_nil))))
      (pss_cons (ps_if (pt_cmpR op_ne (pe_call G1 hr1 (by rfl) m1 k1 b1 .nil pass0 (pa_cons (pv 1) (pa_cons (pv 4) pa_nil))) (pe_call G1 hr1 (by rfl) m1 k1 b1 .nil pass0 (pa_cons (pv 0) (pa_cons (pv 2) pa_nil))) (nomark _)) pss_never pss_nil)
      (pss_cons (ps_if (pt_cmpR op_lt (pe_callB call_len (by rfl) ml PySem.boot_len (pa_cons (pv 2) pa_nil)) pe_int (nomark _)) (pss_one (ps_ret (pe_ifExp (pt_cmpR (op_eqD hr.units) (pv 5) (pe_tup pa_nil) (nomark _)) pe_int (pe_un un_neg pe_int)))) pss_nil)
      (pss_cons (ps_if (pt_cmpR op_ne (pe_callB call_len (by rfl) ml PySem.boot_len (pa_cons (pv 5) pa_nil)) pe_int (nomark _)) pss_never pss_nil)
      (pss_cons (ps_asg (pe_call G2 hr2 (by rfl) m2 k2 b2 .nil pass0 (pa_cons (pv 2) (pa_cons (pe_op op_fdiv (pe_op op_add (pe_callB call_len (by rfl) ml PySem.boot_len (pa_cons (pv 2) pa_nil)) pe_int) pe_int) pa_nil))) (pg_tup rfl (pgs_cons (pg_name (i := 6) sc_leaves.nd rfl (.inl rfl)) (pgs_cons (pg_name (i := 7) sc_leaves.nd rfl (.inl rfl)) pgs_nil))))
      (pss_cons (ps_set (i := 8) sc_leaves.nd rfl (Or.inl rfl) (pe_call ih hr (by rfl) mF F.kp bF .nil pass0 (pa_cons (pv 0) (pa_cons (pv 1) (pa_cons (pv 6) (pa_cons (pe_ix ix_tup (pv 5) pe_int (fun _ _ => rfl)) pa_nil))))))
      (pss_cons (ps_set (i := 9) sc_leaves.nd rfl (Or.inl rfl) (pe_call ih hr (by rfl) mF F.kp bF .nil pass0 (pa_cons (pv 0) (pa_cons (pv 1) (pa_cons (pv 7) (pa_cons (pe_ix ix_tup (pv 5) pe_int (fun _ _ => rfl)) pa_nil))))))
      (pss_one (ps_ret (pe_ifExp (PW.pt (pw_and (pt_cmpR op_gt (pv 8) pe_int (nomark _)) (pw_and1 (pt_cmpR op_gt (pv 9) pe_int (nomark _))))) (pe_op op_add (pv 8) (pv 9)) (pe_un un_neg pe_int)))))))))), ?_⟩
    obtain ⟨o1, o2⟩ := hO.top
    cases hO with
    | @leaf _ t0 h1 _ _ =>
      obtain ⟨z, e, e1, e2, e3⟩ := hT
      refine ⟨_, rfl, p, _, rfl, tT e1, rfl, _, _, rfl, _, _, rfl, rfl, ?_⟩
      refine ⟨_, rfl, _, rfl, g, z, _, rfl, hg, e2, _, rfl, _, rfl, b, a, r, rfl, hb, ha, rfl, _, rfl, ?_⟩
      rw [ne_false (congrArg V.int (show val g t0 = val b r from o2))]
      refine iteF ⟨_, rfl, _, _, rfl, .inr ⟨_, tT ha, (iv_len r).symm⟩, _, _, rfl, rfl, _, rfl, ?_⟩
      rw [decide_eq_true (show (r.length : Int) < 2 by omega)]
      refine iteT ⟨_, rfl, sz (by show 0 ≤ 100000; omega), fun u hu => ?_⟩
      have ku := same_new hu (.tup [])
      exact eqT (r := []) (s := []) (ku _ _ e3) upd_same ⟨_, rfl, iteT (q _ ku)⟩
    | @node _ t0 t1 t2 h2 _ _ u1 u2 =>
      obtain ⟨z, e, x, y, e1, e2, e3, e4, e5⟩ := hT
      obtain ⟨f1, f2, f3, f4, f5, f6, f7⟩ := halves_fit h2 hl hl2
      refine ⟨_, rfl, p, _, rfl, tT e1, rfl, _, _, rfl, _, _, rfl, rfl, ?_⟩
      refine ⟨_, rfl, _, rfl, g, z, _, rfl, hg, e2, _, rfl, _, rfl, b, a, r, rfl, hb, ha, rfl, _, rfl, ?_⟩
      rw [ne_false (congrArg V.int (show val g t0 = val b r from o2))]
      refine iteF ⟨_, rfl, _, _, rfl, .inr ⟨_, tT ha, (iv_len r).symm⟩, _, _, rfl, rfl, _, rfl, ?_⟩
      rw [decide_eq_false (show ¬ (r.length : Int) < 2 by omega)]
      refine iteF ⟨_, rfl, _, _, rfl, .inr ⟨_, tT e3, rfl⟩, rfl, _, rfl, iteF ?_⟩
      refine ⟨_, rfl, _, rfl, _, _, rfl, .inr ⟨_, tT ha, (iv_len r).symm⟩, _, _, rfl, rfl, _, _, rfl, rfl, ⟨by decide, by decide⟩, a, r, half r, ?_, ha, f1, f2, Nat.le_trans hl2 (by omega), fun cp xx yy H1 s1 hcp hxx hyy => ?_⟩
      · show [V.ref a, V.int (((r.length : Int) + 1) / 2)] = _
        rw [half_int]
      refine ⟨cp, _, rfl, tT hcp, rfl, _, _, rfl, _, _, rfl, rfl, ?_⟩
      refine ⟨_, rfl, _, rfl, _, rfl, _, rfl, e, _, 0, _, rfl, rfl, tT (s1 _ _ e3), at0, b, g, xx, x, lowOf r, t1, rfl, hb, hg, hxx, low_row hR.1, f4, f6, e4.mono s1, u1, fun H2 s2 => ?_⟩
      refine ⟨_, rfl, _, rfl, _, rfl, _, rfl, e, _, 1, _, rfl, rfl, tT ((s1.trans s2) _ _ e3), at1, b, g, yy, y, highOf r, t2, rfl, hb, hg, s2 _ _ hyy, high_row hR, f5, f7, e5.mono (s1.trans s2), u2, fun H3 s3 => ?_⟩
      have l1 := u1.leaves.1
      have l2 := u2.leaves.1
      refine ⟨_, rfl, _, _, rfl, rfl, _, rfl, ?_⟩
      rw [decide_eq_true (show (0 : Int) < ((t1.leaves : Nat) : Int) by omega)]
      refine iteT ⟨_, rfl, _, _, rfl, rfl, _, rfl, ?_⟩
      rw [decide_eq_true (show (0 : Int) < ((t2.leaves : Nat) : Int) by omega)]
      refine iteT ⟨_, rfl, _, rfl, _, _, rfl, rfl, ?_⟩
      have ez : ((t1.leaves : Nat) : Int) + ((t2.leaves : Nat) : Int) = (((Tr.node t0 t1 t2).leaves : Nat) : Int) := by
        show _ = ((t1.leaves + t2.leaves : Nat) : Int)
        omega
      show Q (.int (((t1.leaves : Nat) : Int) + ((t2.leaves : Nat) : Int))) H3
      rw [ez]
      exact q H3 ((s1.trans s2).trans s3)
/-! ### _law_tree_right -/
theorem sc_tree : FnScope ["_law_base_here", "_law_goal", "_law_row_here", "_law_tree", "_law_leaves_here"] ["_law_base_here", "_law_goal", "_law_row_here"] (defScope s_law_tree_right) := ⟨rfl, rfl, rfl, by decide +kernel, rfl, by decide +kernel, by decide +kernel⟩
def spTree : Sp := fun vs H Q _ => ∃ (b g : Int) (a : Addr) (r : List Int), vs = [.int b, .int g, .ref a] ∧ Bd b ∧ Bd g ∧ H a = some (.tup (iv r)) ∧ Row b r ∧ r.length ≤ 1000 ∧ ∀ H' : Hp, Same H H' → Q (.bl true) H'
theorem ok_tree {g1 g2 g3 g4 g5 : Addr} {gd1 gd2 gd3 gd4 gd5 : FuncData} (F : Fun K "_law_tree_right" "_law_tree_right" s_law_tree_right f fd)
    (G1 : FnOk P w K mg base CX0 13 g1 gd1 ["base", "goal", "row"] (spHalves 10)) (b1 : Binds K gd1 ["base", "goal", "row"] []) (k1 : PySem.W.keepIn K (.ref g1) = true) (m1 : mg "halves" = some (.ref g1))
    (G2 : FnOk P w K mg base CX0 13 g2 gd2 ["_law_base_here", "_law_goal", "_law_row_here", "_law_tree"] (spLeaves 10)) (b2 : Binds K gd2 ["_law_base_here", "_law_goal", "_law_row_here", "_law_tree"] []) (k2 : PySem.W.keepIn K (.ref g2) = true) (m2 : mg "_law_leaves" = some (.ref g2))
    (G3 : FnOk P w K mg base CX0 2 g3 gd3 ["base", "goal", "row"] spLed) (b3 : Binds K gd3 ["base", "goal", "row"] []) (k3 : PySem.W.keepIn K (.ref g3) = true) (m3 : mg "led" = some (.ref g3))
    (G4 : FnOk P w K mg base CX0 14 g4 gd4 ["base", "goal", "row", "thing"] (spShows 10)) (b4 : Binds K gd4 ["base", "goal", "row", "thing"] []) (k4 : PySem.W.keepIn K (.ref g4) = true) (m4 : mg "shows_halves" = some (.ref g4))
    (G5 : FnOk P w K mg base CX0 2 g5 gd5 ["base", "one", "other"] spPlus) (b5 : Binds K gd5 ["base", "one", "other"] []) (k5 : PySem.W.keepIn K (.ref g5) = true) (m5 : mg "plus" = some (.ref g5))
    (ml : mg "len" = none) (mm : mg "max" = none) : FnOk P w K mg base CX0 15 f fd ["_law_base_here", "_law_goal", "_law_row_here"] spTree := by
  refine F.ok sc_tree (fun vs H Q E h => ?_) (fun cdv A outer s H vs Q E hr h => ?_)
  · obtain ⟨b, g, a, r, rfl, _⟩ := h
    rfl
  obtain ⟨b, g, a, r, rfl, hb, hg, ha, hR, hl, q⟩ := h
  have hr13 : Room 13 _ := hr.mono (by decide : 13 ≤ 14)
  have hr2 : Room 2 _ := hr.mono (by decide : 2 ≤ 14)
  refine ⟨_, pss_cons (ps_set (i := 3) sc_tree.nd rfl (Or.inl rfl) (pe_call G1 hr13 (by rfl) m1 k1 b1 .nil pass0 (pa_cons (pv 0) (pa_cons (pv 1) (pa_cons (pv 2) pa_nil)))))
    (pss_cons (ps_set (i := 4) sc_tree.nd rfl (Or.inl rfl) (pe_call G2 hr13 (by rfl) m2 k2 b2 .nil pass0 (pa_cons (pv 0) (pa_cons (pv 1) (pa_cons (pv 2) (pa_cons (pv 3) pa_nil))))))
    (pss_cons (ps_if (PW.pt (pw_or (pt_cmpR (op_neD hr.units) (pe_ix ix_tup (pv 3) pe_int (fun _ _ => rfl)) (pe_call G3 hr2 (by rfl) m3 k3 b3 .nil pass0 (pa_cons (pv 0) (pa_cons (pv 1) (pa_cons (pv 2) pa_nil)))) (nomark _))
        (pw_or1 (pt_not (pt_chain op_le op_le pe_int (pv 4) (pe_callB (call_max2 rfl) (by rfl) mm PyProof.Rows.boot_max (pa_cons pe_int (pa_cons (pe_callB call_len (by rfl) ml PySem.boot_len (pa_cons (pv 2) pa_nil)) pa_nil)))))))) pss_never pss_nil)
    (pss_cons (ps_if (pt_cmpR op_notBl (pe_call G4 hr (by rfl) m4 k4 b4 .nil pass0 (pa_cons (pv 0) (pa_cons (pv 1) (pa_cons (pv 2) (pa_cons (pv 3) pa_nil))))) pe_bl (nomark _)) pss_never pss_nil)
    (pss_one (ps_ret (pe_cmpR op_isBl (pe_call G4 hr (by rfl) m4 k4 b4 .nil pass0 (pa_cons (pv 0) (pa_cons (pv 1) (pa_cons (pe_call G5 hr2 (by rfl) m5 k5 b5 .nil pass0 (pa_cons (pv 0) (pa_cons (pv 2) (pa_cons (pe_tup (pa_cons pe_int pa_nil)) pa_nil)))) (pa_cons (pv 3) pa_nil))))) pe_bl (nomark _))))))), ?_⟩
  have e10 : (2 : Nat) ^ 10 = 1024 := by decide
  have hl2 : r.length ≤ 2000 := by omega
  obtain ⟨k, hk, hk2⟩ := bits_of hb hR.1 hl2
  refine ⟨_, rfl, _, rfl, _, rfl, b, g, a, r, rfl, hb, hg, ha, hR, by omega, hl2, fun t p H1 s1 hO hT => ?_⟩
  refine ⟨_, rfl, _, rfl, _, rfl, _, rfl, b, g, a, p, r, t, rfl, hb, hg, s1 _ _ ha, hR, by omega, hl2, hT, hO, fun H2 s2 => ?_⟩
  obtain ⟨o1, o2⟩ := hO.top
  obtain ⟨z1, z2, bs, e1, e2, e3, e4⟩ := (hT.mono s2).top
  obtain ⟨l1, l2⟩ := hO.leaves
  have s12 := s1.trans s2
  refine ⟨_, rfl, p, _, 0, _, rfl, rfl, tT e1, at0, _, rfl, _, rfl, _, rfl, b, g, a, r, rfl, hb, hg, s12 _ _ ha, hR.1, hl2, fun lr x H3 s3 h1 h2 hx => ?_⟩
  refine neT (s3 _ _ e2) hx ⟨_, rfl, ?_⟩
  rw [ne_falseL (row_uniq hg.pos o1 h1 (o2.trans h2.symm))]
  have s13 := s12.trans s3
  refine iteF ⟨_, rfl, _, _, rfl, rfl, _, rfl, ?_⟩
  rw [decide_eq_true (show (1 : Int) ≤ ((t.leaves : Nat) : Int) by omega)]
  refine iteT ⟨_, rfl, _, _, rfl, .inr ⟨_, tT (s13 _ _ ha), (iv_len r).symm⟩, _, _, rfl, _, _, rfl, rfl, ?_⟩
  have hmx : ((t.leaves : Nat) : Int) ≤ (if (r.length : Int) > 1 then (r.length : Int) else 1) := by
    split <;> omega
  simp only [decide_eq_true hmx]
  refine ⟨true, rfl, iteF ?_⟩
  have hTR := hO.rows (m := k) hb.pos hg.two hR.1 hk
  refine ⟨_, rfl, _, rfl, _, rfl, _, rfl, b, g, a, p, r, t, k, rfl, hb, hg, s13 _ _ ha, hR, by omega, hl2, hT.mono (s2.trans s3), hTR, hk2, fun c H4 hc s4 => ?_⟩
  have ec : c = true := hc.mpr hO
  subst ec
  refine ⟨_, _, rfl, rfl, _, rfl, iteF ?_⟩
  have s14 := s13.trans s4
  refine ⟨_, rfl, _, rfl, _, rfl, _, rfl, sz (by show 1 ≤ 100000; omega), fun u hu => ?_⟩
  have ku := same_new hu (.tup [V.int 1])
  refine ⟨b, a, u, r, [1], rfl, hb, ku _ _ (s14 _ _ ha), upd_same, hR.1, fig_one (by decide) (by have := hb.two; omega), Nat.le_trans hl2 (by omega), by show 1 ≤ 50000; omega, fun rr y H5 s5 r1 r2 hy => ?_⟩
  rw [val_one] at r2
  have hlen := more_len hb.two hR.1 r1 r2
  have s24 := ((s2.trans s3).trans s4).trans (ku.trans s5)
  refine ⟨_, rfl, b, g, y, p, rr, t, k, rfl, hb, hg, hy, r1, by omega, by omega, hT.mono s24, hTR, hk2, fun c H6 hc s6 => ?_⟩
  have ec : c = false := by
    cases c with
    | false => rfl
    | true =>
      have := (hc.mp rfl).top.2
      rw [o2, r2] at this
      omega
  subst ec
  exact ⟨_, _, rfl, rfl, q H6 (((s14.trans ku).trans s5).trans s6)⟩
end
end Bz

set_option maxHeartbeats 4000000
namespace Bz
open PySem PySem.Spec PyProof.Rows L2 TL
theorem len_app (x y : Str) : (x ++ y).length = x.length + y.length := by
  rw [len_tl, len_tl, len_tl, tl_append, List.length_append]
theorem len_lead : ("lead " : Str).length = 5 := by decide +kernel
theorem len_blank : (" " : Str).length = 1 := by decide +kernel
section
variable {P : Program} {w : World} {K : PySem.W.Frag} {mg : Str → Option Value} {base : Heap} {f : Addr} {fd : FuncData}
/-! ### _law_desks_right -/
theorem sc_desks : FnScope ["_law_base_here", "_law_goal", "_law_row_here", "_law_text", "_law_told", "_law_there"] ["_law_base_here", "_law_goal", "_law_row_here"] (defScope s_law_desks_right) := ⟨rfl, rfl, rfl, by decide +kernel, rfl, by decide +kernel, by decide +kernel⟩
def spDesks : Sp := fun vs H Q _ => ∃ (b g : Int) (a : Addr) (r : List Int) (k : Nat), vs = [.int b, .int g, .ref a] ∧ Bd b ∧ Bd g ∧ H a = some (.tup (iv r)) ∧ Row b r ∧ r.length ≤ 2000 ∧ val b r < 2 ^ k ∧ k ≤ 2000 ∧ ∀ H' : Hp, Same H H' → Q (.bl true) H'
theorem ok_desks {C : Addr} {g1 g2 g3 g4 g5 g6 : Addr} {gd1 gd2 gd3 gd4 gd5 gd6 : FuncData} (F : Fun K "_law_desks_right" "_law_desks_right" s_law_desks_right f fd)
    (cD : Cls K C) (M : Mk K C g1) (mC : mg "Desk" = some (.ref C)) (hM : Meth K C "say" g2)
    (G1 : FnOk P w K mg base CX0 1 g1 gd1 ["self", "base"] (spInit C)) (b1 : Binds K gd1 ["self", "base"] [])
    (G2 : FnOk P w K mg base CX0 6 g2 gd2 ["self", "line"] (spSay C)) (b2 : Binds K gd2 ["self", "line"] [])
    (G3 : FnOk P w K mg base CX0 2 g3 gd3 ["row"] spShowRow) (b3 : Binds K gd3 ["row"] []) (k3 : PySem.W.keepIn K (.ref g3) = true) (m3 : mg "show_row" = some (.ref g3))
    (G4 : FnOk P w K mg base CX0 3 g4 gd4 ["base", "text"] spReadRow) (b4 : Binds K gd4 ["base", "text"] []) (k4 : PySem.W.keepIn K (.ref g4) = true) (m4 : mg "read_row" = some (.ref g4))
    (G5 : FnOk P w K mg base CX0 1 g5 gd5 ["base", "row"] spNum) (b5 : Binds K gd5 ["base", "row"] []) (k5 : PySem.W.keepIn K (.ref g5) = true) (m5 : mg "number_of" = some (.ref g5))
    (G6 : FnOk P w K mg base CX0 2 g6 gd6 ["base", "goal", "row"] spLed) (b6 : Binds K gd6 ["base", "goal", "row"] []) (k6 : PySem.W.keepIn K (.ref g6) = true) (m6 : mg "led" = some (.ref g6))
    (ms : mg "str" = none) : FnOk P w K mg base CX0 7 f fd ["_law_base_here", "_law_goal", "_law_row_here"] spDesks := by
  refine F.ok sc_desks (fun vs H Q E h => ?_) (fun cdv A outer s H vs Q E hr h => ?_)
  · obtain ⟨b, g, a, r, k, rfl, _⟩ := h
    rfl
  obtain ⟨b, g, a, r, k, rfl, hb, hg, ha, hR, hl, hk, hk2, q⟩ := h
  have hr3 : Room 3 _ := hr.mono (by decide : 3 ≤ 6)
  have hr2 : Room 2 _ := hr.mono (by decide : 2 ≤ 6)
  have hr1 : Room 1 _ := hr.mono (by decide : 1 ≤ 6)
  refine ⟨_, pss_cons (ps_set (i := 3) sc_desks.nd rfl (Or.inl rfl) (pe_call G3 hr2 (by rfl) m3 k3 b3 .nil pass0 (pa_cons (pv 2) pa_nil)))
    (pss_cons (ps_set (i := 4) sc_desks.nd rfl (Or.inl rfl) (pe_meth (pe_make M G1 hr2 (by rfl) mC b1 .nil pass0 (pa_cons (pv 0) pa_nil)) cD hM G2 hr b2 .nil pass0
      (pa_cons (pe_op op_add_str (pe_op op_add_str (pe_op op_add_str pe_str (pe_callTy call_str_int (by rfl) ms PyProof.Rows.boot_str (pa_cons (pv 1) pa_nil))) pe_str) (pv 3)) pa_nil)))
    (pss_cons (ps_set (i := 5) sc_desks.nd rfl (Or.inl rfl) (pe_call G4 hr3 (by rfl) m4 k4 b4 .nil pass0 (pa_cons (pv 1) (pa_cons (pv 4) pa_nil))))
    (pss_cons (ps_if (pt_cmpR op_ne (pe_call G5 hr1 (by rfl) m5 k5 b5 .nil pass0 (pa_cons (pv 1) (pa_cons (pv 5) pa_nil))) (pe_call G5 hr1 (by rfl) m5 k5 b5 .nil pass0 (pa_cons (pv 0) (pa_cons (pv 2) pa_nil))) (nomark _)) pss_never pss_nil)
    (pss_cons (ps_if (PW.pt (pw_or (pt_cmpR (op_neD hr.units) (pv 5) (pe_call G6 hr2 (by rfl) m6 k6 b6 .nil pass0 (pa_cons (pv 0) (pa_cons (pv 1) (pa_cons (pv 2) pa_nil)))) (nomark _))
        (pw_or1 (pt_cmpR (op_neD hr.units) (pe_call G4 hr3 (by rfl) m4 k4 b4 .nil pass0 (pa_cons (pv 0) (pa_cons (pv 3) pa_nil))) (pv 2) (nomark _))))) pss_never pss_nil)
    (pss_one (ps_ret (pe_cmpR op_eq (pe_meth (pe_make M G1 hr2 (by rfl) mC b1 .nil pass0 (pa_cons (pv 1) pa_nil)) cD hM G2 hr b2 .nil pass0
      (pa_cons (pe_op op_add_str (pe_op op_add_str (pe_op op_add_str pe_str (pe_callTy call_str_int (by rfl) ms PyProof.Rows.boot_str (pa_cons (pv 0) pa_nil))) pe_str) (pv 4)) pa_nil)) (pv 3) (nomark _)))))))), ?_⟩
  have hf := figs_of hb.2 hR.1
  have hb0 := hb.1
  have hg0 := hg.1
  have tlen := rowText_len hf
  have glen := digI_len (x := g) (by omega) hg.2
  have blen := digI_len (x := b) (by omega) hb.2
  refine ⟨_, rfl, a, r, rfl, ha, hf, hl, fun H1 s1 => ?_⟩
  -- the desk of the first base
  refine ⟨_, rfl, fun x dx nx ndx nex => ?_⟩
  refine ⟨x, dx, b, rfl, upd_same, fun H2 keep hD => ⟨rfl, ?_⟩⟩
  have s2 : Same H1 H2 := Same.made nx ndx keep
  obtain ⟨dx2, fs, d1, d2, d3⟩ := id hD
  refine ⟨x, dx2, fs, rfl, d1, d3, ?_⟩
  refine ⟨_, rfl, _, rfl, log_ok (by omega) hg.2, _, _, rfl, rfl, sz (by rw [len_lead]; show 5 + (digI g).length ≤ 100000; omega), ?_⟩
  refine ⟨_, _, rfl, rfl, sz (by rw [len_app, len_lead, len_blank]; show 5 + (digI g).length + 1 ≤ 100000; omega), ?_⟩
  refine ⟨_, rfl, _, _, rfl, rfl, sz (by rw [len_app, len_app, len_lead, len_blank]; show 5 + (digI g).length + 1 + (rowText r).length ≤ 100000; omega), ?_⟩
  refine ⟨x, b, g, r, k, rfl, hD, hb, hg, hR, hl, hk, hk2, fun t H3 s3 t1 t2 => ?_⟩
  have tl2 : t.length ≤ 2000 := Nat.le_trans (row_len hg.two t1 (k := k) (by rw [t2]; exact hk)) hk2
  have tf := figs_of hg.2 t1.1
  have t2len := rowText_len tf
  refine ⟨_, rfl, _, rfl, g, t, rfl, hg, t1, tl2, fun p H4 s4 hp => ?_⟩
  have s13 := (s1.trans s2).trans s3
  have s14 := s13.trans s4
  refine ⟨_, rfl, _, rfl, g, p, t, rfl, hg, hp, _, rfl, _, rfl, b, a, r, rfl, hb, s14 _ _ ha, rfl, _, rfl, ?_⟩
  rw [ne_false (congrArg V.int t2)]
  refine iteF ⟨_, rfl, _, rfl, _, rfl, _, rfl, b, g, a, r, rfl, hb, hg, s14 _ _ ha, hR.1, hl, fun lr y H5 s5 h1 h2 hy => ?_⟩
  refine neT (s5 _ _ hp) hy ⟨_, rfl, ?_⟩
  rw [ne_falseL (row_uniq hg.pos t1 h1 (t2.trans h2.symm))]
  have s15 := s14.trans s5
  refine iteF ⟨_, rfl, _, rfl, b, r, rfl, hb, hR, hl, fun z H6 s6 hz => ?_⟩
  have s16 := s15.trans s6
  refine ⟨_, rfl, neT hz (s16 _ _ ha) ⟨_, rfl, ?_⟩⟩
  rw [ne_falseL rfl]
  -- the desk of the other base
  refine iteF ⟨_, rfl, fun x2 ex nx2 nex2 nexx => ?_⟩
  refine ⟨x2, ex, g, rfl, upd_same, fun H7 keep2 hD2 => ⟨rfl, ?_⟩⟩
  have s7 : Same H6 H7 := Same.made nx2 nex2 keep2
  obtain ⟨ex2, fs2, c1, c2, c3⟩ := id hD2
  refine ⟨x2, ex2, fs2, rfl, c1, c3, ?_⟩
  refine ⟨_, rfl, _, rfl, log_ok (by omega) hb.2, _, _, rfl, rfl, sz (by rw [len_lead]; show 5 + (digI b).length ≤ 100000; omega), ?_⟩
  refine ⟨_, _, rfl, rfl, sz (by rw [len_app, len_lead, len_blank]; show 5 + (digI b).length + 1 ≤ 100000; omega), ?_⟩
  refine ⟨_, rfl, _, _, rfl, rfl, sz (by rw [len_app, len_app, len_lead, len_blank]; show 5 + (digI b).length + 1 + (rowText t).length ≤ 100000; omega), ?_⟩
  refine ⟨x2, g, b, t, k, rfl, hD2, hg, hb, t1, tl2, by rw [t2]; exact hk, hk2, fun u H8 s8 u1 u2 => ?_⟩
  have eu : u = r := row_uniq hb.pos u1 hR (u2.trans t2)
  subst eu
  refine ⟨_, rfl, rfl, ?_⟩
  rw [decide_eq_true rfl]
  exact q H8 ((s16.trans s7).trans s8)
/-! ### law -/
theorem sc_law : FnScope ["_law_script", "_law_k", "_law_pot_here", "_law_base_here", "_law_goal", "_law_row_here"] ["_law_script"] (defScope s_law) := ⟨rfl, rfl, rfl, by decide +kernel, rfl, by decide +kernel, by decide +kernel⟩
def spLaw (K : PySem.W.Frag) : Sp := fun vs H Q _ => ∃ (a : Addr) (ns : List Int), vs = [.ref a] ∧ SqL K H a (iv ns) ∧ ns.length ≤ 63 ∧ ∀ H', Q (.bl true) H'
theorem same_but_new {p : Addr} {H H1 H2 : Hp} (hp : H p = none) (s : Same H H1) (b : But p H1 H2) : Same H H2 := fun c o hc => b c o (ne_of_none hc hp) (s c o hc)
theorem ok_law {g1 g2 g3 g4 g5 g6 : Addr} {gd1 gd2 gd3 gd4 gd5 gd6 : FuncData} (F : Fun K "law" "law" s_law f fd)
    (G1 : FnOk P w K mg base CX0 1 g1 gd1 ["_law_script", "_law_k"] (spPot K)) (b1 : Binds K gd1 ["_law_script", "_law_k"] []) (k1 : PySem.W.keepIn K (.ref g1) = true) (m1 : mg "_law_pot" = some (.ref g1))
    (G2 : FnOk P w K mg base CX0 2 g2 gd2 ["_law_pot_here"] spBase) (b2 : Binds K gd2 ["_law_pot_here"] []) (k2 : PySem.W.keepIn K (.ref g2) = true) (m2 : mg "_law_base" = some (.ref g2))
    (G3 : FnOk P w K mg base CX0 2 g3 gd3 ["_law_pot_here", "_law_base_here", "_law_most"] spRow) (b3 : Binds K gd3 ["_law_pot_here", "_law_base_here", "_law_most"] []) (k3 : PySem.W.keepIn K (.ref g3) = true) (m3 : mg "_law_row" = some (.ref g3))
    (G4 : FnOk P w K mg base CX0 7 g4 gd4 ["_law_base_here", "_law_goal", "_law_row_here"] spDesks) (b4 : Binds K gd4 ["_law_base_here", "_law_goal", "_law_row_here"] []) (k4 : PySem.W.keepIn K (.ref g4) = true) (m4 : mg "_law_desks_right" = some (.ref g4))
    (G5 : FnOk P w K mg base CX0 15 g5 gd5 ["_law_base_here", "_law_goal", "_law_row_here"] spTree) (b5 : Binds K gd5 ["_law_base_here", "_law_goal", "_law_row_here"] []) (k5 : PySem.W.keepIn K (.ref g5) = true) (m5 : mg "_law_tree_right" = some (.ref g5))
    (G6 : FnOk P w K mg base CX0 2 g6 gd6 ["base", "goal", "row"] spLed) (b6 : Binds K gd6 ["base", "goal", "row"] []) (k6 : PySem.W.keepIn K (.ref g6) = true) (m6 : mg "led" = some (.ref g6))
    (ml : mg "len" = none) (mm : mg "max" = none) (mn : mg "min" = none) (mr : mg "range" = none) : FnOk P w K mg base CX0 16 f fd ["_law_script"] (spLaw K) := by
  refine F.ok sc_law (fun vs H Q E h => ?_) (fun cdv A outer s H vs Q E hr h => ?_)
  · obtain ⟨a, ns, rfl, _⟩ := h
    rfl
  obtain ⟨a, ns, rfl, hS, h63, q⟩ := h
  have hr7 : Room 7 _ := hr.mono (by decide : 7 ≤ 15)
  have hr2 : Room 2 _ := hr.mono (by decide : 2 ≤ 15)
  have hr1 : Room 1 _ := hr.mono (by decide : 1 ≤ 15)
  refine ⟨_, pss_cons (ps_for PassesOwn.never rfl (pi_range1 (by rfl) mr (pa_cons (pe_callB (call_max2 rfl) (by rfl) mm PyProof.Rows.boot_max (pa_cons pe_int (pa_cons (pe_callB (call_min2 rfl) (by rfl) mn PyProof.Rows.boot_min (pa_cons pe_int (pa_cons (pe_callB call_len (by rfl) ml PySem.boot_len (pa_cons (pv 0) pa_nil)) pa_nil))) pa_nil))) pa_nil)) (pg_name (i := 1) sc_law.nd rfl (Or.inl rfl))
      (pss_cons (ps_set (i := 2) sc_law.nd rfl (Or.inl rfl) (pe_call G1 hr1 (by rfl) m1 k1 b1 .nil pass0 (pa_cons (pv 0) (pa_cons (pv 1) pa_nil))))
      (pss_cons (ps_par (i := 3) (j := 4) rfl sc_law.nd rfl rfl (by decide) rfl rfl (pa_cons (pe_call G2 hr2 (by rfl) m2 k2 b2 .nil pass0 (pa_cons (pv 2) pa_nil)) (pa_cons (pe_call G2 hr2 (by rfl) m2 k2 b2 .nil pass0 (pa_cons (pv 2) pa_nil)) pa_nil)) (by rfl))
      (pss_cons (ps_set (i := 5) sc_law.nd rfl (Or.inl rfl) (pe_call G3 hr2 (by rfl) m3 k3 b3 .nil pass0 (pa_cons (pv 2) (pa_cons (pv 3) (pa_cons pe_int pa_nil)))))
      (pss_cons (ps_if (PW.pt (pw_or (pt_not (pt_val (pe_call G4 hr7 (by rfl) m4 k4 b4 .nil pass0 (pa_cons (pv 3) (pa_cons (pv 4) (pa_cons (pv 5) pa_nil))))))
          (pw_or1 (pt_not (pt_val (pe_call G5 hr (by rfl) m5 k5 b5 .nil pass0 (pa_cons (pv 3) (pa_cons (pv 4) (pa_cons (pv 5) pa_nil)))))))))  pss_never pss_nil)
      (pss_one (ps_if (pt_not (pt_val (pe_call G5 hr (by rfl) m5 k5 b5 .nil pass0 (pa_cons (pv 4) (pa_cons (pv 3) (pa_cons (pe_call G6 hr2 (by rfl) m6 k6 b6 .nil pass0 (pa_cons (pv 3) (pa_cons (pv 4) (pa_cons (pv 5) pa_nil)))) pa_nil)))))) pss_never pss_nil)))))))
    (pss_one (ps_ret pe_bl)), ?_⟩
  refine ⟨_, rfl, _, _, rfl, .inl ⟨_, hS, rfl⟩, _, _, rfl, _, _, rfl, ?_⟩
  rw [iv_len]
  obtain ⟨n, hn, hn2⟩ : ∃ n : Nat, (if (if (ns.length : Int) < 5 then (ns.length : Int) else 5) > 1 then (if (ns.length : Int) < 5 then (ns.length : Int) else 5) else 1) = (n : Int) ∧ n ≤ 5 := by
    by_cases c : (ns.length : Int) < 5
    · rw [if_pos c]
      by_cases c2 : (ns.length : Int) > 1
      · exact ⟨ns.length, by rw [if_pos c2], by omega⟩
      · exact ⟨1, by rw [if_neg c2] <;> rfl, by omega⟩
    · rw [if_neg c]
      exact ⟨5, by rw [if_pos (by decide)] <;> rfl, Nat.le_refl _⟩
  rw [hn]
  refine ⟨(n : Int), rfl, by omega, by omega, ?_⟩
  refine for_range (lo := 0) (n := n) (fun i σ H' => Same H H' ∧ ∃ v1 v2 v3 v4 v5, σ = [some (.ref a), v1, v2, v3, v4, v5]) ⟨Same.refl _, _, _, _, _, _, rfl⟩ ?_ ?_
  · rintro i σ H1 hi ⟨s1, v1, v2, v3, v4, v5, rfl⟩
    have ei : (0 : Int) + (i : Int) = (i : Int) := Int.zero_add _
    refine ⟨_, rfl, _, rfl, a, ns, i, by rw [ei] <;> rfl, s1.seq hS, fun p H2 hp s2 P2 => ?_⟩
    refine ⟨_, rfl, p, rfl, P2, fun b H3 hb P3 B3 => ?_⟩
    refine ⟨_, rfl, p, rfl, P3, fun g H4 hg P4 B4 => ?_⟩
    refine ⟨_, _, rfl, ?_⟩
    refine ⟨_, rfl, _, rfl, p, b, rfl, hb, P4, fun r x H5 hR hl hx P5 B5 => ?_⟩
    have s5 : Same H1 H5 := same_but_new hp s2 ((B3.trans B4).trans B5)
    have hk := val_bits (n := 30) hb.pos hb.bits hR.1 hl
    have e600 : 20 * 30 = 600 := by decide
    rw [e600] at hk
    refine ⟨_, rfl, _, rfl, _, rfl, b, g, x, r, 600, rfl, hb, hg, hx, hR, by omega, hk, by decide, fun H6 s6 => ⟨true, rfl, iteF ?_⟩⟩
    refine ⟨_, rfl, _, rfl, _, rfl, b, g, x, r, rfl, hb, hg, s6 _ _ hx, hR, by omega, fun H7 s7 => ⟨true, rfl, iteF ?_⟩⟩
    refine ⟨_, rfl, _, rfl, _, rfl, _, rfl, _, rfl, b, g, x, r, rfl, hb, hg, (s6.trans s7) _ _ hx, hR.1, by omega, fun t y H8 s8 t1 t2 hy => ?_⟩
    have tlen : t.length ≤ 600 := row_len hg.two t1 (by rw [t2]; exact hk)
    refine ⟨g, b, y, t, rfl, hg, hb, hy, t1, by omega, fun H9 s9 => ⟨true, rfl, iteF ?_⟩⟩
    exact ⟨((((s1.trans s5).trans s6).trans s7).trans s8).trans s9, _, _, _, _, _, rfl⟩
  · rintro σ H1 ⟨s1, v1, v2, v3, v4, v5, rfl⟩
    exact q H1
end
end Bz

set_option maxHeartbeats 4000000
namespace Bz
open PySem PySem.Spec PyProof.Rows L2
theorem facts {P : Program} {w : World} {K : PySem.W.Frag} {h : Heap} {mg : Str → Option Value} {fL : Addr} (X : K.In h) (G : h.Ns mainGlobals mg) (hfa : mg ("law" : Str) = some (.ref fL)) (c : He.SaysT fa fn tsA w K) (cB : seesB K = true) :
    ∃ fd : FuncData, (∀ (s : Shared) (v : Value), BindsTo s fd ⟨[v], []⟩ [("_law_script", v)]) ∧ ∀ base : Heap, K.In base → base.Ns mainGlobals mg → FnOk P w K mg base CX0 16 fL fd ["_law_script"] (spLaw K) := by
  obtain ⟨v_is_whole_rows, D_is_whole_rows⟩ := c.d.def_ 0 (d := d_is_whole_rows) rfl
  have F_is_whole_rows : Fun K "is_whole" "is_whole" s_is_whole_rows (He.ga K "is_whole_rows") v_is_whole_rows := toFun D_is_whole_rows
  have m_is_whole_rows : mg "is_whole_rows" = some (.ref (He.ga K "is_whole_rows")) := He.glo_ok X G (c.d.fact 0 (f := .glo "is_whole_rows") rfl)
  have b_is_whole_rows : Binds K v_is_whole_rows ["thing"] [] := F_is_whole_rows.binds fun _ _ _ _ _ _ us hl => match us, hl with | [_], _ => rfl
  have k_is_whole_rows : PySem.W.keepIn K (.ref (He.ga K "is_whole_rows")) = true := F_is_whole_rows.kp
  obtain ⟨v_is_row, D_is_row⟩ := c.d.def_ 1 (d := d_is_row) rfl
  have F_is_row : Fun K "is_row" "is_row" s_is_row (He.ga K "is_row") v_is_row := toFun D_is_row
  have m_is_row : mg "is_row" = some (.ref (He.ga K "is_row")) := He.glo_ok X G (c.d.fact 1 (f := .glo "is_row") rfl)
  have b_is_row : Binds K v_is_row ["base", "thing"] [] := F_is_row.binds fun _ _ _ _ _ _ us hl => match us, hl with | [_, _], _ => rfl
  have k_is_row : PySem.W.keepIn K (.ref (He.ga K "is_row")) = true := F_is_row.kp
  obtain ⟨v_bare_row, D_bare_row⟩ := c.d.def_ 2 (d := d_bare_row) rfl
  have F_bare_row : Fun K "bare_row" "bare_row" s_bare_row (He.ga K "bare_row") v_bare_row := toFun D_bare_row
  have m_bare_row : mg "bare_row" = some (.ref (He.ga K "bare_row")) := He.glo_ok X G (c.d.fact 2 (f := .glo "bare_row") rfl)
  have b_bare_row : Binds K v_bare_row ["figures"] [] := F_bare_row.binds fun _ _ _ _ _ _ us hl => match us, hl with | [_], _ => rfl
  have k_bare_row : PySem.W.keepIn K (.ref (He.ga K "bare_row")) = true := F_bare_row.kp
  obtain ⟨v_row_of, D_row_of⟩ := c.d.def_ 3 (d := d_row_of) rfl
  have F_row_of : Fun K "row_of" "row_of" s_row_of (He.ga K "row_of") v_row_of := toFun D_row_of
  have m_row_of : mg "row_of" = some (.ref (He.ga K "row_of")) := He.glo_ok X G (c.d.fact 3 (f := .glo "row_of") rfl)
  have b_row_of : Binds K v_row_of ["base", "number"] [] := F_row_of.binds fun _ _ _ _ _ _ us hl => match us, hl with | [_, _], _ => rfl
  have k_row_of : PySem.W.keepIn K (.ref (He.ga K "row_of")) = true := F_row_of.kp
  obtain ⟨v_number_of, D_number_of⟩ := c.d.def_ 4 (d := d_number_of) rfl
  have F_number_of : Fun K "number_of" "number_of" s_number_of (He.ga K "number_of") v_number_of := toFun D_number_of
  have m_number_of : mg "number_of" = some (.ref (He.ga K "number_of")) := He.glo_ok X G (c.d.fact 4 (f := .glo "number_of") rfl)
  have b_number_of : Binds K v_number_of ["base", "row"] [] := F_number_of.binds fun _ _ _ _ _ _ us hl => match us, hl with | [_, _], _ => rfl
  have k_number_of : PySem.W.keepIn K (.ref (He.ga K "number_of")) = true := F_number_of.kp
  obtain ⟨v_figure_at, D_figure_at⟩ := c.d.def_ 5 (d := d_figure_at) rfl
  have F_figure_at : Fun K "figure_at" "figure_at" s_figure_at (He.ga K "figure_at") v_figure_at := toFun D_figure_at
  have m_figure_at : mg "figure_at" = some (.ref (He.ga K "figure_at")) := He.glo_ok X G (c.d.fact 5 (f := .glo "figure_at") rfl)
  have b_figure_at : Binds K v_figure_at ["row", "place"] [] := F_figure_at.binds fun _ _ _ _ _ _ us hl => match us, hl with | [_, _], _ => rfl
  have k_figure_at : PySem.W.keepIn K (.ref (He.ga K "figure_at")) = true := F_figure_at.kp
  obtain ⟨v_plus, D_plus⟩ := c.d.def_ 6 (d := d_plus) rfl
  have F_plus : Fun K "plus" "plus" s_plus (He.ga K "plus") v_plus := toFun D_plus
  have m_plus : mg "plus" = some (.ref (He.ga K "plus")) := He.glo_ok X G (c.d.fact 6 (f := .glo "plus") rfl)
  have b_plus : Binds K v_plus ["base", "one", "other"] [] := F_plus.binds fun _ _ _ _ _ _ us hl => match us, hl with | [_, _, _], _ => rfl
  have k_plus : PySem.W.keepIn K (.ref (He.ga K "plus")) = true := F_plus.kp
  obtain ⟨v_moved, D_moved⟩ := c.d.def_ 7 (d := d_moved) rfl
  have F_moved : Fun K "moved" "moved" s_moved (He.ga K "moved") v_moved := toFun D_moved
  have m_moved : mg "moved" = some (.ref (He.ga K "moved")) := He.glo_ok X G (c.d.fact 7 (f := .glo "moved") rfl)
  have b_moved : Binds K v_moved ["row", "many"] [] := F_moved.binds fun _ _ _ _ _ _ us hl => match us, hl with | [_, _], _ => rfl
  have k_moved : PySem.W.keepIn K (.ref (He.ga K "moved")) = true := F_moved.kp
  obtain ⟨v_cut, D_cut⟩ := c.d.def_ 8 (d := d_cut) rfl
  have F_cut : Fun K "cut" "cut" s_cut (He.ga K "cut") v_cut := toFun D_cut
  have m_cut : mg "cut" = some (.ref (He.ga K "cut")) := He.glo_ok X G (c.d.fact 8 (f := .glo "cut") rfl)
  have b_cut : Binds K v_cut ["row", "at"] [] := F_cut.binds fun _ _ _ _ _ _ us hl => match us, hl with | [_, _], _ => rfl
  have k_cut : PySem.W.keepIn K (.ref (He.ga K "cut")) = true := F_cut.kp
  obtain ⟨v_led, D_led⟩ := c.d.def_ 9 (d := d_led) rfl
  have F_led : Fun K "led" "led" s_led (He.ga K "led") v_led := toFun D_led
  have m_led : mg "led" = some (.ref (He.ga K "led")) := He.glo_ok X G (c.d.fact 9 (f := .glo "led") rfl)
  have b_led : Binds K v_led ["base", "goal", "row"] [] := F_led.binds fun _ _ _ _ _ _ us hl => match us, hl with | [_, _, _], _ => rfl
  have k_led : PySem.W.keepIn K (.ref (He.ga K "led")) = true := F_led.kp
  obtain ⟨v_half_of, D_half_of⟩ := c.d.def_ 10 (d := d_half_of) rfl
  have F_half_of : Fun K "half_of" "half_of" s_half_of (He.ga K "half_of") v_half_of := toFun D_half_of
  have m_half_of : mg "half_of" = some (.ref (He.ga K "half_of")) := He.glo_ok X G (c.d.fact 10 (f := .glo "half_of") rfl)
  have b_half_of : Binds K v_half_of ["row"] [] := F_half_of.binds fun _ _ _ _ _ _ us hl => match us, hl with | [_], _ => rfl
  have k_half_of : PySem.W.keepIn K (.ref (He.ga K "half_of")) = true := F_half_of.kp
  obtain ⟨v_lifted, D_lifted⟩ := c.d.def_ 11 (d := d_lifted) rfl
  have F_lifted : Fun K "lifted" "lifted" s_lifted (He.ga K "lifted") v_lifted := toFun D_lifted
  have m_lifted : mg "lifted" = some (.ref (He.ga K "lifted")) := He.glo_ok X G (c.d.fact 11 (f := .glo "lifted") rfl)
  have b_lifted : Binds K v_lifted ["base", "goal", "row", "at"] [] := F_lifted.binds fun _ _ _ _ _ _ us hl => match us, hl with | [_, _, _, _], _ => rfl
  have k_lifted : PySem.W.keepIn K (.ref (He.ga K "lifted")) = true := F_lifted.kp
  obtain ⟨v_halves, D_halves⟩ := c.d.def_ 12 (d := d_halves) rfl
  have F_halves : Fun K "halves" "halves" s_halves (He.ga K "halves") v_halves := toFun D_halves
  have m_halves : mg "halves" = some (.ref (He.ga K "halves")) := He.glo_ok X G (c.d.fact 12 (f := .glo "halves") rfl)
  have b_halves : Binds K v_halves ["base", "goal", "row"] [] := F_halves.binds fun _ _ _ _ _ _ us hl => match us, hl with | [_, _, _], _ => rfl
  have k_halves : PySem.W.keepIn K (.ref (He.ga K "halves")) = true := F_halves.kp
  obtain ⟨v_is_node, D_is_node⟩ := c.d.def_ 13 (d := d_is_node) rfl
  have F_is_node : Fun K "is_node" "is_node" s_is_node (He.ga K "is_node") v_is_node := toFun D_is_node
  have m_is_node : mg "is_node" = some (.ref (He.ga K "is_node")) := He.glo_ok X G (c.d.fact 13 (f := .glo "is_node") rfl)
  have b_is_node : Binds K v_is_node ["goal", "thing", "many"] [] := F_is_node.binds fun _ _ _ _ _ _ us hl => match us, hl with | [_, _, _], _ => rfl
  have k_is_node : PySem.W.keepIn K (.ref (He.ga K "is_node")) = true := F_is_node.kp
  obtain ⟨v_shows_halves, D_shows_halves⟩ := c.d.def_ 14 (d := d_shows_halves) rfl
  have F_shows_halves : Fun K "shows_halves" "shows_halves" s_shows_halves (He.ga K "shows_halves") v_shows_halves := toFun D_shows_halves
  have m_shows_halves : mg "shows_halves" = some (.ref (He.ga K "shows_halves")) := He.glo_ok X G (c.d.fact 14 (f := .glo "shows_halves") rfl)
  have b_shows_halves : Binds K v_shows_halves ["base", "goal", "row", "thing"] [] := F_shows_halves.binds fun _ _ _ _ _ _ us hl => match us, hl with | [_, _, _, _], _ => rfl
  have k_shows_halves : PySem.W.keepIn K (.ref (He.ga K "shows_halves")) = true := F_shows_halves.kp
  obtain ⟨v_number_in, D_number_in⟩ := c.d.def_ 15 (d := d_number_in) rfl
  have F_number_in : Fun K "number_in" "number_in" s_number_in (He.ga K "number_in") v_number_in := toFun D_number_in
  have m_number_in : mg "number_in" = some (.ref (He.ga K "number_in")) := He.glo_ok X G (c.d.fact 15 (f := .glo "number_in") rfl)
  have b_number_in : Binds K v_number_in ["word"] [] := F_number_in.binds fun _ _ _ _ _ _ us hl => match us, hl with | [_], _ => rfl
  have k_number_in : PySem.W.keepIn K (.ref (He.ga K "number_in")) = true := F_number_in.kp
  obtain ⟨v_numbers_in, D_numbers_in⟩ := c.d.def_ 16 (d := d_numbers_in) rfl
  have F_numbers_in : Fun K "numbers_in" "numbers_in" s_numbers_in (He.ga K "numbers_in") v_numbers_in := toFun D_numbers_in
  have m_numbers_in : mg "numbers_in" = some (.ref (He.ga K "numbers_in")) := He.glo_ok X G (c.d.fact 16 (f := .glo "numbers_in") rfl)
  have b_numbers_in : Binds K v_numbers_in ["words"] [] := F_numbers_in.binds fun _ _ _ _ _ _ us hl => match us, hl with | [_], _ => rfl
  have k_numbers_in : PySem.W.keepIn K (.ref (He.ga K "numbers_in")) = true := F_numbers_in.kp
  obtain ⟨v_words_of, D_words_of⟩ := c.d.def_ 17 (d := d_words_of) rfl
  have F_words_of : Fun K "words_of" "words_of" s_words_of (He.ga K "words_of") v_words_of := toFun D_words_of
  have m_words_of : mg "words_of" = some (.ref (He.ga K "words_of")) := He.glo_ok X G (c.d.fact 17 (f := .glo "words_of") rfl)
  have b_words_of : Binds K v_words_of ["text", "sign"] [] := F_words_of.binds fun _ _ _ _ _ _ us hl => match us, hl with | [_, _], _ => rfl
  have k_words_of : PySem.W.keepIn K (.ref (He.ga K "words_of")) = true := F_words_of.kp
  obtain ⟨v_pointed, D_pointed⟩ := c.d.def_ 18 (d := d_pointed) rfl
  have F_pointed : Fun K "pointed" "pointed" s_pointed (He.ga K "pointed") v_pointed := toFun D_pointed
  have m_pointed : mg "pointed" = some (.ref (He.ga K "pointed")) := He.glo_ok X G (c.d.fact 18 (f := .glo "pointed") rfl)
  have b_pointed : Binds K v_pointed ["numbers"] [] := F_pointed.binds fun _ _ _ _ _ _ us hl => match us, hl with | [_], _ => rfl
  have k_pointed : PySem.W.keepIn K (.ref (He.ga K "pointed")) = true := F_pointed.kp
  obtain ⟨v_show_row, D_show_row⟩ := c.d.def_ 19 (d := d_show_row) rfl
  have F_show_row : Fun K "show_row" "show_row" s_show_row (He.ga K "show_row") v_show_row := toFun D_show_row
  have m_show_row : mg "show_row" = some (.ref (He.ga K "show_row")) := He.glo_ok X G (c.d.fact 19 (f := .glo "show_row") rfl)
  have b_show_row : Binds K v_show_row ["row"] [] := F_show_row.binds fun _ _ _ _ _ _ us hl => match us, hl with | [_], _ => rfl
  have k_show_row : PySem.W.keepIn K (.ref (He.ga K "show_row")) = true := F_show_row.kp
  obtain ⟨v_read_row, D_read_row⟩ := c.d.def_ 20 (d := d_read_row) rfl
  have F_read_row : Fun K "read_row" "read_row" s_read_row (He.ga K "read_row") v_read_row := toFun D_read_row
  have m_read_row : mg "read_row" = some (.ref (He.ga K "read_row")) := He.glo_ok X G (c.d.fact 20 (f := .glo "read_row") rfl)
  have b_read_row : Binds K v_read_row ["base", "text"] [] := F_read_row.binds fun _ _ _ _ _ _ us hl => match us, hl with | [_, _], _ => rfl
  have k_read_row : PySem.W.keepIn K (.ref (He.ga K "read_row")) = true := F_read_row.kp
  obtain ⟨v_want, D_want⟩ := c.d.def_ 21 (d := d_want) rfl
  have F_want : Fun K "want" "want" s_want (He.ga K "want") v_want := toFun D_want
  have m_want : mg "want" = some (.ref (He.ga K "want")) := He.glo_ok X G (c.d.fact 21 (f := .glo "want") rfl)
  have b_want : Binds K v_want ["holds"] [] := F_want.binds fun _ _ _ _ _ _ us hl => match us, hl with | [_], _ => rfl
  have k_want : PySem.W.keepIn K (.ref (He.ga K "want")) = true := F_want.kp
  obtain ⟨v_number_told_desk, D_number_told_desk⟩ := c.d.def_ 22 (d := d_number_told_desk) rfl
  have F_number_told_desk : Fun K "number_told" "number_told" s_number_told_desk (He.ga K "number_told_desk") v_number_told_desk := toFun D_number_told_desk
  have m_number_told_desk : mg "number_told_desk" = some (.ref (He.ga K "number_told_desk")) := He.glo_ok X G (c.d.fact 22 (f := .glo "number_told_desk") rfl)
  have b_number_told_desk : Binds K v_number_told_desk ["word", "least", "greatest"] [] := F_number_told_desk.binds fun _ _ _ _ _ _ us hl => match us, hl with | [_, _, _], _ => rfl
  have k_number_told_desk : PySem.W.keepIn K (.ref (He.ga K "number_told_desk")) = true := F_number_told_desk.kp
  obtain ⟨v_row_told, D_row_told⟩ := c.d.def_ 23 (d := d_row_told) rfl
  have F_row_told : Fun K "row_told" "row_told" s_row_told (He.ga K "row_told") v_row_told := toFun D_row_told
  have m_row_told : mg "row_told" = some (.ref (He.ga K "row_told")) := He.glo_ok X G (c.d.fact 23 (f := .glo "row_told") rfl)
  have b_row_told : Binds K v_row_told ["base", "word"] [] := F_row_told.binds fun _ _ _ _ _ _ us hl => match us, hl with | [_, _], _ => rfl
  have k_row_told : PySem.W.keepIn K (.ref (He.ga K "row_told")) = true := F_row_told.kp
  obtain ⟨v_lead_said, D_lead_said⟩ := c.d.def_ 24 (d := d_lead_said) rfl
  have F_lead_said : Fun K "lead_said" "lead_said" s_lead_said (He.ga K "lead_said") v_lead_said := toFun D_lead_said
  have m_lead_said : mg "lead_said" = some (.ref (He.ga K "lead_said")) := He.glo_ok X G (c.d.fact 24 (f := .glo "lead_said") rfl)
  have b_lead_said : Binds K v_lead_said ["desk", "words"] [] := F_lead_said.binds fun _ _ _ _ _ _ us hl => match us, hl with | [_, _], _ => rfl
  have k_lead_said : PySem.W.keepIn K (.ref (He.ga K "lead_said")) = true := F_lead_said.kp
  obtain ⟨v_law_pot, D_law_pot⟩ := c.d.def_ 25 (d := d_law_pot) rfl
  have F_law_pot : Fun K "_law_pot" "_law_pot" s_law_pot (He.ga K "_law_pot") v_law_pot := toFun D_law_pot
  have m_law_pot : mg "_law_pot" = some (.ref (He.ga K "_law_pot")) := He.glo_ok X G (c.d.fact 25 (f := .glo "_law_pot") rfl)
  have b_law_pot : Binds K v_law_pot ["_law_script", "_law_k"] [] := F_law_pot.binds fun _ _ _ _ _ _ us hl => match us, hl with | [_, _], _ => rfl
  have k_law_pot : PySem.W.keepIn K (.ref (He.ga K "_law_pot")) = true := F_law_pot.kp
  obtain ⟨v_law_take, D_law_take⟩ := c.d.def_ 26 (d := d_law_take) rfl
  have F_law_take : Fun K "_law_take" "_law_take" s_law_take (He.ga K "_law_take") v_law_take := toFun D_law_take
  have m_law_take : mg "_law_take" = some (.ref (He.ga K "_law_take")) := He.glo_ok X G (c.d.fact 26 (f := .glo "_law_take") rfl)
  have b_law_take : Binds K v_law_take ["_law_pot_here", "_law_many"] [] := F_law_take.binds fun _ _ _ _ _ _ us hl => match us, hl with | [_, _], _ => rfl
  have k_law_take : PySem.W.keepIn K (.ref (He.ga K "_law_take")) = true := F_law_take.kp
  obtain ⟨v_law_base, D_law_base⟩ := c.d.def_ 27 (d := d_law_base) rfl
  have F_law_base : Fun K "_law_base" "_law_base" s_law_base (He.ga K "_law_base") v_law_base := toFun D_law_base
  have m_law_base : mg "_law_base" = some (.ref (He.ga K "_law_base")) := He.glo_ok X G (c.d.fact 27 (f := .glo "_law_base") rfl)
  have b_law_base : Binds K v_law_base ["_law_pot_here"] [] := F_law_base.binds fun _ _ _ _ _ _ us hl => match us, hl with | [_], _ => rfl
  have k_law_base : PySem.W.keepIn K (.ref (He.ga K "_law_base")) = true := F_law_base.kp
  obtain ⟨v_law_row, D_law_row⟩ := c.d.def_ 28 (d := d_law_row) rfl
  have F_law_row : Fun K "_law_row" "_law_row" s_law_row (He.ga K "_law_row") v_law_row := toFun D_law_row
  have m_law_row : mg "_law_row" = some (.ref (He.ga K "_law_row")) := He.glo_ok X G (c.d.fact 28 (f := .glo "_law_row") rfl)
  have b_law_row : Binds K v_law_row ["_law_pot_here", "_law_base_here", "_law_most"] [] := F_law_row.binds fun _ _ _ _ _ _ us hl => match us, hl with | [_, _, _], _ => rfl
  have k_law_row : PySem.W.keepIn K (.ref (He.ga K "_law_row")) = true := F_law_row.kp
  obtain ⟨v_law_leaves, D_law_leaves⟩ := c.d.def_ 29 (d := d_law_leaves) rfl
  have F_law_leaves : Fun K "_law_leaves" "_law_leaves" s_law_leaves (He.ga K "_law_leaves") v_law_leaves := toFun D_law_leaves
  have m_law_leaves : mg "_law_leaves" = some (.ref (He.ga K "_law_leaves")) := He.glo_ok X G (c.d.fact 29 (f := .glo "_law_leaves") rfl)
  have b_law_leaves : Binds K v_law_leaves ["_law_base_here", "_law_goal", "_law_row_here", "_law_tree"] [] := F_law_leaves.binds fun _ _ _ _ _ _ us hl => match us, hl with | [_, _, _, _], _ => rfl
  have k_law_leaves : PySem.W.keepIn K (.ref (He.ga K "_law_leaves")) = true := F_law_leaves.kp
  obtain ⟨v_law_desks_right, D_law_desks_right⟩ := c.d.def_ 30 (d := d_law_desks_right) rfl
  have F_law_desks_right : Fun K "_law_desks_right" "_law_desks_right" s_law_desks_right (He.ga K "_law_desks_right") v_law_desks_right := toFun D_law_desks_right
  have m_law_desks_right : mg "_law_desks_right" = some (.ref (He.ga K "_law_desks_right")) := He.glo_ok X G (c.d.fact 30 (f := .glo "_law_desks_right") rfl)
  have b_law_desks_right : Binds K v_law_desks_right ["_law_base_here", "_law_goal", "_law_row_here"] [] := F_law_desks_right.binds fun _ _ _ _ _ _ us hl => match us, hl with | [_, _, _], _ => rfl
  have k_law_desks_right : PySem.W.keepIn K (.ref (He.ga K "_law_desks_right")) = true := F_law_desks_right.kp
  obtain ⟨v_law_tree_right, D_law_tree_right⟩ := c.d.def_ 31 (d := d_law_tree_right) rfl
  have F_law_tree_right : Fun K "_law_tree_right" "_law_tree_right" s_law_tree_right (He.ga K "_law_tree_right") v_law_tree_right := toFun D_law_tree_right
  have m_law_tree_right : mg "_law_tree_right" = some (.ref (He.ga K "_law_tree_right")) := He.glo_ok X G (c.d.fact 31 (f := .glo "_law_tree_right") rfl)
  have b_law_tree_right : Binds K v_law_tree_right ["_law_base_here", "_law_goal", "_law_row_here"] [] := F_law_tree_right.binds fun _ _ _ _ _ _ us hl => match us, hl with | [_, _, _], _ => rfl
  have k_law_tree_right : PySem.W.keepIn K (.ref (He.ga K "_law_tree_right")) = true := F_law_tree_right.kp
  obtain ⟨v_law, D_law⟩ := c.d.def_ 32 (d := d_law) rfl
  have F_law : Fun K "law" "law" s_law (He.ga K "law") v_law := toFun D_law
  have m_law : mg "law" = some (.ref (He.ga K "law")) := He.glo_ok X G (c.d.fact 32 (f := .glo "law") rfl)
  obtain ⟨v_desk_init, D_desk_init⟩ := c.d.def_ 33 (d := d_desk_init) rfl
  have F_desk_init : Fun K "__init__" "Desk.__init__" s_desk_init (He.ma K (He.ga K "Desk") "__init__") v_desk_init := toFun D_desk_init
  have b_desk_init : Binds K v_desk_init ["self", "base"] [] := F_desk_init.binds fun _ _ _ _ _ _ us hl => match us, hl with | [_, _], _ => rfl
  obtain ⟨v_desk_say, D_desk_say⟩ := c.d.def_ 34 (d := d_desk_say) rfl
  have F_desk_say : Fun K "say" "Desk.say" s_desk_say (He.ma K (He.ga K "Desk") "say") v_desk_say := toFun D_desk_say
  have b_desk_say : Binds K v_desk_say ["self", "line"] [] := F_desk_say.binds fun _ _ _ _ _ _ us hl => match us, hl with | [_, _], _ => rfl
  have m_Desk : mg "Desk" = some (.ref (He.ga K "Desk")) := He.glo_ok X G (c.d.fact 33 (f := .glo "Desk") rfl)
  have m_ASKED : mg "ASKED" = some (.ref (He.ga K "ASKED")) := He.glo_ok X G (c.d.fact 34 (f := .glo "ASKED") rfl)
  have m_NoText : mg "NoText" = some (.ref (He.ga K "NoText")) := He.glo_ok X G (c.d.fact 35 (f := .glo "NoText") rfl)
  have n_len : mg "len" = none := He.free_ok X G (c.d.fact 36 (f := .free "len") rfl)
  have n_isinstance : mg "isinstance" = none := He.free_ok X G (c.d.fact 37 (f := .free "isinstance") rfl)
  have n_int : mg "int" = none := He.free_ok X G (c.d.fact 38 (f := .free "int") rfl)
  have n_bool : mg "bool" = none := He.free_ok X G (c.d.fact 39 (f := .free "bool") rfl)
  have n_tuple : mg "tuple" = none := He.free_ok X G (c.d.fact 40 (f := .free "tuple") rfl)
  have n_all : mg "all" = none := He.free_ok X G (c.d.fact 41 (f := .free "all") rfl)
  have n_divmod : mg "divmod" = none := He.free_ok X G (c.d.fact 42 (f := .free "divmod") rfl)
  have n_reversed : mg "reversed" = none := He.free_ok X G (c.d.fact 43 (f := .free "reversed") rfl)
  have n_range : mg "range" = none := He.free_ok X G (c.d.fact 44 (f := .free "range") rfl)
  have n_max : mg "max" = none := He.free_ok X G (c.d.fact 45 (f := .free "max") rfl)
  have n_min : mg "min" = none := He.free_ok X G (c.d.fact 46 (f := .free "min") rfl)
  have n_zip : mg "zip" = none := He.free_ok X G (c.d.fact 47 (f := .free "zip") rfl)
  have n_str : mg "str" = none := He.free_ok X G (c.d.fact 48 (f := .free "str") rfl)
  have n_abs : mg "abs" = none := He.free_ok X G (c.d.fact 49 (f := .free "abs") rfl)
  obtain ⟨t_FIGURES, m_FIGURES⟩ := He.str_ok X G (c.d.fact 50 (f := .str "FIGURES" "0123456789") rfl)
  obtain ⟨t_MOST_FIGURES, m_MOST_FIGURES⟩ := He.int_ok X G (c.d.fact 51 (f := .int "MOST_FIGURES" 60) rfl)
  obtain ⟨t_NOUGHT, m_NOUGHT⟩ := He.str_ok X G (c.d.fact 52 (f := .str "NOUGHT" "-") rfl)
  obtain ⟨t_MOST_NUMBER, m_MOST_NUMBER⟩ := He.int_ok X G (c.d.fact 53 (f := .int "MOST_NUMBER" 1000000) rfl)
  have cD : Cls K (He.ga K "Desk") := He.cls_ok (c.d.fact 54 (f := .cls "Desk") rfl)
  have n_kept_base : NoAttr K (He.ga K "Desk") "kept_base" := He.noat_ok (c.d.fact 55 (f := .noat "Desk" "kept_base") rfl)
  have n_kept_plan : NoAttr K (He.ga K "Desk") "kept_plan" := He.noat_ok (c.d.fact 56 (f := .noat "Desk" "kept_plan") rfl)
  have hM : Meth K (He.ga K "Desk") "say" (He.ma K (He.ga K "Desk") "say") := He.meth_ok (c.d.fact 57 (f := .meth "Desk" "say") rfl)
  have mK : Mk K (He.ga K "Desk") (He.ma K (He.ga K "Desk") "__init__") := He.mkr_ok (c.d.fact 58 (f := .mkr "Desk") rfl)
  obtain ⟨es, n, hT⟩ := c.tab 0 (t := (fun K => He.ga K "ASKED", _)) rfl
  obtain ⟨u, hu, hr⟩ := He.valsB_ok cB (q := ("lead", .glo "lead_said")) List.mem_cons_self
  have hA : PySem.W.nsIn K (He.ga K "ASKED") "lead" = some (some (.ref (He.ga K "lead_said"))) := by
    cases hr
    exact hu
  have e := hfa.symm.trans m_law
  cases e
  have bL := FunD.bindsA (ps := ["_law_script"]) D_law fun _ _ _ _ _ _ us hl => match us, hl with | [_], _ => rfl
  refine ⟨v_law, fun s v => bL s [v] rfl, fun base _ _ => ?_⟩
  have O_is_whole_rows : FnOk P w K mg base CX0 1 (He.ga K "is_whole_rows") v_is_whole_rows ["thing"] spWhole := ok_is_whole F_is_whole_rows n_isinstance n_int n_bool
  have O_is_row : FnOk P w K mg base CX0 2 (He.ga K "is_row") v_is_row ["base", "thing"] spIsRow := ok_is_row F_is_row O_is_whole_rows b_is_whole_rows k_is_whole_rows m_is_whole_rows n_isinstance n_tuple n_all
  have O_bare_row : FnOk P w K mg base CX0 1 (He.ga K "bare_row") v_bare_row ["figures"] spBare := ok_bare_row F_bare_row n_len n_tuple
  have O_row_of : FnOk P w K mg base CX0 1 (He.ga K "row_of") v_row_of ["base", "number"] spRowOf := ok_row_of F_row_of n_divmod n_tuple
  have O_number_of : FnOk P w K mg base CX0 1 (He.ga K "number_of") v_number_of ["base", "row"] spNum := ok_number_of F_number_of n_reversed
  have O_figure_at : FnOk P w K mg base CX0 1 (He.ga K "figure_at") v_figure_at ["row", "place"] spFig := ok_figure_at F_figure_at n_len
  have O_plus : FnOk P w K mg base CX0 2 (He.ga K "plus") v_plus ["base", "one", "other"] spPlus := ok_plus F_plus O_figure_at b_figure_at k_figure_at m_figure_at O_bare_row b_bare_row k_bare_row m_bare_row n_len n_max n_range n_divmod
  have O_moved : FnOk P w K mg base CX0 1 (He.ga K "moved") v_moved ["row", "many"] spMoved := ok_moved F_moved
  have O_cut : FnOk P w K mg base CX0 2 (He.ga K "cut") v_cut ["row", "at"] spCut := ok_cut F_cut O_bare_row b_bare_row k_bare_row m_bare_row
  have O_led : FnOk P w K mg base CX0 2 (He.ga K "led") v_led ["base", "goal", "row"] spLed := ok_led F_led O_row_of b_row_of k_row_of m_row_of O_number_of b_number_of k_number_of m_number_of
  have O_half_of : FnOk P w K mg base CX0 1 (He.ga K "half_of") v_half_of ["row"] spHalf := ok_half_of F_half_of n_len
  have O_lifted : FnOk P w K mg base CX0 2 (He.ga K "lifted") v_lifted ["base", "goal", "row", "at"] spLifted := ok_lifted F_lifted O_row_of b_row_of k_row_of m_row_of O_number_of b_number_of k_number_of m_number_of O_moved b_moved k_moved m_moved
  have T : Kit P w K mg base (He.ga K "led") (He.ga K "half_of") (He.ga K "cut") (He.ga K "plus") (He.ga K "lifted") v_led v_half_of v_cut v_plus v_lifted := ⟨O_led, b_led, k_led, m_led, O_half_of, b_half_of, k_half_of, m_half_of, O_cut, b_cut, k_cut, m_cut, O_plus, b_plus, k_plus, m_plus, O_lifted, b_lifted, k_lifted, m_lifted, n_len⟩
  have O_halves : FnOk P w K mg base CX0 13 (He.ga K "halves") v_halves ["base", "goal", "row"] (spHalves 10) := ok_halves F_halves b_halves m_halves T 10
  have O_is_node : FnOk P w K mg base CX0 3 (He.ga K "is_node") v_is_node ["goal", "thing", "many"] spNode := ok_is_node F_is_node O_is_row b_is_row k_is_row m_is_row n_isinstance n_tuple n_len
  have O_shows_halves : FnOk P w K mg base CX0 14 (He.ga K "shows_halves") v_shows_halves ["base", "goal", "row", "thing"] (spShows 10) := ok_shows F_shows_halves b_shows_halves m_shows_halves T O_is_node b_is_node k_is_node m_is_node n_zip 10
  have O_number_in : FnOk P w K mg base CX0 1 (He.ga K "number_in") v_number_in ["word"] spNumIn := ok_number_in F_number_in n_len n_all n_int m_MOST_FIGURES m_FIGURES
  have O_numbers_in : FnOk P w K mg base CX0 2 (He.ga K "numbers_in") v_numbers_in ["words"] spNumsIn := ok_numbers_in F_numbers_in O_number_in b_number_in k_number_in m_number_in n_tuple
  have O_words_of : FnOk P w K mg base CX0 1 (He.ga K "words_of") v_words_of ["text", "sign"] spWords := ok_words_of F_words_of n_isinstance n_str
  have O_pointed : FnOk P w K mg base CX0 1 (He.ga K "pointed") v_pointed ["numbers"] spPointed := ok_pointed F_pointed n_str
  have O_show_row : FnOk P w K mg base CX0 2 (He.ga K "show_row") v_show_row ["row"] spShowRow := ok_show_row F_show_row O_pointed b_pointed k_pointed m_pointed n_len m_NOUGHT
  have O_read_row : FnOk P w K mg base CX0 3 (He.ga K "read_row") v_read_row ["base", "text"] spReadRow := ok_read_row F_read_row O_words_of b_words_of k_words_of m_words_of O_numbers_in b_numbers_in k_numbers_in m_numbers_in O_is_row b_is_row k_is_row m_is_row m_NOUGHT
  have O_want : FnOk P w K mg base CX0 1 (He.ga K "want") v_want ["holds"] spWant := ok_want F_want
  have O_number_told_desk : FnOk P w K mg base CX0 2 (He.ga K "number_told_desk") v_number_told_desk ["word", "least", "greatest"] spTold := ok_told F_number_told_desk O_number_in b_number_in k_number_in m_number_in O_want b_want k_want m_want
  have O_row_told : FnOk P w K mg base CX0 4 (He.ga K "row_told") v_row_told ["base", "word"] spReadRow := ok_row_told F_row_told O_read_row b_read_row k_read_row m_read_row m_NoText
  have O_desk_init : FnOk P w K mg base CX0 1 (He.ma K (He.ga K "Desk") "__init__") v_desk_init ["self", "base"] (spInit (He.ga K "Desk")) := ok_init F_desk_init cD n_kept_base n_kept_plan
  have O_lead_said : FnOk P w K mg base CX0 5 (He.ga K "lead_said") v_lead_said ["desk", "words"] (spLead (He.ga K "Desk")) := ok_lead F_lead_said cD n_kept_base O_want b_want k_want m_want O_number_told_desk b_number_told_desk k_number_told_desk m_number_told_desk O_show_row b_show_row k_show_row m_show_row O_led b_led k_led m_led O_row_told b_row_told k_row_told m_row_told n_len m_MOST_NUMBER
  have O_desk_say : FnOk P w K mg base CX0 6 (He.ma K (He.ga K "Desk") "say") v_desk_say ["self", "line"] (spSay (He.ga K "Desk")) := ok_say F_desk_say O_want b_want k_want m_want O_lead_said b_lead_said k_lead_said m_ASKED hT hA n_isinstance n_str
  have O_law_pot : FnOk P w K mg base CX0 1 (He.ga K "_law_pot") v_law_pot ["_law_script", "_law_k"] (spPot K) := ok_pot F_law_pot n_len n_abs n_int
  have O_law_take : FnOk P w K mg base CX0 1 (He.ga K "_law_take") v_law_take ["_law_pot_here", "_law_many"] spTake := ok_take F_law_take
  have O_law_base : FnOk P w K mg base CX0 2 (He.ga K "_law_base") v_law_base ["_law_pot_here"] spBase := ok_base F_law_base O_law_take b_law_take k_law_take m_law_take
  have O_law_row : FnOk P w K mg base CX0 2 (He.ga K "_law_row") v_law_row ["_law_pot_here", "_law_base_here", "_law_most"] spRow := ok_row F_law_row O_law_take b_law_take k_law_take m_law_take n_range n_tuple
  have O_law_leaves : FnOk P w K mg base CX0 13 (He.ga K "_law_leaves") v_law_leaves ["_law_base_here", "_law_goal", "_law_row_here", "_law_tree"] (spLeaves 10) := ok_leaves F_law_leaves b_law_leaves m_law_leaves O_number_of b_number_of k_number_of m_number_of O_cut b_cut k_cut m_cut n_len 10
  have O_law_desks_right : FnOk P w K mg base CX0 7 (He.ga K "_law_desks_right") v_law_desks_right ["_law_base_here", "_law_goal", "_law_row_here"] spDesks := ok_desks F_law_desks_right cD mK m_Desk hM O_desk_init b_desk_init O_desk_say b_desk_say O_show_row b_show_row k_show_row m_show_row O_read_row b_read_row k_read_row m_read_row O_number_of b_number_of k_number_of m_number_of O_led b_led k_led m_led n_str
  have O_law_tree_right : FnOk P w K mg base CX0 15 (He.ga K "_law_tree_right") v_law_tree_right ["_law_base_here", "_law_goal", "_law_row_here"] spTree := ok_tree F_law_tree_right O_halves b_halves k_halves m_halves O_law_leaves b_law_leaves k_law_leaves m_law_leaves O_led b_led k_led m_led O_shows_halves b_shows_halves k_shows_halves m_shows_halves O_plus b_plus k_plus m_plus n_len n_max
  exact ok_law F_law O_law_pot b_law_pot k_law_pot m_law_pot O_law_base b_law_base k_law_base m_law_base O_law_row b_law_row k_law_row m_law_row O_law_desks_right b_law_desks_right k_law_desks_right m_law_desks_right O_law_tree_right b_law_tree_right k_law_tree_right m_law_tree_right O_led b_led k_led m_led n_len n_max n_min n_range
end Bz

set_option maxHeartbeats 0
open PySem PySem.W PySem.Calls PyProof.Rows
theorem PySem.Challenge.cw_partmill_k89_whole_other_bases_holds : PySem.Challenge.rw_partmill_k89_whole_other_bases.Holds := by
  w_on
  o_law
  refine Bz.head_ex (r := PySem.W.OpenLaw.row PySem.Challenge.rw_partmill_k89_whole_other_bases) (q := Bz.qv) (H := Bz.hk) (N := 20000) (loose := Bz.names) (d := HandSHeadRun.topDef (PySem.W.OpenLaw.row PySem.Challenge.rw_partmill_k89_whole_other_bases).prog 206) (kwd := [])
    (by kernel_rfl) rfl (fun s => by kernel_rfl) (fun w os => ?hr) (by kernel_rfl) (by kernel_rfl) (by kernel_rfl) (by rfl) (by first | assumption | decide +kernel) (by decide +kernel) ⟨rfl, rfl, rfl, rfl, rfl, by decide +kernel⟩ ?hw ?hc
  case hr =>
    obtain ⟨M, s, a, b, g1, g2, g3⟩ := Bz.run w os
    exact ⟨M, s, a, b, g1, g2, g3⟩
  case hw => w_witness2
  case hc =>
    refine L2.walk_ofE (l := PySem.Challenge.rw_partmill_k89_whole_other_bases) (n := 63) (k := 16) (x := "_law_script") (CX := L2.CX0) rfl (by decide) (by kernel_rfl) ⟨rfl, by decide, by decide⟩ ?F (fun _ _ _ _ z => z)
    intro w mg fa h Y G hmg0
    obtain ⟨K, KX, c⟩ := Y
    have hmg : mg ("law" : PySem.Str) = some (.ref fa) := by
      have e : (HandSHeadRun.topDef (PySem.W.OpenLaw.row PySem.Challenge.rw_partmill_k89_whole_other_bases).prog 206).name = ("law" : PySem.Str) := by kernel_rfl
      rw [← e]
      exact hmg0
    have c1 : He.SaysT Bz.fa Bz.fn Bz.tsA w K := congrArg (fun z : He.AlT × Bool => z.1) c
    have c2 : Bz.seesB K = true := congrArg (fun z : He.AlT × Bool => z.2) c
    obtain ⟨fd, hb, hF⟩ := Bz.facts (P := (PySem.Challenge.rw_partmill_k89_whole_other_bases).prog) (w := w) KX G hmg c1 c2
    exact ⟨K, fd, Bz.spLaw K, KX, hb, fun H a ns hl _ hS => ⟨a, ns, rfl, hS, hl, fun _ => rfl⟩, hF⟩
