import PyProof.Rows.All
import Wide.All
import OpenK.AllK
import Wide.FinOn
import HandS.ForMost
import HandS.Defaults
import HandS.Head0
import HandS.Head1
import HandS.Head2
import HandS.Head3
import HandS.HeadEnd
import HandS.HeadHook4
import HandS.HeadWalk
import HandS.Evl
import HandS.AnyAll
import HandS.IsInst
import HandS.Deep
import HandS.Wide
import HandS.TupAny
import HandS.TupMul
import HandS.Gcd
import HandS.Zip
import HandS.Sort
import HandS.SortRule
import HandS.SortInts
import KE.GoesMore
import KE.GoesEnum
import HandS.Steps
import PySem.Str
import HandS.Conv
import PyProof.GenCompD
import PyProof.WalksMore
import HandS.Text
import PyProof.IsiPairs
import PyProof.Rows.Chain
import HandS.TupSets
import KE.KeyNested
import HandS.SetBool
import KE.SortData
import HandS.Replace
import PySem.Challenge.RW_stakehulls_k92_whole_houses_multiplied
set_option Elab.async false
set_option linter.all false
set_option maxRecDepth 100000
section
set_option maxHeartbeats 0
namespace SH
open PySem PySem.Spec PyProof.Rows L2
def top (i : Nat) : Stmt := PySem.Challenge.pw_stakehulls_k92_whole_houses_multiplied.main.body.getD i (.Pass ⟨0, 0, 0, 0⟩)
abbrev s_ratio : Stmt := top 15
abbrev s_plus : Stmt := top 16
abbrev s_times : Stmt := top 17
abbrev s_less : Stmt := top 18
abbrev s_is_number : Stmt := top 19
abbrev s_is_ratio : Stmt := top 20
abbrev s_weight_of : Stmt := top 22
abbrev s_average : Stmt := top 23
abbrev s_whole_row : Stmt := top 26
abbrev s_pivot_of : Stmt := top 27
abbrev s_cleared : Stmt := top 28
abbrev s_solved : Stmt := top 29
abbrev s_arrows_back : Stmt := top 31
abbrev s_comes : Stmt := top 32
abbrev s_is_choice : Stmt := top 35
abbrev s_want_way : Stmt := top 36
abbrev s_led_to : Stmt := top 37
abbrev s_live_places : Stmt := top 38
abbrev s_inner_places : Stmt := top 39
abbrev s_weight_to : Stmt := top 41
abbrev s_square_row : Stmt := top 42
abbrev s_way_square : Stmt := top 43
abbrev s_stopping_sum : Stmt := top 44
abbrev s_value : Stmt := top 45
abbrev s_amounts : Stmt := top 47
abbrev s_better_choice : Stmt := top 48
abbrev s_improved_for : Stmt := top 49
abbrev s_worth : Stmt := top 50
abbrev s_is_within : Stmt := top 55
abbrev s_is_name : Stmt := top 56
abbrev s_are_outs : Stmt := top 57
abbrev s_is_table : Stmt := top 58
abbrev s_stakes : Stmt := top 59
abbrev s_check_goal : Stmt := top 64
abbrev s_check_names : Stmt := top 65
abbrev s_checked_house : Stmt := top 66
abbrev s_open_stakes : Stmt := top 67
abbrev s_out_of : Stmt := top 68
abbrev s_goal_pays : Stmt := top 69
abbrev s_is_pay : Stmt := top 77
abbrev s_is_lottery : Stmt := top 78
abbrev s_want_pays : Stmt := top 79
abbrev s_want_plays : Stmt := top 80
abbrev s_made_board : Stmt := top 81
abbrev s_stake_lottery : Stmt := top 83
abbrev s_house_plays : Stmt := top 84
abbrev s_laid : Stmt := top 85
abbrev s_pushed : Stmt := top 87
abbrev s_chances_of : Stmt := top 88
abbrev s_are_places : Stmt := top 89
abbrev s_is_map : Stmt := top 90
abbrev s__law_pool : Stmt := top 92
abbrev s__law_take : Stmt := top 93
abbrev s__law_one : Stmt := top 94
abbrev s__law_low : Stmt := top 95
abbrev s__law_is_ratio : Stmt := top 96
abbrev s__law_is_function : Stmt := top 97
abbrev s__law_name : Stmt := top 98
abbrev s__law_outs : Stmt := top 99
abbrev s__law_table : Stmt := top 100
abbrev s__law_times : Stmt := top 101
abbrev s__law_seen : Stmt := top 102
abbrev s_law : Stmt := top 103
abbrev s_Board_init : Stmt := inClass (top 76) 0
def dF (n : Str) (st : Stmt) : He.DefD := ⟨(n, none), n, n, defArgs st, defBody st, defScope st, [], []⟩
def dBoard : He.DefD := ⟨("Board", some "__init__"), "__init__", "Board.__init__", defArgs s_Board_init, defBody s_Board_init, defScope s_Board_init, [], []⟩
def fn : List He.DefD := [dBoard, dF "ratio" s_ratio, dF "plus" s_plus, dF "times" s_times, dF "less" s_less, dF "is_number" s_is_number, dF "is_ratio" s_is_ratio, dF "weight_of" s_weight_of, dF "average" s_average, dF "whole_row" s_whole_row, dF "pivot_of" s_pivot_of, dF "cleared" s_cleared, dF "solved" s_solved, dF "arrows_back" s_arrows_back, dF "comes" s_comes, dF "is_choice" s_is_choice, dF "want_way" s_want_way, dF "led_to" s_led_to, dF "live_places" s_live_places, dF "inner_places" s_inner_places, dF "weight_to" s_weight_to, dF "square_row" s_square_row, dF "way_square" s_way_square, dF "stopping_sum" s_stopping_sum, dF "value" s_value, dF "amounts" s_amounts, dF "better_choice" s_better_choice, dF "improved_for" s_improved_for, dF "worth" s_worth, dF "is_within" s_is_within, dF "is_name" s_is_name, dF "are_outs" s_are_outs, dF "is_table" s_is_table, dF "stakes" s_stakes, dF "check_goal" s_check_goal, dF "check_names" s_check_names, dF "checked_house" s_checked_house, dF "open_stakes" s_open_stakes, dF "out_of" s_out_of, dF "goal_pays" s_goal_pays, dF "is_pay" s_is_pay, dF "is_lottery" s_is_lottery, dF "want_pays" s_want_pays, dF "want_plays" s_want_plays, dF "made_board" s_made_board, dF "stake_lottery" s_stake_lottery, dF "house_plays" s_house_plays, dF "laid" s_laid, dF "pushed" s_pushed, dF "chances_of" s_chances_of, dF "are_places" s_are_places, dF "is_map" s_is_map, dF "_law_pool" s__law_pool, dF "_law_take" s__law_take, dF "_law_one" s__law_one, dF "_law_low" s__law_low, dF "_law_is_ratio" s__law_is_ratio, dF "_law_is_function" s__law_is_function, dF "_law_name" s__law_name, dF "_law_outs" s__law_outs, dF "_law_table" s__law_table, dF "_law_times" s__law_times, dF "_law_seen" s__law_seen, dF "law" s_law]
def fa : List He.Fa := [.glo "ratio", .glo "plus", .glo "times", .glo "less", .glo "is_number", .glo "is_ratio", .glo "weight_of", .glo "average", .glo "whole_row", .glo "pivot_of", .glo "cleared", .glo "solved", .glo "arrows_back", .glo "comes", .glo "is_choice", .glo "want_way", .glo "led_to", .glo "live_places", .glo "inner_places", .glo "weight_to", .glo "square_row", .glo "way_square", .glo "stopping_sum", .glo "value", .glo "amounts", .glo "better_choice", .glo "improved_for", .glo "worth", .glo "is_within", .glo "is_name", .glo "are_outs", .glo "is_table", .glo "stakes", .glo "check_goal", .glo "check_names", .glo "checked_house", .glo "open_stakes", .glo "out_of", .glo "goal_pays", .glo "is_pay", .glo "is_lottery", .glo "want_pays", .glo "want_plays", .glo "made_board", .glo "stake_lottery", .glo "house_plays", .glo "laid", .glo "pushed", .glo "chances_of", .glo "are_places", .glo "is_map", .glo "_law_pool", .glo "_law_take", .glo "_law_one", .glo "_law_low", .glo "_law_is_ratio", .glo "_law_is_function", .glo "_law_name", .glo "_law_outs", .glo "_law_table", .glo "_law_times", .glo "_law_seen", .glo "law", .glo "Refused", .glo "BadRatio", .glo "BadSize", .glo "BadPay", .glo "BadPlay", .glo "TooManyPlays", .glo "BadWay", .glo "BadTable", .glo "Taken", .glo "BadGoal", .glo "BadStake", .glo "TooMany", .glo "Board", .free "len", .free "isinstance", .free "int", .free "bool", .free "str", .free "tuple", .free "sum", .free "any", .free "all", .free "range", .free "enumerate", .free "zip", .free "sorted", .free "min", .free "max", .free "list", .int "MOST_UNKNOWNS" (40), .int "STOP" (-1), .str "LETTERS" "abcdefghijklmnopqrstuvwxyz", .int "MOST_OUTS" (6), .int "MOST_STAKE" (39), .int "MOST_GOAL" (39), .int "MOST_TABLES" (4), .int "MOST_STAKES" (12), .int "MOST_PLACES" (40), .int "MOST_PLAYS" (12), .int "MOST_PAIRS" (8), .int "MOST_WEIGHT" (99999), .int "PAY_LIMIT" (10 ^ 600), .cls "Board", .noat "Board" "size", .noat "Board" "pays", .noat "Board" "plays", .mkr "Board", .keep "Board"]
def ex (K : PySem.W.Frag) : Bool := He.eqO (PySem.W.nsIn K mainGlobals "gcd") (some (some (.builtin "math.gcd"))) && He.eqO (PySem.W.nsIn K mainGlobals "lcm") (some (some (.builtin "math.lcm")))
def tf : List He.Defn := [("is_name", none), ("solved", none), ("are_places", none)]
abbrev R : PySem.W.OpenRow := PySem.W.OpenLaw.row PySem.Challenge.rw_stakehulls_k92_whole_houses_multiplied
abbrev hk : PySem.W.Hook := He.hookX 5 fa fn [] tf ex
def ob (s : PySem.W.SharedT) : He.AlX := He.obsX 5 fa fn [] tf ex (HandSHeadRun.getT s)
theorem ob_eq (s : PySem.W.SharedT) : ob s = hk.obs s.abs := He.obsX_eq (HandSHeadRun.getT_eq s)
def loose0 : List Str := ["Refused", "BadRatio", "BadSize", "BadPay", "BadPlay", "TooManyPlays", "BadWay", "BadTable", "Taken", "BadGoal", "BadStake", "TooMany", "ratio", "plus", "times", "less", "is_number", "is_ratio", "weight_of", "average", "MOST_UNKNOWNS", "whole_row", "pivot_of", "cleared", "solved", "arrows_back", "comes", "STOP", "is_choice", "want_way"]
def loose1 : List Str := ["led_to", "live_places", "inner_places", "weight_to", "square_row", "way_square", "stopping_sum", "value", "amounts", "better_choice", "improved_for", "worth", "LETTERS", "MOST_OUTS", "MOST_STAKE", "is_within", "is_name", "are_outs", "is_table", "stakes", "MOST_GOAL", "MOST_TABLES", "MOST_STAKES", "check_goal", "check_names", "checked_house", "open_stakes", "out_of", "goal_pays", "MOST_PLACES"]
def loose2 : List Str := ["MOST_PLAYS", "MOST_PAIRS", "MOST_WEIGHT", "PAY_LIMIT", "Board", "is_pay", "is_lottery", "want_pays", "want_plays", "made_board", "stake_lottery", "house_plays", "laid", "pushed", "chances_of", "are_places", "is_map", "_law_pool", "_law_take", "_law_one", "_law_low", "_law_is_ratio", "_law_is_function", "_law_name", "_law_outs", "_law_table", "_law_times", "_law_seen"]
def loose : List Str := loose0 ++ loose1 ++ loose2
abbrev qv : Program := PySem.W.view R.prog [0, 103]
end SH
end
section
set_option maxHeartbeats 0
namespace SH
open PySem PySem.Spec PyProof.Rows L2
theorem r2 (w : World) : (HandSHeadRun.wholeF (fun p => HandSHeadRun.stepQ (HandSHeadRun.denQ HandSHeadRun.tabQ) p w) HandSHeadRun.fenceQ 20000 R.prog).map (fun x => HandSHeadRun.looksF R.prog x.1.heap x.2.abs) = some true := by
  kernel_rfl
theorem r3 (w : World) : (HandSHeadRun.wholeF (fun p => HandSHeadRun.stepQ (HandSHeadRun.denQ HandSHeadRun.tabQ) p w) HandSHeadRun.fenceQ 20000 R.prog).map (fun x => HandSHeadRun.seenQ qv loose (importedModules R.prog.main.body) (fun s => PySem.W.xlAt qv [] s && PySem.W.recOk R.toRowW.records s) x.2.abs) = some (PySem.W.openGood qv loose) := by
  kernel_rfl
theorem r4 (w : World) : (HandSHeadRun.wholeF (fun p => HandSHeadRun.stepQ (HandSHeadRun.denQ HandSHeadRun.tabQ) p w) HandSHeadRun.fenceQ 20000 R.prog).map (fun x => ob x.2) = some (hk.val w) := by
  kernel_rfl
theorem join3 {α A B C : Type} {o : Option α} {f : α → A} {g : α → B} {h : α → C} {a : A} {b : B} {c : C} (h2 : o.map f = some a) (h3 : o.map g = some b) (h4 : o.map h = some c) : o.map (fun x => (f x, g x, h x)) = some (a, b, c) := by
  cases o with
  | none => cases h2
  | some x =>
    have e2 : f x = a := Option.some.inj h2
    have e3 : g x = b := Option.some.inj h3
    have e4 : h x = c := Option.some.inj h4
    show some (f x, g x, h x) = _
    rw [e2, e3, e4]
theorem run (w : World) : HandSHeadRun.RunEqI R qv hk ob 20000 loose w := join3 (r2 w) (r3 w) (r4 w)
end SH
end
section
set_option maxHeartbeats 4000000
namespace SD
open PySem PySem.Spec PyProof.Rows L2
abbrev Ex := Evl.Ex
section
variable {K : PySem.W.Frag}
mutual
theorem dp_ex {H H' : Hp} (e : Ex H H') : ∀ (d : PyData) (v : V), Dp K H v d → Dp K H' v d
  | .none, _, h => by cases h; exact .non
  | .bool b, _, h => by cases h; exact .bl b
  | .int i, _, h => by cases h; exact .int i
  | .str x, _, h => by cases h; exact .str x
  | .list ds, _, h => by
    cases h with
    | lst hs ha => exact .lst (Evl.ex_l e hs) (dpAll_ex e ds _ ha)
  | .tuple ds, _, h => by
    cases h with
    | tup hs ha => exact .tup (Evl.ex_t e hs) (dpAll_ex e ds _ ha)
  | .dict _, _, h => by cases h
theorem dpAll_ex {H H' : Hp} (e : Ex H H') : ∀ (ds : List PyData) (vs : List V), DpAll K H vs ds → DpAll K H' vs ds
  | [], _, h => by cases h; exact .nil
  | d :: ds, _, h => by
    cases h with
    | cons h1 h2 => exact .cons (dp_ex e d _ h1) (dpAll_ex e ds _ h2)
end
theorem dpAll_length {H : Hp} : ∀ {vs : List V} {ds : List PyData}, DpAll K H vs ds → vs.length = ds.length
  | _, _, .nil => rfl
  | _, _, .cons _ h => congrArg Nat.succ (dpAll_length h)
theorem dpAll_get {H : Hp} : ∀ {vs : List V} {ds : List PyData} {i : Nat} {d : PyData}, DpAll K H vs ds → ds[i]? = some d → ∃ v, vs[i]? = some v ∧ Dp K H v d
  | _, _, _, _, .nil, e => by simp at e
  | _, _, 0, _, .cons h1 _, e => by simp at e; subst e; exact ⟨_, rfl, h1⟩
  | _, _, i + 1, d, .cons _ h2, e => by
    obtain ⟨v, h3, h4⟩ := dpAll_get (i := i) (d := d) h2 (by simpa using e)
    exact ⟨v, by simpa using h3, h4⟩
theorem dpAll_append {H : Hp} : ∀ {vs ws : List V} {ds es : List PyData}, DpAll K H vs ds → DpAll K H ws es → DpAll K H (vs ++ ws) (ds ++ es)
  | _, _, _, _, .nil, h => h
  | _, _, _, _, .cons h1 h2, h => .cons h1 (dpAll_append h2 h)
theorem dpAll_ints {H : Hp} : ∀ {vs : List V} {ns : List Int}, DpAll K H vs (ns.map PyData.int) → vs = ns.map V.int
  | _, [], h => by cases h; rfl
  | _, n :: ns, h => by
    cases h with
    | cons h1 h2 => cases h1; rw [dpAll_ints h2]; rfl
theorem dpAll_of_ints {H : Hp} : ∀ ns : List Int, DpAll K H (ns.map V.int) (ns.map PyData.int)
  | [] => .nil
  | n :: ns => .cons (.int n) (dpAll_of_ints ns)
end
structure Rp where
  p : Hp → V → Prop
  mono : ∀ {H H' : Hp} {v : V}, Ex H H' → p H v → p H' v
structure Op where
  p : Hp → Addr → HO → Prop
  mono : ∀ {H H' : Hp} {a : Addr} {o : HO}, Ex H H' → p H a o → p H' a o
  nt : ∀ {H : Hp} {a : Addr} {o : HO}, p H a o → ∀ ps, o ≠ .tbl ps
def isD (K : PySem.W.Frag) (d : PyData) : Rp := ⟨fun H v => Dp K H v d, fun e h => dp_ex e d _ h⟩
def ownL (K : PySem.W.Frag) (ds : List PyData) : Op := ⟨fun H _ o => ∃ vs, o = .lst vs ∧ DpAll K H vs ds, fun e ⟨vs, h1, h2⟩ => ⟨vs, h1, dpAll_ex e _ _ h2⟩, fun ⟨vs, h1, _⟩ ps z => by rw [h1] at z; cases z⟩
def ownZ (kvs : List (Int × Int)) : Op := ⟨fun _ _ o => o = .dK (kvs.map fun p => (Sum.inl p.1, V.int p.2)), fun _ h => h, fun h ps z => by rw [h] at z; cases z⟩
structure StpX (X : List Addr) (Hs H Hs' H' : Hp) : Prop where
  s : Ex Hs Hs'
  i : Ex Hs' H'
  k : ∀ a o, a ∉ X → H a = some o → (∀ ps, o ≠ .tbl ps) → H' a = some o
  t : ∀ a, GxR.TabG H a → GxR.TabG H' a
  f : ∀ a, H a ≠ none → Hs a = none → Hs' a = none
  d : ∀ a, H a ≠ none → H' a ≠ none
abbrev Stp := StpX []
theorem StpX.trans {X : List Addr} {Hs H Hs1 H1 Hs2 H2 : Hp} (a : StpX X Hs H Hs1 H1) (b : StpX X Hs1 H1 Hs2 H2) : StpX X Hs H Hs2 H2 :=
  ⟨a.s.trans b.s, b.i, fun c o hX e n => b.k c o hX (a.k c o hX e n) n, fun c h => b.t c (a.t c h), fun c h e => b.f c (a.d c h) (a.f c h e), fun c h => b.d c (a.d c h)⟩
theorem StpX.mono {X Y : List Addr} {Hs H Hs1 H1 : Hp} (a : StpX X Hs H Hs1 H1) (h : ∀ b ∈ X, b ∈ Y) : StpX Y Hs H Hs1 H1 :=
  ⟨a.s, a.i, fun c o hX => a.k c o fun z => hX (h c z), a.t, a.f, a.d⟩
theorem StpX.refl {X : List Addr} {Hs H : Hp} (h : Ex Hs H) : StpX X Hs H Hs H := ⟨Evl.Ex.refl _, h, fun _ _ _ e _ => e, fun _ e => e, fun _ _ e => e, fun _ e => e⟩
theorem tabG_upd {H : Hp} {p a : Addr} {o : HO} (hp : H p = none) (h : GxR.TabG H a) : GxR.TabG (upd H p o) a := by
  obtain ⟨ps, e, t⟩ := h
  exact ⟨ps, by rw [upd_ne (ne_of_none e hp)]; exact e, t⟩
theorem Stp.new {Hs H : Hp} {p : Addr} {o : HO} (h : Ex Hs H) (hp : H p = none) : Stp Hs H (upd Hs p o) (upd H p o) where
  s := Evl.Ex.new (Evl.fresh_back h hp)
  i := fun a u e => by
    by_cases ha : a = p
    · subst ha; rw [upd_same] at e ⊢; exact e
    · rw [upd_ne ha] at e ⊢; exact h a u e
  k := fun a u _ e _ => by rw [upd_ne (ne_of_none e hp)]; exact e
  t := fun a => tabG_upd hp
  f := fun a h1 h2 => by
    have : a ≠ p := fun z => h1 (by rw [z]; exact hp)
    rw [upd_ne this]; exact h2
  d := fun a h1 => by
    have : a ≠ p := fun z => h1 (by rw [z]; exact hp)
    rw [upd_ne this]; exact h1
theorem Stp.newO {Hs H : Hp} {p : Addr} {o : HO} (h : Ex Hs H) (hp : H p = none) : Stp Hs H Hs (upd H p o) where
  s := Evl.Ex.refl _
  i := Evl.Ex.mut h (Evl.fresh_back h hp)
  k := fun a u _ e _ => by rw [upd_ne (ne_of_none e hp)]; exact e
  t := fun a => tabG_upd hp
  f := fun a _ h2 => h2
  d := fun a h1 => by
    have : a ≠ p := fun z => h1 (by rw [z]; exact hp)
    rw [upd_ne this]; exact h1
structure Okk (T : List Addr) (Hs H : Hp) : Prop where
  sub : Ex Hs H
  tab : ∀ P ∈ T, GxR.TabG H P ∧ Hs P = none
theorem Okk.stp {T X : List Addr} {Hs H Hs' H' : Hp} (o : Okk T Hs H) (s : StpX X Hs H Hs' H') : Okk T Hs' H' :=
  ⟨s.i, fun P hP => ⟨s.t P (o.tab P hP).1, s.f P (by obtain ⟨ps, e, _⟩ := (o.tab P hP).1; rw [e]; exact Option.some_ne_none _) (o.tab P hP).2⟩⟩
inductive Slo where
  | no
  | is (R : Rp)
  | own (P : Op)
structure Ctx where
  T : List Addr
  X : List Addr
  Hs0 : Hp
  H0 : Hp
  G : Hp → Prop
  gm : ∀ {H H' : Hp}, Ex H H' → G H → G H'
def Ctx.also (c : Ctx) (G : Hp → Prop) (gm : ∀ {H H' : Hp}, Ex H H' → G H → G H') : Ctx := { c with G := fun H => c.G H ∧ G H, gm := fun e h => ⟨c.gm e h.1, gm e h.2⟩ }
structure Sat (c : Ctx) (σ : L2.St) (Hs H : Hp) (E : List Slo) : Prop where
  ok : Okk c.T Hs H
  stp : StpX c.X c.Hs0 c.H0 Hs H
  g : c.G Hs
  len : σ.length = E.length
  val : ∀ (i : Nat) (R : Rp), E[i]? = some (.is R) → ∃ v, σ[i]? = some (some v) ∧ R.p Hs v
  own : ∀ (i : Nat) (P : Op), E[i]? = some (.own P) → ∃ p o, σ[i]? = some (some (.ref p)) ∧ Hs p = none ∧ H p = some o ∧ P.p Hs p o ∧ (c.H0 p = none ∨ p ∈ c.X)
  apart : ∀ (i j : Nat) (P P' : Op) (p : Addr), i ≠ j → E[i]? = some (.own P) → E[j]? = some (.own P') → σ[i]? = some (some (.ref p)) → σ[j]? ≠ some (some (.ref p))
section
variable {c : Ctx} {σ : L2.St} {Hs H Hs' H' : Hp} {E : List Slo}
theorem Sat.move (e : Sat c σ Hs H E) (s : Stp Hs H Hs' H') : Sat c σ Hs' H' E where
  ok := e.ok.stp s
  stp := e.stp.trans (s.mono fun _ z => nomatch z)
  g := c.gm s.s e.g
  len := e.len
  val := fun i R h => let ⟨v, h1, h2⟩ := e.val i R h; ⟨v, h1, R.mono s.s h2⟩
  own := fun i P h => by
    obtain ⟨p, o, h1, h2, h3, h4, h5⟩ := e.own i P h
    exact ⟨p, o, h1, s.f p (by rw [h3]; exact Option.some_ne_none _) h2, s.k p o (by simp) h3 (P.nt h4), P.mono s.s h4, h5⟩
  apart := e.apart
theorem Sat.drop {G : Hp → Prop} {gm} (e : Sat (c.also G gm) σ Hs H E) : Sat c σ Hs H E := ⟨e.ok, e.stp, e.g.1, e.len, e.val, e.own, e.apart⟩
theorem Sat.more {G : Hp → Prop} {gm} (e : Sat c σ Hs H E) (h : G Hs) : Sat (c.also G gm) σ Hs H E := ⟨e.ok, e.stp, ⟨e.g, h⟩, e.len, e.val, e.own, e.apart⟩
theorem Sat.set (e : Sat c σ Hs H E) {R : Rp} {v : V} (h : R.p Hs v) (i : Nat) : Sat c (σ.set i (some v)) Hs H (E.set i (.is R)) where
  ok := e.ok
  stp := e.stp
  g := e.g
  len := by rw [List.length_set, List.length_set]; exact e.len
  val := fun j R' hj => by
    by_cases hij : i = j
    · subst hij
      have hl : i < E.length := by
        have := (List.getElem?_eq_some_iff.mp hj).1
        rw [List.length_set] at this; exact this
      rw [List.getElem?_set_self hl] at hj
      cases hj
      exact ⟨v, List.getElem?_set_self (by rw [e.len]; exact hl), h⟩
    · rw [List.getElem?_set_ne hij] at hj ⊢
      exact e.val j R' hj
  own := fun j P hj => by
    by_cases hij : i = j
    · subst hij
      have hl : i < E.length := by
        have := (List.getElem?_eq_some_iff.mp hj).1
        rw [List.length_set] at this; exact this
      rw [List.getElem?_set_self hl] at hj
      cases hj
    · rw [List.getElem?_set_ne hij] at hj ⊢
      exact e.own j P hj
  apart := fun j k P P' p hjk hj hk => by
    have ne : ∀ {m Q}, (E.set i (.is R))[m]? = some (.own Q) → i ≠ m ∧ E[m]? = some (.own Q) := fun {m Q} hm => by
      by_cases him : i = m
      · subst him
        have hl : i < E.length := by
          have := (List.getElem?_eq_some_iff.mp hm).1
          rw [List.length_set] at this; exact this
        rw [List.getElem?_set_self hl] at hm
        cases hm
      · rw [List.getElem?_set_ne him] at hm; exact ⟨him, hm⟩
    obtain ⟨n1, e1⟩ := ne hj
    obtain ⟨n2, e2⟩ := ne hk
    rw [List.getElem?_set_ne n1, List.getElem?_set_ne n2]
    exact e.apart j k P P' p hjk e1 e2
def Weak (E E' : List Slo) : Prop := E.length = E'.length ∧ ∀ (i : Nat) (s : Slo), E'[i]? = some s → s = .no ∨ E[i]? = some s
theorem Weak.refl (E : List Slo) : Weak E E := ⟨rfl, fun _ _ h => .inr h⟩
theorem Sat.weak {E' : List Slo} (e : Sat c σ Hs H E) (w : Weak E E') : Sat c σ Hs H E' where
  ok := e.ok
  stp := e.stp
  g := e.g
  len := e.len.trans w.1
  val := fun i R h => by
    rcases w.2 i _ h with z | z
    · cases z
    · exact e.val i R z
  own := fun i P h => by
    rcases w.2 i _ h with z | z
    · cases z
    · exact e.own i P z
  apart := fun i j P P' p hij hi hj => by
    rcases w.2 i _ hi with z | z
    · cases z
    · rcases w.2 j _ hj with y | y
      · cases y
      · exact e.apart i j P P' p hij z y
theorem Sat.setO (e : Sat c σ Hs H E) {P : Op} {p : Addr} {o : HO} (hp : H p = some o) (hs : Hs p = none) (h : P.p Hs p o) (h0 : c.H0 p = none ∨ p ∈ c.X) (ha : ∀ (j : Nat) (Q : Op), E[j]? = some (.own Q) → σ[j]? ≠ some (some (.ref p))) (i : Nat) : Sat c (σ.set i (some (.ref p))) Hs H (E.set i (.own P)) where
  ok := e.ok
  stp := e.stp
  g := e.g
  len := by rw [List.length_set, List.length_set]; exact e.len
  val := fun j R' hj => by
    by_cases hij : i = j
    · subst hij
      have hl : i < E.length := by
        have := (List.getElem?_eq_some_iff.mp hj).1
        rw [List.length_set] at this; exact this
      rw [List.getElem?_set_self hl] at hj
      cases hj
    · rw [List.getElem?_set_ne hij] at hj ⊢
      exact e.val j R' hj
  own := fun j P' hj => by
    by_cases hij : i = j
    · subst hij
      have hl : i < E.length := by
        have := (List.getElem?_eq_some_iff.mp hj).1
        rw [List.length_set] at this; exact this
      rw [List.getElem?_set_self hl] at hj
      cases hj
      exact ⟨p, o, List.getElem?_set_self (by rw [e.len]; exact hl), hs, hp, h, h0⟩
    · rw [List.getElem?_set_ne hij] at hj ⊢
      exact e.own j P' hj
  apart := fun j k P1 P2 q hjk hj hk hq => by
    by_cases hij : i = j
    · subst hij
      rw [List.getElem?_set_ne hjk] at hk ⊢
      have hl : i < σ.length := by
        have := (List.getElem?_eq_some_iff.mp hq).1
        rw [List.length_set] at this; exact this
      rw [List.getElem?_set_self hl] at hq
      cases hq
      exact ha k _ hk
    · rw [List.getElem?_set_ne hij] at hj hq
      by_cases hik : i = k
      · subst hik
        intro z
        have hl : i < σ.length := by
          have := (List.getElem?_eq_some_iff.mp z).1
          rw [List.length_set] at this; exact this
        rw [List.getElem?_set_self hl] at z
        cases z
        exact ha j _ hj hq
      · rw [List.getElem?_set_ne hik] at hk ⊢
        exact e.apart j k P1 P2 q hjk hj hk hq
theorem Sat.write (e : Sat c σ Hs H E) {P P' : Op} {i : Nat} {p : Addr} {o o' : HO} (hi : E[i]? = some (.own P)) (hσ : σ[i]? = some (some (.ref p))) (hp : H p = some o) (hno : ∀ ps, o ≠ .tbl ps) (h' : P'.p Hs p o') : Sat c σ Hs (upd H p o') (E.set i (.own P')) := by
  obtain ⟨q, u, h1, h2, h3, h4, h5⟩ := e.own i P hi
  rw [hσ] at h1
  cases h1
  have hl : i < E.length := (List.getElem?_eq_some_iff.mp hi).1
  have nT : ∀ a, GxR.TabG H a → a ≠ p := fun a ⟨ps, e1, _⟩ z => by
    rw [z, hp] at e1
    exact hno ps (Option.some.inj e1)
  have hex : Ex Hs (upd H p o') := Evl.Ex.mut e.ok.sub h2
  refine ⟨⟨hex, fun a ha => ⟨?_, (e.ok.tab a ha).2⟩⟩, ⟨e.stp.s, hex, fun a u hX ea hn => ?_, fun a ha => ?_, e.stp.f, fun a ha => ?_⟩, e.g, by rw [List.length_set]; exact e.len, fun j R hj => ?_, fun j Q hj => ?_, fun j k P1 P2 q hjk hj hk hq => ?_⟩
  · obtain ⟨ps, e1, t⟩ := (e.ok.tab a ha).1
    exact ⟨ps, by rw [upd_ne (nT a (e.ok.tab a ha).1)]; exact e1, t⟩
  · have : a ≠ p := fun z => by
      rcases h5 with h5 | h5
      · rw [z, h5] at ea; cases ea
      · exact hX (by rw [z]; exact h5)
    rw [upd_ne this]; exact e.stp.k a u hX ea hn
  · obtain ⟨ps, e1, t⟩ := e.stp.t a ha
    exact ⟨ps, by rw [upd_ne (nT a ⟨ps, e1, t⟩)]; exact e1, t⟩
  · by_cases z : a = p
    · rw [z, upd_same]; exact Option.some_ne_none _
    · rw [upd_ne z]; exact e.stp.d a ha
  · have hij : i ≠ j := fun z => by
      subst z
      rw [List.getElem?_set_self hl] at hj; cases hj
    rw [List.getElem?_set_ne hij] at hj
    exact e.val j R hj
  · by_cases hij : i = j
    · subst hij
      rw [List.getElem?_set_self hl] at hj
      cases hj
      exact ⟨p, o', hσ, h2, upd_same, h', h5⟩
    · rw [List.getElem?_set_ne hij] at hj
      obtain ⟨q, u, a1, a2, a3, a4, a5⟩ := e.own j Q hj
      have : q ≠ p := fun z => by
        rw [z] at a1
        exact e.apart i j P Q p hij hi hj hσ a1
      exact ⟨q, u, a1, a2, by rw [upd_ne this]; exact a3, a4, a5⟩
  · have old : ∀ {m : Nat} {Q : Op}, (E.set i (.own P'))[m]? = some (.own Q) → ∃ Q', E[m]? = some (.own Q') := fun {m Q} hm => by
      by_cases him : i = m
      · subst him; exact ⟨P, hi⟩
      · rw [List.getElem?_set_ne him] at hm; exact ⟨Q, hm⟩
    obtain ⟨Q1, a1⟩ := old hj
    obtain ⟨Q2, a2⟩ := old hk
    exact e.apart j k Q1 Q2 q hjk a1 a2 hq
end
end SD
end
section
set_option maxHeartbeats 4000000
namespace SD
open PySem PySem.Spec PyProof.Rows L2
inductive All2 (H : Hp) : List Rp → List V → Prop where
  | nil : All2 H [] []
  | cons {R : Rp} {v : V} {Rs : List Rp} {vs : List V} : R.p H v → All2 H Rs vs → All2 H (R :: Rs) (v :: vs)
theorem All2.ex {H H' : Hp} (e : Ex H H') : ∀ {Rs : List Rp} {vs : List V}, All2 H Rs vs → All2 H' Rs vs
  | _, _, .nil => .nil
  | R :: _, _, .cons h t => .cons (R.mono e h) (t.ex e)
theorem All2.length {H : Hp} : ∀ {Rs : List Rp} {vs : List V}, All2 H Rs vs → vs.length = Rs.length
  | _, _, .nil => rfl
  | _, _, .cons _ t => congrArg Nat.succ t.length
theorem All2.dp {K : PySem.W.Frag} {H : Hp} : ∀ {ds : List PyData} {vs : List V}, All2 H (ds.map (isD K)) vs → DpAll K H vs ds
  | [], _, .nil => .nil
  | _ :: _, _, .cons h t => .cons h t.dp
theorem All2.of {K : PySem.W.Frag} {H : Hp} : ∀ {ds : List PyData} {vs : List V}, DpAll K H vs ds → All2 H (ds.map (isD K)) vs
  | _, _, .nil => .nil
  | _, _, .cons h t => .cons h (All2.of t)
theorem All2.get {H : Hp} : ∀ {Rs : List Rp} {vs : List V} {i : Nat} {R : Rp}, All2 H Rs vs → Rs[i]? = some R → ∃ v, vs[i]? = some v ∧ R.p H v
  | _, _, _, _, .nil, e => by simp at e
  | _, _, 0, _, .cons h _, e => by simp at e; subst e; exact ⟨_, rfl, h⟩
  | _, _, i + 1, R, .cons _ t, e => by
    obtain ⟨v, h1, h2⟩ := All2.get (i := i) (R := R) t (by simpa using e)
    exact ⟨v, by simpa using h1, h2⟩
def Ev (c : Ctx) (E : List Slo) (te : TE) (R : Rp) : Prop := ∀ (σ : L2.St) (Hs H : Hp), Sat c σ Hs H E → ∀ Q : VK, (∀ v Hs' H', Stp Hs H Hs' H' → R.p Hs' v → Q v H') → te σ H Q
def EvT (c : Ctx) (E : List Slo) (tt : TT) (b : Bool) : Prop := ∀ (σ : L2.St) (Hs H : Hp), Sat c σ Hs H E → ∀ Q : Bool → Hp → Prop, (∀ Hs' H', Stp Hs H Hs' H' → Q b H') → tt σ H Q
def EvA (c : Ctx) (E : List Slo) (ta : TA) (Rs : List Rp) : Prop := ∀ (σ : L2.St) (Hs H : Hp), Sat c σ Hs H E → ∀ Q : List V → Hp → Prop, (∀ vs Hs' H', Stp Hs H Hs' H' → All2 Hs' Rs vs → Q vs H') → ta σ H Q
def EvO (c : Ctx) (E : List Slo) (te : TE) (P : Op) : Prop := ∀ (σ : L2.St) (Hs H : Hp), Sat c σ Hs H E → ∀ Q : VK, (∀ p o Hs' H', Stp Hs H Hs' H' → H p = none → Hs' p = none → H' p = some o → P.p Hs' p o → Q (.ref p) H') → te σ H Q
def OpV (r : R2) (R S Z : Rp) : Prop := ∀ (x y : V) (Hs H : Hp), Ex Hs H → R.p Hs x → S.p Hs y → ∀ Q : VK, (∀ v Hs' H', Stp Hs H Hs' H' → Z.p Hs' v → Q v H') → r x y H Q
def CaV (r : List V → Hp → VK → Prop) (Rs : List Rp) (Z : Rp) : Prop := ∀ (vs : List V) (Hs H : Hp), Ex Hs H → All2 Hs Rs vs → ∀ Q : VK, (∀ v Hs' H', Stp Hs H Hs' H' → Z.p Hs' v → Q v H') → r vs H Q
def UnV (r : V → Hp → VK → Prop) (R Z : Rp) : Prop := ∀ (x : V) (Hs H : Hp), Ex Hs H → R.p Hs x → ∀ Q : VK, (∀ v Hs' H', Stp Hs H Hs' H' → Z.p Hs' v → Q v H') → r x H Q
section
variable {K : PySem.W.Frag} {c : Ctx} {E : List Slo} {ta tb te : TE} {t u : TT} {R S Z : Rp} {r : R2}
theorem ev_var {i : Nat} (h : E[i]? = some (.is R)) : Ev c E (tVar i) R := fun σ Hs H e Q q => by
  obtain ⟨v, h1, h2⟩ := e.val i R h
  exact ⟨v, h1, q v Hs H (StpX.refl e.ok.sub) h2⟩
theorem ev_c {v : V} (h : ∀ H, R.p H v) : Ev c E (tC v) R := fun σ Hs H e Q q => q v Hs H (StpX.refl e.ok.sub) (h Hs)
theorem ev_int {i : Int} : Ev c E (tC (.int i)) (isD K (.int i)) := ev_c fun _ => .int i
theorem ev_bl {b : Bool} : Ev c E (tC (.bl b)) (isD K (.bool b)) := ev_c fun _ => .bl b
theorem ev_str {x : Str} : Ev c E (tC (.str x)) (isD K (.str x)) := ev_c fun _ => .str x
theorem ev_non : Ev c E (tC .non) (isD K .none) := ev_c fun _ => .non
theorem ev_weak {R' : Rp} (h : Ev c E te R) (w : ∀ H v, R.p H v → R'.p H v) : Ev c E te R' := fun σ Hs H e Q q => h σ Hs H e Q fun v Hs' H' s h2 => q v Hs' H' s (w _ _ h2)
theorem ev_is {d d' : PyData} (h : Ev c E te (isD K d)) (e : d = d') : Ev c E te (isD K d') := e ▸ h
theorem evT_is {b b' : Bool} (h : EvT c E t b) (e : b = b') : EvT c E t b' := e ▸ h
theorem evO_data {ds : List PyData} (h : EvO c E te (ownL K ds)) : Ev c E te (isD K (.list ds)) := fun σ Hs H e Q q => by
  refine h σ Hs H e Q fun p o Hs' H' s n1 n2 hp ⟨vs, e1, h2⟩ => ?_
  subst e1
  have hex : Ex Hs' (upd Hs' p (.lst vs)) := Evl.Ex.new n2
  refine q (.ref p) (upd Hs' p (.lst vs)) H' ⟨s.s.trans hex, fun a u ea => ?_, s.k, s.t, fun a h1 h3 => ?_, s.d⟩ (.lst (SqL.of upd_same) (dpAll_ex hex _ _ h2))
  · by_cases ha : a = p
    · subst ha; rw [upd_same] at ea; cases ea; exact hp
    · rw [upd_ne ha] at ea; exact s.i a u ea
  · have : a ≠ p := fun z => h1 (by rw [z]; exact n1)
    rw [upd_ne this]; exact s.f a h1 h3
theorem ev_op (ha : Ev c E ta R) (hb : Ev c E tb S) (hr : OpV r R S Z) : Ev c E (tOp r ta tb) Z := fun σ Hs H e Q q => by
  refine ha σ Hs H e _ fun x Hs1 H1 s1 h1 => hb σ Hs1 H1 (e.move s1) _ fun y Hs2 H2 s2 h2 => ?_
  exact hr x y Hs2 H2 s2.i (R.mono s2.s h1) h2 Q fun v Hs3 H3 s3 h3 => q v Hs3 H3 (s1.trans (s2.trans s3)) h3
theorem ev_un {ru : V → Hp → VK → Prop} (ha : Ev c E ta R) (hr : UnV ru R Z) : Ev c E (tUn ru ta) Z := fun σ Hs H e Q q => by
  refine ha σ Hs H e _ fun x Hs1 H1 s1 h1 => ?_
  exact hr x Hs1 H1 s1.i h1 Q fun v Hs3 H3 s3 h3 => q v Hs3 H3 (s1.trans s3) h3
theorem opV_int {g : Int → Int → Int} {i j : Int} : OpV (rI0 fun i j => .int (g i j)) (isD K (.int i)) (isD K (.int j)) (isD K (.int (g i j))) := fun x y Hs H e hx hy Q q => by
  cases hx; cases hy; exact ⟨i, j, rfl, rfl, q _ Hs H (StpX.refl e) (.int _)⟩
theorem opV_bool {g : Int → Int → Bool} {i j : Int} : OpV (rI0 fun i j => .bl (g i j)) (isD K (.int i)) (isD K (.int j)) (isD K (.bool (g i j))) := fun x y Hs H e hx hy Q q => by
  cases hx; cases hy; exact ⟨i, j, rfl, rfl, q _ Hs H (StpX.refl e) (.bl _)⟩
theorem opV_intC {C : Int → Int → Prop} {g : Int → Int → Int} {i j : Int} (hc : C i j) : OpV (rI C fun i j => .int (g i j)) (isD K (.int i)) (isD K (.int j)) (isD K (.int (g i j))) := fun x y Hs H e hx hy Q q => by
  cases hx; cases hy; exact ⟨i, j, rfl, rfl, hc, q _ Hs H (StpX.refl e) (.int _)⟩
theorem unV_int {g : Int → Int} {i : Int} : UnV (rU fun i => .int (g i)) (isD K (.int i)) (isD K (.int (g i))) := fun x Hs H e hx Q q => by
  cases hx; exact ⟨i, rfl, q _ Hs H (StpX.refl e) (.int _)⟩
theorem opV_eqI {i j : Int} : OpV rEq (isD K (.int i)) (isD K (.int j)) (isD K (.bool (decide (i = j)))) := fun x y Hs H e hx hy Q q => by
  cases hx; cases hy
  refine ⟨rfl, ?_⟩
  have : decide (V.int i = V.int j) = decide (i = j) := by simp
  rw [this]; exact q _ Hs H (StpX.refl e) (.bl _)
theorem opV_neI {i j : Int} : OpV rNe (isD K (.int i)) (isD K (.int j)) (isD K (.bool (!decide (i = j)))) := fun x y Hs H e hx hy Q q => by
  cases hx; cases hy
  refine ⟨rfl, ?_⟩
  have : decide (V.int i = V.int j) = decide (i = j) := by simp
  rw [this]; exact q _ Hs H (StpX.refl e) (.bl _)
theorem opV_eqB {i j : Bool} : OpV rEq (isD K (.bool i)) (isD K (.bool j)) (isD K (.bool (decide (i = j)))) := fun x y Hs H e hx hy Q q => by
  cases hx; cases hy
  refine ⟨rfl, ?_⟩
  have : decide (V.bl i = V.bl j) = decide (i = j) := by simp
  rw [this]; exact q _ Hs H (StpX.refl e) (.bl _)
theorem opV_eqD {d d' : PyData} (s1 : SeqAt.shaped d = true) (s2 : SeqAt.shaped d' = true) : OpV (rEqD K) (isD K d) (isD K d') (isD K (.bool (PyData.eqv d d'))) := fun x y Hs H e hx hy Q q =>
  ⟨d, d', dp_ex e _ _ hx, dp_ex e _ _ hy, s1, s2, q _ Hs H (StpX.refl e) (.bl _)⟩
theorem opV_neD {d d' : PyData} (s1 : SeqAt.shaped d = true) (s2 : SeqAt.shaped d' = true) : OpV (rNeD K) (isD K d) (isD K d') (isD K (.bool (!PyData.eqv d d'))) := fun x y Hs H e hx hy Q q =>
  ⟨d, d', dp_ex e _ _ hx, dp_ex e _ _ hy, s1, s2, q _ Hs H (StpX.refl e) (.bl _)⟩
theorem opV_inD {d : PyData} {ds : List PyData} (s1 : SeqAt.shaped d = true) (s2 : SeqAt.shaped (.list ds) = true) : OpV (rInD K) (isD K d) (isD K (.list ds)) (isD K (.bool (ds.any fun z => PyData.eqv z d))) := fun x y Hs H e hx hy Q q =>
  ⟨d, ds, dp_ex e _ _ hx, dp_ex e _ _ hy, s1, s2, q _ Hs H (StpX.refl e) (.bl _)⟩
theorem opV_notInD {d : PyData} {ds : List PyData} (s1 : SeqAt.shaped d = true) (s2 : SeqAt.shaped (.list ds) = true) : OpV (rNotInD K) (isD K d) (isD K (.list ds)) (isD K (.bool (!ds.any fun z => PyData.eqv z d))) := fun x y Hs H e hx hy Q q =>
  ⟨d, ds, dp_ex e _ _ hx, dp_ex e _ _ hy, s1, s2, q _ Hs H (StpX.refl e) (.bl _)⟩
theorem atI_of {α : Type} {xs : List α} {i : Nat} {x : α} (h : xs[i]? = some x) : atI xs (i : Int) = some x := by
  have hl := (List.getElem?_eq_some_iff.mp h).1
  unfold atI ixN
  rw [if_pos (by omega), if_pos (by omega)]
  simpa using h
theorem opV_ixT {ds : List PyData} {i : Int} {d : PyData} (h0 : 0 ≤ i) (h : ds[i.toNat]? = some d) : OpV (rIxT K) (isD K (.tuple ds)) (isD K (.int i)) (isD K d) := fun x y Hs H e hx hy Q q => by
  cases hy
  cases hx with
  | @tup a vs _ hs ha =>
    obtain ⟨v, h1, h2⟩ := dpAll_get ha h
    have h3 := atI_of h1
    rw [Int.toNat_of_nonneg h0] at h3
    exact ⟨a, vs, i, v, rfl, rfl, Evl.ex_t e hs, h3, q v Hs H (StpX.refl e) h2⟩
theorem opV_ixL {ds : List PyData} {i : Int} {d : PyData} (h0 : 0 ≤ i) (h : ds[i.toNat]? = some d) : OpV (rIxL K) (isD K (.list ds)) (isD K (.int i)) (isD K d) := fun x y Hs H e hx hy Q q => by
  cases hy
  cases hx with
  | @lst a vs _ hs ha =>
    obtain ⟨v, h1, h2⟩ := dpAll_get ha h
    have h3 := atI_of h1
    rw [Int.toNat_of_nonneg h0] at h3
    exact ⟨a, vs, i, v, rfl, rfl, Evl.ex_l e hs, h3, q v Hs H (StpX.refl e) h2⟩
theorem opV_catT {ds es : List PyData} (h0 : ds ≠ []) (h1 : es ≠ []) (hl : ds.length + es.length ≤ 100000) : OpV (rCatT K) (isD K (.tuple ds)) (isD K (.tuple es)) (isD K (.tuple (ds ++ es))) := fun x y Hs H e hx hy Q q => by
  cases hx with
  | @tup a vs _ hs ha =>
    cases hy with
    | @tup b ws _ hs2 hb =>
      have l1 := dpAll_length ha
      have l2 := dpAll_length hb
      refine ⟨a, b, vs, ws, rfl, rfl, Evl.ex_t e hs, Evl.ex_t e hs2, fun z => h0 ?_, Evl.sz_of (by omega), fun z => absurd ?_ h1, fun _ p hp => ?_⟩
      · subst z; exact List.length_eq_zero_iff.mp l1.symm
      · subst z; exact List.length_eq_zero_iff.mp l2.symm
      · have s := Stp.new (o := .tup (vs ++ ws)) e hp
        exact q _ _ _ s (.tup (SqT.of upd_same) (dpAll_append (dpAll_ex s.s _ _ ha) (dpAll_ex s.s _ _ hb)))
theorem evT_test {b : Bool} (h : Ev c E te (isD K (.bool b))) : EvT c E (tTest te) b := fun σ Hs H e Q q => h σ Hs H e _ fun v Hs' H' s h2 => by
  cases h2; exact ⟨b, rfl, q Hs' H' s⟩
theorem evT_B {b : Bool} (h : Ev c E te (isD K (.bool b))) : EvT c E (tB te) b := fun σ Hs H e Q q => h σ Hs H e _ fun v Hs' H' s h2 => by
  cases h2; exact ⟨b, rfl, q Hs' H' s⟩
theorem evT_and {a b : Bool} (h1 : EvT c E t a) (h2 : a = true → EvT c E u b) : EvT c E (tAnd t u) (a && b) := fun σ Hs H e Q q => h1 σ Hs H e _ fun Hs1 H1 s1 => by
  cases a with
  | true => exact h2 rfl σ Hs1 H1 (e.move s1) Q fun Hs2 H2 s2 => q Hs2 H2 (s1.trans s2)
  | false => exact q Hs1 H1 s1
theorem evT_or {a b : Bool} (h1 : EvT c E t a) (h2 : a = false → EvT c E u b) : EvT c E (tOr t u) (a || b) := fun σ Hs H e Q q => h1 σ Hs H e _ fun Hs1 H1 s1 => by
  cases a with
  | true => exact q Hs1 H1 s1
  | false => exact h2 rfl σ Hs1 H1 (e.move s1) Q fun Hs2 H2 s2 => q Hs2 H2 (s1.trans s2)
theorem evT_not {a : Bool} (h1 : EvT c E t a) : EvT c E (tNot t) (!a) := fun σ Hs H e Q q => h1 σ Hs H e _ fun Hs1 H1 s1 => q Hs1 H1 s1
theorem ev_andV {a b : Bool} (h1 : Ev c E ta (isD K (.bool a))) (h2 : a = true → Ev c E tb (isD K (.bool b))) : Ev c E (tAndV ta tb) (isD K (.bool (a && b))) := fun σ Hs H e Q q => h1 σ Hs H e _ fun v Hs1 H1 s1 hv => by
  cases hv
  refine ⟨a, rfl, ?_⟩
  cases a with
  | true => exact h2 rfl σ Hs1 H1 (e.move s1) Q fun v Hs2 H2 s2 h3 => q v Hs2 H2 (s1.trans s2) h3
  | false => exact q _ Hs1 H1 s1 (.bl _)
theorem ev_notV {a : Bool} (h1 : Ev c E ta (isD K (.bool a))) : Ev c E (tNotV ta) (isD K (.bool (!a))) := fun σ Hs H e Q q => h1 σ Hs H e _ fun v Hs1 H1 s1 hv => by
  cases hv; exact ⟨a, rfl, q _ Hs1 H1 s1 (.bl _)⟩
theorem ev_if {b : Bool} (h : EvT c E t b) (h1 : b = true → Ev c E ta R) (h2 : b = false → Ev c E tb R) : Ev c E (tIf t ta tb) R := fun σ Hs H e Q q => h σ Hs H e _ fun Hs1 H1 s1 => by
  cases b with
  | true => exact h1 rfl σ Hs1 H1 (e.move s1) Q fun v Hs2 H2 s2 h3 => q v Hs2 H2 (s1.trans s2) h3
  | false => exact h2 rfl σ Hs1 H1 (e.move s1) Q fun v Hs2 H2 s2 h3 => q v Hs2 H2 (s1.trans s2) h3
theorem ev_chain {r' : R2} {tc : TE} {Y : Rp} {a b : Bool} (ha : Ev c E ta R) (hb : Ev c E tb S) (h1 : OpV r R S (isD K (.bool a))) (hc : Ev c E tc Y) (h2 : OpV r' S Y (isD K (.bool b))) : Ev c E (tChain r r' ta tb tc) (isD K (.bool (a && b))) := fun σ Hs H e Q q => by
  refine ha σ Hs H e _ fun x Hs1 H1 s1 hx => hb σ Hs1 H1 (e.move s1) _ fun y Hs2 H2 s2 hy => ?_
  refine h1 x y Hs2 H2 s2.i (R.mono s2.s hx) hy _ fun v Hs3 H3 s3 hv => ?_
  cases hv
  refine ⟨a, rfl, ?_⟩
  have s13 := s1.trans (s2.trans s3)
  cases a with
  | true =>
    refine hc σ Hs3 H3 (e.move s13) _ fun z Hs4 H4 s4 hz => ?_
    exact h2 y z Hs4 H4 s4.i (S.mono (s3.s.trans s4.s) hy) hz Q fun v Hs5 H5 s5 h5 => q v Hs5 H5 (s13.trans (s4.trans s5)) h5
  | false => exact q _ Hs3 H3 s13 (.bl _)
theorem evA_nil : EvA c E tNil [] := fun σ Hs H e Q q => q [] Hs H (StpX.refl e.ok.sub) .nil
theorem evA_cons {tr : TA} {Rs : List Rp} (h : Ev c E ta R) (hr : EvA c E tr Rs) : EvA c E (tCons ta tr) (R :: Rs) := fun σ Hs H e Q q => by
  refine h σ Hs H e _ fun x Hs1 H1 s1 hx => hr σ Hs1 H1 (e.move s1) _ fun xs Hs2 H2 s2 hxs => ?_
  exact q (x :: xs) Hs2 H2 (s1.trans s2) (.cons (R.mono s2.s hx) hxs)
theorem ev_tup {t : TA} {ds : List PyData} (h : EvA c E t (ds.map (isD K))) (hl : ds.length ≤ 100000 := by first | decide | simp) : Ev c E (tTup t) (isD K (.tuple ds)) := fun σ Hs H e Q q => by
  refine h σ Hs H e _ fun vs Hs1 H1 s1 hv => ⟨Evl.sz_of (by rw [hv.length, List.length_map]; exact hl), fun p hp => ?_⟩
  have s := Stp.new (o := .tup vs) s1.i hp
  exact q _ _ _ (s1.trans s) (.tup (SqT.of upd_same) (dpAll_ex s.s _ _ hv.dp))
theorem evO_lst {t : TA} {ds : List PyData} (h : EvA c E t (ds.map (isD K))) (hl : ds.length ≤ 100000 := by first | decide | simp) : EvO c E (tLst t) (ownL K ds) := fun σ Hs H e Q q => by
  refine h σ Hs H e _ fun vs Hs1 H1 s1 hv => ⟨Evl.sz_of (by rw [hv.length, List.length_map]; exact hl), fun p hp => ?_⟩
  have s := Stp.newO (o := .lst vs) s1.i hp
  have n0 : H p = none := by
    cases z : H p with
    | none => rfl
    | some o => exact absurd hp (s1.d p (by rw [z]; exact Option.some_ne_none _))
  exact q p _ _ _ (s1.trans s) n0 (Evl.fresh_back s1.i hp) upd_same ⟨vs, rfl, hv.dp⟩
theorem ev_CB {rc : List V → Hp → VK → Prop} {t : TA} {Rs : List Rp} (h : EvA c E t Rs) (hr : CaV rc Rs Z) : Ev c E (tCB rc t) Z := fun σ Hs H e Q q => by
  refine h σ Hs H e _ fun vs Hs1 H1 s1 hv => hr vs Hs1 H1 s1.i hv Q fun v Hs2 H2 s2 h2 => q v Hs2 H2 (s1.trans s2) h2
end
structure Prom where
  α : Type
  side : α → Prop
  args : α → List Rp
  res : α → Rp
def spOf (T : List Addr) (p : Prom) : Sp := fun vs H Q _ => ∃ (a : p.α) (Hs : Hp), p.side a ∧ Okk T Hs H ∧ All2 Hs (p.args a) vs ∧ ∀ v Hs' H', Stp Hs H Hs' H' → (p.res a).p Hs' v → Q v H'
section
variable {K : PySem.W.Frag} {c : Ctx} {E : List Slo}
theorem ev_call {p : Prom} {t : TA} (a : p.α) (h : EvA c E t (p.args a)) (hs : p.side a) : Ev c E (tCall (spOf c.T p) [] E0 t) (p.res a) := fun σ Hs H e Q q => by
  refine h σ Hs H e _ fun vs Hs1 H1 s1 hv => ⟨a, Hs1, hs, e.ok.stp s1, by rw [List.append_nil]; exact hv, fun v Hs2 H2 s2 h2 => q v Hs2 H2 (s1.trans s2) h2⟩
end
def Tri (c : Ctx) (E : List Slo) (t : TS) (D : Ends) : Prop := ∀ (σ : L2.St) (Hs H : Hp), Sat c σ Hs H E → t D σ H
def Nx (c : Ctx) (E : List Slo) (Q : L2.St → Hp → Prop) : Prop := ∀ (σ : L2.St) (Hs H : Hp), Sat c σ Hs H E → Q σ H
def Fin (c : Ctx) (R : Rp) (Q : VK) : Prop := ∀ v Hs' H', StpX c.X c.Hs0 c.H0 Hs' H' → R.p Hs' v → Q v H'
section
variable {K : PySem.W.Frag} {c : Ctx} {E : List Slo} {te ta tb : TE} {tc : TT} {t u : TS} {D : Ends} {R S : Rp} {P : Op}
theorem tri_seq (h : Tri c E t { D with nx := u D }) : Tri c E (tSeq t u) D := h
theorem nx_tri (h : Tri c E u D) : Nx c E (u D) := h
theorem tri_next (h : Nx c E D.nx) : Tri c E tNext D := h
theorem tri_asg {i : Nat} (h : Ev c E te R) (k : Nx c (E.set i (.is R)) D.nx) : Tri c E (tAsg te (gName i)) D := fun σ Hs H e =>
  h σ Hs H e _ fun v Hs1 H1 s1 hv => k _ Hs1 H1 ((e.move s1).set hv i)
theorem own_apart {σ : L2.St} {Hs H : Hp} {p : Addr} (e : Sat c σ Hs H E) (hp : H p = none) : ∀ (j : Nat) (Q : Op), E[j]? = some (.own Q) → σ[j]? ≠ some (some (.ref p)) := fun j Q hj z => by
  obtain ⟨q, o, h1, _, h3, _⟩ := e.own j Q hj
  rw [z] at h1
  cases h1
  rw [hp] at h3; cases h3
theorem Sat.fresh0 {σ : L2.St} {Hs H : Hp} {p : Addr} (e : Sat c σ Hs H E) (hp : H p = none) : c.H0 p = none := by
  cases z : c.H0 p with
  | none => rfl
  | some o => exact absurd hp (e.stp.d p (by rw [z]; exact Option.some_ne_none _))
theorem tri_asgO {i : Nat} (h : EvO c E te P) (k : Nx c (E.set i (.own P)) D.nx) : Tri c E (tAsg te (gName i)) D := fun σ Hs H e =>
  h σ Hs H e _ fun p o Hs1 H1 s1 n1 n2 hp hP => k _ Hs1 H1 ((e.move s1).setO hp n2 hP (.inl (e.fresh0 n1)) (own_apart e n1) i)
theorem tri_if {b : Bool} (h : EvT c E tc b) (h1 : b = true → Tri c E t D) (h2 : b = false → Tri c E u D) : Tri c E (tIfS tc t u) D := fun σ Hs H e => h σ Hs H e _ fun Hs1 H1 s1 => by
  cases b with
  | true => exact h1 rfl σ Hs1 H1 (e.move s1)
  | false => exact h2 rfl σ Hs1 H1 (e.move s1)
theorem tri_ifF (h : EvT c E tc false) (h2 : Tri c E u D) : Tri c E (tIfS tc t u) D := tri_if h (fun z => nomatch z) fun _ => h2
theorem tri_ifT (h : EvT c E tc true) (h1 : Tri c E t D) : Tri c E (tIfS tc t u) D := tri_if h (fun _ => h1) fun z => nomatch z
theorem tri_ret (h : Ev c E te R) (k : Fin c R D.rt) : Tri c E (tRet te) D := fun σ Hs H e => h σ Hs H e _ fun v Hs1 H1 s1 hv => k v Hs1 H1 (e.move s1).stp hv
theorem tri_drop (h : Ev c E te R) (k : Nx c E D.nx) : Tri c E (tDrop te) D := fun σ Hs H e => h σ Hs H e _ fun v Hs1 H1 s1 hv => k _ Hs1 H1 (e.move s1)
theorem tri_par {i j : Nat} {ta : TA} (h : EvA c E ta [R, S]) (k : Nx c ((E.set i (.is R)).set j (.is S)) D.nx) : Tri c E (tPar i j ta) D := fun σ Hs H e =>
  h σ Hs H e _ fun vs Hs1 H1 s1 hv => by
    cases hv with
    | cons h1 t1 =>
      cases t1 with
      | cons h2 t2 =>
        cases t2
        exact ⟨_, _, rfl, k _ Hs1 H1 (((e.move s1).set h1 i).set h2 j)⟩
theorem nx_weak {E' : List Slo} {Q : L2.St → Hp → Prop} (w : Weak E E') (h : Nx c E' Q) : Nx c E Q := fun σ Hs H e => h σ Hs H (e.weak w)
theorem tri_weak {E' : List Slo} (w : Weak E E') (h : Tri c E' t D) : Tri c E t D := fun σ Hs H e => h σ Hs H (e.weak w)
theorem nx_fin (k : Fin c (isD K .none) D.rt) : Nx c E (fun _ H' => D.rt .non H') := fun σ Hs H e => k .non Hs H e.stp .non
end
end SD
end
section
set_option maxHeartbeats 4000000
namespace SD
open PySem PySem.Spec PyProof.Rows L2
def Tg (c : Ctx) (E : List Slo) (g : TG) (R : Rp) (E1 : List Slo) : Prop := ∀ (σ : L2.St) (Hs H : Hp) (v : V), Sat c σ Hs H E → R.p Hs v → ∀ (vs : List Nat) (Q : L2.St → Hp → Prop), (∀ i ∈ vs, True) → (∀ σ', Sat c σ' Hs H E1 → Q σ' H) → g v σ H Q
def wipeE (E : List Slo) : List Nat → List Slo
  | [] => E
  | v :: vs => (wipeE E vs).set v .no
section
variable {K : PySem.W.Frag} {c : Ctx} {E E1 : List Slo} {g : TG} {R S : Rp}
theorem Sat.clear {σ : L2.St} {Hs H : Hp} (e : Sat c σ Hs H E) (i : Nat) (o : Option V) : Sat c (σ.set i o) Hs H (E.set i .no) where
  ok := e.ok
  stp := e.stp
  g := e.g
  len := by rw [List.length_set, List.length_set]; exact e.len
  val := fun j R' hj => by
    by_cases hij : i = j
    · subst hij
      have hl : i < E.length := by
        have := (List.getElem?_eq_some_iff.mp hj).1
        rw [List.length_set] at this; exact this
      rw [List.getElem?_set_self hl] at hj
      cases hj
    · rw [List.getElem?_set_ne hij] at hj ⊢
      exact e.val j R' hj
  own := fun j P' hj => by
    by_cases hij : i = j
    · subst hij
      have hl : i < E.length := by
        have := (List.getElem?_eq_some_iff.mp hj).1
        rw [List.length_set] at this; exact this
      rw [List.getElem?_set_self hl] at hj
      cases hj
    · rw [List.getElem?_set_ne hij] at hj ⊢
      exact e.own j P' hj
  apart := fun j k P P' p hjk hj hk => by
    have ne : ∀ {m : Nat} {Q : Op}, (E.set i .no)[m]? = some (.own Q) → i ≠ m ∧ E[m]? = some (.own Q) := fun {m Q} hm => by
      by_cases him : i = m
      · subst him
        have hl : i < E.length := by
          have := (List.getElem?_eq_some_iff.mp hm).1
          rw [List.length_set] at this; exact this
        rw [List.getElem?_set_self hl] at hm
        cases hm
      · rw [List.getElem?_set_ne him] at hm; exact ⟨him, hm⟩
    obtain ⟨n1, e1⟩ := ne hj
    obtain ⟨n2, e2⟩ := ne hk
    rw [List.getElem?_set_ne n1, List.getElem?_set_ne n2]
    exact e.apart j k P P' p hjk e1 e2
theorem Sat.wipe {σ : L2.St} {Hs H : Hp} (e : Sat c σ Hs H E) : ∀ vs : List Nat, Sat c (L2.wipe σ vs) Hs H (wipeE E vs)
  | [] => e
  | v :: vs => (Sat.wipe e vs).clear v none
theorem wipe_get {σ : L2.St} : ∀ {vs : List Nat} {j : Nat}, j ∉ vs → (L2.wipe σ vs)[j]? = σ[j]?
  | [], _, _ => rfl
  | v :: vs, j, h => by
    show ((L2.wipe σ vs).set v none)[j]? = _
    rw [List.getElem?_set_ne (fun z => h (by rw [z]; exact List.mem_cons_self)), wipe_get fun z => h (List.mem_cons_of_mem _ z)]
theorem wipe_at {σ : L2.St} : ∀ {vs : List Nat} {j : Nat}, j ∈ vs → j < σ.length → (L2.wipe σ vs)[j]? = some none
  | v :: vs, j, h, hl => by
    show ((L2.wipe σ vs).set v none)[j]? = _
    by_cases e : v = j
    · subst e
      rw [List.getElem?_set_self (by rw [wipe_length]; exact hl)]
    · rw [List.getElem?_set_ne e]
      rcases List.mem_cons.mp h with z | z
      · exact absurd z.symm e
      · exact wipe_at z hl
theorem wipe_eq {σ σ' : L2.St} {vs : List Nat} (hl : σ.length = σ'.length) (h : ∀ j, j ∉ vs → σ[j]? = σ'[j]?) : L2.wipe σ vs = L2.wipe σ' vs := by
  apply List.ext_getElem?
  intro j
  by_cases hj : j ∈ vs
  · by_cases hlt : j < σ.length
    · rw [wipe_at hj hlt, wipe_at hj (by omega)]
    · rw [List.getElem?_eq_none (by rw [wipe_length]; omega), List.getElem?_eq_none (by rw [wipe_length]; omega)]
  · rw [wipe_get hj, wipe_get hj]; exact h j hj
end
structure Tgt (c : Ctx) (E : List Slo) (g : TG) (R : Rp) (js : List Nat) (E1 : List Slo) : Prop where
  run : ∀ (σ : L2.St) (Hs H : Hp) (v : V), Sat c σ Hs H E → R.p Hs v → ∀ (Q : L2.St → Hp → Prop), (∀ σ', Sat c σ' Hs H E1 → (∀ j, j ∉ js → σ'[j]? = σ[j]?) → σ'.length = σ.length → Q σ' H) → g v σ H Q
structure Tgts (c : Ctx) (E : List Slo) (g : TGs) (Rs : List Rp) (js : List Nat) (E1 : List Slo) : Prop where
  run : ∀ (σ : L2.St) (Hs H : Hp) (vs : List V), Sat c σ Hs H E → All2 Hs Rs vs → ∀ (Q : L2.St → Hp → Prop), (∀ σ', Sat c σ' Hs H E1 → (∀ j, j ∉ js → σ'[j]? = σ[j]?) → σ'.length = σ.length → Q σ' H) → g vs σ H Q
section
variable {K : PySem.W.Frag} {c : Ctx} {E E1 E2 : List Slo} {g : TG} {gs : TGs} {R S : Rp} {Rs : List Rp} {js ks : List Nat}
theorem tgt_name {i : Nat} : Tgt c E (gName i) R [i] (E.set i (.is R)) := ⟨fun σ Hs H v e h Q q =>
  q _ (e.set h i) (fun j hj => List.getElem?_set_ne fun z => hj (by rw [z]; exact List.mem_singleton.mpr rfl)) (List.length_set ..)⟩
theorem tgts_nil : Tgts c E gNil [] [] E := ⟨fun σ Hs H vs e h Q q => by cases h; exact ⟨rfl, q σ e (fun _ _ => rfl) rfl⟩⟩
theorem tgts_cons (a : Tgt c E g R js E1) (b : Tgts c E1 gs Rs ks E2) : Tgts c E (gCons g gs) (R :: Rs) (js ++ ks) E2 := ⟨fun σ Hs H vs e h Q q => by
  cases h with
  | cons h1 h2 =>
    refine ⟨_, _, rfl, a.run σ Hs H _ e h1 _ fun σ1 e1 k1 l1 => b.run σ1 Hs H _ e1 h2 Q fun σ2 e2 k2 l2 => q σ2 e2 (fun j hj => ?_) (l2.trans l1)⟩
    rw [k2 j fun z => hj (List.mem_append_right _ z), k1 j fun z => hj (List.mem_append_left _ z)]⟩
theorem tgt_tup {n : Nat} {ds : List PyData} (h : Tgts c E gs (ds.map (isD K)) js E1) (hn : ds.length = n) : Tgt c E (gTup K n gs) (isD K (.tuple ds)) js E1 := ⟨fun σ Hs H v e hv Q q => by
  cases hv with
  | @tup a vs _ hs ha => exact ⟨a, vs, rfl, Evl.ex_t e.ok.sub hs, by rw [dpAll_length ha]; exact hn, h.run σ Hs H vs e (All2.of ha) Q q⟩⟩
theorem tri_asgT {te : TE} {D : Ends} (h : Ev c E te R) (t : Tgt c E g R js E1) (k : Nx c E1 D.nx) : Tri c E (tAsg te g) D := fun σ Hs H e =>
  h σ Hs H e _ fun v Hs1 H1 s1 hv => t.run σ Hs1 H1 v (e.move s1) hv _ fun σ' e' _ _ => k σ' Hs1 H1 e'
end
structure ItOk (Hs1 : Hp) (J : It) (Rs : List Rp) : Prop where
  go : ∀ Hs H, Ex Hs1 Hs → Ex Hs H → ∀ i, i < Rs.length → J.go i H
  stop : ∀ Hs H, Ex Hs1 Hs → Ex Hs H → J.stop Rs.length H
  yld : ∀ Hs H, Ex Hs1 Hs → Ex Hs H → ∀ (i : Nat) (x : V) (H' : Hp) (R : Rp), Rs[i]? = some R → J.yld i H x H' → ∃ Hs', Stp Hs H Hs' H' ∧ R.p Hs' x
theorem ItOk.ex {Hs1 Hs2 : Hp} {J : It} {Rs : List Rp} (a : ItOk Hs1 J Rs) (e : Ex Hs1 Hs2) : ItOk Hs2 J Rs :=
  ⟨fun Hs H h => a.go Hs H (e.trans h), fun Hs H h => a.stop Hs H (e.trans h), fun Hs H h => a.yld Hs H (e.trans h)⟩
def Its (c : Ctx) (E : List Slo) (wi : TI) (Rs : List Rp) : Prop := ∀ (σ : L2.St) (Hs H : Hp), Sat c σ Hs H E → ∀ RR : It → Hp → Prop, (∀ J Hs' H', Stp Hs H Hs' H' → ItOk Hs' J Rs → RR J H') → wi σ H RR
section
variable {K : PySem.W.Frag} {c : Ctx} {E : List Slo} {te : TE} {ta : TA}
theorem itOk_list {Hs1 : Hp} {a : Addr} {vs : List V} {ds : List PyData} (hs : SqL K Hs1 a vs) (ha : DpAll K Hs1 vs ds) : ItOk Hs1 (Itl K a) (ds.map (isD K)) where
  go := fun Hs H e1 e2 i hi => by
    have l := dpAll_length ha
    rw [List.length_map] at hi
    have hl : i < vs.length := by omega
    exact ⟨vs, vs[i], Evl.ex_l (e1.trans e2) hs, List.getElem?_eq_getElem hl⟩
  stop := fun Hs H e1 e2 => ⟨vs, Evl.ex_l (e1.trans e2) hs, by rw [List.length_map, dpAll_length ha]; exact Nat.le_refl _⟩
  yld := fun Hs H e1 e2 i x H' R hR y => by
    obtain ⟨rfl, y⟩ := y
    rw [List.getElem?_map] at hR
    cases hd : ds[i]? with
    | none => rw [hd] at hR; cases hR
    | some d =>
      rw [hd] at hR; cases hR
      obtain ⟨v, h1, h2⟩ := dpAll_get ha hd
      have h3 := y vs (Evl.ex_l (e1.trans e2) hs)
      rw [h1] at h3; cases h3
      exact ⟨Hs, StpX.refl e2, dp_ex e1 _ _ h2⟩
theorem itOk_tup {Hs1 : Hp} {a : Addr} {vs : List V} {ds : List PyData} (hs : SqT K Hs1 a vs) (ha : DpAll K Hs1 vs ds) : ItOk Hs1 (Itt K a) (ds.map (isD K)) where
  go := fun Hs H e1 e2 i hi => by
    have l := dpAll_length ha
    rw [List.length_map] at hi
    have hl : i < vs.length := by omega
    exact ⟨vs, vs[i], Evl.ex_t (e1.trans e2) hs, List.getElem?_eq_getElem hl⟩
  stop := fun Hs H e1 e2 => ⟨vs, Evl.ex_t (e1.trans e2) hs, by rw [List.length_map, dpAll_length ha]; exact Nat.le_refl _⟩
  yld := fun Hs H e1 e2 i x H' R hR y => by
    obtain ⟨rfl, y⟩ := y
    rw [List.getElem?_map] at hR
    cases hd : ds[i]? with
    | none => rw [hd] at hR; cases hR
    | some d =>
      rw [hd] at hR; cases hR
      obtain ⟨v, h1, h2⟩ := dpAll_get ha hd
      have h3 := y vs (Evl.ex_t (e1.trans e2) hs)
      rw [h1] at h3; cases h3
      exact ⟨Hs, StpX.refl e2, dp_ex e1 _ _ h2⟩
theorem its_list {ds : List PyData} (h : Ev c E te (isD K (.list ds))) : Its c E (iList K te) (ds.map (isD K)) := fun σ Hs H e RR q => h σ Hs H e _ fun v Hs1 H1 s1 hv => by
  cases hv with
  | @lst a vs _ hs ha => exact ⟨a, rfl, ⟨vs, Evl.ex_l s1.i hs⟩, q _ Hs1 H1 s1 (itOk_list hs ha)⟩
theorem its_tup {ds : List PyData} (h : Ev c E te (isD K (.tuple ds))) : Its c E (iTup K te) (ds.map (isD K)) := fun σ Hs H e RR q => h σ Hs H e _ fun v Hs1 H1 s1 hv => by
  cases hv with
  | @tup a vs _ hs ha => exact ⟨a, rfl, ⟨vs, Evl.ex_t s1.i hs⟩, q _ Hs1 H1 s1 (itOk_tup hs ha)⟩
theorem itOk_range {Hs1 : Hp} {lo : Int} {n : Nat} : ItOk Hs1 (Itr lo n) ((List.range n).map fun i : Nat => isD K (.int (lo + (i : Int)))) where
  go := fun Hs H e1 e2 i hi => by
    show i < n
    simpa using hi
  stop := fun Hs H e1 e2 => by show n ≤ _; simp
  yld := fun Hs H e1 e2 i x H' R hR y => by
    obtain ⟨rfl, rfl⟩ := y
    have hi : i < n := by
      have := (List.getElem?_eq_some_iff.mp hR).1
      simpa using this
    rw [List.getElem?_map, List.getElem?_range hi] at hR
    cases hR
    exact ⟨Hs, StpX.refl e2, .int _⟩
theorem its_range1 {j : Int} (h : EvA c E ta [isD K (.int j)]) (h1 : -(2 ^ 62) ≤ j) (h2 : j < 2 ^ 62) : Its c E (iRng1 ta) ((List.range j.toNat).map fun i : Nat => isD K (.int (0 + (i : Int)))) := fun σ Hs H e RR q => h σ Hs H e _ fun vs Hs1 H1 s1 hv => by
  cases hv with
  | cons a b =>
    cases b; cases a
    exact ⟨j, rfl, h1, h2, q _ Hs1 H1 s1 itOk_range⟩
theorem its_range2 {i j : Int} (h : EvA c E ta [isD K (.int i), isD K (.int j)]) (h1 : -(2 ^ 62) ≤ i) (h2 : i < 2 ^ 62) (h3 : -(2 ^ 62) ≤ j) (h4 : j < 2 ^ 62) : Its c E (iRng2 ta) ((List.range (j - i).toNat).map fun k : Nat => isD K (.int (i + (k : Int)))) := fun σ Hs H e RR q => h σ Hs H e _ fun vs Hs1 H1 s1 hv => by
  cases hv with
  | cons a b =>
    cases b with
    | cons b b2 =>
      cases b2; cases a; cases b
      exact ⟨i, j, rfl, ⟨h1, h2, h3, h4⟩, q _ Hs1 H1 s1 itOk_range⟩
theorem pair_yld {Hs H : Hp} {T : Addr} {x y : V} {d d' : PyData} (e : Ex Hs H) (hT : H T = none) (hx : Dp K Hs x d) (hy : Dp K Hs y d') : ∃ Hs', Stp Hs H Hs' (upd H T (.tup [x, y])) ∧ (isD K (.tuple [d, d'])).p Hs' (.ref T) := by
  have s := Stp.new (o := .tup [x, y]) e hT
  exact ⟨_, s, .tup (SqT.of upd_same) (.cons (dp_ex s.s _ _ hx) (.cons (dp_ex s.s _ _ hy) .nil))⟩
def pairsI (ds : List PyData) : List PyData := (List.range ds.length).map fun i : Nat => .tuple [.int (i : Int), ds.getD i .none]
theorem pairsI_get {ds : List PyData} {i : Nat} {d : PyData} (h : ds[i]? = some d) : (pairsI ds)[i]? = some (.tuple [.int (i : Int), d]) := by
  unfold pairsI
  have hl := (List.getElem?_eq_some_iff.mp h).1
  rw [List.getElem?_map, List.getElem?_range hl]
  simp [List.getD_eq_getElem?_getD, h]
theorem pairsI_length (ds : List PyData) : (pairsI ds).length = ds.length := by unfold pairsI; simp
theorem itOk_enum {Hs1 : Hp} {a : Addr} {vs : List V} {ds : List PyData} (hs : SqL K Hs1 a vs) (ha : DpAll K Hs1 vs ds) : ItOk Hs1 (Ite K a) ((pairsI ds).map (isD K)) where
  go := fun Hs H e1 e2 i hi => by
    have l := dpAll_length ha
    rw [List.length_map, pairsI_length] at hi
    have hl : i < vs.length := by omega
    exact ⟨vs, vs[i], Evl.ex_l (e1.trans e2) hs, List.getElem?_eq_getElem hl⟩
  stop := fun Hs H e1 e2 => ⟨vs, Evl.ex_l (e1.trans e2) hs, by rw [List.length_map, pairsI_length, dpAll_length ha]; exact Nat.le_refl _⟩
  yld := fun Hs H e1 e2 i x H' R hR y => by
    obtain ⟨T, z, rfl, hT, rfl, y⟩ := y
    have hi : i < ds.length := by
      have := (List.getElem?_eq_some_iff.mp hR).1
      rw [List.length_map, pairsI_length] at this; exact this
    have hd : ds[i]? = some ds[i] := List.getElem?_eq_getElem hi
    rw [List.getElem?_map, pairsI_get hd] at hR
    cases hR
    obtain ⟨v, h1, h2⟩ := dpAll_get ha hd
    have h3 := y vs (Evl.ex_l (e1.trans e2) hs)
    rw [h1] at h3; cases h3
    exact pair_yld e2 hT (.int _) (dp_ex e1 _ _ h2)
theorem its_enum {ds : List PyData} (h : EvA c E ta [isD K (.list ds)]) : Its c E (iEnum K ta) ((pairsI ds).map (isD K)) := fun σ Hs H e RR q => h σ Hs H e _ fun vs Hs1 H1 s1 hv => by
  cases hv with
  | cons a b =>
    cases b
    cases a with
    | @lst a vs _ hs ha => exact ⟨a, vs, rfl, Evl.ex_l s1.i hs, q _ Hs1 H1 s1 (itOk_enum hs ha)⟩
def pairsZ (ds es : List PyData) : List PyData := (ds.zip es).map fun p => .tuple [p.1, p.2]
theorem itOk_zip {Hs1 : Hp} {a b : Addr} {vs ws : List V} {ds es : List PyData} (hs : SqL K Hs1 a vs) (ha : DpAll K Hs1 vs ds) (ht : SqL K Hs1 b ws) (hb : DpAll K Hs1 ws es) : ItOk Hs1 (Itz K a b) ((pairsZ ds es).map (isD K)) where
  go := fun Hs H e1 e2 i hi => by
    have l := dpAll_length ha
    have l2 := dpAll_length hb
    unfold pairsZ at hi
    rw [List.length_map, List.length_map, List.length_zip] at hi
    have hl : i < vs.length := by omega
    have hl2 : i < ws.length := by omega
    exact ⟨vs, ws, vs[i], ws[i], Evl.ex_l (e1.trans e2) hs, Evl.ex_l (e1.trans e2) ht, List.getElem?_eq_getElem hl, List.getElem?_eq_getElem hl2⟩
  stop := fun Hs H e1 e2 => ⟨vs, ws, Evl.ex_l (e1.trans e2) hs, Evl.ex_l (e1.trans e2) ht, by
    have l := dpAll_length ha
    have l2 := dpAll_length hb
    unfold pairsZ
    rw [List.length_map, List.length_map, List.length_zip]; omega⟩
  yld := fun Hs H e1 e2 i x H' R hR y => by
    obtain ⟨T, z1, z2, rfl, hT, rfl, y1, y2⟩ := y
    have hi : i < ds.length ∧ i < es.length := by
      have := (List.getElem?_eq_some_iff.mp hR).1
      unfold pairsZ at this
      rw [List.length_map, List.length_map, List.length_zip] at this; omega
    have hd : ds[i]? = some ds[i] := List.getElem?_eq_getElem hi.1
    have he : es[i]? = some es[i] := List.getElem?_eq_getElem hi.2
    have hz : (pairsZ ds es)[i]? = some (.tuple [ds[i], es[i]]) := by
      unfold pairsZ
      rw [List.getElem?_map, List.getElem?_zip_eq_some (z := (ds[i], es[i])) |>.mpr ⟨hd, he⟩]; rfl
    rw [List.getElem?_map, hz] at hR
    cases hR
    obtain ⟨v, h1, h2⟩ := dpAll_get ha hd
    obtain ⟨v', h1', h2'⟩ := dpAll_get hb he
    have h3 := y1 vs (Evl.ex_l (e1.trans e2) hs)
    have h4 := y2 ws (Evl.ex_l (e1.trans e2) ht)
    rw [h1] at h3; cases h3
    rw [h1'] at h4; cases h4
    exact pair_yld e2 hT (dp_ex e1 _ _ h2) (dp_ex e1 _ _ h2')
theorem its_zip {ds es : List PyData} (h : EvA c E ta [isD K (.list ds), isD K (.list es)]) : Its c E (iZip K ta) ((pairsZ ds es).map (isD K)) := fun σ Hs H e RR q => h σ Hs H e _ fun vs Hs1 H1 s1 hv => by
  cases hv with
  | cons a b =>
    cases b with
    | cons b b2 =>
      cases b2
      cases a with
      | @lst a vs _ hs ha =>
        cases b with
        | @lst b ws _ ht hb => exact ⟨a, b, vs, ws, rfl, Evl.ex_l s1.i hs, Evl.ex_l s1.i ht, q _ Hs1 H1 s1 (itOk_zip hs ha ht hb)⟩
end
def atTurn (c : Ctx) (E : List Slo) (D : Ends) : Ends := { nx := fun σ H => ∃ Hs, Sat c σ Hs H E, rt := D.rt, bk := D.nx, ct := fun σ H => ∃ Hs, Sat c σ Hs H E }
section
variable {K : PySem.W.Frag} {c : Ctx} {E : List Slo} {wi : TI} {g : TG} {tb : TS} {D : Ends} {Rs : List Rp}
theorem tri_for (hi : Its c E wi Rs) (I : Nat → List Slo) (h0 : Weak E (I 0))
    (turn : ∀ (c' : Ctx) (i : Nat) (R : Rp), c'.T = c.T → c'.X = c.X → c'.Hs0 = c.Hs0 → c'.H0 = c.H0 → Rs[i]? = some R → ∃ js E1, Tgt c' (I i) g R js E1 ∧ ∀ D' : Ends, D'.rt = D.rt → D'.bk = D.nx → Nx c' (I (i + 1)) D'.nx → Nx c' (I (i + 1)) D'.ct → Tri c' E1 tb D')
    (hd : Nx c (I Rs.length) D.nx) : Tri c E (tFor wi g tb) D := fun σ Hs H e => hi σ Hs H e _ fun J Hs1 H1 s1 hJ => by
  let c' : Ctx := c.also (fun Hx => ItOk Hx J Rs) fun ex h => h.ex ex
  refine ⟨fun i m σ H => m = Rs.length - i ∧ i ≤ Rs.length ∧ ∃ Hs, Sat c' σ Hs H (I i), ⟨Rs.length, by simp, Nat.zero_le _, Hs1, ((e.move s1).weak h0).more hJ⟩, ?_⟩
  rintro i m σ2 H2 ⟨rfl, hi2, Hs2, e2⟩
  have hJ2 : ItOk Hs2 J Rs := e2.g.2
  by_cases hlt : i < Rs.length
  · refine .inr ⟨hJ2.go Hs2 H2 (Evl.Ex.refl _) e2.ok.sub i hlt, fun σ' H' => ∃ Hs, Sat c' σ' Hs H' (I (i + 1)), fun σ' H' p => ⟨Rs.length - (i + 1), by omega, rfl, hlt, p⟩, fun x H' y => ?_⟩
    have hR : Rs[i]? = some Rs[i] := List.getElem?_eq_getElem hlt
    obtain ⟨Hs3, s3, hx⟩ := hJ2.yld Hs2 H2 (Evl.Ex.refl _) e2.ok.sub i x H' _ hR y
    obtain ⟨js, E1, t, b⟩ := turn c' i _ rfl rfl rfl rfl hR
    refine t.run σ2 Hs3 H' x (e2.move s3) hx _ fun σ' e' _ _ => ?_
    exact b { nx := fun σ' H' => ∃ Hs, Sat c' σ' Hs H' (I (i + 1)), rt := D.rt, bk := D.nx, ct := fun σ' H' => ∃ Hs, Sat c' σ' Hs H' (I (i + 1)) } rfl rfl (fun σ4 Hs4 H4 e4 => ⟨Hs4, e4⟩) (fun σ4 Hs4 H4 e4 => ⟨Hs4, e4⟩) σ' Hs3 H' e'
  · have en : i = Rs.length := by omega
    subst en
    exact .inl ⟨hJ2.stop Hs2 H2 (Evl.Ex.refl _) e2.ok.sub, hd σ2 Hs2 H2 e2.drop⟩
theorem tri_while {tc : TT} {α : Type} (I : α → List Slo) (μ : α → Nat) (a0 : α) (h0 : Weak E (I a0))
    (turn : ∀ a, ∃ b, EvT c (I a) tc b ∧ (b = true → ∀ D' : Ends, D'.rt = D.rt → D'.bk = D.nx → (∀ a', μ a' < μ a → Nx c (I a') D'.nx) → (∀ a', μ a' < μ a → Nx c (I a') D'.ct) → Tri c (I a) tb D') ∧ (b = false → Nx c (I a) D.nx)) : Tri c E (tWhile tc tb) D := fun σ Hs H e => by
  refine ⟨fun m σ H => ∃ a Hs, μ a = m ∧ Sat c σ Hs H (I a), ⟨_, a0, Hs, rfl, e.weak h0⟩, ?_⟩
  rintro m σ2 H2 ⟨a, Hs2, rfl, e2⟩
  obtain ⟨b, ht, h1, h2⟩ := turn a
  refine ht σ2 Hs2 H2 e2 _ fun Hs3 H3 s3 => ?_
  cases b with
  | true =>
    refine ⟨fun σ' H' => ∃ a' Hs, μ a' < μ a ∧ Sat c σ' Hs H' (I a'), fun σ' H' ⟨a', Hs, l, e'⟩ => ⟨μ a', l, a', Hs, rfl, e'⟩, ?_⟩
    exact h1 rfl { nx := fun σ' H' => ∃ a' Hs, μ a' < μ a ∧ Sat c σ' Hs H' (I a'), rt := D.rt, bk := D.nx, ct := fun σ' H' => ∃ a' Hs, μ a' < μ a ∧ Sat c σ' Hs H' (I a') } rfl rfl (fun a' l σ4 Hs4 H4 e4 => ⟨a', Hs4, l, e4⟩) (fun a' l σ4 Hs4 H4 e4 => ⟨a', Hs4, l, e4⟩) σ2 Hs3 H3 (e2.move s3)
  | false => exact h2 rfl σ2 Hs3 H3 (e2.move s3)
end
def made (f : Nat → Option PyData) (i : Nat) : List PyData := (List.range i).filterMap f
theorem made_succ (f : Nat → Option PyData) (i : Nat) : made f (i + 1) = made f i ++ (f i).toList := by
  unfold made
  rw [List.range_succ, List.filterMap_append]
  cases h : f i <;> simp [h]
theorem made_len (f : Nat → Option PyData) (i : Nat) : (made f i).length ≤ i := by
  have := List.length_filterMap_le f (List.range i)
  rw [List.length_range] at this; exact this
section
variable {K : PySem.W.Frag} {c : Ctx} {E : List Slo} {wi : TI} {g : TG} {tt : TT} {te : TE} {Rs : List Rp} {vs : List Nat}
theorem evO_lc (f : Nat → Option PyData) (hi : Its c E wi Rs) (hl : Rs.length ≤ 50000)
    (turn : ∀ (i : Nat) (R : Rp), Rs[i]? = some R → ∃ js E1, Tgt c (wipeE E vs) g R js E1 ∧ (∀ j ∈ js, j ∈ vs) ∧ EvT c E1 tt (f i).isSome ∧ ∀ d, f i = some d → Ev c E1 te (isD K d)) :
    EvO c E (tLc wi g tt te vs) (ownL K (made f Rs.length)) := fun σ Hs H e Q q => hi σ Hs H e _ fun J Hs1 H1 s1 hJ => fun D hD => by
  have e1 := e.move s1
  have n0 : H D = none := by
    cases z : H D with
    | none => rfl
    | some o => exact absurd hD (s1.d D (by rw [z]; exact Option.some_ne_none _))
  have sD := Stp.newO (o := .lst []) s1.i hD
  refine ⟨fun i m H2 => m = Rs.length - i ∧ i ≤ Rs.length ∧ ∃ Hs2 acc, Stp Hs1 H1 Hs2 H2 ∧ Hs2 D = none ∧ H2 D = some (.lst acc) ∧ DpAll K Hs2 acc (made f i),
    ⟨Rs.length, by simp, Nat.zero_le _, Hs1, [], sD, Evl.fresh_back s1.i hD, upd_same, .nil⟩, ?_⟩
  rintro i m H2 ⟨rfl, hi2, Hs2, acc, s2, n2, hacc, dacc⟩
  have hJ2 : ItOk Hs2 J Rs := hJ.ex s2.s
  by_cases hlt : i < Rs.length
  · refine .inr ⟨hJ2.go Hs2 H2 (Evl.Ex.refl _) s2.i i hlt, fun H' => i + 1 ≤ Rs.length ∧ ∃ Hs2 acc, Stp Hs1 H1 Hs2 H' ∧ Hs2 D = none ∧ H' D = some (.lst acc) ∧ DpAll K Hs2 acc (made f (i + 1)), fun H' p => ⟨Rs.length - (i + 1), by omega, rfl, p.1, p.2⟩, fun x H3 y => ?_⟩
    have hR : Rs[i]? = some Rs[i] := List.getElem?_eq_getElem hlt
    obtain ⟨Hs3, s3, hx⟩ := hJ2.yld Hs2 H2 (Evl.Ex.refl _) s2.i i x H3 _ hR y
    have nD : H2 D ≠ none := by rw [hacc]; exact Option.some_ne_none _
    have n3 : Hs3 D = none := s3.f D nD n2
    have h3 : H3 D = some (.lst acc) := s3.k D _ (by simp) hacc fun ps z => by cases z
    obtain ⟨js, E1, t, hjs, ht, he⟩ := turn i _ hR
    have s13 := s2.trans s3
    refine t.run (L2.wipe σ vs) Hs3 H3 x ((e1.move s13).wipe vs) hx _ fun σ' e' k' l' => ⟨?_, ?_⟩
    · have h0 : L2.wipe (L2.wipe σ vs) vs = L2.wipe σ vs := wipe_eq (wipe_length _ _) fun j hj => wipe_get hj
      rw [← h0]
      refine wipe_eq l' fun j hj => k' j fun z => hj (hjs j z)
    · refine ht σ' Hs3 H3 e' _ fun Hs4 H4 s4 => ?_
      have n4 : Hs4 D = none := s4.f D (by rw [h3]; exact Option.some_ne_none _) n3
      have h4 : H4 D = some (.lst acc) := s4.k D _ (by simp) h3 fun ps z => by cases z
      cases hf : f i with
      | none =>
        show (fun H' => i + 1 ≤ Rs.length ∧ ∃ Hs2 acc, Stp Hs1 H1 Hs2 H' ∧ Hs2 D = none ∧ H' D = some (.lst acc) ∧ DpAll K Hs2 acc (made f (i + 1))) H4
        refine ⟨hlt, Hs4, acc, s13.trans s4, n4, h4, ?_⟩
        rw [made_succ, hf]
        simp only [Option.toList_none, List.append_nil]
        exact dpAll_ex (s3.s.trans s4.s) _ _ dacc
      | some d =>
        show te σ' H4 _
        refine he d hf σ' Hs4 H4 (e'.move s4) _ fun v Hs5 H5 s5 hv => ?_
        have n5 : Hs5 D = none := s5.f D (by rw [h4]; exact Option.some_ne_none _) n4
        have h5 : H5 D = some (.lst acc) := s5.k D _ (by simp) h4 fun ps z => by cases z
        have s15 := (s13.trans s4).trans s5
        refine ⟨acc, h5, Evl.sz_lt ?_, hlt, Hs5, acc ++ [v], ⟨s15.s, Evl.Ex.mut s15.i n5, fun a o _ ea hn => ?_, fun a ha => ?_, s15.f, fun a ha => ?_⟩, n5, upd_same, ?_⟩
        · rw [dpAll_length dacc]
          have := made_len f i
          omega
        · have : a ≠ D := fun z => by rw [z, hD] at ea; cases ea
          rw [upd_ne this]; exact s15.k a o (by simp) ea hn
        · obtain ⟨ps, e1, t1⟩ := s15.t a ha
          have : a ≠ D := fun z => by rw [z, h5] at e1; cases e1
          exact ⟨ps, by rw [upd_ne this]; exact e1, t1⟩
        · by_cases z : a = D
          · rw [z, upd_same]; exact Option.some_ne_none _
          · rw [upd_ne z]; exact s15.d a ha
        · rw [made_succ, hf]
          exact dpAll_append (dpAll_ex ((s3.s.trans s4.s).trans s5.s) _ _ dacc) (.cons hv .nil)
  · have en : i = Rs.length := by omega
    subst en
    exact .inl ⟨hJ2.stop Hs2 H2 (Evl.Ex.refl _) s2.i, q D _ Hs2 H2 (s1.trans s2) n0 n2 hacc ⟨acc, rfl, dacc⟩⟩
end
end SD
end
section
set_option maxHeartbeats 4000000
namespace SD
open PySem PySem.Spec PyProof.Rows L2
structure Has (P : Program) (w : World) (K : PySem.W.Frag) (mg : Str → Option Value) (base : Heap) (x : Str) (ps : List Str) (k : Nat) (sp : Sp) : Prop where
  ex : ∃ (f : Addr) (fd : FuncData), mg x = some (.ref f) ∧ PySem.W.keepIn K (.ref f) = true ∧ Binds K fd ps [] ∧ FnOk P w K mg base CX0 k f fd ps sp
theorem Has.mono {P : Program} {w : World} {K : PySem.W.Frag} {mg : Str → Option Value} {base : Heap} {x : Str} {ps : List Str} {k j : Nat} {sp : Sp} (h : Has P w K mg base x ps k sp) (hj : k ≤ j) : Has P w K mg base x ps j sp := by
  obtain ⟨f, fd, a, b, c, d⟩ := h.ex
  exact ⟨f, fd, a, b, c, d.mono hj⟩
theorem pe_has {X : Cx} {x : Str} {ps : List Str} {k : Nat} {sp : Sp} {p pos : Pos} {e : Expr} {es : List Expr} {t : TA} (h : Has X.prog X.w X.K X.mg X.base x ps k sp) (hr : Room k X.A) (ha : PA X (e :: es) t) (hg : Gl X x := by rfl)
    (hdb : (x == ("__debug__" : Str)) = false := by decide) (he : starEach (e :: es) X.env = (false, eval e X.env) :: starEach es X.env := by rfl) (hpl : (backTo pos (starEach es X.env)).any (·.1) = false := by rfl) :
    PE X (.Call (.Name x p) (e :: es) [] pos) (tCall sp [] E0 t) := by
  obtain ⟨f, fd, a, b, c, d⟩ := h.ex
  exact pe_call d hr hg a b c .nil pass0 ha hdb he hpl
def entryE (Rs : List Rp) (n : Nat) : List Slo := Rs.map .is ++ List.replicate (n - Rs.length) .no
theorem sat_start {c : Ctx} {Rs : List Rp} {N : List Str} {vs : List V} (ok : Okk c.T c.Hs0 c.H0) (g : c.G c.Hs0) (h : All2 c.Hs0 Rs vs) (hl : Rs.length ≤ N.length) : Sat c (L2.start N vs) c.Hs0 c.H0 (entryE Rs N.length) where
  ok := ok
  stp := StpX.refl ok.sub
  g := g
  len := by
    have l := h.length
    unfold L2.start entryE
    rw [List.length_append, List.length_append, List.length_map, List.length_map, List.length_replicate, List.length_replicate]; omega
  val := fun i R hi => by
    have l := h.length
    unfold entryE at hi
    by_cases hlt : i < Rs.length
    · rw [List.getElem?_append_left (by rw [List.length_map]; exact hlt), List.getElem?_map] at hi
      cases hR : Rs[i]? with
      | none => rw [hR] at hi; cases hi
      | some R' =>
        rw [hR] at hi
        cases hi
        obtain ⟨v, h1, h2⟩ := h.get hR
        refine ⟨v, ?_, h2⟩
        unfold L2.start
        rw [List.getElem?_append_left (by rw [List.length_map]; omega), List.getElem?_map, h1]; rfl
    · rw [List.getElem?_append_right (by rw [List.length_map]; omega), List.getElem?_replicate] at hi
      split at hi <;> cases hi
  own := fun i P hi => by
    unfold entryE at hi
    by_cases hlt : i < Rs.length
    · rw [List.getElem?_append_left (by rw [List.length_map]; exact hlt), List.getElem?_map] at hi
      cases hR : Rs[i]? with
      | none => rw [hR] at hi; cases hi
      | some R' => rw [hR] at hi; cases hi
    · rw [List.getElem?_append_right (by rw [List.length_map]; omega), List.getElem?_replicate] at hi
      split at hi <;> cases hi
  apart := fun i j P P' p _ hi => by
    unfold entryE at hi
    by_cases hlt : i < Rs.length
    · rw [List.getElem?_append_left (by rw [List.length_map]; exact hlt), List.getElem?_map] at hi
      cases hR : Rs[i]? with
      | none => rw [hR] at hi; cases hi
      | some R' => rw [hR] at hi; cases hi
    · rw [List.getElem?_append_right (by rw [List.length_map]; omega), List.getElem?_replicate] at hi
      split at hi <;> cases hi
section
variable {P : Program} {w : World} {K : PySem.W.Frag} {mg : Str → Option Value} {base : Heap} {T : List Addr}
theorem has_of {x qual : Str} {params : Arguments} {body : List Stmt} {scope : Scope} {f : Addr} {fd : FuncData} {N ps : List Str} {k : Nat} {p : Prom} (F : FunD K x qual params body scope [] [] f fd) (hm : mg x = some (.ref f)) (S : FnScope N ps scope)
    (bd : ∀ (kV doc pm : Value) (an : Option Addr) (cdv ct : Value) (us : List Value), us.length = ps.length → bindArgs (PySem.W.fnOf x qual params body scope .none kV doc pm an cdv ct) ⟨us, []⟩ = pure (ps.zip us))
    (hl : ∀ a, (p.args a).length = ps.length) (hN : ps.length ≤ N.length)
    (hbody : ∀ (cdv : Value) (A : Around) (outer : List Env) (s : Shared) (H : Hp) (E : XK), Room k (A.deeper (envOfC qual scope s.heap.objs.size f cdv)) →
      ∀ (a : p.α) (c : Ctx) (D : Ends), c.T = T → c.X = [] → p.side a → Fin c (p.res a) D.rt → D.nx = (fun _ H' => D.rt .non H') →
        ∃ t, PSs (cxOf CX0 P w K mg base N qual scope f cdv A outer s H E).nox body t ∧ Tri c (entryE (p.args a) N.length) t D) : Has P w K mg base x ps (k + 1) (spOf T p) := by
  refine ⟨f, fd, hm, F.kp, F.bindsN bd, F.ok S (fun vs H Q E h => ?_) (fun cdv A outer s H vs Q E hr h => ?_)⟩
  · obtain ⟨a, Hs, _, _, hv, _⟩ := h
    rw [hv.length, hl]
  · obtain ⟨a, Hs, hs, ok, hv, q⟩ := h
    obtain ⟨t, h1, h2⟩ := hbody cdv A outer s H E hr a ⟨T, [], Hs, H, fun _ => True, fun _ _ => trivial⟩ { nx := fun _ H' => Q .non H', rt := Q } rfl rfl hs (fun v Hs' H' st hR => q v Hs' H' st hR) rfl
    exact ⟨t, h1.nox, h2 _ Hs H (sat_start (c := ⟨T, [], Hs, H, fun _ => True, fun _ _ => trivial⟩) ok trivial hv (by rw [hl]; exact hN))⟩
end
section
variable {K : PySem.W.Frag} {c : Ctx} {E : List Slo}
def rLenV (K : PySem.W.Frag) : List V → Hp → VK → Prop := fun xs H Q => ∃ x n, xs = [x] ∧ LenV K x H n ∧ Q (.int (n : Nat)) H
theorem caV_len {d : PyData} {n : Nat} (h : (∃ ds, (d = .tuple ds ∨ d = .list ds) ∧ n = ds.length) ∨ ∃ x, d = .str x ∧ x.length ≤ sizeLine ∧ n = x.length) : CaV (rLenV K) [isD K d] (isD K (.int (n : Int))) := fun vs Hs H e hv Q q => by
  cases hv with
  | cons a b =>
    cases b
    refine ⟨_, n, rfl, ?_, q _ Hs H (StpX.refl e) (.int _)⟩
    rcases h with ⟨ds, hd, rfl⟩ | ⟨x, rfl, hx, rfl⟩
    · rcases hd with rfl | rfl
      · cases a with
        | tup hs ha => exact .inr ⟨_, Evl.ex_t e hs, (dpAll_length ha).symm⟩
      · cases a with
        | lst hs ha => exact .inl ⟨_, Evl.ex_l e hs, (dpAll_length ha).symm⟩
    · cases a; exact ⟨hx, rfl⟩
theorem caV_lenT {ds : List PyData} : CaV (rLenV K) [isD K (.tuple ds)] (isD K (.int (ds.length : Int))) := caV_len (.inl ⟨ds, .inl rfl, rfl⟩)
theorem caV_lenL {ds : List PyData} : CaV (rLenV K) [isD K (.list ds)] (isD K (.int (ds.length : Int))) := caV_len (.inl ⟨ds, .inr rfl, rfl⟩)
theorem caV_lenS {x : Str} (h : x.length ≤ 1000) : CaV (rLenV K) [isD K (.str x)] (isD K (.int (x.length : Int))) := caV_len (.inr ⟨x, rfl, Evl.sz_of (by omega), rfl⟩)
theorem caV_sum {ns : List Int} : CaV (rSum K) [isD K (.list (ns.map .int))] (isD K (.int ns.sum)) := fun vs Hs H e hv Q q => by
  cases hv with
  | cons a b =>
    cases b
    cases a with
    | @lst a vs _ hs ha =>
      have h := dpAll_ints ha
      rw [h] at hs
      exact ⟨a, ns, rfl, Evl.ex_l e hs, q _ Hs H (StpX.refl e) (.int _)⟩
def rMin2 : List V → Hp → VK → Prop := fun xs H Q => ∃ i j, xs = [.int i, .int j] ∧ Q (.int (if j < i then j else i)) H
def rMax2 : List V → Hp → VK → Prop := fun xs H Q => ∃ i j, xs = [.int i, .int j] ∧ Q (.int (if j > i then j else i)) H
theorem caV_min2 {i j : Int} : CaV rMin2 [isD K (.int i), isD K (.int j)] (isD K (.int (min i j))) := fun vs Hs H e hv Q q => by
  cases hv with
  | cons a b =>
    cases b with
    | cons b b2 =>
      cases b2; cases a; cases b
      refine ⟨i, j, rfl, ?_⟩
      have : (if j < i then j else i) = min i j := by omega
      rw [this]; exact q _ Hs H (StpX.refl e) (.int _)
theorem caV_max2 {i j : Int} : CaV rMax2 [isD K (.int i), isD K (.int j)] (isD K (.int (max i j))) := fun vs Hs H e hv Q q => by
  cases hv with
  | cons a b =>
    cases b with
    | cons b b2 =>
      cases b2; cases a; cases b
      refine ⟨i, j, rfl, ?_⟩
      have : (if j > i then j else i) = max i j := by omega
      rw [this]; exact q _ Hs H (StpX.refl e) (.int _)
theorem caV_gcd {i j : Int} : CaV rGcd [isD K (.int i), isD K (.int j)] (isD K (.int ((i.natAbs.gcd j.natAbs : Nat) : Int))) := fun vs Hs H e hv Q q => by
  cases hv with
  | cons a b =>
    cases b with
    | cons b b2 =>
      cases b2; cases a; cases b
      exact ⟨i, j, rfl, q _ Hs H (StpX.refl e) (.int _)⟩
def rLcm1 : List V → Hp → VK → Prop := fun vs H Q => vs = [.int 1, .int 1] ∧ Q (.int 1) H
theorem cr_lcm1 {X : Cx} : CallR X (.builtin "math.lcm") rLcm1 := by
  intro pins s σ H vs us Q I r h
  obtain ⟨rfl, q⟩ := h
  obtain ⟨t, u, rfl⟩ := Vals.int2 r
  exact PySem.W.mg_lcm_v (c := 1) (by decide) (by decide) (by decide) (by decide +kernel) ⟨.int 1, H, I.tok _, ⟨_, rfl⟩, q⟩
theorem caV_lcm1 : CaV rLcm1 [isD K (.int 1), isD K (.int 1)] (isD K (.int 1)) := fun vs Hs H e hv Q q => by
  cases hv with
  | cons a b =>
    cases b with
    | cons b b2 => cases b2; cases a; cases b; exact ⟨rfl, q _ Hs H (StpX.refl e) (.int _)⟩
def rTupOf (K : PySem.W.Frag) : List V → Hp → VK → Prop := fun xs H Q => ∃ p ys, xs = [.ref p] ∧ ((SqL K H p ys ∧ ∀ l, H l = none → Q (.ref l) (upd H l (.tup ys))) ∨ (SqT K H p ys ∧ Q (.ref p) H))
theorem caV_tupL {ds : List PyData} : CaV (rTupOf K) [isD K (.list ds)] (isD K (.tuple ds)) := fun vs Hs H e hv Q q => by
  cases hv with
  | cons a b =>
    cases b
    cases a with
    | @lst a vs _ hs ha =>
      refine ⟨a, vs, rfl, .inl ⟨Evl.ex_l e hs, fun l hl => ?_⟩⟩
      have s := Stp.new (o := .tup vs) e hl
      exact q _ _ _ s (.tup (SqT.of upd_same) (dpAll_ex s.s _ _ ha))
def rLstOf (K : PySem.W.Frag) : List V → Hp → VK → Prop := fun xs H Q => ∃ p ys, xs = [.ref p] ∧ (SqL K H p ys ∨ SqT K H p ys) ∧ ∀ l, H l = none → Q (.ref l) (upd H l (.lst ys))
theorem evO_listT {t : TA} {ds : List PyData} (h : EvA c E t [isD K (.tuple ds)]) : EvO c E (tCB (rLstOf K) t) (ownL K ds) := fun σ Hs H e Q q => by
  refine h σ Hs H e _ fun vs Hs1 H1 s1 hv => ?_
  cases hv with
  | cons a b =>
    cases b
    cases a with
    | @tup a vs _ hs ha =>
      refine ⟨a, vs, rfl, .inr (Evl.ex_t s1.i hs), fun p hp => ?_⟩
      have s := Stp.newO (o := .lst vs) s1.i hp
      have n0 : H p = none := by
        cases z : H p with
        | none => rfl
        | some o => exact absurd hp (s1.d p (by rw [z]; exact Option.some_ne_none _))
      exact q p _ _ _ (s1.trans s) n0 (Evl.fresh_back s1.i hp) upd_same ⟨vs, rfl, ha⟩
def rInt1 : List V → Hp → VK → Prop := fun xs H Q => (∃ i, xs = [.int i] ∧ Q (.int i) H) ∨ ∃ k, xs = [.bl k] ∧ Q (.int (if k then 1 else 0)) H
theorem caV_int {i : Int} : CaV rInt1 [isD K (.int i)] (isD K (.int i)) := fun vs Hs H e hv Q q => by
  cases hv with
  | cons a b => cases b; cases a; exact .inl ⟨i, rfl, q _ Hs H (StpX.refl e) (.int _)⟩
theorem caV_intB {b : Bool} : CaV rInt1 [isD K (.bool b)] (isD K (.int (if b then 1 else 0))) := fun vs Hs H e hv Q q => by
  cases hv with
  | cons a b => cases b; cases a; exact .inr ⟨_, rfl, q _ Hs H (StpX.refl e) (.int _)⟩
theorem dpAll_bools {H : Hp} : ∀ {vs : List V} {bs : List Bool}, DpAll K H vs (bs.map PyData.bool) → vs = bs.map V.bl
  | _, [], h => by cases h; rfl
  | _, b :: bs, h => by
    cases h with
    | cons h1 h2 => cases h1; rw [dpAll_bools h2]; rfl
theorem caV_all {bs : List Bool} : CaV (rAll K) [isD K (.list (bs.map .bool))] (isD K (.bool (bs.all id))) := fun vs Hs H e hv Q q => by
  cases hv with
  | cons a b =>
    cases b
    cases a with
    | @lst a vs _ hs ha =>
      have h := dpAll_bools ha
      rw [h] at hs
      exact ⟨a, bs, rfl, Evl.ex_l e hs, q _ Hs H (StpX.refl e) (.bl _)⟩
def tyN : PyData → String
  | .none => "NoneType"
  | .bool _ => "bool"
  | .int _ => "int"
  | .str _ => "str"
  | .list _ => "list"
  | .tuple _ => "tuple"
  | .dict _ => "dict"
theorem tyX_of {Hs H : Hp} (e : Ex Hs H) {v : V} : ∀ {d : PyData}, Dp K Hs v d → TyX K H v (.type (tyN d))
  | .none, h => by cases h; exact .base .non
  | .bool _, h => by cases h; exact .base (.bl _)
  | .int _, h => by cases h; exact .base (.int _)
  | .str _, h => by cases h; exact .base (.str _)
  | .list _, h => by
    cases h with
    | lst hs _ =>
      rcases Evl.ex_l e hs with (h | ⟨o, h⟩) | ⟨o, its, n, h, hc, _⟩
      · exact .base (.lst h)
      · exact .base (.frz h)
      · exact .kList h hc
  | .tuple _, h => by
    cases h with
    | tup hs _ =>
      rcases Evl.ex_t e hs with (h | ⟨o, h⟩) | ⟨o, its, n, h, hc, _⟩
      · exact .base (.tup h)
      · exact .fTuple h
      · exact .kTuple h hc
  | .dict _, h => by cases h
def isTy (n : String) : Rp := ⟨fun _ v => v = .ty n, fun _ h => h⟩
theorem caV_isi {d : PyData} {n : String} {b : Bool} (h : kitB (tyN d) n = some b) : CaV (rIsi K) [isD K d, isTy n] (isD K (.bool b)) := fun vs Hs H e hv Q q => by
  cases hv with
  | cons a a2 =>
    cases a2 with
    | cons a2 a3 =>
      cases a3
      obtain rfl : _ = V.ty n := a2
      exact ⟨_, _, _, _, b, rfl, .ty n, tyX_of e a, kit_ty h, q _ Hs H (StpX.refl e) (.bl _)⟩
theorem ev_ty {n : String} : Ev c E (tC (.ty n)) (isTy n) := ev_c fun _ => rfl
end
end SD
end
section
namespace SD
open PySem PySem.Spec PyProof.Rows L2
structure Blt (mg : Str → Option Value) : Prop where
  len : mg "len" = none
  isinstance : mg "isinstance" = none
  int : mg "int" = none
  bool : mg "bool" = none
  str : mg "str" = none
  tuple : mg "tuple" = none
  sum : mg "sum" = none
  any : mg "any" = none
  all : mg "all" = none
  range : mg "range" = none
  enumerate : mg "enumerate" = none
  zip : mg "zip" = none
  sorted : mg "sorted" = none
  min : mg "min" = none
  max : mg "max" = none
  list : mg "list" = none
  gcd : mg "gcd" = some (.builtin "math.gcd")
  lcm : mg "lcm" = some (.builtin "math.lcm")
  STOP : ∃ t, mg "STOP" = some (.int (-1) t)
  MOST_UNKNOWNS : ∃ t, mg "MOST_UNKNOWNS" = some (.int 40 t)
  LETTERS : ∃ t, mg "LETTERS" = some (.str "abcdefghijklmnopqrstuvwxyz" t)
  MOST_OUTS : ∃ t, mg "MOST_OUTS" = some (.int 6 t)
  MOST_STAKE : ∃ t, mg "MOST_STAKE" = some (.int 39 t)
  MOST_GOAL : ∃ t, mg "MOST_GOAL" = some (.int 39 t)
  MOST_TABLES : ∃ t, mg "MOST_TABLES" = some (.int 4 t)
  MOST_STAKES : ∃ t, mg "MOST_STAKES" = some (.int 12 t)
  MOST_PLACES : ∃ t, mg "MOST_PLACES" = some (.int 40 t)
  MOST_PLAYS : ∃ t, mg "MOST_PLAYS" = some (.int 12 t)
  MOST_PAIRS : ∃ t, mg "MOST_PAIRS" = some (.int 8 t)
  MOST_WEIGHT : ∃ t, mg "MOST_WEIGHT" = some (.int 99999 t)
  PAY_LIMIT : ∃ t, mg "PAY_LIMIT" = some (.int (10 ^ 600) t)
end SD
end
section
set_option maxHeartbeats 4000000
namespace SD
open PySem PySem.Spec PyProof.Rows L2
section
variable {X : Cx} {pos p tpos : Pos} {e e2 : Expr} {ta : TA} {te : TE} {tg : Expr}
theorem k_ixT (K : PySem.W.Frag) (h : X.K = K := by rfl) : IxR X (rIxT K) := by subst h; exact ix_tup
theorem k_ixL (K : PySem.W.Frag) (h : X.K = K := by rfl) : IxR X (rIxL K) := by subst h; exact ix_list
theorem k_tup (K : PySem.W.Frag) {es : List Expr} {k : Nat} {t : TGs} (n : Nat) (g : PGs X es t) (h : X.K = K := by rfl) (hc : X.calm = true := by rfl)
    (hn : (assignEach es X.env).length = n := by rfl) (hst : (assignEach es X.env).findIdx? (·.1) = none := by rfl) : PG X (.Tuple es k pos) (gTup K n t) := by subst h; exact pg_tup hc g hn hst
theorem k_isi (K : PySem.W.Frag) (h : X.K = K := by rfl) : CallR X (.builtin "isinstance") (rIsi K) := by subst h; exact call_isi
theorem k_len (K : PySem.W.Frag) (h : X.K = K := by rfl) : CallR X (.builtin "len") (rLenV K) := by subst h; exact call_len
theorem k_sum (K : PySem.W.Frag) (h : X.K = K := by rfl) (hc : X.calm = true := by rfl) : CallR X (.builtin "sum") (rSum K) := by subst h; exact cr_sum hc
theorem k_all (K : PySem.W.Frag) (h : X.K = K := by rfl) (hc : X.calm = true := by rfl) : CallR X (.builtin "all") (rAll K) := by subst h; exact cr_all hc
theorem k_max (K : PySem.W.Frag) (h : X.K = K := by rfl) (hc : X.calm = true := by rfl) : CallR X (.builtin "max") (rMax K) := by subst h; exact cr_max hc
theorem k_listOf (K : PySem.W.Frag) (h : X.K = K := by rfl) : CallR X (.type "list") (rLstOf K) := by subst h; exact call_list_of
theorem k_tupOf (K : PySem.W.Frag) (h : X.K = K := by rfl) : CallR X (.type "tuple") (rTupOf K) := by subst h; exact call_tuple_of
theorem k_eqD (K : PySem.W.Frag) (hu : X.A.units + 64 < cLine) (h : X.K = K := by rfl) : OpR X (compareOp .Eq) (rEqD K) := by subst h; exact op_eqD hu
theorem k_neD (K : PySem.W.Frag) (hu : X.A.units + 64 < cLine) (h : X.K = K := by rfl) : OpR X (compareOp .NotEq) (rNeD K) := by subst h; exact op_neD hu
theorem un65 {k : Nat} {A : Around} (r : Room k A) : A.units + 65 < cLine := by have := r.un; omega
theorem k_inD (K : PySem.W.Frag) (hu : X.A.units + 65 < cLine) (h : X.K = K := by rfl) : OpR X (compareOp .In) (rInD K) := by subst h; exact op_inD hu
theorem k_notInD (K : PySem.W.Frag) (hu : X.A.units + 65 < cLine) (h : X.K = K := by rfl) : OpR X (compareOp .NotIn) (rNotInD K) := by subst h; exact op_notInD hu
theorem k_catT (K : PySem.W.Frag) (h : X.K = K := by rfl) : OpR X (binaryOp .Add) (rCatT K) := by subst h; exact op_catT
theorem k_piL (K : PySem.W.Frag) (hl : PE X e te) (h : X.K = K := by rfl) : PI X tg e (iList K te) := by subst h; exact pi_list hl
theorem k_piT (K : PySem.W.Frag) (hl : PE X e te) (h : X.K = K := by rfl) : PI X tg e (iTup K te) := by subst h; exact pi_tup hl
theorem k_slT (K : PySem.W.Frag) (h : X.K = K := by rfl) : SlR X (rSlA K) := by subst h; exact sl_tupA
theorem k_bm (K : PySem.W.Frag) {o : Expr} {es : List Expr} {to : TE} {t : TA} {name : Str} {apos cpos : Pos} {T id : String} {r : V → List V → Hp → VK → Prop} (pa : PlainAttrs T) (slot : Slot T name id) (hty : typeOf (.builtin id) = pure (.type "method_descriptor")) (hm : MtR X id r) (ho : PE X o to) (ha : PA X (e :: es) t)
    (hbase : attributeBase o name X.env (eval o X.env) = eval o X.env := by rfl)
    (hfew : ((backTo cpos (starEach (e :: es) X.env)).all (fun x => !x.1) && (backToKw cpos (keywordEach [] X.env)).all (fun x => x.1.isSome)
      && decide ((e :: es).length + ([] : List Keyword).length + (if ([] : List Keyword).isEmpty then 0 else 1) < 30)) = true := by rfl)
    (hline : (apos.endLine == cpos.line) = true := by rfl) (hs : starEach (e :: es) X.env = (false, eval e X.env) :: starEach es X.env := by rfl) (hplain : (backTo cpos (starEach es X.env)).any (·.1) = false := by rfl) (h : X.K = K := by rfl) :
    PE X (.Call (.Attribute o name apos) (e :: es) [] cpos) (tBM K T r to t) := by subst h; exact pe_bm pa slot hty hm ho ha hbase hfew hline hs hplain
theorem k_bm0 (K : PySem.W.Frag) {o : Expr} {to : TE} {name : Str} {apos cpos : Pos} {T id : String} {r : V → List V → Hp → VK → Prop} (pa : PlainAttrs T) (slot : Slot T name id) (hty : typeOf (.builtin id) = pure (.type "method_descriptor")) (hm : MtR X id r) (ho : PE X o to)
    (hbase : attributeBase o name X.env (eval o X.env) = eval o X.env := by rfl) (hline : (apos.endLine == cpos.line) = true := by rfl) (h : X.K = K := by rfl) : PE X (.Call (.Attribute o name apos) [] [] cpos) (tBM0 K T r to) := by subst h; exact pe_bm0 pa slot hty hm ho hbase hline
end
end SD
end
section
set_option maxHeartbeats 4000000
namespace SD
open PySem PySem.Spec PyProof.Rows L2
open Sem (wp)
theorem meets_enum0 {v : Value} {o : Obj} {Hv : Heap → Prop} (B : Begins v o Hv) :
    Meets (Builtin.«enumerate.__new__» ⟨[.type "enumerate", v], []⟩) (fun _ R s => Hv s.heap ∧
      R (.ok (.ret (.ref (s.heap.push o).objs.size))) { s with heap := (s.heap.push o).push { cls := .type "enumerate", data := .fields #[.none, .bool false, .ref s.heap.objs.size, rawInt 0, .none, .none] } }) :=
  .of_wp fun prog w A R s hh => by
    obtain ⟨hp, g, d, tk, os⟩ := s
    obtain ⟨h1, hR⟩ := hh
    have isSub := sub_enumerate
    have it1 : ∀ {A1 : Around} {E1 : Value → Shared → Prop} {Q1 : Value → Shared → Prop}, Q1 (.ref hp.objs.size) ⟨hp.push o, g, d, tk, os⟩ → wpAny (model prog w) A1 (pyIter v) Q1 E1 ⟨hp, g, d, tk, os⟩ :=
      fun q => B.iter prog w _ _ ⟨hp, g, d, tk, os⟩ _ h1 q
    wp_walk using it1
    refine wpAny_stack_any fun _ => wpAny_pure ?_
    split
    · rename_i c _ _ _ _ _
      cases (c == Value.type "enumerate")
      · wp_walk using it1
        exact ⟨_, rfl, hR⟩
      · wp_walk using it1
        exact ⟨_, rfl, hR⟩
    · wp_walk using it1
      exact ⟨_, rfl, hR⟩
section
variable {prog : Program} {w : World} {A : Around} {E : Value → Shared → Prop} {s : Shared}
theorem call_enum0 {v : Value} {o : Obj} {Hv : Heap → Prop} {Q : Value → Shared → Prop} (B : Begins v o Hv) (h1 : Hv s.heap)
    (h : ∀ h', IsEnum h' (s.heap.objs.size + 1) s.heap.objs.size 0 .none → h'.get? s.heap.objs.size = some o → (∀ b u, s.heap.get? b = some u → h'.get? b = some u) → Q (.ref (s.heap.objs.size + 1)) { s with heap := h' }) :
    wpAny (model prog w) A (call (.type "enumerate") [v]) Q E s := by
  refine callType_new F.called_enumerate (by decide) (F.typeCall_enumerate_1 _) (F.newCall_enumerate_1 _) (fun obj => F.args_object_init_2 obj _) F.entry_enumerate_new (meets_enum0 B) ⟨h1, ?_⟩
  have hz : (s.heap.push o).objs.size = s.heap.objs.size + 1 := Heap.size_push ..
  show _ ∧ _
  rw [hz]
  have he : IsEnum ((s.heap.push o).push { cls := .type "enumerate", data := .fields #[.none, .bool false, .ref s.heap.objs.size, rawInt 0, .none, .none] }) (s.heap.objs.size + 1) s.heap.objs.size 0 .none := by
    have y := Heap.get?_push_size (s.heap.push o) (o := { cls := .type "enumerate", data := .fields #[.none, .bool false, .ref s.heap.objs.size, rawInt 0, .none, .none] }) rfl
    rw [hz] at y; exact y
  exact ⟨⟨_, he, rfl⟩, h _ he (Heap.get?_push_of_some _ (Heap.get?_push_size _ B.free)) fun b u x => Heap.get?_push_of_some _ (Heap.get?_push_of_some _ x)⟩
end
def IteT (K : PySem.W.Frag) (a : Addr) : It :=
  ⟨fun i H => ∃ (xs : List V) (x : V), SqT K H a xs ∧ xs[i]? = some x, fun i H v H' => ∃ T x, v = .ref T ∧ H T = none ∧ H' = upd H T (.tup [.int (i : Nat), x]) ∧ ∀ xs, SqT K H a xs → xs[i]? = some x, fun i H => ∃ xs : List V, SqT K H a xs ∧ xs.length = i⟩
theorem turn_enumT {P : Program} {w : World} {K : PySem.W.Frag} {elts : List Expr} {kk : Nat} {tpos : Pos} (a e it : Addr) (hai : a ≠ it) (hae : e ≠ a) :
    Turn P w K (.Tuple elts kk tpos) (IteT K a) [e, it] e (fun i h => (∃ old, IsEnum h e it ((i : Nat) : Int) old) ∧ h.IsTupleIter it a i ∧ e ≠ it) where
  mem := by simp
  obj := fun i h st b hb => by
    obtain ⟨⟨old, he⟩, ⟨o, ho, hc, hd⟩, _⟩ := st
    have e' : b = e ∨ b = it := by simpa using hb
    rcases e' with z | z
    · rw [z]; exact ⟨_, he, fun v q => nomatch q⟩
    · rw [z]; exact ⟨o, ho, fun v q => by rw [hd] at q; cases q⟩
  keep := fun i h h' st k => let ⟨⟨old, he⟩, hi, hne⟩ := st; ⟨⟨old, k e (by simp) _ he⟩, hi.at fun o q => k it (by simp) o q, hne⟩
  item := by
    intro X hP hw hK hc i pins s σ H E I hf st hg
    subst hP hw hK
    obtain ⟨⟨old, he⟩, hit, hne⟩ := st
    obtain ⟨xs, x, hq, hx⟩ := hg
    obtain ⟨its, rv, p, hz⟩ := I.tuple hq
    obtain ⟨u, hu, ru⟩ := rv.get hx
    have hel : e < s.heap.objs.size := Heap.lt_size he
    have hil : it < s.heap.objs.size := by obtain ⟨_, q, _⟩ := hit; exact Heap.lt_size q
    have hlt : i < its.toArray.size := by
      have := (List.getElem?_eq_some_iff.mp hu).1
      simpa using this
    refine wpAny_pyNext_enum_itemD (Draws.tuple (A := X.A.in1) (I.ok.hd hc) it a hai its.toArray) he ⟨hit, p⟩ hlt hne (by simp; exact ⟨hne, hae⟩) fun x2 h' tk hP ho st' hT hsz hk => ?_
    have ex : x2 = u := by
      have h3 : its.toArray[i]? = some x2 := hP
      have h4 : its.toArray[i]? = some u := by simpa using hu
      rw [h3] at h4; exact Option.some.inj h4
    subst ex
    refine ⟨_, rfl, wpAny_letOwnedTupleGo_enum (s := { s with heap := h', toks := tk + 1 }) ho fun h'' he' sb => ?_⟩
    have hT2 : h''.get? s.heap.objs.size = some { cls := .type "tuple", data := .seq #[.int i tk, x2] } := (sb.2 _ (Nat.ne_of_gt hel)).trans hT
    have new : ObjOk X.prog X.w (upd H s.heap.objs.size (.tup [.int (i : Nat), x])) h'' s.heap.objs.size (.tup [.int (i : Nat), x]) :=
      ⟨by show 2 ≤ sizeLine; decide, [.int i tk, x2], .cons ⟨_, rfl⟩ (.cons ru .nil), ⟨_, hT2, rfl, _, rfl⟩⟩
    have I1 : Inv X pins σ (upd H s.heap.objs.size (.tup [.int (i : Nat), x])) { s with heap := h'', toks := tk + 1 } :=
      I.turnedNew (ch := [e, it]) (fun b ob hb q => (sb.2 b (fun z => hb (by simp [z]))).trans (hk b ob (fun z => hb (by simp [z])) (fun z => hb (by simp [z])) q)) hf (Nat.le_refl _) new
    refine ⟨.ref s.heap.objs.size, _, I1, rfl, ⟨_, x, rfl, I.hok.fresh (Nat.le_refl _), rfl, fun ys hy => by rw [I.tuple_inj hy hq]; exact hx⟩, ⟨⟨x2, ?_⟩, st'.1.at fun o q => (sb.2 it (Ne.symm hne)).trans q, hne⟩, fun b hb => ?_⟩
    · have e1 : ((i + 1 : Nat) : Int) = (i : Int) + 1 := by omega
      rw [e1]; exact he'
    · have hb' : b < s.heap.objs.size := by
        have e' : b = e ∨ b = it := by simpa using hb
        rcases e' with z | z
        · rw [z]; exact hel
        · rw [z]; exact hil
      rw [upd_ne (Nat.ne_of_lt hb')]
      exact (hf b hb).1
  done := by
    intro X hP hw hK hc i pins s σ H E I hf st hg
    subst hP hw hK
    obtain ⟨⟨old, he⟩, hit, hne⟩ := st
    obtain ⟨xs, hq, hx⟩ := hg
    obtain ⟨its, rv, p, hz⟩ := I.tuple hq
    obtain ⟨f0, f1, f2, f3, f4, f5⟩ := hf it (by simp)
    have hl := rv.length
    have en : its.toArray.size = i := by rw [List.size_toArray]; omega
    subst en
    exact wpAny_pyNext_enum_endD (Draws.tuple (A := X.A.in1) (I.ok.hd hc) it a hai its.toArray) he ⟨hit, p⟩ fun h' eb => ⟨rfl, I.turned (t' := s.toks) (fun b o hb q => eb b o hb q) f0 f1 f3 f4 f5⟩
  self := fun A i s Q E st h => let ⟨⟨_, he⟩, _⟩ := st; wpAny_pyIter_enum he h
def iEnumT (K : PySem.W.Frag) (ta : TA) : TI := fun σ H R => ta σ H fun vs H1 => ∃ a xs, vs = [.ref a] ∧ SqT K H1 a xs ∧ R (IteT K a) H1
theorem pi_enumT {X : Cx} {e : Expr} {ta : TA} {p pos tpos : Pos} {elts : List Expr} {kk : Nat} (K : PySem.W.Frag) (hg : Gl X "enumerate") (hm : X.mg "enumerate" = none) (ha : PA X [e] ta) (hs : starEach [e] X.env = [(false, eval e X.env)] := by rfl) (hK : X.K = K := by rfl) :
    PI X (.Tuple elts kk tpos) (.Call (.Name "enumerate" p) [e] [] pos) (iEnumT K ta) := by
  subst hK
  refine ⟨fun pins s σ H R I h => ?_⟩
  refine Call_ (ld_blt I hg hm boot_enumerate (PyProof.Rows.callWith_type1 (thn (ha.run pos pins s σ H _ I h) fun us s1 ⟨vs, H1, I1, r1, q1⟩ => ?_) hs rfl))
  obtain ⟨a, xs, ex, hq, q⟩ := q1
  subst ex
  cases r1 with
  | cons r rr =>
    cases rr
    cases r
    obtain ⟨its, rv, p', hz⟩ := I1.tuple hq
    have hp : s1.heap.IsTuple a its.toArray := p'
    have hlt : a < s1.heap.objs.size := by obtain ⟨o, ho, _⟩ := id hp; exact Heap.lt_size ho
    refine call_enum0 (begins_tuple a its.toArray) hp fun h' he hit hk => wpAny_pyIter_enum he ?_
    have I2 : Inv X pins σ H1 { s1 with heap := h' } := I1.kept (t' := s1.toks) hk
    refine ⟨s1.heap.objs.size + 1, [s1.heap.objs.size + 1, s1.heap.objs.size], _, _, H1, rfl, I2, turn_enumT a (s1.heap.objs.size + 1) s1.heap.objs.size (Nat.ne_of_lt hlt) (fun z => ?_), ⟨⟨.none, he⟩, ⟨_, hit, rfl, rfl⟩, Nat.succ_ne_self _⟩, fun b hb => ?_, q⟩
    · have z' : (s1.heap.objs.size + 1 : Nat) = a := z
      rw [← z'] at hlt
      exact Nat.lt_irrefl _ (Nat.lt_of_succ_lt hlt)
    · have e' : b = s1.heap.objs.size + 1 ∨ b = s1.heap.objs.size := by simpa using hb
      have hle : s1.heap.objs.size ≤ b := by
        rcases e' with z | z
        · rw [z]; exact Nat.le_add_right _ _
        · rw [z]; exact Nat.le_refl _
      exact I1.fpOk hle (I1.hok.fresh hle)
end SD
end
section
set_option maxHeartbeats 4000000
namespace SD
open PySem PySem.Spec PyProof.Rows L2
open AutoSeq1 (wpAny_loadPart')
theorem tuple_mul1 (l : Addr) (items : Array Value) (n : Nat) (dd : Option Addr) (sl : Array (Option Value)) (u : Tok) :
    Meets (Builtin.«tuple.__mul__» ⟨[.ref l, .int 1 u], []⟩) (fun _ R s => s.heap.get? l = some { cls := .type "tuple", dict := dd, data := .seq items n, slots := sl } ∧ R (.ok (.ret (.ref l))) s) :=
  .of_wp fun prog w A R s hh => by
    obtain ⟨hp, g, d, tk, os⟩ := s
    obtain ⟨hl, hR⟩ := hh
    have f1 := AutoSeq1.idx_int
    have c0 : (decide ((1 : Int) < -(2 ^ 63)) || decide ((1 : Int) ≥ 2 ^ 63)) = false := by decide
    have c1 : (items.isEmpty || (1 : Int) == 1) = true := by rw [show ((1 : Int) == 1) = true from rfl, Bool.or_true]
    wp_walk using wpAny_loadPart' hl
    repeat (first
      | (refine wpAny_ite_false (decide_eq_false (by rw [c0]; exact Bool.false_ne_true)) ?_; wp_walk using wpAny_loadPart' hl)
      | (refine wpAny_ite_true (decide_eq_true (by rw [c1])) ?_; wp_walk using wpAny_loadPart' hl))
    exact ⟨_, rfl, hR⟩
def rRepA (K : PySem.W.Frag) : R2 := fun x y H Q => ∃ l k xs, x = .ref l ∧ y = .int k ∧ SqT K H l xs ∧ xs ≠ [] ∧ 1 ≤ k ∧ k ≤ 1000 ∧ xs.length ≤ 1000 ∧ (k = 1 → Q (.ref l) H) ∧ (2 ≤ k → ∀ p, H p = none → Q (.ref p) (upd H p (.tup (List.replicate k.toNat xs).flatten)))
theorem op_repA {X : Cx} (K : PySem.W.Frag) (hK : X.K = K := by rfl) : OpR X (binaryOp .Mult) (rRepA K) := by
  subst hK
  intro pins s σ H x y v u Q I rx ry h
  obtain ⟨l, k, xs, e1, e2, hT, hne, h1, h2, hz, q1, q2⟩ := h
  by_cases hk : k = 1
  · subst e1 e2 hk
    cases rx
    obtain ⟨t, rfl⟩ := ry
    obtain ⟨its, r, ⟨⟨cls, dd, data, sl⟩, ho, hc, n, hd⟩, hs⟩ := I.tuple hT
    simp only at hc hd
    subst hc hd
    refine wpAny_binaryOp_repeat_ref (T := "tuple") (U := "int") (by decide) ⟨_, ho, rfl⟩ (fun s' => typeIs_int s' 1 t) noFill_tuple_mul F.fills_int_mul F.slot_int_rmul repeat_tuple F.slot_int_index.lookup
      (call_meets F.slot_int_rmul (typeIs_int s 1 t) F.entry_int_rmul (F.args_int_rmul_2 _ _) (int_rmul_tuple 1 t l its.toArray n dd sl)
        ⟨ho, rfl, ⟨_, ho, rfl⟩, call_meets F.slot_tuple_mul ⟨_, ho, rfl⟩ F.entry_tuple_mul (F.args_tuple_mul_2 _ _) (tuple_mul1 l its.toArray n dd sl t) ⟨ho, ?_⟩⟩)
    exact ⟨.ref l, H, I, rfl, q1 rfl⟩
  · exact op_repT pins s σ H x y v u Q I rx ry ⟨l, k, xs, e1, e2, hT, hne, by omega, h2, hz, q2 (by omega)⟩
section
variable {K : PySem.W.Frag} {c : Ctx} {E : List Slo}
theorem dpAll_rep {H : Hp} {vs : List V} {ds : List PyData} (h : DpAll K H vs ds) : ∀ n : Nat, DpAll K H (List.replicate n vs).flatten (List.replicate n ds).flatten
  | 0 => .nil
  | n + 1 => by
    rw [List.replicate_succ, List.replicate_succ, List.flatten_cons, List.flatten_cons]
    exact dpAll_append h (dpAll_rep h n)
theorem opV_rep {ds : List PyData} {k : Int} (h0 : ds ≠ []) (h1 : 1 ≤ k) (h2 : k ≤ 1000) (hl : ds.length ≤ 1000) : OpV (rRepA K) (isD K (.tuple ds)) (isD K (.int k)) (isD K (.tuple (List.replicate k.toNat ds).flatten)) := fun x y Hs H e hx hy Q q => by
  cases hy
  cases hx with
  | @tup a vs _ hs ha =>
    have l1 := dpAll_length ha
    refine ⟨a, k, vs, rfl, rfl, Evl.ex_t e hs, fun z => h0 (by subst z; exact List.length_eq_zero_iff.mp l1.symm), h1, h2, by omega, fun z => ?_, fun _ p hp => ?_⟩
    · refine q _ Hs H (StpX.refl e) ?_
      subst z
      have : (List.replicate (1 : Int).toNat ds).flatten = ds := by simp
      rw [this]; exact .tup hs ha
    · have s := Stp.new (o := .tup (List.replicate k.toNat vs).flatten) e hp
      exact q _ _ _ s (.tup (SqT.of upd_same) (dpAll_ex s.s _ _ (dpAll_rep ha _)))
end
theorem k_glI {X : Cx} {x : Str} {i : Int} {pos : Pos} (hg : Gl X x) (hm : ∃ t, X.mg x = some (.int i t)) (hd : (x == ("__debug__" : Str)) = false := by decide) : PE X (.Name x pos) (tC (.int i)) :=
  hm.elim fun t e => pe_glob hg e ⟨t, rfl⟩ hd
theorem k_glS {X : Cx} {x z : Str} {pos : Pos} (hg : Gl X x) (hm : ∃ t, X.mg x = some (.str z t)) (hd : (x == ("__debug__" : Str)) = false := by decide) : PE X (.Name x pos) (tC (.str z)) :=
  hm.elim fun t e => pe_glob hg e ⟨t, rfl⟩ hd
open RZ
theorem k_zipA {X : Cx} {e e2 : Expr} {ta : TA} {p pos tpos : Pos} {elts : List Expr} {kk : Nat} (K : PySem.W.Frag) (hg : Gl X "zip") (hm : X.mg "zip" = none) (ha : PA X [e, e2] ta)
    (hs : starEach [e, e2] X.env = (false, eval e X.env) :: starEach [e2] X.env := by rfl) (hpl : (backTo pos (starEach [e2] X.env)).any (·.1) = false := by rfl) (hK : X.K = K := by rfl) :
    PI X (.Tuple elts kk tpos) (.Call (.Name "zip" p) [e, e2] [] pos) (iZipA K ta) := by subst hK; exact pi_zipA hg hm ha hs hpl
theorem k_zip {X : Cx} {e e2 : Expr} {ta : TA} {p pos tpos : Pos} {elts : List Expr} {kk : Nat} (K : PySem.W.Frag) (hg : Gl X "zip") (hm : X.mg "zip" = none) (ha : PA X [e, e2] ta)
    (hs : starEach [e, e2] X.env = (false, eval e X.env) :: starEach [e2] X.env := by rfl) (hpl : (backTo pos (starEach [e2] X.env)).any (·.1) = false := by rfl) (hK : X.K = K := by rfl) :
    PI X (.Tuple elts kk tpos) (.Call (.Name "zip" p) [e, e2] [] pos) (iZip K ta) := by subst hK; exact pi_zip hg hm ha hs hpl
theorem k_enum {X : Cx} {e : Expr} {ta : TA} {p pos tpos : Pos} {elts : List Expr} {kk : Nat} (K : PySem.W.Frag) (hg : Gl X "enumerate") (hm : X.mg "enumerate" = none) (ha : PA X [e] ta) (hs : starEach [e] X.env = [(false, eval e X.env)] := by rfl) (hK : X.K = K := by rfl) :
    PI X (.Tuple elts kk tpos) (.Call (.Name "enumerate" p) [e] [] pos) (iEnum K ta) := by subst hK; exact pi_enum hg hm ha hs
section
variable {K : PySem.W.Frag} {c : Ctx} {E : List Slo} {ta : TA}
theorem itOk_enumT {Hs1 : Hp} {a : Addr} {vs : List V} {ds : List PyData} (hs : SqT K Hs1 a vs) (ha : DpAll K Hs1 vs ds) : ItOk Hs1 (IteT K a) ((pairsI ds).map (isD K)) where
  go := fun Hs H e1 e2 i hi => by
    have l := dpAll_length ha
    rw [List.length_map, pairsI_length] at hi
    have hl : i < vs.length := by omega
    exact ⟨vs, vs[i], Evl.ex_t (e1.trans e2) hs, List.getElem?_eq_getElem hl⟩
  stop := fun Hs H e1 e2 => ⟨vs, Evl.ex_t (e1.trans e2) hs, by rw [List.length_map, pairsI_length, dpAll_length ha]⟩
  yld := fun Hs H e1 e2 i x H' R hR y => by
    obtain ⟨T, z, rfl, hT, rfl, y⟩ := y
    have hi : i < ds.length := by
      have := (List.getElem?_eq_some_iff.mp hR).1
      rw [List.length_map, pairsI_length] at this; exact this
    have hd : ds[i]? = some ds[i] := List.getElem?_eq_getElem hi
    rw [List.getElem?_map, pairsI_get hd] at hR
    cases hR
    obtain ⟨v, h1, h2⟩ := dpAll_get ha hd
    have h3 := y vs (Evl.ex_t (e1.trans e2) hs)
    rw [h1] at h3; cases h3
    exact pair_yld e2 hT (.int _) (dp_ex e1 _ _ h2)
theorem its_enumT {ds : List PyData} (h : EvA c E ta [isD K (.tuple ds)]) : Its c E (iEnumT K ta) ((pairsI ds).map (isD K)) := fun σ Hs H e RR q => h σ Hs H e _ fun vs Hs1 H1 s1 hv => by
  cases hv with
  | cons a b =>
    cases b
    cases a with
    | @tup a vs _ hs ha => exact ⟨a, vs, rfl, Evl.ex_t s1.i hs, q _ Hs1 H1 s1 (itOk_enumT hs ha)⟩
theorem itOk_zipT {Hs1 : Hp} {a b : Addr} {vs ws : List V} {ds es : List PyData} (hs : SqT K Hs1 a vs) (ha : DpAll K Hs1 vs ds) (ht : SqT K Hs1 b ws) (hb : DpAll K Hs1 ws es) : ItOk Hs1 (ItzT K a b) ((pairsZ ds es).map (isD K)) where
  go := fun Hs H e1 e2 i hi => by
    have l := dpAll_length ha
    have l2 := dpAll_length hb
    unfold pairsZ at hi
    rw [List.length_map, List.length_map, List.length_zip] at hi
    have hl : i < vs.length := by omega
    have hl2 : i < ws.length := by omega
    exact ⟨vs, ws, vs[i], ws[i], Evl.ex_t (e1.trans e2) hs, Evl.ex_t (e1.trans e2) ht, List.getElem?_eq_getElem hl, List.getElem?_eq_getElem hl2⟩
  stop := fun Hs H e1 e2 => ⟨vs, ws, Evl.ex_t (e1.trans e2) hs, Evl.ex_t (e1.trans e2) ht, by
    have l := dpAll_length ha
    have l2 := dpAll_length hb
    unfold pairsZ
    rw [List.length_map, List.length_map, List.length_zip]; omega⟩
  yld := fun Hs H e1 e2 i x H' R hR y => by
    obtain ⟨T, z1, z2, rfl, hT, rfl, y1, y2⟩ := y
    have hi : i < ds.length ∧ i < es.length := by
      have := (List.getElem?_eq_some_iff.mp hR).1
      unfold pairsZ at this
      rw [List.length_map, List.length_map, List.length_zip] at this; omega
    have hd : ds[i]? = some ds[i] := List.getElem?_eq_getElem hi.1
    have he : es[i]? = some es[i] := List.getElem?_eq_getElem hi.2
    have hz : (pairsZ ds es)[i]? = some (.tuple [ds[i], es[i]]) := by
      unfold pairsZ
      rw [List.getElem?_map, List.getElem?_zip_eq_some (z := (ds[i], es[i])) |>.mpr ⟨hd, he⟩]; rfl
    rw [List.getElem?_map, hz] at hR
    cases hR
    obtain ⟨v, h1, h2⟩ := dpAll_get ha hd
    obtain ⟨v', h1', h2'⟩ := dpAll_get hb he
    have h3 := y1 vs (Evl.ex_t (e1.trans e2) hs)
    have h4 := y2 ws (Evl.ex_t (e1.trans e2) ht)
    rw [h1] at h3; cases h3
    rw [h1'] at h4; cases h4
    exact pair_yld e2 hT (dp_ex e1 _ _ h2) (dp_ex e1 _ _ h2')
theorem its_zipT {ds es : List PyData} (h : EvA c E ta [isD K (.tuple ds), isD K (.tuple es)]) : Its c E (iZipA K ta) ((pairsZ ds es).map (isD K)) := fun σ Hs H e RR q => h σ Hs H e _ fun vs Hs1 H1 s1 hv => by
  cases hv with
  | cons a b =>
    cases b with
    | cons b b2 =>
      cases b2
      cases a with
      | @tup a vs _ hs ha =>
        cases b with
        | @tup b ws _ ht hb => exact ⟨a, b, vs, ws, rfl, .inr ⟨Evl.ex_t s1.i hs, Evl.ex_t s1.i ht, q _ Hs1 H1 s1 (itOk_zipT hs ha ht hb)⟩⟩
theorem its_zipL {ds es : List PyData} (h : EvA c E ta [isD K (.list ds), isD K (.list es)]) : Its c E (iZipA K ta) ((pairsZ ds es).map (isD K)) := fun σ Hs H e RR q => h σ Hs H e _ fun vs Hs1 H1 s1 hv => by
  cases hv with
  | cons a b =>
    cases b with
    | cons b b2 =>
      cases b2
      cases a with
      | @lst a vs _ hs ha =>
        cases b with
        | @lst b ws _ ht hb => exact ⟨a, b, vs, ws, rfl, .inl ⟨Evl.ex_l s1.i hs, Evl.ex_l s1.i ht, q _ Hs1 H1 s1 (itOk_zip hs ha ht hb)⟩⟩
end
end SD
end
section
namespace SM
abbrev Vec := Nat → Int
def ex {α : Type} (f : List α → Int) (r : α → Int) : List α → Int
  | [] => 0
  | c :: cs => r c * f cs - ex (fun l => f (c :: l)) r cs
def det : Nat → List Vec → Int
  | 0, [] => 1
  | 0, _ :: _ => 0
  | n + 1, l => ex (det n) (fun v => v n) l

section
variable {α : Type}
theorem ex_lin (x y : Int) (r : α → Int) : ∀ (l : List α) (f g : List α → Int), ex (fun l => x * f l + y * g l) r l = x * ex f r l + y * ex g r l
  | [], f, g => by simp [ex]
  | c :: cs, f, g => by
    simp only [ex]
    rw [ex_lin x y r cs (fun l => f (c :: l)) (fun l => g (c :: l))]
    grind
theorem ex_zero (r : α → Int) : ∀ (l : List α) (f : List α → Int), (∀ l, f l = 0) → ex f r l = 0
  | [], _, _ => rfl
  | c :: cs, f, h => by simp only [ex]; rw [h, ex_zero r cs _ (fun l => h _)]; simp
theorem ex_congr (r : α → Int) : ∀ (l : List α) (f g : List α → Int), (∀ l, f l = g l) → ex f r l = ex g r l := by
  intro l f g h
  have : f = g := funext h
  rw [this]
theorem ex_neg (r : α → Int) (l : List α) (f g : List α → Int) (h : ∀ l, f l = - g l) : ex f r l = - ex g r l := by
  have := ex_lin (-1) 0 r l g g
  rw [ex_congr r l f (fun l => -1 * g l + 0 * g l) (by intro l; rw [h]; grind)]
  rw [this]; grind
theorem ex_sub (x : Int) (r : α → Int) (l : List α) (f g : List α → Int) : ex (fun l => x * f l - g l) r l = x * ex f r l - ex g r l := by
  have := ex_lin x (-1) r l f g
  rw [ex_congr r l (fun l => x * f l - g l) (fun l => x * f l + -1 * g l) (by intro l; grind), this]; grind
theorem ex_comm (r s : α → Int) : ∀ (l : List α) (f : List α → Int), ex (ex f r) s l = - ex (ex f s) r l
  | [], f => by simp [ex]
  | c :: cs, f => by
    have ih := ex_comm r s cs (fun l => f (c :: l))
    show s c * ex f r cs - ex (fun l => r c * f l - ex (fun l' => f (c :: l')) r l) s cs = -(r c * ex f s cs - ex (fun l => s c * f l - ex (fun l' => f (c :: l')) s l) r cs)
    rw [ex_sub, ex_sub]
    grind
theorem ex_self (r : α → Int) (l : List α) (f : List α → Int) : ex (ex f r) r l = 0 := by
  have := ex_comm r r l f
  omega
end
theorem det_row : ∀ (n i : Nat) (l : List Vec), i < n → ex (det n) (fun v => v i) l = 0
  | 0, _, _, h => absurd h (Nat.not_lt_zero _)
  | n + 1, i, l, h => by
    show ex (ex (det n) (fun v => v n)) (fun v => v i) l = 0
    by_cases e : i = n
    · subst e; exact ex_self _ _ _
    · rw [ex_comm]
      rw [ex_zero _ l (ex (det n) fun v => v i) (fun l => det_row n i l (by omega))]
      rfl
def Alt {α : Type} (f : List α → Int) : Prop := ∀ P a b S, f (P ++ a :: b :: S) = - f (P ++ b :: a :: S)
theorem Alt.cons {α : Type} {f : List α → Int} (h : Alt f) (c : α) : Alt (fun l => f (c :: l)) := fun P a b S => h (c :: P) a b S
theorem Alt.ex {α : Type} (r : α → Int) : ∀ (P : List α) (f : List α → Int), Alt f → ∀ a b S, SM.ex f r (P ++ a :: b :: S) = - SM.ex f r (P ++ b :: a :: S)
  | [], f, h, a, b, S => by
    show r a * f (b :: S) - (r b * f (a :: S) - SM.ex (fun l => f (a :: b :: l)) r S) = -(r b * f (a :: S) - (r a * f (b :: S) - SM.ex (fun l => f (b :: a :: l)) r S))
    rw [ex_neg r S (fun l => f (a :: b :: l)) (fun l => f (b :: a :: l)) (fun l => h [] a b l)]
    grind
  | c :: P, f, h, a, b, S => by
    show r c * f (P ++ a :: b :: S) - SM.ex (fun l => f (c :: l)) r (P ++ a :: b :: S) = -(r c * f (P ++ b :: a :: S) - SM.ex (fun l => f (c :: l)) r (P ++ b :: a :: S))
    rw [Alt.ex r P _ (h.cons c) a b S, h P a b S]
    grind
theorem det_alt : ∀ n, Alt (det n)
  | 0 => fun P a b S => by cases P <;> rfl
  | n + 1 => fun P a b S => Alt.ex _ P _ (det_alt n) a b S
def Lin (f : List Vec → Int) : Prop := ∀ P (u v : Vec) (x y : Int) S, f (P ++ (fun i => x * u i + y * v i) :: S) = x * f (P ++ u :: S) + y * f (P ++ v :: S)
theorem Lin.cons {f : List Vec → Int} (h : Lin f) (c : Vec) : Lin (fun l => f (c :: l)) := fun P u v x y S => h (c :: P) u v x y S
theorem Lin.ex (i : Nat) : ∀ (P : List Vec) (f : List Vec → Int), Lin f → ∀ (u v : Vec) (x y : Int) S,
    SM.ex f (fun v => v i) (P ++ (fun i => x * u i + y * v i) :: S) = x * SM.ex f (fun v => v i) (P ++ u :: S) + y * SM.ex f (fun v => v i) (P ++ v :: S)
  | [], f, h, u, v, x, y, S => by
    show (x * u i + y * v i) * f S - SM.ex (fun l => f ((fun i => x * u i + y * v i) :: l)) (fun v => v i) S = x * (u i * f S - SM.ex (fun l => f (u :: l)) (fun v => v i) S) + y * (v i * f S - SM.ex (fun l => f (v :: l)) (fun v => v i) S)
    rw [ex_congr _ S (fun l => f ((fun i => x * u i + y * v i) :: l)) (fun l => x * f (u :: l) + y * f (v :: l)) (fun l => h [] u v x y l), ex_lin]
    grind
  | c :: P, f, h, u, v, x, y, S => by
    have ih := Lin.ex i P _ (h.cons c) u v x y S
    show c i * f (P ++ (fun i => x * u i + y * v i) :: S) - SM.ex (fun l => f (c :: l)) (fun v => v i) (P ++ (fun i => x * u i + y * v i) :: S) = x * (c i * f (P ++ u :: S) - SM.ex (fun l => f (c :: l)) (fun v => v i) (P ++ u :: S)) + y * (c i * f (P ++ v :: S) - SM.ex (fun l => f (c :: l)) (fun v => v i) (P ++ v :: S))
    rw [h P u v x y S, ih]
    grind
theorem det_lin : ∀ n, Lin (det n)
  | 0 => fun P u v x y S => by cases P <;> simp [det]
  | n + 1 => fun P u v x y S => Lin.ex n P _ (det_lin n) u v x y S
theorem Alt.eq2 {α : Type} {f : List α → Int} (h : Alt f) : ∀ (Q P : List α) (a : α) (S : List α), f (P ++ a :: (Q ++ a :: S)) = 0
  | [], P, a, S => by have := h P a a S; simp only [List.nil_append]; omega
  | q :: Q, P, a, S => by
    have ih := Alt.eq2 h Q (P ++ [q]) a S
    have := h P a q (Q ++ a :: S)
    simp only [List.append_assoc, List.cons_append, List.nil_append] at ih this ⊢
    omega
def S : Nat → (Nat → Int) → Int
  | 0, _ => 0
  | n + 1, f => S n f + f n
theorem S_congr {n : Nat} {f g : Nat → Int} (h : ∀ i, i < n → f i = g i) : S n f = S n g := by
  induction n with
  | zero => rfl
  | succ n ih => simp only [S]; rw [ih (fun i hi => h i (by omega)), h n (by omega)]
theorem S_mul (c : Int) (n : Nat) (f : Nat → Int) : S n (fun i => c * f i) = c * S n f := by
  induction n with
  | zero => simp [S]
  | succ n ih => simp only [S]; rw [ih]; grind
theorem S_add (n : Nat) (f g : Nat → Int) : S n (fun i => f i + g i) = S n f + S n g := by
  induction n with
  | zero => simp [S]
  | succ n ih => simp only [S]; rw [ih]; grind
theorem S_succ' (n : Nat) (f : Nat → Int) : S (n + 1) f = f 0 + S n (fun i => f (i + 1)) := by
  induction n with
  | zero => simp [S]
  | succ n ih => rw [S, ih]; simp only [S]; omega
theorem S_zero {n : Nat} {f : Nat → Int} (h : ∀ i, i < n → f i = 0) : S n f = 0 := by
  rw [S_congr h]
  induction n with
  | zero => rfl
  | succ n ih => simp only [S]; rw [ih (fun i hi => h i (by omega))]; rfl
theorem S_one {n i : Nat} {f : Nat → Int} (hi : i < n) (h : ∀ j, j < n → j ≠ i → f j = 0) : S n f = f i := by
  induction n with
  | zero => omega
  | succ n ih =>
    simp only [S]
    by_cases e : i = n
    · subst e; rw [S_zero (fun j hj => h j (by omega) (by omega))]; omega
    · rw [ih (by omega) (fun j hj => h j (by omega)), h n (by omega) (by omega)]; omega
theorem S_two {n i k : Nat} {f : Nat → Int} (hi : i < n) (hk : k < n) (hik : i ≠ k) (h : ∀ j, j < n → j ≠ i → j ≠ k → f j = 0) : S n f = f i + f k := by
  induction n with
  | zero => omega
  | succ n ih =>
    simp only [S]
    by_cases e : i = n
    · subst e; rw [S_one (i := k) (by omega) (fun j hj hj2 => h j (by omega) (by omega) hj2)]; omega
    · by_cases e2 : k = n
      · subst e2; rw [S_one (i := i) (by omega) (fun j hj hj2 => h j (by omega) hj2 (by omega))]
      · rw [ih (by omega) (by omega) (fun j hj => h j (by omega)), h n (by omega) (by omega) (by omega)]; omega
theorem cram {α : Type} (d : α) (r : α → Int) (v : α) : ∀ (X : List α) (f : List α → Int), Alt f → ex (fun l => f (v :: l)) r X = S X.length (fun j => r (X.getD j d) * f (X.set j v))
  | [], f, _ => rfl
  | c :: cs, f, h => by
    have ih := cram d r v cs (fun l => f (c :: l)) (h.cons c)
    rw [List.length_cons, S_succ']
    show r c * f (v :: cs) - ex (fun l => f (v :: c :: l)) r cs = r c * f (v :: cs) + S cs.length (fun i => r (cs.getD i d) * f (c :: cs.set i v))
    rw [ex_neg r cs (fun l => f (v :: c :: l)) (fun l => f (c :: v :: l)) (fun l => h [] v c l), ih]
    omega
theorem cramer {n i : Nat} (hi : i < n) (v : Vec) (X : List Vec) : S X.length (fun j => (X.getD j (fun _ => 0)) i * det n (X.set j v)) = v i * det n X := by
  have h := det_row n i (v :: X) hi
  rw [← cram (fun _ => 0) (fun v => v i) v X (det n) (det_alt n)]
  exact (Int.sub_eq_zero.mp h).symm
end SM
end
section
namespace SM
def sg : Nat → Int
  | 0 => 1
  | n + 1 => (if n % 2 = 0 then 1 else -1) * sg n
theorem sg_sq : ∀ n, sg n * sg n = 1
  | 0 => rfl
  | n + 1 => by
    have := sg_sq n
    unfold sg
    split <;> grind
theorem sg_abs (n : Nat) : (sg n).natAbs = 1 := by
  have h := congrArg Int.natAbs (sg_sq n)
  rw [Int.natAbs_mul] at h
  exact Nat.eq_one_of_mul_eq_one_left h
def D (n : Nat) (X : Nat → Vec) : Int := sg n * det n ((List.range n).map X)
theorem ex_last {α : Type} (r : α → Int) (c : α) : ∀ (l : List α) (f : List α → Int), (∀ x ∈ l, r x = 0) → ex f r (l ++ [c]) = (if l.length % 2 = 0 then 1 else -1) * (r c * f l)
  | [], f, _ => by simp [ex]
  | x :: l, f, h => by
    have ih := ex_last r c l (fun l => f (x :: l)) (fun y hy => h y (List.mem_cons_of_mem _ hy))
    show r x * f (l ++ [c]) - ex (fun l => f (x :: l)) r (l ++ [c]) = _
    rw [ih, h x List.mem_cons_self, List.length_cons]
    by_cases e : l.length % 2 = 0
    · rw [if_pos e, if_neg (by omega)]; grind
    · rw [if_neg e, if_pos (by omega)]; grind
def unitV : Nat → Vec := fun j i => if i = j then 1 else 0
theorem det_units : ∀ n, det n ((List.range n).map unitV) = sg n
  | 0 => rfl
  | n + 1 => by
    rw [List.range_succ, List.map_append]
    show ex (det n) (fun v => v n) ((List.range n).map unitV ++ [unitV n]) = _
    rw [ex_last, det_units n]
    · simp [unitV, sg]
    · intro x hx
      obtain ⟨j, hj, e⟩ := List.mem_map.mp hx
      have := List.mem_range.mp hj
      rw [← e]
      show (if n = j then (1 : Int) else 0) = 0
      rw [if_neg (by omega)]
theorem D_unit (n : Nat) : D n unitV = 1 := by
  unfold D; rw [det_units, sg_sq]
def put (X : Nat → Vec) (i : Nat) (v : Vec) : Nat → Vec := fun j => if j = i then v else X j
theorem range_set {n i : Nat} (X : Nat → Vec) (v : Vec) (_hi : i < n) : ((List.range n).map X).set i v = (List.range n).map (put X i v) := by
  apply List.ext_getElem?
  intro j
  rw [List.getElem?_set]
  by_cases h : i = j
  · subst h
    simp [put, _hi]
  · simp only [if_neg h, List.getElem?_map]
    by_cases hj : j < n
    · rw [List.getElem?_range hj]
      simp [put, Ne.symm h]
    · rw [List.getElem?_eq_none (by simpa using hj)]
      rfl
theorem put_self (X : Nat → Vec) (i : Nat) (v : Vec) : put X i v i = v := if_pos rfl
theorem put_ne (X : Nat → Vec) {i j : Nat} (v : Vec) (h : j ≠ i) : put X i v j = X j := if_neg h
theorem put_put (X : Nat → Vec) (i : Nat) (u v : Vec) : put (put X i u) i v = put X i v := by
  funext j; unfold put; split <;> rfl
theorem put_comm (X : Nat → Vec) {i k : Nat} (u v : Vec) (h : i ≠ k) : put (put X i u) k v = put (put X k v) i u := by
  funext j; unfold put
  by_cases a : j = k
  · subst a; simp [Ne.symm h]
  · simp [a]
theorem put_same (X : Nat → Vec) (i : Nat) : put X i (X i) = X := by
  funext j; unfold put; split
  · rename_i h; rw [h]
  · rfl
theorem D_split {n i : Nat} (hi : i < n) (X : Nat → Vec) (v : Vec) : D n (put X i v) = sg n * det n ((List.range i).map X ++ v :: (List.range' (i + 1) (n - i - 1)).map X) := by
  unfold D
  congr 2
  have e : List.range n = List.range i ++ i :: List.range' (i + 1) (n - i - 1) := by
    have h1 := @List.range'_append_1 0 i (n - i)
    rw [Nat.zero_add, show i + (n - i) = n by omega] at h1
    have h2 : List.range' i (n - i) = i :: List.range' (i + 1) (n - i - 1) := by
      rw [← List.range'_succ, show n - i - 1 + 1 = n - i by omega]
    rw [List.range_eq_range', List.range_eq_range', ← h1, h2]
  rw [e, List.map_append, List.map_cons, put_self]
  have h1 : (List.range i).map (put X i v) = (List.range i).map X := List.map_congr_left fun j hj => put_ne X v (by have := List.mem_range.mp hj; omega)
  have h2 : (List.range' (i + 1) (n - i - 1)).map (put X i v) = (List.range' (i + 1) (n - i - 1)).map X := List.map_congr_left fun j hj => put_ne X v (by have := (List.mem_range'_1.mp hj).1; omega)
  rw [h1, h2]
theorem D_lin {n i : Nat} (hi : i < n) (X : Nat → Vec) (u v : Vec) (x y : Int) : D n (put X i (fun j => x * u j + y * v j)) = x * D n (put X i u) + y * D n (put X i v) := by
  rw [D_split hi, D_split hi, D_split hi, det_lin n _ u v x y _]; grind
theorem D_zero {n i : Nat} (hi : i < n) (X : Nat → Vec) : D n (put X i (fun _ => 0)) = 0 := by
  have h := D_lin hi X (fun _ => 0) (fun _ => 0) 0 0
  simp only [Int.zero_mul, Int.add_zero] at h
  exact h
theorem D_sum {n i : Nat} (hi : i < n) (X : Nat → Vec) (c : Nat → Int) (V : Nat → Vec) : ∀ m, D n (put X i (fun r => S m (fun j => c j * V j r))) = S m (fun j => c j * D n (put X i (V j)))
  | 0 => D_zero hi X
  | m + 1 => by
    have ih := D_sum hi X c V m
    have h := D_lin hi X (fun r => S m (fun j => c j * V j r)) (V m) 1 (c m)
    have e : (fun r => S (m + 1) (fun j => c j * V j r)) = (fun j => 1 * (fun r => S m (fun j => c j * V j r)) j + c m * V m j) := by
      funext r; simp only [S]; omega
    rw [e, h, ih]; simp only [S]; omega
theorem D_eq2 {n i k : Nat} (hi : i < n) (hk : k < n) (hik : i < k) (X : Nat → Vec) (h : X i = X k) : D n X = 0 := by
  rw [← put_same X i, D_split hi]
  have e : List.range' (i + 1) (n - i - 1) = List.range' (i + 1) (k - i - 1) ++ k :: List.range' (k + 1) (n - k - 1) := by
    rw [← List.range'_succ]
    have := @List.range'_append_1 (i + 1) (k - i - 1) (n - k - 1 + 1)
    rw [show i + 1 + (k - i - 1) = k by omega] at this
    rw [this]; congr 1; omega
  rw [e, List.map_append, List.map_cons, ← h]
  rw [Alt.eq2 (det_alt n) _ _ _ _, Int.mul_zero]
theorem D_eq2' {n i k : Nat} (hi : i < n) (hk : k < n) (hik : i ≠ k) (X : Nat → Vec) (h : X i = X k) : D n X = 0 := by
  rcases Nat.lt_or_gt_of_ne hik with z | z
  · exact D_eq2 hi hk z X h
  · exact D_eq2 hk hi z X h.symm
theorem D_swap {n i k : Nat} (hi : i < n) (hk : k < n) (hik : i ≠ k) (X : Nat → Vec) (u v : Vec) : D n (put (put X i u) k v) = - D n (put (put X i v) k u) := by
  have key : ∀ a b : Vec, D n (put (put X i (fun j => 1 * a j + 1 * b j)) k (fun j => 1 * a j + 1 * b j)) = 0 := fun a b => by
    refine D_eq2' hi hk hik _ ?_
    rw [put_self, put_ne _ _ hik, put_self]
  have z : ∀ a : Vec, D n (put (put X i a) k a) = 0 := fun a => by
    refine D_eq2' hi hk hik _ ?_
    rw [put_self, put_ne _ _ hik, put_self]
  have h := key u v
  rw [D_lin hk] at h
  have e1 : ∀ w, put (put X i (fun j => 1 * u j + 1 * v j)) k w = put (put X k w) i (fun j => 1 * u j + 1 * v j) := fun w => put_comm X _ _ hik
  rw [e1, e1, D_lin hi, D_lin hi] at h
  rw [← put_comm X u u hik, ← put_comm X v u hik, ← put_comm X u v hik, ← put_comm X v v hik, z u, z v] at h
  omega
theorem det_congr : ∀ (n : Nat) (l l' : List Vec), l.length = l'.length → (∀ (j : Nat) (v v' : Vec), l[j]? = some v → l'[j]? = some v' → ∀ i, i < n → v i = v' i) → det n l = det n l'
  | 0, [], [], _, _ => rfl
  | 0, _ :: _, _ :: _, _, _ => rfl
  | 0, [], _ :: _, h, _ => by simp at h
  | 0, _ :: _, [], h, _ => by simp at h
  | n + 1, l, l', h, hc => by
    have key : ∀ (l l' : List Vec) (f g : List Vec → Int), l.length = l'.length → (∀ (j : Nat) (v v' : Vec), l[j]? = some v → l'[j]? = some v' → v n = v' n ∧ ∀ i, i < n → v i = v' i) →
        (∀ a b : List Vec, a.length = b.length → (∀ (j : Nat) (v v' : Vec), a[j]? = some v → b[j]? = some v' → ∀ i, i < n → v i = v' i) → f a = g b) → ex f (fun v => v n) l = ex g (fun v => v n) l' := by
      intro l
      induction l with
      | nil => intro l' f g h _ _; cases l' with
        | nil => rfl
        | cons _ _ => simp at h
      | cons c cs ih =>
        intro l' f g h hc hfg
        cases l' with
        | nil => simp at h
        | cons c' cs' =>
          have hl : cs.length = cs'.length := by simpa using h
          have h0 := hc 0 c c' rfl rfl
          have ht : ∀ (j : Nat) (v v' : Vec), cs[j]? = some v → cs'[j]? = some v' → v n = v' n ∧ ∀ i, i < n → v i = v' i := fun j v v' a b => hc (j + 1) v v' (by simpa using a) (by simpa using b)
          simp only [ex]
          rw [h0.1, hfg cs cs' hl (fun j v v' a b => (ht j v v' a b).2), ih cs' (fun l => f (c :: l)) (fun l => g (c' :: l)) hl ht ?_]
          intro a b hab hab2
          refine hfg (c :: a) (c' :: b) (by simp [hab]) (fun j v v' e1 e2 i hi => ?_)
          cases j with
          | zero =>
            have a1 : c = v := by simpa using e1
            have a2 : c' = v' := by simpa using e2
            rw [← a1, ← a2]; exact h0.2 i hi
          | succ j => exact hab2 j v v' (by simpa using e1) (by simpa using e2) i hi
    exact key l l' (det n) (det n) h (fun j v v' a b => ⟨hc j v v' a b n (by omega), fun i hi => hc j v v' a b i (by omega)⟩) (fun a b => det_congr n a b)
theorem D_congr {n : Nat} {X Y : Nat → Vec} (h : ∀ j, j < n → ∀ i, i < n → X j i = Y j i) : D n X = D n Y := by
  unfold D; congr 1
  refine det_congr n _ _ (by simp) fun j v v' a b i hi => ?_
  have hj : j < n := by
    have := (List.getElem?_eq_some_iff.mp a).1
    simpa using this
  rw [List.getElem?_map, List.getElem?_range hj] at a b
  have a' : X j = v := by simpa using a
  have b' : Y j = v' := by simpa using b
  rw [← a', ← b']; exact h j hj i hi
theorem D_cramer {n i : Nat} (hi : i < n) (X : Nat → Vec) (v : Vec) : S n (fun j => D n (put X j v) * X j i) = v i * D n X := by
  have h := cramer hi v ((List.range n).map X)
  simp only [List.length_map, List.length_range] at h
  unfold D
  rw [show v i * (sg n * det n ((List.range n).map X)) = sg n * (v i * det n ((List.range n).map X)) by grind, ← h, ← S_mul]
  refine S_congr fun j hj => ?_
  rw [range_set X v hj]
  have e : ((List.range n).map X).getD j (fun _ => 0) = X j := by
    rw [List.getD_eq_getElem?_getD, List.getElem?_map, List.getElem?_range hj]
    rfl
  rw [e]; grind
theorem sylv {n i k : Nat} (hi : i < n) (hk : k < n) (hik : i ≠ k) (X : Nat → Vec) (v w : Vec) :
    D n X * D n (put (put X k w) i v) = D n (put X i v) * D n (put X k w) - D n (put X i w) * D n (put X k v) := by
  have h1 : D n (put (put X k w) i (fun r => S n (fun j => D n (put X j v) * X j r))) = D n X * D n (put (put X k w) i v) := by
    have e : D n (put (put X k w) i (fun r => S n (fun j => D n (put X j v) * X j r))) = D n (put (put X k w) i (fun r => D n X * v r + 0 * v r)) := by
      refine D_congr fun j hj r hr => ?_
      unfold put
      split
      · have := D_cramer hr X v; unfold put at this
        show S n _ = _
        rw [this]; grind
      · rfl
    rw [e, D_lin hi]; omega
  rw [D_sum hi, S_two hi hk hik] at h1
  · rw [← h1]
    have e1 : put (put X k w) i (X i) = put X k w := by
      funext j; unfold put
      by_cases a : j = i
      · rw [if_pos a, if_neg (by omega), a]
      · rw [if_neg a]
    have e2 : D n (put (put X k w) i (X k)) = - D n (put X i w) := by
      rw [← put_comm X (X k) w hik, D_swap hi hk hik]
      congr 2
      funext j; unfold put
      by_cases a : j = k
      · rw [if_pos a, if_neg (by omega), a]
      · rw [if_neg a]
    rw [e1, e2]
    grind
  · intro j hj hji hjk
    have : D n (put (put X k w) i (X j)) = 0 := by
      refine D_eq2' hi hj (Ne.symm hji) _ ?_
      rw [put_self, put_ne _ _ hji, put_ne _ _ hjk]
    rw [this]; simp
end SM
end
section
namespace SM
def XX (col : Nat → Vec) (k : Nat) : Nat → Vec := fun j => if j < k then col j else unitV j
def Tt (n : Nat) (col : Nat → Vec) (k i j : Nat) : Int := D n (put (XX col k) i (col j))
def Dk (n : Nat) (col : Nat → Vec) (k : Nat) : Int := D n (XX col k)
theorem XX_succ (col : Nat → Vec) (k : Nat) : XX col (k + 1) = put (XX col k) k (col k) := by
  funext j; unfold put XX
  by_cases h : j = k
  · subst h; simp
  · simp only [if_neg h]
    by_cases h2 : j < k
    · rw [if_pos h2, if_pos (by omega)]
    · rw [if_neg h2, if_neg (by omega)]
theorem Dk_succ (n : Nat) (col : Nat → Vec) (k : Nat) : Dk n col (k + 1) = Tt n col k k k := by
  unfold Dk Tt; rw [XX_succ]
theorem Tt_same (n : Nat) (col : Nat → Vec) (k j : Nat) : Tt n col (k + 1) k j = Tt n col k k j := by
  unfold Tt; rw [XX_succ, put_put]
theorem Tt_step {n k i : Nat} (hi : i < n) (hk : k < n) (hik : i ≠ k) (col : Nat → Vec) (j : Nat) :
    Dk n col k * Tt n col (k + 1) i j = Tt n col k k k * Tt n col k i j - Tt n col k i k * Tt n col k k j := by
  unfold Dk Tt; rw [XX_succ, sylv hi hk hik]; grind
theorem Tt_zero {n i : Nat} (hi : i < n) (col : Nat → Vec) (j : Nat) : Tt n col 0 i j = col j i := by
  have e : XX col 0 = unitV := by funext j; unfold XX; rfl
  have h := D_cramer hi (XX col 0) (col j)
  rw [S_one hi] at h
  · rw [e, D_unit] at h
    unfold Tt; rw [e]
    simpa [unitV] using h
  · intro l _ hl
    rw [e]; simp [unitV, Ne.symm hl]
theorem Dk_zero (n : Nat) (col : Nat → Vec) : Dk n col 0 = 1 := by
  have e : XX col 0 = unitV := by funext j; unfold XX; rfl
  unfold Dk; rw [e, D_unit]
theorem Tt_end {n r : Nat} (hr : r < n) (col : Nat → Vec) (j : Nat) : S n (fun l => Tt n col n l j * col l r) = col j r * Dk n col n := by
  have h := D_cramer hr (XX col n) (col j)
  unfold Tt Dk
  rw [← h]
  refine S_congr fun l hl => ?_
  congr 1
  unfold XX; rw [if_pos hl]
theorem S_split {n k : Nat} (hk : k ≤ n) (f : Nat → Int) : S n f = S k f + S (n - k) (fun i => f (k + i)) := by
  induction n with
  | zero => have : k = 0 := by omega
            subst this; rfl
  | succ n ih =>
    by_cases e : k = n + 1
    · subst e; rw [Nat.sub_self]; simp [S]
    · rw [show n + 1 - k = (n - k) + 1 by omega]
      simp only [S]
      rw [ih (by omega), show k + (n - k) = n by omega]; omega
theorem Tt_col {n k r : Nat} (hk : k < n) (hr : r ≤ k) (col : Nat → Vec) : S k (fun l => Tt n col k l k * col l r) + (if r = k then Tt n col k k k else 0) = col k r * Dk n col k := by
  have hrn : r < n := by omega
  have h := D_cramer hrn (XX col k) (col k)
  unfold Dk
  rw [← h, S_split (n := n) (k := k) (by omega) (fun j => D n (put (XX col k) j (col k)) * XX col k j r)]
  congr 1
  · refine S_congr fun l hl => ?_
    unfold Tt; congr 1
    unfold XX; rw [if_pos hl]
  · by_cases e : r = k
    · subst e
      rw [if_pos rfl, S_one (i := 0) (by omega)]
      · unfold Tt XX unitV; simp
      · intro j _ hj0
        have : XX col r (r + j) r = 0 := by unfold XX unitV; rw [if_neg (by omega)]; show (if _ then (1 : Int) else 0) = 0; rw [if_neg (by omega)]
        rw [this]; simp
    · rw [if_neg e, S_zero]
      intro j _
      have : XX col k (k + j) r = 0 := by unfold XX unitV; rw [if_neg (by omega)]; show (if _ then (1 : Int) else 0) = 0; rw [if_neg (by omega)]
      rw [this]; simp
def PosM (n : Nat) (col : Nat → Vec) : Prop := ∀ k, k < n → ∀ z : Nat → Int, 0 < z k → (∀ r, r < k → S (k + 1) (fun l => z l * col l r) = 0) → 0 < S (k + 1) (fun l => z l * col l k)
theorem Dk_pos {n : Nat} {col : Nat → Vec} (h : PosM n col) : ∀ k, k ≤ n → 0 < Dk n col k
  | 0, _ => by rw [Dk_zero]; decide
  | k + 1, hk => by
    have ih := Dk_pos h k (by omega)
    have key : ∀ r, r ≤ k → S (k + 1) (fun l => (if l = k then Dk n col k else - Tt n col k l k) * col l r) = if r = k then Tt n col k k k else 0 := fun r hr => by
      have h1 := Tt_col (show k < n by omega) hr col
      simp only [S]
      rw [if_pos trivial]
      have h2 : S k (fun l => (if l = k then Dk n col k else - Tt n col k l k) * col l r) = - S k (fun l => Tt n col k l k * col l r) := by
        rw [show - S k (fun l => Tt n col k l k * col l r) = (-1) * S k (fun l => Tt n col k l k * col l r) by omega, ← S_mul]
        refine S_congr fun l hl => ?_
        rw [if_neg (by omega)]; grind
      rw [h2, Int.mul_comm (Dk n col k)]; omega
    have := h k (by omega) (fun l => if l = k then Dk n col k else - Tt n col k l k) (by simpa using ih) (fun r hr => by rw [key r (by omega), if_neg (by omega)])
    rw [key k (Nat.le_refl _), if_pos rfl] at this
    rw [Dk_succ]; exact this
theorem ex_bound {α : Type} {r : α → Int} {P : α → Prop} {B M : Nat} (hr : ∀ c, P c → (r c).natAbs ≤ B) : ∀ (l : List α) (f : List α → Int), (∀ c ∈ l, P c) →
    (∀ l', l'.length + 1 = l.length → (∀ c ∈ l', P c) → (f l').natAbs ≤ M) → (ex f r l).natAbs ≤ l.length * (B * M)
  | [], _, _, _ => by simp [ex]
  | c :: cs, f, hP, hf => by
    have h1 : (r c * f cs).natAbs ≤ B * M := by
      rw [Int.natAbs_mul]
      exact Nat.mul_le_mul (hr c (hP c List.mem_cons_self)) (hf cs rfl fun x hx => hP x (List.mem_cons_of_mem _ hx))
    have h2 := ex_bound hr cs (fun l => f (c :: l)) (fun x hx => hP x (List.mem_cons_of_mem _ hx)) fun l' hl hP' => hf (c :: l') (by simp [hl]) fun x hx => by
      rcases List.mem_cons.mp hx with e | e
      · rw [e]; exact hP c List.mem_cons_self
      · exact hP' x e
    show (r c * f cs - ex (fun l => f (c :: l)) r cs).natAbs ≤ (cs.length + 1) * (B * M)
    rw [Nat.succ_mul]
    omega
theorem det_bound {m B : Nat} : ∀ (n : Nat) (l : List Vec), n ≤ m → l.length = n → (∀ v ∈ l, ∀ i, i < m → (v i).natAbs ≤ B) → (det n l).natAbs ≤ (m * B) ^ n
  | 0, [], _, _, _ => by simp [det]
  | 0, _ :: _, _, h, _ => by simp at h
  | n + 1, l, hm, hl, hb => by
    have := ex_bound (r := fun v : Vec => v n) (P := fun v => ∀ i, i < m → (v i).natAbs ≤ B) (B := B) (M := (m * B) ^ n) (fun c hc => hc n (by omega)) l (det n) hb
      (fun l' hl' hP => det_bound n l' (by omega) (by omega) hP)
    refine Nat.le_trans this ?_
    rw [Nat.pow_succ, hl, Nat.mul_comm ((m * B) ^ n), Nat.mul_assoc]
    exact Nat.mul_le_mul hm (Nat.le_refl _)
theorem D_bound {n B : Nat} {X : Nat → Vec} (h : ∀ j, j < n → ∀ i, i < n → (X j i).natAbs ≤ B) : (D n X).natAbs ≤ (n * B) ^ n := by
  unfold D; rw [Int.natAbs_mul, sg_abs, Nat.one_mul]
  refine det_bound n _ (Nat.le_refl _) (by simp) fun v hv i hi => ?_
  obtain ⟨j, hj, e⟩ := List.mem_map.mp hv
  rw [← e]; exact h j (List.mem_range.mp hj) i hi
theorem XX_bound {n B : Nat} {col : Nat → Vec} (hB : 1 ≤ B) (h : ∀ j, j < n → ∀ i, i < n → (col j i).natAbs ≤ B) (k : Nat) : ∀ j, j < n → ∀ i, i < n → (XX col k j i).natAbs ≤ B := fun j hj i hi => by
  unfold XX; split
  · exact h j hj i hi
  · show (if i = j then (1 : Int) else 0).natAbs ≤ B
    split <;> simp <;> omega
theorem Dk_bound {n B : Nat} {col : Nat → Vec} (hB : 1 ≤ B) (h : ∀ j, j < n → ∀ i, i < n → (col j i).natAbs ≤ B) (k : Nat) : (Dk n col k).natAbs ≤ (n * B) ^ n := D_bound (XX_bound hB h k)
theorem Tt_bound {n B : Nat} {col : Nat → Vec} (hB : 1 ≤ B) (h : ∀ j, j ≤ n → ∀ i, i < n → (col j i).natAbs ≤ B) (k i : Nat) {j : Nat} (hj : j ≤ n) : (Tt n col k i j).natAbs ≤ (n * B) ^ n := by
  refine D_bound fun l hl r hr => ?_
  unfold put; split
  · exact h j hj r hr
  · exact XX_bound hB (fun j hj => h j (by omega)) k l hl r hr
end SM
end
section
namespace SM
theorem rlt_of_lt_of_le {a b c : Rat} (h : a < b) (h2 : b ≤ c) : a < c := by grind
abbrev Lot := List (Nat × Nat)
structure Bd where
  pays : List Rat
  plays : List (List Lot)
def wsum (f : Nat → Rat) : Lot → Rat
  | [] => 0
  | p :: L => (p.2 : Rat) * f p.1 + wsum f L
def wh : Lot → Nat
  | [] => 0
  | p :: L => p.2 + wh L
theorem wsum_one : ∀ L : Lot, wsum (fun _ => 1) L = (wh L : Rat)
  | [] => rfl
  | p :: L => by
    have := wsum_one L
    show (p.2 : Rat) * 1 + wsum (fun _ => 1) L = ((p.2 + wh L : Nat) : Rat)
    rw [this, Rat.natCast_add]; grind
theorem wsum_const (c : Rat) : ∀ L : Lot, wsum (fun _ => c) L = (wh L : Rat) * c
  | [] => by show (0 : Rat) = ((0 : Nat) : Rat) * c; grind
  | p :: L => by
    have := wsum_const c L
    show (p.2 : Rat) * c + wsum (fun _ => c) L = ((p.2 + wh L : Nat) : Rat) * c
    rw [this, Rat.natCast_add]; grind
theorem wsum_le {f g : Nat → Rat} : ∀ {L : Lot}, (∀ p ∈ L, f p.1 ≤ g p.1) → wsum f L ≤ wsum g L
  | [], _ => Rat.le_refl
  | p :: L, h => by
    have h1 := h p List.mem_cons_self
    have h2 := wsum_le (f := f) (g := g) (L := L) fun q hq => h q (List.mem_cons_of_mem _ hq)
    have h3 : (0 : Rat) ≤ (p.2 : Rat) := Rat.natCast_nonneg
    have h4 : (p.2 : Rat) * f p.1 ≤ (p.2 : Rat) * g p.1 := Rat.mul_le_mul_of_nonneg_left h1 h3
    show (p.2 : Rat) * f p.1 + wsum f L ≤ (p.2 : Rat) * g p.1 + wsum g L
    grind
theorem wsum_congr {f g : Nat → Rat} : ∀ {L : Lot}, (∀ p ∈ L, f p.1 = g p.1) → wsum f L = wsum g L
  | [], _ => rfl
  | p :: L, h => by
    show (p.2 : Rat) * f p.1 + wsum f L = (p.2 : Rat) * g p.1 + wsum g L
    rw [h p List.mem_cons_self, wsum_congr (fun q hq => h q (List.mem_cons_of_mem _ hq))]
theorem wsum_sub (f g : Nat → Rat) : ∀ L : Lot, wsum (fun x => f x - g x) L = wsum f L - wsum g L
  | [] => by show (0 : Rat) = 0 - 0; grind
  | p :: L => by
    have := wsum_sub f g L
    show (p.2 : Rat) * (f p.1 - g p.1) + wsum (fun x => f x - g x) L = ((p.2 : Rat) * f p.1 + wsum f L) - ((p.2 : Rat) * g p.1 + wsum g L)
    rw [this]; grind
theorem wsum_mul (c : Rat) (f : Nat → Rat) : ∀ L : Lot, wsum (fun x => c * f x) L = c * wsum f L
  | [] => by show (0 : Rat) = c * 0; grind
  | p :: L => by
    have := wsum_mul c f L
    show (p.2 : Rat) * (c * f p.1) + wsum (fun x => c * f x) L = c * ((p.2 : Rat) * f p.1 + wsum f L)
    rw [this]; grind
theorem wsum_add (f g : Nat → Rat) : ∀ L : Lot, wsum (fun x => f x + g x) L = wsum f L + wsum g L
  | [] => by show (0 : Rat) = 0 + 0; grind
  | p :: L => by
    have := wsum_add f g L
    show (p.2 : Rat) * (f p.1 + g p.1) + wsum (fun x => f x + g x) L = ((p.2 : Rat) * f p.1 + wsum f L) + ((p.2 : Rat) * g p.1 + wsum g L)
    rw [this]; grind
theorem wsum_zero {f : Nat → Rat} {L : Lot} (h : ∀ p ∈ L, f p.1 = 0) : wsum f L = 0 := by
  rw [wsum_congr (g := fun _ => 0) h, wsum_const]; grind
theorem wsum_neg (f : Nat → Rat) (L : Lot) : wsum (fun x => - f x) L = - wsum f L := by
  have := wsum_mul (-1) f L
  rw [wsum_congr (g := fun x => -1 * f x) (fun p _ => by grind), this]; grind
theorem wsum_top {f : Nat → Rat} {M : Rat} : ∀ {L : Lot}, (∀ p ∈ L, 0 < p.2) → (∀ p ∈ L, f p.1 ≤ M) → (wh L : Rat) * M ≤ wsum f L → ∀ p ∈ L, f p.1 = M
  | [], _, _, _, p, hp => by cases hp
  | q :: L, h0, h1, h2, p, hp => by
    have a1 := h1 q List.mem_cons_self
    have a0 : (0 : Rat) < (q.2 : Rat) := Rat.natCast_pos.mpr (h0 q List.mem_cons_self)
    have b1 : wsum f L ≤ (wh L : Rat) * M := by
      rw [← wsum_const]
      exact wsum_le fun r hr => h1 r (List.mem_cons_of_mem _ hr)
    have h3 : ((q.2 + wh L : Nat) : Rat) * M ≤ (q.2 : Rat) * f q.1 + wsum f L := h2
    rw [Rat.natCast_add] at h3
    have c1 : (q.2 : Rat) * M ≤ (q.2 : Rat) * f q.1 := by grind
    have c2 : M ≤ f q.1 := Rat.le_of_mul_le_mul_left c1 a0
    rcases List.mem_cons.mp hp with e | hp
    · rw [e]; exact Rat.le_antisymm a1 c2
    · refine wsum_top (fun r hr => h0 r (List.mem_cons_of_mem _ hr)) (fun r hr => h1 r (List.mem_cons_of_mem _ hr)) ?_ p hp
      have : (q.2 : Rat) * f q.1 ≤ (q.2 : Rat) * M := Rat.mul_le_mul_of_nonneg_left a1 (Rat.le_of_lt a0)
      grind
inductive Exits (L : Nat → Lot) (K : Nat → Prop) : Nat → Prop where
  | out {x : Nat} {p : Nat × Nat} : p ∈ L x → ¬ K p.1 → Exits L K x
  | step {x : Nat} {p : Nat × Nat} : p ∈ L x → K p.1 → Exits L K p.1 → Exits L K x
theorem argmax (f : Nat → Rat) : ∀ N, 0 < N → ∃ m, m < N ∧ ∀ y, y < N → f y ≤ f m
  | 0, h => absurd h (Nat.lt_irrefl _)
  | 1, _ => ⟨0, by omega, fun y hy => by have : y = 0 := by omega
                                         subst this; exact Rat.le_refl⟩
  | N + 2, _ => by
    obtain ⟨m, hm, h⟩ := argmax f (N + 1) (by omega)
    rcases Rat.le_total (a := f m) (b := f (N + 1)) with z | z
    · refine ⟨N + 1, by omega, fun y hy => ?_⟩
      by_cases e : y = N + 1
      · rw [e]; exact Rat.le_refl
      · exact Rat.le_trans (h y (by omega)) z
    · refine ⟨m, by omega, fun y hy => ?_⟩
      by_cases e : y = N + 1
      · rw [e]; exact z
      · exact h y (by omega)
theorem maxP {N : Nat} {L : Nat → Lot} {K : Nat → Prop} {f : Nat → Rat} (hK : ∀ x, K x → x < N) (hw : ∀ x, K x → ∀ p ∈ L x, 0 < p.2)
    (hs : ∀ x, K x → (wh (L x) : Rat) * f x ≤ wsum f (L x)) (ho : ∀ y, ¬ K y → f y ≤ 0) (he : ∀ x, K x → Exits L K x) : ∀ x, f x ≤ 0 := by
  intro x
  apply Classical.byContradiction
  intro hx
  have hx' : 0 < f x := Rat.not_le.mp hx
  have kx : K x := Classical.byContradiction fun nk => absurd (ho x nk) hx
  obtain ⟨m, hm, top⟩ := argmax f N (by have := hK x kx; omega)
  have hM : 0 < f m := rlt_of_lt_of_le hx' (top x (hK x kx))
  have all : ∀ y, f y ≤ f m := fun y => by
    by_cases ky : K y
    · exact top y (hK y ky)
    · exact Rat.le_trans (ho y ky) (Rat.le_of_lt hM)
  have km : K m := Classical.byContradiction fun nk => absurd (ho m nk) (Rat.not_le.mpr hM)
  have key : ∀ y, Exits L K y → K y → f y = f m → False := by
    intro y hy
    induction hy with
    | @out y p hp hn =>
      intro ky e
      have h1 := wsum_top (hw y ky) (fun q _ => all q.1) (by rw [← e]; exact hs y ky) p hp
      have h2 := ho p.1 hn
      rw [h1] at h2
      exact absurd h2 (Rat.not_le.mpr hM)
    | @step y p hp hk _ ih =>
      intro ky e
      exact ih hk (wsum_top (hw y ky) (fun q _ => all q.1) (by rw [← e]; exact hs y ky) p hp)
  exact key m (he m km) km rfl

def Bd.size (b : Bd) : Nat := b.pays.length
def Bd.pay (b : Bd) (x : Nat) : Rat := b.pays.getD x 0
def Bd.row (b : Bd) (x : Nat) : List Lot := b.plays.getD x []
def ch (way : List Int) (x : Nat) : Int := way.getD x (-1)
def Bd.lot (b : Bd) (way : List Int) (x : Nat) : Lot := (b.row x).getD (ch way x).toNat []
structure LotOk (n : Nat) (L : Lot) : Prop where
  ne : L ≠ []
  len : L.length ≤ 3
  asc : (L.map (·.1)).Pairwise (· < ·)
  lt : ∀ p ∈ L, p.1 < n
  pos : ∀ p ∈ L, 0 < p.2
  whole : wh L ≤ 27
structure GB (b : Bd) : Prop where
  len : b.plays.length = b.pays.length
  size : b.size ≤ 10
  one : 1 ≤ b.size
  pays : ∀ q ∈ b.pays, q = 0 ∨ q = 1
  rows : ∀ r ∈ b.plays, r.length ≤ 12
  lots : ∀ r ∈ b.plays, ∀ L ∈ r, LotOk b.size L
structure WayOk (b : Bd) (way : List Int) : Prop where
  len : way.length = b.size
  rng : ∀ x, x < b.size → -1 ≤ ch way x ∧ ch way x < ((b.row x).length : Int)
inductive Live (b : Bd) (way : List Int) : Nat → Prop where
  | stop {x : Nat} : x < b.size → ch way x = -1 → Live b way x
  | step {x : Nat} {p : Nat × Nat} : x < b.size → ch way x ≠ -1 → p ∈ b.lot way x → Live b way p.1 → Live b way x
section
variable {b : Bd} {way : List Int}
theorem GB.pay01 (g : GB b) (x : Nat) : b.pay x = 0 ∨ b.pay x = 1 := by
  unfold Bd.pay
  by_cases h : x < b.pays.length
  · rw [List.getD_eq_getElem?_getD, List.getElem?_eq_getElem h]
    exact g.pays _ (List.getElem_mem h)
  · rw [List.getD_eq_getElem?_getD, List.getElem?_eq_none (by omega)]
    exact .inl rfl
theorem GB.pay0 (g : GB b) (x : Nat) : 0 ≤ b.pay x := by
  rcases g.pay01 x with h | h <;> rw [h] <;> decide
theorem GB.row_mem (g : GB b) {x : Nat} {L : Lot} (h : L ∈ b.row x) : LotOk b.size L := by
  unfold Bd.row at h
  by_cases hx : x < b.plays.length
  · rw [List.getD_eq_getElem?_getD, List.getElem?_eq_getElem hx] at h
    exact g.lots _ (List.getElem_mem hx) L h
  · rw [List.getD_eq_getElem?_getD, List.getElem?_eq_none (by omega)] at h
    cases h
theorem WayOk.lot_mem (w : WayOk b way) {x : Nat} (hx : x < b.size) (h : ch way x ≠ -1) : b.lot way x ∈ b.row x := by
  obtain ⟨h1, h2⟩ := w.rng x hx
  have h3 : (ch way x).toNat < (b.row x).length := by omega
  unfold Bd.lot
  rw [List.getD_eq_getElem?_getD, List.getElem?_eq_getElem h3]
  exact List.getElem_mem h3
theorem LotOk.wh_pos {n : Nat} {L : Lot} (h : LotOk n L) : 0 < wh L := by
  cases L with
  | nil => exact absurd rfl h.ne
  | cons p L =>
    have := h.pos p List.mem_cons_self
    show 0 < p.2 + wh L
    omega
theorem Live.lt (h : Live b way x) : x < b.size := by cases h <;> assumption
structure IsVal (b : Bd) (way : List Int) (f : Nat → Rat) : Prop where
  stop : ∀ x, x < b.size → ch way x = -1 → f x = b.pay x
  live : ∀ x, ch way x ≠ -1 → Live b way x → (wh (b.lot way x) : Rat) * f x = wsum f (b.lot way x)
  dead : ∀ x, ¬ Live b way x → f x = 0
structure Cover (b : Bd) (g : Nat → Rat) : Prop where
  pay : ∀ x, x < b.size → b.pay x ≤ g x
  play : ∀ x, x < b.size → ∀ L ∈ b.row x, wsum g L ≤ (wh L : Rat) * g x
def InnerP (b : Bd) (way : List Int) (x : Nat) : Prop := Live b way x ∧ ch way x ≠ -1
theorem inner_exits {x : Nat} {K : Nat → Prop} (hK : ∀ x, K x → ch way x ≠ -1) (h : Live b way x) : K x → Exits (b.lot way) K x := by
  induction h with
  | stop _ h1 => intro k; exact absurd h1 (hK _ k)
  | @step x p _ h1 hp _ ih =>
    intro _
    by_cases k : K p.1
    · exact .step hp k (ih k)
    · exact .out hp k
theorem lotpos (g : GB b) (w : WayOk b way) {x : Nat} (h : InnerP b way x) : ∀ p ∈ b.lot way x, 0 < p.2 := (g.row_mem (w.lot_mem h.1.lt h.2)).pos
theorem val_le (g : GB b) (w : WayOk b way) {f u : Nat → Rat} (hf : IsVal b way f) (h0 : ∀ x, 0 ≤ u x) (hp : ∀ x, x < b.size → ch way x = -1 → b.pay x ≤ u x)
    (hl : ∀ x, InnerP b way x → wsum u (b.lot way x) ≤ (wh (b.lot way x) : Rat) * u x) (x : Nat) : f x ≤ u x := by
  have := maxP (N := b.size) (L := b.lot way) (K := InnerP b way) (f := fun x => f x - u x) (fun x h => h.1.lt) (fun x h => lotpos g w h) (fun x h => ?_) (fun y h => ?_) (fun x h => inner_exits (K := InnerP b way) (fun x h => h.2) h.1 h) x
  · have h2 : f x - u x ≤ 0 := this
    grind
  · have h1 := hf.live x h.2 h.1
    have h2 := hl x h
    rw [wsum_sub]; grind
  · show f y - u y ≤ 0
    by_cases hy : Live b way y
    · have hc : ch way y = -1 := Classical.byContradiction fun n => h ⟨hy, n⟩
      have h1 := hf.stop y hy.lt hc
      have h2 := hp y hy.lt hc
      grind
    · have h1 := hf.dead y hy
      have h2 := h0 y
      grind
theorem val_nonneg (g : GB b) (w : WayOk b way) {f : Nat → Rat} (hf : IsVal b way f) (x : Nat) : 0 ≤ f x := by
  have := maxP (N := b.size) (L := b.lot way) (K := InnerP b way) (f := fun x => - f x) (fun x h => h.1.lt) (fun x h => lotpos g w h) (fun x h => ?_) (fun y h => ?_) (fun x h => inner_exits (K := InnerP b way) (fun x h => h.2) h.1 h) x
  · have h2 : - f x ≤ 0 := this
    grind
  · have h1 := hf.live x h.2 h.1
    rw [wsum_neg]; grind
  · show - f y ≤ 0
    by_cases hy : Live b way y
    · have hc : ch way y = -1 := Classical.byContradiction fun n => h ⟨hy, n⟩
      have h1 := hf.stop y hy.lt hc
      have h2 := g.pay0 y
      grind
    · have h1 := hf.dead y hy
      grind
theorem Cover.le (g : GB b) (w : WayOk b way) {f u : Nat → Rat} (hf : IsVal b way f) (c : Cover b u) {x : Nat} (hx : x < b.size) : f x ≤ u x := by
  have := val_le g w (u := fun y => if y < b.size then u y else 0) hf (fun y => ?_) (fun y hy _ => ?_) (fun y hy => ?_) x
  · simpa [hx] using this
  · show 0 ≤ if y < b.size then u y else 0
    split
    · rename_i hy
      exact Rat.le_trans (g.pay0 y) (c.pay y hy)
    · exact Rat.le_refl
  · simpa [hy] using c.pay y hy
  · have hm := w.lot_mem hy.1.lt hy.2
    have h1 := c.play y hy.1.lt _ hm
    rw [wsum_congr (g := u) (fun p hp => by simp [(g.row_mem hm).lt p hp])]
    simpa [hy.1.lt] using h1
theorem val_unique (g : GB b) (w : WayOk b way) {f u : Nat → Rat} (hf : IsVal b way f) (hu : IsVal b way u) (x : Nat) : f x = u x := by
  refine Rat.le_antisymm (val_le g w hf (fun x => val_nonneg g w hu x) (fun x hx h => by rw [hu.stop x hx h]; exact Rat.le_refl) (fun x h => by rw [hu.live x h.2 h.1]; exact Rat.le_refl) x) ?_
  exact val_le g w hu (fun x => val_nonneg g w hf x) (fun x hx h => by rw [hf.stop x hx h]; exact Rat.le_refl) (fun x h => by rw [hf.live x h.2 h.1]; exact Rat.le_refl) x
theorem dead_out {x : Nat} (hx : x < b.size) (h : ¬ Live b way x) {p : Nat × Nat} (hp : p ∈ b.lot way x) : ¬ Live b way p.1 := fun h2 => by
  by_cases hc : ch way x = -1
  · exact h (.stop hx hc)
  · exact h (.step hx hc hp h2)
theorem dead_ch {x : Nat} (hx : x < b.size) (h : ¬ Live b way x) : ch way x ≠ -1 := fun hc => h (.stop hx hc)
theorem val_own {f : Nat → Rat} (hf : IsVal b way f) {x : Nat} (hx : x < b.size) (hc : ch way x ≠ -1) : wsum f (b.lot way x) = (wh (b.lot way x) : Rat) * f x := by
  by_cases h : Live b way x
  · exact (hf.live x hc h).symm
  · rw [hf.dead x h, wsum_zero fun p hp => hf.dead _ (dead_out hx h hp)]; grind
def Above (b : Bd) (f : Nat → Rat) (x : Nat) (c : Int) : Prop := (c = -1 ∧ f x < b.pay x) ∨ (c ≠ -1 ∧ (wh ((b.row x).getD c.toNat []) : Rat) * f x < wsum f ((b.row x).getD c.toNat []))
def Imp (b : Bd) (f : Nat → Rat) (way way' : List Int) : Prop := ∀ x, x < b.size → ch way' x = ch way x ∨ Above b f x (ch way' x)
open Classical in
theorem imp_le (g : GB b) {way' : List Int} (w : WayOk b way) (w' : WayOk b way') {f f' : Nat → Rat} (hf : IsVal b way f) (hf' : IsVal b way' f') (hi : Imp b f way way') (x : Nat) : f x ≤ f' x := by
  -- at each place that plays on
  have sub : ∀ x, x < b.size → ch way' x ≠ -1 → (wh (b.lot way' x) : Rat) * f x ≤ wsum f (b.lot way' x) := fun x hx hc => by
    rcases hi x hx with e | h
    · have e2 : b.lot way' x = b.lot way x := by unfold Bd.lot; rw [e]
      rw [e2, val_own hf hx (by rw [← e]; exact hc)]; exact Rat.le_refl
    · rcases h with ⟨h, _⟩ | ⟨_, h⟩
      · exact absurd h hc
      · exact Rat.le_of_lt h
  have stp : ∀ x, x < b.size → ch way' x = -1 → f x ≤ b.pay x := fun x hx hc => by
    rcases hi x hx with e | h
    · rw [hf.stop x hx (by rw [← e]; exact hc)]; exact Rat.le_refl
    · rcases h with ⟨_, h⟩ | ⟨h, _⟩
      · exact Rat.le_of_lt h
      · exact absurd hc h
  -- the dead places of the new way
  have ded : ∀ x, ¬ Live b way' x → f x ≤ 0 := by
    intro x hx
    by_cases hxs : x < b.size
    · apply Classical.byContradiction
      intro hn
      have hpos : 0 < f x := Rat.not_le.mp hn
      let u : Nat → Rat := fun y => if y < b.size ∧ ¬ Live b way' y then f y else 0
      obtain ⟨m, hm, top⟩ := argmax u b.size (by omega)
      have hum : 0 < u m := rlt_of_lt_of_le (by show 0 < u x; simp only [u]; rw [if_pos ⟨hxs, hx⟩]; exact hpos) (top x hxs)
      have hmd : m < b.size ∧ ¬ Live b way' m := Classical.byContradiction fun n => by
        have : u m = 0 := by simp only [u]; rw [if_neg n]
        rw [this] at hum; exact absurd hum (Rat.lt_irrefl)
      have hM : u m = f m := by simp only [u]; rw [if_pos hmd]
      -- the old way is dead there, too
      have closed : ∀ y, y < b.size → ¬ Live b way' y → f y = f m → (ch way y = ch way' y) ∧ ∀ p ∈ b.lot way' y, p.1 < b.size ∧ ¬ Live b way' p.1 ∧ f p.1 = f m := by
        intro y hy hyd e
        have hc := dead_ch hy hyd
        have hL := g.row_mem (w'.lot_mem hy hc)
        have le : ∀ p ∈ b.lot way' y, f p.1 ≤ f m := fun p hp => by
          have h1 := top p.1 (hL.lt p hp)
          have h2 : u p.1 = f p.1 := by simp only [u]; rw [if_pos ⟨hL.lt p hp, dead_out hy hyd hp⟩]
          rw [h2, hM] at h1; exact h1
        have eqs := wsum_top hL.pos le (by rw [← e]; exact sub y hy hc)
        refine ⟨?_, fun p hp => ⟨hL.lt p hp, dead_out hy hyd hp, eqs p hp⟩⟩
        rcases hi y hy with e2 | h
        · exact e2.symm
        · rcases h with ⟨h, _⟩ | ⟨_, h⟩
          · exact absurd h hc
          · have : wsum f (b.lot way' y) = (wh (b.lot way' y) : Rat) * f y := by
              rw [wsum_congr (g := fun _ => f m) eqs, wsum_const, e]
            have h3 : (wh (b.lot way' y) : Rat) * f y < wsum f (b.lot way' y) := h
            rw [this] at h3; exact absurd h3 (Rat.lt_irrefl)
      have dm : ∀ y, Live b way y → y < b.size → ¬ Live b way' y → f y = f m → False := by
        intro y hy
        induction hy with
        | @stop y _ h1 =>
          intro a1 a2 a3
          obtain ⟨c1, _⟩ := closed y a1 a2 a3
          exact dead_ch a1 a2 (by rw [← c1]; exact h1)
        | @step y p _ h1 hp _ ih =>
          intro a1 a2 a3
          obtain ⟨c1, c2⟩ := closed y a1 a2 a3
          have e2 : b.lot way' y = b.lot way y := by unfold Bd.lot; rw [c1]
          obtain ⟨d1, d2, d3⟩ := c2 p (by rw [e2]; exact hp)
          exact ih d1 d2 d3
      by_cases hl : Live b way m
      · exact dm m hl hmd.1 hmd.2 rfl
      · rw [hM, hf.dead m hl] at hum; exact absurd hum (Rat.lt_irrefl)
    · rw [hf.dead x fun h => hxs h.lt]; exact Rat.le_refl
  have := maxP (N := b.size) (L := b.lot way') (K := InnerP b way') (f := fun x => f x - f' x) (fun x h => h.1.lt) (fun x h => lotpos g w' h) (fun x h => ?_) (fun y h => ?_) (fun x h => inner_exits (K := InnerP b way') (fun x h => h.2) h.1 h) x
  · have h2 : f x - f' x ≤ 0 := this
    grind
  · have h1 := hf'.live x h.2 h.1
    have h2 := sub x h.1.lt h.2
    rw [wsum_sub]; grind
  · show f y - f' y ≤ 0
    by_cases hy : Live b way' y
    · have hc : ch way' y = -1 := Classical.byContradiction fun n => h ⟨hy, n⟩
      have h1 := hf'.stop y hy.lt hc
      have h2 := stp y hy.lt hc
      grind
    · have h1 := hf'.dead y hy
      have h2 := ded y hy
      grind
theorem imp_lt (g : GB b) {way' : List Int} (w : WayOk b way) (w' : WayOk b way') {f f' : Nat → Rat} (hf : IsVal b way f) (hf' : IsVal b way' f') (hi : Imp b f way way') {x : Nat} (hx : x < b.size) (ha : Above b f x (ch way' x)) : f x < f' x := by
  rcases ha with ⟨h1, h2⟩ | ⟨h1, h2⟩
  · rw [hf'.stop x hx h1]; exact h2
  · have h3 : (wh (b.lot way' x) : Rat) * f x < wsum f (b.lot way' x) := h2
    have h4 := val_own hf' hx h1
    have h5 : wsum f (b.lot way' x) ≤ wsum f' (b.lot way' x) := wsum_le fun p _ => imp_le g w w' hf hf' hi p.1
    have hL := g.row_mem (w'.lot_mem hx h1)
    have h6 : (0 : Rat) < (wh (b.lot way' x) : Rat) := Rat.natCast_pos.mpr hL.wh_pos
    rw [h4] at h5
    exact Rat.lt_of_mul_lt_mul_left (rlt_of_lt_of_le h3 h5) (Rat.le_of_lt h6)
theorem cover_of (g : GB b) {f : Nat → Rat} (h : ∀ x, x < b.size → f x ≥ b.pay x ∧ ∀ L ∈ b.row x, wsum f L ≤ (wh L : Rat) * f x) : Cover b f := ⟨fun x hx => (h x hx).1, fun x hx => (h x hx).2⟩
end
end SM
end
section
namespace SM
open Classical
theorem divInt_num {n d : Int} (h : 0 < d) : (Rat.divInt n d).num = n / ((n.natAbs.gcd d.natAbs : Nat) : Int) := by
  rw [Rat.num_divInt, Int.sign_eq_one_of_pos h, Int.one_mul, Int.gcd_comm]; rfl
theorem divInt_den {n d : Int} (h : 0 < d) : ((Rat.divInt n d).den : Int) = d / ((n.natAbs.gcd d.natAbs : Nat) : Int) := by
  rw [Rat.den_divInt, if_neg (by omega), Int.gcd_comm]
  show ((d.natAbs / n.natAbs.gcd d.natAbs : Nat) : Int) = _
  rw [Int.natCast_ediv, Int.natAbs_of_nonneg (by omega)]
theorem divInt_num_le {n d : Int} (h : 0 < d) : (Rat.divInt n d).num.natAbs ≤ n.natAbs := by
  rw [divInt_num h]; exact Int.natAbs_ediv_le_natAbs _ _
theorem divInt_den_le {n d : Int} (h : 0 < d) : (Rat.divInt n d).den ≤ d.natAbs := by
  have h1 := divInt_den (n := n) h
  have h2 := Int.natAbs_ediv_le_natAbs d ((n.natAbs.gcd d.natAbs : Nat) : Int)
  rw [← h1] at h2
  simpa using h2
def wz (u : Nat → Int) : Lot → Int
  | [] => 0
  | p :: L => (p.2 : Int) * u p.1 + wz u L
theorem wsum_wz (u : Nat → Int) : ∀ L : Lot, wsum (fun y => (u y : Rat)) L = (wz u L : Rat)
  | [] => rfl
  | p :: L => by
    show (p.2 : Rat) * (u p.1 : Rat) + wsum (fun y => (u y : Rat)) L = (((p.2 : Int) * u p.1 + wz u L : Int) : Rat)
    rw [wsum_wz u L, Rat.intCast_add, Rat.intCast_mul]; rfl
def wto : Lot → Nat → Nat
  | [], _ => 0
  | p :: L, t => if p.1 = t then p.2 else wto L t
theorem wto_none : ∀ {L : Lot} {t : Nat}, (∀ p ∈ L, p.1 ≠ t) → wto L t = 0
  | [], _, _ => rfl
  | p :: L, t, h => by
    show (if p.1 = t then p.2 else wto L t) = 0
    rw [if_neg (h p List.mem_cons_self)]; exact wto_none fun q hq => h q (List.mem_cons_of_mem _ hq)
theorem wto_le : ∀ (L : Lot) (t : Nat), wto L t ≤ wh L
  | [], _ => Nat.le_refl _
  | p :: L, t => by
    have := wto_le L t
    show (if p.1 = t then p.2 else wto L t) ≤ p.2 + wh L
    split <;> omega
def layAt (xs : Nat → Nat) (z : Nat → Int) (n : Nat) (y : Nat) : Int := S n fun l => if xs l = y then z l else 0
theorem wz_lay (xs : Nat → Nat) (z : Nat → Int) (n : Nat) : ∀ L : Lot, (L.map (·.1)).Pairwise (· < ·) → S n (fun l => z l * (wto L (xs l) : Int)) = wz (layAt xs z n) L
  | [], _ => by
    show S n (fun l => z l * ((0 : Nat) : Int)) = 0
    exact S_zero fun i _ => by simp
  | p :: L, h => by
    rw [List.map_cons, List.pairwise_cons] at h
    have ih := wz_lay xs z n L h.2
    show _ = (p.2 : Int) * layAt xs z n p.1 + wz (layAt xs z n) L
    rw [← ih]; unfold layAt
    rw [← S_mul, ← S_add]
    refine S_congr fun l _ => ?_
    by_cases e : xs l = p.1
    · have h0 : wto L (xs l) = 0 := wto_none fun q hq => by
        have := h.1 q.1 (List.mem_map_of_mem hq)
        omega
      have h1 : wto (p :: L) (xs l) = p.2 := by
        show (if p.1 = xs l then p.2 else wto L (xs l)) = p.2
        rw [if_pos e.symm]
      rw [h0, h1, if_pos e]; simp [Int.mul_comm]
    · have h1 : wto (p :: L) (xs l) = wto L (xs l) := by
        show (if p.1 = xs l then p.2 else wto L (xs l)) = _
        rw [if_neg (fun z => e z.symm)]
      rw [h1, if_neg e]; simp
theorem layAt_at {xs : Nat → Nat} {n : Nat} (inj : ∀ i j, i < n → j < n → xs i = xs j → i = j) (z : Nat → Int) {i : Nat} (hi : i < n) : layAt xs z n (xs i) = z i := by
  unfold layAt
  rw [S_one hi fun j hj hne => if_neg fun e => hne (inj j i hj hi e), if_pos rfl]
theorem layAt_none {xs : Nat → Nat} {n : Nat} (z : Nat → Int) {y : Nat} (h : ∀ i, i < n → xs i ≠ y) : layAt xs z n y = 0 := by
  unfold layAt
  exact S_zero fun i hi => if_neg (h i hi)
noncomputable def inner (b : Bd) (way : List Int) : List Nat := (List.range b.size).filter fun x => decide (InnerP b way x)
noncomputable def xs (b : Bd) (way : List Int) (i : Nat) : Nat := (inner b way).getD i 0
def stopZ (b : Bd) (way : List Int) : Lot → Int
  | [] => 0
  | p :: L => (if ch way p.1 = -1 then (p.2 : Int) * (b.pay p.1).num else 0) + stopZ b way L
noncomputable def col (b : Bd) (way : List Int) (j : Nat) : Vec := fun r =>
  if j < (inner b way).length then ((if xs b way j = xs b way r then (wh (b.lot way (xs b way r)) : Int) else 0) - (wto (b.lot way (xs b way r)) (xs b way j) : Int))
  else stopZ b way (b.lot way (xs b way r))
noncomputable def nI (b : Bd) (way : List Int) : Nat := (inner b way).length
noncomputable def sol (b : Bd) (way : List Int) (i : Nat) : Rat := Rat.divInt (Tt (nI b way) (col b way) (nI b way) i (nI b way)) (Dk (nI b way) (col b way) (nI b way))
noncomputable def valF (b : Bd) (way : List Int) (x : Nat) : Rat :=
  if x < b.size ∧ ch way x = -1 then b.pay x else if InnerP b way x then sol b way ((inner b way).idxOf x) else 0
section
variable {b : Bd} {way : List Int}
theorem mem_inner {x : Nat} : x ∈ inner b way ↔ InnerP b way x := by
  unfold inner
  rw [List.mem_filter]
  constructor
  · intro h; exact of_decide_eq_true h.2
  · intro h; exact ⟨List.mem_range.mpr h.1.lt, decide_eq_true h⟩
theorem inner_nd : (inner b way).Nodup := List.nodup_range.sublist List.filter_sublist
theorem inner_asc : (inner b way).Pairwise (· < ·) := List.pairwise_lt_range.sublist List.filter_sublist
theorem nI_le : nI b way ≤ b.size := by
  have := List.length_filter_le (fun x => decide (InnerP b way x)) (List.range b.size)
  rw [List.length_range] at this; exact this
theorem xs_get {i : Nat} (h : i < nI b way) : (inner b way)[i]? = some (xs b way i) := by
  have h2 : i < (inner b way).length := h
  unfold xs
  rw [List.getD_eq_getElem?_getD, List.getElem?_eq_getElem h2]; rfl
theorem xs_in {i : Nat} (h : i < nI b way) : InnerP b way (xs b way i) := mem_inner.mp (List.mem_of_getElem? (xs_get h))
theorem xs_inj : ∀ i j, i < nI b way → j < nI b way → xs b way i = xs b way j → i = j := fun i j hi hj e => by
  have a := xs_get hi
  have c := xs_get hj
  rw [e] at a
  have hi' : i < (inner b way).length := hi
  have hj' : j < (inner b way).length := hj
  rw [List.getElem?_eq_getElem hi'] at a
  rw [List.getElem?_eq_getElem hj'] at c
  exact (List.getElem_inj inner_nd).mp (Option.some.inj (a.trans c.symm))
theorem xs_idx {x : Nat} (h : InnerP b way x) : ∃ i, i < nI b way ∧ xs b way i = x ∧ (inner b way).idxOf x = i := by
  have hm := mem_inner.mpr h
  have hl := List.idxOf_lt_length_iff.mpr hm
  refine ⟨(inner b way).idxOf x, hl, ?_, rfl⟩
  have := xs_get (b := b) (way := way) hl
  rw [List.getElem?_eq_getElem hl, List.getElem_idxOf] at this
  exact (Option.some.inj this).symm
theorem xs_idx' {i : Nat} (h : i < nI b way) : (inner b way).idxOf (xs b way i) = i := by
  obtain ⟨j, hj, e1, e2⟩ := xs_idx (xs_in h)
  rw [e2]; exact xs_inj j i hj h e1
theorem valF_xs {i : Nat} (h : i < nI b way) : valF b way (xs b way i) = sol b way i := by
  unfold valF
  have h1 := xs_in h
  rw [if_neg (fun z => h1.2 z.2), if_pos h1, xs_idx' h]
theorem col_sum (g : GB b) (w : WayOk b way) (z : Nat → Int) {m r : Nat} (hm : m ≤ nI b way) (hr : r < m) :
    S m (fun l => z l * col b way l r) = (wh (b.lot way (xs b way r)) : Int) * z r - wz (layAt (xs b way) z m) (b.lot way (xs b way r)) := by
  have h1 := xs_in (b := b) (way := way) (show r < nI b way by omega)
  have hL := g.row_mem (w.lot_mem h1.1.lt h1.2)
  rw [← wz_lay _ _ _ _ hL.asc]
  have e : S m (fun l => z l * col b way l r) = S m (fun l => (if l = r then (wh (b.lot way (xs b way r)) : Int) * z r else 0) + (-1) * (z l * (wto (b.lot way (xs b way r)) (xs b way l) : Int))) := by
    refine S_congr fun l hl => ?_
    unfold col
    rw [if_pos (show l < (inner b way).length by unfold nI at hm; omega)]
    by_cases e : l = r
    · rw [e, if_pos rfl, if_pos rfl]; grind
    · rw [if_neg e, if_neg fun q => e (xs_inj l r (by omega) (by omega) q)]; grind
  rw [e, S_add, S_mul, S_one hr fun j _ hne => if_neg hne, if_pos rfl]; omega
theorem posM (g : GB b) (w : WayOk b way) : PosM (nI b way) (col b way) := by
  intro k hk z hz h0
  apply Classical.byContradiction
  intro hn
  have hle : ∀ r, r < k + 1 → (wh (b.lot way (xs b way r)) : Int) * z r ≤ wz (layAt (xs b way) z (k + 1)) (b.lot way (xs b way r)) := fun r hr => by
    have h1 := col_sum g w z (m := k + 1) (by omega) hr
    by_cases e : r < k
    · rw [h0 r e] at h1; omega
    · have e2 : r = k := by omega
      subst e2; omega
  have inj : ∀ i j, i < k + 1 → j < k + 1 → xs b way i = xs b way j → i = j := fun i j hi hj => xs_inj i j (by omega) (by omega)
  have := maxP (N := b.size) (L := b.lot way) (K := fun y => ∃ l, l < k + 1 ∧ xs b way l = y) (f := fun y => ((layAt (xs b way) z (k + 1) y : Int) : Rat))
    (fun x ⟨l, hl, e⟩ => by rw [← e]; exact (xs_in (by omega)).1.lt) (fun x ⟨l, hl, e⟩ => by rw [← e]; exact lotpos g w (xs_in (by omega))) (fun x ⟨l, hl, e⟩ => ?_) (fun y hy => ?_)
    (fun x ⟨l, hl, e⟩ => ?_) (xs b way k)
  · have h2 : ((layAt (xs b way) z (k + 1) (xs b way k) : Int) : Rat) ≤ 0 := this
    rw [layAt_at inj z (by omega)] at h2
    have h3 : (z k : Rat) ≤ ((0 : Int) : Rat) := h2
    have h4 := Rat.intCast_le_intCast.mp h3
    omega
  · rw [← e, wsum_wz, layAt_at inj z hl]
    have h1 := hle l hl
    have h2 : ((((wh (b.lot way (xs b way l)) : Nat) : Int) * z l : Int) : Rat) ≤ (wz (layAt (xs b way) z (k + 1)) (b.lot way (xs b way l)) : Rat) := Rat.intCast_le_intCast.mpr h1
    rw [Rat.intCast_mul] at h2
    exact h2
  · have : layAt (xs b way) z (k + 1) y = 0 := layAt_none z fun i hi e => hy ⟨i, hi, e⟩
    show ((layAt (xs b way) z (k + 1) y : Int) : Rat) ≤ 0
    rw [this]; exact Rat.le_refl
  · refine inner_exits (K := fun y => ∃ l, l < k + 1 ∧ xs b way l = y) (fun x ⟨l, hl, e⟩ => ?_) ?_ ⟨l, hl, e⟩
    · rw [← e]; exact (xs_in (by omega)).2
    · rw [← e]; exact (xs_in (by omega)).1
theorem dk_pos (g : GB b) (w : WayOk b way) {k : Nat} (hk : k ≤ nI b way) : 0 < Dk (nI b way) (col b way) k := Dk_pos (posM g w) k hk
theorem col_bound (g : GB b) (w : WayOk b way) (j : Nat) {r : Nat} (hr : r < nI b way) : (col b way j r).natAbs ≤ 27 := by
  have h1 := xs_in hr
  have hL := g.row_mem (w.lot_mem h1.1.lt h1.2)
  have h27 := hL.whole
  unfold col
  split
  · have := wto_le (b.lot way (xs b way r)) (xs b way j)
    split <;> omega
  · have key : ∀ L : Lot, 0 ≤ stopZ b way L ∧ stopZ b way L ≤ (wh L : Int) := by
      intro L
      induction L with
      | nil => exact ⟨Int.le_refl _, Int.le_refl _⟩
      | cons p L ih =>
        have hp : (b.pay p.1).num = 0 ∨ (b.pay p.1).num = 1 := by
          rcases g.pay01 p.1 with e | e <;> rw [e]
          · exact .inl rfl
          · exact .inr rfl
        show 0 ≤ (if ch way p.1 = -1 then (p.2 : Int) * (b.pay p.1).num else 0) + stopZ b way L ∧ (if ch way p.1 = -1 then (p.2 : Int) * (b.pay p.1).num else 0) + stopZ b way L ≤ ((p.2 + wh L : Nat) : Int)
        split
        · rcases hp with e | e <;> rw [e] <;> omega
        · omega
    have := key (b.lot way (xs b way r))
    omega
theorem nI_10 (g : GB b) : nI b way ≤ 10 := Nat.le_trans nI_le g.size
theorem dk_bound (g : GB b) (w : WayOk b way) (k : Nat) : (Dk (nI b way) (col b way) k).natAbs < 2 ^ 90 := by
  have h1 := Dk_bound (n := nI b way) (B := 27) (col := col b way) (by decide) (fun j _ i hi => col_bound g w j hi) k
  have h2 : (nI b way * 27) ^ nI b way ≤ (10 * 27) ^ 10 := Nat.le_trans (Nat.pow_le_pow_left (Nat.mul_le_mul_right 27 (nI_10 g)) _) (Nat.pow_le_pow_right (by decide) (nI_10 g))
  exact Nat.lt_of_le_of_lt (Nat.le_trans h1 h2) (by decide)
theorem tt_bound (g : GB b) (w : WayOk b way) (k i : Nat) {j : Nat} (hj : j ≤ nI b way) : (Tt (nI b way) (col b way) k i j).natAbs < 2 ^ 90 := by
  have h1 := Tt_bound (n := nI b way) (B := 27) (col := col b way) (by decide) (fun j _ i hi => col_bound g w j hi) k i hj
  have h2 : (nI b way * 27) ^ nI b way ≤ (10 * 27) ^ 10 := Nat.le_trans (Nat.pow_le_pow_left (Nat.mul_le_mul_right 27 (nI_10 g)) _) (Nat.pow_le_pow_right (by decide) (nI_10 g))
  exact Nat.lt_of_le_of_lt (Nat.le_trans h1 h2) (by decide)
def Sm (q : Rat) : Prop := q.num.natAbs < 2 ^ 90 ∧ q.den < 2 ^ 90
theorem sol_sm (g : GB b) (w : WayOk b way) (i : Nat) : Sm (sol b way i) := by
  have hd := dk_pos g w (Nat.le_refl _)
  exact ⟨Nat.lt_of_le_of_lt (divInt_num_le hd) (tt_bound g w _ i (Nat.le_refl _)), Nat.lt_of_le_of_lt (divInt_den_le hd) (dk_bound g w _)⟩
theorem valF_sm (g : GB b) (w : WayOk b way) (x : Nat) : Sm (valF b way x) := by
  unfold valF
  split
  · rcases g.pay01 x with e | e <;> rw [e] <;> exact ⟨by decide, by decide⟩
  · split
    · exact sol_sm g w _
    · exact ⟨by decide, by decide⟩
theorem wsum_val (g : GB b) (w : WayOk b way) : ∀ L : Lot, (∀ p ∈ L, p.1 < b.size) →
    (Dk (nI b way) (col b way) (nI b way) : Rat) * wsum (valF b way) L = ((wz (layAt (xs b way) (fun i => Tt (nI b way) (col b way) (nI b way) i (nI b way)) (nI b way)) L + Dk (nI b way) (col b way) (nI b way) * stopZ b way L : Int) : Rat)
  | [], _ => by show _ * (0 : Rat) = ((0 + _ * 0 : Int) : Rat); simp
  | p :: L, hlt => by
    have hd := dk_pos g w (Nat.le_refl (nI b way))
    have ih := wsum_val g w L fun q hq => hlt q (List.mem_cons_of_mem _ hq)
    generalize hD : Dk (nI b way) (col b way) (nI b way) = D at hd ih ⊢
    generalize hU : layAt (xs b way) (fun i => Tt (nI b way) (col b way) (nI b way) i (nI b way)) (nI b way) = U at ih ⊢
    have hD0 : (D : Rat) ≠ 0 := fun e => by
      have : D = 0 := Rat.intCast_inj.mp (show (D : Rat) = ((0 : Int) : Rat) from e)
      omega
    have key : (D : Rat) * valF b way p.1 = ((U p.1 + D * (if ch way p.1 = -1 then (b.pay p.1).num else 0) : Int) : Rat) := by
      by_cases hc : ch way p.1 = -1
      · have h0 : U p.1 = 0 := by
          rw [← hU]; exact layAt_none _ fun i hi e => (xs_in hi).2 (by rw [e]; exact hc)
        unfold valF
        rw [if_pos ⟨hlt p List.mem_cons_self, hc⟩, if_pos hc, h0, Int.zero_add, Rat.intCast_mul]
        congr 1
        rcases g.pay01 p.1 with e | e <;> rw [e] <;> rfl
      · rw [if_neg hc]
        by_cases hi : InnerP b way p.1
        · obtain ⟨i, hi1, hi2, hi3⟩ := xs_idx hi
          have e1 : U p.1 = Tt (nI b way) (col b way) (nI b way) i (nI b way) := by
            rw [← hU, ← hi2]; exact layAt_at xs_inj _ hi1
          rw [← hi2, valF_xs hi1]
          unfold sol
          rw [hD, hi2, e1, Rat.divInt_eq_div]
          simp only [Int.mul_zero, Int.add_zero]
          grind
        · have h0 : U p.1 = 0 := by
            rw [← hU]; exact layAt_none _ fun i hi' e => hi (by rw [← e]; exact xs_in hi')
          unfold valF
          rw [if_neg (fun z => hc z.2), if_neg hi, h0]; simp
    show (D : Rat) * ((p.2 : Rat) * valF b way p.1 + wsum (valF b way) L) = (((p.2 : Int) * U p.1 + wz U L + D * ((if ch way p.1 = -1 then (p.2 : Int) * (b.pay p.1).num else 0) + stopZ b way L) : Int) : Rat)
    have e2 : (((p.2 : Int) * U p.1 + wz U L + D * ((if ch way p.1 = -1 then (p.2 : Int) * (b.pay p.1).num else 0) + stopZ b way L) : Int)) = (p.2 : Int) * (U p.1 + D * (if ch way p.1 = -1 then (b.pay p.1).num else 0)) + (wz U L + D * stopZ b way L) := by
      split <;> grind
    rw [e2, Rat.intCast_add, ← ih, Rat.intCast_mul, ← key]
    show _ = (p.2 : Rat) * _ + _
    grind
theorem isVal (g : GB b) (w : WayOk b way) : IsVal b way (valF b way) where
  stop := fun x hx h => by unfold valF; rw [if_pos ⟨hx, h⟩]
  dead := fun x h => by
    unfold valF
    rw [if_neg (fun z => h (.stop z.1 z.2)), if_neg fun z => h z.1]
  live := fun x hc hl => by
    obtain ⟨r, hr, e, _⟩ := xs_idx (b := b) (way := way) ⟨hl, hc⟩
    subst e
    have hL := g.row_mem (w.lot_mem hl.lt hc)
    have h1 := wsum_val g w _ hL.lt
    have h2 := Tt_end hr (col b way) (nI b way)
    have hd := dk_pos g w (Nat.le_refl (nI b way))
    rw [col_sum g w _ (Nat.le_refl _) hr] at h2
    have h3 : col b way (nI b way) r = stopZ b way (b.lot way (xs b way r)) := by
      unfold col
      rw [if_neg (show ¬ nI b way < (inner b way).length from Nat.lt_irrefl _)]
    rw [h3] at h2
    rw [valF_xs hr]
    unfold sol
    generalize hT : Tt (nI b way) (col b way) (nI b way) r (nI b way) = T at h2 ⊢
    generalize hD : Dk (nI b way) (col b way) (nI b way) = D at h1 h2 hd ⊢
    have hD0 : (D : Rat) ≠ 0 := fun e => by
      have : D = 0 := Rat.intCast_inj.mp (show (D : Rat) = ((0 : Int) : Rat) from e)
      omega
    have h4 : (wz (layAt (xs b way) (fun i => Tt (nI b way) (col b way) (nI b way) i (nI b way)) (nI b way)) (b.lot way (xs b way r)) + D * stopZ b way (b.lot way (xs b way r)) : Int) = (wh (b.lot way (xs b way r)) : Int) * T := by
      grind
    rw [h4, Rat.intCast_mul] at h1
    rw [Rat.divInt_eq_div]
    have h5 : (D : Rat) * wsum (valF b way) (b.lot way (xs b way r)) = (wh (b.lot way (xs b way r)) : Rat) * (T : Rat) := h1
    grind
end
end SM
end
section
namespace SM
open Classical
def avg (f : Nat → Rat) (L : Lot) : Rat := wsum f L / (wh L : Rat)
def amts (b : Bd) (f : Nat → Rat) (x : Nat) : List Rat := b.pay x :: (b.row x).map (avg f)
def scan : List Rat → Int → Int × Rat → Int × Rat
  | [], _, s => s
  | a :: l, k, s => scan l (k + 1) (if s.2 < a then (k + -1, a) else s)
def better (b : Bd) (f : Nat → Rat) (x : Nat) (c : Int) : Int := (scan (amts b f x) 0 (c, f x)).1
def impr (b : Bd) (way : List Int) (f : Nat → Rat) : List Int := (List.range b.size).map fun x => better b f x (ch way x)
theorem scan_spec : ∀ (l : List Rat) (k : Int) (s : Int × Rat),
    s.2 ≤ (scan l k s).2 ∧ (∀ a ∈ l, a ≤ (scan l k s).2) ∧ (scan l k s = s ∨ ∃ (i : Nat) (a : Rat), l[i]? = some a ∧ (scan l k s).1 = k + (i : Int) + -1 ∧ (scan l k s).2 = a ∧ s.2 < a)
  | [], k, s => ⟨Rat.le_refl, fun a h => (nomatch h), Or.inl rfl⟩
  | a :: l, k, s => by
    have ih := scan_spec l (k + 1) (if s.2 < a then (k + -1, a) else s)
    show s.2 ≤ (scan l (k + 1) (if s.2 < a then (k + -1, a) else s)).2 ∧ _ ∧ _
    by_cases h : s.2 < a
    · rw [if_pos h] at ih ⊢
      obtain ⟨i1, i2, i3⟩ := ih
      have e : scan (a :: l) k s = scan l (k + 1) (k + -1, a) := by
        show scan l (k + 1) (if s.2 < a then (k + -1, a) else s) = _
        rw [if_pos h]
      rw [e]
      refine ⟨by grind, fun c hc => ?_, .inr ?_⟩
      · rcases List.mem_cons.mp hc with z | z
        · rw [z]; exact i1
        · exact i2 c z
      · rcases i3 with z | ⟨i, c, z1, z2, z3, z4⟩
        · exact ⟨0, a, rfl, by rw [z]; simp, by rw [z], h⟩
        · refine ⟨i + 1, c, by simpa using z1, ?_, z3, by grind⟩
          rw [z2]; push_cast; omega
    · rw [if_neg h] at ih ⊢
      obtain ⟨i1, i2, i3⟩ := ih
      have e : scan (a :: l) k s = scan l (k + 1) s := by
        show scan l (k + 1) (if s.2 < a then (k + -1, a) else s) = _
        rw [if_neg h]
      rw [e]
      refine ⟨i1, fun c hc => ?_, ?_⟩
      · rcases List.mem_cons.mp hc with z | z
        · rw [z]; grind
        · exact i2 c z
      · rcases i3 with z | ⟨i, c, z1, z2, z3, z4⟩
        · exact .inl z
        · refine .inr ⟨i + 1, c, by simpa using z1, ?_, z3, z4⟩
          rw [z2]; push_cast; omega
section
variable {b : Bd} {way : List Int} {f : Nat → Rat}
theorem lot_wh_pos (g : GB b) {x : Nat} {L : Lot} (h : L ∈ b.row x) : (0 : Rat) < (wh L : Rat) := Rat.natCast_pos.mpr (g.row_mem h).wh_pos
theorem avg_lt (g : GB b) {x : Nat} {L : Lot} (h : L ∈ b.row x) {m : Rat} (hm : m < avg f L) : (wh L : Rat) * m < wsum f L := by
  have h1 := lot_wh_pos g h
  unfold avg at hm
  have h2 := Rat.mul_lt_mul_of_pos_left hm h1
  have h3 : (wh L : Rat) * (wsum f L / (wh L : Rat)) = wsum f L := by
    have : (wh L : Rat) ≠ 0 := by grind
    grind
  rw [h3] at h2; exact h2
theorem avg_le (g : GB b) {x : Nat} {L : Lot} (h : L ∈ b.row x) {m : Rat} (hm : avg f L ≤ m) : wsum f L ≤ (wh L : Rat) * m := by
  have h1 := lot_wh_pos g h
  unfold avg at hm
  have h2 := Rat.mul_le_mul_of_nonneg_left hm (Rat.le_of_lt h1)
  have h3 : (wh L : Rat) * (wsum f L / (wh L : Rat)) = wsum f L := by
    have : (wh L : Rat) ≠ 0 := by grind
    grind
  rw [h3] at h2; exact h2
theorem better_spec (g : GB b) {x : Nat} (c : Int) : (better b f x c = c ∧ ∀ a ∈ amts b f x, a ≤ f x) ∨ (Above b f x (better b f x c) ∧ -1 ≤ better b f x c ∧ better b f x c < ((b.row x).length : Int)) := by
  obtain ⟨h1, h2, h3⟩ := scan_spec (amts b f x) 0 (c, f x)
  unfold better
  rcases h3 with e | ⟨i, a, e1, e2, e3, e4⟩
  · rw [e] at h2; exact .inl ⟨by rw [e], h2⟩
  · right
    rw [e2]
    cases i with
    | zero =>
      have e5 : b.pay x = a := by simpa [amts] using e1
      refine ⟨.inl ⟨by simp, by rw [e5]; exact e4⟩, by simp, by simp; omega⟩
    | succ i =>
      have e5 : ((b.row x).map (avg f))[i]? = some a := by simpa [amts] using e1
      rw [List.getElem?_map] at e5
      cases q : (b.row x)[i]? with
      | none => rw [q] at e5; cases e5
      | some L =>
        rw [q] at e5
        have e6 : avg f L = a := by simpa using e5
        have hi : i < (b.row x).length := (List.getElem?_eq_some_iff.mp q).1
        have e7 : (0 + ((i + 1 : Nat) : Int) + -1) = (i : Int) := by push_cast; omega
        rw [e7]
        refine ⟨.inr ⟨by omega, ?_⟩, by omega, by omega⟩
        have e8 : (b.row x).getD (i : Int).toNat [] = L := by
          rw [Int.toNat_natCast, List.getD_eq_getElem?_getD, q]; rfl
        rw [e8]
        exact avg_lt g (List.mem_of_getElem? q) (by rw [e6]; exact e4)
theorem ch_impr {x : Nat} (hx : x < b.size) : ch (impr b way f) x = better b f x (ch way x) := by
  unfold ch impr
  rw [List.getD_eq_getElem?_getD, List.getElem?_map, List.getElem?_range hx]; rfl
theorem impr_ok (g : GB b) (w : WayOk b way) : WayOk b (impr b way f) where
  len := by unfold impr; simp
  rng := fun x hx => by
    rw [ch_impr hx]
    rcases better_spec g (f := f) (x := x) (ch way x) with ⟨e, _⟩ | h
    · rw [e]; exact w.rng x hx
    · exact h.2
theorem impr_imp (g : GB b) : Imp b f way (impr b way f) := fun x hx => by
  rw [ch_impr hx]
  rcases better_spec g (f := f) (x := x) (ch way x) with ⟨e, _⟩ | h
  · exact .inl e
  · exact .inr h.1
theorem way_ext (w : WayOk b way) {v : List Int} (hv : v.length = b.size) (h : ∀ x, x < b.size → ch v x = ch way x) : v = way := by
  apply List.ext_getElem?
  intro i
  by_cases hi : i < b.size
  · have := h i hi
    unfold ch at this
    have l1 : i < v.length := by omega
    have l2 : i < way.length := by rw [w.len]; exact hi
    rw [List.getD_eq_getElem?_getD, List.getD_eq_getElem?_getD, List.getElem?_eq_getElem l1, List.getElem?_eq_getElem l2] at this
    rw [List.getElem?_eq_getElem l1, List.getElem?_eq_getElem l2]
    exact congrArg some this
  · rw [List.getElem?_eq_none (by omega), List.getElem?_eq_none (by rw [w.len]; omega)]
theorem above_ne (w : WayOk b way) (hf : IsVal b way f) {x : Nat} (hx : x < b.size) {c : Int} (h : Above b f x c) : c ≠ ch way x := by
  rintro rfl
  rcases h with ⟨h1, h2⟩ | ⟨h1, h2⟩
  · rw [hf.stop x hx h1] at h2; exact absurd h2 Rat.lt_irrefl
  · have h3 := val_own hf hx h1
    have h4 : (wh (b.lot way x) : Rat) * f x < wsum f (b.lot way x) := h2
    rw [h3] at h4; exact absurd h4 Rat.lt_irrefl
theorem fin_cover (g : GB b) (w : WayOk b way) (hf : IsVal b way f) (e : impr b way f = way) : Cover b f := by
  have key : ∀ x, x < b.size → ∀ a ∈ amts b f x, a ≤ f x := fun x hx => by
    rcases better_spec g (f := f) (x := x) (ch way x) with ⟨_, h⟩ | h
    · exact h
    · have h1 := above_ne w hf hx h.1
      rw [← ch_impr (way := way) (f := f) hx, e] at h1
      exact absurd rfl h1
  refine ⟨fun x hx => key x hx _ List.mem_cons_self, fun x hx L hL => avg_le g hL (key x hx _ ?_)⟩
  exact List.mem_cons_of_mem _ (List.mem_map_of_mem hL)
theorem impr_rise (g : GB b) (w : WayOk b way) (e : impr b way f ≠ way) : ∃ x, x < b.size ∧ Above b f x (ch (impr b way f) x) := by
  apply Classical.byContradiction
  intro hn
  refine e (way_ext w (impr_ok g w).len fun x hx => ?_)
  rcases impr_imp g (f := f) (way := way) x hx with h | h
  · exact h
  · exact absurd ⟨x, hx, h⟩ hn
def allWays : Nat → List (List Int)
  | 0 => [[]]
  | n + 1 => (allWays n).flatMap fun v => (List.range 14).map fun (k : Nat) => ((k : Int) - 1) :: v
theorem mem_allWays : ∀ (n : Nat) (v : List Int), v.length = n → (∀ c ∈ v, -1 ≤ c ∧ c < 13) → v ∈ allWays n
  | 0, [], _, _ => List.mem_singleton.mpr rfl
  | 0, _ :: _, h, _ => by simp at h
  | n + 1, [], h, _ => by simp at h
  | n + 1, c :: v, h, hc => by
    have ih := mem_allWays n v (by simpa using h) fun d hd => hc d (List.mem_cons_of_mem _ hd)
    have h1 := hc c List.mem_cons_self
    refine List.mem_flatMap.mpr ⟨v, ih, List.mem_map.mpr ⟨(c + 1).toNat, List.mem_range.mpr (by omega), ?_⟩⟩
    congr 1; omega
theorem GB.row_len (g : GB b) (x : Nat) : (b.row x).length ≤ 12 := by
  unfold Bd.row
  by_cases hx : x < b.plays.length
  · rw [List.getD_eq_getElem?_getD, List.getElem?_eq_getElem hx]
    exact g.rows _ (List.getElem_mem hx)
  · rw [List.getD_eq_getElem?_getD, List.getElem?_eq_none (by omega)]
    exact Nat.zero_le _
theorem way_mem (g : GB b) (w : WayOk b way) : way ∈ allWays b.size := by
  refine mem_allWays _ _ w.len fun c hc => ?_
  obtain ⟨i, hi, e⟩ := List.getElem_of_mem hc
  have h1 := w.rng i (by rw [← w.len]; exact hi)
  have h2 := g.row_len i
  have h3 : ch way i = c := by
    unfold ch
    rw [List.getD_eq_getElem?_getD, List.getElem?_eq_getElem hi, e]; rfl
  rw [h3] at h1; omega
noncomputable def moreWays (b : Bd) (f : Nat → Rat) : Nat := (allWays b.size).countP fun v => decide (WayOk b v ∧ (∀ x, f x ≤ valF b v x) ∧ ∃ x, f x < valF b v x)
theorem countP_lt {α : Type} {p q : α → Bool} : ∀ {l : List α}, (∀ x ∈ l, p x = true → q x = true) → ∀ {a : α}, a ∈ l → q a = true → p a = false → l.countP p < l.countP q
  | [], _, a, h, _, _ => by cases h
  | c :: l, hpq, a, h, hq, hp => by
    rw [List.countP_cons, List.countP_cons]
    have mono : l.countP p ≤ l.countP q := List.countP_mono_left fun x hx => hpq x (List.mem_cons_of_mem _ hx)
    rcases List.mem_cons.mp h with e | h
    · subst e
      rw [hq, hp]; simp; omega
    · have ih := countP_lt (fun x hx => hpq x (List.mem_cons_of_mem _ hx)) h hq hp
      have := hpq c List.mem_cons_self
      by_cases z : p c = true
      · rw [z, this z]; omega
      · simp only [Bool.not_eq_true] at z
        rw [z]; simp; omega
theorem more_lt (g : GB b) (w : WayOk b way) (hf : IsVal b way f) (e : impr b way f ≠ way) : moreWays b (valF b (impr b way f)) < moreWays b f := by
  have w' := impr_ok g w (f := f)
  have hv := isVal g w'
  have hi := impr_imp g (f := f) (way := way)
  have le : ∀ x, f x ≤ valF b (impr b way f) x := fun x => imp_le g w w' hf hv hi x
  obtain ⟨x, hx, ha⟩ := impr_rise g w e
  have lt := imp_lt g w w' hf hv hi hx ha
  unfold moreWays
  refine countP_lt (a := impr b way f) (fun v _ h => ?_) (way_mem g w') ?_ ?_
  · obtain ⟨h1, h2, y, h3⟩ := of_decide_eq_true h
    exact decide_eq_true ⟨h1, fun z => Rat.le_trans (le z) (h2 z), y, by have := le y; grind⟩
  · exact decide_eq_true ⟨w', le, x, lt⟩
  · refine decide_eq_false fun h => ?_
    obtain ⟨_, _, y, h3⟩ := h
    exact absurd h3 Rat.lt_irrefl
structure IsWorth (b : Bd) (f : Nat → Rat) : Prop where
  cover : Cover b f
  way : ∃ way, WayOk b way ∧ IsVal b way f
  sm : ∀ x, Sm (f x)
def stopWay (b : Bd) : List Int := List.replicate b.size (-1)
theorem ch_stop (x : Nat) : ch (stopWay b) x = -1 := by
  unfold ch stopWay
  rw [List.getD_eq_getElem?_getD, List.getElem?_replicate]
  split <;> rfl
theorem stop_ok : WayOk b (stopWay b) := ⟨by unfold stopWay; simp, fun x _ => by rw [ch_stop]; omega⟩
theorem pay_val : IsVal b (stopWay b) b.pay where
  stop := fun _ _ _ => rfl
  live := fun x h _ => absurd (ch_stop x) h
  dead := fun x h => by
    have hx : ¬ x < b.size := fun z => h (.stop z (ch_stop x))
    unfold Bd.pay
    rw [List.getD_eq_getElem?_getD, List.getElem?_eq_none (by unfold Bd.size at hx; omega)]; rfl
theorem pay_sm (g : GB b) (x : Nat) : Sm (b.pay x) := by
  rcases g.pay01 x with e | e <;> rw [e] <;> exact ⟨by decide, by decide⟩
theorem IsWorth.unique (g : GB b) {u : Nat → Rat} (h : IsWorth b f) (k : IsWorth b u) {x : Nat} (hx : x < b.size) : f x = u x := by
  obtain ⟨v, w1, v1⟩ := h.way
  obtain ⟨v', w2, v2⟩ := k.way
  exact Rat.le_antisymm (Cover.le g w1 v1 k.cover hx) (Cover.le g w2 v2 h.cover hx)
end
theorem least_of {P : Nat → Prop} (f : Nat → Rat) : ∀ N, (∃ y, y < N ∧ P y) → ∃ m, m < N ∧ P m ∧ ∀ y, y < N → P y → f m ≤ f y
  | 0, ⟨_, h, _⟩ => absurd h (Nat.not_lt_zero _)
  | N + 1, ⟨y, hy, py⟩ => by
    by_cases h : ∃ y, y < N ∧ P y
    · obtain ⟨m, hm, pm, le⟩ := least_of f N h
      by_cases hN : P N ∧ f N < f m
      · refine ⟨N, by omega, hN.1, fun z hz pz => ?_⟩
        by_cases e : z = N
        · rw [e]; exact Rat.le_refl
        · exact Rat.le_trans (Rat.le_of_lt hN.2) (le z (by omega) pz)
      · refine ⟨m, by omega, pm, fun z hz pz => ?_⟩
        by_cases e : z = N
        · subst e
          have : ¬ f z < f m := fun q => hN ⟨pz, q⟩
          exact Rat.not_lt.mp this
        · exact le z (by omega) pz
    · have e : y = N := by
        have : ¬ y < N := fun z => h ⟨y, z, py⟩
        omega
      subst e
      refine ⟨y, by omega, py, fun z hz pz => ?_⟩
      have : z = y := by
        have : ¬ z < y := fun q => h ⟨z, q, pz⟩
        omega
      rw [this]; exact Rat.le_refl
structure PushTo (π : Nat → Nat) (L M : Lot) : Prop where
  sum : ∀ u : Nat → Rat, wsum (fun y => u (π y)) L = wsum u M
  whole : wh L = wh M
structure MapTo (b s : Bd) (π : Nat → Nat) : Prop where
  to : ∀ x, x < b.size → π x < s.size
  onto : ∀ p, p < s.size → ∃ x, x < b.size ∧ π x = p
  pay : ∀ x, x < b.size → b.pay x = s.pay (π x)
  len : ∀ x, x < b.size → (b.row x).length = (s.row (π x)).length
  push : ∀ x, x < b.size → ∀ (k : Nat) (L M : Lot), (b.row x)[k]? = some L → (s.row (π x))[k]? = some M → PushTo π L M
theorem MapTo.worth {b s : Bd} {π : Nat → Nat} (m : MapTo b s π) (gb : GB b) (gs : GB s) {F V : Nat → Rat} (hF : IsWorth b F) (hV : IsWorth s V) {x : Nat} (hx : x < b.size) : F x = V (π x) := by
  obtain ⟨v, w1, v1⟩ := hF.way
  obtain ⟨v', w2, v2⟩ := hV.way
  refine Rat.le_antisymm ?_ ?_
  · refine Cover.le (u := fun y => V (π y)) gb w1 v1 ⟨fun y hy => ?_, fun y hy L hL => ?_⟩ hx
    · rw [m.pay y hy]; exact hV.cover.pay _ (m.to y hy)
    · obtain ⟨k, hk, e⟩ := List.getElem_of_mem hL
      have h1 : (b.row y)[k]? = some L := by rw [List.getElem?_eq_getElem hk, e]
      have hk2 : k < (s.row (π y)).length := by rw [← m.len y hy]; exact hk
      have h2 : (s.row (π y))[k]? = some (s.row (π y))[k] := List.getElem?_eq_getElem hk2
      have p := m.push y hy k L _ h1 h2
      rw [p.sum V, p.whole]
      exact hV.cover.play _ (m.to y hy) _ (List.getElem_mem hk2)
  · have ch : ∀ p, p < s.size → ∃ y, y < b.size ∧ π y = p ∧ ∀ z, z < b.size → π z = p → F y ≤ F z := fun p hp => least_of F b.size (m.onto p hp)
    let U : Nat → Rat := fun p => if h : p < s.size then F (Classical.choose (ch p h)) else 0
    have hU : ∀ p (h : p < s.size), ∃ y, y < b.size ∧ π y = p ∧ U p = F y ∧ ∀ z, z < b.size → π z = p → U p ≤ F z := fun p h => by
      have q := Classical.choose_spec (ch p h)
      have e : U p = F (Classical.choose (ch p h)) := by simp only [U]; rw [dif_pos h]
      exact ⟨_, q.1, q.2.1, e, fun z h1 h2 => by rw [e]; exact q.2.2 z h1 h2⟩
    have cov : Cover s U := by
      refine ⟨fun p hp => ?_, fun p hp M hM => ?_⟩
      · obtain ⟨y, h1, h2, h3, _⟩ := hU p hp
        rw [h3, ← h2, ← m.pay y h1]; exact hF.cover.pay y h1
      · obtain ⟨y, h1, h2, h3, _⟩ := hU p hp
        obtain ⟨k, hk, e⟩ := List.getElem_of_mem hM
        have e1 : (s.row (π y))[k]? = some M := by rw [h2, List.getElem?_eq_getElem hk, e]
        have hk2 : k < (b.row y).length := by rw [m.len y h1, h2]; exact hk
        have e2 : (b.row y)[k]? = some (b.row y)[k] := List.getElem?_eq_getElem hk2
        have q := m.push y h1 k _ M e2 e1
        have hL := gb.row_mem (List.getElem_mem hk2)
        rw [← q.sum U, ← q.whole, h3]
        refine Rat.le_trans (wsum_le fun r hr => ?_) (hF.cover.play y h1 _ (List.getElem_mem hk2))
        obtain ⟨_, _, _, _, h4⟩ := hU (π r.1) (m.to _ (hL.lt r hr))
        exact h4 r.1 (hL.lt r hr) rfl
    obtain ⟨_, _, _, _, h4⟩ := hU (π x) (m.to x hx)
    exact Rat.le_trans (Cover.le gs w2 v2 cov (m.to x hx)) (h4 x hx rfl)
end SM
end
section
namespace SM
theorem nd (a : Rat) : (a.num : Rat) / ((a.den : Int) : Rat) = a := by
  rw [← Rat.divInt_eq_div]; exact Rat.num_divInt_den a
theorem nz (a : Rat) : ((a.den : Int) : Rat) ≠ 0 := by have := a.den_nz; simpa using this
theorem den_pos (a : Rat) : 0 < (a.den : Int) := by have := a.den_nz; omega
theorem divInt_add' (a b : Rat) : Rat.divInt (a.num * (b.den : Int) + b.num * (a.den : Int)) ((a.den : Int) * (b.den : Int)) = a + b := by
  rw [Rat.divInt_eq_div]
  have ha := nd a
  have hb := nd b
  have h1 := nz a
  have h2 := nz b
  rw [Rat.intCast_add, Rat.intCast_mul, Rat.intCast_mul, Rat.intCast_mul]
  grind
theorem divInt_mul' (a b : Rat) : Rat.divInt (a.num * b.num) ((a.den : Int) * (b.den : Int)) = a * b := by
  rw [Rat.divInt_eq_div]
  have ha := nd a
  have hb := nd b
  have h1 := nz a
  have h2 := nz b
  rw [Rat.intCast_mul, Rat.intCast_mul]
  grind
theorem lt_nd (a b : Rat) : a < b ↔ a.num * (b.den : Int) < b.num * (a.den : Int) := Rat.lt_iff a b
theorem copr (a : Rat) : a.num.natAbs.gcd a.den = 1 := a.reduced
theorem Sm.d {q : Rat} (h : Sm q) : (q.den : Int).natAbs < 2 ^ 90 := by rw [Int.natAbs_natCast]; exact h.2
theorem mul_lt2 {i j : Int} {a b : Nat} (ha : i.natAbs < 2 ^ a) (hb : j.natAbs < 2 ^ b) : (i * j).natAbs < 2 ^ (a + b) := by
  rw [Int.natAbs_mul, Nat.pow_add]; exact Nat.mul_lt_mul'' ha hb
theorem lt_up {n : Nat} {a : Nat} (b : Nat) (h : n < 2 ^ a) (hab : a ≤ b) : n < 2 ^ b := Nat.lt_of_lt_of_le h (Nat.pow_le_pow_right (by decide) hab)
def avStep (f : Nat → Rat) (s : Int × Int) (p : Nat × Nat) : Int × Int := (s.1 * ((f p.1).den : Int) + (p.2 : Int) * (f p.1).num * s.2, s.2 * ((f p.1).den : Int))
def avGo (f : Nat → Rat) (L : Lot) : Int × Int := L.foldl (avStep f) (0, 1)
theorem avGo_snoc (f : Nat → Rat) (L : Lot) (p : Nat × Nat) : avGo f (L ++ [p]) = avStep f (avGo f L) p := by unfold avGo; rw [List.foldl_append]; rfl
theorem wsum_append (f : Nat → Rat) : ∀ L M : Lot, wsum f (L ++ M) = wsum f L + wsum f M
  | [], M => by
    show wsum f M = 0 + wsum f M
    grind
  | p :: L, M => by
    show (p.2 : Rat) * f p.1 + wsum f (L ++ M) = ((p.2 : Rat) * f p.1 + wsum f L) + wsum f M
    rw [wsum_append f L M]; grind
theorem snoc_ind {α : Type} {P : List α → Prop} (h0 : P []) (h1 : ∀ l x, P l → P (l ++ [x])) : ∀ l, P l := fun l => by
  have : ∀ r : List α, P r.reverse := fun r => by
    induction r with
    | nil => exact h0
    | cons x r ih => rw [List.reverse_cons]; exact h1 _ _ ih
  have := this l.reverse
  rwa [List.reverse_reverse] at this
theorem avGo_val (f : Nat → Rat) : ∀ L : Lot, 0 < (avGo f L).2 ∧ ((avGo f L).1 : Rat) = wsum f L * ((avGo f L).2 : Rat) := by
  refine snoc_ind ⟨show (0 : Int) < 1 by decide, ?_⟩ fun L p ⟨h1, h2⟩ => ?_
  · show ((0 : Int) : Rat) = wsum f [] * ((1 : Int) : Rat)
    simp [wsum]
  · rw [avGo_snoc]
    refine ⟨Int.mul_pos h1 (den_pos _), ?_⟩
    show (((avGo f L).1 * ((f p.1).den : Int) + (p.2 : Int) * (f p.1).num * (avGo f L).2 : Int) : Rat) = wsum f (L ++ [p]) * (((avGo f L).2 * ((f p.1).den : Int) : Int) : Rat)
    rw [wsum_append, Rat.intCast_add, Rat.intCast_mul, Rat.intCast_mul, Rat.intCast_mul, Rat.intCast_mul, h2]
    have a := nd (f p.1)
    have b := nz (f p.1)
    have e : wsum f [p] = (p.2 : Rat) * f p.1 := by
      show (p.2 : Rat) * f p.1 + 0 = _
      grind
    rw [e]
    have e2 : ((p.2 : Int) : Rat) = (p.2 : Rat) := rfl
    rw [e2]
    grind
theorem avGo_bd {f : Nat → Rat} : ∀ L : Lot, (∀ p ∈ L, Sm (f p.1) ∧ p.2 < 32) → (avGo f L).1.natAbs < 2 ^ (100 * L.length + 1) ∧ (avGo f L).2.natAbs < 2 ^ (100 * L.length + 1) := by
  refine snoc_ind (fun _ => ⟨show (0 : Int).natAbs < 2 ^ 1 by decide, show (1 : Int).natAbs < 2 ^ 1 by decide⟩) fun L p ih h => ?_
  obtain ⟨i1, i2⟩ := ih fun r hr => h r (by simp [hr])
  obtain ⟨sm, hw⟩ := h p (by simp)
  rw [avGo_snoc, List.length_append, List.length_singleton]
  have e : 100 * (L.length + 1) + 1 = (100 * L.length + 1) + 100 := by omega
  rw [e]
  have hp : 0 < 2 ^ (100 * L.length + 1) := Nat.pow_pos (by decide)
  constructor
  · show ((avGo f L).1 * ((f p.1).den : Int) + (p.2 : Int) * (f p.1).num * (avGo f L).2).natAbs < _
    have b1 := mul_lt2 i1 sm.d
    have b2 := mul_lt2 (mul_lt2 (a := 5) (i := (p.2 : Int)) (by rw [Int.natAbs_natCast]; exact hw) sm.1) i2
    have b3 := lt_up (100 * L.length + 1 + 96) b1 (by omega)
    have b4 := lt_up (100 * L.length + 1 + 96) b2 (by omega)
    have b5 : 2 ^ (100 * L.length + 1 + 96) + 2 ^ (100 * L.length + 1 + 96) ≤ 2 ^ (100 * L.length + 1 + 100) := by
      rw [show 100 * L.length + 1 + 100 = (100 * L.length + 1 + 96) + 4 by omega, Nat.pow_add 2 (100 * L.length + 1 + 96) 4]; omega
    have := Int.natAbs_add_le ((avGo f L).1 * ((f p.1).den : Int)) ((p.2 : Int) * (f p.1).num * (avGo f L).2)
    omega
  · show ((avGo f L).2 * ((f p.1).den : Int)).natAbs < _
    exact lt_up _ (mul_lt2 i2 sm.d) (by omega)
theorem avGo_avg {f : Nat → Rat} {L : Lot} (hw : 0 < wh L) : Rat.divInt (avGo f L).1 ((avGo f L).2 * (wh L : Int)) = avg f L := by
  obtain ⟨h1, h2⟩ := avGo_val f L
  rw [Rat.divInt_eq_div, h2, Rat.intCast_mul]
  unfold avg
  have a : ((avGo f L).2 : Rat) ≠ 0 := by
    have : ((avGo f L).2 : Int) ≠ 0 := by omega
    simpa using this
  have b : ((wh L : Int) : Rat) = (wh L : Rat) := rfl
  rw [b]
  have c : (wh L : Rat) ≠ 0 := by
    have : (wh L : Nat) ≠ 0 := by omega
    simpa using this
  grind
def SmB (q : Rat) : Prop := q.num.natAbs < 2 ^ 400 ∧ q.den < 2 ^ 400
theorem Sm.b {q : Rat} (h : Sm q) : SmB q := ⟨lt_up 400 h.1 (by decide), lt_up 400 h.2 (by decide)⟩
theorem SmB.d {q : Rat} (h : SmB q) : (q.den : Int).natAbs < 2 ^ 400 := by rw [Int.natAbs_natCast]; exact h.2
theorem avg_smB {f : Nat → Rat} {L : Lot} (hl : L.length ≤ 3) (hw : 0 < wh L) (hw2 : wh L < 32) (h : ∀ p ∈ L, Sm (f p.1) ∧ p.2 < 32) : SmB (avg f L) := by
  have bd := avGo_bd L h
  have hp := (avGo_val f L).1
  have b1 := lt_up 301 bd.1 (by omega)
  have b2 := lt_up 301 bd.2 (by omega)
  have hd : 0 < (avGo f L).2 * (wh L : Int) := Int.mul_pos hp (by omega)
  rw [← avGo_avg hw]
  refine ⟨Nat.lt_of_le_of_lt (divInt_num_le hd) (lt_up 400 b1 (by decide)), Nat.lt_of_le_of_lt (divInt_den_le hd) ?_⟩
  exact lt_up 400 (mul_lt2 b2 (b := 5) (by rw [Int.natAbs_natCast]; exact hw2)) (by decide)
theorem avg_congr {f g : Nat → Rat} {L : Lot} (h : ∀ p ∈ L, f p.1 = g p.1) : avg f L = avg g L := by
  unfold avg
  rw [wsum_congr h]
theorem scan_snoc : ∀ (l : List Rat) (k : Int) (s : Int × Rat) (a : Rat), scan (l ++ [a]) k s = (if (scan l k s).2 < a then (k + (l.length : Int) + -1, a) else scan l k s)
  | [], k, s, a => by
    show scan [] (k + 1) _ = _
    simp [scan]
  | x :: l, k, s, a => by
    show scan (l ++ [a]) (k + 1) _ = _
    rw [scan_snoc l (k + 1) _ a]
    have : k + 1 + (l.length : Int) + -1 = k + ((x :: l).length : Int) + -1 := by rw [List.length_cons]; omega
    rw [this]; rfl
end SM
end
section
set_option maxHeartbeats 4000000
namespace SD
open PySem PySem.Spec PyProof.Rows L2 SM
def dR (q : Rat) : PyData := .tuple [.int q.num, .int (q.den : Int)]
def dP (p : Nat × Nat) : PyData := .tuple [.int (p.1 : Int), .int (p.2 : Int)]
def dL (L : Lot) : PyData := .tuple (L.map dP)
def dLs (Ls : List Lot) : PyData := .tuple (Ls.map dL)
def dPl (pl : List (List Lot)) : PyData := .tuple (pl.map dLs)
def dRs (f : List Rat) : PyData := .tuple (f.map dR)
def dZ (zs : List Int) : PyData := .tuple (zs.map .int)
def dN (ns : List Nat) : PyData := .tuple (ns.map fun n : Nat => .int (n : Int))
section
variable {K : PySem.W.Frag} {c : Ctx} {E : List Slo} {ta te : TE} {R S Z : Rp}
theorem opV_mulW {i j : Int} (h : CMulW i j) : OpV (rI CMulW fun i j => .int (i * j)) (isD K (.int i)) (isD K (.int j)) (isD K (.int (i * j))) := opV_intC h
theorem opV_divW {i j : Int} (h : CDivW i j) : OpV (rI CDivW fun i j => .int (i / j)) (isD K (.int i)) (isD K (.int j)) (isD K (.int (i / j))) := opV_intC h
theorem opV_mod {i j : Int} (h : 0 < j) : OpV (rI (fun _ j => 0 < j) fun i j => .int (i % j)) (isD K (.int i)) (isD K (.int j)) (isD K (.int (i % j))) := opV_intC (C := fun _ j => 0 < j) h
theorem opV_ixM {α : Type} {g : α → PyData} {xs : List α} {i : Int} {n : Nat} {x : α} (hi : i = (n : Int)) (h : xs[n]? = some x) : OpV (rIxT K) (isD K (.tuple (xs.map g))) (isD K (.int i)) (isD K (g x)) :=
  opV_ixT (by omega) (by subst hi; rw [Int.toNat_natCast, List.getElem?_map, h]; rfl)
theorem opV_ixLM {α : Type} {g : α → PyData} {xs : List α} {i : Int} {n : Nat} {x : α} (hi : i = (n : Int)) (h : xs[n]? = some x) : OpV (rIxL K) (isD K (.list (xs.map g))) (isD K (.int i)) (isD K (g x)) :=
  opV_ixL (by omega) (by subst hi; rw [Int.toNat_natCast, List.getElem?_map, h]; rfl)
theorem mulW_of {i j : Int} (a b : Nat) (ha : i.natAbs < 2 ^ a) (hb : j.natAbs < 2 ^ b) (h0 : 0 < a := by decide) (h1 : 0 < b := by decide) (h : a + b ≤ 1000000 := by decide) : CMulW i j := wide_mul ha hb h0 h1 h
theorem divW_of {i j : Int} (b : Nat) (h : 0 < j) (hb : j.natAbs < 2 ^ b) (h0 : 0 < b := by decide) (h9 : b ≤ 9000 := by decide) : CDivW i j := wide_div h hb h0 h9
end
structure BF (K : PySem.W.Frag) (C : Addr) : Prop where
  cl : Cls K C
  nS : NoAttr K C "size"
  nP : NoAttr K C "pays"
  nL : NoAttr K C "plays"
def bF (n : Int) (x y : V) : List (Str × V) := putF "plays" y (putF "pays" x (putF "size" (.int n) []))
theorem bF_s (n : Int) (x y : V) : (bF n x y).lookup ("size" : Str) = some (.int n) := by
  unfold bF
  rw [lookup_putF, if_neg (by decide +kernel), lookup_putF, if_neg (by decide +kernel), lookup_putF, if_pos rfl]
theorem bF_p (n : Int) (x y : V) : (bF n x y).lookup ("pays" : Str) = some x := by
  unfold bF
  rw [lookup_putF, if_neg (by decide +kernel), lookup_putF, if_pos rfl]
theorem bF_l (n : Int) (x y : V) : (bF n x y).lookup ("plays" : Str) = some y := by
  unfold bF
  rw [lookup_putF, if_pos rfl]
def isO (K : PySem.W.Frag) (C : Addr) (n : Int) (d e : PyData) : Rp := ⟨fun H v => ∃ a dx x y, v = .ref a ∧ H a = some (.ins C dx (bF n x y)) ∧ Dp K H x d ∧ Dp K H y e,
  fun ex ⟨a, dx, x, y, h1, h2, h3, h4⟩ => ⟨a, dx, x, y, h1, ex _ _ h2, dp_ex ex _ _ h3, dp_ex ex _ _ h4⟩⟩
def isB (K : PySem.W.Frag) (C : Addr) (b : Bd) : Rp := isO K C (b.size : Int) (dRs b.pays) (dPl b.plays)
section
variable {K : PySem.W.Frag} {C : Addr} {c : Ctx} {E : List Slo} {ta te : TE} {R S Z : Rp} {n : Int} {d e : PyData}
theorem ev_size (T : BF K C) (h : Ev c E ta (isO K C n d e)) : Ev c E (tFld K ta "size") (isD K (.int n)) := fun σ Hs H e Q q => h σ Hs H e _ fun v Hs1 H1 s1 ⟨a, dx, x, y, h1, h2, h3, h4⟩ =>
  ⟨a, C, dx, _, _, h1, s1.i _ _ h2, T.cl, T.nS, bF_s n x y, q _ Hs1 H1 s1 (.int n)⟩
theorem ev_pays (T : BF K C) (h : Ev c E ta (isO K C n d e)) : Ev c E (tFld K ta "pays") (isD K d) := fun σ Hs H e Q q => h σ Hs H e _ fun v Hs1 H1 s1 ⟨a, dx, x, y, h1, h2, h3, h4⟩ =>
  ⟨a, C, dx, _, _, h1, s1.i _ _ h2, T.cl, T.nP, bF_p n x y, q _ Hs1 H1 s1 h3⟩
theorem ev_plays (T : BF K C) (h : Ev c E ta (isO K C n d e)) : Ev c E (tFld K ta "plays") (isD K e) := fun σ Hs H e Q q => h σ Hs H e _ fun v Hs1 H1 s1 ⟨a, dx, x, y, h1, h2, h3, h4⟩ =>
  ⟨a, C, dx, _, _, h1, s1.i _ _ h2, T.cl, T.nL, bF_l n x y, q _ Hs1 H1 s1 h4⟩
theorem k_fld {X : Cx} {o : Expr} {f : Str} {pos : Pos} (K : PySem.W.Frag) (he : PE X o te) (hb : attributeBase o f X.env (eval o X.env) = eval o X.env) (hK : X.K = K := by rfl) : PE X (.Attribute o f pos) (tFld K te f) := by subst hK; exact pe_fld he hb
def spInit (K : PySem.W.Frag) (C : Addr) : Sp := fun vs H Q _ => ∃ (p dx : Addr) (x y : V) (n : Nat), vs = [.ref p, x, y] ∧ H p = some (.ins C dx []) ∧ LenV K x H n ∧ p ≠ dx ∧ ∀ H', H' = upd H p (.ins C dx (bF (n : Int) x y)) → Q .non H'
end
end SD
end
section
set_option maxHeartbeats 4000000
namespace SD
open PySem PySem.Spec PyProof.Rows L2 SM
section
variable {K : PySem.W.Frag} {c : Ctx} {E : List Slo} {wi : TI} {g : TG} {tt : TT} {te : TE} {vs : List Nat} {α : Type}
theorem getR {gd : α → PyData} {xs : List α} {i : Nat} {R : Rp} (h : ((xs.map gd).map (isD K))[i]? = some R) : ∃ x, xs[i]? = some x ∧ R = isD K (gd x) := by
  rw [List.getElem?_map, List.getElem?_map] at h
  cases e : xs[i]? with
  | none => rw [e] at h; cases h
  | some x => rw [e] at h; cases h; exact ⟨x, rfl, rfl⟩
theorem getRng {f : Nat → Rp} {n i : Nat} {R : Rp} (h : ((List.range n).map f)[i]? = some R) : i < n ∧ R = f i := by
  have hi : i < n := by
    have := (List.getElem?_eq_some_iff.mp h).1
    simpa using this
  rw [List.getElem?_map, List.getElem?_range hi] at h
  cases h
  exact ⟨hi, rfl⟩
theorem evT_tt {σt : List Slo} : EvT c σt tYes true := fun σ Hs H e Q q => q Hs H (StpX.refl e.ok.sub)
theorem made_map {xs : List α} {f : α → Option PyData} : made (fun i => xs[i]?.bind f) xs.length = xs.filterMap f := by
  unfold made
  have : ∀ (ys : List α), (List.range ys.length).filterMap (fun i => ys[i]?.bind f) = ys.filterMap f := fun ys => by
    induction ys with
    | nil => rfl
    | cons y ys ih =>
      rw [List.length_cons, List.range_succ_eq_map, List.filterMap_cons, List.filterMap_map, List.filterMap_cons]
      have e : ((fun i => (y :: ys)[i]?.bind f) ∘ Nat.succ) = fun i => ys[i]?.bind f := by funext i; rfl
      rw [e, ih]
      rfl
  exact this xs
theorem made_rng {n : Nat} {f : Nat → PyData} : made (fun i => some (f i)) n = (List.range n).map f := by
  unfold made
  exact List.filterMap_eq_map (f := f) ▸ rfl
theorem evO_map {xs : List α} {gd : α → PyData} (f : α → PyData) (hi : Its c E wi ((xs.map gd).map (isD K))) (hl : xs.length ≤ 50000)
    (turn : ∀ (i : Nat) (x : α), xs[i]? = some x → ∃ js E1, Tgt c (wipeE E vs) g (isD K (gd x)) js E1 ∧ (∀ j ∈ js, j ∈ vs) ∧ EvT c E1 tt true ∧ Ev c E1 te (isD K (f x))) :
    EvO c E (tLc wi g tt te vs) (ownL K (xs.map f)) := by
  have h := evO_lc (K := K) (c := c) (E := E) (wi := wi) (g := g) (tt := tt) (te := te) (vs := vs) (fun i => xs[i]?.bind fun x => some (f x)) hi (by rw [List.length_map, List.length_map]; exact hl) fun i R hR => ?_
  · rw [List.length_map, List.length_map, made_map] at h
    have e : xs.filterMap (fun x => some (f x)) = xs.map f := by rw [List.filterMap_eq_map']
    rw [e] at h; exact h
  · obtain ⟨x, hx, rfl⟩ := getR hR
    obtain ⟨js, E1, a, b, c2, d⟩ := turn i x hx
    refine ⟨js, E1, a, b, ?_, fun d' hd => ?_⟩
    · rw [hx]; exact c2
    · rw [hx] at hd; cases hd; exact d
theorem evO_filter {xs : List α} {gd : α → PyData} (p : α → Bool) (f : α → PyData) (hi : Its c E wi ((xs.map gd).map (isD K))) (hl : xs.length ≤ 50000)
    (turn : ∀ (i : Nat) (x : α), xs[i]? = some x → ∃ js E1, Tgt c (wipeE E vs) g (isD K (gd x)) js E1 ∧ (∀ j ∈ js, j ∈ vs) ∧ EvT c E1 tt (p x) ∧ (p x = true → Ev c E1 te (isD K (f x)))) :
    EvO c E (tLc wi g tt te vs) (ownL K ((xs.filter p).map f)) := by
  have h := evO_lc (K := K) (c := c) (E := E) (wi := wi) (g := g) (tt := tt) (te := te) (vs := vs) (fun i => xs[i]?.bind fun x => if p x then some (f x) else none) hi (by rw [List.length_map, List.length_map]; exact hl) fun i R hR => ?_
  · rw [List.length_map, List.length_map, made_map] at h
    have e : xs.filterMap (fun x => if p x then some (f x) else none) = (xs.filter p).map f := by
      clear h turn hi hl
      induction xs with
      | nil => rfl
      | cons x xs ih =>
        rw [List.filterMap_cons, List.filter_cons]
        cases p x <;> simp [ih]
    rw [e] at h; exact h
  · obtain ⟨x, hx, rfl⟩ := getR hR
    obtain ⟨js, E1, a, b, c2, d⟩ := turn i x hx
    refine ⟨js, E1, a, b, ?_, fun d' hd => ?_⟩
    · rw [hx]
      show EvT c E1 tt ((if p x then some (f x) else none) : Option PyData).isSome
      cases hp : p x <;> rw [hp] at c2 <;> exact c2
    · rw [hx] at hd
      change (if p x then some (f x) else none) = some d' at hd
      cases hp : p x with
      | true => rw [hp] at hd; cases hd; exact d hp
      | false => rw [hp] at hd; cases hd
theorem evO_rng {lo : Int} {n : Nat} (f : Nat → PyData) (hi : Its c E wi ((List.range n).map fun i : Nat => isD K (.int (lo + (i : Int))))) (hl : n ≤ 50000)
    (turn : ∀ (i : Nat), i < n → ∃ js E1, Tgt c (wipeE E vs) g (isD K (.int (lo + (i : Int)))) js E1 ∧ (∀ j ∈ js, j ∈ vs) ∧ EvT c E1 tt true ∧ Ev c E1 te (isD K (f i))) :
    EvO c E (tLc wi g tt te vs) (ownL K ((List.range n).map f)) := by
  have h := evO_lc (K := K) (c := c) (E := E) (wi := wi) (g := g) (tt := tt) (te := te) (vs := vs) (fun i => some (f i)) hi (by rw [List.length_map, List.length_range]; exact hl) fun i R hR => ?_
  · rw [List.length_map, List.length_range, made_rng] at h; exact h
  · obtain ⟨hin, rfl⟩ := getRng hR
    obtain ⟨js, E1, a, b, c2, d⟩ := turn i hin
    exact ⟨js, E1, a, b, c2, fun d' hd => by cases hd; exact d⟩
theorem tri_forM {tb : TS} {D : Ends} {xs : List α} {gd : α → PyData} (hi : Its c E wi ((xs.map gd).map (isD K))) (I : List α → List Slo) (h0 : Weak E (I []))
    (turn : ∀ (c' : Ctx) (done : List α) (x : α), c'.T = c.T → c'.X = c.X → c'.Hs0 = c.Hs0 → c'.H0 = c.H0 → done ++ [x] <+: xs → ∃ js E1, Tgt c' (I done) g (isD K (gd x)) js E1 ∧ ∀ D' : Ends, D'.rt = D.rt → D'.bk = D.nx → Nx c' (I (done ++ [x])) D'.nx → Nx c' (I (done ++ [x])) D'.ct → Tri c' E1 tb D')
    (hd : Nx c (I xs) D.nx) : Tri c E (tFor wi g tb) D := by
  refine tri_for hi (fun i => I (xs.take i)) h0 (fun c' i R e1 e2 e3 e4 hR => ?_) (by rw [List.length_map, List.length_map, List.take_length]; exact hd)
  obtain ⟨x, hx, rfl⟩ := getR hR
  have et : xs.take (i + 1) = xs.take i ++ [x] := by rw [List.take_succ, hx]; rfl
  have hp : xs.take i ++ [x] <+: xs := by rw [← et]; exact List.take_prefix _ _
  obtain ⟨js, E1, t, b⟩ := turn c' (xs.take i) x e1 e2 e3 e4 hp
  refine ⟨js, E1, t, fun D' a1 a2 a3 a4 => b D' a1 a2 ?_ ?_⟩
  · rw [← et]; exact a3
  · rw [← et]; exact a4
theorem prefix_get {xs done : List α} {x : α} (h : done ++ [x] <+: xs) : xs[done.length]? = some x := by
  obtain ⟨r, rfl⟩ := h
  rw [List.append_assoc, List.getElem?_append_right (Nat.le_refl _)]; simp
theorem prefix_mem {xs done : List α} {x : α} (h : done ++ [x] <+: xs) : x ∈ xs := List.mem_of_getElem? (prefix_get h)
theorem prefix_lt {xs done : List α} {x : α} (h : done ++ [x] <+: xs) : done.length < xs.length := (List.getElem?_eq_some_iff.mp (prefix_get h)).1
theorem weak_no {E E' : List Slo} (h : E.length = E'.length) (h2 : ∀ i, i < E'.length → E'[i]? = some .no ∨ E[i]? = E'[i]?) : Weak E E' := ⟨h, fun i s hs => by
  have hi := (List.getElem?_eq_some_iff.mp hs).1
  rcases h2 i hi with z | z
  · rw [z] at hs; cases hs; exact .inl rfl
  · rw [z]; exact .inr hs⟩
end
theorem Weak.nil : Weak [] [] := Weak.refl _
theorem Weak.same {s : Slo} {E E' : List Slo} (h : Weak E E') : Weak (s :: E) (s :: E') := ⟨by rw [List.length_cons, List.length_cons, h.1], fun i t ht => by
  cases i with
  | zero => exact .inr ht
  | succ i => exact h.2 i t ht⟩
theorem Weak.none {s : Slo} {E E' : List Slo} (h : Weak E E') : Weak (s :: E) (.no :: E') := ⟨by rw [List.length_cons, List.length_cons, h.1], fun i t ht => by
  cases i with
  | zero => left; simpa using ht.symm
  | succ i => exact h.2 i t ht⟩
section
variable {K : PySem.W.Frag} {c : Ctx} {E : List Slo} {α : Type}
theorem caV_sumM {xs : List α} {f : α → Int} : CaV (rSum K) [isD K (.list (xs.map fun x => .int (f x)))] (isD K (.int (xs.map f).sum)) := by
  have h := caV_sum (K := K) (ns := xs.map f)
  rw [List.map_map] at h
  exact h
def isI : PyData → Bool
  | .int _ => true
  | _ => false
def isBI : PyData → Bool
  | .int _ => true
  | .bool _ => true
  | _ => false
def isBl : PyData → Bool
  | .bool _ => true
  | _ => false
theorem kit_int (d : PyData) : kitB (tyN d) "int" = some (isBI d) := by cases d <;> simp only [tyN, isBI] <;> decide +kernel
theorem kit_bool (d : PyData) : kitB (tyN d) "bool" = some (isBl d) := by cases d <;> simp only [tyN, isBl] <;> decide +kernel
theorem kit_tup (ds : List PyData) : kitB (tyN (.tuple ds)) "tuple" = some true := by simp only [tyN]; decide +kernel
theorem kit_str (z : Str) : kitB (tyN (.str z)) "str" = some true := by simp only [tyN]; decide +kernel
end
end SD
end
section
set_option maxHeartbeats 4000000
namespace SD
open PySem PySem.Spec PyProof.Rows L2 SM RZ
def noR : Rp := ⟨fun _ _ => False, fun _ h => h⟩
def isLs (K : PySem.W.Frag) (ds : List PyData) : Rp := ⟨fun H v => ∃ p vs, v = .ref p ∧ H p = some (.lst vs) ∧ DpAll K H vs ds, fun e ⟨p, vs, h1, h2, h3⟩ => ⟨p, vs, h1, e _ _ h2, dpAll_ex e _ _ h3⟩⟩
def isLsAt (K : PySem.W.Frag) (p : Addr) (vs : List V) (ds : List PyData) : Rp := ⟨fun H v => v = .ref p ∧ H p = some (.lst vs) ∧ DpAll K H vs ds, fun e ⟨h1, h2, h3⟩ => ⟨h1, e _ _ h2, dpAll_ex e _ _ h3⟩⟩
def isVD (K : PySem.W.Frag) (u : V) (d : PyData) : Rp := ⟨fun H v => v = u ∧ Dp K H v d, fun e ⟨h1, h2⟩ => ⟨h1, dp_ex e _ _ h2⟩⟩
section
variable {K : PySem.W.Frag} {c : Ctx} {E : List Slo} {te ta tb ti : TE} {R S : Rp} {P P' : Op} {D : Ends} {t : TS}
theorem StpX.fresh {X : List Addr} {Hs H Hs' H' : Hp} {p : Addr} (s : StpX X Hs H Hs' H') (h : H' p = none) : H p = none := by
  cases z : H p with
  | none => rfl
  | some o => exact absurd h (s.d p (by rw [z]; exact Option.some_ne_none _))
theorem evO_ls {ds : List PyData} (h : EvO c E te (ownL K ds)) : Ev c E te (isLs K ds) := fun σ Hs H e Q q => by
  refine h σ Hs H e Q fun p o Hs' H' s n1 n2 hp ⟨vs, e1, h2⟩ => ?_
  subst e1
  have hex : Ex Hs' (upd Hs' p (.lst vs)) := Evl.Ex.new n2
  refine q (.ref p) (upd Hs' p (.lst vs)) H' ⟨s.s.trans hex, fun a u ea => ?_, s.k, s.t, fun a h1 h3 => ?_, s.d⟩ ⟨p, vs, rfl, upd_same, dpAll_ex hex _ _ h2⟩
  · by_cases ha : a = p
    · subst ha; rw [upd_same] at ea; cases ea; exact hp
    · rw [upd_ne ha] at ea; exact s.i a u ea
  · have : a ≠ p := fun z => h1 (by rw [z]; exact n1)
    rw [upd_ne this]; exact s.f a h1 h3
theorem ev_lsD {ds : List PyData} (h : Ev c E te (isLs K ds)) : Ev c E te (isD K (.list ds)) := ev_weak h fun H v ⟨p, vs, h1, h2, h3⟩ => by subst h1; exact .lst (SqL.of h2) h3
theorem ev_atD {p : Addr} {vs : List V} {ds : List PyData} (h : Ev c E te (isLsAt K p vs ds)) : Ev c E te (isD K (.list ds)) := ev_weak h fun H v ⟨h1, h2, h3⟩ => by subst h1; exact .lst (SqL.of h2) h3
theorem ev_vD {u : V} {d : PyData} (h : Ev c E te (isVD K u d)) : Ev c E te (isD K d) := ev_weak h fun H v h => h.2
theorem Sat.weaken {σ : L2.St} {Hs H : Hp} (e : Sat c σ Hs H E) {i : Nat} (hi : E[i]? = some (.is R)) (w : ∀ v, R.p Hs v → S.p Hs v) : Sat c σ Hs H (E.set i (.is S)) := by
  obtain ⟨v, h1, h2⟩ := e.val i R hi
  have h := e.set (w v h2) i
  have : σ.set i (some v) = σ := by
    apply List.ext_getElem?
    intro j
    by_cases z : i = j
    · subst z
      rw [List.getElem?_set_self (by rw [e.len]; exact (List.getElem?_eq_some_iff.mp hi).1), h1]
    · rw [List.getElem?_set_ne z]
  rwa [this] at h
theorem tri_view {i : Nat} (hi : E[i]? = some (.is R)) (w : ∀ H v, R.p H v → S.p H v) (k : Tri c (E.set i (.is S)) t D) : Tri c E t D := fun σ Hs H e => k σ Hs H (e.weaken hi (w Hs))
theorem nx_view {i : Nat} {Q : L2.St → Hp → Prop} (hi : E[i]? = some (.is R)) (w : ∀ H v, R.p H v → S.p H v) (k : Nx c (E.set i (.is S)) Q) : Nx c E Q := fun σ Hs H e => k σ Hs H (e.weaken hi (w Hs))
theorem tri_fixL {i : Nat} {ds : List PyData} (hi : E[i]? = some (.is (isLs K ds))) (k : ∀ p vs, vs.length = ds.length → Tri c (E.set i (.is (isLsAt K p vs ds))) t D) : Tri c E t D := fun σ Hs H e => by
  obtain ⟨v, h1, p, vs, h2, h3, h4⟩ := e.val i _ hi
  have h := e.set (R := isLsAt K p vs ds) (v := v) ⟨h2, h3, h4⟩ i
  have : σ.set i (some v) = σ := by
    apply List.ext_getElem?
    intro j
    by_cases z : i = j
    · subst z
      rw [List.getElem?_set_self (by rw [e.len]; exact (List.getElem?_eq_some_iff.mp hi).1), h1]
    · rw [List.getElem?_set_ne z]
  rw [this] at h
  exact k p vs (dpAll_length h4) σ Hs H h
theorem tri_absurd {i : Nat} (hi : E[i]? = some (.is noR)) : Tri c E t D := fun σ Hs H e => by
  obtain ⟨v, _, h⟩ := e.val i _ hi
  exact h.elim
theorem ev_ixAt {p : Addr} {vs : List V} {ds : List PyData} {i : Int} {u : V} {d : PyData} (h : Ev c E ta (isLsAt K p vs ds)) (h2 : Ev c E tb (isD K (.int i))) (h0 : 0 ≤ i) (hu : vs[i.toNat]? = some u) (hd : ds[i.toNat]? = some d) : Ev c E (tOp (rIxL K) ta tb) (isVD K u d) := fun σ Hs H e Q q => by
  refine h σ Hs H e _ fun x Hs1 H1 s1 hx => h2 σ Hs1 H1 (e.move s1) _ fun y Hs2 H2 s2 hy => ?_
  obtain ⟨h1, h3, h4⟩ := (isLsAt K p vs ds).mono s2.s hx
  cases hy
  have ea := atI_of hu
  rw [Int.toNat_of_nonneg h0] at ea
  obtain ⟨v', g1, g2⟩ := dpAll_get h4 hd
  rw [hu] at g1
  cases g1
  exact ⟨p, vs, i, u, h1, rfl, Evl.ex_l s2.i (SqL.of h3), ea, q u Hs2 H2 (s1.trans s2) ⟨rfl, g2⟩⟩
theorem upd_id {H : Hp} {p : Addr} {o : HO} (h : H p = some o) : upd H p o = H := by
  funext a
  by_cases z : a = p
  · subst z; rw [upd_same, h]
  · rw [upd_ne z]
theorem tri_setSame {p : Addr} {vs : List V} {ds : List PyData} {i : Int} {u : V} {d : PyData} (hv : Ev c E te (isVD K u d)) (h : Ev c E ta (isLsAt K p vs ds)) (h2 : Ev c E tb (isD K (.int i))) (h0 : 0 ≤ i) (hu : vs[i.toNat]? = some u) (k : Nx c E D.nx) :
    Tri c E (tAsg te (gSub ta tb rSetL)) D := fun σ Hs H e => hv σ Hs H e _ fun v Hs1 H1 s1 hv1 => by
  refine h σ Hs1 H1 (e.move s1) _ fun x Hs2 H2 s2 hx => h2 σ Hs2 H2 ((e.move s1).move s2) _ fun y Hs3 H3 s3 hy => ?_
  obtain ⟨h1, h3, h4⟩ := (isLsAt K p vs ds).mono s3.s hx
  cases hy
  have hp : H3 p = some (.lst vs) := s3.i _ _ h3
  have hl := (List.getElem?_eq_some_iff.mp hu).1
  refine ⟨p, vs, i, i.toNat, h1, rfl, hp, ?_, ?_⟩
  · unfold ixN
    rw [if_pos h0, if_pos (by omega)]
  · have ev : v = u := hv1.1
    subst ev
    have : vs.set i.toNat v = vs := by
      apply List.ext_getElem?
      intro j
      by_cases z : i.toNat = j
      · subst z; rw [List.getElem?_set_self hl, hu]
      · rw [List.getElem?_set_ne z]
    rw [this, upd_id hp]
    exact k σ Hs3 H3 (((e.move s1).move s2).move s3)
theorem Sat.own_at {σ : L2.St} {Hs H : Hp} {i : Nat} {ds : List PyData} (e : Sat c σ Hs H E) (hi : E[i]? = some (.own (ownL K ds))) : ∃ p vs, σ[i]? = some (some (.ref p)) ∧ Hs p = none ∧ H p = some (.lst vs) ∧ DpAll K Hs vs ds := by
  obtain ⟨p, o, h1, h2, h3, ⟨vs, h4, h5⟩, _⟩ := e.own i _ hi
  subst h4
  exact ⟨p, vs, h1, h2, h3, h5⟩
theorem tri_app {i : Nat} {ds : List PyData} {d : PyData} (hi : E[i]? = some (.own (ownL K ds))) (h : Ev c E te (isD K d)) (hl : ds.length < 100000) (k : Nx c (E.set i (.own (ownL K (ds ++ [d])))) D.nx) :
    Tri c E (tDrop (tBM K "list" rAppend (tVar i) (tCons te tNil))) D := fun σ Hs H e => by
  obtain ⟨p, vs, h1, h2, h3, h4⟩ := e.own_at hi
  refine ⟨.ref p, h1, .inl ⟨rfl, vs, SqL.of h3⟩, ?_⟩
  refine h σ Hs H e _ fun v Hs1 H1 s1 hv => ?_
  have e1 := e.move s1
  obtain ⟨p', vs', g1, g2, g3, g4⟩ := e1.own_at hi
  rw [h1] at g1
  cases g1
  refine ⟨p, vs', v, rfl, rfl, g3, Evl.sz_lt (by rw [dpAll_length g4]; omega), ?_⟩
  exact k σ Hs1 _ (e1.write hi h1 g3 (fun ps z => by cases z) ⟨vs' ++ [v], rfl, dpAll_append g4 (.cons hv .nil)⟩)
theorem Sat.freeze {σ : L2.St} {Hs H : Hp} {i : Nat} {ds : List PyData} (e : Sat c σ Hs H E) (hi : E[i]? = some (.own (ownL K ds))) (hX : c.X = []) : ∃ Hs', Sat c σ Hs' H (E.set i (.is (isLs K ds))) := by
  obtain ⟨p, o, h1, h2, h3, ⟨vs, h4, h5⟩, h6⟩ := e.own i _ hi
  subst h4
  have h0 : c.H0 p = none := by
    rcases h6 with h | h
    · exact h
    · rw [hX] at h; cases h
  have hex : Ex Hs (upd Hs p (.lst vs)) := Evl.Ex.new h2
  have hin : Ex (upd Hs p (.lst vs)) H := fun a u ea => by
    by_cases ha : a = p
    · subst ha; rw [upd_same] at ea; cases ea; exact h3
    · rw [upd_ne ha] at ea; exact e.ok.sub a u ea
  refine ⟨upd Hs p (.lst vs), ⟨hin, fun a ha => ⟨(e.ok.tab a ha).1, ?_⟩⟩, ⟨e.stp.s.trans hex, hin, e.stp.k, e.stp.t, fun a g1 g2 => ?_, e.stp.d⟩, c.gm hex e.g, by rw [List.length_set]; exact e.len, fun j R hj => ?_, fun j Q hj => ?_, fun j k P1 P2 q hjk hj hk => ?_⟩
  · have : a ≠ p := fun z => by
      obtain ⟨ps, e1, _⟩ := (e.ok.tab a ha).1
      rw [z, h3] at e1; cases e1
    rw [upd_ne this]; exact (e.ok.tab a ha).2
  · have : a ≠ p := fun z => g1 (by rw [z]; exact h0)
    rw [upd_ne this]; exact e.stp.f a g1 g2
  · by_cases hij : i = j
    · subst hij
      rw [List.getElem?_set_self (List.getElem?_eq_some_iff.mp hi).1] at hj
      cases hj
      exact ⟨_, h1, p, vs, rfl, upd_same, dpAll_ex hex _ _ h5⟩
    · rw [List.getElem?_set_ne hij] at hj
      obtain ⟨v, a1, a2⟩ := e.val j R hj
      exact ⟨v, a1, R.mono hex a2⟩
  · by_cases hij : i = j
    · subst hij
      rw [List.getElem?_set_self (List.getElem?_eq_some_iff.mp hi).1] at hj
      cases hj
    · rw [List.getElem?_set_ne hij] at hj
      obtain ⟨q, u, a1, a2, a3, a4, a5⟩ := e.own j Q hj
      have : q ≠ p := fun z => by
        rw [z] at a1
        exact e.apart i j _ _ p hij hi hj h1 a1
      exact ⟨q, u, a1, by rw [upd_ne this]; exact a2, a3, Q.mono hex a4, a5⟩
  · have ne : ∀ {m : Nat} {Q : Op}, (E.set i (.is (isLs K ds)))[m]? = some (.own Q) → E[m]? = some (.own Q) := fun {m Q} hm => by
      by_cases him : i = m
      · subst him
        rw [List.getElem?_set_self (List.getElem?_eq_some_iff.mp hi).1] at hm
        cases hm
      · rw [List.getElem?_set_ne him] at hm; exact hm
    exact e.apart j k _ _ q hjk (ne hj) (ne hk)
theorem tri_freeze (i : Nat) {ds : List PyData} (hi : E[i]? = some (.own (ownL K ds))) (hX : c.X = []) (k : Tri c (E.set i (.is (isLs K ds))) t D) : Tri c E t D := fun σ Hs H e => by
  obtain ⟨Hs', e'⟩ := e.freeze hi hX
  exact k σ Hs' H e'
theorem nx_freeze (i : Nat) {Q : L2.St → Hp → Prop} {ds : List PyData} (hi : E[i]? = some (.own (ownL K ds))) (hX : c.X = []) (k : Nx c (E.set i (.is (isLs K ds))) Q) : Nx c E Q := fun σ Hs H e => by
  obtain ⟨Hs', e'⟩ := e.freeze hi hX
  exact k σ Hs' H e'
theorem tri_parO {i j : Nat} (h1 : Ev c E ta R) (h2 : EvO c E tb P) (k : Nx c ((E.set i (.is R)).set j (.own P)) D.nx) : Tri c E (tPar i j (tCons ta (tCons tb tNil))) D := fun σ Hs H e =>
  h1 σ Hs H e _ fun v Hs1 H1 s1 hv => h2 σ Hs1 H1 (e.move s1) _ fun p o Hs2 H2 s2 n1 n2 hp hP => by
    refine ⟨v, .ref p, rfl, ?_⟩
    have e2 := ((e.move s1).move s2).set (R.mono s2.s hv) i
    exact k _ Hs2 H2 (e2.setO hp n2 hP (.inl ((e.move s1).fresh0 n1)) (fun m Q hm => own_apart ((e.move s1).set hv i) n1 m Q hm) j)
theorem tri_tupO {i j : Nat} (h1 : Ev c E ta R) (h2 : EvO c E tb P) (k : Nx c ((E.set i (.is R)).set j (.own P)) D.nx) : Tri c E (tAsg (tTup (tCons ta (tCons tb tNil))) (gTup K 2 (gCons (gName i) (gCons (gName j) gNil)))) D := fun σ Hs H e =>
  h1 σ Hs H e _ fun v Hs1 H1 s1 hv => h2 σ Hs1 H1 (e.move s1) _ fun p o Hs2 H2 s2 n1 n2 hp hP => by
    refine ⟨Evl.sz_of (by simp), fun l hl => ⟨l, [v, .ref p], rfl, SqT.of upd_same, rfl, v, [.ref p], rfl, .ref p, [], rfl, rfl, ?_⟩⟩
    have s3 := Stp.newO (o := .tup [v, .ref p]) s2.i hl
    have e2 := (((e.move s1).move s2).move s3).set (R.mono s2.s hv) i
    have hlp : p ≠ l := fun z => by rw [z, hl] at hp; cases hp
    exact k _ Hs2 _ (e2.setO (by rw [upd_ne hlp]; exact hp) n2 hP (.inl ((e.move s1).fresh0 n1)) (fun m Q hm => own_apart ((e.move s1).set hv i) n1 m Q hm) j)
theorem tri_parOO {i j : Nat} (hij : i ≠ j) (h1 : EvO c E ta P) (h2 : EvO c E tb P') (k : Nx c ((E.set i (.own P)).set j (.own P')) D.nx) : Tri c E (tPar i j (tCons ta (tCons tb tNil))) D := fun σ Hs H e =>
  h1 σ Hs H e _ fun p1 o1 Hs1 H1 s1 m1 m2 hp1 hP1 => by
    have e1 := (e.move s1).setO hp1 m2 hP1 (.inl (e.fresh0 m1)) (own_apart e m1) i
    refine h2 σ Hs1 H1 (e.move s1) _ fun p o Hs2 H2 s2 n1 n2 hp hP => ⟨.ref p1, .ref p, rfl, ?_⟩
    have e2 := e1.move s2
    exact k _ Hs2 H2 (e2.setO hp n2 hP (.inl (e1.fresh0 n1)) (fun m Q hm => own_apart e1 n1 m Q hm) j)
theorem tri_for1 {wi : TI} {g : TG} {tb : TS} {Rs : List Rp} {js : List Nat} {E1 : List Slo} (hi : Its c E wi (R :: Rs)) (ht : ∀ c' : Ctx, Tgt c' E g R js E1) (hb : ∀ (c' : Ctx) (D' : Ends), c'.T = c.T → c'.X = c.X → c'.Hs0 = c.Hs0 → c'.H0 = c.H0 → D'.rt = D.rt → D'.bk = D.nx → Tri c' E1 tb D') : Tri c E (tFor wi g tb) D := fun σ Hs H e => hi σ Hs H e _ fun J Hs1 H1 s1 hJ => by
  let c' : Ctx := c.also (fun Hx => ItOk Hx J (R :: Rs)) fun ex h => h.ex ex
  refine ⟨fun i m σ H => i = 0 ∧ ∃ Hs, Sat c' σ Hs H E, ⟨0, rfl, Hs1, (e.move s1).more hJ⟩, ?_⟩
  rintro i m σ2 H2 ⟨rfl, Hs2, e2⟩
  have hJ2 : ItOk Hs2 J (R :: Rs) := e2.g.2
  refine .inr ⟨hJ2.go Hs2 H2 (Evl.Ex.refl _) e2.ok.sub 0 (by simp), fun _ _ => False, fun _ _ z => z.elim, fun x H' y => ?_⟩
  obtain ⟨Hs3, s3, hx⟩ := hJ2.yld Hs2 H2 (Evl.Ex.refl _) e2.ok.sub 0 x H' R rfl y
  refine (ht c').run σ2 Hs3 H' x (e2.move s3) hx _ fun σ' e' _ _ => ?_
  exact hb c' { nx := fun _ _ => False, rt := D.rt, bk := D.nx, ct := fun _ _ => False } rfl rfl rfl rfl rfl rfl σ' Hs3 H' e'
theorem fin_to {c' : Ctx} {Q Q' : VK} (q : Fin c R Q) (a2 : c'.X = c.X) (a3 : c'.Hs0 = c.Hs0) (a4 : c'.H0 = c.H0) (d : Q' = Q) : Fin c' R Q' := by
  subst d
  unfold Fin at q ⊢
  rw [a2, a3, a4]; exact q
theorem evO_nil : EvO c E (tLst tNil) (ownL K []) := evO_lst (ds := []) evA_nil
end
theorem pairsI_map {α : Type} (g : α → PyData) (xs : List α) : pairsI (xs.map g) = (xs.zipIdx).map fun p => .tuple [.int (p.2 : Int), g p.1] := by
  apply List.ext_getElem?
  intro i
  rw [List.getElem?_map, List.getElem?_zipIdx]
  cases h : xs[i]? with
  | none =>
    have : i ≥ (pairsI (xs.map g)).length := by
      rw [pairsI_length, List.length_map]
      exact List.getElem?_eq_none_iff.mp h
    rw [List.getElem?_eq_none this]; rfl
  | some x =>
    rw [pairsI_get (d := g x) (by rw [List.getElem?_map, h]; rfl)]
    simp
theorem pairsZ_map {α β : Type} (g : α → PyData) (h : β → PyData) (xs : List α) (ys : List β) : pairsZ (xs.map g) (ys.map h) = (xs.zip ys).map fun p => .tuple [g p.1, h p.2] := by
  unfold pairsZ
  rw [List.zip_map, List.map_map]; rfl
section
variable {K : PySem.W.Frag} {c : Ctx} {E : List Slo} {ta : TA} {α β : Type}
theorem its_enumM {xs : List α} {g : α → PyData} (h : EvA c E ta [isD K (.list (xs.map g))]) : Its c E (iEnum K ta) ((xs.zipIdx.map fun p => .tuple [.int (p.2 : Int), g p.1]).map (isD K)) := by
  have := its_enum h
  rw [pairsI_map] at this; exact this
theorem its_enumTM {xs : List α} {g : α → PyData} (h : EvA c E ta [isD K (.tuple (xs.map g))]) : Its c E (iEnumT K ta) ((xs.zipIdx.map fun p => .tuple [.int (p.2 : Int), g p.1]).map (isD K)) := by
  have := its_enumT h
  rw [pairsI_map] at this; exact this
theorem its_zipM {xs : List α} {ys : List β} {g : α → PyData} {g' : β → PyData} (h : EvA c E ta [isD K (.list (xs.map g)), isD K (.list (ys.map g'))]) : Its c E (iZip K ta) (((xs.zip ys).map fun p => .tuple [g p.1, g' p.2]).map (isD K)) := by
  have := its_zip h
  rw [pairsZ_map] at this; exact this
theorem its_zipTM {xs : List α} {ys : List β} {g : α → PyData} {g' : β → PyData} (h : EvA c E ta [isD K (.tuple (xs.map g)), isD K (.tuple (ys.map g'))]) : Its c E (iZipA K ta) (((xs.zip ys).map fun p => .tuple [g p.1, g' p.2]).map (isD K)) := by
  have := its_zipT h
  rw [pairsZ_map] at this; exact this
theorem zipIdx_at {xs : List α} {M : List (α × Nat)} {p : α × Nat} (h : M ++ [p] <+: xs.zipIdx) : xs[M.length]? = some p.1 ∧ p.2 = M.length ∧ M.length < xs.length := by
  have hg := prefix_get h
  have hl := prefix_lt h
  rw [List.length_zipIdx] at hl
  rw [List.getElem?_zipIdx] at hg
  rw [List.getElem?_eq_getElem hl] at hg ⊢
  cases hg
  exact ⟨rfl, by simp, hl⟩
end
end SD
end
section
set_option maxHeartbeats 4000000
namespace SD
open PySem PySem.Spec PyProof.Rows L2 SM
def vInts (l : List Nat) : List V := l.map fun n : Nat => V.int n
structure Gh (H0 : Hp) (qs : List Addr) (ls : List (List Nat)) (Hs H : Hp) : Prop where
  nd : qs.Nodup
  len : qs.length = ls.length
  at_ : ∀ (i : Nat) (q : Addr) (l : List Nat), qs[i]? = some q → ls[i]? = some l → Hs q = none ∧ H q = some (.lst (vInts l)) ∧ H0 q = none
theorem Gh.stp {H0 Hs H Hs' H' : Hp} {qs : List Addr} {ls : List (List Nat)} (g : Gh H0 qs ls Hs H) (s : Stp Hs H Hs' H') : Gh H0 qs ls Hs' H' := ⟨g.nd, g.len, fun i q l h1 h2 => by
  obtain ⟨a, b, c⟩ := g.at_ i q l h1 h2
  exact ⟨s.f q (by rw [b]; exact Option.some_ne_none _) a, s.k q _ (by simp) b (fun ps z => by cases z), c⟩⟩
section
variable {K : PySem.W.Frag} {c : Ctx} {E : List Slo} {wi : TI} {g : TG} {tb : TS} {D : Ends} {Rs : List Rp}
theorem Sat.ghost {σ : L2.St} {Hs H : Hp} {q : Addr} {o o' : HO} (e : Sat c σ Hs H E) (hno : ∀ (i : Nat) (P : Op), E[i]? ≠ some (.own P)) (hq : Hs q = none) (hH : H q = some o) (hn : ∀ ps, o ≠ .tbl ps) (h0 : c.H0 q = none) : Sat c σ Hs (upd H q o') E := by
  have nT : ∀ a, GxR.TabG H a → a ≠ q := fun a ⟨ps, e1, _⟩ z => by
    rw [z, hH] at e1
    exact hn ps (Option.some.inj e1)
  have hex : Ex Hs (upd H q o') := Evl.Ex.mut e.ok.sub hq
  refine ⟨⟨hex, fun a ha => ⟨?_, (e.ok.tab a ha).2⟩⟩, ⟨e.stp.s, hex, fun a u hX ea hn => ?_, fun a ha => ?_, e.stp.f, fun a ha => ?_⟩, e.g, e.len, e.val, fun i P h => absurd h (hno i P), fun i j P P' p _ h => absurd h (hno i P)⟩
  · obtain ⟨ps, e1, t⟩ := (e.ok.tab a ha).1
    exact ⟨ps, by rw [upd_ne (nT a (e.ok.tab a ha).1)]; exact e1, t⟩
  · have : a ≠ q := fun z => by rw [z, h0] at ea; cases ea
    rw [upd_ne this]; exact e.stp.k a u hX ea hn
  · obtain ⟨ps, e1, t⟩ := e.stp.t a ha
    exact ⟨ps, by rw [upd_ne (nT a ⟨ps, e1, t⟩)]; exact e1, t⟩
  · by_cases z : a = q
    · rw [z, upd_same]; exact Option.some_ne_none _
    · rw [upd_ne z]; exact e.stp.d a ha
theorem for_ghost {qs : List Addr} (I : Nat → List (List Nat)) {σ : L2.St} {Hs H : Hp} (e : Sat c σ Hs H E) (gh : Gh c.H0 qs (I 0) Hs H) (hi : Its c E wi Rs)
    (turn : ∀ (c' : Ctx) (i : Nat) (R : Rp) (σ : L2.St) (Hs H : Hp) (v : V), c'.X = c.X → c'.H0 = c.H0 → Rs[i]? = some R → Sat c' σ Hs H E → Gh c.H0 qs (I i) Hs H → R.p Hs v → ∀ D' : Ends, (∀ σ' Hs' H', Sat c' σ' Hs' H' E → Gh c.H0 qs (I (i + 1)) Hs' H' → D'.nx σ' H') → g v σ H (tb D'))
    (hd : ∀ σ Hs H, Sat c σ Hs H E → Gh c.H0 qs (I Rs.length) Hs H → D.nx σ H) : tFor wi g tb D σ H := hi σ Hs H e _ fun J Hs1 H1 s1 hJ => by
  let c' : Ctx := c.also (fun Hx => ItOk Hx J Rs) fun ex h => h.ex ex
  refine ⟨fun i m σ H => m = Rs.length - i ∧ i ≤ Rs.length ∧ ∃ Hs, Sat c' σ Hs H E ∧ Gh c.H0 qs (I i) Hs H, ⟨Rs.length, by simp, Nat.zero_le _, Hs1, (e.move s1).more hJ, gh.stp s1⟩, ?_⟩
  rintro i m σ2 H2 ⟨rfl, hi2, Hs2, e2, g2⟩
  have hJ2 : ItOk Hs2 J Rs := e2.g.2
  by_cases hlt : i < Rs.length
  · refine .inr ⟨hJ2.go Hs2 H2 (Evl.Ex.refl _) e2.ok.sub i hlt, fun σ' H' => ∃ Hs, Sat c' σ' Hs H' E ∧ Gh c.H0 qs (I (i + 1)) Hs H', fun σ' H' p => ⟨Rs.length - (i + 1), by omega, rfl, hlt, p⟩, fun x H' y => ?_⟩
    have hR : Rs[i]? = some Rs[i] := List.getElem?_eq_getElem hlt
    obtain ⟨Hs3, s3, hx⟩ := hJ2.yld Hs2 H2 (Evl.Ex.refl _) e2.ok.sub i x H' _ hR y
    exact turn c' i _ σ2 Hs3 H' x rfl rfl hR (e2.move s3) (g2.stp s3) hx _ fun σ4 Hs4 H4 e4 g4 => ⟨Hs4, e4, g4⟩
  · have en : i = Rs.length := by omega
    subst en
    exact .inl ⟨hJ2.stop Hs2 H2 (Evl.Ex.refl _) e2.ok.sub, hd σ2 Hs2 H2 e2.drop g2⟩
theorem lc_nils {σ : L2.St} {Hs H : Hp} {vs : List Nat} {js : List Nat} (e : Sat c σ Hs H E) (hi : Its c E wi Rs) (hl : Rs.length ≤ 50000) (tg : ∀ (i : Nat) (R : Rp), Rs[i]? = some R → ∃ E1, Tgt c (wipeE E vs) g R js E1) (hjs : ∀ j ∈ js, j ∈ vs)
    (Q : VK) (k : ∀ (D : Addr) (qs : List Addr) (Hs' H' : Hp), Stp Hs H Hs' H' → H D = none → H' D = some (.lst (qs.map V.ref)) → qs.length = Rs.length → qs.Nodup → (∀ q ∈ qs, H q = none ∧ q ≠ D ∧ H' q = some (.lst [])) → Q (.ref D) H') : tLc wi g tYes (tLst tNil) vs σ H Q := hi σ Hs H e _ fun J Hs1 H1 s1 hJ => fun D hD => by
  have e1 := e.move s1
  have sD := Stp.newO (o := .lst []) s1.i hD
  refine ⟨fun i m H2 => m = Rs.length - i ∧ i ≤ Rs.length ∧ ∃ (Hs2 : Hp) (qs : List Addr), Stp Hs1 H1 Hs2 H2 ∧ H2 D = some (.lst (qs.map V.ref)) ∧ qs.length = i ∧ qs.Nodup ∧ Hs2 D = none ∧ ∀ q ∈ qs, H1 q = none ∧ q ≠ D ∧ H2 q = some (.lst []) ∧ Hs2 q = none,
    ⟨Rs.length, by simp, Nat.zero_le _, Hs1, [], sD, upd_same, rfl, List.nodup_nil, Evl.fresh_back s1.i hD, fun q hq => nomatch hq⟩, ?_⟩
  rintro i m H2 ⟨rfl, hi2, Hs2, qs, s2, hacc, hlen, hnd, nD, hq⟩
  have hJ2 : ItOk Hs2 J Rs := hJ.ex s2.s
  by_cases hlt : i < Rs.length
  · refine .inr ⟨hJ2.go Hs2 H2 (Evl.Ex.refl _) s2.i i hlt, fun H' => i + 1 ≤ Rs.length ∧ ∃ (Hs2 : Hp) (qs : List Addr), Stp Hs1 H1 Hs2 H' ∧ H' D = some (.lst (qs.map V.ref)) ∧ qs.length = i + 1 ∧ qs.Nodup ∧ Hs2 D = none ∧ ∀ q ∈ qs, H1 q = none ∧ q ≠ D ∧ H' q = some (.lst []) ∧ Hs2 q = none, fun H' p => ⟨Rs.length - (i + 1), by omega, rfl, p.1, p.2⟩, fun x H3 y => ?_⟩
    have hR : Rs[i]? = some Rs[i] := List.getElem?_eq_getElem hlt
    obtain ⟨Hs3, s3, hx⟩ := hJ2.yld Hs2 H2 (Evl.Ex.refl _) s2.i i x H3 _ hR y
    have h3 : H3 D = some (.lst (qs.map V.ref)) := s3.k D _ (by simp) hacc fun ps z => by cases z
    have s13 := s2.trans s3
    obtain ⟨E1, t⟩ := tg i _ hR
    refine t.run (L2.wipe σ vs) Hs3 H3 x ((e1.move s13).wipe vs) hx _ fun σ' e' k' l' => ⟨?_, ?_⟩
    · have h0 : L2.wipe (L2.wipe σ vs) vs = L2.wipe σ vs := wipe_eq (wipe_length _ _) fun j hj => wipe_get hj
      rw [← h0]
      exact wipe_eq l' fun j hj => k' j fun z => hj (hjs j z)
    · refine ⟨Evl.sz_of (by simp), fun l hl => ⟨qs.map V.ref, ?_, Evl.sz_lt (by rw [List.length_map]; omega), hlt, Hs3, qs ++ [l], ?_, ?_, by rw [List.length_append, hlen]; rfl, ?_, ?_, fun q hqm => ?_⟩⟩
      · have : D ≠ l := fun z => by rw [z, hl] at h3; cases h3
        rw [upd_ne this]; exact h3
      · have sn := s13.trans (Stp.newO (o := .lst []) s13.i hl)
        have hDl : D ≠ l := fun z => by rw [z, hl] at h3; cases h3
        have hn3 : Hs3 D = none := s3.f D (by rw [hacc]; exact Option.some_ne_none _) nD
        refine ⟨sn.s, Evl.Ex.mut sn.i hn3, fun a o _ ea hn => ?_, fun a ha => ?_, sn.f, fun a ha => ?_⟩
        · have : a ≠ D := fun z => by rw [z, hD] at ea; cases ea
          rw [upd_ne this]; exact sn.k a o (by simp) ea hn
        · obtain ⟨ps, e1, t1⟩ := sn.t a ha
          have : a ≠ D := fun z => by
            rw [z, upd_ne hDl, h3] at e1; cases e1
          exact ⟨ps, by rw [upd_ne this]; exact e1, t1⟩
        · by_cases z : a = D
          · rw [z, upd_same]; exact Option.some_ne_none _
          · rw [upd_ne z]; exact sn.d a ha
      · rw [upd_same, List.map_append]; rfl
      · refine List.nodup_append.mpr ⟨hnd, by simp, fun a ha b hb => ?_⟩
        have hb' : b = l := by simpa using hb
        subst hb'
        intro z
        subst z
        have := s3.k a _ (by simp) (hq a ha).2.2.1 fun ps z => by cases z
        rw [hl] at this; cases this
      · exact s3.f D (by rw [hacc]; exact Option.some_ne_none _) nD
      · rcases List.mem_append.mp hqm with hqm | hqm
        · obtain ⟨a1, a2, a3, a4⟩ := hq q hqm
          have a5 := s3.k q _ (by simp) a3 fun ps z => by cases z
          have : q ≠ l := fun z => by rw [z, hl] at a5; cases a5
          exact ⟨a1, a2, by rw [upd_ne a2, upd_ne this]; exact a5, s3.f q (by rw [a3]; exact Option.some_ne_none _) a4⟩
        · have hql : q = l := by simpa using hqm
          subst hql
          have : q ≠ D := fun z => by rw [← z, hl] at h3; cases h3
          exact ⟨s13.fresh hl, this, by rw [upd_ne this, upd_same], Evl.fresh_back s13.i hl⟩
  · have en : i = Rs.length := by omega
    subst en
    refine .inl ⟨hJ2.stop Hs2 H2 (Evl.Ex.refl _) s2.i, k D qs Hs2 H2 (s1.trans s2) (s1.fresh hD) hacc hlen hnd fun q hqm => ?_⟩
    obtain ⟨a1, a2, a3, a4⟩ := hq q hqm
    exact ⟨s1.fresh a1, a2, a3⟩
end
end SD
end
section
set_option maxHeartbeats 4000000
namespace SD
open PySem PySem.Spec PyProof.Rows L2 SM
section
variable {K : PySem.W.Frag} {c : Ctx} {E : List Slo} {te ta tb ti : TE} {R S : Rp} {P P' : Op} {D : Ends} {t : TS} {ds : List PyData}
theorem ev_ixO {i : Nat} {n : Int} {d : PyData} (hi : E[i]? = some (.own (ownL K ds))) (h2 : Ev c E tb (isD K (.int n))) (h0 : 0 ≤ n) (hd : ds[n.toNat]? = some d) : Ev c E (tOp (rIxL K) (tVar i) tb) (isD K d) := fun σ Hs H e Q q => by
  obtain ⟨p, vs, a1, a2, a3, a4⟩ := e.own_at hi
  refine ⟨.ref p, a1, h2 σ Hs H e _ fun y Hs2 H2 s2 hy => ?_⟩
  obtain ⟨p', vs', b1, b2, b3, b4⟩ := (e.move s2).own_at hi
  rw [a1] at b1
  cases b1
  cases hy
  obtain ⟨v, g1, g2⟩ := dpAll_get b4 hd
  have ea := atI_of g1
  rw [Int.toNat_of_nonneg h0] at ea
  exact ⟨p, vs', n, v, rfl, rfl, SqL.of b3, ea, q v Hs2 H2 s2 g2⟩
theorem evT_ne0 {i : Nat} (hi : E[i]? = some (.own (ownL K ds))) (hs : SeqAt.shaped (.list ds) = true) : EvT c E (tTest (tOp (rNeD K) (tVar i) (tLst tNil))) (!PyData.eqv (.list ds) (.list [])) := fun σ Hs H e Q q => by
  obtain ⟨p, vs, a1, a2, a3, a4⟩ := e.own_at hi
  refine ⟨.ref p, a1, Nat.zero_le _, fun l hl => ?_⟩
  have s := Stp.newO (o := .lst []) e.ok.sub hl
  obtain ⟨p', vs', b1, b2, b3, b4⟩ := (e.move s).own_at hi
  rw [a1] at b1
  cases b1
  exact ⟨.list ds, .list [], .lst (SqL.of b3) (dpAll_ex s.i _ _ b4), .lst (SqL.of upd_same) .nil, hs, rfl, _, rfl, q Hs _ s⟩
theorem tri_pop {i j : Nat} {d : PyData} (hi : E[i]? = some (.own (ownL K (ds ++ [d])))) (k : Nx c ((E.set i (.own (ownL K ds))).set j (.is (isD K d))) D.nx) : Tri c E (tAsg (tBM0 K "list" rPop (tVar i)) (gName j)) D := fun σ Hs H e => by
  obtain ⟨p, vs, a1, a2, a3, a4⟩ := e.own_at hi
  have l := dpAll_length a4
  rw [List.length_append, List.length_singleton] at l
  have hd : (ds ++ [d])[vs.length - 1]? = some d := by
    rw [List.getElem?_append_right (by omega), l]; simp
  obtain ⟨v, g1, g2⟩ := dpAll_get a4 hd
  refine ⟨.ref p, a1, .inl ⟨rfl, vs, SqL.of a3⟩, p, vs, v, rfl, rfl, a3, g1, ?_⟩
  have hdl : DpAll K Hs vs.dropLast ds := by
    have hv : vs = vs.dropLast ++ [v] := by
      have hne : vs ≠ [] := fun z => by rw [z] at l; simp at l
      have h2 := List.dropLast_concat_getLast hne
      have h3 : vs.getLast hne = v := by
        rw [List.getLast_eq_getElem]
        rw [List.getElem?_eq_getElem (by omega)] at g1
        exact Option.some.inj g1
      rw [h3] at h2; exact h2.symm
    have cut : ∀ (us : List V) (es : List PyData) (u : V) (x : PyData), DpAll K Hs (us ++ [u]) (es ++ [x]) → us.length = es.length → DpAll K Hs us es := fun us => by
      induction us with
      | nil =>
        intro es u x h hl
        have : es = [] := List.length_eq_zero_iff.mp hl.symm
        subst this; exact .nil
      | cons u0 us ih =>
        intro es u x h hl
        match es, hl with
        | x0 :: es, hl =>
          cases h with
          | cons h1 h2 => exact .cons h1 (ih es u x h2 (by simpa using hl))
    rw [hv] at a4
    exact cut _ _ _ _ a4 (by rw [List.length_dropLast]; omega)
  have e2 := e.write hi a1 a3 (fun ps z => by cases z) (P' := ownL K ds) (o' := .lst vs.dropLast) ⟨_, rfl, hdl⟩
  exact k _ Hs _ (e2.set g2 j)
theorem dpAll_set {H : Hp} {v : V} {d : PyData} (hv : Dp K H v d) : ∀ {vs : List V} {ds : List PyData} (n : Nat), DpAll K H vs ds → DpAll K H (vs.set n v) (ds.set n d)
  | _, _, _, .nil => .nil
  | _, _, 0, .cons _ h => .cons hv h
  | _, _, n + 1, .cons h1 h2 => .cons h1 (dpAll_set hv n h2)
theorem tri_setI {i : Nat} {n : Int} {d : PyData} (hi : E[i]? = some (.own (ownL K ds))) (h : Ev c E te (isD K d)) (h2 : Ev c E tb (isD K (.int n))) (h0 : 0 ≤ n) (hn : n.toNat < ds.length) (k : Nx c (E.set i (.own (ownL K (ds.set n.toNat d)))) D.nx) : Tri c E (tAsg te (gSub (tVar i) tb rSetL)) D := fun σ Hs H e => h σ Hs H e _ fun v Hs1 H1 s1 hv => by
  have e1 := e.move s1
  obtain ⟨p, vs, a1, a2, a3, a4⟩ := e1.own_at hi
  refine ⟨.ref p, a1, h2 σ Hs1 H1 e1 _ fun y Hs2 H2 s2 hy => ?_⟩
  have e2 := e1.move s2
  obtain ⟨p', vs', b1, b2, b3, b4⟩ := e2.own_at hi
  rw [a1] at b1
  cases b1
  cases hy
  refine ⟨p, vs', n, n.toNat, rfl, rfl, b3, ?_, ?_⟩
  · unfold ixN
    rw [if_pos h0, if_pos (by rw [dpAll_length b4]; omega)]
  · exact k σ Hs2 _ (e2.write hi a1 b3 (fun ps z => by cases z) ⟨_, rfl, dpAll_set (dp_ex s2.s _ _ hv) _ b4⟩)
theorem tri_ext {i : Nat} {es : List PyData} (hi : E[i]? = some (.own (ownL K ds))) (h : Ev c E te (isLs K es)) (hl : ds.length + es.length ≤ 100000) (k : Nx c (E.set i (.own (ownL K (ds ++ es)))) D.nx) :
    Tri c E (tDrop (tBM K "list" rExtend (tVar i) (tCons te tNil))) D := fun σ Hs H e => by
  obtain ⟨p, vs, h1, h2, h3, h4⟩ := e.own_at hi
  refine ⟨.ref p, h1, .inl ⟨rfl, vs, SqL.of h3⟩, ?_⟩
  refine h σ Hs H e _ fun v Hs1 H1 s1 ⟨b, zs, z1, z2, z3⟩ => ?_
  have e1 := e.move s1
  obtain ⟨p', vs', g1, g2, g3, g4⟩ := e1.own_at hi
  rw [h1] at g1
  cases g1
  subst z1
  refine ⟨p, b, vs', zs, rfl, rfl, g3, s1.i _ _ z2, Evl.sz_of (by rw [dpAll_length g4, dpAll_length z3]; exact hl), ?_⟩
  exact k σ Hs1 _ (e1.write hi h1 g3 (fun ps z => by cases z) ⟨vs' ++ zs, rfl, dpAll_append g4 z3⟩)
end
end SD
end
section
set_option maxHeartbeats 4000000
namespace SD
open PySem PySem.Spec PyProof.Rows L2 SM
theorem canAll_iff : ∀ {ds : List PyData}, PyData.canLayAll0 ds = true ↔ ∀ d ∈ ds, d.canLay0 = true
  | [] => by simp [PyData.canLayAll0]
  | d :: ds => by
    have h := canAll_iff (ds := ds)
    simp [PyData.canLayAll0, h]
theorem depthAll_le {n : Nat} : ∀ {ds : List PyData}, (∀ d ∈ ds, d.depth ≤ n) → PyData.depthAll ds ≤ n
  | [], _ => by simp [PyData.depthAll]
  | d :: ds, h => by
    have h1 := h d (by simp)
    have h2 := depthAll_le (ds := ds) fun x hx => h x (by simp [hx])
    simp [PyData.depthAll]; omega
structure Enc {α : Type} (f : α → PyData) (n : Nat) : Prop where
  can : ∀ a, (f a).canLay0 = true
  dep : ∀ a, (f a).depth ≤ n
  eq : ∀ a b, PyData.eqv (f a) (f b) = true ↔ a = b
theorem Enc.shaped {α : Type} {f : α → PyData} {n : Nat} (e : Enc f n) (hn : n ≤ 64 := by decide) (a : α) : SeqAt.shaped (f a) = true := by
  unfold SeqAt.shaped
  rw [e.can a, Bool.true_and]
  exact decide_eq_true (Nat.le_trans (e.dep a) hn)
theorem Enc.eqb {α : Type} [DecidableEq α] {f : α → PyData} {n : Nat} (e : Enc f n) (a b : α) : PyData.eqv (f a) (f b) = decide (a = b) := by
  have := e.eq a b
  cases h : PyData.eqv (f a) (f b) with
  | true => exact (decide_eq_true (this.mp h)).symm
  | false => exact (decide_eq_false fun z => by rw [this.mpr z] at h; cases h).symm
theorem Enc.inj {α : Type} {f : α → PyData} {n : Nat} (e : Enc f n) {a b : α} (h : f a = f b) : a = b := (e.eq a b).mp (by rw [h]; exact (e.eq b b).mpr rfl)
theorem enc_int : Enc PyData.int 0 := ⟨fun _ => rfl, fun _ => Nat.le_refl _, fun a b => by simp [PyData.eqv]⟩
theorem enc_nat : Enc (fun n : Nat => PyData.int (n : Int)) 0 := ⟨fun _ => rfl, fun _ => Nat.le_refl _, fun a b => by simp [PyData.eqv]; omega⟩
theorem enc_bool : Enc PyData.bool 0 := ⟨fun _ => rfl, fun _ => Nat.le_refl _, fun a b => by simp [PyData.eqv]⟩
theorem enc_unit (d : PyData) (h : d.canLay0 = true) (h2 : d.depth ≤ 60) : Enc (fun _ : Unit => d) 60 := ⟨fun _ => h, fun _ => h2, fun a b => ⟨fun _ => rfl, fun _ => SeqAt.eqv_refl d h⟩⟩
section
variable {α β : Type} {f : α → PyData} {g : β → PyData} {n m : Nat}
theorem eqvAll_map (e : Enc f n) : ∀ xs ys : List α, PyData.eqvAll (xs.map f) (ys.map f) = true ↔ xs = ys
  | [], [] => by simp [PyData.eqvAll]
  | [], y :: ys => by simp [PyData.eqvAll]
  | x :: xs, [] => by simp [PyData.eqvAll]
  | x :: xs, y :: ys => by
    simp only [List.map_cons, PyData.eqvAll, Bool.and_eq_true, e.eq, eqvAll_map e xs ys, List.cons.injEq]
theorem Enc.list (e : Enc f n) : Enc (fun xs : List α => PyData.list (xs.map f)) (n + 1) := ⟨fun xs => by
    show PyData.canLayAll0 _ = true
    refine canAll_iff.mpr fun d hd => ?_
    obtain ⟨x, _, rfl⟩ := List.mem_map.mp hd
    exact e.can x, fun xs => by
    show PyData.depthAll _ + 1 ≤ n + 1
    have := depthAll_le (n := n) (ds := xs.map f) fun d hd => by
      obtain ⟨x, _, rfl⟩ := List.mem_map.mp hd
      exact e.dep x
    omega, fun a b => by
    rw [PyData.eqv]; exact eqvAll_map e a b⟩
theorem Enc.tup (e : Enc f n) : Enc (fun xs : List α => PyData.tuple (xs.map f)) (n + 1) := ⟨fun xs => by
    show PyData.canLayAll0 _ = true
    refine canAll_iff.mpr fun d hd => ?_
    obtain ⟨x, _, rfl⟩ := List.mem_map.mp hd
    exact e.can x, fun xs => by
    show PyData.depthAll _ + 1 ≤ n + 1
    have := depthAll_le (n := n) (ds := xs.map f) fun d hd => by
      obtain ⟨x, _, rfl⟩ := List.mem_map.mp hd
      exact e.dep x
    omega, fun a b => by
    rw [PyData.eqv]; exact eqvAll_map e a b⟩
theorem Enc.pair (e : Enc f n) (e' : Enc g m) : Enc (fun p : α × β => PyData.tuple [f p.1, g p.2]) (max n m + 1) := ⟨fun p => by
    show PyData.canLayAll0 _ = true
    simp [PyData.canLayAll0, e.can, e'.can], fun p => by
    show PyData.depthAll _ + 1 ≤ _
    have := e.dep p.1
    have := e'.dep p.2
    simp [PyData.depthAll]; omega, fun a b => by
    rw [PyData.eqv]
    simp only [PyData.eqvAll, Bool.and_eq_true, e.eq, e'.eq, and_true]
    exact ⟨fun h => Prod.ext h.1 h.2, fun h => by rw [h]; exact ⟨rfl, rfl⟩⟩⟩
theorem Enc.up (e : Enc f n) (h : n ≤ m) : Enc f m := ⟨e.can, fun a => Nat.le_trans (e.dep a) h, e.eq⟩
end
theorem enc_R : Enc dR 1 := ⟨fun _ => by simp [dR, PyData.canLay0, PyData.canLayAll0], fun _ => by simp [dR, PyData.depth, PyData.depthAll], fun a b => by
  unfold dR
  rw [PyData.eqv]
  simp only [PyData.eqvAll, PyData.eqv, Bool.and_eq_true, beq_iff_eq, and_true]
  constructor
  · rintro ⟨h1, h2⟩
    exact Rat.ext h1 (by omega)
  · intro h; subst h; exact ⟨rfl, rfl⟩⟩
theorem enc_P : Enc dP 1 := (enc_nat.pair enc_nat)
theorem enc_L : Enc dL 2 := enc_P.tup
theorem enc_Ls : Enc dLs 3 := enc_L.tup
theorem enc_Rs : Enc dRs 2 := enc_R.tup
theorem enc_Z : Enc dZ 1 := enc_int.tup
theorem enc_N : Enc dN 1 := enc_nat.tup
section
variable {K : PySem.W.Frag} {α : Type} [DecidableEq α] {f : α → PyData} {n : Nat}
theorem opV_eqE (e : Enc f n) (a b : α) (hn : n ≤ 64 := by decide) : OpV (rEqD K) (isD K (f a)) (isD K (f b)) (isD K (.bool (decide (a = b)))) := by
  have := opV_eqD (K := K) (e.shaped hn a) (e.shaped hn b)
  rw [e.eqb] at this; exact this
theorem opV_neE (e : Enc f n) (a b : α) (hn : n ≤ 64 := by decide) : OpV (rNeD K) (isD K (f a)) (isD K (f b)) (isD K (.bool (!decide (a = b)))) := by
  have := opV_neD (K := K) (e.shaped hn a) (e.shaped hn b)
  rw [e.eqb] at this; exact this
theorem any_enc (e : Enc f n) (a : α) (xs : List α) : ((xs.map f).any fun z => PyData.eqv z (f a)) = decide (a ∈ xs) := by
  induction xs with
  | nil => simp
  | cons x xs ih =>
    rw [List.map_cons, List.any_cons, ih, e.eqb]
    by_cases h : x = a
    · subst h; simp
    · have h' : ¬ a = x := fun z => h z.symm
      simp [h, h']
theorem opV_inE (e : Enc f n) (a : α) (xs : List α) (hn : n + 1 ≤ 64 := by decide) : OpV (rInD K) (isD K (f a)) (isD K (.list (xs.map f))) (isD K (.bool (decide (a ∈ xs)))) := by
  have := opV_inD (K := K) (e.shaped (by omega) a) (e.list.shaped hn xs)
  rw [any_enc e] at this; exact this
theorem opV_notInE (e : Enc f n) (a : α) (xs : List α) (hn : n + 1 ≤ 64 := by decide) : OpV (rNotInD K) (isD K (f a)) (isD K (.list (xs.map f))) (isD K (.bool (!decide (a ∈ xs)))) := by
  have := opV_notInD (K := K) (e.shaped (by omega) a) (e.list.shaped hn xs)
  rw [any_enc e] at this; exact this
end
end SD
end
section
namespace SM
def total (As : List (List Nat)) : Nat := (As.map List.length).sum
theorem le_total : ∀ {As : List (List Nat)} {r : List Nat}, r ∈ As → r.length ≤ total As
  | a :: As, r, h => by
    show r.length ≤ (a.length :: As.map List.length).sum
    rw [List.sum_cons]
    rcases List.mem_cons.mp h with e | e
    · subst e; omega
    · have := le_total e
      unfold total at this
      omega
def psOf (As : List (List Nat)) (i : Nat) : List (Nat × Nat) := ((As.take i).zipIdx).flatMap fun p => p.1.map fun y => (p.2, y)
def lsOf (n : Nat) (ps : List (Nat × Nat)) : List (List Nat) := (List.range n).map fun y => (ps.filter fun p => p.2 == y).map (·.1)
def BackOf (As : List (List Nat)) (ls : List (List Nat)) : Prop := ls.length = As.length ∧ ∀ (y : Nat) (l : List Nat), ls[y]? = some l → (∀ x, x ∈ l ↔ ∃ r, As[x]? = some r ∧ y ∈ r) ∧ l.length ≤ total As
theorem psOf_succ {As : List (List Nat)} {i : Nat} {r : List Nat} (h : As[i]? = some r) : psOf As (i + 1) = psOf As i ++ r.map fun y => (i, y) := by
  unfold psOf
  have hl := (List.getElem?_eq_some_iff.mp h).1
  rw [List.take_succ, h, Option.toList_some, List.zipIdx_append, List.flatMap_append]
  congr 1
  rw [List.length_take]
  simp
  intro a ha
  omega
theorem lsOf_len (n : Nat) (ps : List (Nat × Nat)) : (lsOf n ps).length = n := by unfold lsOf; simp
theorem lsOf_get {n y : Nat} (ps : List (Nat × Nat)) (h : y < n) : (lsOf n ps)[y]? = some ((ps.filter fun p => p.2 == y).map (·.1)) := by
  unfold lsOf; rw [List.getElem?_map, List.getElem?_range h]; rfl
theorem lsOf_snoc {n y j : Nat} (ps : List (Nat × Nat)) (x : Nat) (h : j < n) : (lsOf n (ps ++ [(x, y)]))[j]? = some (((ps.filter fun p => p.2 == j).map (·.1)) ++ if y = j then [x] else []) := by
  rw [lsOf_get _ h, List.filter_append, List.map_append]
  congr 2
  by_cases e : y = j
  · subst e; simp
  · rw [if_neg e]; simp [e]
theorem mem_psOf {As : List (List Nat)} {i x y : Nat} : (x, y) ∈ psOf As i ↔ x < i ∧ ∃ r, As[x]? = some r ∧ y ∈ r := by
  unfold psOf
  rw [List.mem_flatMap]
  constructor
  · rintro ⟨⟨r, k⟩, h1, h2⟩
    rw [List.mem_zipIdx_iff_getElem?] at h1
    simp only [List.mem_map, Prod.mk.injEq] at h2
    obtain ⟨y', hy, rfl, rfl⟩ := h2
    simp only at h1
    rw [List.getElem?_take] at h1
    split at h1
    · rename_i hlt
      exact ⟨hlt, r, h1, hy⟩
    · cases h1
  · rintro ⟨h1, r, h2, h3⟩
    refine ⟨(r, x), ?_, ?_⟩
    · rw [List.mem_zipIdx_iff_getElem?]
      simp only
      rw [List.getElem?_take, if_pos h1]; exact h2
    · exact List.mem_map.mpr ⟨y, h3, rfl⟩
theorem psOf_len (As : List (List Nat)) : ∀ i, i ≤ As.length → (psOf As i).length ≤ total As := fun i hi => by
  have h : ∀ i, i ≤ As.length → (psOf As i).length = ((As.take i).map List.length).sum := fun i => by
    induction i with
    | zero => intro _; rfl
    | succ i ih =>
      intro hi
      have hg : As[i]? = some As[i] := List.getElem?_eq_getElem hi
      rw [psOf_succ hg, List.length_append, ih (by omega), List.take_succ, hg, List.map_append, List.sum_append]
      simp
  rw [h i hi]
  unfold total
  have := List.take_append_drop i As
  conv => rhs; rw [← this, List.map_append, List.sum_append]
  omega
theorem backOf (As : List (List Nat)) : BackOf As (lsOf As.length (psOf As As.length)) := ⟨lsOf_len _ _, fun y l h => by
  have hy : y < As.length := by
    have := (List.getElem?_eq_some_iff.mp h).1
    rwa [lsOf_len] at this
  rw [lsOf_get _ hy] at h
  cases h
  constructor
  · intro x
    rw [List.mem_map]
    constructor
    · rintro ⟨⟨a, b⟩, h1, rfl⟩
      rw [List.mem_filter] at h1
      have hb : b = y := by simpa using h1.2
      subst hb
      exact (mem_psOf.mp h1.1).2
    · rintro ⟨r, h1, h2⟩
      refine ⟨(x, y), List.mem_filter.mpr ⟨mem_psOf.mpr ⟨(List.getElem?_eq_some_iff.mp h1).1, r, h1, h2⟩, by simp⟩, rfl⟩
  · rw [List.length_map]
    exact Nat.le_trans (List.length_filter_le _ _) (psOf_len As _ (Nat.le_refl _))⟩
inductive Reach (As : List (List Nat)) (ts : List Nat) : Nat → Prop where
  | here {x : Nat} : x ∈ ts → Reach As ts x
  | step {x y : Nat} {r : List Nat} : As[x]? = some r → y ∈ r → Reach As ts y → Reach As ts x
structure Go (As : List (List Nat)) (ts : List Nat) (rs : List Bool) (w : List Nat) : Prop where
  len : rs.length = As.length
  lt : ∀ z ∈ w, z < As.length
  wr : ∀ z ∈ w, Reach As ts z
  rr : ∀ x : Nat, rs[x]? = some true → Reach As ts x
  ts : ∀ z ∈ ts, z ∈ w ∨ rs[z]? = some true
  cl : ∀ (x y : Nat) (r : List Nat), rs[y]? = some true → As[x]? = some r → y ∈ r → x ∈ w ∨ rs[x]? = some true
theorem Go.start {As : List (List Nat)} {ts : List Nat} (h : ∀ z ∈ ts, z < As.length) : Go As ts (List.replicate As.length false) ts :=
  ⟨by simp, h, fun z hz => .here hz, fun x hx => by rw [List.getElem?_replicate] at hx; split at hx <;> simp at hx, fun z hz => .inl hz, fun x y r hx => by rw [List.getElem?_replicate] at hx; split at hx <;> simp at hx⟩
theorem Go.skip {As : List (List Nat)} {ts : List Nat} {rs : List Bool} {w : List Nat} {z : Nat} (g : Go As ts rs (w ++ [z])) (h : rs[z]? = some true) : Go As ts rs w :=
  ⟨g.len, fun x hx => g.lt x (by simp [hx]), fun x hx => g.wr x (by simp [hx]), g.rr, fun x hx => by
    rcases g.ts x hx with q | q
    · rcases List.mem_append.mp q with q | q
      · exact .inl q
      · have : x = z := by simpa using q
        subst this; exact .inr h
    · exact .inr q, fun x y r h1 h2 h3 => by
    rcases g.cl x y r h1 h2 h3 with q | q
    · rcases List.mem_append.mp q with q | q
      · exact .inl q
      · have : x = z := by simpa using q
        subst this; exact .inr h
    · exact .inr q⟩
theorem Go.take {As : List (List Nat)} {ts : List Nat} {rs : List Bool} {w l : List Nat} {z : Nat} (g : Go As ts rs (w ++ [z])) (hl : ∀ x, x ∈ l ↔ ∃ r, As[x]? = some r ∧ z ∈ r) : Go As ts (rs.set z true) (w ++ l) := by
  have hz : z < rs.length := by rw [g.len]; exact g.lt z (by simp)
  have rz : Reach As ts z := g.wr z (by simp)
  have old : ∀ x : Nat, (rs[x]? = some true) → (rs.set z true)[x]? = some true := fun x hx => by
    by_cases e : z = x
    · subst e; rw [List.getElem?_set_self hz]
    · rw [List.getElem?_set_ne e]; exact hx
  refine ⟨by rw [List.length_set]; exact g.len, fun x hx => ?_, fun x hx => ?_, fun x hx => ?_, fun x hx => ?_, fun x y r h1 h2 h3 => ?_⟩
  · rcases List.mem_append.mp hx with q | q
    · exact g.lt x (by simp [q])
    · obtain ⟨r, h1, _⟩ := (hl x).mp q
      exact (List.getElem?_eq_some_iff.mp h1).1
  · rcases List.mem_append.mp hx with q | q
    · exact g.wr x (by simp [q])
    · obtain ⟨r, h1, h2⟩ := (hl x).mp q
      exact .step h1 h2 rz
  · by_cases e : z = x
    · subst e; exact rz
    · rw [List.getElem?_set_ne e] at hx; exact g.rr x hx
  · rcases g.ts x hx with q | q
    · rcases List.mem_append.mp q with q | q
      · exact .inl (by simp [q])
      · have : x = z := by simpa using q
        subst this; right; rw [List.getElem?_set_self hz]
    · exact .inr (old x q)
  · by_cases e : z = y
    · subst e
      exact .inl (List.mem_append.mpr (.inr ((hl x).mpr ⟨r, h2, h3⟩)))
    · rw [List.getElem?_set_ne e] at h1
      rcases g.cl x y r h1 h2 h3 with q | q
      · rcases List.mem_append.mp q with q | q
        · exact .inl (by simp [q])
        · have : x = z := by simpa using q
          subst this; right; rw [List.getElem?_set_self hz]
      · exact .inr (old x q)
theorem Go.done {As : List (List Nat)} {ts : List Nat} {rs : List Bool} (g : Go As ts rs []) (x : Nat) : rs[x]? = some true ↔ Reach As ts x := ⟨g.rr x, fun h => by
  induction h with
  | here h => rcases g.ts _ h with q | q
              · cases q
              · exact q
  | step h1 h2 _ ih => rcases g.cl _ _ _ ih h1 h2 with q | q
                       · cases q
                       · exact q⟩
def goM (As : List (List Nat)) (rs : List Bool) (w : List Nat) : Nat := (rs.count false) * (total As + 1) + w.length
theorem count_set {rs : List Bool} {z : Nat} (h : rs[z]? = some false) : (rs.set z true).count false + 1 = rs.count false := by
  induction rs generalizing z with
  | nil => simp at h
  | cons r rs ih =>
    cases z with
    | zero => simp at h; subst h; simp
    | succ z =>
      have := ih (z := z) (by simpa using h)
      rw [List.set_cons_succ, List.count_cons, List.count_cons]; omega
theorem goM_skip {As : List (List Nat)} {rs : List Bool} {w : List Nat} {z : Nat} : goM As rs w < goM As rs (w ++ [z]) := by unfold goM; simp
theorem goM_take {As : List (List Nat)} {rs : List Bool} {w l : List Nat} {z : Nat} (h : rs[z]? = some false) (hl : l.length ≤ total As) : goM As (rs.set z true) (w ++ l) < goM As rs (w ++ [z]) := by
  have := count_set h
  unfold goM
  rw [List.length_append, List.length_append, List.length_singleton, ← this, Nat.add_mul]
  omega
noncomputable def reachL (As : List (List Nat)) (ts : List Nat) : List Nat := (List.range As.length).filter fun x => @decide (Reach As ts x) (Classical.propDecidable _)
theorem mem_reachL {As : List (List Nat)} {ts : List Nat} {x : Nat} : x ∈ reachL As ts ↔ x < As.length ∧ Reach As ts x := by
  unfold reachL
  rw [List.mem_filter, List.mem_range]
  simp
theorem zipIdx_range {α : Type} (rs : List α) (d : α) : rs.zipIdx = (List.range rs.length).map fun i => (rs.getD i d, i) := by
  apply List.ext_getElem?
  intro i
  rw [List.getElem?_zipIdx, List.getElem?_map]
  by_cases h : i < rs.length
  · rw [List.getElem?_range h, List.getElem?_eq_getElem h]
    simp [List.getD_eq_getElem?_getD, List.getElem?_eq_getElem h]
  · rw [List.getElem?_eq_none (Nat.le_of_not_lt h), List.getElem?_eq_none (by simp; omega)]; rfl
theorem reach_of {As : List (List Nat)} {ts : List Nat} {rs : List Bool} (hl : rs.length = As.length) (h : ∀ x, rs[x]? = some true ↔ Reach As ts x) : (rs.zipIdx.filter fun p => p.1).map (fun p => p.2) = reachL As ts := by
  rw [zipIdx_range rs false, List.filter_map, List.map_map]
  unfold reachL
  rw [hl]
  have e : ((fun p : Bool × Nat => p.2) ∘ fun i => (rs.getD i false, i)) = id := by funext i; rfl
  rw [e, List.map_id]
  apply List.filter_congr
  intro x hx
  have hx' := List.mem_range.mp hx
  have := h x
  show rs.getD x false = _
  rw [List.getD_eq_getElem?_getD, List.getElem?_eq_getElem (by omega)]
  rw [List.getElem?_eq_getElem (by omega)] at this
  cases hc : rs[x]'(by omega) with
  | true =>
    rw [hc] at this
    exact (@decide_eq_true _ (Classical.propDecidable _) (this.mp rfl)).symm
  | false =>
    rw [hc] at this
    exact (@decide_eq_false _ (Classical.propDecidable _) fun z => by have := this.mpr z; cases this).symm
end SM
end
section
namespace SM
open Classical
section
variable {b : Bd} {way : List Int}
theorem row_get (g : GB b) {x : Nat} (hx : x < b.size) : b.plays[x]? = some (b.row x) := by
  have h : x < b.plays.length := by rw [g.len]; exact hx
  unfold Bd.row
  rw [List.getD_eq_getElem?_getD, List.getElem?_eq_getElem h]; rfl
theorem pay_get {x : Nat} (hx : x < b.size) : b.pays[x]? = some (b.pay x) := by
  have h : x < b.pays.length := hx
  unfold Bd.pay
  rw [List.getD_eq_getElem?_getD, List.getElem?_eq_getElem h]; rfl
theorem way_get (w : WayOk b way) {x : Nat} (hx : x < b.size) : way[x]? = some (ch way x) := by
  have h : x < way.length := by rw [w.len]; exact hx
  unfold ch
  rw [List.getD_eq_getElem?_getD, List.getElem?_eq_getElem h]; rfl
theorem lot_get (w : WayOk b way) {x : Nat} (hx : x < b.size) (h : ch way x ≠ -1) : 0 ≤ ch way x ∧ (b.row x)[(ch way x).toNat]? = some (b.lot way x) := by
  obtain ⟨h1, h2⟩ := w.rng x hx
  have h3 : (ch way x).toNat < (b.row x).length := by omega
  refine ⟨by omega, ?_⟩
  unfold Bd.lot
  rw [List.getD_eq_getElem?_getD, List.getElem?_eq_getElem h3]; rfl
def led (b : Bd) (way : List Int) (x : Nat) : List Nat := if ch way x = -1 then [] else (b.lot way x).map (·.1)
def leds (b : Bd) (way : List Int) : List (List Nat) := (List.range b.size).map (led b way)
def stops (b : Bd) (way : List Int) : List Nat := (List.range b.size).filter fun x => ch way x = -1
noncomputable def liveL (b : Bd) (way : List Int) : List Nat := (List.range b.size).filter fun x => decide (Live b way x)
theorem leds_get {x : Nat} (hx : x < b.size) : (leds b way)[x]? = some (led b way x) := by
  unfold leds; rw [List.getElem?_map, List.getElem?_range hx]; rfl
theorem leds_len : (leds b way).length = b.size := by unfold leds; simp
theorem led_lt (g : GB b) (w : WayOk b way) {x y : Nat} (hx : x < b.size) (h : y ∈ led b way x) : y < b.size := by
  unfold led at h
  split at h
  · cases h
  · rename_i hc
    obtain ⟨p, hp, rfl⟩ := List.mem_map.mp h
    exact (g.row_mem (w.lot_mem hx hc)).lt p hp
theorem led_len (g : GB b) (w : WayOk b way) {x : Nat} (hx : x < b.size) : (led b way x).length ≤ 3 := by
  unfold led
  split
  · simp
  · rename_i hc
    rw [List.length_map]
    exact (g.row_mem (w.lot_mem hx hc)).len
theorem total_le {n : Nat} : ∀ {As : List (List Nat)}, (∀ r ∈ As, r.length ≤ n) → total As ≤ As.length * n
  | [], _ => by simp [total]
  | a :: As, h => by
    have h1 := h a (by simp)
    have h2 := total_le (As := As) fun r hr => h r (by simp [hr])
    unfold total at h2 ⊢
    rw [List.map_cons, List.sum_cons, List.length_cons, Nat.add_mul]; omega
theorem leds_total (g : GB b) (w : WayOk b way) : total (leds b way) ≤ 30 := by
  have := total_le (As := leds b way) (n := 3) fun r hr => by
    unfold leds at hr
    obtain ⟨x, hx, rfl⟩ := List.mem_map.mp hr
    exact led_len g w (List.mem_range.mp hx)
  rw [leds_len] at this
  have := g.size
  omega
theorem reach_live (g : GB b) (w : WayOk b way) (x : Nat) : Reach (leds b way) (stops b way) x ↔ Live b way x := by
  constructor
  · intro h
    induction h with
    | here h =>
      unfold stops at h
      rw [List.mem_filter, List.mem_range] at h
      exact .stop h.1 (by simpa using h.2)
    | @step x y r h1 h2 _ ih =>
      have hx : x < b.size := by
        have := (List.getElem?_eq_some_iff.mp h1).1
        rwa [leds_len] at this
      rw [leds_get hx] at h1
      cases h1
      unfold led at h2
      split at h2
      · cases h2
      · rename_i hc
        obtain ⟨p, hp, rfl⟩ := List.mem_map.mp h2
        exact .step hx hc hp ih
  · intro h
    induction h with
    | stop h1 h2 => exact .here (List.mem_filter.mpr ⟨List.mem_range.mpr h1, by simpa using h2⟩)
    | @step x p h1 h2 h3 _ ih =>
      refine .step (leds_get h1) ?_ ih
      unfold led
      rw [if_neg h2]
      exact List.mem_map.mpr ⟨p, h3, rfl⟩
theorem reach_liveL (g : GB b) (w : WayOk b way) : reachL (leds b way) (stops b way) = liveL b way := by
  unfold reachL liveL
  rw [leds_len]
  apply List.filter_congr
  intro x _
  exact decide_eq_decide.mpr (reach_live g w x)
theorem inner_of : (liveL b way).filter (fun x => !decide (ch way x = -1)) = inner b way := by
  unfold liveL inner
  rw [List.filter_filter]
  apply List.filter_congr
  intro x _
  unfold InnerP
  by_cases h1 : Live b way x <;> by_cases h2 : ch way x = -1 <;> simp [h1, h2]
theorem stops_of (w : WayOk b way) : (way.zipIdx.filter fun p => decide (p.1 = -1)).map (·.2) = stops b way := by
  rw [zipIdx_range way (-1), List.filter_map, List.map_map, w.len]
  unfold stops
  have e : ((fun p : Int × Nat => p.2) ∘ fun i => (way.getD i (-1), i)) = id := by funext i; rfl
  rw [e, List.map_id]
  apply List.filter_congr
  intro x _
  rfl
theorem wto_app : ∀ {M : Lot} {L : Lot} {t : Nat}, (∀ p ∈ M, p.1 ≠ t) → wto (M ++ L) t = wto L t
  | [], _, _, _ => rfl
  | p :: M, L, t, h => by
    show (if p.1 = t then p.2 else wto (M ++ L) t) = wto L t
    rw [if_neg (h p (by simp))]
    exact wto_app fun r hr => h r (by simp [hr])
theorem stopZ_app (b : Bd) (way : List Int) : ∀ M L : Lot, stopZ b way (M ++ L) = stopZ b way M + stopZ b way L
  | [], L => by
    show stopZ b way L = 0 + stopZ b way L
    omega
  | p :: M, L => by
    show _ + stopZ b way (M ++ L) = (_ + stopZ b way M) + stopZ b way L
    rw [stopZ_app b way M L]; omega
theorem wh_app : ∀ M L : Lot, wh (M ++ L) = wh M + wh L
  | [], L => by
    show wh L = 0 + wh L
    omega
  | p :: M, L => by
    show p.2 + wh (M ++ L) = (p.2 + wh M) + wh L
    rw [wh_app M L]; omega
theorem stopZ_bd (g : GB b) : ∀ L : Lot, 0 ≤ stopZ b way L ∧ stopZ b way L ≤ (wh L : Int)
  | [] => ⟨Int.le_refl _, Int.le_refl _⟩
  | p :: L => by
    obtain ⟨h1, h2⟩ := stopZ_bd g L
    show 0 ≤ (if ch way p.1 = -1 then (p.2 : Int) * (b.pay p.1).num else 0) + stopZ b way L ∧ (if ch way p.1 = -1 then (p.2 : Int) * (b.pay p.1).num else 0) + stopZ b way L ≤ ((p.2 + wh L : Nat) : Int)
    split
    · rcases g.pay01 p.1 with e | e <;> rw [e]
      · rw [show (0 : Rat).num = 0 from rfl]; omega
      · rw [show (1 : Rat).num = 1 from rfl]; omega
    · omega
end
end SM
end
section
set_option maxHeartbeats 4000000
namespace SD
open PySem PySem.Spec PyProof.Rows L2 SM
section
variable {K : PySem.W.Frag} {c : Ctx} {E : List Slo} {wi : TI} {g : TG} {α : Type}
theorem tri_forP {tb : TS} {D : Ends} {xs : List α} {gd : α → PyData} (Pr : List α → Prop) (p0 : Pr []) (hi : Its c E wi ((xs.map gd).map (isD K))) (I : List α → List Slo) (h0 : Weak E (I []))
    (turn : ∀ (c' : Ctx) (done : List α) (x : α), c'.T = c.T → c'.X = c.X → c'.Hs0 = c.Hs0 → c'.H0 = c.H0 → done ++ [x] <+: xs → Pr done → ∃ js E1, Tgt c' (I done) g (isD K (gd x)) js E1 ∧ ∀ D' : Ends, D'.rt = D.rt → D'.bk = D.nx → (Pr (done ++ [x]) → Nx c' (I (done ++ [x])) D'.nx) → (Pr (done ++ [x]) → Nx c' (I (done ++ [x])) D'.ct) → Tri c' E1 tb D')
    (hd : Pr xs → Nx c (I xs) D.nx) : Tri c E (tFor wi g tb) D := by
  classical
  refine tri_forM hi (fun M => if Pr M then I M else [.is noR]) (by rw [if_pos p0]; exact h0) (fun c' done x e1 e2 e3 e4 hp => ?_) ?_
  · by_cases h : Pr done
    · rw [if_pos h]
      obtain ⟨js, E1, t, b⟩ := turn c' done x e1 e2 e3 e4 hp h
      refine ⟨js, E1, t, fun D' a1 a2 a3 a4 => b D' a1 a2 (fun z => ?_) fun z => ?_⟩
      · rw [if_pos z] at a3; exact a3
      · rw [if_pos z] at a4; exact a4
    · rw [if_neg h]
      refine ⟨[], [.is noR], ⟨fun σ Hs H v e _ => ?_⟩, fun D' _ _ _ _ => tri_absurd (i := 0) rfl⟩
      obtain ⟨v, _, z⟩ := e.val 0 _ rfl
      exact z.elim
  · by_cases h : Pr xs
    · rw [if_pos h]; exact hd h
    · rw [if_neg h]
      intro σ Hs H e
      obtain ⟨v, _, z⟩ := e.val 0 _ rfl
      exact z.elim
end
end SD
end
section
set_option maxHeartbeats 4000000
set_option exponentiation.threshold 100000
namespace SD
open PySem PySem.Spec PyProof.Rows L2 SH SM
section
def p_ratio (K : PySem.W.Frag) (C : Addr) : Prom := ⟨Int × Int, fun a => 0 < a.2 ∧ a.2.natAbs < 2 ^ 9000, fun a => [isD K (.int a.1), isD K (.int a.2)], fun a => isD K (dR (Rat.divInt a.1 a.2))⟩
def p_plus (K : PySem.W.Frag) (C : Addr) : Prom := ⟨Rat × Rat, fun a => Sm a.1 ∧ Sm a.2, fun a => [isD K (dR a.1), isD K (dR a.2)], fun a => isD K (dR (a.1 + a.2))⟩
def p_times (K : PySem.W.Frag) (C : Addr) : Prom := ⟨Rat × Rat, fun a => Sm a.1 ∧ Sm a.2, fun a => [isD K (dR a.1), isD K (dR a.2)], fun a => isD K (dR (a.1 * a.2))⟩
def p_less (K : PySem.W.Frag) (C : Addr) : Prom := ⟨Rat × Rat, fun a => SmB a.1 ∧ SmB a.2, fun a => [isD K (dR a.1), isD K (dR a.2)], fun a => isD K (.bool (decide (a.1 < a.2)))⟩
def p_is_number (K : PySem.W.Frag) (C : Addr) : Prom := ⟨PyData, fun _ => True, fun a => [isD K a], fun a => isD K (.bool (isI a))⟩
def p_is_ratio (K : PySem.W.Frag) (C : Addr) : Prom := ⟨Rat, fun _ => True, fun a => [isD K (dR a)], fun a => isD K (.bool true)⟩
def p_weight_of (K : PySem.W.Frag) (C : Addr) : Prom := ⟨Lot, fun a => a.length ≤ 1000, fun a => [isD K (dL a)], fun a => isD K (.int (wh a : Nat))⟩
def p_average (K : PySem.W.Frag) (C : Addr) : Prom := ⟨List Rat × Lot, fun a => a.2.length ≤ 3 ∧ (∀ p ∈ a.2, p.1 < a.1.length ∧ 0 < p.2) ∧ (∀ r ∈ a.1, Sm r) ∧ 0 < wh a.2 ∧ wh a.2 ≤ 27, fun a => [isD K (dRs a.1), isD K (dL a.2)], fun a => isD K (dR (avg (fun x => a.1.getD x 0) a.2))⟩
theorem wh_map : ∀ L : Lot, (L.map fun p : Nat × Nat => (p.2 : Int)).sum = (wh L : Int)
  | [] => rfl
  | p :: L => by
    show (p.2 : Int) + (L.map fun p : Nat × Nat => (p.2 : Int)).sum = ((p.2 + wh L : Nat) : Int)
    rw [wh_map L]; omega
theorem wh_mem : ∀ {L : Lot} {p : Nat × Nat}, p ∈ L → p.2 ≤ wh L
  | q :: L, p, h => by
    show p.2 ≤ q.2 + wh L
    rcases List.mem_cons.mp h with e | e
    · subst e; omega
    · have := wh_mem e; omega
variable {P : Program} {w : World} {K : PySem.W.Frag} {mg : Str → Option Value} {base : Heap} {T : List Addr} {C : Addr}
theorem sc_ratio : FnScope ["n", "d", "common"] ["n", "d"] (defScope s_ratio) := ⟨rfl, rfl, rfl, by decide +kernel, rfl, by decide +kernel, by decide +kernel⟩
theorem ok_ratio {f : Addr} {fd : FuncData} (F : FunD K "ratio" "ratio" (defArgs s_ratio) (defBody s_ratio) (defScope s_ratio) [] [] f fd) (hm : mg "ratio" = some (.ref f)) (B : Blt mg)   : Has P w K mg base "ratio" ["n", "d"] 1 (spOf T (p_ratio K C)) :=
  has_of F hm sc_ratio (fun _ _ _ _ _ _ us hl => match us, hl with | [_, _], _ => rfl) (fun _ => rfl) (by decide) fun cdv A outer s H E hr a c D hT hX hs q hnx => by
    subst hT
    refine ⟨_, (pss_cons (ps_if (pt_cmpR op_eq (pv 1) pe_int (nomark _)) (pss_one ps_never) pss_nil)
      (pss_cons (ps_set (i := 2) sc_ratio.nd rfl (.inl rfl) (pe_callBfun cr_gcd (by rfl) B.gcd (pa_cons (pv 0) (pa_cons (pv 1) pa_nil))))
      (pss_cons (ps_if (pt_cmpR op_lt (pv 1) pe_int (nomark _)) (pss_one (ps_set (i := 2) sc_ratio.nd rfl (.inl rfl) (pe_un un_neg (pv 2)))) pss_nil)
      (pss_one (ps_ret (pe_tup (pa_cons (pe_op op_fdivW (pv 0) (pv 2)) (pa_cons (pe_op op_fdivW (pv 1) (pv 2)) pa_nil)))))))), ?_⟩
    obtain ⟨n, d⟩ := a
    obtain ⟨h0, hb⟩ := hs
    have hg : 0 < n.natAbs.gcd d.natAbs := Nat.gcd_pos_of_pos_right _ (by omega)
    have hg2 : n.natAbs.gcd d.natAbs ≤ d.natAbs := Nat.gcd_le_right _ (by omega)
    have hW : ∀ i : Int, CDivW i ((n.natAbs.gcd d.natAbs : Nat) : Int) := fun i => divW_of 9000 (by omega) (by rw [Int.natAbs_natCast]; exact Nat.lt_of_le_of_lt hg2 hb)
    refine tri_seq (tri_ifF (evT_is (evT_test (ev_op (ev_var rfl) ev_int opV_eqI)) (decide_eq_false (by omega))) (tri_next ?_))
    refine tri_seq (tri_asg (ev_CB (evA_cons (ev_var rfl) (evA_cons (ev_var rfl) evA_nil)) caV_gcd) ?_)
    refine tri_seq (tri_ifF (evT_is (evT_test (ev_op (ev_var rfl) ev_int opV_bool)) (decide_eq_false (by omega))) (tri_next ?_))
    refine tri_ret (ev_is (ev_tup (ds := [_, _]) (evA_cons (ev_op (ev_var rfl) (ev_var rfl) (opV_divW (hW _))) (evA_cons (ev_op (ev_var rfl) (ev_var rfl) (opV_divW (hW _))) evA_nil))) ?_) q
    unfold dR
    rw [divInt_num h0, divInt_den h0]
theorem sc_plus : FnScope ["a", "b"] ["a", "b"] (defScope s_plus) := ⟨rfl, rfl, rfl, by decide +kernel, rfl, by decide +kernel, by decide +kernel⟩
theorem ok_plus {f : Addr} {fd : FuncData} (F : FunD K "plus" "plus" (defArgs s_plus) (defBody s_plus) (defScope s_plus) [] [] f fd) (hm : mg "plus" = some (.ref f)) (B : Blt mg)  (h_ratio : Has P w K mg base "ratio" ["n", "d"] 1 (spOf T (p_ratio K C))) : Has P w K mg base "plus" ["a", "b"] 2 (spOf T (p_plus K C)) :=
  has_of F hm sc_plus (fun _ _ _ _ _ _ us hl => match us, hl with | [_, _], _ => rfl) (fun _ => rfl) (by decide) fun cdv A outer s H E hr a c D hT hX hs q hnx => by
    subst hT
    refine ⟨_, (pss_one (ps_ret (pe_has (h_ratio.mono (by decide)) (hr) (pa_cons (pe_op op_add (pe_op op_mulW (pe_ix (k_ixT K) (pv 0) pe_int (fun _ _ => rfl)) (pe_ix (k_ixT K) (pv 1) pe_int (fun _ _ => rfl))) (pe_op op_mulW (pe_ix (k_ixT K) (pv 1) pe_int (fun _ _ => rfl)) (pe_ix (k_ixT K) (pv 0) pe_int (fun _ _ => rfl)))) (pa_cons (pe_op op_mulW (pe_ix (k_ixT K) (pv 0) pe_int (fun _ _ => rfl)) (pe_ix (k_ixT K) (pv 1) pe_int (fun _ _ => rfl))) pa_nil))))), ?_⟩
    obtain ⟨x, y⟩ := a
    obtain ⟨hx, hy⟩ := hs
    refine tri_ret (ev_weak (ev_call (p := p_ratio K C) (_, _) (evA_cons (ev_op (ev_op (ev_op (ev_var rfl) ev_int (opV_ixT (by decide) rfl)) (ev_op (ev_var rfl) ev_int (opV_ixT (by decide) rfl)) (opV_mulW (mulW_of 90 90 hx.1 hy.d)))
      (ev_op (ev_op (ev_var rfl) ev_int (opV_ixT (by decide) rfl)) (ev_op (ev_var rfl) ev_int (opV_ixT (by decide) rfl)) (opV_mulW (mulW_of 90 90 hy.1 hx.d))) opV_int)
      (evA_cons (ev_op (ev_op (ev_var rfl) ev_int (opV_ixT (by decide) rfl)) (ev_op (ev_var rfl) ev_int (opV_ixT (by decide) rfl)) (opV_mulW (mulW_of 90 90 hx.d hy.d))) evA_nil)) ⟨Int.mul_pos (den_pos x) (den_pos y), lt_up _ (mul_lt2 hx.d hy.d) (by decide)⟩) (fun H v h => ?_)) q
    have e := divInt_add' x y
    show Dp K H v (dR (x + y))
    rw [← e]; exact h
theorem sc_times : FnScope ["a", "b"] ["a", "b"] (defScope s_times) := ⟨rfl, rfl, rfl, by decide +kernel, rfl, by decide +kernel, by decide +kernel⟩
theorem ok_times {f : Addr} {fd : FuncData} (F : FunD K "times" "times" (defArgs s_times) (defBody s_times) (defScope s_times) [] [] f fd) (hm : mg "times" = some (.ref f)) (B : Blt mg)  (h_ratio : Has P w K mg base "ratio" ["n", "d"] 1 (spOf T (p_ratio K C))) : Has P w K mg base "times" ["a", "b"] 2 (spOf T (p_times K C)) :=
  has_of F hm sc_times (fun _ _ _ _ _ _ us hl => match us, hl with | [_, _], _ => rfl) (fun _ => rfl) (by decide) fun cdv A outer s H E hr a c D hT hX hs q hnx => by
    subst hT
    refine ⟨_, (pss_one (ps_ret (pe_has (h_ratio.mono (by decide)) (hr) (pa_cons (pe_op op_mulW (pe_ix (k_ixT K) (pv 0) pe_int (fun _ _ => rfl)) (pe_ix (k_ixT K) (pv 1) pe_int (fun _ _ => rfl))) (pa_cons (pe_op op_mulW (pe_ix (k_ixT K) (pv 0) pe_int (fun _ _ => rfl)) (pe_ix (k_ixT K) (pv 1) pe_int (fun _ _ => rfl))) pa_nil))))), ?_⟩
    obtain ⟨x, y⟩ := a
    obtain ⟨hx, hy⟩ := hs
    refine tri_ret (ev_weak (ev_call (p := p_ratio K C) (_, _) (evA_cons (ev_op (ev_op (ev_var rfl) ev_int (opV_ixT (by decide) rfl)) (ev_op (ev_var rfl) ev_int (opV_ixT (by decide) rfl)) (opV_mulW (mulW_of 90 90 hx.1 hy.1)))
      (evA_cons (ev_op (ev_op (ev_var rfl) ev_int (opV_ixT (by decide) rfl)) (ev_op (ev_var rfl) ev_int (opV_ixT (by decide) rfl)) (opV_mulW (mulW_of 90 90 hx.d hy.d))) evA_nil)) ⟨Int.mul_pos (den_pos x) (den_pos y), lt_up _ (mul_lt2 hx.d hy.d) (by decide)⟩) (fun H v h => ?_)) q
    have e := divInt_mul' x y
    show Dp K H v (dR (x * y))
    rw [← e]; exact h
theorem sc_less : FnScope ["a", "b"] ["a", "b"] (defScope s_less) := ⟨rfl, rfl, rfl, by decide +kernel, rfl, by decide +kernel, by decide +kernel⟩
theorem ok_less {f : Addr} {fd : FuncData} (F : FunD K "less" "less" (defArgs s_less) (defBody s_less) (defScope s_less) [] [] f fd) (hm : mg "less" = some (.ref f)) (B : Blt mg)   : Has P w K mg base "less" ["a", "b"] 1 (spOf T (p_less K C)) :=
  has_of F hm sc_less (fun _ _ _ _ _ _ us hl => match us, hl with | [_, _], _ => rfl) (fun _ => rfl) (by decide) fun cdv A outer s H E hr a c D hT hX hs q hnx => by
    subst hT
    refine ⟨_, (pss_one (ps_ret (pe_cmpR op_lt (pe_op op_mulW (pe_ix (k_ixT K) (pv 0) pe_int (fun _ _ => rfl)) (pe_ix (k_ixT K) (pv 1) pe_int (fun _ _ => rfl))) (pe_op op_mulW (pe_ix (k_ixT K) (pv 1) pe_int (fun _ _ => rfl)) (pe_ix (k_ixT K) (pv 0) pe_int (fun _ _ => rfl))) (nomark _)))), ?_⟩
    obtain ⟨x, y⟩ := a
    obtain ⟨hx, hy⟩ := hs
    refine tri_ret (ev_is (ev_op (ev_op (ev_op (ev_var rfl) ev_int (opV_ixT (by decide) rfl)) (ev_op (ev_var rfl) ev_int (opV_ixT (by decide) rfl)) (opV_mulW (mulW_of 400 400 hx.1 hy.d)))
      (ev_op (ev_op (ev_var rfl) ev_int (opV_ixT (by decide) rfl)) (ev_op (ev_var rfl) ev_int (opV_ixT (by decide) rfl)) (opV_mulW (mulW_of 400 400 hy.1 hx.d))) opV_bool) ?_) q
    congr 1
    exact decide_eq_decide.mpr (lt_nd x y).symm
theorem sc_is_number : FnScope ["thing"] ["thing"] (defScope s_is_number) := ⟨rfl, rfl, rfl, by decide +kernel, rfl, by decide +kernel, by decide +kernel⟩
theorem ok_is_number {f : Addr} {fd : FuncData} (F : FunD K "is_number" "is_number" (defArgs s_is_number) (defBody s_is_number) (defScope s_is_number) [] [] f fd) (hm : mg "is_number" = some (.ref f)) (B : Blt mg)   : Has P w K mg base "is_number" ["thing"] 1 (spOf T (p_is_number K C)) :=
  has_of F hm sc_is_number (fun _ _ _ _ _ _ us hl => match us, hl with | [_], _ => rfl) (fun _ => rfl) (by decide) fun cdv A outer s H E hr a c D hT hX hs q hnx => by
    subst hT
    refine ⟨_, (pss_one (ps_ret (pe_and (pe_callB (k_isi K) (by rfl) B.isinstance (by decide +kernel) (pa_cons (pv 0) (pa_cons (pe_bltn (v := .ty "int") (by rfl) B.int (by decide +kernel) rfl) pa_nil))) (pe_one (pe_not (pe_callB (k_isi K) (by rfl) B.isinstance (by decide +kernel) (pa_cons (pv 0) (pa_cons (pe_bltn (v := .ty "bool") (by rfl) B.bool (by decide +kernel) rfl) pa_nil)))))))), ?_⟩
    refine tri_ret (ev_is (ev_andV (ev_CB (evA_cons (ev_var rfl) (evA_cons ev_ty evA_nil)) (caV_isi (kit_int a))) (fun _ => ev_notV (ev_CB (evA_cons (ev_var rfl) (evA_cons ev_ty evA_nil)) (caV_isi (kit_bool a))))) ?_) q
    cases a <;> rfl
theorem sc_is_ratio : FnScope ["thing", "n", "d"] ["thing"] (defScope s_is_ratio) := ⟨rfl, rfl, rfl, by decide +kernel, rfl, by decide +kernel, by decide +kernel⟩
theorem ok_is_ratio {f : Addr} {fd : FuncData} (F : FunD K "is_ratio" "is_ratio" (defArgs s_is_ratio) (defBody s_is_ratio) (defScope s_is_ratio) [] [] f fd) (hm : mg "is_ratio" = some (.ref f)) (B : Blt mg)  (h_is_number : Has P w K mg base "is_number" ["thing"] 1 (spOf T (p_is_number K C))) : Has P w K mg base "is_ratio" ["thing"] 2 (spOf T (p_is_ratio K C)) :=
  has_of F hm sc_is_ratio (fun _ _ _ _ _ _ us hl => match us, hl with | [_], _ => rfl) (fun _ => rfl) (by decide) fun cdv A outer s H E hr a c D hT hX hs q hnx => by
    subst hT
    refine ⟨_, (pss_cons (ps_if (PW.pt (pw_or (pt_not (pt_val (pe_callB (k_isi K) (by rfl) B.isinstance (by decide +kernel) (pa_cons (pv 0) (pa_cons (pe_bltn (v := .ty "tuple") (by rfl) B.tuple (by decide +kernel) rfl) pa_nil))))) (pw_or1 (pt_cmpR op_ne (pe_callB (k_len K) (by rfl) B.len (by decide +kernel) (pa_cons (pv 0) pa_nil)) pe_int (nomark _))))) (pss_one (ps_ret pe_bl)) pss_nil)
      (pss_cons (ps_asg (pv 0) (k_tup K 2 (pgs_cons (pg_name (i := 1) sc_is_ratio.nd rfl (.inl rfl)) (pgs_cons (pg_name (i := 2) sc_is_ratio.nd rfl (.inl rfl)) pgs_nil))))
      (pss_one (ps_ret (pe_and (pe_has (h_is_number.mono (by decide)) (hr) (pa_cons (pv 1) pa_nil)) (pe_and (pe_has (h_is_number.mono (by decide)) (hr) (pa_cons (pv 2) pa_nil)) (pe_and (pe_cmpR op_ge (pv 2) pe_int (nomark _)) (pe_one (pe_cmpR op_eq (pe_callBfun cr_gcd (by rfl) B.gcd (pa_cons (pv 1) (pa_cons (pv 2) pa_nil))) pe_int (nomark _)))))))))), ?_⟩
    refine tri_seq (tri_ifF (evT_is (evT_or (evT_not (evT_B (ev_CB (evA_cons (ev_var rfl) (evA_cons ev_ty evA_nil)) (caV_isi (kit_tup _))))) (fun _ => evT_test (ev_op (ev_CB (evA_cons (ev_var rfl) evA_nil) caV_lenT) ev_int opV_neI))) rfl) (tri_next ?_))
    refine tri_seq (tri_asgT (ev_var rfl) (tgt_tup (ds := [_, _]) (tgts_cons tgt_name (tgts_cons tgt_name tgts_nil)) rfl) ?_)
    refine tri_ret (ev_is (ev_andV (ev_call (p := p_is_number K C) _ (evA_cons (ev_var rfl) evA_nil) trivial) fun _ => ev_andV (ev_call (p := p_is_number K C) _ (evA_cons (ev_var rfl) evA_nil) trivial) fun _ => ev_andV (ev_op (ev_var rfl) ev_int opV_bool) fun _ => ev_op (ev_CB (evA_cons (ev_var rfl) (evA_cons (ev_var rfl) evA_nil)) caV_gcd) ev_int opV_eqI) ?_) q
    have h := copr a
    have h2 := den_pos a
    simp [isI, h]
    omega
theorem sc_weight_of : FnScope ["lottery", "place", "weight"] ["lottery"] (defScope s_weight_of) := ⟨rfl, rfl, rfl, by decide +kernel, rfl, by decide +kernel, by decide +kernel⟩
theorem ok_weight_of {f : Addr} {fd : FuncData} (F : FunD K "weight_of" "weight_of" (defArgs s_weight_of) (defBody s_weight_of) (defScope s_weight_of) [] [] f fd) (hm : mg "weight_of" = some (.ref f)) (B : Blt mg)   : Has P w K mg base "weight_of" ["lottery"] 1 (spOf T (p_weight_of K C)) :=
  has_of F hm sc_weight_of (fun _ _ _ _ _ _ us hl => match us, hl with | [_], _ => rfl) (fun _ => rfl) (by decide) fun cdv A outer s H E hr a c D hT hX hs q hnx => by
    subst hT
    refine ⟨_, (pss_one (ps_ret (pe_callB (k_sum K) (by rfl) B.sum (by decide +kernel) (pa_cons (pe_lc (own := [("place", 1), ("weight", 2)]) rfl sc_weight_of.nd (k_piT K (pv 0)) (blkOk_by (own := [("place", 1), ("weight", 2)]) (N := ["lottery", "place", "weight"]) (sc := defScope s_weight_of) (by decide +kernel)) (fun _ _ _ _ _ => (k_tup K 2 (pgs_cons (pg_name (i := 1) sc_weight_of.nd rfl (.inl rfl)) (pgs_cons (pg_name (i := 2) sc_weight_of.nd rfl (.inl rfl)) pgs_nil)))) (fun _ _ _ _ _ => pts_nil) (fun _ _ _ _ _ => (pv 2))) pa_nil)))), ?_⟩
    refine tri_ret (ev_is (ev_CB (evA_cons (evO_data (evO_map (xs := a) (gd := dP) (fun p => .int (p.2 : Int)) (its_tup (ev_var rfl)) (Nat.le_trans hs (by decide)) fun i x hx => ⟨_, _, tgt_tup (ds := [_, _]) (tgts_cons tgt_name (tgts_cons tgt_name tgts_nil)) rfl, by decide, evT_tt, ev_var rfl⟩)) evA_nil) (caV_sumM (f := fun p : Nat × Nat => (p.2 : Int)))) (congrArg PyData.int (wh_map a))) q
theorem sc_average : FnScope ["f", "lottery", "n", "d", "place", "weight", "part"] ["f", "lottery"] (defScope s_average) := ⟨rfl, rfl, rfl, by decide +kernel, rfl, by decide +kernel, by decide +kernel⟩
theorem ok_average {f : Addr} {fd : FuncData} (F : FunD K "average" "average" (defArgs s_average) (defBody s_average) (defScope s_average) [] [] f fd) (hm : mg "average" = some (.ref f)) (B : Blt mg)  (h_ratio : Has P w K mg base "ratio" ["n", "d"] 1 (spOf T (p_ratio K C))) (h_weight_of : Has P w K mg base "weight_of" ["lottery"] 1 (spOf T (p_weight_of K C))) : Has P w K mg base "average" ["f", "lottery"] 2 (spOf T (p_average K C)) :=
  has_of F hm sc_average (fun _ _ _ _ _ _ us hl => match us, hl with | [_, _], _ => rfl) (fun _ => rfl) (by decide) fun cdv A outer s H E hr a c D hT hX hs q hnx => by
    subst hT
    refine ⟨_, (pss_cons (ps_asg (pe_tup (pa_cons pe_int (pa_cons pe_int pa_nil))) (k_tup K 2 (pgs_cons (pg_name (i := 2) sc_average.nd rfl (.inl rfl)) (pgs_cons (pg_name (i := 3) sc_average.nd rfl (.inl rfl)) pgs_nil))))
      (pss_cons (ps_for PassesOwn.never rfl (k_piT K (pv 1)) (k_tup K 2 (pgs_cons (pg_name (i := 4) sc_average.nd rfl (.inl rfl)) (pgs_cons (pg_name (i := 5) sc_average.nd rfl (.inl rfl)) pgs_nil)))
      (pss_cons (ps_set (i := 6) sc_average.nd rfl (.inl rfl) (pe_ix (k_ixT K) (pv 0) (pv 4) (fun _ _ => rfl)))
      (pss_one (ps_par (by rfl) sc_average.nd (i := 2) (j := 3) rfl rfl (by decide) rfl rfl (pa_cons (pe_op op_add (pe_op op_mulW (pv 2) (pe_ix (k_ixT K) (pv 6) pe_int (fun _ _ => rfl))) (pe_op op_mulW (pe_op op_mulW (pv 5) (pe_ix (k_ixT K) (pv 6) pe_int (fun _ _ => rfl))) (pv 3))) (pa_cons (pe_op op_mulW (pv 3) (pe_ix (k_ixT K) (pv 6) pe_int (fun _ _ => rfl))) pa_nil)) (by rfl)))))
      (pss_one (ps_ret (pe_has (h_ratio.mono (by decide)) (hr) (pa_cons (pv 2) (pa_cons (pe_op op_mulW (pv 3) (pe_has (h_weight_of.mono (by decide)) (hr) (pa_cons (pv 1) pa_nil))) pa_nil))))))), ?_⟩
    obtain ⟨f, L⟩ := a
    obtain ⟨hl, hm1, hsm, hw, hw2⟩ := hs
    dsimp only at hl hm1 hsm hw hw2
    have get : ∀ p ∈ L, f[p.1]? = some (f.getD p.1 0) := fun p hp => by rw [List.getD_eq_getElem?_getD, List.getElem?_eq_getElem (hm1 p hp).1]; rfl
    have sm : ∀ p ∈ L, Sm (f.getD p.1 0) := fun p hp => hsm _ (List.mem_of_getElem? (get p hp))
    refine tri_seq (tri_asgT (ev_tup (ds := [.int 0, .int 1]) (evA_cons ev_int (evA_cons ev_int evA_nil))) (tgt_tup (ds := [_, _]) (tgts_cons tgt_name (tgts_cons tgt_name tgts_nil)) rfl) ?_)
    refine tri_seq (tri_forM (xs := L) (gd := dP) (its_tup (ev_var rfl)) (fun M => [.is (isD K (dRs f)), .is (isD K (dL L)), .is (isD K (.int (avGo (fun x => f.getD x 0) M).1)), .is (isD K (.int (avGo (fun x => f.getD x 0) M).2)), .no, .no, .no]) (by repeat (first | exact Weak.nil | refine Weak.same ?_ | refine Weak.none ?_)) (fun c' M p _ _ _ _ hp => ?_) ?_)
    · have hpm := prefix_mem hp
      have hMl := prefix_lt hp
      have hMm : ∀ r ∈ M, r ∈ L := fun r hr => by
        obtain ⟨z, rfl⟩ := hp
        simp [hr]
      have bd := avGo_bd (f := fun x => f.getD x 0) M fun r hr => ⟨sm r (hMm r hr), by have := wh_mem (hMm r hr); omega⟩
      have b1 := lt_up 301 bd.1 (by omega)
      have b2 := lt_up 301 bd.2 (by omega)
      have sp := sm p hpm
      have hw3 : ((p.2 : Nat) : Int).natAbs < 2 ^ 5 := by rw [Int.natAbs_natCast]; have := wh_mem hpm; omega
      refine ⟨_, _, tgt_tup (ds := [_, _]) (tgts_cons tgt_name (tgts_cons tgt_name tgts_nil)) rfl, fun D' d1 d2 d3 d4 => ?_⟩
      refine tri_seq (tri_asg (ev_op (ev_var rfl) (ev_var rfl) (opV_ixM rfl (get p hpm))) ?_)
      refine tri_par (evA_cons (ev_op (ev_op (ev_var rfl) (ev_op (ev_var rfl) ev_int (opV_ixT (by decide) rfl)) (opV_mulW (mulW_of 301 90 b1 sp.d)))
        (ev_op (ev_op (ev_var rfl) (ev_op (ev_var rfl) ev_int (opV_ixT (by decide) rfl)) (opV_mulW (mulW_of 5 90 hw3 sp.1))) (ev_var rfl) (opV_mulW (mulW_of 95 301 (mul_lt2 hw3 sp.1) b2))) opV_int)
        (evA_cons (ev_op (ev_var rfl) (ev_op (ev_var rfl) ev_int (opV_ixT (by decide) rfl)) (opV_mulW (mulW_of 301 90 b2 sp.d))) evA_nil)) ?_
      refine nx_weak ?_ d3
      rw [avGo_snoc]
      repeat (first | exact Weak.nil | refine Weak.same ?_ | refine Weak.none ?_)
    · have bd := avGo_bd (f := fun x => f.getD x 0) L fun r hr => ⟨sm r hr, by have := wh_mem hr; omega⟩
      have b2 := lt_up 301 bd.2 (by omega)
      have hw3 : ((wh L : Nat) : Int).natAbs < 2 ^ 5 := by rw [Int.natAbs_natCast]; omega
      refine tri_ret (ev_weak (ev_call (p := p_ratio K C) (_, _) (evA_cons (ev_var rfl) (evA_cons (ev_op (ev_var rfl) (ev_call (p := p_weight_of K C) L (evA_cons (ev_var rfl) evA_nil) (by show L.length ≤ 1000; omega)) (opV_mulW (mulW_of 301 5 b2 hw3))) evA_nil)) ⟨Int.mul_pos (avGo_val _ _).1 (by omega), lt_up _ (mul_lt2 b2 hw3) (by decide)⟩) (fun H v h => ?_)) q
      have e := avGo_avg (f := fun x => f.getD x 0) hw
      show Dp K H v (dR (avg (fun x => f.getD x 0) L))
      rw [← e]; exact h
end
end SD
end
section
set_option maxHeartbeats 4000000
set_option exponentiation.threshold 100000
namespace SD
open PySem PySem.Spec PyProof.Rows L2 SH SM
section
def dI (z : Int) : PyData := .tuple [.int z, .int 1]
def dIs (zs : List Int) : PyData := .tuple (zs.map dI)
def dRow (zs : List Int) : PyData := .list (zs.map .int)
def p_whole_row (K : PySem.W.Frag) (C : Addr) : Prom := ⟨List Int, fun a => a.length ≤ 1000 ∧ ∀ z ∈ a, z.natAbs < 2 ^ 90, fun a => [isD K (dIs a)], fun a => isD K (dRow a)⟩
def p_pivot_of (K : PySem.W.Frag) (C : Addr) : Prom := ⟨List (List Int) × Nat, fun a => a.1.length ≤ 1000 ∧ ∃ r z, a.1[a.2]? = some r ∧ r[a.2]? = some z ∧ z ≠ 0, fun a => [isD K (.list (a.1.map dRow)), isD K (.int (a.2 : Nat))], fun a => isD K (.int (a.2 : Nat))⟩
def tabZ (n m : Nat) (f : Nat → Nat → Int) : List (List Int) := (List.range n).map fun i => (List.range m).map fun j => f i j
def clr (f : Nat → Nat → Int) (k : Nat) (before : Int) (i j : Nat) : Int := if i = k then f k j else (f k k * f i j - f i k * f k j) / before
structure ClrA where
  n : Nat
  m : Nat
  f : Nat → Nat → Int
  k : Nat
  before : Int
def p_cleared (K : PySem.W.Frag) (C : Addr) : Prom := ⟨ClrA, fun a => a.n ≤ 1000 ∧ a.m ≤ 1000 ∧ a.k < a.n ∧ a.k < a.m ∧ 0 < a.before ∧ a.before.natAbs < 2 ^ 90 ∧ ∀ i j, i < a.n → j < a.m → (a.f i j).natAbs < 2 ^ 90,
  fun a => [isD K (.list ((tabZ a.n a.m a.f).map dRow)), isD K (.int (a.k : Nat)), isD K (.int a.before)], fun a => isLs K ((tabZ a.n a.m (clr a.f a.k a.before)).map dRow)⟩
theorem tabZ_get {n m : Nat} {f : Nat → Nat → Int} {i : Nat} (h : i < n) : (tabZ n m f)[i]? = some ((List.range m).map fun j => f i j) := by
  unfold tabZ
  rw [List.getElem?_map, List.getElem?_range h]; rfl
theorem rowZ_get {m : Nat} {f : Nat → Int} {j : Nat} (h : j < m) : ((List.range m).map f)[j]? = some (f j) := by
  rw [List.getElem?_map, List.getElem?_range h]; rfl
variable {P : Program} {w : World} {K : PySem.W.Frag} {mg : Str → Option Value} {base : Heap} {T : List Addr} {C : Addr}
theorem sc_whole_row : FnScope ["row", "common", "n", "d"] ["row"] (defScope s_whole_row) := ⟨rfl, rfl, rfl, by decide +kernel, rfl, by decide +kernel, by decide +kernel⟩
theorem ok_whole_row {f : Addr} {fd : FuncData} (F : FunD K "whole_row" "whole_row" (defArgs s_whole_row) (defBody s_whole_row) (defScope s_whole_row) [] [] f fd) (hm : mg "whole_row" = some (.ref f)) (B : Blt mg)   : Has P w K mg base "whole_row" ["row"] 1 (spOf T (p_whole_row K C)) :=
  has_of F hm sc_whole_row (fun _ _ _ _ _ _ us hl => match us, hl with | [_], _ => rfl) (fun _ => rfl) (by decide) fun cdv A outer s H E hr a c D hT hX hs q hnx => by
    subst hT
    refine ⟨_, (pss_cons (ps_set (i := 1) sc_whole_row.nd rfl (.inr rfl) pe_int)
      (pss_cons (ps_for PassesOwn.never rfl (k_piT K (pv 0)) (k_tup K 2 (pgs_cons (pg_name (i := 2) sc_whole_row.nd rfl (.inl rfl)) (pgs_cons (pg_name (i := 3) sc_whole_row.nd rfl (.inl rfl)) pgs_nil)))
      (pss_one (ps_set (i := 1) sc_whole_row.nd rfl (.inr rfl) (pe_callBfun cr_lcm1 (by rfl) B.lcm (pa_cons (pv 1) (pa_cons (pv 3) pa_nil))))))
      (pss_one (ps_ret (pe_lc (own := [("n", 2), ("d", 3)]) rfl sc_whole_row.nd (k_piT K (pv 0)) (blkOk_by (own := [("n", 2), ("d", 3)]) (N := ["row", "common", "n", "d"]) (sc := defScope s_whole_row) (by decide +kernel)) (fun _ _ _ _ _ => (k_tup K 2 (pgs_cons (pg_name (i := 2) sc_whole_row.nd rfl (.inl rfl)) (pgs_cons (pg_name (i := 3) sc_whole_row.nd rfl (.inl rfl)) pgs_nil)))) (fun _ _ _ _ _ => pts_nil) (fun _ _ _ _ _ => (pe_op op_mulW (pv 2) (pe_op op_fdivW (pv 1) (pv 3))))))))), ?_⟩
    obtain ⟨hl, hb⟩ := hs
    refine tri_seq (tri_asg (ev_int (K := K)) ?_)
    refine tri_seq (tri_forM (xs := a) (gd := dI) (its_tup (ev_var rfl)) (fun _ => [.is (isD K (dIs a)), .is (isD K (.int 1)), .no, .no]) (by repeat (first | exact Weak.nil | refine Weak.same ?_ | refine Weak.none ?_)) (fun c' M p _ _ _ _ hp => ?_) ?_)
    · refine ⟨_, _, tgt_tup (ds := [_, _]) (tgts_cons tgt_name (tgts_cons tgt_name tgts_nil)) rfl, fun D' d1 d2 d3 d4 => ?_⟩
      refine tri_asg (ev_CB (evA_cons (ev_var rfl) (evA_cons (ev_var rfl) evA_nil)) caV_lcm1) ?_
      exact nx_weak (by repeat (first | exact Weak.nil | refine Weak.same ?_ | refine Weak.none ?_)) d3
    · refine tri_ret (evO_data (evO_map (xs := a) (gd := dI) (fun z => .int z) (its_tup (ev_var rfl)) (Nat.le_trans hl (by decide)) fun i x hx => ⟨_, _, tgt_tup (ds := [_, _]) (tgts_cons tgt_name (tgts_cons tgt_name tgts_nil)) rfl, by decide, evT_tt, ?_⟩)) q
      refine ev_is (ev_op (ev_var rfl) (ev_op (ev_var rfl) (ev_var rfl) (opV_divW (divW_of 90 (by decide) (by decide)))) (opV_mulW ?_)) ?_
      · exact mulW_of 90 1 (hb x (List.mem_of_getElem? hx)) (by decide)
      · show PyData.int (x * (1 / 1)) = .int x
        simp
theorem sc_pivot_of : FnScope ["table", "at", "index"] ["table", "at"] (defScope s_pivot_of) := ⟨rfl, rfl, rfl, by decide +kernel, rfl, by decide +kernel, by decide +kernel⟩
theorem ok_pivot_of {f : Addr} {fd : FuncData} (F : FunD K "pivot_of" "pivot_of" (defArgs s_pivot_of) (defBody s_pivot_of) (defScope s_pivot_of) [] [] f fd) (hm : mg "pivot_of" = some (.ref f)) (B : Blt mg)   : Has P w K mg base "pivot_of" ["table", "at"] 1 (spOf T (p_pivot_of K C)) :=
  has_of F hm sc_pivot_of (fun _ _ _ _ _ _ us hl => match us, hl with | [_, _], _ => rfl) (fun _ => rfl) (by decide) fun cdv A outer s H E hr a c D hT hX hs q hnx => by
    subst hT
    refine ⟨_, (pss_cons (ps_for PassesOwn.never rfl (pi_range2 (by rfl) B.range (pa_cons (pv 1) (pa_cons (pe_callB (k_len K) (by rfl) B.len (by decide +kernel) (pa_cons (pv 0) pa_nil)) pa_nil))) (pg_name (i := 2) sc_pivot_of.nd rfl (.inl rfl))
      (pss_one (ps_if (pt_cmpR op_ne (pe_ix (k_ixL K) (pe_ix (k_ixL K) (pv 0) (pv 2) (fun _ _ => rfl)) (pv 1) (fun _ _ => rfl)) pe_int (nomark _)) (pss_one (ps_ret (pv 2))) pss_nil)))
      (pss_one (ps_ret pe_non))), ?_⟩
    obtain ⟨M, k⟩ := a
    obtain ⟨hl, r, z, h1, h2, h3⟩ := hs
    dsimp only at hl h1 h2
    have hk := (List.getElem?_eq_some_iff.mp h1).1
    have e0 : ((M.map dRow).length : Int) - (k : Int) = ((M.length - k : Nat) : Int) := by rw [List.length_map]; omega
    have e1 : (List.range (((M.map dRow).length : Int) - (k : Int)).toNat).map (fun i : Nat => isD K (.int ((k : Int) + (i : Int)))) = isD K (.int ((k : Int) + ((0 : Nat) : Int))) :: ((List.range (M.length - k - 1)).map fun i : Nat => isD K (.int ((k : Int) + ((i + 1 : Nat) : Int)))) := by
      rw [e0, Int.toNat_natCast, show M.length - k = (M.length - k - 1) + 1 by omega, List.range_succ_eq_map, List.map_cons, List.map_map]
      rfl
    have hi := its_range2 (c := c) (E := entryE ((p_pivot_of K C).args (M, k)) ["table", "at", "index"].length) (evA_cons (ev_var (i := 1) (R := isD K (.int (k : Nat))) rfl) (evA_cons (ev_CB (evA_cons (ev_var (i := 0) (R := isD K (.list (M.map dRow))) rfl) evA_nil) caV_lenL) evA_nil)) (by omega) (by omega) (by rw [List.length_map]; omega) (by rw [List.length_map]; omega)
    rw [e1] at hi
    refine tri_seq (tri_for1 hi (fun c' => tgt_name) fun c' D' a1 a2 a3 a4 d1 d2 => ?_)
    refine tri_ifT (evT_is (evT_test (ev_op (ev_op (ev_op (ev_var rfl) (ev_var rfl) (opV_ixLM (n := k) (by simp) h1)) (ev_var rfl) (opV_ixLM rfl h2)) ev_int opV_neI)) (by simp [h3])) ?_
    exact tri_ret (ev_is (ev_var rfl) (by simp)) (fin_to q a2 a3 a4 d1)
theorem sc_cleared : FnScope ["table", "at", "before", "pivot", "found", "index", "row", "factor", "a", "b"] ["table", "at", "before"] (defScope s_cleared) := ⟨rfl, rfl, rfl, by decide +kernel, rfl, by decide +kernel, by decide +kernel⟩
theorem ok_cleared {f : Addr} {fd : FuncData} (F : FunD K "cleared" "cleared" (defArgs s_cleared) (defBody s_cleared) (defScope s_cleared) [] [] f fd) (hm : mg "cleared" = some (.ref f)) (B : Blt mg)   : Has P w K mg base "cleared" ["table", "at", "before"] 1 (spOf T (p_cleared K C)) :=
  has_of F hm sc_cleared (fun _ _ _ _ _ _ us hl => match us, hl with | [_, _, _], _ => rfl) (fun _ => rfl) (by decide) fun cdv A outer s H E hr a c D hT hX hs q hnx => by
    subst hT
    refine ⟨_, (pss_cons (ps_asg (pe_tup (pa_cons (pe_ix (k_ixL K) (pv 0) (pv 1) (fun _ _ => rfl)) (pa_cons (pe_lst pa_nil) pa_nil))) (k_tup K 2 (pgs_cons (pg_name (i := 3) sc_cleared.nd rfl (.inr rfl)) (pgs_cons (pg_name (i := 4) sc_cleared.nd rfl (.inl rfl)) pgs_nil))))
      (pss_cons (ps_for PassesOwn.never rfl (k_enum K (by rfl) B.enumerate (pa_cons (pv 0) pa_nil)) (k_tup K 2 (pgs_cons (pg_name (i := 5) sc_cleared.nd rfl (.inl rfl)) (pgs_cons (pg_name (i := 6) sc_cleared.nd rfl (.inl rfl)) pgs_nil)))
      (pss_one (ps_if (pt_cmpR op_eq (pv 5) (pv 1) (nomark _)) (pss_one (ps_expr (k_bm K PySem.F.plainAttrs_list PySem.F.slot_list_append PySem.F.type_list_append mt_append (pv 4) (pa_cons (pv 6) pa_nil)))) (pss_cons (ps_set (i := 7) sc_cleared.nd rfl (.inr rfl) (pe_ix (k_ixL K) (pv 6) (pv 1) (fun _ _ => rfl)))
      (pss_one (ps_expr (k_bm K PySem.F.plainAttrs_list PySem.F.slot_list_append PySem.F.type_list_append mt_append (pv 4) (pa_cons (pe_lc (own := [("a", 8), ("b", 9)]) rfl sc_cleared.nd (k_zip K (by rfl) B.zip (pa_cons (pv 6) (pa_cons (pv 3) pa_nil))) (blkOk_by (own := [("a", 8), ("b", 9)]) (N := ["table", "at", "before", "pivot", "found", "index", "row", "factor", "a", "b"]) (sc := defScope s_cleared) (by decide +kernel)) (fun _ _ _ _ _ => (k_tup K 2 (pgs_cons (pg_name (i := 8) sc_cleared.nd rfl (.inl rfl)) (pgs_cons (pg_name (i := 9) sc_cleared.nd rfl (.inl rfl)) pgs_nil)))) (fun _ _ _ _ _ => pts_nil) (fun _ _ _ _ _ => (pe_op op_fdivW (pe_op op_sub (pe_op op_mulW (pe_ix (k_ixL K) (pv 3) (pv 1) (fun _ _ => rfl)) (pv 8)) (pe_op op_mulW (pv 7) (pv 9))) (pv 2)))) pa_nil))))))))
      (pss_one (ps_ret (pv 4))))), ?_⟩
    obtain ⟨n, m, f, k, bf⟩ := a
    obtain ⟨hn, hm1, hkn, hkm, h0, hb, hf⟩ := hs
    dsimp only at hn hm1 hkn hkm h0 hb hf
    refine tri_seq (tri_tupO (ev_op (ev_var rfl) (ev_var rfl) (opV_ixLM rfl (tabZ_get hkn))) (evO_nil (K := K)) ?_)
    refine tri_seq (tri_forM (xs := (tabZ n m f).zipIdx) (its_enumM (evA_cons (ev_var rfl) evA_nil)) (fun M => [.is (isD K (.list ((tabZ n m f).map dRow))), .is (isD K (.int (k : Nat))), .is (isD K (.int bf)), .is (isD K (dRow ((List.range m).map fun j => f k j))), .own (ownL K (((tabZ n m (clr f k bf)).take M.length).map dRow)), .no, .no, .no, .no, .no]) (by repeat (first | exact Weak.nil | refine Weak.same ?_ | refine Weak.none ?_)) (fun c' M p a1 a2 a3 a4 hp => ?_) ?_)
    · obtain ⟨h1, h2, h3⟩ := zipIdx_at hp
      obtain ⟨r, ix⟩ := p
      dsimp only at h1 h2
      subst h2
      have hMn : M.length < n := by unfold tabZ at h3; rw [List.length_map, List.length_range] at h3; exact h3
      rw [tabZ_get hMn] at h1
      cases h1
      have tk : ∀ z, ((tabZ n m (clr f k bf)).take (M ++ [z]).length).map dRow = ((tabZ n m (clr f k bf)).take M.length).map dRow ++ [dRow ((List.range m).map fun j => clr f k bf M.length j)] := fun z => by
        rw [List.length_append, List.length_singleton, List.take_succ, tabZ_get hMn, List.map_append]; rfl
      have tl : (((tabZ n m (clr f k bf)).take M.length).map dRow).length < 100000 := by
        rw [List.length_map, List.length_take]; omega
      refine ⟨_, _, tgt_tup (ds := [_, _]) (tgts_cons tgt_name (tgts_cons tgt_name tgts_nil)) rfl, fun D' d1 d2 d3 d4 => ?_⟩
      refine tri_if (evT_test (ev_op (ev_var rfl) (ev_var rfl) opV_eqI)) (fun hb1 => ?_) fun hb1 => ?_
      · have hk : M.length = k := by
          have := of_decide_eq_true hb1
          omega
        refine tri_app (d := dRow ((List.range m).map fun j => clr f k bf M.length j)) rfl (ev_is (ev_var rfl) ?_) tl ?_
        · congr 2
          apply List.map_congr_left
          intro j _
          unfold clr
          rw [if_pos hk, hk]
        · refine nx_weak ?_ d3
          rw [tk]
          repeat (first | exact Weak.nil | refine Weak.same ?_ | refine Weak.none ?_)
      · have hk : M.length ≠ k := fun z => by
          have := of_decide_eq_false hb1
          omega
        refine tri_seq (tri_asg (ev_op (ev_var rfl) (ev_var rfl) (opV_ixLM rfl (rowZ_get hkm))) ?_)
        refine tri_app (d := dRow ((List.range m).map fun j => clr f k bf M.length j)) rfl (ev_is (evO_data (evO_map (xs := ((List.range m).map fun j => f M.length j).zip ((List.range m).map fun j => f k j)) (fun p => .int ((f k k * p.1 - f M.length k * p.2) / bf)) (its_zipM (evA_cons (ev_var rfl) (evA_cons (ev_var rfl) evA_nil))) ?_ fun i x hx => ⟨_, _, tgt_tup (ds := [_, _]) (tgts_cons tgt_name (tgts_cons tgt_name tgts_nil)) rfl, by decide, evT_tt, ?_⟩)) ?_) tl ?_
        · rw [List.length_zip, List.length_map, List.length_range]; omega
        · have hx1 : x.1 ∈ (List.range m).map fun j => f M.length j := (List.of_mem_zip (List.mem_of_getElem? hx)).1
          have hx2 : x.2 ∈ (List.range m).map fun j => f k j := (List.of_mem_zip (List.mem_of_getElem? hx)).2
          obtain ⟨j1, hj1, e1⟩ := List.mem_map.mp hx1
          obtain ⟨j2, hj2, e2⟩ := List.mem_map.mp hx2
          have b1 : x.1.natAbs < 2 ^ 90 := by rw [← e1]; exact hf _ _ hMn (List.mem_range.mp hj1)
          have b2 : x.2.natAbs < 2 ^ 90 := by rw [← e2]; exact hf _ _ hkn (List.mem_range.mp hj2)
          exact ev_op (ev_op (ev_op (ev_op (ev_var rfl) (ev_var rfl) (opV_ixLM rfl (rowZ_get hkm))) (ev_var rfl) (opV_mulW (mulW_of 90 90 (hf _ _ hkn hkm) b1))) (ev_op (ev_var rfl) (ev_var rfl) (opV_mulW (mulW_of 90 90 (hf _ _ hMn hkm) b2))) opV_int) (ev_var rfl) (opV_divW (divW_of 90 h0 hb))
        · congr 1
          rw [List.zip_map', List.map_map, List.map_map]
          apply List.map_congr_left
          intro j _
          show PyData.int _ = PyData.int _
          congr 1
          exact (if_neg hk).symm
        · refine nx_weak ?_ d3
          rw [tk]
          repeat (first | exact Weak.nil | refine Weak.same ?_ | refine Weak.none ?_)
    · have tk : (tabZ n m (clr f k bf)).take ((tabZ n m f).zipIdx).length = tabZ n m (clr f k bf) := by
        apply List.take_of_length_le
        rw [List.length_zipIdx]
        unfold tabZ
        simp
      rw [tk]
      refine nx_tri (tri_freeze 4 rfl hX ?_)
      exact tri_ret (ev_var rfl) q
end
end SD
end
section
set_option maxHeartbeats 4000000
set_option exponentiation.threshold 100000
namespace SD
open PySem PySem.Spec PyProof.Rows L2 SH SM
section
def isBk (K : PySem.W.Frag) (As : List (List Nat)) : Rp := ⟨fun H v => ∃ (p : Addr) (qs : List Addr) (ls : List (List Nat)), v = .ref p ∧ H p = some (.lst (qs.map V.ref)) ∧ qs.length = ls.length ∧ (∀ (i : Nat) (q : Addr) (l : List Nat), qs[i]? = some q → ls[i]? = some l → H q = some (.lst (vInts l))) ∧ BackOf As ls,
  fun e ⟨p, qs, ls, h1, h2, h3, h4, h5⟩ => ⟨p, qs, ls, h1, e _ _ h2, h3, fun i q l a b => e _ _ (h4 i q l a b), h5⟩⟩
def dAs (As : List (List Nat)) : PyData := .tuple (As.map dN)
def p_arrows_back (K : PySem.W.Frag) (C : Addr) : Prom := ⟨List (List Nat), fun a => a.length ≤ 100 ∧ (∀ r ∈ a, r.length ≤ 100 ∧ ∀ y ∈ r, y < a.length) ∧ total a ≤ 1000, fun a => [isD K (dAs a)], fun a => isBk K a⟩
noncomputable def p_comes (K : PySem.W.Frag) (C : Addr) : Prom := ⟨List (List Nat) × List Nat, fun a => a.1.length ≤ 40 ∧ (∀ r ∈ a.1, ∀ y ∈ r, y < a.1.length) ∧ total a.1 ≤ 100 ∧ (∀ z ∈ a.2, z < a.1.length) ∧ a.2.length ≤ 100, fun a => [isD K (dAs a.1), isD K (dN a.2)], fun a => isD K (dN (reachL a.1 a.2))⟩
def isBkL (K : PySem.W.Frag) (ls : List (List Nat)) : Rp := ⟨fun H v => ∃ (p : Addr) (qs : List Addr), v = .ref p ∧ H p = some (.lst (qs.map V.ref)) ∧ qs.length = ls.length ∧ (∀ (i : Nat) (q : Addr) (l : List Nat), qs[i]? = some q → ls[i]? = some l → H q = some (.lst (vInts l))),
  fun e ⟨p, qs, h1, h2, h3, h4⟩ => ⟨p, qs, h1, e _ _ h2, h3, fun i q l a b => e _ _ (h4 i q l a b)⟩⟩
theorem nx_openBk {K : PySem.W.Frag} {c : Ctx} {E : List Slo} {Q : L2.St → Hp → Prop} {i : Nat} {As : List (List Nat)} (hi : E[i]? = some (.is (isBk K As))) (k : ∀ ls, BackOf As ls → Nx c (E.set i (.is (isBkL K ls))) Q) : Nx c E Q := fun σ Hs H e => by
  obtain ⟨v, h1, p, qs, ls, a1, a2, a3, a4, a5⟩ := e.val i _ hi
  have h := e.set (R := isBkL K ls) (v := v) ⟨p, qs, a1, a2, a3, a4⟩ i
  have : σ.set i (some v) = σ := by
    apply List.ext_getElem?
    intro j
    by_cases z : i = j
    · subst z
      rw [List.getElem?_set_self (by rw [e.len]; exact (List.getElem?_eq_some_iff.mp hi).1), h1]
    · rw [List.getElem?_set_ne z]
  rw [this] at h
  exact k ls a5 σ Hs H h
theorem ev_bk {K : PySem.W.Frag} {c : Ctx} {E : List Slo} {ta tb : TE} {ls : List (List Nat)} {n : Nat} {l : List Nat} (h : Ev c E ta (isBkL K ls)) (h2 : Ev c E tb (isD K (.int (n : Nat)))) (hl : ls[n]? = some l) : Ev c E (tOp (rIxL K) ta tb) (isLs K (l.map fun n : Nat => .int (n : Int))) := fun σ Hs H e Q q => by
  refine h σ Hs H e _ fun x Hs1 H1 s1 hx => h2 σ Hs1 H1 (e.move s1) _ fun y Hs2 H2 s2 hy => ?_
  obtain ⟨p, qs, a1, a2, a3, a4⟩ := (isBkL K ls).mono s2.s hx
  cases hy
  have hn : n < qs.length := by rw [a3]; exact (List.getElem?_eq_some_iff.mp hl).1
  have hq : qs[n]? = some qs[n] := List.getElem?_eq_getElem hn
  refine ⟨p, _, n, .ref qs[n], a1, rfl, Evl.ex_l s2.i (SqL.of a2), atI_of (by rw [List.getElem?_map, hq]; rfl), q _ Hs2 H2 (s1.trans s2) ⟨_, vInts l, rfl, a4 n _ l hq hl, ?_⟩⟩
  have := dpAll_of_ints (K := K) (H := Hs2) (l.map fun n : Nat => (n : Int))
  rw [List.map_map, List.map_map] at this
  exact this
variable {P : Program} {w : World} {K : PySem.W.Frag} {mg : Str → Option Value} {base : Heap} {T : List Addr} {C : Addr}
def isQ (l : Addr) (qs : List Addr) : Rp := ⟨fun H v => v = .ref l ∧ H l = some (.lst (qs.map V.ref)), fun e h => ⟨h.1, e _ _ h.2⟩⟩
theorem tgt_any {c : Ctx} {E : List Slo} {R : Rp} {i : Nat} : Tgt c E (gName i) R [i] (E.set i (.is R)) := tgt_name
theorem sc_arrows_back : FnScope ["arrows", "row", "found", "x", "y"] ["arrows"] (defScope s_arrows_back) := ⟨rfl, rfl, rfl, by decide +kernel, rfl, by decide +kernel, by decide +kernel⟩
theorem ok_arrows_back {f : Addr} {fd : FuncData} (F : FunD K "arrows_back" "arrows_back" (defArgs s_arrows_back) (defBody s_arrows_back) (defScope s_arrows_back) [] [] f fd) (hm : mg "arrows_back" = some (.ref f)) (B : Blt mg)   : Has P w K mg base "arrows_back" ["arrows"] 1 (spOf T (p_arrows_back K C)) :=
  has_of F hm sc_arrows_back (fun _ _ _ _ _ _ us hl => match us, hl with | [_], _ => rfl) (fun _ => rfl) (by decide) fun cdv A outer s H E hr a c D hT hX hs q hnx => by
    subst hT
    refine ⟨_, (pss_cons (ps_setLc (i := 2) (own := [("row", 1)]) rfl sc_arrows_back.nd rfl rfl (sw_true rfl rfl rfl (by decide +kernel)) (k_piT K (pv 0)) (blkOk_by (own := [("row", 1)]) (N := ["arrows", "row", "found", "x", "y"]) (sc := defScope s_arrows_back) (by decide +kernel)) (fun _ _ _ _ _ => (pg_name (i := 1) sc_arrows_back.nd rfl (.inl rfl))) (fun _ _ _ _ _ => pts_nil) (fun _ _ _ _ _ => (pe_lst pa_nil)))
      (pss_cons (ps_for PassesOwn.never rfl (pi_enumT K (by rfl) B.enumerate (pa_cons (pv 0) pa_nil)) (k_tup K 2 (pgs_cons (pg_name (i := 3) sc_arrows_back.nd rfl (.inl rfl)) (pgs_cons (pg_name (i := 1) sc_arrows_back.nd rfl (.inl rfl)) pgs_nil)))
      (pss_one (ps_for PassesOwn.never rfl (k_piT K (pv 1)) (pg_name (i := 4) sc_arrows_back.nd rfl (.inl rfl))
      (pss_one (ps_expr (k_bm K PySem.F.plainAttrs_list PySem.F.slot_list_append PySem.F.type_list_append mt_append (pe_ix (k_ixL K) (pv 2) (pv 4) (fun _ _ => rfl)) (pa_cons (pv 3) pa_nil)))))))
      (pss_one (ps_ret (pv 2))))), ?_⟩
    change List (List Nat) at a
    obtain ⟨hn, hr1, ht⟩ := hs
    refine tri_seq (fun σ Hs H e => ?_)
    refine lc_nils e (its_tup (ds := a.map dN) (ev_var (i := 0) rfl)) (by rw [List.length_map, List.length_map]; omega) (js := [1]) (fun i R hR => ⟨_, tgt_any⟩) (by decide) _ (fun l qs Hs1 H1 s1 hD hl hlen hnd hq => ?_)
    rw [List.length_map, List.length_map] at hlen
    have hl0 : c.H0 l = none := e.fresh0 hD
    have hsl : Hs l = none := Evl.fresh_back e.ok.sub hD
    have hex : Ex Hs (upd Hs l (.lst (qs.map V.ref))) := Evl.Ex.new hsl
    have hin : Ex (upd Hs l (.lst (qs.map V.ref))) H1 := fun b u eb => by
      by_cases hb : b = l
      · subst hb; rw [upd_same] at eb; cases eb; exact hl
      · rw [upd_ne hb] at eb; exact s1.i b u (s1.s b u eb)
    have e1 : Sat c (σ.set 2 (some (.ref l))) (upd Hs l (.lst (qs.map V.ref))) H1 [.is (isD K (dAs a)), .no, .is (isQ l qs), .no, .no] := by
      have e2 := e.move s1
      have e3 : Sat c σ (upd Hs l (.lst (qs.map V.ref))) H1 (entryE ((p_arrows_back K C).args a) ["arrows", "row", "found", "x", "y"].length) := by
        refine ⟨⟨hin, fun b hb => ⟨(e2.ok.tab b hb).1, ?_⟩⟩, ⟨e.stp.s.trans hex, hin, e2.stp.k, e2.stp.t, fun b g1 g2 => ?_, e2.stp.d⟩, c.gm hex e.g, e.len, fun i R h => ?_, fun i P h => ?_, fun i j P P' p _ h => ?_⟩
        · have : b ≠ l := fun z => by
            obtain ⟨ps, e1, _⟩ := (e2.ok.tab b hb).1
            rw [z, hl] at e1; cases e1
          rw [upd_ne this]; exact (e.ok.tab b hb).2
        · have : b ≠ l := fun z => g1 (by rw [z]; exact hl0)
          rw [upd_ne this]; exact e.stp.f b g1 g2
        · obtain ⟨v, a1, a2⟩ := e.val i R h
          exact ⟨v, a1, R.mono hex a2⟩
        · match i, h with
          | 0, h => cases h
          | 1, h => cases h
          | 2, h => cases h
          | 3, h => cases h
          | 4, h => cases h
        · match i, h with
          | 0, h => cases h
          | 1, h => cases h
          | 2, h => cases h
          | 3, h => cases h
          | 4, h => cases h
      exact e3.set (R := isQ l qs) (v := .ref l) ⟨rfl, upd_same⟩ 2
    have gh : Gh c.H0 qs (lsOf a.length (psOf a 0)) (upd Hs l (.lst (qs.map V.ref))) H1 := ⟨hnd, by rw [lsOf_len]; exact hlen, fun i u m h1 h2 => by
      have hu := hq u (List.mem_of_getElem? h1)
      have hi : i < a.length := by rw [← hlen]; exact (List.getElem?_eq_some_iff.mp h1).1
      rw [lsOf_get _ hi] at h2
      cases h2
      exact ⟨by rw [upd_ne hu.2.1]; exact Evl.fresh_back e.ok.sub hu.1, hu.2.2, e.fresh0 hu.1⟩⟩
    generalize upd Hs l (.lst (qs.map V.ref)) = Hs2 at e1 gh
    have noO : ∀ (i : Nat) (P : Op), ([.is (isD K (dAs a)), .no, .is (isQ l qs), .no, .no] : List Slo)[i]? ≠ some (.own P) := fun i P => by
      match i with
      | 0 => simp
      | 1 => simp
      | 2 => simp
      | 3 => simp
      | 4 => simp
      | i + 5 => simp
    refine for_ghost (qs := qs) (fun i => lsOf a.length (psOf a i)) e1 gh (its_enumTM (xs := a) (g := dN) (evA_cons (ev_var (i := 0) rfl) evA_nil)) (fun c1 i R σ3 Hs3 H3 v3 x1 x2 hR e4 g4 hv D1 k1 => ?_) fun σ3 Hs3 H3 e4 g4 => ?_
    · obtain ⟨⟨r, ix⟩, hx, rfl⟩ := getR hR
      rw [List.getElem?_zipIdx] at hx
      have hia : a[i]? = some r ∧ ix = i := by
        cases h : a[i]? with
        | none => rw [h] at hx; cases hx
        | some r' => rw [h] at hx; simp at hx; exact ⟨by rw [hx.1], hx.2.symm⟩
      obtain ⟨hia, rfl⟩ := hia
      have hrm := hr1 r (List.mem_of_getElem? hia)
      refine (tgt_tup (K := K) (c := c1) (E := [.is (isD K (dAs a)), .no, .is (isQ l qs), .no, .no]) (ds := [.int (ix : Nat), dN r]) (tgts_cons (tgt_name (i := 3)) (tgts_cons (tgt_name (i := 1)) tgts_nil)) rfl).run σ3 Hs3 H3 v3 e4 hv _ fun σ4 e5 _ _ => ?_
      have e6 : Sat c1 σ4 Hs3 H3 [.is (isD K (dAs a)), .is (isD K (dN r)), .is (isQ l qs), .is (isD K (.int (ix : Nat))), .no] := e5
      have noO2 : ∀ (i : Nat) (P : Op), ([.is (isD K (dAs a)), .is (isD K (dN r)), .is (isQ l qs), .is (isD K (.int (ix : Nat))), .no] : List Slo)[i]? ≠ some (.own P) := fun i P => by
        match i with
        | 0 => simp
        | 1 => simp
        | 2 => simp
        | 3 => simp
        | 4 => simp
        | i + 5 => simp
      have g5 : Gh c1.H0 qs (lsOf a.length (psOf a ix ++ (r.take 0).map fun y => (ix, y))) Hs3 H3 := by
        rw [x2]; simpa using g4
      refine for_ghost (qs := qs) (fun j => lsOf a.length (psOf a ix ++ (r.take j).map fun y => (ix, y))) e6 g5 (its_tup (ds := r.map fun n : Nat => .int (n : Int)) (ev_var (i := 1) rfl)) (fun c2 j R σ5 Hs5 H5 v5 z1 z2 hR e7 g7 hv D2 k2 => ?_) fun σ5 Hs5 H5 e7 g7 => ?_
      · obtain ⟨y, hy, rfl⟩ := getR hR
        have hyn := hrm.2 y (List.mem_of_getElem? hy)
        refine (tgt_name (i := 4)).run σ5 Hs5 H5 v5 e7 hv _ fun σ6 e8 _ _ => ?_
        have e9 : Sat c2 σ6 Hs5 H5 [.is (isD K (dAs a)), .is (isD K (dN r)), .is (isQ l qs), .is (isD K (.int (ix : Nat))), .is (isD K (.int (y : Nat)))] := e8
        obtain ⟨v2, u1, u2, u3⟩ := e9.val 2 _ rfl
        obtain ⟨v4, w1, w2⟩ := e9.val 4 _ rfl
        obtain ⟨v1, t1, t2⟩ := e9.val 3 _ rfl
        cases w2
        cases t2
        subst u2
        have hq5 : H5 l = some (.lst (qs.map V.ref)) := e9.ok.sub _ _ u3
        have hyq : y < qs.length := by rw [hlen]; exact hyn
        have hqy : qs[y]? = some qs[y] := List.getElem?_eq_getElem hyq
        have hly := lsOf_get (psOf a ix ++ (r.take j).map fun y => (ix, y)) hyn
        obtain ⟨m1, m2, m3⟩ := g7.at_ y _ _ hqy hly
        refine ⟨.ref l, u1, .int (y : Nat), w1, l, qs.map V.ref, (y : Int), .ref qs[y], rfl, rfl, SqL.of hq5, atI_of (by rw [List.getElem?_map, hqy]; rfl), .inl ⟨rfl, _, SqL.of m2⟩, .int (ix : Nat), t1, qs[y], _, .int (ix : Nat), rfl, rfl, m2, Evl.sz_lt ?_, ?_⟩
        · unfold vInts
          rw [List.length_map, List.length_map]
          have b1 := List.length_filter_le (fun p : Nat × Nat => p.2 == y) (psOf a ix ++ (r.take j).map fun y => (ix, y))
          have b2 := psOf_len a ix (Nat.le_of_lt (List.getElem?_eq_some_iff.mp hia).1)
          rw [List.length_append, List.length_map, List.length_take] at b1
          have b3 := hrm.1
          omega
        · refine k2 σ6 Hs5 _ ?_ ?_
          · have := Sat.ghost (c := c2) (σ := σ6) (o' := .lst (vInts (((psOf a ix ++ (r.take j).map fun y => (ix, y)).filter fun p => p.2 == y).map (·.1)) ++ [.int (ix : Nat)])) (e9.weak (E' := [.is (isD K (dAs a)), .is (isD K (dN r)), .is (isQ l qs), .is (isD K (.int (ix : Nat))), .no]) (by repeat (first | exact Weak.nil | refine Weak.same ?_ | refine Weak.none ?_))) noO2 m1 m2 (fun ps z => by cases z) (by rw [z2]; exact m3)
            exact this
          · have tk : (r.take (j + 1)).map (fun y => (ix, y)) = (r.take j).map (fun y => (ix, y)) ++ [(ix, y)] := by
              rw [List.take_succ, hy, List.map_append]; rfl
            rw [tk, ← List.append_assoc]
            refine ⟨g7.nd, by rw [lsOf_len]; exact hlen, fun i u m h1 h2 => ?_⟩
            have hin : i < a.length := by rw [← hlen]; exact (List.getElem?_eq_some_iff.mp h1).1
            obtain ⟨n1, n2, n3⟩ := g7.at_ i u _ h1 (lsOf_get _ hin)
            refine ⟨n1, ?_, n3⟩
            rw [lsOf_snoc _ _ hin] at h2
            cases h2
            by_cases hiy : i = y
            · subst hiy
              rw [hqy] at h1
              cases h1
              rw [upd_same, if_pos rfl]
              unfold vInts
              rw [List.map_append]; rfl
            · have : u ≠ qs[y] := fun z => hiy ((List.getElem?_inj (List.getElem?_eq_some_iff.mp h1).1 g7.nd).mp (by rw [h1, hqy, z]))
              rw [upd_ne this, n2, if_neg (fun z => hiy z.symm), List.append_nil]
      · refine k1 σ5 Hs5 H5 (e7.weak (by repeat (first | exact Weak.nil | refine Weak.same ?_ | refine Weak.none ?_))) ?_
        rw [psOf_succ hia]
        have hlr : ((r.map fun n : Nat => PyData.int (n : Int)).map (isD K)).length = r.length := by simp
        rw [hlr, List.take_length] at g7
        rw [← x2]; exact g7
    · have hlr : ((a.zipIdx.map fun p => PyData.tuple [.int (p.2 : Int), dN p.1]).map (isD K)).length = a.length := by simp
      rw [hlr] at g4
      obtain ⟨v2, u1, u2, u3⟩ := e4.val 2 _ rfl
      subst u2
      have bo := backOf a
      revert g4 bo
      generalize lsOf a.length (psOf a a.length) = ls
      intro g4 bo
      have hHs : ∀ u ∈ qs, Hs3 u = none ∧ c.H0 u = none ∧ ∃ m : List Nat, H3 u = some (.lst (vInts m)) := fun u hu => by
        obtain ⟨i, hi, e1⟩ := List.mem_iff_getElem.mp hu
        have hi2 : i < ls.length := by rw [← g4.len]; exact hi
        obtain ⟨n1, n2, n3⟩ := g4.at_ i u ls[i] (by rw [List.getElem?_eq_getElem hi, e1]) (List.getElem?_eq_getElem hi2)
        exact ⟨n1, n3, _, n2⟩
      have X1 : Ex Hs3 (fun b => if b ∈ qs then H3 b else Hs3 b) := fun b o eb => by
        show (if b ∈ qs then H3 b else Hs3 b) = some o
        rw [if_neg (fun hb => by rw [(hHs b hb).1] at eb; cases eb)]; exact eb
      have X2 : Ex (fun b => if b ∈ qs then H3 b else Hs3 b) H3 := fun b o eb => by
        change (if b ∈ qs then H3 b else Hs3 b) = some o at eb
        split at eb
        · exact eb
        · exact e4.ok.sub b o eb
      refine ⟨.ref l, u1, q (.ref l) (fun b => if b ∈ qs then H3 b else Hs3 b) H3 ⟨e4.stp.s.trans X1, X2, e4.stp.k, e4.stp.t, fun b h1 h2 => ?_, e4.stp.d⟩ ⟨l, qs, ls, rfl, X1 _ _ u3, g4.len, fun i u m h1 h2 => ?_, bo⟩⟩
      · show (if b ∈ qs then H3 b else Hs3 b) = none
        rw [if_neg (fun hb => h1 (hHs b hb).2.1)]
        exact e4.stp.f b h1 h2
      · show (if u ∈ qs then H3 u else Hs3 u) = _
        rw [if_pos (List.mem_of_getElem? h1)]
        exact (g4.at_ i u m h1 h2).2.1
theorem sc_comes : FnScope ["arrows", "targets", "back", "reached", "waiting", "here", "row", "x", "is_reached"] ["arrows", "targets"] (defScope s_comes) := ⟨rfl, rfl, rfl, by decide +kernel, rfl, by decide +kernel, by decide +kernel⟩
theorem ok_comes {f : Addr} {fd : FuncData} (F : FunD K "comes" "comes" (defArgs s_comes) (defBody s_comes) (defScope s_comes) [] [] f fd) (hm : mg "comes" = some (.ref f)) (B : Blt mg)  (h_arrows_back : Has P w K mg base "arrows_back" ["arrows"] 1 (spOf T (p_arrows_back K C))) : Has P w K mg base "comes" ["arrows", "targets"] 2 (spOf T (p_comes K C)) :=
  has_of F hm sc_comes (fun _ _ _ _ _ _ us hl => match us, hl with | [_, _], _ => rfl) (fun _ => rfl) (by decide) fun cdv A outer s H E hr a c D hT hX hs q hnx => by
    subst hT
    refine ⟨_, (pss_cons (ps_par (by rfl) sc_comes.nd (i := 2) (j := 3) rfl rfl (by decide) rfl rfl (pa_cons (pe_has (h_arrows_back.mono (by decide)) (hr) (pa_cons (pv 0) pa_nil)) (pa_cons (pe_lc (own := [("row", 6)]) rfl sc_comes.nd (k_piT K (pv 0)) (blkOk_by (own := [("row", 6)]) (N := ["arrows", "targets", "back", "reached", "waiting", "here", "row", "x", "is_reached"]) (sc := defScope s_comes) (by decide +kernel)) (fun _ _ _ _ _ => (pg_name (i := 6) sc_comes.nd rfl (.inl rfl))) (fun _ _ _ _ _ => pts_nil) (fun _ _ _ _ _ => pe_bl)) pa_nil)) (by rfl))
      (pss_cons (ps_set (i := 4) sc_comes.nd rfl (.inl rfl) (pe_callTy (k_listOf K) (by rfl) B.list (by decide +kernel) (pa_cons (pv 1) pa_nil)))
      (pss_cons (ps_while PassesOwn.never (pt_cmpR (k_neD K hr.units) (pv 4) (pe_lst pa_nil) (nomark _)) (pss_cons (ps_set (i := 5) sc_comes.nd rfl (.inl rfl) (k_bm0 K PySem.F.plainAttrs_list PySem.F.slot_list_pop PySem.F.type_list_pop mt_pop (pv 4)))
      (pss_one (ps_if (pt_not (pt_val (pe_ix (k_ixL K) (pv 3) (pv 5) (fun _ _ => rfl)))) (pss_cons (ps_asg pe_bl (pg_sub (pv 3) (pv 5) set_list))
      (pss_one (ps_expr (k_bm K PySem.F.plainAttrs_list PySem.F.slot_list_extend PySem.F.type_list_extend mt_extend (pv 4) (pa_cons (pe_ix (k_ixL K) (pv 2) (pv 5) (fun _ _ => rfl)) pa_nil))))) pss_nil))))
      (pss_one (ps_ret (pe_callTy (k_tupOf K) (by rfl) B.tuple (by decide +kernel) (pa_cons (pe_lc (own := [("x", 7), ("is_reached", 8)]) rfl sc_comes.nd (k_enum K (by rfl) B.enumerate (pa_cons (pv 3) pa_nil)) (blkOk_by (own := [("x", 7), ("is_reached", 8)]) (N := ["arrows", "targets", "back", "reached", "waiting", "here", "row", "x", "is_reached"]) (sc := defScope s_comes) (by decide +kernel)) (fun _ _ _ _ _ => (k_tup K 2 (pgs_cons (pg_name (i := 7) sc_comes.nd rfl (.inl rfl)) (pgs_cons (pg_name (i := 8) sc_comes.nd rfl (.inl rfl)) pgs_nil)))) (fun _ _ _ _ _ => (pts_one (pt_val (pv 8)))) (fun _ _ _ _ _ => (pv 7))) pa_nil))))))), ?_⟩
    obtain ⟨As, ts⟩ := a
    obtain ⟨hn, hr1, ht, hts, htl⟩ := hs
    dsimp only at hn hr1 ht hts htl
    refine tri_seq (tri_parO (ev_call (p := p_arrows_back K C) As (evA_cons (ev_var rfl) evA_nil) ⟨Nat.le_trans hn (by decide), fun r hr => ⟨?_, (hr1 r hr)⟩, Nat.le_trans ht (by decide)⟩) (evO_map (xs := As) (gd := dN) (fun _ => .bool false) (its_tup (ev_var rfl)) (Nat.le_trans hn (by decide)) fun i x hx => ⟨_, _, tgt_name, by decide, evT_tt, ev_bl⟩) ?_)
    · exact Nat.le_trans (le_total hr) ht
    refine tri_seq (tri_asgO (evO_listT (evA_cons (ev_var (i := 1) rfl) evA_nil)) ?_)
    refine nx_openBk (K := K) (As := As) (i := 2) rfl fun ls hls => ?_
    have h1 : ∀ x : Bool, (if x = true then 0 else 1) ≤ 1 := fun x => by cases x <;> simp
    have goto : ∀ (rs : List Bool) (w : List Nat) (z : Nat), Go As ts rs (w ++ [z]) → z < rs.length := fun rs w z g => by rw [g.len]; exact g.lt z (by simp)
    refine tri_seq (tri_while (α := { p : List Bool × List Nat // Go As ts p.1 p.2 ∧ goM As p.1 p.2 ≤ 10000 }) (fun p => [.is (isD K (dAs As)), .is (isD K (dN ts)), .is (isBkL K ls), .own (ownL K (p.1.1.map .bool)), .own (ownL K (p.1.2.map fun n : Nat => .int (n : Int))), .no, .no, .no, .no]) (fun p => goM As p.1.1 p.1.2) ⟨(List.replicate As.length false, ts), Go.start hts, ?_⟩ ?_ fun p => ⟨_, evT_ne0 rfl (enc_nat.list.shaped (by decide) p.1.2), fun hb => ?_, fun hb => ?_⟩)
    · unfold goM
      dsimp only
      rw [List.count_replicate_self]
      have : As.length * (total As + 1) ≤ 40 * 101 := Nat.mul_le_mul hn (by omega)
      omega
    · have e : (As.map fun _ => PyData.bool false) = (List.replicate As.length false).map PyData.bool := by rw [List.map_replicate, List.map_const']
      rw [e]
      repeat (first | exact Weak.nil | refine Weak.same ?_ | refine Weak.none ?_)
    · obtain ⟨⟨rs, w0⟩, g, hm1⟩ := p
      have hne : w0 ≠ [] := fun z => by
        subst z
        simp [PyData.eqv, PyData.eqvAll] at hb
      obtain ⟨w, z, rfl⟩ : ∃ w z, w0 = w ++ [z] := ⟨w0.dropLast, w0.getLast hne, (List.dropLast_concat_getLast hne).symm⟩
      have hz := goto rs w z g
      have hzb : (rs.map PyData.bool)[(z : Int).toNat]? = some (.bool rs[z]) := by
        rw [Int.toNat_natCast, List.getElem?_map, List.getElem?_eq_getElem hz]; rfl
      intro D' d1 d2 d3 d4
      dsimp only at hm1 d3 d4 ⊢
      rw [List.map_append]
      refine tri_seq (tri_pop (d := .int (z : Nat)) rfl ?_)
      refine tri_if (evT_not (evT_B (ev_ixO rfl (ev_var rfl) (by omega) hzb))) (fun hb2 => ?_) fun hb2 => ?_
      · have hf : rs[z]? = some false := by
          rw [List.getElem?_eq_getElem hz]
          simpa using hb2
        have hly : ∃ l, ls[z]? = some l := ⟨ls[z]'(by rw [hls.1, ← g.len]; exact hz), List.getElem?_eq_getElem _⟩
        obtain ⟨l, hl⟩ := hly
        obtain ⟨bl1, bl2⟩ := hls.2 z l hl
        have hw : (w ++ [z]).length ≤ 10000 := by unfold goM at hm1; omega
        rw [List.length_append, List.length_singleton] at hw
        refine tri_seq (tri_setI rfl ev_bl (ev_var rfl) (by omega) (by rw [List.length_map, Int.toNat_natCast]; exact hz) ?_)
        refine tri_ext rfl (ev_bk (ev_var rfl) (ev_var rfl) hl) (by rw [List.length_map, List.length_map]; omega) ?_
        have g' := g.take bl1
        have m' := goM_take (As := As) (w := w) hf bl2
        refine nx_weak ?_ (d3 ⟨(rs.set z true, w ++ l), g', by dsimp only; omega⟩ m')
        dsimp only
        rw [List.map_append, List.map_set, Int.toNat_natCast]
        repeat (first | exact Weak.nil | refine Weak.same ?_ | refine Weak.none ?_)
      · have hf : rs[z]? = some true := by
          rw [List.getElem?_eq_getElem hz]
          simpa using hb2
        have m' := goM_skip (As := As) (rs := rs) (w := w) (z := z)
        refine tri_next (nx_weak ?_ (d3 ⟨(rs, w), g.skip hf, by dsimp only; omega⟩ m'))
        repeat (first | exact Weak.nil | refine Weak.same ?_ | refine Weak.none ?_)
    · obtain ⟨⟨rs, w0⟩, g, hm1⟩ := p
      have hw : w0 = [] := by
        have := enc_nat.list.eq w0 []
        apply this.mp
        simpa using hb
      subst hw
      dsimp only
      refine nx_tri (tri_freeze 3 rfl hX ?_)
      refine tri_ret (ev_is (ev_CB (evA_cons (evO_data (evO_filter (xs := rs.zipIdx) (fun p => p.1) (fun p => .int (p.2 : Nat)) (its_enumM (evA_cons (ev_lsD (ev_var rfl)) evA_nil)) ?_ fun i x hx => ⟨_, _, tgt_tup (ds := [_, _]) (tgts_cons tgt_name (tgts_cons tgt_name tgts_nil)) rfl, by decide, evT_B (ev_var rfl), fun _ => ev_var rfl⟩)) evA_nil) caV_tupL) ?_) q
      · rw [List.length_zipIdx, g.len]; omega
      · have := reach_of g.len (Go.done g)
        show PyData.tuple _ = PyData.tuple ((reachL As ts).map fun n : Nat => PyData.int (n : Int))
        rw [← this, List.map_map]; rfl
end
end SD
end
section
set_option maxHeartbeats 4000000
set_option exponentiation.threshold 100000
namespace SD
open PySem PySem.Spec PyProof.Rows L2 SH SM RZ
open Classical
section
def ChOk (b : Bd) (x : Nat) (c : Int) : Prop := x < b.size ∧ -1 ≤ c ∧ c < ((b.row x).length : Int)
def p_is_choice (K : PySem.W.Frag) (C : Addr) : Prom := ⟨Bd × Nat × Int, fun a => GB a.1 ∧ ChOk a.1 a.2.1 a.2.2, fun a => [isB K C a.1, isD K (.int (a.2.1 : Nat)), isD K (.int a.2.2)], fun a => isD K (.bool true)⟩
def p_want_way (K : PySem.W.Frag) (C : Addr) : Prom := ⟨Bd × List Int, fun a => GB a.1 ∧ WayOk a.1 a.2, fun a => [isB K C a.1, isD K (dZ a.2)], fun a => isD K .none⟩
def p_led_to (K : PySem.W.Frag) (C : Addr) : Prom := ⟨Bd × Nat × List Int, fun a => GB a.1 ∧ WayOk a.1 a.2.2 ∧ a.2.1 < a.1.size, fun a => [isB K C a.1, isD K (.int (a.2.1 : Nat)), isD K (.int (ch a.2.2 a.2.1))], fun a => isD K (dN (led a.1 a.2.2 a.2.1))⟩
noncomputable def p_live_places (K : PySem.W.Frag) (C : Addr) : Prom := ⟨Bd × List Int, fun a => GB a.1 ∧ WayOk a.1 a.2, fun a => [isB K C a.1, isD K (dZ a.2)], fun a => isD K (dN (liveL a.1 a.2))⟩
noncomputable def p_inner_places (K : PySem.W.Frag) (C : Addr) : Prom := ⟨Bd × List Int, fun a => GB a.1 ∧ WayOk a.1 a.2, fun a => [isB K C a.1, isD K (dZ a.2)], fun a => isD K (dN (inner a.1 a.2))⟩
def p_weight_to (K : PySem.W.Frag) (C : Addr) : Prom := ⟨Lot × Nat, fun a => a.1.length ≤ 1000, fun a => [isD K (dL a.1), isD K (.int (a.2 : Nat))], fun a => isD K (.int (wto a.1 a.2 : Nat))⟩
variable {P : Program} {w : World} {K : PySem.W.Frag} {mg : Str → Option Value} {base : Heap} {T : List Addr} {C : Addr}
theorem sc_is_choice : FnScope ["board", "x", "choice"] ["board", "x", "choice"] (defScope s_is_choice) := ⟨rfl, rfl, rfl, by decide +kernel, rfl, by decide +kernel, by decide +kernel⟩
theorem ok_is_choice {f : Addr} {fd : FuncData} (F : FunD K "is_choice" "is_choice" (defArgs s_is_choice) (defBody s_is_choice) (defScope s_is_choice) [] [] f fd) (hm : mg "is_choice" = some (.ref f)) (B : Blt mg) (BB : BF K C)  : Has P w K mg base "is_choice" ["board", "x", "choice"] 1 (spOf T (p_is_choice K C)) :=
  has_of F hm sc_is_choice (fun _ _ _ _ _ _ us hl => match us, hl with | [_, _, _], _ => rfl) (fun _ => rfl) (by decide) fun cdv A outer s H E hr a c D hT hX hs q hnx => by
    subst hT
    refine ⟨_, (pss_one (ps_ret (pe_and (pe_callB (k_isi K) (by rfl) B.isinstance (by decide +kernel) (pa_cons (pv 2) (pa_cons (pe_bltn (v := .ty "int") (by rfl) B.int (by decide +kernel) rfl) pa_nil))) (pe_one (pe_chain op_le op_lt (k_glI (by rfl) B.STOP) (pv 2) (pe_callB (k_len K) (by rfl) B.len (by decide +kernel) (pa_cons (pe_ix (k_ixT K) (k_fld K (pv 0) rfl) (pv 1) (fun _ _ => rfl)) pa_nil))))))), ?_⟩
    obtain ⟨b, x, k⟩ := a
    obtain ⟨g, h1, h2, h3⟩ := hs
    dsimp only at g h1 h2 h3
    refine tri_ret (ev_is (ev_andV (ev_CB (evA_cons (ev_var rfl) (evA_cons ev_ty evA_nil)) (caV_isi (kit_int _))) fun _ => ev_chain ev_int (ev_var rfl) opV_bool (ev_CB (evA_cons (ev_op (ev_plays BB (ev_var rfl)) (ev_var rfl) (opV_ixM rfl (row_get g h1))) evA_nil) caV_lenT) opV_bool) ?_) q
    simp [isBI, h2]
    exact h3
theorem sc_want_way : FnScope ["board", "way", "x", "choice"] ["board", "way"] (defScope s_want_way) := ⟨rfl, rfl, rfl, by decide +kernel, rfl, by decide +kernel, by decide +kernel⟩
theorem ok_want_way {f : Addr} {fd : FuncData} (F : FunD K "want_way" "want_way" (defArgs s_want_way) (defBody s_want_way) (defScope s_want_way) [] [] f fd) (hm : mg "want_way" = some (.ref f)) (B : Blt mg) (BB : BF K C) (h_is_choice : Has P w K mg base "is_choice" ["board", "x", "choice"] 1 (spOf T (p_is_choice K C))) : Has P w K mg base "want_way" ["board", "way"] 2 (spOf T (p_want_way K C)) :=
  has_of F hm sc_want_way (fun _ _ _ _ _ _ us hl => match us, hl with | [_, _], _ => rfl) (fun _ => rfl) (by decide) fun cdv A outer s H E hr a c D hT hX hs q hnx => by
    subst hT
    refine ⟨_, (pss_cons (ps_if (pt_cmpR op_ne (pe_callB (k_len K) (by rfl) B.len (by decide +kernel) (pa_cons (pv 1) pa_nil)) (k_fld K (pv 0) rfl) (nomark _)) (pss_one ps_never) pss_nil)
      (pss_one (ps_for PassesOwn.never rfl (pi_enumT K (by rfl) B.enumerate (pa_cons (pv 1) pa_nil)) (k_tup K 2 (pgs_cons (pg_name (i := 2) sc_want_way.nd rfl (.inl rfl)) (pgs_cons (pg_name (i := 3) sc_want_way.nd rfl (.inl rfl)) pgs_nil)))
      (pss_one (ps_if (pt_not (pt_val (pe_has (h_is_choice.mono (by decide)) (hr) (pa_cons (pv 0) (pa_cons (pv 2) (pa_cons (pv 3) pa_nil)))))) (pss_one ps_never) pss_nil))))), ?_⟩
    obtain ⟨b, way⟩ := a
    obtain ⟨g, wo⟩ := hs
    dsimp only at g wo
    refine tri_seq (tri_ifF (evT_is (evT_test (ev_op (ev_CB (evA_cons (ev_var (i := 1) rfl) evA_nil) caV_lenT) (ev_size BB (ev_var rfl)) opV_neI)) (by simp [wo.len])) (tri_next ?_))
    refine nx_tri (tri_forM (xs := way.zipIdx) (its_enumTM (evA_cons (ev_var rfl) evA_nil)) (fun _ => [.is (isB K C b), .is (isD K (dZ way)), .no, .no]) (by repeat (first | exact Weak.nil | refine Weak.same ?_ | refine Weak.none ?_)) (fun c' M p a1 a2 a3 a4 hp => ?_) ?_)
    · obtain ⟨h1, h2, h3⟩ := zipIdx_at hp
      obtain ⟨k, ix⟩ := p
      dsimp only at h1 h2
      subst h2
      rw [wo.len] at h3
      rw [way_get wo h3] at h1
      cases h1
      refine ⟨_, _, tgt_tup (ds := [_, _]) (tgts_cons tgt_name (tgts_cons tgt_name tgts_nil)) rfl, fun D' d1 d2 d3 d4 => ?_⟩
      rw [← a1]
      refine tri_ifF (evT_is (b := !true) (evT_not (evT_B (ev_call (p := p_is_choice K C) (b, M.length, ch way M.length) (evA_cons (ev_var rfl) (evA_cons (ev_var rfl) (evA_cons (ev_var rfl) evA_nil))) ⟨g, h3, wo.rng _ h3⟩))) rfl) (tri_next (nx_weak (by repeat (first | exact Weak.nil | refine Weak.same ?_ | refine Weak.none ?_)) d3))
    · rw [hnx]
      exact nx_weak (E' := [.no, .no, .no, .no]) (by repeat (first | exact Weak.nil | refine Weak.same ?_ | refine Weak.none ?_)) (nx_fin q)
theorem sc_led_to : FnScope ["board", "x", "choice", "y", "weight"] ["board", "x", "choice"] (defScope s_led_to) := ⟨rfl, rfl, rfl, by decide +kernel, rfl, by decide +kernel, by decide +kernel⟩
theorem ok_led_to {f : Addr} {fd : FuncData} (F : FunD K "led_to" "led_to" (defArgs s_led_to) (defBody s_led_to) (defScope s_led_to) [] [] f fd) (hm : mg "led_to" = some (.ref f)) (B : Blt mg) (BB : BF K C)  : Has P w K mg base "led_to" ["board", "x", "choice"] 1 (spOf T (p_led_to K C)) :=
  has_of F hm sc_led_to (fun _ _ _ _ _ _ us hl => match us, hl with | [_, _, _], _ => rfl) (fun _ => rfl) (by decide) fun cdv A outer s H E hr a c D hT hX hs q hnx => by
    subst hT
    refine ⟨_, (pss_one (ps_ret (pe_ifExp (pt_cmpR op_eq (pv 2) (k_glI (by rfl) B.STOP) (nomark _)) (pe_tup pa_nil) (pe_callTy (k_tupOf K) (by rfl) B.tuple (by decide +kernel) (pa_cons (pe_lc (own := [("y", 3), ("weight", 4)]) rfl sc_led_to.nd (k_piT K (pe_ix (k_ixT K) (pe_ix (k_ixT K) (k_fld K (pv 0) rfl) (pv 1) (fun _ _ => rfl)) (pv 2) (fun _ _ => rfl))) (blkOk_by (own := [("y", 3), ("weight", 4)]) (N := ["board", "x", "choice", "y", "weight"]) (sc := defScope s_led_to) (by decide +kernel)) (fun _ _ _ _ _ => (k_tup K 2 (pgs_cons (pg_name (i := 3) sc_led_to.nd rfl (.inl rfl)) (pgs_cons (pg_name (i := 4) sc_led_to.nd rfl (.inl rfl)) pgs_nil)))) (fun _ _ _ _ _ => pts_nil) (fun _ _ _ _ _ => (pv 3))) pa_nil))))), ?_⟩
    obtain ⟨b, x, way⟩ := a
    obtain ⟨g, wo, hx⟩ := hs
    dsimp only at g wo hx
    refine tri_ret (ev_if (evT_test (ev_op (ev_var rfl) ev_int opV_eqI)) (fun hb => ?_) fun hb => ?_) q
    · have hc : ch way x = -1 := of_decide_eq_true hb
      refine ev_is (ev_tup (K := K) (ds := []) evA_nil) ?_
      show PyData.tuple [] = PyData.tuple ((led b way x).map fun n : Nat => PyData.int (n : Int))
      unfold led
      rw [if_pos hc]; rfl
    · have hc : ch way x ≠ -1 := of_decide_eq_false hb
      obtain ⟨l1, l2⟩ := lot_get wo hx hc
      have lo := g.row_mem (wo.lot_mem hx hc)
      refine ev_is (ev_CB (evA_cons (evO_data (evO_map (xs := b.lot way x) (gd := dP) (fun p => .int (p.1 : Nat)) (its_tup (ev_op (ev_op (ev_plays BB (ev_var (i := 0) rfl)) (ev_var (i := 1) rfl) (opV_ixM rfl (row_get g hx))) (ev_var (i := 2) rfl) (opV_ixM (n := (ch way x).toNat) (Int.toNat_of_nonneg l1).symm l2))) (Nat.le_trans lo.len (by decide)) fun i x hx => ⟨_, _, tgt_tup (ds := [_, _]) (tgts_cons tgt_name (tgts_cons tgt_name tgts_nil)) rfl, by decide, evT_tt, ev_var rfl⟩)) evA_nil) caV_tupL) ?_
      show PyData.tuple _ = PyData.tuple ((led b way x).map fun n : Nat => PyData.int (n : Int))
      unfold led
      rw [if_neg hc, List.map_map]; rfl
theorem sc_live_places : FnScope ["board", "way", "arrows", "x", "choice"] ["board", "way"] (defScope s_live_places) := ⟨rfl, rfl, rfl, by decide +kernel, rfl, by decide +kernel, by decide +kernel⟩
theorem ok_live_places {f : Addr} {fd : FuncData} (F : FunD K "live_places" "live_places" (defArgs s_live_places) (defBody s_live_places) (defScope s_live_places) [] [] f fd) (hm : mg "live_places" = some (.ref f)) (B : Blt mg) (BB : BF K C) (h_comes : Has P w K mg base "comes" ["arrows", "targets"] 2 (spOf T (p_comes K C))) (h_led_to : Has P w K mg base "led_to" ["board", "x", "choice"] 1 (spOf T (p_led_to K C))) : Has P w K mg base "live_places" ["board", "way"] 3 (spOf T (p_live_places K C)) :=
  has_of F hm sc_live_places (fun _ _ _ _ _ _ us hl => match us, hl with | [_, _], _ => rfl) (fun _ => rfl) (by decide) fun cdv A outer s H E hr a c D hT hX hs q hnx => by
    subst hT
    refine ⟨_, (pss_cons (ps_set (i := 2) sc_live_places.nd rfl (.inl rfl) (pe_callTy (k_tupOf K) (by rfl) B.tuple (by decide +kernel) (pa_cons (pe_lc (own := [("x", 3), ("choice", 4)]) rfl sc_live_places.nd (pi_enumT K (by rfl) B.enumerate (pa_cons (pv 1) pa_nil)) (blkOk_by (own := [("x", 3), ("choice", 4)]) (N := ["board", "way", "arrows", "x", "choice"]) (sc := defScope s_live_places) (by decide +kernel)) (fun _ _ _ _ _ => (k_tup K 2 (pgs_cons (pg_name (i := 3) sc_live_places.nd rfl (.inl rfl)) (pgs_cons (pg_name (i := 4) sc_live_places.nd rfl (.inl rfl)) pgs_nil)))) (fun _ _ _ _ _ => pts_nil) (fun _ _ _ _ _ => (pe_has (h_led_to.mono (by decide)) (hr) (pa_cons (pv 0) (pa_cons (pv 3) (pa_cons (pv 4) pa_nil)))))) pa_nil)))
      (pss_one (ps_ret (pe_has (h_comes.mono (by decide)) (hr) (pa_cons (pv 2) (pa_cons (pe_callTy (k_tupOf K) (by rfl) B.tuple (by decide +kernel) (pa_cons (pe_lc (own := [("x", 3), ("choice", 4)]) rfl sc_live_places.nd (pi_enumT K (by rfl) B.enumerate (pa_cons (pv 1) pa_nil)) (blkOk_by (own := [("x", 3), ("choice", 4)]) (N := ["board", "way", "arrows", "x", "choice"]) (sc := defScope s_live_places) (by decide +kernel)) (fun _ _ _ _ _ => (k_tup K 2 (pgs_cons (pg_name (i := 3) sc_live_places.nd rfl (.inl rfl)) (pgs_cons (pg_name (i := 4) sc_live_places.nd rfl (.inl rfl)) pgs_nil)))) (fun _ _ _ _ _ => (pts_one (pt_cmpR op_eq (pv 4) (k_glI (by rfl) B.STOP) (nomark _)))) (fun _ _ _ _ _ => (pv 3))) pa_nil)) pa_nil)))))), ?_⟩
    obtain ⟨b, way⟩ := a
    obtain ⟨g, wo⟩ := hs
    dsimp only at g wo
    have hsz := g.size
    have hzl : way.zipIdx.length ≤ 50000 := by rw [List.length_zipIdx, wo.len]; omega
    have hzi : ∀ (i : Nat) (p : Int × Nat), way.zipIdx[i]? = some p → p.2 < b.size ∧ p.1 = ch way p.2 := fun i p hp => by
      obtain ⟨k, ix⟩ := p
      rw [zipIdx_range way (-1), List.getElem?_map] at hp
      by_cases hi : i < way.length
      · rw [List.getElem?_range hi] at hp
        cases hp
        exact ⟨by rw [← wo.len]; exact hi, rfl⟩
      · rw [List.getElem?_eq_none (by rw [List.length_range]; omega)] at hp; cases hp
    have hA : PyData.tuple (way.zipIdx.map fun p => dN (led b way p.2)) = dAs (leds b way) := by
      unfold dAs leds
      rw [zipIdx_range way (-1), List.map_map, List.map_map, wo.len]; rfl
    refine tri_seq (tri_asg (ev_is (ev_CB (evA_cons (evO_data (evO_map (xs := way.zipIdx) (fun p => dN (led b way p.2)) (its_enumTM (evA_cons (ev_var (i := 1) rfl) evA_nil)) hzl fun i p hp => ⟨_, _, tgt_tup (ds := [_, _]) (tgts_cons tgt_name (tgts_cons tgt_name tgts_nil)) rfl, by decide, evT_tt, ?_⟩)) evA_nil) caV_tupL) hA) ?_)
    · obtain ⟨z1, z2⟩ := hzi i p hp
      exact ev_call (p := p_led_to K C) (b, p.2, way) (evA_cons (ev_var rfl) (evA_cons (ev_var rfl) (evA_cons (ev_is (ev_var rfl) (by rw [z2])) evA_nil))) ⟨g, wo, z1⟩
    have hS : PyData.tuple ((way.zipIdx.filter fun p => decide (p.1 = -1)).map fun p => .int (p.2 : Nat)) = dN (stops b way) := by
      unfold dN
      rw [← stops_of wo, List.map_map]; rfl
    refine tri_ret (ev_is (ev_call (p := p_comes K C) (leds b way, stops b way) (evA_cons (ev_var rfl) (evA_cons (ev_is (ev_CB (evA_cons (evO_data (evO_filter (xs := way.zipIdx) (fun p => decide (p.1 = -1)) (fun p => .int (p.2 : Nat)) (its_enumTM (evA_cons (ev_var (i := 1) rfl) evA_nil)) hzl fun i p hp => ⟨_, _, tgt_tup (ds := [_, _]) (tgts_cons tgt_name (tgts_cons tgt_name tgts_nil)) rfl, by decide, evT_test (ev_op (ev_var rfl) ev_int opV_eqI), fun _ => ev_var rfl⟩)) evA_nil) caV_tupL) hS) evA_nil)) ⟨by rw [leds_len]; omega, fun r hr y hy => ?_, Nat.le_trans (leds_total g wo) (by decide), fun z hz => ?_, ?_⟩) ?_) q
    · unfold leds at hr
      obtain ⟨x, hx, rfl⟩ := List.mem_map.mp hr
      rw [leds_len]
      exact led_lt g wo (List.mem_range.mp hx) hy
    · unfold stops at hz
      rw [leds_len]
      exact List.mem_range.mp (List.mem_filter.mp hz).1
    · have : (stops b way).length ≤ b.size := by
        have := List.length_filter_le (fun x => decide (ch way x = -1)) (List.range b.size)
        rw [List.length_range] at this; exact this
      dsimp only
      omega
    · exact congrArg dN (reach_liveL g wo)
theorem sc_inner_places : FnScope ["board", "way", "x"] ["board", "way"] (defScope s_inner_places) := ⟨rfl, rfl, rfl, by decide +kernel, rfl, by decide +kernel, by decide +kernel⟩
theorem ok_inner_places {f : Addr} {fd : FuncData} (F : FunD K "inner_places" "inner_places" (defArgs s_inner_places) (defBody s_inner_places) (defScope s_inner_places) [] [] f fd) (hm : mg "inner_places" = some (.ref f)) (B : Blt mg) (BB : BF K C) (h_live_places : Has P w K mg base "live_places" ["board", "way"] 3 (spOf T (p_live_places K C))) : Has P w K mg base "inner_places" ["board", "way"] 4 (spOf T (p_inner_places K C)) :=
  has_of F hm sc_inner_places (fun _ _ _ _ _ _ us hl => match us, hl with | [_, _], _ => rfl) (fun _ => rfl) (by decide) fun cdv A outer s H E hr a c D hT hX hs q hnx => by
    subst hT
    refine ⟨_, (pss_one (ps_ret (pe_callTy (k_tupOf K) (by rfl) B.tuple (by decide +kernel) (pa_cons (pe_lc (own := [("x", 2)]) rfl sc_inner_places.nd (k_piT K (pe_has (h_live_places.mono (by decide)) (hr) (pa_cons (pv 0) (pa_cons (pv 1) pa_nil)))) (blkOk_by (own := [("x", 2)]) (N := ["board", "way", "x"]) (sc := defScope s_inner_places) (by decide +kernel)) (fun _ _ _ _ _ => (pg_name (i := 2) sc_inner_places.nd rfl (.inl rfl))) (fun _ _ _ _ _ => (pts_one (pt_cmpR op_ne (pe_ix (k_ixT K) (pv 1) (pv 2) (fun _ _ => rfl)) (k_glI (by rfl) B.STOP) (nomark _)))) (fun _ _ _ _ _ => (pv 2))) pa_nil)))), ?_⟩
    obtain ⟨b, way⟩ := a
    obtain ⟨g, wo⟩ := hs
    dsimp only at g wo
    have hsz := g.size
    have hl : (liveL b way).length ≤ b.size := by
      have := List.length_filter_le (fun x => decide (Live b way x)) (List.range b.size)
      rw [List.length_range] at this; exact this
    refine tri_ret (ev_is (ev_CB (evA_cons (evO_data (evO_filter (xs := liveL b way) (gd := fun n : Nat => .int (n : Int)) (fun x => !decide (ch way x = -1)) (fun x => .int (x : Nat)) (its_tup (ev_call (p := p_live_places K C) (b, way) (evA_cons (ev_var rfl) (evA_cons (ev_var rfl) evA_nil)) ⟨g, wo⟩)) (by omega) fun i x hx => ⟨_, _, tgt_name, by decide, evT_test (ev_op (ev_op (ev_var (i := 1) rfl) (ev_var rfl) (opV_ixM rfl (way_get wo ?_))) ev_int opV_neI), fun _ => ev_var rfl⟩)) evA_nil) caV_tupL) ?_) q
    · exact List.mem_range.mp (List.mem_filter.mp (List.mem_of_getElem? hx)).1
    · rw [inner_of]; rfl
theorem sc_weight_to : FnScope ["lottery", "target", "y", "weight"] ["lottery", "target"] (defScope s_weight_to) := ⟨rfl, rfl, rfl, by decide +kernel, rfl, by decide +kernel, by decide +kernel⟩
theorem ok_weight_to {f : Addr} {fd : FuncData} (F : FunD K "weight_to" "weight_to" (defArgs s_weight_to) (defBody s_weight_to) (defScope s_weight_to) [] [] f fd) (hm : mg "weight_to" = some (.ref f)) (B : Blt mg)   : Has P w K mg base "weight_to" ["lottery", "target"] 1 (spOf T (p_weight_to K C)) :=
  has_of F hm sc_weight_to (fun _ _ _ _ _ _ us hl => match us, hl with | [_, _], _ => rfl) (fun _ => rfl) (by decide) fun cdv A outer s H E hr a c D hT hX hs q hnx => by
    subst hT
    refine ⟨_, (pss_cons (ps_for PassesOwn.never rfl (k_piT K (pv 0)) (k_tup K 2 (pgs_cons (pg_name (i := 2) sc_weight_to.nd rfl (.inl rfl)) (pgs_cons (pg_name (i := 3) sc_weight_to.nd rfl (.inl rfl)) pgs_nil)))
      (pss_one (ps_if (pt_cmpR op_eq (pv 2) (pv 1) (nomark _)) (pss_one (ps_ret (pv 3))) pss_nil)))
      (pss_one (ps_ret pe_int))), ?_⟩
    obtain ⟨L, t⟩ := a
    change L.length ≤ 1000 at hs
    refine tri_seq (tri_forP (xs := L) (gd := dP) (fun M => ∀ p ∈ M, p.1 ≠ t) (by simp) (its_tup (ev_var rfl)) (fun _ => [.is (isD K (dL L)), .is (isD K (.int (t : Nat))), .no, .no]) (by repeat (first | exact Weak.nil | refine Weak.same ?_ | refine Weak.none ?_)) (fun c' M p a1 a2 a3 a4 hp hM => ?_) fun hL => ?_)
    · refine ⟨_, _, tgt_tup (ds := [_, _]) (tgts_cons tgt_name (tgts_cons tgt_name tgts_nil)) rfl, fun D' d1 d2 d3 d4 => ?_⟩
      refine tri_if (evT_test (ev_op (ev_var rfl) (ev_var rfl) opV_eqI)) (fun hb => ?_) fun hb => ?_
      · have hb' : p.1 = t := by have := of_decide_eq_true hb; omega
        refine tri_ret (ev_is (ev_var rfl) ?_) (fin_to q a2 a3 a4 d1)
        obtain ⟨r, rfl⟩ := hp
        dsimp only
        rw [List.append_assoc, wto_app hM]
        show PyData.int _ = PyData.int ((if p.1 = t then p.2 else _ : Nat) : Int)
        rw [if_pos hb']
      · have hb' : p.1 ≠ t := by have := of_decide_eq_false hb; omega
        refine tri_next (nx_weak (by repeat (first | exact Weak.nil | refine Weak.same ?_ | refine Weak.none ?_)) (d3 fun r hr => ?_))
        rcases List.mem_append.mp hr with h | h
        · exact hM r h
        · have : r = p := by simpa using h
          rw [this]; exact hb'
    · refine nx_tri (tri_ret (ev_is ev_int ?_) q)
      dsimp only
      rw [wto_none hL]; rfl
end
end SD
end
section
set_option maxHeartbeats 4000000
set_option exponentiation.threshold 100000
namespace SD
open PySem PySem.Spec PyProof.Rows L2 SH SM RZ
open Classical
section
noncomputable def sqRow (b : Bd) (way : List Int) (x : Nat) : List Int := (inner b way).map fun y => (if y = x then (wh (b.lot way x) : Int) else 0) - (wto (b.lot way x) y : Int)
structure WayIn (b : Bd) (way : List Int) (x : Nat) : Prop where
  g : GB b
  w : WayOk b way
  x : InnerP b way x
noncomputable def p_square_row (K : PySem.W.Frag) (C : Addr) : Prom := ⟨Bd × List Int × Nat, fun a => WayIn a.1 a.2.1 a.2.2, fun a => [isB K C a.1, isD K (dZ a.2.1), isD K (dN (inner a.1 a.2.1)), isD K (.int (a.2.2 : Nat))], fun a => isD K (dIs (sqRow a.1 a.2.1 a.2.2))⟩
noncomputable def p_way_square (K : PySem.W.Frag) (C : Addr) : Prom := ⟨Bd × List Int, fun a => GB a.1 ∧ WayOk a.1 a.2, fun a => [isB K C a.1, isD K (dZ a.2), isD K (dN (inner a.1 a.2))], fun a => isD K (.tuple (((inner a.1 a.2).map (sqRow a.1 a.2)).map dIs))⟩
noncomputable def p_stopping_sum (K : PySem.W.Frag) (C : Addr) : Prom := ⟨Bd × List Int × Nat, fun a => WayIn a.1 a.2.1 a.2.2, fun a => [isB K C a.1, isD K (dZ a.2.1), isD K (.int (a.2.2 : Nat))], fun a => isD K (dI (stopZ a.1 a.2.1 (a.1.lot a.2.1 a.2.2)))⟩
structure SolA where
  n : Nat
  col : Nat → Vec
noncomputable def p_solved (K : PySem.W.Frag) (C : Addr) : Prom := ⟨SolA, fun a => a.n ≤ 40 ∧ (∀ k, k ≤ a.n → 0 < Dk a.n a.col k) ∧ (∀ k, (Dk a.n a.col k).natAbs < 2 ^ 90) ∧ ∀ k i j, j ≤ a.n → (Tt a.n a.col k i j).natAbs < 2 ^ 90,
  fun a => [isD K (.tuple ((tabZ a.n a.n fun r j => a.col j r).map dIs)), isD K (dIs ((List.range a.n).map fun r => a.col a.n r))],
  fun a => isD K (dRs ((List.range a.n).map fun i => Rat.divInt (Tt a.n a.col a.n i a.n) (Dk a.n a.col a.n)))⟩
noncomputable def p_value (K : PySem.W.Frag) (C : Addr) : Prom := ⟨Bd × List Int, fun a => GB a.1 ∧ WayOk a.1 a.2, fun a => [isB K C a.1, isD K (dZ a.2)], fun a => isD K (dRs ((List.range a.1.size).map (valF a.1 a.2)))⟩
theorem dR_int (z : Int) : dR (z : Rat) = dI z := rfl
variable {P : Program} {w : World} {K : PySem.W.Frag} {mg : Str → Option Value} {base : Heap} {T : List Addr} {C : Addr}
theorem ev_lot {c : Ctx} {E : List Slo} {b : Bd} {way : List Int} {x : Nat} {ta tb tc td : TE} (BB : BF K C) (h : WayIn b way x) (h1 : Ev c E ta (isB K C b)) (h2 : Ev c E tb (isD K (.int (x : Nat)))) (h3 : Ev c E tc (isD K (dZ way))) (h4 : Ev c E td (isD K (.int (x : Nat)))) :
    Ev c E (tOp (rIxT K) (tOp (rIxT K) (tFld K ta "plays") tb) (tOp (rIxT K) tc td)) (isD K (dL (b.lot way x))) := by
  obtain ⟨l1, l2⟩ := lot_get h.w h.x.1.lt h.x.2
  exact ev_op (ev_op (ev_plays BB h1) h2 (opV_ixM rfl (row_get h.g h.x.1.lt))) (ev_op h3 h4 (opV_ixM rfl (way_get h.w h.x.1.lt))) (opV_ixM (n := (ch way x).toNat) (Int.toNat_of_nonneg l1).symm l2)
theorem sc_square_row : FnScope ["board", "way", "inner", "x", "lottery", "whole", "y"] ["board", "way", "inner", "x"] (defScope s_square_row) := ⟨rfl, rfl, rfl, by decide +kernel, rfl, by decide +kernel, by decide +kernel⟩
theorem ok_square_row {f : Addr} {fd : FuncData} (F : FunD K "square_row" "square_row" (defArgs s_square_row) (defBody s_square_row) (defScope s_square_row) [] [] f fd) (hm : mg "square_row" = some (.ref f)) (B : Blt mg) (BB : BF K C) (h_weight_of : Has P w K mg base "weight_of" ["lottery"] 1 (spOf T (p_weight_of K C))) (h_weight_to : Has P w K mg base "weight_to" ["lottery", "target"] 1 (spOf T (p_weight_to K C))) : Has P w K mg base "square_row" ["board", "way", "inner", "x"] 2 (spOf T (p_square_row K C)) :=
  has_of F hm sc_square_row (fun _ _ _ _ _ _ us hl => match us, hl with | [_, _, _, _], _ => rfl) (fun _ => rfl) (by decide) fun cdv A outer s H E hr a c D hT hX hs q hnx => by
    subst hT
    refine ⟨_, (pss_cons (ps_set (i := 4) sc_square_row.nd rfl (.inr rfl) (pe_ix (k_ixT K) (pe_ix (k_ixT K) (k_fld K (pv 0) rfl) (pv 3) (fun _ _ => rfl)) (pe_ix (k_ixT K) (pv 1) (pv 3) (fun _ _ => rfl)) (fun _ _ => rfl)))
      (pss_cons (ps_set (i := 5) sc_square_row.nd rfl (.inr rfl) (pe_has (h_weight_of.mono (by decide)) (hr) (pa_cons (pv 4) pa_nil)))
      (pss_one (ps_ret (pe_callTy (k_tupOf K) (by rfl) B.tuple (by decide +kernel) (pa_cons (pe_lc (own := [("y", 6)]) rfl sc_square_row.nd (k_piT K (pv 2)) (blkOk_by (own := [("y", 6)]) (N := ["board", "way", "inner", "x", "lottery", "whole", "y"]) (sc := defScope s_square_row) (by decide +kernel)) (fun _ _ _ _ _ => (pg_name (i := 6) sc_square_row.nd rfl (.inl rfl))) (fun _ _ _ _ _ => pts_nil) (fun _ _ _ _ _ => (pe_tup (pa_cons (pe_op op_sub (pe_ifExp (pt_cmpR op_eq (pv 6) (pv 3) (nomark _)) (pv 5) pe_int) (pe_has (h_weight_to.mono (by decide)) (hr) (pa_cons (pv 4) (pa_cons (pv 6) pa_nil)))) (pa_cons pe_int pa_nil))))) pa_nil)))))), ?_⟩
    obtain ⟨b, way, x⟩ := a
    have hw : WayIn b way x := hs
    have lo := hw.g.row_mem (hw.w.lot_mem hw.x.1.lt hw.x.2)
    have hll : (b.lot way x).length ≤ 1000 := Nat.le_trans lo.len (by decide)
    have hin : (inner b way).length ≤ 50000 := by
      have := nI_10 (way := way) hw.g
      unfold nI at this
      omega
    refine tri_seq (tri_asg (ev_lot BB hw (ev_var rfl) (ev_var rfl) (ev_var rfl) (ev_var rfl)) ?_)
    refine tri_seq (tri_asg (ev_call (p := p_weight_of K C) (b.lot way x) (evA_cons (ev_var rfl) evA_nil) hll) ?_)
    refine tri_ret (ev_is (ev_CB (evA_cons (evO_data (evO_map (xs := inner b way) (gd := fun n : Nat => .int (n : Int)) (fun y => dI ((if y = x then (wh (b.lot way x) : Int) else 0) - (wto (b.lot way x) y : Int))) (its_tup (ev_var (i := 2) rfl)) hin fun i y hy => ⟨_, _, tgt_name, by decide, evT_tt, ?_⟩)) evA_nil) caV_tupL) ?_) q
    · refine ev_tup (ds := [.int ((if y = x then (wh (b.lot way x) : Int) else 0) - (wto (b.lot way x) y : Int)), .int 1]) (evA_cons (ev_op (R := isD K (.int (if y = x then (wh (b.lot way x) : Int) else 0))) (ev_if (evT_test (ev_op (ev_var rfl) (ev_var rfl) opV_eqI)) (fun hb => ?_) fun hb => ?_) (ev_call (p := p_weight_to K C) (b.lot way x, y) (evA_cons (ev_var rfl) (evA_cons (ev_var rfl) evA_nil)) hll) opV_int) (evA_cons ev_int evA_nil))
      · have : y = x := by have := of_decide_eq_true hb; dsimp only at this; omega
        rw [if_pos this]; exact ev_var rfl
      · have : ¬ y = x := by have := of_decide_eq_false hb; dsimp only at this; omega
        rw [if_neg this]; exact ev_int
    · show PyData.tuple _ = PyData.tuple ((sqRow b way x).map dI)
      unfold sqRow
      rw [List.map_map]; rfl
theorem sc_way_square : FnScope ["board", "way", "inner", "x"] ["board", "way", "inner"] (defScope s_way_square) := ⟨rfl, rfl, rfl, by decide +kernel, rfl, by decide +kernel, by decide +kernel⟩
theorem ok_way_square {f : Addr} {fd : FuncData} (F : FunD K "way_square" "way_square" (defArgs s_way_square) (defBody s_way_square) (defScope s_way_square) [] [] f fd) (hm : mg "way_square" = some (.ref f)) (B : Blt mg) (BB : BF K C) (h_square_row : Has P w K mg base "square_row" ["board", "way", "inner", "x"] 2 (spOf T (p_square_row K C))) : Has P w K mg base "way_square" ["board", "way", "inner"] 3 (spOf T (p_way_square K C)) :=
  has_of F hm sc_way_square (fun _ _ _ _ _ _ us hl => match us, hl with | [_, _, _], _ => rfl) (fun _ => rfl) (by decide) fun cdv A outer s H E hr a c D hT hX hs q hnx => by
    subst hT
    refine ⟨_, (pss_one (ps_ret (pe_callTy (k_tupOf K) (by rfl) B.tuple (by decide +kernel) (pa_cons (pe_lc (own := [("x", 3)]) rfl sc_way_square.nd (k_piT K (pv 2)) (blkOk_by (own := [("x", 3)]) (N := ["board", "way", "inner", "x"]) (sc := defScope s_way_square) (by decide +kernel)) (fun _ _ _ _ _ => (pg_name (i := 3) sc_way_square.nd rfl (.inl rfl))) (fun _ _ _ _ _ => pts_nil) (fun _ _ _ _ _ => (pe_has (h_square_row.mono (by decide)) (hr) (pa_cons (pv 0) (pa_cons (pv 1) (pa_cons (pv 2) (pa_cons (pv 3) pa_nil))))))) pa_nil)))), ?_⟩
    obtain ⟨b, way⟩ := a
    obtain ⟨g, wo⟩ := hs
    dsimp only at g wo
    have hin : (inner b way).length ≤ 50000 := by
      have := nI_10 (way := way) g
      unfold nI at this
      omega
    refine tri_ret (ev_is (ev_CB (evA_cons (evO_data (evO_map (xs := inner b way) (gd := fun n : Nat => .int (n : Int)) (fun x => dIs (sqRow b way x)) (its_tup (ev_var (i := 2) rfl)) hin fun i x hx => ⟨_, _, tgt_name, by decide, evT_tt, ev_call (p := p_square_row K C) (b, way, x) (evA_cons (ev_var rfl) (evA_cons (ev_var rfl) (evA_cons (ev_var rfl) (evA_cons (ev_var rfl) evA_nil)))) ⟨g, wo, mem_inner.mp (List.mem_of_getElem? hx)⟩⟩)) evA_nil) caV_tupL) ?_) q
    rw [List.map_map]; rfl
theorem sc_stopping_sum : FnScope ["board", "way", "x", "found", "y", "weight"] ["board", "way", "x"] (defScope s_stopping_sum) := ⟨rfl, rfl, rfl, by decide +kernel, rfl, by decide +kernel, by decide +kernel⟩
theorem ok_stopping_sum {f : Addr} {fd : FuncData} (F : FunD K "stopping_sum" "stopping_sum" (defArgs s_stopping_sum) (defBody s_stopping_sum) (defScope s_stopping_sum) [] [] f fd) (hm : mg "stopping_sum" = some (.ref f)) (B : Blt mg) (BB : BF K C) (h_plus : Has P w K mg base "plus" ["a", "b"] 2 (spOf T (p_plus K C))) (h_times : Has P w K mg base "times" ["a", "b"] 2 (spOf T (p_times K C))) : Has P w K mg base "stopping_sum" ["board", "way", "x"] 3 (spOf T (p_stopping_sum K C)) :=
  has_of F hm sc_stopping_sum (fun _ _ _ _ _ _ us hl => match us, hl with | [_, _, _], _ => rfl) (fun _ => rfl) (by decide) fun cdv A outer s H E hr a c D hT hX hs q hnx => by
    subst hT
    refine ⟨_, (pss_cons (ps_set (i := 3) sc_stopping_sum.nd rfl (.inl rfl) (pe_tup (pa_cons pe_int (pa_cons pe_int pa_nil))))
      (pss_cons (ps_for PassesOwn.never rfl (k_piT K (pe_ix (k_ixT K) (pe_ix (k_ixT K) (k_fld K (pv 0) rfl) (pv 2) (fun _ _ => rfl)) (pe_ix (k_ixT K) (pv 1) (pv 2) (fun _ _ => rfl)) (fun _ _ => rfl))) (k_tup K 2 (pgs_cons (pg_name (i := 4) sc_stopping_sum.nd rfl (.inl rfl)) (pgs_cons (pg_name (i := 5) sc_stopping_sum.nd rfl (.inl rfl)) pgs_nil)))
      (pss_one (ps_if (pt_cmpR op_eq (pe_ix (k_ixT K) (pv 1) (pv 4) (fun _ _ => rfl)) (k_glI (by rfl) B.STOP) (nomark _)) (pss_one (ps_set (i := 3) sc_stopping_sum.nd rfl (.inl rfl) (pe_has (h_plus.mono (by decide)) (hr) (pa_cons (pv 3) (pa_cons (pe_has (h_times.mono (by decide)) (hr) (pa_cons (pe_tup (pa_cons (pv 5) (pa_cons pe_int pa_nil))) (pa_cons (pe_ix (k_ixT K) (k_fld K (pv 0) rfl) (pv 4) (fun _ _ => rfl)) pa_nil))) pa_nil))))) pss_nil)))
      (pss_one (ps_ret (pv 3))))), ?_⟩
    obtain ⟨b, way, x⟩ := a
    have hw : WayIn b way x := hs
    have lo := hw.g.row_mem (hw.w.lot_mem hw.x.1.lt hw.x.2)
    refine tri_seq (tri_asg (ev_is (ev_tup (K := K) (ds := [.int 0, .int 1]) (evA_cons ev_int (evA_cons ev_int evA_nil))) (d' := dR ((0 : Int) : Rat)) rfl) ?_)
    refine tri_seq (tri_forM (xs := b.lot way x) (gd := dP) (its_tup (ev_lot BB hw (ev_var rfl) (ev_var rfl) (ev_var rfl) (ev_var rfl))) (fun M => [.is (isB K C b), .is (isD K (dZ way)), .is (isD K (.int (x : Nat))), .is (isD K (dR ((stopZ b way M : Int) : Rat))), .no, .no]) (by repeat (first | exact Weak.nil | refine Weak.same ?_ | refine Weak.none ?_)) (fun c' M p a1 a2 a3 a4 hp => ?_) ?_)
    · have hpm := prefix_mem hp
      have hpl := lo.lt p hpm
      have hMw : wh M + p.2 ≤ 27 := by
        obtain ⟨r, hr⟩ := hp
        have := lo.whole
        rw [← hr, wh_app, wh_app] at this
        have e : wh [p] = p.2 := by show p.2 + 0 = p.2; omega
        omega
      have sb := stopZ_bd (way := way) hw.g M
      have smM : Sm ((stopZ b way M : Int) : Rat) := ⟨by show (stopZ b way M).natAbs < 2 ^ 90; omega, by show 1 < 2 ^ 90; decide⟩
      have smW : Sm ((p.2 : Int) : Rat) := ⟨by show ((p.2 : Nat) : Int).natAbs < 2 ^ 90; omega, by show 1 < 2 ^ 90; decide⟩
      refine ⟨_, _, tgt_tup (ds := [_, _]) (tgts_cons tgt_name (tgts_cons tgt_name tgts_nil)) rfl, fun D' d1 d2 d3 d4 => ?_⟩
      rw [← a1]
      have st : stopZ b way (M ++ [p]) = stopZ b way M + if ch way p.1 = -1 then (p.2 : Int) * (b.pay p.1).num else 0 := by
        rw [stopZ_app]
        show _ + (_ + 0) = _
        omega
      refine tri_if (evT_test (ev_op (ev_op (ev_var (i := 1) rfl) (ev_var (i := 4) rfl) (opV_ixM rfl (way_get hw.w hpl))) ev_int opV_eqI)) (fun hb => ?_) fun hb => ?_
      · have hc : ch way p.1 = -1 := of_decide_eq_true hb
        have pin : (b.pay p.1) = ((b.pay p.1).num : Rat) := by rcases hw.g.pay01 p.1 with e | e <;> rw [e] <;> rfl
        have hpn : 0 ≤ (b.pay p.1).num ∧ (b.pay p.1).num ≤ 1 := by rcases hw.g.pay01 p.1 with e | e <;> rw [e] <;> decide
        have smP : Sm (((p.2 : Int) : Rat) * b.pay p.1) := by
          rw [pin, ← Rat.intCast_mul]
          refine ⟨?_, by show 1 < 2 ^ 90; decide⟩
          show ((p.2 : Int) * (b.pay p.1).num).natAbs < 2 ^ 90
          rw [Int.natAbs_mul]
          have h1 : (p.2 : Int).natAbs ≤ 27 := by omega
          have h2 : (b.pay p.1).num.natAbs ≤ 1 := by omega
          exact Nat.lt_of_le_of_lt (Nat.mul_le_mul h1 h2) (by decide)
        refine tri_asg (ev_call (p := p_plus K C) (((stopZ b way M : Int) : Rat), ((p.2 : Int) : Rat) * b.pay p.1) (evA_cons (ev_var rfl) (evA_cons (ev_call (p := p_times K C) (((p.2 : Int) : Rat), b.pay p.1) (evA_cons (ev_is (ev_tup (ds := [.int (p.2 : Nat), .int 1]) (evA_cons (ev_var rfl) (evA_cons ev_int evA_nil))) rfl) (evA_cons (ev_op (ev_pays BB (ev_var (i := 0) rfl)) (ev_var (i := 4) rfl) (opV_ixM rfl (pay_get hpl))) evA_nil)) ⟨smW, pay_sm hw.g _⟩) evA_nil)) ⟨smM, smP⟩) ?_
        refine nx_weak ?_ d3
        have e : ((stopZ b way M : Int) : Rat) + ((p.2 : Int) : Rat) * b.pay p.1 = ((stopZ b way (M ++ [p]) : Int) : Rat) := by
          rw [st, if_pos hc, Rat.intCast_add, Rat.intCast_mul]
          rw [← pin]
        show Weak (([.is (isB K C b), .is (isD K (dZ way)), .is (isD K (.int (x : Nat))), .is (isD K (dR ((stopZ b way M : Int) : Rat))), .is (isD K (.int (p.1 : Nat))), .is (isD K (.int (p.2 : Nat)))] : List Slo).set 3 (.is (isD K (dR (((stopZ b way M : Int) : Rat) + ((p.2 : Int) : Rat) * b.pay p.1))))) _
        rw [e]
        repeat (first | exact Weak.nil | refine Weak.same ?_ | refine Weak.none ?_)
      · have hc : ch way p.1 ≠ -1 := of_decide_eq_false hb
        refine tri_next (nx_weak ?_ d3)
        rw [st, if_neg hc, Int.add_zero]
        repeat (first | exact Weak.nil | refine Weak.same ?_ | refine Weak.none ?_)
    · exact nx_tri (tri_ret (ev_is (ev_var rfl) rfl) q)
noncomputable def foundL (b : Bd) (way : List Int) (M : List (Nat × Rat)) : List Rat := (List.range b.size).map fun x => if x ∈ M.map Prod.fst then valF b way x else if ch way x = -1 then b.pay x else 0
theorem foundL_snoc {b : Bd} {way : List Int} {M : List (Nat × Rat)} {p : Nat × Rat} (hx : p.1 < b.size) (hq : p.2 = valF b way p.1) : foundL b way (M ++ [p]) = (foundL b way M).set p.1 p.2 := by
  apply List.ext_getElem?
  intro i
  unfold foundL
  by_cases hi : i < b.size
  · by_cases e : p.1 = i
    · subst e
      rw [List.getElem?_set_self (by simpa using hx), List.getElem?_map, List.getElem?_range hx]
      simp [hq]
    · rw [List.getElem?_set_ne e, List.getElem?_map, List.getElem?_map, List.getElem?_range hi]
      have : i ∈ (M ++ [p]).map Prod.fst ↔ i ∈ M.map Prod.fst := by
        rw [List.map_append, List.mem_append]
        constructor
        · rintro (h | h)
          · exact h
          · simp at h; exact absurd h.symm e
        · exact .inl
      simp only [Option.map_some, this]
  · rw [List.getElem?_eq_none (by simp; omega), List.getElem?_eq_none (by simp; omega)]
theorem zip_sol {b : Bd} {way : List Int} {i : Nat} {p : Nat × Rat} (h : ((inner b way).zip ((List.range (nI b way)).map (sol b way)))[i]? = some p) : p.1 < b.size ∧ InnerP b way p.1 ∧ p.2 = valF b way p.1 := by
  rw [List.getElem?_zip_eq_some] at h
  obtain ⟨h1, h2⟩ := h
  have hi : i < nI b way := (List.getElem?_eq_some_iff.mp h1).1
  rw [xs_get hi] at h1
  rw [List.getElem?_map, List.getElem?_range hi] at h2
  have e1 : xs b way i = p.1 := Option.some.inj h1
  have e2 : sol b way i = p.2 := Option.some.inj h2
  rw [← e1, ← e2]
  exact ⟨(xs_in hi).1.lt, xs_in hi, (valF_xs hi).symm⟩
theorem inner_eq (b : Bd) (way : List Int) : inner b way = (List.range (nI b way)).map (xs b way) := by
  apply List.ext_getElem?
  intro i
  by_cases h : i < nI b way
  · rw [xs_get h, List.getElem?_map, List.getElem?_range h]; rfl
  · rw [List.getElem?_eq_none (by unfold nI at h; omega), List.getElem?_eq_none (by simp; omega)]
theorem sq_eq (b : Bd) (way : List Int) : (inner b way).map (sqRow b way) = tabZ (nI b way) (nI b way) fun r j => col b way j r := by
  unfold tabZ
  conv => lhs; rw [inner_eq b way]
  rw [List.map_map]
  apply List.map_congr_left
  intro r hr
  show sqRow b way (xs b way r) = _
  unfold sqRow
  conv => lhs; rw [inner_eq b way]
  rw [List.map_map]
  apply List.map_congr_left
  intro j hj
  have hj' : j < (inner b way).length := List.mem_range.mp hj
  exact (if_pos hj').symm
theorem rt_eq (b : Bd) (way : List Int) : (inner b way).map (fun x => stopZ b way (b.lot way x)) = (List.range (nI b way)).map fun r => col b way (nI b way) r := by
  conv => lhs; rw [inner_eq b way]
  rw [List.map_map]
  apply List.map_congr_left
  intro r hr
  exact (if_neg (by unfold nI; omega)).symm
theorem foundL_nil {b : Bd} {way : List Int} (w : WayOk b way) : (way.zipIdx.map fun p => dR (if p.1 = -1 then b.pay p.2 else 0)) = (foundL b way []).map dR := by
  rw [zipIdx_range way (-1), List.map_map, w.len]
  unfold foundL
  rw [List.map_map]
  apply List.map_congr_left
  intro x _
  simp
  rfl
theorem foundL_all {b : Bd} {way : List Int} : foundL b way ((inner b way).zip ((List.range (nI b way)).map (sol b way))) = (List.range b.size).map (valF b way) := by
  unfold foundL
  apply List.map_congr_left
  intro x hx
  have hx' := List.mem_range.mp hx
  have e : ((inner b way).zip ((List.range (nI b way)).map (sol b way))).map Prod.fst = inner b way := by
    rw [List.map_fst_zip]
    rw [List.length_map, List.length_range]; unfold nI; omega
  rw [e]
  by_cases h : InnerP b way x
  · rw [if_pos (mem_inner.mpr h)]
  · rw [if_neg (fun z => h (mem_inner.mp z))]
    unfold valF
    by_cases hc : ch way x = -1
    · rw [if_pos hc, if_pos ⟨hx', hc⟩]
    · rw [if_neg hc, if_neg (fun z => hc z.2), if_neg h]
theorem sc_value : FnScope ["board", "way", "inner", "x", "found", "rights", "worth_there", "choice"] ["board", "way"] (defScope s_value) := ⟨rfl, rfl, rfl, by decide +kernel, rfl, by decide +kernel, by decide +kernel⟩
theorem ok_value {f : Addr} {fd : FuncData} (F : FunD K "value" "value" (defArgs s_value) (defBody s_value) (defScope s_value) [] [] f fd) (hm : mg "value" = some (.ref f)) (B : Blt mg) (BB : BF K C) (h_want_way : Has P w K mg base "want_way" ["board", "way"] 2 (spOf T (p_want_way K C))) (h_inner_places : Has P w K mg base "inner_places" ["board", "way"] 4 (spOf T (p_inner_places K C))) (h_solved : Has P w K mg base "solved" ["rows", "rights"] 4 (spOf T (p_solved K C))) (h_stopping_sum : Has P w K mg base "stopping_sum" ["board", "way", "x"] 3 (spOf T (p_stopping_sum K C))) (h_way_square : Has P w K mg base "way_square" ["board", "way", "inner"] 3 (spOf T (p_way_square K C))) : Has P w K mg base "value" ["board", "way"] 5 (spOf T (p_value K C)) :=
  has_of F hm sc_value (fun _ _ _ _ _ _ us hl => match us, hl with | [_, _], _ => rfl) (fun _ => rfl) (by decide) fun cdv A outer s H E hr a c D hT hX hs q hnx => by
    subst hT
    refine ⟨_, (pss_cons (ps_expr (pe_has (h_want_way.mono (by decide)) (hr) (pa_cons (pv 0) (pa_cons (pv 1) pa_nil))))
      (pss_cons (ps_set (i := 2) sc_value.nd rfl (.inl rfl) (pe_has (h_inner_places.mono (by decide)) (hr) (pa_cons (pv 0) (pa_cons (pv 1) pa_nil))))
      (pss_cons (ps_setLc (i := 4) (own := [("x", 3), ("choice", 7)]) rfl sc_value.nd rfl rfl (sw_true rfl rfl rfl (by decide +kernel)) (pi_enumT K (by rfl) B.enumerate (pa_cons (pv 1) pa_nil)) (blkOk_by (own := [("x", 3), ("choice", 7)]) (N := ["board", "way", "inner", "x", "found", "rights", "worth_there", "choice"]) (sc := defScope s_value) (by decide +kernel)) (fun _ _ _ _ _ => (k_tup K 2 (pgs_cons (pg_name (i := 3) sc_value.nd rfl (.inl rfl)) (pgs_cons (pg_name (i := 7) sc_value.nd rfl (.inl rfl)) pgs_nil)))) (fun _ _ _ _ _ => pts_nil) (fun _ _ _ _ _ => (pe_ifExp (pt_cmpR op_eq (pv 7) (k_glI (by rfl) B.STOP) (nomark _)) (pe_ix (k_ixT K) (k_fld K (pv 0) rfl) (pv 3) (fun _ _ => rfl)) (pe_tup (pa_cons pe_int (pa_cons pe_int pa_nil))))))
      (pss_cons (ps_set (i := 5) sc_value.nd rfl (.inl rfl) (pe_callTy (k_tupOf K) (by rfl) B.tuple (by decide +kernel) (pa_cons (pe_lc (own := [("x", 3)]) rfl sc_value.nd (k_piT K (pv 2)) (blkOk_by (own := [("x", 3)]) (N := ["board", "way", "inner", "x", "found", "rights", "worth_there", "choice"]) (sc := defScope s_value) (by decide +kernel)) (fun _ _ _ _ _ => (pg_name (i := 3) sc_value.nd rfl (.inl rfl))) (fun _ _ _ _ _ => pts_nil) (fun _ _ _ _ _ => (pe_has (h_stopping_sum.mono (by decide)) (hr) (pa_cons (pv 0) (pa_cons (pv 1) (pa_cons (pv 3) pa_nil)))))) pa_nil)))
      (pss_cons (ps_for PassesOwn.never rfl (k_zipA K (by rfl) B.zip (pa_cons (pv 2) (pa_cons (pe_has (h_solved.mono (by decide)) (hr) (pa_cons (pe_has (h_way_square.mono (by decide)) (hr) (pa_cons (pv 0) (pa_cons (pv 1) (pa_cons (pv 2) pa_nil)))) (pa_cons (pv 5) pa_nil))) pa_nil))) (k_tup K 2 (pgs_cons (pg_name (i := 3) sc_value.nd rfl (.inl rfl)) (pgs_cons (pg_name (i := 6) sc_value.nd rfl (.inl rfl)) pgs_nil)))
      (pss_one (ps_asg (pv 6) (pg_sub (pv 4) (pv 3) set_list))))
      (pss_one (ps_ret (pe_callTy (k_tupOf K) (by rfl) B.tuple (by decide +kernel) (pa_cons (pv 4) pa_nil))))))))), ?_⟩
    obtain ⟨b, way⟩ := a
    obtain ⟨g, wo⟩ := hs
    dsimp only at g wo
    have hsz := g.size
    have hzl : way.zipIdx.length ≤ 50000 := by rw [List.length_zipIdx, wo.len]; omega
    have hin : (inner b way).length ≤ 10 := nI_10 g
    refine tri_seq (tri_drop (ev_call (p := p_want_way K C) (b, way) (evA_cons (ev_var rfl) (evA_cons (ev_var rfl) evA_nil)) ⟨g, wo⟩) ?_)
    refine tri_seq (tri_asg (ev_call (p := p_inner_places K C) (b, way) (evA_cons (ev_var rfl) (evA_cons (ev_var rfl) evA_nil)) ⟨g, wo⟩) ?_)
    refine tri_seq (tri_asgO (evO_map (xs := way.zipIdx) (fun p => dR (if p.1 = -1 then b.pay p.2 else 0)) (its_enumTM (evA_cons (ev_var (i := 1) rfl) evA_nil)) hzl fun i p hp => ⟨_, _, tgt_tup (ds := [_, _]) (tgts_cons tgt_name (tgts_cons tgt_name tgts_nil)) rfl, by decide, evT_tt, ev_if (evT_test (ev_op (ev_var rfl) ev_int opV_eqI)) (fun hb => ?_) fun hb => ?_⟩) ?_)
    · have : p.1 = -1 := of_decide_eq_true hb
      rw [if_pos this]
      have hpx : p.2 < b.size := by
        obtain ⟨k, ix⟩ := p
        have := (List.getElem?_eq_some_iff.mp hp).1
        rw [List.length_zipIdx, wo.len] at this
        rw [List.getElem?_zipIdx] at hp
        cases h : way[i]? with
        | none => rw [h] at hp; cases hp
        | some z => rw [h] at hp; simp at hp; dsimp only; omega
      exact ev_op (ev_pays BB (ev_var (i := 0) rfl)) (ev_var rfl) (opV_ixM rfl (pay_get hpx))
    · have : ¬ p.1 = -1 := of_decide_eq_false hb
      rw [if_neg this]
      exact ev_is (ev_tup (K := K) (ds := [.int 0, .int 1]) (evA_cons ev_int (evA_cons ev_int evA_nil))) rfl
    have cc : ∀ k i j, j ≤ nI b way → (Tt (nI b way) (col b way) k i j).natAbs < 2 ^ 90 := fun k i j hj => tt_bound g wo k i hj
    refine tri_seq (tri_asg (ev_is (ev_CB (evA_cons (evO_data (evO_map (xs := inner b way) (gd := fun n : Nat => .int (n : Int)) (fun x => dI (stopZ b way (b.lot way x))) (its_tup (ev_var (i := 2) rfl)) (by omega) fun i x hx => ⟨_, _, tgt_name, by decide, evT_tt, ev_call (p := p_stopping_sum K C) (b, way, x) (evA_cons (ev_var rfl) (evA_cons (ev_var rfl) (evA_cons (ev_var rfl) evA_nil))) ⟨g, wo, mem_inner.mp (List.mem_of_getElem? hx)⟩⟩)) evA_nil) caV_tupL) (d' := dIs ((List.range (nI b way)).map fun r => col b way (nI b way) r)) ?_) ?_)
    · rw [← rt_eq]
      unfold dIs
      rw [List.map_map]; rfl
    refine tri_seq (tri_forM (xs := (inner b way).zip ((List.range (nI b way)).map (sol b way))) (gd := fun p => .tuple [.int (p.1 : Nat), dR p.2]) (its_zipTM (g := fun n : Nat => .int (n : Int)) (g' := dR) (evA_cons (ev_var (i := 2) rfl) (evA_cons (ev_call (p := p_solved K C) ⟨nI b way, col b way⟩ (evA_cons (ev_is (ev_call (p := p_way_square K C) (b, way) (evA_cons (ev_var rfl) (evA_cons (ev_var rfl) (evA_cons (ev_var rfl) evA_nil))) ⟨g, wo⟩) ?_) (evA_cons (ev_var rfl) evA_nil)) ⟨Nat.le_trans hin (by decide), fun k hk => dk_pos g wo hk, fun k => dk_bound g wo k, cc⟩) evA_nil))) (fun M => [.is (isB K C b), .is (isD K (dZ way)), .is (isD K (dN (inner b way))), .no, .own (ownL K ((foundL b way M).map dR)), .no, .no, .no]) ?_ (fun c' M p a1 a2 a3 a4 hp => ?_) ?_)
    · dsimp only; rw [sq_eq]
    · rw [← foundL_nil wo]
      repeat (first | exact Weak.nil | refine Weak.same ?_ | refine Weak.none ?_)
    · obtain ⟨z1, z2, z3⟩ := zip_sol (prefix_get hp)
      refine ⟨_, _, tgt_tup (ds := [_, _]) (tgts_cons tgt_name (tgts_cons tgt_name tgts_nil)) rfl, fun D' d1 d2 d3 d4 => ?_⟩
      refine tri_setI rfl (ev_var rfl) (ev_var rfl) (by omega) ?_ ?_
      · rw [List.length_map, Int.toNat_natCast]; unfold foundL; simpa using z1
      · refine nx_weak ?_ d3
        rw [foundL_snoc z1 z3, List.map_set, Int.toNat_natCast]
        repeat (first | exact Weak.nil | refine Weak.same ?_ | refine Weak.none ?_)
    · rw [foundL_all]
      refine nx_tri (tri_freeze 4 rfl hX ?_)
      exact tri_ret (ev_CB (evA_cons (ev_lsD (ev_var rfl)) evA_nil) caV_tupL) q
end
end SD
end
section
set_option maxHeartbeats 4000000
set_option exponentiation.threshold 100000
namespace SD
open PySem PySem.Spec PyProof.Rows L2 SH SM RZ
open Classical
section
def vals (n : Nat) (F : Nat → Rat) : List Rat := (List.range n).map F
structure FOk (b : Bd) (F : Nat → Rat) : Prop where
  g : GB b
  sm : ∀ x, Sm (F x)
structure LeA where
  b : Bd
  F : Nat → Rat
  x : Nat
  c : Int
def p_amounts (K : PySem.W.Frag) (C : Addr) : Prom := ⟨LeA, fun a => FOk a.b a.F ∧ a.x < a.b.size, fun a => [isB K C a.b, isD K (dRs (vals a.b.size a.F)), isD K (.int (a.x : Nat))], fun a => isD K (.list ((amts a.b a.F a.x).map dR))⟩
noncomputable def p_better_choice (K : PySem.W.Frag) (C : Addr) : Prom := ⟨LeA, fun a => FOk a.b a.F ∧ a.x < a.b.size, fun a => [isB K C a.b, isD K (dRs (vals a.b.size a.F)), isD K (.int (a.x : Nat)), isD K (.int a.c)], fun a => isD K (.int (better a.b a.F a.x a.c))⟩
noncomputable def p_improved_for (K : PySem.W.Frag) (C : Addr) : Prom := ⟨Bd × List Int × (Nat → Rat), fun a => FOk a.1 a.2.2 ∧ WayOk a.1 a.2.1, fun a => [isB K C a.1, isD K (dZ a.2.1), isD K (dRs (vals a.1.size a.2.2))], fun a => isD K (dZ (impr a.1 a.2.1 a.2.2))⟩
def isWf (K : PySem.W.Frag) (b : Bd) : Rp := ⟨fun H v => ∃ F, IsWorth b F ∧ Dp K H v (dRs (vals b.size F)), fun e ⟨F, h1, h2⟩ => ⟨F, h1, dp_ex e _ _ h2⟩⟩
def p_worth (K : PySem.W.Frag) (C : Addr) : Prom := ⟨Bd, fun a => GB a, fun a => [isB K C a], fun a => isWf K a⟩
theorem vals_get {n x : Nat} {F : Nat → Rat} (h : x < n) : (vals n F)[x]? = some (F x) := by unfold vals; rw [List.getElem?_map, List.getElem?_range h]; rfl
theorem vals_getD {n x : Nat} {F : Nat → Rat} (h : x < n) : (vals n F).getD x 0 = F x := by rw [List.getD_eq_getElem?_getD, vals_get h]; rfl
theorem vals_len {n : Nat} {F : Nat → Rat} : (vals n F).length = n := by unfold vals; simp
variable {P : Program} {w : World} {K : PySem.W.Frag} {mg : Str → Option Value} {base : Heap} {T : List Addr} {C : Addr}
theorem evO_cat {c : Ctx} {E : List Slo} {ta tb : TE} {ds es : List PyData} (h1 : Ev c E ta (isLs K ds)) (h2 : Ev c E tb (isLs K es)) (hl : ds.length + es.length ≤ 100000) : EvO c E (tOp rCat ta tb) (ownL K (ds ++ es)) := fun σ Hs H e Q q => by
  refine h1 σ Hs H e _ fun x Hs1 H1 s1 hx => h2 σ Hs1 H1 (e.move s1) _ fun y Hs2 H2 s2 hy => ?_
  obtain ⟨p, vs, a1, a2, a3⟩ := (isLs K ds).mono s2.s hx
  obtain ⟨p', ws, b1, b2, b3⟩ := hy
  refine ⟨p, p', vs, ws, a1, b1, s2.i _ _ a2, s2.i _ _ b2, Evl.sz_of (by rw [dpAll_length a3, dpAll_length b3]; exact hl), fun l hl => ?_⟩
  have s := Stp.newO (o := .lst (vs ++ ws)) s2.i hl
  have s12 := s1.trans s2
  exact q l _ Hs2 _ (s12.trans s) (s12.fresh hl) (Evl.fresh_back s2.i hl) upd_same ⟨_, rfl, dpAll_append a3 b3⟩
theorem lot_smB {b : Bd} {F : Nat → Rat} (h : FOk b F) {x : Nat} {L : Lot} (hL : L ∈ b.row x) : LotOk b.size L ∧ SmB (avg F L) := by
  have lo := h.g.row_mem hL
  have hw := lo.whole
  exact ⟨lo, avg_smB lo.len lo.wh_pos (by omega) fun p hp => ⟨h.sm _, by have := wh_mem hp; omega⟩⟩
theorem amts_smB {b : Bd} {F : Nat → Rat} (h : FOk b F) {x : Nat} : ∀ a ∈ amts b F x, SmB a := fun a ha => by
  unfold amts at ha
  rcases List.mem_cons.mp ha with e | e
  · rw [e]; exact (pay_sm h.g x).b
  · obtain ⟨L, hL, rfl⟩ := List.mem_map.mp e
    exact (lot_smB h hL).2
theorem scan_smB {l : List Rat} {k : Int} {s : Int × Rat} (hs : SmB s.2) (h : ∀ a ∈ l, SmB a) : SmB (scan l k s).2 := by
  rcases (scan_spec l k s).2.2 with e | ⟨i, a, h1, _, h3, _⟩
  · rw [e]; exact hs
  · rw [h3]; exact h a (List.mem_of_getElem? h1)
theorem sc_amounts : FnScope ["board", "f", "x", "lottery"] ["board", "f", "x"] (defScope s_amounts) := ⟨rfl, rfl, rfl, by decide +kernel, rfl, by decide +kernel, by decide +kernel⟩
theorem ok_amounts {f : Addr} {fd : FuncData} (F : FunD K "amounts" "amounts" (defArgs s_amounts) (defBody s_amounts) (defScope s_amounts) [] [] f fd) (hm : mg "amounts" = some (.ref f)) (B : Blt mg) (BB : BF K C) (h_average : Has P w K mg base "average" ["f", "lottery"] 2 (spOf T (p_average K C))) : Has P w K mg base "amounts" ["board", "f", "x"] 3 (spOf T (p_amounts K C)) :=
  has_of F hm sc_amounts (fun _ _ _ _ _ _ us hl => match us, hl with | [_, _, _], _ => rfl) (fun _ => rfl) (by decide) fun cdv A outer s H E hr a c D hT hX hs q hnx => by
    subst hT
    refine ⟨_, (pss_one (ps_ret (pe_op op_cat (pe_lst (pa_cons (pe_ix (k_ixT K) (k_fld K (pv 0) rfl) (pv 2) (fun _ _ => rfl)) pa_nil)) (pe_lc (own := [("lottery", 3)]) rfl sc_amounts.nd (k_piT K (pe_ix (k_ixT K) (k_fld K (pv 0) rfl) (pv 2) (fun _ _ => rfl))) (blkOk_by (own := [("lottery", 3)]) (N := ["board", "f", "x", "lottery"]) (sc := defScope s_amounts) (by decide +kernel)) (fun _ _ _ _ _ => (pg_name (i := 3) sc_amounts.nd rfl (.inl rfl))) (fun _ _ _ _ _ => pts_nil) (fun _ _ _ _ _ => (pe_has (h_average.mono (by decide)) (hr) (pa_cons (pv 1) (pa_cons (pv 3) pa_nil)))))))), ?_⟩
    obtain ⟨b, F, x, cc⟩ := a
    obtain ⟨hF, hx⟩ := hs
    dsimp only at hF hx
    have hrl := hF.g.row_len x
    refine tri_ret (ev_is (evO_data (evO_cat (ds := [dR (b.pay x)]) (evO_ls (evO_lst (evA_cons (ev_op (ev_pays BB (ev_var (i := 0) rfl)) (ev_var rfl) (opV_ixM rfl (pay_get hx))) evA_nil))) (evO_ls (evO_map (xs := b.row x) (gd := dL) (fun L => dR (avg F L)) (its_tup (ev_op (ev_plays BB (ev_var (i := 0) rfl)) (ev_var (i := 2) rfl) (opV_ixM rfl (row_get hF.g hx)))) (by omega) fun i L hL => ⟨_, _, tgt_name, by decide, evT_tt, ?_⟩)) (by rw [List.length_map, List.length_singleton]; omega))) ?_) q
    · have hLm := List.mem_of_getElem? hL
      have lo := hF.g.row_mem hLm
      have e : avg (fun x => (vals b.size F).getD x 0) L = avg F L := avg_congr fun p hp => vals_getD (lo.lt p hp)
      refine ev_is (ev_call (p := p_average K C) (vals b.size F, L) (evA_cons (ev_var (i := 1) rfl) (evA_cons (ev_var (i := 3) rfl) evA_nil)) ⟨lo.len, fun p hp => ⟨by rw [vals_len]; exact lo.lt p hp, lo.pos p hp⟩, fun r hr => ?_, lo.wh_pos, lo.whole⟩) (by dsimp only; rw [e])
      unfold vals at hr
      obtain ⟨z, _, rfl⟩ := List.mem_map.mp hr
      exact hF.sm z
    · unfold amts
      rw [List.map_cons, List.map_map]; rfl
theorem sc_better_choice : FnScope ["board", "f", "x", "choice", "most", "at", "amount"] ["board", "f", "x", "choice"] (defScope s_better_choice) := ⟨rfl, rfl, rfl, by decide +kernel, rfl, by decide +kernel, by decide +kernel⟩
theorem ok_better_choice {f : Addr} {fd : FuncData} (F : FunD K "better_choice" "better_choice" (defArgs s_better_choice) (defBody s_better_choice) (defScope s_better_choice) [] [] f fd) (hm : mg "better_choice" = some (.ref f)) (B : Blt mg) (BB : BF K C) (h_amounts : Has P w K mg base "amounts" ["board", "f", "x"] 3 (spOf T (p_amounts K C))) (h_less : Has P w K mg base "less" ["a", "b"] 1 (spOf T (p_less K C))) : Has P w K mg base "better_choice" ["board", "f", "x", "choice"] 4 (spOf T (p_better_choice K C)) :=
  has_of F hm sc_better_choice (fun _ _ _ _ _ _ us hl => match us, hl with | [_, _, _, _], _ => rfl) (fun _ => rfl) (by decide) fun cdv A outer s H E hr a c D hT hX hs q hnx => by
    subst hT
    refine ⟨_, (pss_cons (ps_set (i := 4) sc_better_choice.nd rfl (.inl rfl) (pe_ix (k_ixT K) (pv 1) (pv 2) (fun _ _ => rfl)))
      (pss_cons (ps_for PassesOwn.never rfl (k_enum K (by rfl) B.enumerate (pa_cons (pe_has (h_amounts.mono (by decide)) (hr) (pa_cons (pv 0) (pa_cons (pv 1) (pa_cons (pv 2) pa_nil)))) pa_nil)) (k_tup K 2 (pgs_cons (pg_name (i := 5) sc_better_choice.nd rfl (.inl rfl)) (pgs_cons (pg_name (i := 6) sc_better_choice.nd rfl (.inl rfl)) pgs_nil)))
      (pss_one (ps_if (pt_val (pe_has (h_less.mono (by decide)) (hr) (pa_cons (pv 4) (pa_cons (pv 6) pa_nil)))) (pss_one (ps_par (by rfl) sc_better_choice.nd (i := 3) (j := 4) rfl rfl (by decide) rfl rfl (pa_cons (pe_op op_add (pv 5) (k_glI (by rfl) B.STOP)) (pa_cons (pv 6) pa_nil)) (by rfl))) pss_nil)))
      (pss_one (ps_ret (pv 3))))), ?_⟩
    obtain ⟨b, F, x, cc⟩ := a
    obtain ⟨hF, hx⟩ := hs
    dsimp only at hF hx
    refine tri_seq (tri_asg (ev_op (ev_var (i := 1) rfl) (ev_var (i := 2) rfl) (opV_ixM rfl (vals_get hx))) ?_)
    refine tri_seq (tri_forM (xs := (amts b F x).zipIdx) (its_enumM (evA_cons (ev_call (p := p_amounts K C) ⟨b, F, x, cc⟩ (evA_cons (ev_var rfl) (evA_cons (ev_var rfl) (evA_cons (ev_var rfl) evA_nil))) ⟨hF, hx⟩) evA_nil)) (fun M => [.is (isB K C b), .is (isD K (dRs (vals b.size F))), .is (isD K (.int (x : Nat))), .is (isD K (.int (scan ((amts b F x).take M.length) 0 (cc, F x)).1)), .is (isD K (dR (scan ((amts b F x).take M.length) 0 (cc, F x)).2)), .no, .no]) (by repeat (first | exact Weak.nil | refine Weak.same ?_ | refine Weak.none ?_)) (fun c' M p a1 a2 a3 a4 hp => ?_) ?_)
    · obtain ⟨h1, h2, h3⟩ := zipIdx_at hp
      obtain ⟨am, ix⟩ := p
      dsimp only at h1 h2
      subst h2
      have tk : (amts b F x).take (M ++ [(am, M.length)]).length = (amts b F x).take M.length ++ [am] := by
        rw [List.length_append, List.length_singleton, List.take_succ, h1]; rfl
      have sa := amts_smB hF am (List.mem_of_getElem? h1)
      have sb : SmB (scan ((amts b F x).take M.length) 0 (cc, F x)).2 := scan_smB (hF.sm x).b fun a ha => amts_smB hF a (List.mem_of_mem_take ha)
      refine ⟨_, _, tgt_tup (ds := [_, _]) (tgts_cons tgt_name (tgts_cons tgt_name tgts_nil)) rfl, fun D' d1 d2 d3 d4 => ?_⟩
      rw [← a1]
      have sn := scan_snoc ((amts b F x).take M.length) 0 (cc, F x) am
      have ml : ((amts b F x).take M.length).length = M.length := by rw [List.length_take]; omega
      rw [ml] at sn
      refine tri_if (evT_B (ev_call (p := p_less K C) ((scan ((amts b F x).take M.length) 0 (cc, F x)).2, am) (evA_cons (ev_var rfl) (evA_cons (ev_var rfl) evA_nil)) ⟨sb, sa⟩)) (fun hb => ?_) fun hb => ?_
      · have hlt := of_decide_eq_true hb
        dsimp only at hlt
        refine tri_par (evA_cons (ev_op (ev_var rfl) ev_int opV_int) (evA_cons (ev_var rfl) evA_nil)) ?_
        refine nx_weak ?_ d3
        rw [tk, sn, if_pos hlt]
        have e0 : (0 : Int) + (M.length : Int) + -1 = (M.length : Int) + -1 := by omega
        rw [e0]
        repeat (first | exact Weak.nil | refine Weak.same ?_ | refine Weak.none ?_)
      · have hlt := of_decide_eq_false hb
        dsimp only at hlt
        refine tri_next (nx_weak ?_ d3)
        rw [tk, sn, if_neg hlt]
        repeat (first | exact Weak.nil | refine Weak.same ?_ | refine Weak.none ?_)
    · rw [List.length_zipIdx, List.take_length]
      exact nx_tri (tri_ret (ev_var rfl) q)
theorem sc_improved_for : FnScope ["board", "way", "f", "x", "choice"] ["board", "way", "f"] (defScope s_improved_for) := ⟨rfl, rfl, rfl, by decide +kernel, rfl, by decide +kernel, by decide +kernel⟩
theorem ok_improved_for {f : Addr} {fd : FuncData} (F : FunD K "improved_for" "improved_for" (defArgs s_improved_for) (defBody s_improved_for) (defScope s_improved_for) [] [] f fd) (hm : mg "improved_for" = some (.ref f)) (B : Blt mg) (BB : BF K C) (h_better_choice : Has P w K mg base "better_choice" ["board", "f", "x", "choice"] 4 (spOf T (p_better_choice K C))) : Has P w K mg base "improved_for" ["board", "way", "f"] 5 (spOf T (p_improved_for K C)) :=
  has_of F hm sc_improved_for (fun _ _ _ _ _ _ us hl => match us, hl with | [_, _, _], _ => rfl) (fun _ => rfl) (by decide) fun cdv A outer s H E hr a c D hT hX hs q hnx => by
    subst hT
    refine ⟨_, (pss_one (ps_ret (pe_callTy (k_tupOf K) (by rfl) B.tuple (by decide +kernel) (pa_cons (pe_lc (own := [("x", 3), ("choice", 4)]) rfl sc_improved_for.nd (pi_enumT K (by rfl) B.enumerate (pa_cons (pv 1) pa_nil)) (blkOk_by (own := [("x", 3), ("choice", 4)]) (N := ["board", "way", "f", "x", "choice"]) (sc := defScope s_improved_for) (by decide +kernel)) (fun _ _ _ _ _ => (k_tup K 2 (pgs_cons (pg_name (i := 3) sc_improved_for.nd rfl (.inl rfl)) (pgs_cons (pg_name (i := 4) sc_improved_for.nd rfl (.inl rfl)) pgs_nil)))) (fun _ _ _ _ _ => pts_nil) (fun _ _ _ _ _ => (pe_has (h_better_choice.mono (by decide)) (hr) (pa_cons (pv 0) (pa_cons (pv 2) (pa_cons (pv 3) (pa_cons (pv 4) pa_nil))))))) pa_nil)))), ?_⟩
    obtain ⟨b, way, F⟩ := a
    obtain ⟨hF, wo⟩ := hs
    dsimp only at hF wo
    have hsz := hF.g.size
    have hzl : way.zipIdx.length ≤ 50000 := by rw [List.length_zipIdx, wo.len]; omega
    refine tri_ret (ev_is (ev_CB (evA_cons (evO_data (evO_map (xs := way.zipIdx) (fun p => .int (better b F p.2 (ch way p.2))) (its_enumTM (evA_cons (ev_var (i := 1) rfl) evA_nil)) hzl fun i p hp => ⟨_, _, tgt_tup (ds := [_, _]) (tgts_cons tgt_name (tgts_cons tgt_name tgts_nil)) rfl, by decide, evT_tt, ?_⟩)) evA_nil) caV_tupL) ?_) q
    · have hz : p.2 < b.size ∧ p.1 = ch way p.2 := by
        obtain ⟨k, ix⟩ := p
        rw [zipIdx_range way (-1), List.getElem?_map] at hp
        by_cases hi : i < way.length
        · rw [List.getElem?_range hi] at hp
          cases hp
          exact ⟨by rw [← wo.len]; exact hi, rfl⟩
        · rw [List.getElem?_eq_none (by rw [List.length_range]; omega)] at hp; cases hp
      exact ev_call (p := p_better_choice K C) ⟨b, F, p.2, ch way p.2⟩ (evA_cons (ev_var rfl) (evA_cons (ev_var rfl) (evA_cons (ev_var rfl) (evA_cons (ev_is (ev_var rfl) (by rw [hz.2])) evA_nil)))) ⟨hF, hz.1⟩
    · show PyData.tuple _ = PyData.tuple ((impr b way F).map .int)
      unfold impr
      rw [zipIdx_range way (-1), List.map_map, List.map_map, wo.len]; rfl
theorem rep_flat {α : Type} (x : α) : ∀ n : Nat, (List.replicate n [x]).flatten = List.replicate n x
  | 0 => rfl
  | n + 1 => by rw [List.replicate_succ, List.flatten_cons, rep_flat x n, List.replicate_succ]; rfl
theorem sc_worth : FnScope ["board", "way", "f", "following"] ["board"] (defScope s_worth) := ⟨rfl, rfl, rfl, by decide +kernel, rfl, by decide +kernel, by decide +kernel⟩
theorem ok_worth {f : Addr} {fd : FuncData} (F : FunD K "worth" "worth" (defArgs s_worth) (defBody s_worth) (defScope s_worth) [] [] f fd) (hm : mg "worth" = some (.ref f)) (B : Blt mg) (BB : BF K C) (h_improved_for : Has P w K mg base "improved_for" ["board", "way", "f"] 5 (spOf T (p_improved_for K C))) (h_value : Has P w K mg base "value" ["board", "way"] 5 (spOf T (p_value K C))) : Has P w K mg base "worth" ["board"] 6 (spOf T (p_worth K C)) :=
  has_of F hm sc_worth (fun _ _ _ _ _ _ us hl => match us, hl with | [_], _ => rfl) (fun _ => rfl) (by decide) fun cdv A outer s H E hr a c D hT hX hs q hnx => by
    subst hT
    refine ⟨_, (pss_cons (ps_par (by rfl) sc_worth.nd (i := 1) (j := 2) rfl rfl (by decide) rfl rfl (pa_cons (pe_op (op_repA K) (pe_tup (pa_cons (k_glI (by rfl) B.STOP) pa_nil)) (k_fld K (pv 0) rfl)) (pa_cons (k_fld K (pv 0) rfl) pa_nil)) (by rfl))
      (pss_cons (ps_set (i := 3) sc_worth.nd rfl (.inl rfl) (pe_has (h_improved_for.mono (by decide)) (hr) (pa_cons (pv 0) (pa_cons (pv 1) (pa_cons (pv 2) pa_nil)))))
      (pss_cons (ps_while PassesOwn.never (pt_cmpR (k_neD K hr.units) (pv 3) (pv 1) (nomark _)) (pss_cons (ps_set (i := 1) sc_worth.nd rfl (.inl rfl) (pv 3))
      (pss_cons (ps_set (i := 2) sc_worth.nd rfl (.inl rfl) (pe_has (h_value.mono (by decide)) (hr) (pa_cons (pv 0) (pa_cons (pv 1) pa_nil))))
      (pss_one (ps_set (i := 3) sc_worth.nd rfl (.inl rfl) (pe_has (h_improved_for.mono (by decide)) (hr) (pa_cons (pv 0) (pa_cons (pv 1) (pa_cons (pv 2) pa_nil)))))))))
      (pss_one (ps_ret (pv 2)))))), ?_⟩
    change Bd at a
    have g : GB a := hs
    have hsz := g.size
    have h1 := g.one
    have pv : vals a.size a.pay = a.pays := by
      apply List.ext_getElem?
      intro i
      by_cases h : i < a.size
      · rw [vals_get h, pay_get h]
      · rw [List.getElem?_eq_none (by rw [vals_len]; omega), List.getElem?_eq_none (by unfold Bd.size at h; omega)]
    have ew : PyData.tuple (List.replicate ((a.size : Int)).toNat [PyData.int (-1)]).flatten = dZ (stopWay a) := by
      rw [Int.toNat_natCast, rep_flat]
      unfold dZ stopWay
      rw [List.map_replicate]
    refine tri_seq (tri_par (R := isD K (dZ (stopWay a))) (S := isD K (dRs (vals a.size a.pay))) (evA_cons (ev_is (ev_op (ev_tup (ds := [.int (-1)]) (evA_cons ev_int evA_nil)) (ev_size BB (ev_var rfl)) (opV_rep (by simp) (by omega) (by omega) (by simp))) ew) (evA_cons (ev_is (ev_pays BB (ev_var rfl)) (by rw [pv])) evA_nil)) ?_)
    have ok0 : FOk a a.pay := ⟨g, pay_sm g⟩
    refine tri_seq (tri_asg (ev_call (p := p_improved_for K C) (a, stopWay a, a.pay) (evA_cons (ev_var rfl) (evA_cons (ev_var rfl) (evA_cons (ev_var rfl) evA_nil))) ⟨ok0, stop_ok⟩) ?_)
    refine tri_seq (tri_while (α := { p : List Int × (Nat → Rat) // WayOk a p.1 ∧ IsVal a p.1 p.2 ∧ ∀ x, Sm (p.2 x) }) (fun p => [.is (isB K C a), .is (isD K (dZ p.1.1)), .is (isD K (dRs (vals a.size p.1.2))), .is (isD K (dZ (impr a p.1.1 p.1.2)))]) (fun p => moreWays a p.1.2) ⟨(stopWay a, a.pay), stop_ok, pay_val, pay_sm g⟩ (by repeat (first | exact Weak.nil | refine Weak.same ?_ | refine Weak.none ?_)) fun p => ⟨_, evT_test (ev_op (ev_var (i := 3) rfl) (ev_var (i := 1) rfl) (opV_neE enc_Z _ _)), fun hb => ?_, fun hb => ?_⟩)
    · obtain ⟨⟨way, F⟩, wo, iv, sm⟩ := p
      dsimp only at wo iv sm hb ⊢
      have hne : impr a way F ≠ way := by simpa using hb
      have wo' : WayOk a (impr a way F) := impr_ok g wo
      intro D' d1 d2 d3 d4
      refine tri_seq (tri_asg (ev_var rfl) ?_)
      refine tri_seq (tri_asg (ev_call (p := p_value K C) (a, impr a way F) (evA_cons (ev_var rfl) (evA_cons (ev_var rfl) evA_nil)) ⟨g, wo'⟩) ?_)
      refine tri_asg (ev_call (p := p_improved_for K C) (a, impr a way F, valF a (impr a way F)) (evA_cons (ev_var rfl) (evA_cons (ev_var rfl) (evA_cons (ev_var rfl) evA_nil))) ⟨⟨g, valF_sm g wo'⟩, wo'⟩) ?_
      exact nx_weak (by repeat (first | exact Weak.nil | refine Weak.same ?_ | refine Weak.none ?_)) (d3 ⟨(impr a way F, valF a (impr a way F)), wo', isVal g wo', valF_sm g wo'⟩ (more_lt g wo iv hne))
    · obtain ⟨⟨way, F⟩, wo, iv, sm⟩ := p
      dsimp only at wo iv sm hb ⊢
      have heq : impr a way F = way := by simpa using hb
      refine nx_tri (tri_ret (ev_weak (ev_var rfl) fun H v h => ?_) q)
      exact ⟨F, ⟨fin_cover g wo iv heq, ⟨way, wo, iv⟩, sm⟩, h⟩
end
end SD
end
section
namespace SM
structure Tb where
  name : PySem.Str
  outs : List (Int × Nat)
  low : Nat
  high : Nat
  step : Nat
  fee : Nat
def stk (t : Tb) : List Nat := (List.range ((t.high - t.low) / t.step + 1)).map fun k => t.low + k * t.step
structure OutsOk (os : List (Int × Nat)) : Prop where
  ne : os ≠ []
  len : os.length ≤ 3
  asc : (os.map (·.1)).Pairwise (· < ·)
  gain : ∀ p ∈ os, -1 ≤ p.1 ∧ p.1 ≤ 9
  wt : ∀ p ∈ os, 1 ≤ p.2 ∧ p.2 ≤ 9
def nameOk (z : PySem.Str) : Prop := 1 ≤ z.length ∧ z.length ≤ 4 ∧ ∀ c ∈ z.cps.toList, 97 ≤ c ∧ c ≤ 122
structure TbOk (t : Tb) : Prop where
  name : nameOk t.name
  outs : OutsOk t.outs
  low : 1 ≤ t.low
  high : t.low ≤ t.high
  top : t.high ≤ 39
  step : 1 ≤ t.step
  stp : t.step ≤ 39
  fee : t.fee ≤ 9
  few : (stk t).length ≤ 4
structure HOk (g : Nat) (ts : List Tb) : Prop where
  g1 : 1 ≤ g
  g9 : g ≤ 9
  few : ts.length ≤ 3
  tbs : ∀ t ∈ ts, TbOk t
  nd : (ts.map (·.name)).Nodup
def opens (ts : List Tb) (x : Nat) : List (Tb × Nat) := ts.flatMap fun t => ((stk t).filter fun s => decide (s + t.fee ≤ x)).map fun s => (t, s)
def purse (g : Nat) (t : Tb) (x s : Nat) (gain : Int) : Int := min (g : Int) ((x : Int) - (t.fee : Int) + gain * (s : Int))
theorem stk_le {t : Tb} (h : TbOk t) {s : Nat} (hs : s ∈ stk t) : 1 ≤ s ∧ s ≤ 39 := by
  unfold stk at hs
  obtain ⟨k, hk, rfl⟩ := List.mem_map.mp hs
  have hk' : k ≤ (t.high - t.low) / t.step := by have := List.mem_range.mp hk; omega
  have h1 := h.low
  have h2 := h.high
  have h3 := h.top
  have h4 : k * t.step ≤ t.high - t.low := Nat.le_trans (Nat.mul_le_mul_right _ hk') (Nat.div_mul_le_self _ _)
  omega
end SM
end
section
set_option maxHeartbeats 4000000
namespace SD
open PySem PySem.Spec PyProof.Rows L2 SM
def zGet (kvs : List (Int × Int)) (k : Int) : Option Int := (kvs.find? fun p => decide (p.1 = k)).map (·.2)
def zPut (kvs : List (Int × Int)) (k v : Int) : List (Int × Int) := if (kvs.any fun p => decide (p.1 = k)) = true then kvs.map (fun p => if p.1 = k then (p.1, v) else p) else kvs ++ [(k, v)]
def zD (kvs : List (Int × Int)) : List (L2.Key × V) := kvs.map fun p => (Sum.inl p.1, V.int p.2)
theorem zD_get (kvs : List (Int × Int)) (k : Int) : valV (zD kvs) (Sum.inl k) = (zGet kvs k).map V.int := by
  unfold valV zGet zD
  rw [List.find?_map, Option.map_map, Option.map_map]
  have : ((fun kv : L2.Key × V => decide (kv.1 = Sum.inl k)) ∘ fun p : Int × Int => ((Sum.inl p.1 : L2.Key), V.int p.2)) = fun p => decide (p.1 = k) := by
    funext p; simp
  rw [this]; rfl
theorem zD_put (kvs : List (Int × Int)) (k v : Int) : putK (zD kvs) (Sum.inl k) (V.int v) = zD (zPut kvs k v) := by
  unfold putK zPut zD
  rw [List.any_map]
  have : ((fun kv : L2.Key × V => decide (kv.1 = Sum.inl k)) ∘ fun p : Int × Int => ((Sum.inl p.1 : L2.Key), V.int p.2)) = fun p => decide (p.1 = k) := by
    funext p; simp
  rw [this]
  split
  · rw [List.map_map, List.map_map]
    apply List.map_congr_left
    intro p _
    by_cases h : p.1 = k <;> simp [h]
  · rw [List.map_append]; rfl
section
variable {K : PySem.W.Frag} {c : Ctx} {E : List Slo} {te ta tb tc ti : TE} {R S : Rp} {P P' : Op} {D : Ends} {t : TS} {ds : List PyData} {kvs : List (Int × Int)}
theorem Sat.own_z {σ : L2.St} {Hs H : Hp} {i : Nat} (e : Sat c σ Hs H E) (hi : E[i]? = some (.own (ownZ kvs))) : ∃ p, σ[i]? = some (some (.ref p)) ∧ Hs p = none ∧ H p = some (.dK (zD kvs)) := by
  obtain ⟨p, o, h1, h2, h3, h4, _⟩ := e.own i _ hi
  have h4' : o = .dK (zD kvs) := h4
  subst h4'
  exact ⟨p, h1, h2, h3⟩
theorem evO_dnew : EvO c E tDNewK (ownZ []) := fun σ Hs H e Q q => fun p hp => q p (.dK []) Hs _ (Stp.newO e.ok.sub hp) hp (Evl.fresh_back e.ok.sub hp) upd_same rfl
theorem ev_dget {i : Nat} {k v : Int} (hi : E[i]? = some (.own (ownZ kvs))) (h2 : Ev c E tb (isD K (.int k))) (hv : zGet kvs k = some v) : Ev c E (tDGet (tVar i) tb) (isD K (.int v)) := fun σ Hs H e Q q => by
  obtain ⟨p, a1, a2, a3⟩ := e.own_z hi
  refine ⟨.ref p, a1, h2 σ Hs H e _ fun y Hs2 H2 s2 hy => ?_⟩
  obtain ⟨p', b1, b2, b3⟩ := (e.move s2).own_z hi
  rw [a1] at b1
  cases b1
  cases hy
  refine ⟨p, .int v, rfl, ?_, q _ Hs2 H2 s2 (.int v)⟩
  have := DGet.k (k := Sum.inl k) b3
  rw [zD_get, hv] at this; exact this
theorem ev_dget2 {i : Nat} {k d : Int} (hi : E[i]? = some (.own (ownZ kvs))) (h2 : Ev c E tb (isD K (.int k))) (h3 : Ev c E tc (isD K (.int d))) : Ev c E (tDGet2 (tVar i) tb tc) (isD K (.int ((zGet kvs k).getD d))) := fun σ Hs H e Q q => by
  obtain ⟨p, a1, a2, a3⟩ := e.own_z hi
  refine ⟨.ref p, a1, p, rfl, .inl ⟨_, .inl a3⟩, h2 σ Hs H e _ fun y Hs2 H2 s2 hy => h3 σ Hs2 H2 (e.move s2) _ fun z Hs3 H3 s3 hz => ?_⟩
  obtain ⟨p', b1, b2, b3⟩ := ((e.move s2).move s3).own_z hi
  rw [a1] at b1
  cases b1
  cases hy
  cases hz
  refine ⟨(zGet kvs k).map V.int, ?_, ?_⟩
  · have := DGet.k (k := Sum.inl k) b3
    rw [zD_get] at this; exact this
  · have : ((zGet kvs k).map V.int).getD (V.int d) = V.int ((zGet kvs k).getD d) := by cases zGet kvs k <;> rfl
    rw [this]; exact q _ Hs3 H3 (s2.trans s3) (.int _)
theorem tri_dput {i : Nat} {k v : Int} (hi : E[i]? = some (.own (ownZ kvs))) (h : Ev c E te (isD K (.int v))) (h2 : Ev c E tb (isD K (.int k))) (hl : kvs.length < 100000) (n : Nx c (E.set i (.own (ownZ (zPut kvs k v)))) D.nx) : Tri c E (sDPut (tVar i) tb te) D := fun σ Hs H e => h σ Hs H e _ fun x Hs1 H1 s1 hx => by
  have e1 := e.move s1
  obtain ⟨p, a1, a2, a3⟩ := e1.own_z hi
  refine ⟨.ref p, a1, h2 σ Hs1 H1 e1 _ fun y Hs2 H2 s2 hy => ?_⟩
  have e2 := e1.move s2
  obtain ⟨p', b1, b2, b3⟩ := e2.own_z hi
  rw [a1] at b1
  cases b1
  cases hy
  cases hx
  refine ⟨p, _, rfl, DPut.k (k := Sum.inl k) b3 (Evl.sz_lt (by unfold zD; rw [List.length_map]; exact hl)), ?_⟩
  rw [zD_put]
  exact n σ Hs2 _ (e2.write hi a1 b3 (fun ps z => by cases z) (P' := ownZ (zPut kvs k v)) rfl)
def rSortZ : List V → Hp → VK → Prop := fun xs H Q => ∃ (a : Addr) (kvs : List (L2.Key × V)) (ks : List Int), xs = [.ref a] ∧ Rd H a (.dK kvs) ∧ kvs.map (·.1) = ks.map Sum.inl ∧ ks.length < 64 ∧
    ∀ (ys : List Int) (p : Addr), ys.Perm ks → ys.Pairwise (· ≤ ·) → H p = none → Q (.ref p) (upd H p (.lst (ys.map V.int)))
theorem sorted_eq {xs ys : List Int} (hp : xs.Perm ys) (h1 : xs.Pairwise (· ≤ ·)) (h2 : ys.Pairwise (· < ·)) : xs = ys :=
  hp.eq_of_pairwise (le := (· ≤ ·)) (fun a b _ _ h h' => Int.le_antisymm h h') h1 (h2.imp fun h => Int.le_of_lt h)
theorem evO_sortZ {i : Nat} {ks : List Int} (hi : E[i]? = some (.own (ownZ kvs))) (hp : ks.Perm (kvs.map (·.1))) (hs : ks.Pairwise (· < ·)) (hl : kvs.length < 64) : EvO c E (tCB rSortZ (tCons (tVar i) tNil)) (ownL K (ks.map .int)) := fun σ Hs H e Q q => by
  obtain ⟨p, a1, a2, a3⟩ := e.own_z hi
  refine ⟨.ref p, a1, p, zD kvs, kvs.map (·.1), rfl, .inl a3, ?_, by rw [List.length_map]; exact hl, fun ys l hy hle hl => ?_⟩
  · unfold zD
    rw [List.map_map, List.map_map]; rfl
  · have : ys = ks := sorted_eq (hy.trans hp.symm) hle hs
    subst this
    exact q l _ Hs _ (Stp.newO e.ok.sub hl) hl (Evl.fresh_back e.ok.sub hl) upd_same ⟨_, rfl, dpAll_of_ints ys⟩
theorem inV_int {H : Hp} {i : Int} : ∀ {vs : List V} {ns : List Int}, DpAll K H vs (ns.map PyData.int) → inV (.int i) vs = decide (i ∈ ns) ∧ vs.all flatV = true := fun {vs ns} h => by
  have := dpAll_ints h
  subst this
  constructor
  · unfold inV
    rw [List.any_map]
    induction ns with
    | nil => simp
    | cons n ns ih =>
      have h' : DpAll K H (ns.map V.int) (ns.map PyData.int) := dpAll_of_ints ns
      rw [List.any_cons, ih h']
      by_cases hn : n = i
      · subst hn; simp [eqV]
      · have hn' : ¬ i = n := fun z => hn z.symm
        simp [eqV, hn, hn']
  · simp [flatV]
theorem inV_str {H : Hp} {i : Str} : ∀ {vs : List V} {ns : List Str}, DpAll K H vs (ns.map PyData.str) → inV (.str i) vs = decide (i ∈ ns) ∧ vs.all flatV = true
  | _, [], h => by cases h; exact ⟨by simp [inV], rfl⟩
  | _, n :: ns, h => by
    cases h with
    | cons h1 h2 =>
      cases h1
      obtain ⟨a, b⟩ := inV_str h2
      constructor
      · unfold inV at a ⊢
        rw [List.any_cons, a]
        by_cases hn : n = i
        · subst hn; simp [eqV]
        · have hn' : ¬ i = n := fun z => hn z.symm
          simp [eqV, hn, hn']
      · simp [flatV, b]
theorem opV_notInT {i : Int} {ns : List Int} : OpV (rIn K true) (isD K (.int i)) (isD K (.tuple (ns.map .int))) (isD K (.bool (!decide (i ∈ ns)))) := fun x y Hs H e hx hy Q q => by
  cases hx
  cases hy with
  | @tup a vs _ hs ha =>
    obtain ⟨h1, h2⟩ := inV_int (i := i) ha
    refine ⟨a, vs, rfl, .inr (Evl.ex_t e hs), rfl, h2, ?_⟩
    rw [if_pos rfl, h1]; exact q _ Hs H (StpX.refl e) (.bl _)
theorem opV_inS {i : Str} {ns : List Str} : OpV (rIn K false) (isD K (.str i)) (isD K (.list (ns.map .str))) (isD K (.bool (decide (i ∈ ns)))) := fun x y Hs H e hx hy Q q => by
  cases hx
  cases hy with
  | @lst a vs _ hs ha =>
    obtain ⟨h1, h2⟩ := inV_str (i := i) ha
    refine ⟨a, vs, rfl, .inl (Evl.ex_l e hs), rfl, h2, ?_⟩
    rw [if_neg (by decide), h1]; exact q _ Hs H (StpX.refl e) (.bl _)
theorem evT_inO {i : Nat} {x : Str} {ns : List Str} (hi : E[i]? = some (.own (ownL K (ns.map .str)))) (h : Ev c E ta (isD K (.str x))) : EvT c E (tTest (tOp (rIn K false) ta (tVar i))) (decide (x ∈ ns)) := fun σ Hs H e Q q => by
  refine h σ Hs H e _ fun v Hs1 H1 s1 hv => ?_
  obtain ⟨p, vs, a1, a2, a3, a4⟩ := (e.move s1).own_at hi
  cases hv
  obtain ⟨h1, h2⟩ := inV_str (i := x) a4
  refine ⟨.ref p, a1, p, vs, rfl, .inl (SqL.of a3), rfl, h2, decide (x ∈ ns), ?_, q Hs1 H1 s1⟩
  rw [if_neg (by decide), h1]
end
theorem k_in {X : Cx} (K : PySem.W.Frag) (h : X.K = K := by rfl) : OpR X (compareOp .In) (rIn K false) := by subst h; exact op_in_seq
theorem k_notIn {X : Cx} (K : PySem.W.Frag) (h : X.K = K := by rfl) : OpR X (compareOp .NotIn) (rIn K true) := by subst h; exact op_notIn_seq
theorem k_sortZ {X : Cx} (h : X.calm = true := by rfl) : CallR X (.builtin "sorted") rSortZ := call_sortedDI h
section
variable {K : PySem.W.Frag} {c : Ctx} {E : List Slo} {wi wi1 : TI} {g g1 : TG} {tt tt1 : TT} {te : TE} {vs vs1 : List Nat} {α β : Type}
theorem evO_lc2 {xs : List α} {gd : α → PyData} (ys : α → List β) (gy : α → β → PyData) (p : α → β → Bool) (f : α → β → PyData) (hi : Its c E wi ((xs.map gd).map (isD K))) (hl : (xs.flatMap fun x => ((ys x).filter (p x)).map (f x)).length ≤ 50000) (hv : ∀ j ∈ vs1, j ∈ vs)
    (turn : ∀ (i : Nat) (x : α), xs[i]? = some x → ∃ js E1, Tgt c (wipeE E vs) g (isD K (gd x)) js E1 ∧ (∀ j ∈ js, j ∈ vs) ∧ (∀ (m : Nat) (P : Op), E1[m]? ≠ some (.own P)) ∧ EvT c E1 tt true ∧ Its c E1 wi1 (((ys x).map (gy x)).map (isD K)) ∧
      ∀ (c' : Ctx) (y : β), c'.T = c.T → y ∈ ys x → ∃ ks E2, Tgt c' (wipeE E1 vs1) g1 (isD K (gy x y)) ks E2 ∧ (∀ j ∈ ks, j ∈ vs1) ∧ EvT c' E2 tt1 (p x y) ∧ (p x y = true → Ev c' E2 te (isD K (f x y)))) :
    EvO c E (tLc2 wi g tt wi1 g1 tt1 te vs vs1) (ownL K (xs.flatMap fun x => ((ys x).filter (p x)).map (f x))) := fun σ Hs H e Q q => hi σ Hs H e _ fun J Hs1 H1 s1 hJ => fun D hD => by
  have e1 := e.move s1
  have n0 : H D = none := by
    cases z : H D with
    | none => rfl
    | some o => exact absurd hD (s1.d D (by rw [z]; exact Option.some_ne_none _))
  have sD := Stp.newO (o := .lst []) s1.i hD
  let out : List α → List PyData := fun l => l.flatMap fun x => ((ys x).filter (p x)).map (f x)
  have hlen : ∀ l r, l ++ r = xs → (out l).length ≤ 50000 := fun l r h => by
    have : (out xs).length = (out l).length + (out r).length := by rw [← h]; show (List.flatMap _ _).length = _; rw [List.flatMap_append, List.length_append]
    have h2 : (out xs).length ≤ 50000 := hl
    omega
  have hw : ∀ {Hs2 H2 : Hp} {acc : List V} {v : V} {ds : List PyData} {d : PyData}, Stp Hs1 H1 Hs2 H2 → Hs2 D = none → H2 D = some (.lst acc) → DpAll K Hs2 acc ds → Dp K Hs2 v d → Stp Hs1 H1 Hs2 (upd H2 D (.lst (acc ++ [v]))) ∧ DpAll K Hs2 (acc ++ [v]) (ds ++ [d]) := fun {Hs2 H2 acc v ds d} s n hacc da dv => by
    refine ⟨⟨s.s, Evl.Ex.mut s.i n, fun a o _ ea hn => ?_, fun a ha => ?_, s.f, fun a ha => ?_⟩, dpAll_append da (.cons dv .nil)⟩
    · have : a ≠ D := fun z => by rw [z, hD] at ea; cases ea
      rw [upd_ne this]; exact s.k a o (by simp) ea hn
    · obtain ⟨ps, e1, t1⟩ := s.t a ha
      have : a ≠ D := fun z => by rw [z, hacc] at e1; cases e1
      exact ⟨ps, by rw [upd_ne this]; exact e1, t1⟩
    · by_cases z : a = D
      · rw [z, upd_same]; exact Option.some_ne_none _
      · rw [upd_ne z]; exact s.d a ha
  refine ⟨fun i m H2 => m = xs.length - i ∧ i ≤ xs.length ∧ ∃ Hs2 acc, Stp Hs1 H1 Hs2 H2 ∧ Hs2 D = none ∧ H2 D = some (.lst acc) ∧ DpAll K Hs2 acc (out (xs.take i)),
    ⟨xs.length, by simp, Nat.zero_le _, Hs1, [], sD, Evl.fresh_back s1.i hD, upd_same, .nil⟩, ?_⟩
  rintro i m H2 ⟨rfl, hi2, Hs2, acc, s2, n2, hacc, dacc⟩
  have hJ2 : ItOk Hs2 J _ := hJ.ex s2.s
  by_cases hlt : i < xs.length
  · have hltR : i < ((xs.map gd).map (isD K)).length := by rw [List.length_map, List.length_map]; exact hlt
    refine .inr ⟨hJ2.go Hs2 H2 (Evl.Ex.refl _) s2.i i hltR, fun H' => i + 1 ≤ xs.length ∧ ∃ Hs2 acc, Stp Hs1 H1 Hs2 H' ∧ Hs2 D = none ∧ H' D = some (.lst acc) ∧ DpAll K Hs2 acc (out (xs.take (i + 1))), fun H' p => ⟨xs.length - (i + 1), by omega, rfl, p.1, p.2⟩, fun x H3 y => ?_⟩
    have hx : xs[i]? = some xs[i] := List.getElem?_eq_getElem hlt
    have hR : ((xs.map gd).map (isD K))[i]? = some (isD K (gd xs[i])) := by rw [List.getElem?_map, List.getElem?_map, hx]; rfl
    obtain ⟨Hs3, s3, hxv⟩ := hJ2.yld Hs2 H2 (Evl.Ex.refl _) s2.i i x H3 _ hR y
    have n3 : Hs3 D = none := s3.f D (by rw [hacc]; exact Option.some_ne_none _) n2
    have h3 : H3 D = some (.lst acc) := s3.k D _ (by simp) hacc fun ps z => by cases z
    obtain ⟨js, E1, t, hjs, hno, ht, hi1, inner⟩ := turn i _ hx
    have s13 := s2.trans s3
    refine t.run (L2.wipe σ vs) Hs3 H3 x ((e1.move s13).wipe vs) hxv _ fun σ' e' k' l' => ⟨?_, ?_⟩
    · have h0 : L2.wipe (L2.wipe σ vs) vs = L2.wipe σ vs := wipe_eq (wipe_length _ _) fun j hj => wipe_get hj
      rw [← h0]
      exact wipe_eq l' fun j hj => k' j fun z => hj (hjs j z)
    · refine ht σ' Hs3 H3 e' _ fun Hs4 H4 s4 => ?_
      show wi1 σ' H4 _
      refine hi1 σ' Hs4 H4 (e'.move s4) _ fun J1 Hs5 H5 s5 hJ1 => ?_
      have s15 := (s13.trans s4).trans s5
      have e5 := (e'.move s4).move s5
      have n5 : Hs5 D = none := s5.f D (s4.d D (by rw [h3]; exact Option.some_ne_none _)) (s4.f D (by rw [h3]; exact Option.some_ne_none _) n3)
      have h5 : H5 D = some (.lst acc) := s5.k D _ (by simp) (s4.k D _ (by simp) h3 fun ps z => by cases z) fun ps z => by cases z
      have d5 : DpAll K Hs5 acc (out (xs.take i)) := dpAll_ex (s3.s.trans (s4.s.trans s5.s)) _ _ dacc
      let c' : Ctx := c.also (fun Hx => ItOk Hx J1 (((ys xs[i]).map (gy xs[i])).map (isD K))) fun ex h => h.ex ex
      -- the inner walk
      have tk : xs.take (i + 1) = xs.take i ++ [xs[i]] := by rw [List.take_succ, hx]; rfl
      have oneL : ∀ j, (((ys xs[i]).take j).filter (p xs[i])).length ≤ ((ys xs[i]).filter (p xs[i])).length := fun j => by
        have h := List.take_append_drop j (ys xs[i])
        conv => rhs; rw [← h, List.filter_append, List.length_append]
        omega
      refine ⟨fun j k H6 => k = (ys xs[i]).length - j ∧ j ≤ (ys xs[i]).length ∧ ∃ Hs6 acc6, Stp Hs1 H1 Hs6 H6 ∧ Hs6 D = none ∧ H6 D = some (.lst acc6) ∧ DpAll K Hs6 acc6 (out (xs.take i) ++ (((ys xs[i]).take j).filter (p xs[i])).map (f xs[i])) ∧ Sat c' σ' Hs6 H6 E1,
        ⟨_, rfl, Nat.zero_le _, Hs5, acc, s15, n5, h5, by simpa using d5, e5.more hJ1⟩, ?_⟩
      rintro j k H6 ⟨rfl, hj2, Hs6, acc6, s6, n6, h6, d6, e6⟩
      have hJ6 : ItOk Hs6 J1 _ := e6.g.2
      by_cases hjt : j < (ys xs[i]).length
      · have hjR : j < (((ys xs[i]).map (gy xs[i])).map (isD K)).length := by rw [List.length_map, List.length_map]; exact hjt
        refine .inr ⟨hJ6.go Hs6 H6 (Evl.Ex.refl _) e6.ok.sub j hjR, fun H7 => j + 1 ≤ (ys xs[i]).length ∧ ∃ Hs6 acc6, Stp Hs1 H1 Hs6 H7 ∧ Hs6 D = none ∧ H7 D = some (.lst acc6) ∧ DpAll K Hs6 acc6 (out (xs.take i) ++ (((ys xs[i]).take (j + 1)).filter (p xs[i])).map (f xs[i])) ∧ Sat c' σ' Hs6 H7 E1, fun H7 z => ⟨_, by omega, rfl, z.1, z.2⟩, fun x1 H7 y1 => ?_⟩
        have hy : (ys xs[i])[j]? = some (ys xs[i])[j] := List.getElem?_eq_getElem hjt
        have hRy : (((ys xs[i]).map (gy xs[i])).map (isD K))[j]? = some (isD K (gy xs[i] (ys xs[i])[j])) := by rw [List.getElem?_map, List.getElem?_map, hy]; rfl
        obtain ⟨Hs7, s7, hxv7⟩ := hJ6.yld Hs6 H6 (Evl.Ex.refl _) e6.ok.sub j x1 H7 _ hRy y1
        have e7 := e6.move s7
        have n7 : Hs7 D = none := s7.f D (by rw [h6]; exact Option.some_ne_none _) n6
        have h7 : H7 D = some (.lst acc6) := s7.k D _ (by simp) h6 fun ps z => by cases z
        obtain ⟨ks, E2, t2, hks, ht2, he2⟩ := inner c' (ys xs[i])[j] rfl (List.getElem_mem hjt)
        have s17 := s6.trans s7
        have tkj : ((ys xs[i]).take (j + 1)).filter (p xs[i]) = ((ys xs[i]).take j).filter (p xs[i]) ++ if p xs[i] (ys xs[i])[j] then [(ys xs[i])[j]] else [] := by
          rw [List.take_succ, hy, List.filter_append]
          congr 1
          cases h : p xs[i] (ys xs[i])[j] <;> simp [h]
        refine t2.run (L2.wipe σ' vs1) Hs7 H7 x1 (e7.wipe vs1) hxv7 _ fun σ2 e8 k8 l8 => ⟨?_, ?_⟩
        · have h0 : L2.wipe (L2.wipe σ' vs1) vs1 = L2.wipe σ' vs1 := wipe_eq (wipe_length _ _) fun j hj => wipe_get hj
          rw [← h0]
          exact wipe_eq l8 fun j hj => k8 j fun z => hj (hks j z)
        · refine ht2 σ2 Hs7 H7 e8 _ fun Hs8 H8 s8 => ?_
          have n8 : Hs8 D = none := s8.f D (by rw [h7]; exact Option.some_ne_none _) n7
          have h8 : H8 D = some (.lst acc6) := s8.k D _ (by simp) h7 fun ps z => by cases z
          cases hp : p xs[i] (ys xs[i])[j] with
          | false =>
            show (fun H7 => _) H8
            refine ⟨hjt, Hs8, acc6, s17.trans s8, n8, h8, ?_, e7.move s8⟩
            rw [tkj, hp]
            simp only [Bool.false_eq_true, if_false, List.append_nil]
            exact dpAll_ex (s7.s.trans s8.s) _ _ d6
          | true =>
            show te σ2 H8 _
            refine he2 hp σ2 Hs8 H8 (e8.move s8) _ fun v Hs9 H9 s9 hv9 => ?_
            have n9 : Hs9 D = none := s9.f D (by rw [h8]; exact Option.some_ne_none _) n8
            have h9 : H9 D = some (.lst acc6) := s9.k D _ (by simp) h8 fun ps z => by cases z
            have s19 := (s17.trans s8).trans s9
            have d9 := dpAll_ex ((s7.s.trans s8.s).trans s9.s) _ _ d6
            obtain ⟨w1, w2⟩ := hw s19 n9 h9 d9 hv9
            refine ⟨acc6, h9, Evl.sz_lt ?_, hjt, Hs9, acc6 ++ [v], w1, n9, upd_same, ?_, ?_⟩
            · rw [dpAll_length d6, List.length_append, List.length_map]
              have h1 := hlen (xs.take (i + 1)) (xs.drop (i + 1)) (List.take_append_drop _ _)
              have h2 : (out (xs.take (i + 1))).length = (out (xs.take i)).length + ((ys xs[i]).filter (p xs[i])).length := by
                rw [tk]
                show (List.flatMap _ _).length = _
                rw [List.flatMap_append, List.length_append]
                simp [out]
              have := oneL j
              omega
            · rw [tkj, hp, if_pos rfl, List.map_append, ← List.append_assoc]
              exact w2
            · exact Sat.ghost (c := c') ((e7.move s8).move s9) hno n9 h9 (fun ps z => by cases z) (e.fresh0 n0)
      · have en : j = (ys xs[i]).length := by omega
        subst en
        have hst := hJ6.stop Hs6 H6 (Evl.Ex.refl _) e6.ok.sub
        rw [List.length_map, List.length_map] at hst
        refine .inl ⟨hst, hlt, Hs6, acc6, s6, n6, h6, ?_⟩
        rw [List.take_length] at d6
        rw [tk]
        show DpAll K Hs6 acc6 (List.flatMap _ _)
        rw [List.flatMap_append]
        simpa [out] using d6
  · have en : i = xs.length := by omega
    subst en
    have hst := hJ2.stop Hs2 H2 (Evl.Ex.refl _) s2.i
    rw [List.length_map, List.length_map] at hst
    rw [List.take_length] at dacc
    exact .inl ⟨hst, q D _ Hs2 H2 (s1.trans s2) n0 n2 hacc ⟨acc, rfl, dacc⟩⟩
end
end SD
end
section
set_option maxHeartbeats 4000000
set_option exponentiation.threshold 100000
namespace SD
open PySem PySem.Spec PyProof.Rows L2 SH SM RZ
section
def dO (os : List (Int × Nat)) : PyData := .tuple (os.map fun p => .tuple [.int p.1, .int (p.2 : Nat)])
def dT (t : Tb) : PyData := .tuple [.str t.name, dO t.outs, .int (t.low : Nat), .int (t.high : Nat), .int (t.step : Nat), .int (t.fee : Nat)]
def dTs (ts : List Tb) : PyData := .tuple (ts.map dT)
def dH (g : Nat) (ts : List Tb) : PyData := .tuple [.int (g : Nat), dTs ts]
def p_is_within (K : PySem.W.Frag) (C : Addr) : Prom := ⟨Int × Int × Int, fun _ => True, fun a => [isD K (.int a.1), isD K (.int a.2.1), isD K (.int a.2.2)], fun a => isD K (.bool (decide (a.2.1 ≤ a.1) && decide (a.1 ≤ a.2.2)))⟩
def p_is_name (K : PySem.W.Frag) (C : Addr) : Prom := ⟨Str, fun a => nameOk a, fun a => [isD K (.str a)], fun a => isD K (.bool true)⟩
def p_are_outs (K : PySem.W.Frag) (C : Addr) : Prom := ⟨List (Int × Nat), fun a => OutsOk a, fun a => [isD K (dO a)], fun a => isD K (.bool true)⟩
def p_is_table (K : PySem.W.Frag) (C : Addr) : Prom := ⟨Tb, fun a => TbOk a, fun a => [isD K (dT a)], fun a => isD K (.bool true)⟩
def p_stakes (K : PySem.W.Frag) (C : Addr) : Prom := ⟨Tb, fun a => TbOk a, fun a => [isD K (dT a)], fun a => isD K (dN (stk a))⟩
def p_check_goal (K : PySem.W.Frag) (C : Addr) : Prom := ⟨Nat, fun a => 1 ≤ a ∧ a ≤ 39, fun a => [isD K (.int (a : Nat))], fun a => isD K .none⟩
def p_check_names (K : PySem.W.Frag) (C : Addr) : Prom := ⟨List Tb, fun a => a.length ≤ 100 ∧ (a.map (·.name)).Nodup, fun a => [isD K (dTs a)], fun a => isD K .none⟩
def p_checked_house (K : PySem.W.Frag) (C : Addr) : Prom := ⟨Nat × List Tb, fun a => HOk a.1 a.2, fun a => [isD K (dH a.1 a.2)], fun a => isD K (dH a.1 a.2)⟩
def p_open_stakes (K : PySem.W.Frag) (C : Addr) : Prom := ⟨List Tb × Nat, fun a => a.1.length ≤ 3 ∧ ∀ t ∈ a.1, TbOk t, fun a => [isD K (dTs a.1), isD K (.int (a.2 : Nat))], fun a => isD K (.list ((opens a.1 a.2).map fun p => .tuple [dT p.1, .int (p.2 : Nat)]))⟩
structure OutA where
  g : Nat
  t : Tb
  x : Nat
  s : Nat
  gain : Int
def p_out_of (K : PySem.W.Frag) (C : Addr) : Prom := ⟨OutA, fun a => TbOk a.t ∧ a.s ∈ stk a.t ∧ a.s + a.t.fee ≤ a.x ∧ a.x ≤ 1000 ∧ -1 ≤ a.gain ∧ a.gain ≤ 9, fun a => [isD K (.int (a.g : Nat)), isD K (dT a.t), isD K (.int (a.x : Nat)), isD K (.int (a.s : Nat)), isD K (.int a.gain)], fun a => isD K (.int (purse a.g a.t a.x a.s a.gain))⟩
theorem its_is {c : Ctx} {E : List Slo} {wi : TI} {Rs Rs' : List Rp} (h : Its c E wi Rs) (e : Rs = Rs') : Its c E wi Rs' := e ▸ h
theorem opV_notInN {K : PySem.W.Frag} {i : Int} {ns : List Nat} : OpV (rIn K true) (isD K (.int i)) (isD K (dN ns)) (isD K (.bool (!decide (i ∈ ns.map fun n : Nat => (n : Int))))) := by
  have h := opV_notInT (K := K) (i := i) (ns := ns.map fun n : Nat => (n : Int))
  rw [List.map_map] at h
  exact h
def goalPays (g : Nat) : List Rat := List.replicate g 0 ++ [1]
def p_goal_pays (K : PySem.W.Frag) (C : Addr) : Prom := ⟨Nat, fun a => 1 ≤ a ∧ a ≤ 39, fun a => [isD K (.int (a : Nat))], fun a => isD K (dRs (goalPays a))⟩
variable {P : Program} {w : World} {K : PySem.W.Frag} {mg : Str → Option Value} {base : Heap} {T : List Addr} {C : Addr}
theorem sc_is_within : FnScope ["thing", "least", "most"] ["thing", "least", "most"] (defScope s_is_within) := ⟨rfl, rfl, rfl, by decide +kernel, rfl, by decide +kernel, by decide +kernel⟩
theorem ok_is_within {f : Addr} {fd : FuncData} (F : FunD K "is_within" "is_within" (defArgs s_is_within) (defBody s_is_within) (defScope s_is_within) [] [] f fd) (hm : mg "is_within" = some (.ref f)) (B : Blt mg)  (h_is_number : Has P w K mg base "is_number" ["thing"] 1 (spOf T (p_is_number K C))) : Has P w K mg base "is_within" ["thing", "least", "most"] 2 (spOf T (p_is_within K C)) :=
  has_of F hm sc_is_within (fun _ _ _ _ _ _ us hl => match us, hl with | [_, _, _], _ => rfl) (fun _ => rfl) (by decide) fun cdv A outer s H E hr a c D hT hX hs q hnx => by
    subst hT
    refine ⟨_, (pss_one (ps_ret (pe_and (pe_has (h_is_number.mono (by decide)) (hr) (pa_cons (pv 0) pa_nil)) (pe_one (pe_chain op_le op_le (pv 1) (pv 0) (pv 2)))))), ?_⟩
    obtain ⟨t, l, m⟩ := a
    exact tri_ret (ev_is (ev_andV (ev_call (p := p_is_number K C) (.int t) (evA_cons (ev_var rfl) evA_nil) trivial) fun _ => ev_chain (ev_var rfl) (ev_var rfl) opV_bool (ev_var rfl) opV_bool) (by simp [isI])) q
theorem sc_are_outs : FnScope ["thing", "before", "out", "gain", "weight"] ["thing"] (defScope s_are_outs) := ⟨rfl, rfl, rfl, by decide +kernel, rfl, by decide +kernel, by decide +kernel⟩
theorem ok_are_outs {f : Addr} {fd : FuncData} (F : FunD K "are_outs" "are_outs" (defArgs s_are_outs) (defBody s_are_outs) (defScope s_are_outs) [] [] f fd) (hm : mg "are_outs" = some (.ref f)) (B : Blt mg)  (h_is_within : Has P w K mg base "is_within" ["thing", "least", "most"] 2 (spOf T (p_is_within K C))) : Has P w K mg base "are_outs" ["thing"] 3 (spOf T (p_are_outs K C)) :=
  has_of F hm sc_are_outs (fun _ _ _ _ _ _ us hl => match us, hl with | [_], _ => rfl) (fun _ => rfl) (by decide) fun cdv A outer s H E hr a c D hT hX hs q hnx => by
    subst hT
    refine ⟨_, (pss_cons (ps_if (PW.pt (pw_or (pt_not (pt_val (pe_callB (k_isi K) (by rfl) B.isinstance (by decide +kernel) (pa_cons (pv 0) (pa_cons (pe_bltn (v := .ty "tuple") (by rfl) B.tuple (by decide +kernel) rfl) pa_nil))))) (pw_or1 (pt_not (pt_chain op_le op_le pe_int (pe_callB (k_len K) (by rfl) B.len (by decide +kernel) (pa_cons (pv 0) pa_nil)) (k_glI (by rfl) B.MOST_OUTS)))))) (pss_one (ps_ret pe_bl)) pss_nil)
      (pss_cons (ps_set (i := 1) sc_are_outs.nd rfl (.inl rfl) (pe_un un_neg pe_int))
      (pss_cons (ps_for PassesOwn.never rfl (k_piT K (pv 0)) (pg_name (i := 2) sc_are_outs.nd rfl (.inl rfl))
      (pss_cons (ps_if (PW.pt (pw_or (pt_not (pt_val (pe_callB (k_isi K) (by rfl) B.isinstance (by decide +kernel) (pa_cons (pv 2) (pa_cons (pe_bltn (v := .ty "tuple") (by rfl) B.tuple (by decide +kernel) rfl) pa_nil))))) (pw_or1 (pt_cmpR op_ne (pe_callB (k_len K) (by rfl) B.len (by decide +kernel) (pa_cons (pv 2) pa_nil)) pe_int (nomark _))))) (pss_one (ps_ret pe_bl)) pss_nil)
      (pss_cons (ps_asg (pv 2) (k_tup K 2 (pgs_cons (pg_name (i := 3) sc_are_outs.nd rfl (.inl rfl)) (pgs_cons (pg_name (i := 4) sc_are_outs.nd rfl (.inl rfl)) pgs_nil))))
      (pss_cons (ps_if (PW.pt (pw_or (pt_not (pt_val (pe_has (h_is_within.mono (by decide)) (hr) (pa_cons (pv 3) (pa_cons (pe_op op_add (pv 1) pe_int) (pa_cons pe_int pa_nil)))))) (pw_or1 (pt_not (pt_val (pe_has (h_is_within.mono (by decide)) (hr) (pa_cons (pv 4) (pa_cons pe_int (pa_cons pe_int pa_nil))))))))) (pss_one (ps_ret pe_bl)) pss_nil)
      (pss_one (ps_set (i := 1) sc_are_outs.nd rfl (.inl rfl) (pv 3)))))))
      (pss_one (ps_ret pe_bl))))), ?_⟩
    change List (Int × Nat) at a
    have ho : OutsOk a := hs
    have hl1 : 1 ≤ a.length := List.length_pos_iff.mpr ho.ne
    have hl3 := ho.len
    refine tri_seq (tri_ifF (evT_is (evT_or (evT_not (evT_B (ev_CB (evA_cons (ev_var rfl) (evA_cons ev_ty evA_nil)) (caV_isi (kit_tup _))))) (fun _ => evT_not (evT_test (ev_chain ev_int (ev_CB (evA_cons (ev_var rfl) evA_nil) caV_lenT) opV_bool ev_int opV_bool)))) ?_) (tri_next ?_))
    · rw [List.length_map]
      simp
      omega
    refine tri_seq (tri_asg (ev_un (ev_int (K := K)) unV_int) ?_)
    refine tri_seq (tri_forM (xs := a) (gd := fun p => .tuple [.int p.1, .int (p.2 : Nat)]) (its_tup (ev_var rfl)) (fun M => [.is (isD K (dO a)), .is (isD K (.int (((M.getLast?).map (·.1)).getD (-2)))), .no, .no, .no]) (by repeat (first | exact Weak.nil | refine Weak.same ?_ | refine Weak.none ?_)) (fun c' M p a1 a2 a3 a4 hp => ?_) ?_)
    · have hpm := prefix_mem hp
      have hg := ho.gain p hpm
      have hw := ho.wt p hpm
      have hb : ((M.getLast?).map (·.1)).getD (-2) + 1 ≤ p.1 := by
        cases hM : M.getLast? with
        | none => simp; omega
        | some r =>
          have hr : r ∈ M := List.mem_of_getLast? hM
          obtain ⟨z, hz⟩ := hp
          have hasc := ho.asc
          rw [← hz, List.append_assoc, List.map_append] at hasc
          have := (List.pairwise_append.mp hasc).2.2 r.1 (List.mem_map.mpr ⟨r, hr, rfl⟩) p.1 (by simp)
          simp; omega
      refine ⟨_, _, tgt_name, fun D' d1 d2 d3 d4 => ?_⟩
      rw [← a1]
      refine tri_seq (tri_ifF (evT_is (evT_or (evT_not (evT_B (ev_CB (evA_cons (ev_var rfl) (evA_cons ev_ty evA_nil)) (caV_isi (kit_tup _))))) (fun _ => evT_test (ev_op (ev_CB (evA_cons (ev_var rfl) evA_nil) caV_lenT) ev_int opV_neI))) (by simp)) (tri_next ?_))
      refine tri_seq (tri_asgT (ev_var rfl) (tgt_tup (ds := [_, _]) (tgts_cons tgt_name (tgts_cons tgt_name tgts_nil)) rfl) ?_)
      refine tri_seq (tri_ifF (evT_is (evT_or (evT_not (evT_B (ev_call (p := p_is_within K C) (_, _, _) (evA_cons (ev_var rfl) (evA_cons (ev_op (ev_var rfl) ev_int opV_int) (evA_cons ev_int evA_nil))) trivial))) (fun _ => evT_not (evT_B (ev_call (p := p_is_within K C) (_, _, _) (evA_cons (ev_var rfl) (evA_cons ev_int (evA_cons ev_int evA_nil))) trivial)))) ?_) (tri_next ?_))
      · dsimp only
        rw [decide_eq_true hb, decide_eq_true hg.2, decide_eq_true (show (1 : Int) ≤ (p.2 : Int) by omega), decide_eq_true (show (p.2 : Int) ≤ 99 by omega)]
        rfl
      · refine tri_asg (ev_var rfl) ?_
        refine nx_weak ?_ d3
        have : (((M ++ [p]).getLast?).map (·.1)).getD (-2) = p.1 := by simp
        rw [this]
        repeat (first | exact Weak.nil | refine Weak.same ?_ | refine Weak.none ?_)
    · exact nx_tri (tri_ret (ev_is ev_bl rfl) q)
theorem sc_is_table : FnScope ["thing", "name", "outs", "low", "high", "step", "fee"] ["thing"] (defScope s_is_table) := ⟨rfl, rfl, rfl, by decide +kernel, rfl, by decide +kernel, by decide +kernel⟩
theorem ok_is_table {f : Addr} {fd : FuncData} (F : FunD K "is_table" "is_table" (defArgs s_is_table) (defBody s_is_table) (defScope s_is_table) [] [] f fd) (hm : mg "is_table" = some (.ref f)) (B : Blt mg)  (h_is_within : Has P w K mg base "is_within" ["thing", "least", "most"] 2 (spOf T (p_is_within K C))) (h_is_name : Has P w K mg base "is_name" ["thing"] 4 (spOf T (p_is_name K C))) (h_are_outs : Has P w K mg base "are_outs" ["thing"] 3 (spOf T (p_are_outs K C))) : Has P w K mg base "is_table" ["thing"] 5 (spOf T (p_is_table K C)) :=
  has_of F hm sc_is_table (fun _ _ _ _ _ _ us hl => match us, hl with | [_], _ => rfl) (fun _ => rfl) (by decide) fun cdv A outer s H E hr a c D hT hX hs q hnx => by
    subst hT
    refine ⟨_, (pss_cons (ps_if (PW.pt (pw_or (pt_not (pt_val (pe_callB (k_isi K) (by rfl) B.isinstance (by decide +kernel) (pa_cons (pv 0) (pa_cons (pe_bltn (v := .ty "tuple") (by rfl) B.tuple (by decide +kernel) rfl) pa_nil))))) (pw_or1 (pt_cmpR op_ne (pe_callB (k_len K) (by rfl) B.len (by decide +kernel) (pa_cons (pv 0) pa_nil)) pe_int (nomark _))))) (pss_one (ps_ret pe_bl)) pss_nil)
      (pss_cons (ps_asg (pv 0) (k_tup K 6 (pgs_cons (pg_name (i := 1) sc_is_table.nd rfl (.inl rfl)) (pgs_cons (pg_name (i := 2) sc_is_table.nd rfl (.inl rfl)) (pgs_cons (pg_name (i := 3) sc_is_table.nd rfl (.inl rfl)) (pgs_cons (pg_name (i := 4) sc_is_table.nd rfl (.inl rfl)) (pgs_cons (pg_name (i := 5) sc_is_table.nd rfl (.inl rfl)) (pgs_cons (pg_name (i := 6) sc_is_table.nd rfl (.inl rfl)) pgs_nil))))))))
      (pss_cons (ps_if (PW.pt (pw_or (pt_not (pt_val (pe_has (h_is_name.mono (by decide)) (hr) (pa_cons (pv 1) pa_nil)))) (pw_or1 (pt_not (pt_val (pe_has (h_are_outs.mono (by decide)) (hr) (pa_cons (pv 2) pa_nil))))))) (pss_one (ps_ret pe_bl)) pss_nil)
      (pss_cons (ps_if (PW.pt (pw_or (pt_not (pt_val (pe_has (h_is_within.mono (by decide)) (hr) (pa_cons (pv 3) (pa_cons pe_int (pa_cons (k_glI (by rfl) B.MOST_STAKE) pa_nil)))))) (pw_or1 (pt_not (pt_val (pe_has (h_is_within.mono (by decide)) (hr) (pa_cons (pv 4) (pa_cons (pv 3) (pa_cons (k_glI (by rfl) B.MOST_STAKE) pa_nil))))))))) (pss_one (ps_ret pe_bl)) pss_nil)
      (pss_one (ps_ret (pe_and (pe_has (h_is_within.mono (by decide)) (hr) (pa_cons (pv 5) (pa_cons pe_int (pa_cons (k_glI (by rfl) B.MOST_STAKE) pa_nil)))) (pe_one (pe_has (h_is_within.mono (by decide)) (hr) (pa_cons (pv 6) (pa_cons pe_int (pa_cons pe_int pa_nil)))))))))))), ?_⟩
    change Tb at a
    have ht : TbOk a := hs
    have h1 := ht.low
    have h2 := ht.high
    have h3 := ht.top
    have h4 := ht.step
    have h5 := ht.stp
    have h6 := ht.fee
    refine tri_seq (tri_ifF (evT_is (evT_or (evT_not (evT_B (ev_CB (evA_cons (ev_var rfl) (evA_cons ev_ty evA_nil)) (caV_isi (kit_tup _))))) (fun _ => evT_test (ev_op (ev_CB (evA_cons (ev_var rfl) evA_nil) caV_lenT) ev_int opV_neI))) (by simp)) (tri_next ?_))
    refine tri_seq (tri_asgT (ev_var rfl) (tgt_tup (ds := [_, _, _, _, _, _]) (tgts_cons tgt_name (tgts_cons tgt_name (tgts_cons tgt_name (tgts_cons tgt_name (tgts_cons tgt_name (tgts_cons tgt_name tgts_nil)))))) rfl) ?_)
    refine tri_seq (tri_ifF (evT_is (b := !true || !true) (evT_or (evT_not (evT_B (ev_call (p := p_is_name K C) _ (evA_cons (ev_var rfl) evA_nil) ht.name))) (fun _ => evT_not (evT_B (ev_call (p := p_are_outs K C) a.outs (evA_cons (ev_var rfl) evA_nil) ht.outs)))) rfl) (tri_next ?_))
    refine tri_seq (tri_ifF (evT_is (evT_or (evT_not (evT_B (ev_call (p := p_is_within K C) (_, _, _) (evA_cons (ev_var rfl) (evA_cons ev_int (evA_cons ev_int evA_nil))) trivial))) (fun _ => evT_not (evT_B (ev_call (p := p_is_within K C) (_, _, _) (evA_cons (ev_var rfl) (evA_cons (ev_var rfl) (evA_cons ev_int evA_nil))) trivial)))) ?_) (tri_next ?_))
    · dsimp only
      rw [decide_eq_true (show (1 : Int) ≤ (a.low : Int) by omega), decide_eq_true (show (a.low : Int) ≤ 39 by omega), decide_eq_true (show (a.low : Int) ≤ (a.high : Int) by omega), decide_eq_true (show (a.high : Int) ≤ 39 by omega)]
      rfl
    · refine tri_ret (ev_is (ev_andV (ev_call (p := p_is_within K C) (_, _, _) (evA_cons (ev_var rfl) (evA_cons ev_int (evA_cons ev_int evA_nil))) trivial) (fun _ => ev_call (p := p_is_within K C) (_, _, _) (evA_cons (ev_var rfl) (evA_cons ev_int (evA_cons ev_int evA_nil))) trivial)) ?_) q
      dsimp only
      rw [decide_eq_true (show (1 : Int) ≤ (a.step : Int) by omega), decide_eq_true (show (a.step : Int) ≤ 39 by omega), decide_eq_true (show (0 : Int) ≤ (a.fee : Int) by omega), decide_eq_true (show (a.fee : Int) ≤ 9 by omega)]
      rfl
theorem sc_stakes : FnScope ["table", "name", "outs", "low", "high", "step", "fee", "k"] ["table"] (defScope s_stakes) := ⟨rfl, rfl, rfl, by decide +kernel, rfl, by decide +kernel, by decide +kernel⟩
theorem ok_stakes {f : Addr} {fd : FuncData} (F : FunD K "stakes" "stakes" (defArgs s_stakes) (defBody s_stakes) (defScope s_stakes) [] [] f fd) (hm : mg "stakes" = some (.ref f)) (B : Blt mg)   : Has P w K mg base "stakes" ["table"] 1 (spOf T (p_stakes K C)) :=
  has_of F hm sc_stakes (fun _ _ _ _ _ _ us hl => match us, hl with | [_], _ => rfl) (fun _ => rfl) (by decide) fun cdv A outer s H E hr a c D hT hX hs q hnx => by
    subst hT
    refine ⟨_, (pss_cons (ps_asg (pv 0) (k_tup K 6 (pgs_cons (pg_name (i := 1) sc_stakes.nd rfl (.inl rfl)) (pgs_cons (pg_name (i := 2) sc_stakes.nd rfl (.inl rfl)) (pgs_cons (pg_name (i := 3) sc_stakes.nd rfl (.inr rfl)) (pgs_cons (pg_name (i := 4) sc_stakes.nd rfl (.inl rfl)) (pgs_cons (pg_name (i := 5) sc_stakes.nd rfl (.inr rfl)) (pgs_cons (pg_name (i := 6) sc_stakes.nd rfl (.inl rfl)) pgs_nil))))))))
      (pss_one (ps_ret (pe_callTy (k_tupOf K) (by rfl) B.tuple (by decide +kernel) (pa_cons (pe_lc (own := [("k", 7)]) rfl sc_stakes.nd (pi_range1 (by rfl) B.range (pa_cons (pe_op op_add (pe_op op_fdivW (pe_op op_sub (pv 4) (pv 3)) (pv 5)) pe_int) pa_nil)) (blkOk_by (own := [("k", 7)]) (N := ["table", "name", "outs", "low", "high", "step", "fee", "k"]) (sc := defScope s_stakes) (by decide +kernel)) (fun _ _ _ _ _ => (pg_name (i := 7) sc_stakes.nd rfl (.inl rfl))) (fun _ _ _ _ _ => pts_nil) (fun _ _ _ _ _ => (pe_op op_add (pv 3) (pe_op op_mulW (pv 7) (pv 5))))) pa_nil))))), ?_⟩
    change Tb at a
    have ht : TbOk a := hs
    have h1 := ht.low
    have h2 := ht.high
    have h3 := ht.top
    have h4 := ht.step
    have h5 := ht.stp
    have hd : (a.high - a.low) / a.step ≤ 39 := Nat.le_trans (Nat.div_le_self _ _) (by omega)
    have en : (((a.high : Int) - (a.low : Int)) / (a.step : Int) + 1) = (((a.high - a.low) / a.step + 1 : Nat) : Int) := by
      have : (a.high : Int) - (a.low : Int) = ((a.high - a.low : Nat) : Int) := by omega
      rw [this]; simp
    refine tri_seq (tri_asgT (ev_var rfl) (tgt_tup (ds := [_, _, _, _, _, _]) (tgts_cons tgt_name (tgts_cons tgt_name (tgts_cons tgt_name (tgts_cons tgt_name (tgts_cons tgt_name (tgts_cons tgt_name tgts_nil)))))) rfl) ?_)
    refine tri_ret (ev_is (ev_CB (evA_cons (evO_data (evO_rng (lo := 0) (n := (a.high - a.low) / a.step + 1) (fun k => .int ((a.low + k * a.step : Nat) : Int)) (its_is (its_range1 (evA_cons (ev_op (ev_op (ev_op (ev_var (i := 4) rfl) (ev_var (i := 3) rfl) opV_int) (ev_var (i := 5) rfl) (opV_divW (divW_of 16 (by omega) (by omega)))) ev_int opV_int) evA_nil) (by rw [en]; clear en; generalize (a.high - a.low) / a.step = N at hd ⊢; omega) (by rw [en]; clear en; generalize (a.high - a.low) / a.step = N at hd ⊢; omega)) (by rw [en, Int.toNat_natCast])) (by omega) fun i hi => ⟨_, _, tgt_name, by decide, evT_tt, ev_is (ev_op (ev_var (i := 3) rfl) (ev_op (ev_var rfl) (ev_var (i := 5) rfl) (opV_mulW (mulW_of 16 16 ?_ ?_))) opV_int) ?_⟩)) evA_nil) caV_tupL) ?_) q
    · omega
    · omega
    · congr 1
      simp
    · unfold dN stk
      rw [List.map_map]; rfl
theorem sc_check_goal : FnScope ["goal"] ["goal"] (defScope s_check_goal) := ⟨rfl, rfl, rfl, by decide +kernel, rfl, by decide +kernel, by decide +kernel⟩
theorem ok_check_goal {f : Addr} {fd : FuncData} (F : FunD K "check_goal" "check_goal" (defArgs s_check_goal) (defBody s_check_goal) (defScope s_check_goal) [] [] f fd) (hm : mg "check_goal" = some (.ref f)) (B : Blt mg)   : Has P w K mg base "check_goal" ["goal"] 1 (spOf T (p_check_goal K C)) :=
  has_of F hm sc_check_goal (fun _ _ _ _ _ _ us hl => match us, hl with | [_], _ => rfl) (fun _ => rfl) (by decide) fun cdv A outer s H E hr a c D hT hX hs q hnx => by
    subst hT
    refine ⟨_, (pss_one (ps_if (pt_not (pt_chain op_le op_le pe_int (pv 0) (k_glI (by rfl) B.MOST_GOAL))) (pss_one ps_never) pss_nil)), ?_⟩
    change Nat at a
    obtain ⟨h1, h2⟩ := hs
    refine tri_ifF (evT_is (evT_not (evT_test (ev_chain ev_int (ev_var rfl) opV_bool ev_int opV_bool))) ?_) (tri_next ?_)
    · rw [decide_eq_true (show (1 : Int) ≤ (a : Int) by omega), decide_eq_true (show (a : Int) ≤ 39 by omega)]; rfl
    · rw [hnx]
      exact nx_weak (E' := [.no]) (by repeat (first | exact Weak.nil | refine Weak.same ?_ | refine Weak.none ?_)) (nx_fin q)
theorem sc_check_names : FnScope ["tables", "names", "table"] ["tables"] (defScope s_check_names) := ⟨rfl, rfl, rfl, by decide +kernel, rfl, by decide +kernel, by decide +kernel⟩
theorem ok_check_names {f : Addr} {fd : FuncData} (F : FunD K "check_names" "check_names" (defArgs s_check_names) (defBody s_check_names) (defScope s_check_names) [] [] f fd) (hm : mg "check_names" = some (.ref f)) (B : Blt mg)   : Has P w K mg base "check_names" ["tables"] 1 (spOf T (p_check_names K C)) :=
  has_of F hm sc_check_names (fun _ _ _ _ _ _ us hl => match us, hl with | [_], _ => rfl) (fun _ => rfl) (by decide) fun cdv A outer s H E hr a c D hT hX hs q hnx => by
    subst hT
    refine ⟨_, (pss_cons (ps_set (i := 1) sc_check_names.nd rfl (.inl rfl) (pe_lst pa_nil))
      (pss_one (ps_for PassesOwn.never rfl (k_piT K (pv 0)) (pg_name (i := 2) sc_check_names.nd rfl (.inl rfl))
      (pss_cons (ps_if (pt_cmpR (k_in K) (pe_ix (k_ixT K) (pv 2) pe_int (fun _ _ => rfl)) (pv 1) (by rfl)) (pss_one ps_never) pss_nil)
      (pss_one (ps_expr (k_bm K PySem.F.plainAttrs_list PySem.F.slot_list_append PySem.F.type_list_append mt_append (pv 1) (pa_cons (pe_ix (k_ixT K) (pv 2) pe_int (fun _ _ => rfl)) pa_nil)))))))), ?_⟩
    change List Tb at a
    obtain ⟨hl, hnd⟩ := hs
    refine tri_seq (tri_asgO ((evO_nil (K := K))) ?_)
    refine nx_tri (tri_forM (xs := a) (gd := dT) (its_tup (ev_var rfl)) (fun M => [.is (isD K (dTs a)), .own (ownL K ((M.map (·.name)).map .str)), .no]) (by repeat (first | exact Weak.nil | refine Weak.same ?_ | refine Weak.none ?_)) (fun c' M p a1 a2 a3 a4 hp => ?_) ?_)
    · refine ⟨_, _, tgt_name, fun D' d1 d2 d3 d4 => ?_⟩
      have hn : p.name ∉ M.map (·.name) := fun h => by
        obtain ⟨r, hr⟩ := hp
        rw [← hr, List.append_assoc, List.map_append] at hnd
        exact (List.nodup_append.mp hnd).2.2 _ h _ (by simp) rfl
      have hM : M.length < 1000 := by have := prefix_lt hp; omega
      refine tri_seq (tri_ifF (evT_is (evT_inO rfl (ev_op (ev_var (i := 2) rfl) ev_int (opV_ixT (by decide) rfl))) (decide_eq_false hn)) (tri_next ?_))
      refine tri_app rfl (ev_op (ev_var (i := 2) rfl) ev_int (opV_ixT (by decide) rfl)) (by rw [List.length_map, List.length_map]; omega) ?_
      refine nx_weak ?_ d3
      rw [List.map_append, List.map_append]
      repeat (first | exact Weak.nil | refine Weak.same ?_ | refine Weak.none ?_)
    · rw [hnx]
      exact nx_weak (E' := [.no, .no, .no]) (by repeat (first | exact Weak.nil | refine Weak.same ?_ | refine Weak.none ?_)) (nx_fin q)
theorem many_le {ts : List Tb} (h : ∀ t ∈ ts, TbOk t) : (ts.map fun t => ((stk t).length : Int)).sum ≤ 4 * (ts.length : Int) := by
  induction ts with
  | nil => simp
  | cons t ts ih =>
    have h1 := (h t (by simp)).few
    have h2 := ih fun u hu => h u (by simp [hu])
    rw [List.map_cons, List.sum_cons, List.length_cons]
    omega
theorem sc_checked_house : FnScope ["house", "goal", "tables", "index", "table", "many"] ["house"] (defScope s_checked_house) := ⟨rfl, rfl, rfl, by decide +kernel, rfl, by decide +kernel, by decide +kernel⟩
theorem ok_checked_house {f : Addr} {fd : FuncData} (F : FunD K "checked_house" "checked_house" (defArgs s_checked_house) (defBody s_checked_house) (defScope s_checked_house) [] [] f fd) (hm : mg "checked_house" = some (.ref f)) (B : Blt mg)  (h_check_goal : Has P w K mg base "check_goal" ["goal"] 1 (spOf T (p_check_goal K C))) (h_check_names : Has P w K mg base "check_names" ["tables"] 1 (spOf T (p_check_names K C))) (h_is_table : Has P w K mg base "is_table" ["thing"] 5 (spOf T (p_is_table K C))) (h_stakes : Has P w K mg base "stakes" ["table"] 1 (spOf T (p_stakes K C))) : Has P w K mg base "checked_house" ["house"] 6 (spOf T (p_checked_house K C)) :=
  has_of F hm sc_checked_house (fun _ _ _ _ _ _ us hl => match us, hl with | [_], _ => rfl) (fun _ => rfl) (by decide) fun cdv A outer s H E hr a c D hT hX hs q hnx => by
    subst hT
    refine ⟨_, (pss_cons (ps_asg (pv 0) (k_tup K 2 (pgs_cons (pg_name (i := 1) sc_checked_house.nd rfl (.inl rfl)) (pgs_cons (pg_name (i := 2) sc_checked_house.nd rfl (.inl rfl)) pgs_nil))))
      (pss_cons (ps_expr (pe_has (h_check_goal.mono (by decide)) (hr) (pa_cons (pv 1) pa_nil)))
      (pss_cons (ps_if (pt_cmpR op_gt (pe_callB (k_len K) (by rfl) B.len (by decide +kernel) (pa_cons (pv 2) pa_nil)) (k_glI (by rfl) B.MOST_TABLES) (nomark _)) (pss_one ps_never) pss_nil)
      (pss_cons (ps_for PassesOwn.never rfl (pi_enumT K (by rfl) B.enumerate (pa_cons (pv 2) pa_nil)) (k_tup K 2 (pgs_cons (pg_name (i := 3) sc_checked_house.nd rfl (.inl rfl)) (pgs_cons (pg_name (i := 4) sc_checked_house.nd rfl (.inl rfl)) pgs_nil)))
      (pss_one (ps_if (pt_not (pt_val (pe_has (h_is_table.mono (by decide)) (hr) (pa_cons (pv 4) pa_nil)))) (pss_one ps_never) pss_nil)))
      (pss_cons (ps_expr (pe_has (h_check_names.mono (by decide)) (hr) (pa_cons (pv 2) pa_nil)))
      (pss_cons (ps_set (i := 5) sc_checked_house.nd rfl (.inl rfl) (pe_callB (k_sum K) (by rfl) B.sum (by decide +kernel) (pa_cons (pe_lc (own := [("table", 4)]) rfl sc_checked_house.nd (k_piT K (pv 2)) (blkOk_by (own := [("table", 4)]) (N := ["house", "goal", "tables", "index", "table", "many"]) (sc := defScope s_checked_house) (by decide +kernel)) (fun _ _ _ _ _ => (pg_name (i := 4) sc_checked_house.nd rfl (.inl rfl))) (fun _ _ _ _ _ => pts_nil) (fun _ _ _ _ _ => (pe_callB (k_len K) (by rfl) B.len (by decide +kernel) (pa_cons (pe_has (h_stakes.mono (by decide)) (hr) (pa_cons (pv 4) pa_nil)) pa_nil)))) pa_nil)))
      (pss_cons (ps_if (pt_cmpR op_gt (pv 5) (k_glI (by rfl) B.MOST_STAKES) (nomark _)) (pss_one ps_never) pss_nil)
      (pss_one (ps_ret (pe_tup (pa_cons (pv 1) (pa_cons (pv 2) pa_nil)))))))))))), ?_⟩
    obtain ⟨g, ts⟩ := a
    have ho : HOk g ts := hs
    have hg := ho.g1
    have hg9 := ho.g9
    have hf := ho.few
    refine tri_seq (tri_asgT (ev_var rfl) (tgt_tup (ds := [.int (g : Nat), dTs ts]) (tgts_cons tgt_name (tgts_cons tgt_name tgts_nil)) rfl) ?_)
    refine tri_seq (tri_drop (ev_call (p := p_check_goal K C) g (evA_cons (ev_var rfl) evA_nil) ⟨hg, by omega⟩) ?_)
    refine tri_seq (tri_ifF (evT_is (evT_test (ev_op (ev_CB (evA_cons (ev_var rfl) evA_nil) caV_lenT) ev_int opV_bool)) (decide_eq_false (by rw [List.length_map]; omega))) (tri_next ?_))
    refine tri_seq (tri_forM (xs := ts.zipIdx) (its_enumTM (evA_cons (ev_var rfl) evA_nil)) (fun _ => [.is (isD K (dH g ts)), .is (isD K (.int (g : Nat))), .is (isD K (dTs ts)), .no, .no, .no]) (by repeat (first | exact Weak.nil | refine Weak.same ?_ | refine Weak.none ?_)) (fun c' M p a1 a2 a3 a4 hp => ?_) ?_)
    · obtain ⟨h1, h2, h3⟩ := zipIdx_at hp
      refine ⟨_, _, tgt_tup (ds := [_, _]) (tgts_cons tgt_name (tgts_cons tgt_name tgts_nil)) rfl, fun D' d1 d2 d3 d4 => ?_⟩
      rw [← a1]
      exact tri_ifF (evT_is (b := !true) (evT_not (evT_B (ev_call (p := p_is_table K C) p.1 (evA_cons (ev_var rfl) evA_nil) (ho.tbs _ (List.mem_of_getElem? h1))))) rfl) (tri_next (nx_weak (by repeat (first | exact Weak.nil | refine Weak.same ?_ | refine Weak.none ?_)) d3))
    · refine tri_seq (tri_drop (ev_call (p := p_check_names K C) ts (evA_cons (ev_var rfl) evA_nil) ⟨Nat.le_trans hf (by decide), ho.nd⟩) ?_)
      refine tri_seq (tri_asg (ev_CB (evA_cons (evO_data (evO_map (xs := ts) (gd := dT) (fun t => .int ((stk t).length : Int)) (its_tup (ev_var (i := 2) rfl)) (by omega) fun i t ht => ⟨_, _, tgt_name, by decide, evT_tt, ev_is (ev_CB (evA_cons (ev_call (p := p_stakes K C) t (evA_cons (ev_var rfl) evA_nil) (ho.tbs _ (List.mem_of_getElem? ht))) evA_nil) caV_lenT) (by rw [List.length_map])⟩)) evA_nil) (caV_sumM (f := fun t : Tb => ((stk t).length : Int)))) ?_)
      have hm := many_le ho.tbs
      refine tri_seq (tri_ifF (evT_is (evT_test (ev_op (ev_var rfl) ev_int opV_bool)) (decide_eq_false (by omega))) (tri_next ?_))
      exact tri_ret (ev_tup (ds := [.int (g : Nat), dTs ts]) (evA_cons (ev_var rfl) (evA_cons (ev_var rfl) evA_nil))) q
theorem sc_open_stakes : FnScope ["tables", "x", "table", "stake"] ["tables", "x"] (defScope s_open_stakes) := ⟨rfl, rfl, rfl, by decide +kernel, rfl, by decide +kernel, by decide +kernel⟩
theorem ok_open_stakes {f : Addr} {fd : FuncData} (F : FunD K "open_stakes" "open_stakes" (defArgs s_open_stakes) (defBody s_open_stakes) (defScope s_open_stakes) [] [] f fd) (hm : mg "open_stakes" = some (.ref f)) (B : Blt mg)  (h_stakes : Has P w K mg base "stakes" ["table"] 1 (spOf T (p_stakes K C))) : Has P w K mg base "open_stakes" ["tables", "x"] 2 (spOf T (p_open_stakes K C)) :=
  has_of F hm sc_open_stakes (fun _ _ _ _ _ _ us hl => match us, hl with | [_, _], _ => rfl) (fun _ => rfl) (by decide) fun cdv A outer s H E hr a c D hT hX hs q hnx => by
    subst hT
    refine ⟨_, (pss_one (ps_ret (pe_lc2 (own := [("table", 2), ("stake", 3)]) (vs1 := [3]) rfl sc_open_stakes.nd (k_piT K (pv 0)) (blkOk_by (own := [("table", 2), ("stake", 3)]) (N := ["tables", "x", "table", "stake"]) (sc := defScope s_open_stakes) (by decide +kernel)) (by decide) (fun _ _ _ _ _ => (pg_name (i := 2) sc_open_stakes.nd rfl (.inl rfl))) (fun _ _ _ _ _ => pts_nil) (fun _ _ _ _ _ => (k_piT K (pe_has (h_stakes.mono (by decide)) (hr) (pa_cons (pv 2) pa_nil)))) (fun _ _ _ _ _ => (pg_name (i := 3) sc_open_stakes.nd rfl (.inl rfl))) (fun _ _ _ _ _ => (pts_one (pt_cmpR op_le (pe_op op_add (pv 3) (pe_ix (k_ixT K) (pv 2) pe_int (fun _ _ => rfl))) (pv 1) (nomark _)))) (fun _ _ _ _ _ => (pe_tup (pa_cons (pv 2) (pa_cons (pv 3) pa_nil))))))), ?_⟩
    obtain ⟨ts, x⟩ := a
    obtain ⟨hl, ht⟩ := hs
    dsimp only at hl ht
    have hlen : (ts.flatMap fun t => ((stk t).filter fun s => decide (((s + t.fee : Nat) : Int) ≤ (x : Int))).map fun s => PyData.tuple [dT t, .int (s : Nat)]).length ≤ 4 * ts.length := by
      clear hl q
      induction ts with
      | nil => simp
      | cons t ts ih =>
        have h1 := (ht t (by simp)).few
        have h2 := ih fun u hu => ht u (by simp [hu])
        have h3 := List.length_filter_le (fun s => decide (((s + t.fee : Nat) : Int) ≤ (x : Int))) (stk t)
        rw [List.flatMap_cons, List.length_append, List.length_map, List.length_cons]
        omega
    refine tri_ret (ev_is (evO_data (evO_lc2 (xs := ts) (gd := dT) (fun t => stk t) (fun _ s => .int (s : Nat)) (fun t s => decide (((s + t.fee : Nat) : Int) ≤ (x : Int))) (fun t s => PyData.tuple [dT t, .int (s : Nat)]) (its_tup (ev_var (i := 0) rfl)) (Nat.le_trans hlen (by omega)) (by decide) fun i t hti => ⟨_, _, tgt_name, by decide, ?_, evT_tt, its_tup (ds := (stk t).map fun s : Nat => .int (s : Int)) (ev_call (p := p_stakes K C) t (evA_cons (ev_var (i := 2) rfl) evA_nil) (ht t (List.mem_of_getElem? hti))), fun c' s hc hs => ⟨_, _, tgt_name, by decide, evT_is (evT_test (ev_op (ev_op (ev_var rfl) (ev_op (ev_var (i := 2) rfl) ev_int (opV_ixT (by decide) rfl)) opV_int) (ev_var (i := 1) rfl) opV_bool)) ?_, fun _ => ev_tup (ds := [dT t, .int (s : Nat)]) (evA_cons (ev_var rfl) (evA_cons (ev_var rfl) evA_nil))⟩⟩)) ?_) q
    · intro m P
      match m with
      | 0 => simp [entryE, wipeE, p_open_stakes]
      | 1 => simp [entryE, wipeE, p_open_stakes]
      | 2 => simp [entryE, wipeE, p_open_stakes]
      | 3 => simp [entryE, wipeE, p_open_stakes]
      | m + 4 => simp [entryE, wipeE, p_open_stakes]
    · congr 1
    · congr 1
      unfold opens
      rw [List.map_flatMap]
      congr 1
      funext t
      rw [List.map_map]
      congr 1
      congr 1
      funext s
      exact decide_eq_decide.mpr (by omega)
theorem sc_out_of : FnScope ["goal", "table", "x", "stake", "gain"] ["goal", "table", "x", "stake", "gain"] (defScope s_out_of) := ⟨rfl, rfl, rfl, by decide +kernel, rfl, by decide +kernel, by decide +kernel⟩
theorem ok_out_of {f : Addr} {fd : FuncData} (F : FunD K "out_of" "out_of" (defArgs s_out_of) (defBody s_out_of) (defScope s_out_of) [] [] f fd) (hm : mg "out_of" = some (.ref f)) (B : Blt mg)  (h_stakes : Has P w K mg base "stakes" ["table"] 1 (spOf T (p_stakes K C))) : Has P w K mg base "out_of" ["goal", "table", "x", "stake", "gain"] 2 (spOf T (p_out_of K C)) :=
  has_of F hm sc_out_of (fun _ _ _ _ _ _ us hl => match us, hl with | [_, _, _, _, _], _ => rfl) (fun _ => rfl) (by decide) fun cdv A outer s H E hr a c D hT hX hs q hnx => by
    subst hT
    refine ⟨_, (pss_cons (ps_if (PW.pt (pw_or (pt_cmpR (k_notIn K) (pv 3) (pe_has (h_stakes.mono (by decide)) (hr) (pa_cons (pv 1) pa_nil)) (by rfl)) (pw_or1 (pt_cmpR op_gt (pe_op op_add (pv 3) (pe_ix (k_ixT K) (pv 1) pe_int (fun _ _ => rfl))) (pv 2) (nomark _))))) (pss_one ps_never) pss_nil)
      (pss_one (ps_ret (pe_callB (call_min2 rfl) (by rfl) B.min (by decide +kernel) (pa_cons (pv 0) (pa_cons (pe_op op_add (pe_op op_sub (pv 2) (pe_ix (k_ixT K) (pv 1) pe_int (fun _ _ => rfl))) (pe_op op_mulW (pv 4) (pv 3))) pa_nil)))))), ?_⟩
    obtain ⟨g, t, x, s, gain⟩ := a
    obtain ⟨ht, hin, hle, hx, hg1, hg2⟩ := hs
    dsimp only at ht hin hle hx hg1 hg2
    have hs39 := stk_le ht hin
    refine tri_seq (tri_ifF (evT_is (evT_or (evT_test (ev_op (ev_var (i := 3) rfl) (ev_call (p := p_stakes K C) t (evA_cons (ev_var (i := 1) rfl) evA_nil) ht) opV_notInN)) (fun _ => evT_test (ev_op (ev_op (ev_var rfl) (ev_op (ev_var (i := 1) rfl) ev_int (opV_ixT (by decide) rfl)) opV_int) (ev_var (i := 2) rfl) opV_bool))) ?_) (tri_next ?_))
    · have h1 : ((s : Nat) : Int) ∈ (stk t).map fun n : Nat => (n : Int) := List.mem_map.mpr ⟨s, hin, rfl⟩
      rw [decide_eq_true h1]
      exact decide_eq_false (show ¬ ((s : Int) + (t.fee : Int) > (x : Int)) by omega)
    · exact tri_ret (ev_CB (evA_cons (ev_var rfl) (evA_cons (ev_op (ev_op (ev_var (i := 2) rfl) (ev_op (ev_var (i := 1) rfl) ev_int (opV_ixT (by decide) rfl)) opV_int) (ev_op (ev_var (i := 4) rfl) (ev_var (i := 3) rfl) (opV_mulW (mulW_of 16 16 (show gain.natAbs < 2 ^ 16 by omega) (show (s : Int).natAbs < 2 ^ 16 by omega)))) opV_int) evA_nil)) caV_min2) q
theorem sc_goal_pays : FnScope ["goal"] ["goal"] (defScope s_goal_pays) := ⟨rfl, rfl, rfl, by decide +kernel, rfl, by decide +kernel, by decide +kernel⟩
theorem ok_goal_pays {f : Addr} {fd : FuncData} (F : FunD K "goal_pays" "goal_pays" (defArgs s_goal_pays) (defBody s_goal_pays) (defScope s_goal_pays) [] [] f fd) (hm : mg "goal_pays" = some (.ref f)) (B : Blt mg)  (h_check_goal : Has P w K mg base "check_goal" ["goal"] 1 (spOf T (p_check_goal K C))) : Has P w K mg base "goal_pays" ["goal"] 2 (spOf T (p_goal_pays K C)) :=
  has_of F hm sc_goal_pays (fun _ _ _ _ _ _ us hl => match us, hl with | [_], _ => rfl) (fun _ => rfl) (by decide) fun cdv A outer s H E hr a c D hT hX hs q hnx => by
    subst hT
    refine ⟨_, (pss_cons (ps_expr (pe_has (h_check_goal.mono (by decide)) (hr) (pa_cons (pv 0) pa_nil)))
      (pss_one (ps_ret (pe_op (k_catT K) (pe_op (op_repA K) (pe_tup (pa_cons (pe_tup (pa_cons pe_int (pa_cons pe_int pa_nil))) pa_nil)) (pv 0)) (pe_tup (pa_cons (pe_tup (pa_cons pe_int (pa_cons pe_int pa_nil))) pa_nil)))))), ?_⟩
    change Nat at a
    obtain ⟨h1, h2⟩ := hs
    refine tri_seq (tri_drop (ev_call (p := p_check_goal K C) a (evA_cons (ev_var rfl) evA_nil) ⟨h1, h2⟩) ?_)
    refine tri_ret (ev_is (ev_op (ev_op (ev_tup (ds := [dR 0]) (evA_cons (ev_is (ev_tup (ds := [.int 0, .int 1]) (evA_cons ev_int (evA_cons ev_int evA_nil))) rfl) evA_nil)) (ev_var rfl) (opV_rep (by simp) (by omega) (by omega) (by simp))) (ev_tup (ds := [dR 1]) (evA_cons (ev_is (ev_tup (ds := [.int 1, .int 1]) (evA_cons ev_int (evA_cons ev_int evA_nil))) rfl) evA_nil)) (opV_catT ?_ (by simp) ?_)) ?_) q
    · rw [Int.toNat_natCast, rep_flat]
      intro z
      have := congrArg List.length z
      rw [List.length_replicate] at this
      simp at this; omega
    · rw [Int.toNat_natCast, rep_flat, List.length_replicate]
      simp; omega
    · rw [Int.toNat_natCast, rep_flat]
      unfold dRs goalPays
      rw [List.map_append, List.map_replicate]; rfl
end
end SD
end
section
namespace SM
def insK (k : Int) : List Int → List Int
  | [] => [k]
  | a :: r => if k < a then k :: a :: r else if k = a then a :: r else a :: insK k r
def srtK (ks : List Int) : List Int := ks.foldr insK []
theorem mem_insK {k x : Int} : ∀ {l : List Int}, x ∈ insK k l ↔ x = k ∨ x ∈ l
  | [] => by simp [insK]
  | a :: r => by
    unfold insK
    split
    · simp
    · split
      · rename_i h; subst h; simp
      · rw [List.mem_cons, mem_insK (l := r), List.mem_cons]
        constructor
        · rintro (h | h | h)
          · exact .inr (.inl h)
          · exact .inl h
          · exact .inr (.inr h)
        · rintro (h | h | h)
          · exact .inr (.inl h)
          · exact .inl h
          · exact .inr (.inr h)
theorem insK_asc {k : Int} : ∀ {l : List Int}, l.Pairwise (· < ·) → (insK k l).Pairwise (· < ·)
  | [], _ => by simp [insK]
  | a :: r, h => by
    obtain ⟨h1, h2⟩ := List.pairwise_cons.mp h
    unfold insK
    split
    · rename_i hk
      refine List.pairwise_cons.mpr ⟨fun x hx => ?_, h⟩
      rcases List.mem_cons.mp hx with e | e
      · omega
      · have := h1 x e; omega
    · split
      · exact h
      · rename_i hk hk2
        refine List.pairwise_cons.mpr ⟨fun x hx => ?_, insK_asc h2⟩
        rcases mem_insK.mp hx with e | e
        · omega
        · exact h1 x e
theorem mem_srtK {x : Int} : ∀ {ks : List Int}, x ∈ srtK ks ↔ x ∈ ks
  | [] => by simp [srtK]
  | k :: ks => by
    show x ∈ insK k (srtK ks) ↔ _
    rw [mem_insK, mem_srtK (ks := ks), List.mem_cons]
theorem srtK_asc : ∀ ks : List Int, (srtK ks).Pairwise (· < ·)
  | [] => List.Pairwise.nil
  | k :: ks => insK_asc (srtK_asc ks)
theorem insK_len {k : Int} : ∀ l : List Int, (insK k l).length ≤ l.length + 1
  | [] => by simp [insK]
  | a :: r => by
    unfold insK
    split
    · simp
    · split
      · simp
      · rw [List.length_cons, List.length_cons]
        have := insK_len (k := k) r
        omega
theorem srtK_len : ∀ ks : List Int, (srtK ks).length ≤ ks.length
  | [] => by simp [srtK]
  | k :: ks => by
    show (insK k (srtK ks)).length ≤ _
    have h1 := insK_len (k := k) (srtK ks)
    have h2 := srtK_len ks
    rw [List.length_cons]; omega
theorem srtK_nodup (ks : List Int) : (srtK ks).Nodup := (srtK_asc ks).imp fun h => Int.ne_of_lt h
def wK : List (Int × Nat) → Int → Nat
  | [], _ => 0
  | p :: l, k => (if p.1 = k then p.2 else 0) + wK l k
theorem wK_pos : ∀ {l : List (Int × Nat)} {k : Int}, (∀ p ∈ l, 0 < p.2) → k ∈ l.map (·.1) → 0 < wK l k
  | p :: l, k, h, hk => by
    show 0 < (if p.1 = k then p.2 else 0) + wK l k
    by_cases e : p.1 = k
    · rw [if_pos e]; have := h p (by simp); omega
    · have : k ∈ l.map (·.1) := by
        rcases List.mem_cons.mp hk with z | z
        · exact absurd z.symm e
        · exact z
      have := wK_pos (fun r hr => h r (List.mem_cons_of_mem _ hr)) this
      omega
def gather (l : List (Int × Nat)) : List (Int × Nat) := (srtK (l.map (·.1))).map fun k => (k, wK l k)
def sumK (f : Int → Rat) : List (Int × Nat) → Rat
  | [] => 0
  | p :: l => (p.2 : Rat) * f p.1 + sumK f l
theorem sum_pt (f : Int → Rat) (k : Int) (w : Nat) : ∀ {S : List Int}, S.Nodup → k ∈ S → sumK f (S.map fun x => (x, if k = x then w else 0)) = (w : Rat) * f k
  | a :: S, hn, hk => by
    obtain ⟨h1, h2⟩ := List.nodup_cons.mp hn
    show (((if k = a then w else 0 : Nat) : Nat) : Rat) * f a + sumK f (S.map fun x => (x, if k = x then w else 0)) = _
    by_cases e : k = a
    · subst e
      rw [if_pos rfl]
      have z : ∀ (R : List Int), k ∉ R → sumK f (R.map fun x => (x, if k = x then w else 0)) = 0 := fun R => by
        induction R with
        | nil => intro _; rfl
        | cons r R ih =>
          intro h
          show (((if k = r then w else 0 : Nat) : Nat) : Rat) * f r + _ = 0
          rw [if_neg (fun z => h (by rw [z]; exact List.mem_cons_self)), ih fun z => h (List.mem_cons_of_mem _ z)]
          grind
      rw [z S h1]; grind
    · rw [if_neg e]
      have : k ∈ S := by
        rcases List.mem_cons.mp hk with z | z
        · exact absurd z e
        · exact z
      rw [sum_pt f k w h2 this]; grind
theorem sumK_add (f : Int → Rat) (u v : Int → Nat) : ∀ S : List Int, sumK f (S.map fun x => (x, u x + v x)) = sumK f (S.map fun x => (x, u x)) + sumK f (S.map fun x => (x, v x))
  | [] => by show (0 : Rat) = 0 + 0; grind
  | a :: S => by
    show ((u a + v a : Nat) : Rat) * f a + sumK f (S.map fun x => (x, u x + v x)) = ((u a : Rat) * f a + sumK f (S.map fun x => (x, u x))) + ((v a : Rat) * f a + sumK f (S.map fun x => (x, v x)))
    rw [sumK_add f u v S]
    have : ((u a + v a : Nat) : Rat) = (u a : Rat) + (v a : Rat) := Rat.natCast_add _ _
    rw [this]; grind
theorem sumK_over (f : Int → Rat) {S : List Int} (hS : S.Nodup) : ∀ l : List (Int × Nat), (∀ p ∈ l, p.1 ∈ S) → sumK f (S.map fun k => (k, wK l k)) = sumK f l
  | [], _ => by
    show _ = (0 : Rat)
    clear hS
    induction S with
    | nil => rfl
    | cons a S ih =>
      show ((0 : Nat) : Rat) * f a + _ = 0
      rw [ih (by simp)]
      have : ((0 : Nat) : Rat) = 0 := rfl
      rw [this]; grind
  | p :: l, h => by
    have h1 := sumK_over f hS l fun r hr => h r (List.mem_cons_of_mem _ hr)
    have h2 := sumK_add f (fun k => if p.1 = k then p.2 else 0) (fun k => wK l k) S
    show sumK f (S.map fun k => (k, (if p.1 = k then p.2 else 0) + wK l k)) = (p.2 : Rat) * f p.1 + sumK f l
    rw [h2, h1, sum_pt f p.1 p.2 hS (h p List.mem_cons_self)]
theorem sumK_gather (f : Int → Rat) (l : List (Int × Nat)) : sumK f (gather l) = sumK f l :=
  sumK_over f (srtK_nodup _) l fun p hp => mem_srtK.mpr (List.mem_map.mpr ⟨p, hp, rfl⟩)
def toLot (l : List (Int × Nat)) : Lot := (gather l).map fun p => (p.1.toNat, p.2)
theorem wsum_toLot (u : Nat → Rat) (l : List (Int × Nat)) : wsum u (toLot l) = sumK (fun k => u k.toNat) l := by
  rw [← sumK_gather]
  unfold toLot
  generalize gather l = r
  induction r with
  | nil => rfl
  | cons p r ih =>
    show (p.2 : Rat) * u p.1.toNat + wsum u (r.map fun p => (p.1.toNat, p.2)) = (p.2 : Rat) * u p.1.toNat + _
    rw [ih]
def whK : List (Int × Nat) → Nat
  | [] => 0
  | p :: l => p.2 + whK l
theorem sumK_one : ∀ l : List (Int × Nat), sumK (fun _ => 1) l = (whK l : Rat)
  | [] => rfl
  | p :: l => by
    show (p.2 : Rat) * 1 + sumK (fun _ => 1) l = ((p.2 + whK l : Nat) : Rat)
    rw [sumK_one l, Rat.natCast_add]; grind
theorem wh_toLot (l : List (Int × Nat)) : wh (toLot l) = whK l := by
  have h := wsum_toLot (fun _ => 1) l
  rw [wsum_one, sumK_one] at h
  exact Rat.natCast_inj.mp h
def pursed (g : Nat) (t : Tb) (x s : Nat) (os : List (Int × Nat)) : List (Int × Nat) := os.map fun p => (purse g t x s p.1, p.2)
def stakeLot (g : Nat) (t : Tb) (x s : Nat) : Lot := toLot (pursed g t x s t.outs)
theorem purse_rng {g : Nat} {t : Tb} {x s : Nat} {gain : Int} (h : s + t.fee ≤ x) (hg : -1 ≤ gain) : 0 ≤ purse g t x s gain ∧ purse g t x s gain ≤ (g : Int) := by
  unfold purse
  have h1 : -(s : Int) ≤ gain * (s : Int) := by
    have := Int.mul_le_mul_of_nonneg_right hg (show (0 : Int) ≤ (s : Int) by omega)
    omega
  omega
theorem whK_map (f : Int → Int) : ∀ l : List (Int × Nat), whK (l.map fun p => (f p.1, p.2)) = whK l
  | [] => rfl
  | p :: l => by
    show p.2 + whK (l.map fun p => (f p.1, p.2)) = p.2 + whK l
    rw [whK_map f l]
theorem whK_le {n : Nat} : ∀ {l : List (Int × Nat)}, (∀ p ∈ l, p.2 ≤ n) → whK l ≤ l.length * n
  | [], _ => by simp [whK]
  | p :: l, h => by
    have h1 := h p (by simp)
    have h2 := whK_le (l := l) fun r hr => h r (by simp [hr])
    show p.2 + whK l ≤ (l.length + 1) * n
    rw [Nat.add_mul]; omega
theorem stakeLot_ok {g : Nat} {t : Tb} (ht : TbOk t) {x s : Nat} (h : s + t.fee ≤ x) : LotOk (g + 1) (stakeLot g t x s) := by
  have ho := ht.outs
  have key : ∀ k ∈ srtK ((pursed g t x s t.outs).map (·.1)), 0 ≤ k ∧ k ≤ (g : Int) ∧ k ∈ (pursed g t x s t.outs).map (·.1) := fun k hk => by
    have hk' := mem_srtK.mp hk
    obtain ⟨p, hp, rfl⟩ := List.mem_map.mp hk'
    unfold pursed at hp
    obtain ⟨o, hoo, rfl⟩ := List.mem_map.mp hp
    have := purse_rng (g := g) h (ho.gain o hoo).1
    exact ⟨this.1, this.2, hk'⟩
  have elem : ∀ p ∈ stakeLot g t x s, ∃ k ∈ srtK ((pursed g t x s t.outs).map (·.1)), p = (k.toNat, wK (pursed g t x s t.outs) k) := fun p hp => by
    unfold stakeLot toLot gather at hp
    rw [List.map_map] at hp
    obtain ⟨k, hk, rfl⟩ := List.mem_map.mp hp
    exact ⟨k, hk, rfl⟩
  refine ⟨?_, ?_, ?_, fun p hp => ?_, fun p hp => ?_, ?_⟩
  · obtain ⟨o, hoo⟩ := List.exists_mem_of_ne_nil _ ho.ne
    intro z
    have : (purse g t x s o.1) ∈ srtK ((pursed g t x s t.outs).map (·.1)) := mem_srtK.mpr (List.mem_map.mpr ⟨(purse g t x s o.1, o.2), List.mem_map.mpr ⟨o, hoo, rfl⟩, rfl⟩)
    unfold stakeLot toLot gather at z
    rw [List.map_map] at z
    have z2 := List.map_eq_nil_iff.mp z
    rw [z2] at this
    cases this
  · unfold stakeLot toLot gather
    rw [List.length_map, List.length_map]
    have := srtK_len ((pursed g t x s t.outs).map (·.1))
    unfold pursed at this ⊢
    rw [List.length_map, List.length_map] at this
    exact Nat.le_trans this ho.len
  · unfold stakeLot toLot gather
    rw [List.map_map, List.map_map]
    rw [List.pairwise_map]
    refine (List.Pairwise.and_mem.mp (srtK_asc _)).imp fun {a b} hab => ?_
    obtain ⟨ha, hb, hlt⟩ := hab
    have := (key a ha).1
    have := (key b hb).1
    show a.toNat < b.toNat
    omega
  · obtain ⟨k, hk, rfl⟩ := elem p hp
    have := key k hk
    show k.toNat < g + 1
    omega
  · obtain ⟨k, hk, rfl⟩ := elem p hp
    refine wK_pos (fun r hr => ?_) (key k hk).2.2
    unfold pursed at hr
    obtain ⟨o, hoo, rfl⟩ := List.mem_map.mp hr
    have := (ho.wt o hoo).1
    show 0 < o.2
    omega
  · unfold stakeLot
    rw [wh_toLot]
    unfold pursed
    rw [whK_map]
    have h1 := whK_le (n := 9) fun p hp => (ho.wt p hp).2
    have h2 := ho.len
    omega
def houseB (g : Nat) (ts : List Tb) : Bd := ⟨List.replicate g 0 ++ [1], (List.range (g + 1)).map fun x => (opens ts x).map fun p => stakeLot g p.1 x p.2⟩
theorem opens_mem {ts : List Tb} {x : Nat} {p : Tb × Nat} (h : p ∈ opens ts x) : p.1 ∈ ts ∧ p.2 ∈ stk p.1 ∧ p.2 + p.1.fee ≤ x := by
  unfold opens at h
  obtain ⟨t, ht, hp⟩ := List.mem_flatMap.mp h
  obtain ⟨s, hs, rfl⟩ := List.mem_map.mp hp
  obtain ⟨h1, h2⟩ := List.mem_filter.mp hs
  exact ⟨ht, h1, by simpa using h2⟩
theorem opens_len {ts : List Tb} (h : ∀ t ∈ ts, TbOk t) (x : Nat) : (opens ts x).length ≤ 4 * ts.length := by
  induction ts with
  | nil => simp [opens]
  | cons t ts ih =>
    have h1 := (h t (by simp)).few
    have h2 := ih fun u hu => h u (by simp [hu])
    have h3 := List.length_filter_le (fun s => decide (s + t.fee ≤ x)) (stk t)
    unfold opens at h2 ⊢
    rw [List.flatMap_cons, List.length_append, List.length_map, List.length_cons]
    omega
theorem house_size (g : Nat) (ts : List Tb) : (houseB g ts).size = g + 1 := by unfold Bd.size houseB; simp
theorem house_row {g : Nat} (ts : List Tb) {x : Nat} (hx : x < g + 1) : (houseB g ts).row x = (opens ts x).map fun p => stakeLot g p.1 x p.2 := by
  unfold Bd.row houseB
  rw [List.getD_eq_getElem?_getD, List.getElem?_map, List.getElem?_range hx]; rfl
theorem house_gb {g : Nat} {ts : List Tb} (h : HOk g ts) : GB (houseB g ts) := by
  have hs := house_size g ts
  have g9 := h.g9
  have hf := h.few
  refine ⟨by unfold houseB; simp, by rw [hs]; omega, by rw [hs]; omega, fun q hq => ?_, fun r hr => ?_, fun r hr L hL => ?_⟩
  · unfold houseB at hq
    rcases List.mem_append.mp hq with z | z
    · exact .inl (List.eq_of_mem_replicate z)
    · exact .inr (by simpa using z)
  · unfold houseB at hr
    obtain ⟨x, _, rfl⟩ := List.mem_map.mp hr
    rw [List.length_map]
    have := opens_len h.tbs x
    omega
  · unfold houseB at hr
    obtain ⟨x, _, rfl⟩ := List.mem_map.mp hr
    obtain ⟨p, hp, rfl⟩ := List.mem_map.mp hL
    obtain ⟨a1, a2, a3⟩ := opens_mem hp
    rw [hs]
    exact stakeLot_ok (h.tbs _ a1) a3
def mulT (m : Nat) (t : Tb) : Tb := ⟨t.name, t.outs, t.low * m, t.high * m, t.step * m, t.fee * m⟩
theorem stk_mul {m : Nat} (hm : 1 ≤ m) (t : Tb) (hst : 1 ≤ t.step) : stk (mulT m t) = (stk t).map (· * m) := by
  unfold stk mulT
  dsimp only
  have e : (t.high * m - t.low * m) / (t.step * m) = (t.high - t.low) / t.step := by
    rw [← Nat.sub_mul]
    exact Nat.mul_div_mul_right _ _ (by omega)
  rw [e, List.map_map]
  apply List.map_congr_left
  intro k _
  show t.low * m + k * (t.step * m) = (t.low + k * t.step) * m
  rw [Nat.add_mul, Nat.mul_assoc]
theorem purse_mul {g m : Nat} (hm : 1 ≤ m) {t : Tb} {x s : Nat} {gain : Int} (h : s * m + t.fee * m ≤ x) (hg : -1 ≤ gain) : (purse (g * m) (mulT m t) x (s * m) gain).toNat / m = (purse g t (x / m) s gain).toNat := by
  have hle : s + t.fee ≤ x / m := by
    rw [Nat.le_div_iff_mul_le (by omega), Nat.add_mul]; exact h
  have h1 := purse_rng (g := g * m) (t := mulT m t) (x := x) (s := s * m) (gain := gain) h hg
  have h2 := purse_rng (g := g) (t := t) (x := x / m) (s := s) (gain := gain) hle hg
  have hx := Nat.div_add_mod x m
  have hr := Nat.mod_lt x (show 0 < m by omega)
  have key : purse (g * m) (mulT m t) x (s * m) gain / (m : Int) = purse g t (x / m) s gain := by
    unfold purse mulT
    dsimp only
    have e1 : ((x : Int) - ((t.fee * m : Nat) : Int) + gain * ((s * m : Nat) : Int)) = (((x / m : Nat) : Int) - (t.fee : Int) + gain * (s : Int)) * (m : Int) + ((x % m : Nat) : Int) := by
      have : (x : Int) = (m : Int) * ((x / m : Nat) : Int) + ((x % m : Nat) : Int) := by
        have := congrArg (fun n : Nat => (n : Int)) hx
        simp only [Int.natCast_add, Int.natCast_mul] at this
        exact this.symm
      rw [Int.natCast_mul, Int.natCast_mul]
      conv => lhs; rw [this]
      grind
    rw [e1]
    have hm' : (0 : Int) < (m : Int) := by omega
    have hr' : ((x % m : Nat) : Int) < (m : Int) := by omega
    have hr0 : (0 : Int) ≤ ((x % m : Nat) : Int) := by omega
    have ed : ((((x / m : Nat) : Int) - (t.fee : Int) + gain * (s : Int)) * (m : Int) + ((x % m : Nat) : Int)) / (m : Int) = (((x / m : Nat) : Int) - (t.fee : Int) + gain * (s : Int)) := by
      rw [Int.add_comm, Int.add_mul_ediv_right _ _ (by omega), Int.ediv_eq_zero_of_lt hr0 hr']; omega
    generalize (((x / m : Nat) : Int) - (t.fee : Int) + gain * (s : Int)) = z at ed ⊢
    have eg : ((g * m : Nat) : Int) / (m : Int) = (g : Int) := by rw [Int.natCast_mul]; exact Int.mul_ediv_cancel _ (by omega)
    by_cases hz : ((g * m : Nat) : Int) ≤ z * (m : Int) + ((x % m : Nat) : Int)
    · rw [Int.min_eq_left hz, eg]
      have := Int.ediv_le_ediv hm' hz
      rw [eg, ed] at this
      rw [Int.min_eq_left this]
    · have hz' : z * (m : Int) + ((x % m : Nat) : Int) ≤ ((g * m : Nat) : Int) := by omega
      rw [Int.min_eq_right hz', ed]
      have := Int.ediv_le_ediv hm' hz'
      rw [eg, ed] at this
      rw [Int.min_eq_right this]
  have : (((purse (g * m) (mulT m t) x (s * m) gain).toNat / m : Nat) : Int) = ((purse g t (x / m) s gain).toNat : Int) := by
    rw [Int.natCast_ediv, Int.toNat_of_nonneg h1.1, Int.toNat_of_nonneg h2.1, key]
  omega
end SM
end
section
namespace SM
theorem sumK_map (f : Int → Rat) (k : Int → Int) : ∀ l : List (Int × Nat), sumK f (l.map fun p => (k p.1, p.2)) = sumK (fun x => f (k x)) l
  | [] => rfl
  | p :: l => by
    show (p.2 : Rat) * f (k p.1) + sumK f (l.map fun p => (k p.1, p.2)) = (p.2 : Rat) * f (k p.1) + sumK (fun x => f (k x)) l
    rw [sumK_map f k l]
theorem sumK_congr {f h : Int → Rat} : ∀ {l : List (Int × Nat)}, (∀ p ∈ l, f p.1 = h p.1) → sumK f l = sumK h l
  | [], _ => rfl
  | p :: l, e => by
    show (p.2 : Rat) * f p.1 + sumK f l = (p.2 : Rat) * h p.1 + sumK h l
    rw [e p (by simp), sumK_congr fun r hr => e r (by simp [hr])]
theorem opens_mul {m : Nat} (hm : 1 ≤ m) {ts : List Tb} (h : ∀ t ∈ ts, TbOk t) (x : Nat) : opens (ts.map (mulT m)) x = (opens ts (x / m)).map fun p => (mulT m p.1, p.2 * m) := by
  induction ts with
  | nil => rfl
  | cons t ts ih =>
    have e := ih fun u hu => h u (by simp [hu])
    unfold opens at e ⊢
    rw [List.map_cons, List.flatMap_cons, List.flatMap_cons, List.map_append, e]
    congr 1
    rw [stk_mul hm t (h t (by simp)).step, List.filter_map, List.map_map, List.map_map]
    congr 1
    apply List.filter_congr
    intro s _
    show decide (s * m + t.fee * m ≤ x) = decide (s + t.fee ≤ x / m)
    apply decide_eq_decide.mpr
    rw [Nat.le_div_iff_mul_le (by omega), Nat.add_mul]
theorem house_push {g m : Nat} (hm : 1 ≤ m) {t : Tb} (ht : TbOk t) {x s : Nat} (h : s + t.fee ≤ x / m) : PushTo (fun y => y / m) (stakeLot (g * m) (mulT m t) x (s * m)) (stakeLot g t (x / m) s) := by
  have hb : s * m + t.fee * m ≤ x := by
    rw [← Nat.add_mul]
    exact (Nat.le_div_iff_mul_le (by omega)).mp h
  refine ⟨fun u => ?_, ?_⟩
  · unfold stakeLot
    rw [wsum_toLot, wsum_toLot]
    unfold pursed
    rw [sumK_map, sumK_map]
    refine sumK_congr fun p hp => ?_
    have := purse_mul (g := g) hm hb (ht.outs.gain p hp).1
    show u ((purse (g * m) (mulT m t) x (s * m) p.1).toNat / m) = u ((purse g t (x / m) s p.1).toNat)
    rw [this]
  · unfold stakeLot
    rw [wh_toLot, wh_toLot]
    unfold pursed
    rw [whK_map, whK_map]; rfl
theorem pay_at (g : Nat) (ts : List Tb) {x : Nat} (hx : x < g + 1) : (houseB g ts).pay x = if x < g then 0 else 1 := by
  unfold Bd.pay houseB
  rw [List.getD_eq_getElem?_getD]
  by_cases h : x < g
  · rw [if_pos h, List.getElem?_append_left (by simpa using h), List.getElem?_replicate, if_pos h]; rfl
  · rw [if_neg h, List.getElem?_append_right (by simp; omega)]
    have : x - (List.replicate g (0 : Rat)).length = 0 := by simp; omega
    rw [this]; rfl
theorem house_map {g m : Nat} {ts : List Tb} (h : HOk g ts) (hm : 1 ≤ m) : MapTo (houseB (g * m) (ts.map (mulT m))) (houseB g ts) (fun y => y / m) := by
  have s1 := house_size (g * m) (ts.map (mulT m))
  have s2 := house_size g ts
  have hto : ∀ x, x < g * m + 1 → x / m < g + 1 := fun x hx => by
    have h1 : x / m ≤ (g * m) / m := Nat.div_le_div_right (by omega)
    rw [Nat.mul_div_cancel _ (by omega)] at h1
    omega
  refine ⟨fun x hx => ?_, fun p hp => ⟨p * m, ?_, ?_⟩, fun x hx => ?_, fun x hx => ?_, fun x hx k L M hL hM => ?_⟩
  · rw [s1] at hx
    rw [s2]; exact hto x hx
  · rw [s2] at hp
    rw [s1]
    have : p * m ≤ g * m := Nat.mul_le_mul_right _ (by omega)
    omega
  · exact Nat.mul_div_cancel _ (by omega)
  · rw [s1] at hx
    rw [pay_at _ _ hx, pay_at _ _ (hto x hx)]
    by_cases hl : x < g * m
    · rw [if_pos hl, if_pos ((Nat.div_lt_iff_lt_mul (by omega)).mpr hl)]
    · have : x = g * m := by omega
      subst this
      rw [if_neg (by omega), Nat.mul_div_cancel _ (by omega), if_neg (by omega)]
  · rw [s1] at hx
    rw [house_row _ hx, house_row _ (hto x hx), List.length_map, List.length_map, opens_mul hm h.tbs, List.length_map]
  · rw [s1] at hx
    rw [house_row _ hx, opens_mul hm h.tbs, List.map_map, List.getElem?_map] at hL
    rw [house_row _ (hto x hx), List.getElem?_map] at hM
    cases hp : (opens ts (x / m))[k]? with
    | none => rw [hp] at hL; cases hL
    | some p =>
      rw [hp] at hL hM
      cases hL
      cases hM
      obtain ⟨a1, a2, a3⟩ := opens_mem (List.mem_of_getElem? hp)
      exact house_push hm (h.tbs _ a1) a3
theorem house_worth {g m : Nat} {ts : List Tb} (h : HOk g ts) (h' : HOk (g * m) (ts.map (mulT m))) (hm : 1 ≤ m) {F V : Nat → Rat} (hF : IsWorth (houseB (g * m) (ts.map (mulT m))) F) (hV : IsWorth (houseB g ts) V) {x : Nat} (hx : x < g * m + 1) : F x = V (x / m) :=
  (house_map h hm).worth (house_gb h') (house_gb h) hF hV (by rw [house_size]; exact hx)
end SM
end
section
set_option maxHeartbeats 4000000
namespace SD
open PySem PySem.Spec PyProof.Rows L2 SM
theorem zGet_none {kvs : List (Int × Int)} {k : Int} : zGet kvs k = none ↔ k ∉ kvs.map (·.1) := by
  unfold zGet
  rw [Option.map_eq_none_iff, List.find?_eq_none]
  constructor
  · intro h hm
    obtain ⟨p, hp, rfl⟩ := List.mem_map.mp hm
    exact absurd (decide_eq_true rfl) (h p hp)
  · intro h p hp hd
    exact h (List.mem_map.mpr ⟨p, hp, of_decide_eq_true hd⟩)
theorem any_key {kvs : List (Int × Int)} {k : Int} : (kvs.any fun p => decide (p.1 = k)) = true ↔ k ∈ kvs.map (·.1) := by
  rw [List.any_eq_true]
  simp only [decide_eq_true_eq, List.mem_map]
theorem zPut_keys (kvs : List (Int × Int)) (k v : Int) : (zPut kvs k v).map (·.1) = if k ∈ kvs.map (·.1) then kvs.map (·.1) else kvs.map (·.1) ++ [k] := by
  unfold zPut
  by_cases h : k ∈ kvs.map (·.1)
  · rw [if_pos (any_key.mpr h), if_pos h, List.map_map]
    apply List.map_congr_left
    intro p _
    by_cases e : p.1 = k <;> simp [e]
  · rw [if_neg (fun z => h (any_key.mp z)), if_neg h, List.map_append]; rfl
theorem zGet_cons (p : Int × Int) (kvs : List (Int × Int)) (k : Int) : zGet (p :: kvs) k = if p.1 = k then some p.2 else zGet kvs k := by
  unfold zGet
  by_cases e : p.1 = k
  · rw [List.find?_cons_of_pos (by simpa using e), if_pos e]; rfl
  · rw [List.find?_cons_of_neg (by simpa using e), if_neg e]
theorem zGet_upd (k v k' : Int) : ∀ kvs : List (Int × Int), zGet (kvs.map fun p => if p.1 = k then (p.1, v) else p) k' = if k' = k then (if k ∈ kvs.map (·.1) then some v else none) else zGet kvs k'
  | [] => by simp [zGet]
  | p :: kvs => by
    have ih := zGet_upd k v k' kvs
    rw [List.map_cons, zGet_cons, zGet_cons, ih]
    have hm : k ∈ (p :: kvs).map (·.1) ↔ k = p.1 ∨ k ∈ kvs.map (·.1) := by rw [List.map_cons, List.mem_cons]
    by_cases e : p.1 = k
    · rw [if_pos e]
      by_cases e2 : k' = k
      · rw [if_pos (show p.1 = k' by omega), if_pos e2, if_pos (hm.mpr (.inl e.symm))]
      · rw [if_neg (show ¬ p.1 = k' by omega), if_neg e2, if_neg e2, if_neg (show ¬ p.1 = k' by omega)]
    · rw [if_neg e]
      by_cases e2 : p.1 = k'
      · rw [if_pos e2, if_pos e2, if_neg (show ¬ k' = k by omega)]
      · rw [if_neg e2, if_neg e2]
        by_cases e3 : k' = k
        · rw [if_pos e3, if_pos e3]
          by_cases h : k ∈ kvs.map (·.1)
          · rw [if_pos h, if_pos (hm.mpr (.inr h))]
          · rw [if_neg h, if_neg (fun z => (hm.mp z).elim (fun y => e y.symm) h)]
        · rw [if_neg e3, if_neg e3]
theorem zGet_put (kvs : List (Int × Int)) (k v k' : Int) : zGet (zPut kvs k v) k' = if k' = k then some v else zGet kvs k' := by
  unfold zPut
  by_cases h : k ∈ kvs.map (·.1)
  · rw [if_pos (any_key.mpr h), zGet_upd, if_pos h]
  · rw [if_neg (fun z => h (any_key.mp z))]
    unfold zGet
    rw [List.find?_append]
    by_cases e : k' = k
    · subst e
      have h2 : kvs.find? (fun p => decide (p.1 = k')) = none := by
        have := (zGet_none (kvs := kvs) (k := k')).mpr h
        unfold zGet at this
        exact Option.map_eq_none_iff.mp this
      rw [h2]; simp
    · rw [if_neg e]
      have : ([(k, v)] : List (Int × Int)).find? (fun p => decide (p.1 = k')) = none := by
        have e2 : ¬ k = k' := fun z => e z.symm
        simp [e2]
      rw [this]; simp
def dictF (l : List (Int × Nat)) : List (Int × Int) := l.foldl (fun kvs p => zPut kvs p.1 ((zGet kvs p.1).getD 0 + (p.2 : Int))) []
theorem dictF_snoc (l : List (Int × Nat)) (p : Int × Nat) : dictF (l ++ [p]) = zPut (dictF l) p.1 ((zGet (dictF l) p.1).getD 0 + (p.2 : Int)) := by unfold dictF; rw [List.foldl_append]; rfl
theorem wK_app : ∀ (l r : List (Int × Nat)) (k : Int), wK (l ++ r) k = wK l k + wK r k
  | [], r, k => by show wK r k = 0 + wK r k; omega
  | p :: l, r, k => by
    show _ + wK (l ++ r) k = (_ + wK l k) + wK r k
    rw [wK_app l r k]; omega
theorem wK_none : ∀ {l : List (Int × Nat)} {k : Int}, k ∉ l.map (·.1) → wK l k = 0
  | [], _, _ => rfl
  | p :: l, k, h => by
    show (if p.1 = k then p.2 else 0) + wK l k = 0
    rw [if_neg (fun z => h (by rw [← z]; simp)), wK_none fun z => h (by simp; right; simpa using z)]
theorem dictF_get : ∀ (l : List (Int × Nat)) (k : Int), zGet (dictF l) k = if k ∈ l.map (·.1) then some ((wK l k : Nat) : Int) else none := by
  refine snoc_ind (fun k => by simp [dictF, zGet]) fun l p ih k => ?_
  rw [dictF_snoc, zGet_put, wK_app]
  have e1 : wK [p] k = if p.1 = k then p.2 else 0 := by show (if p.1 = k then p.2 else 0) + 0 = _; omega
  have em : k ∈ (l ++ [p]).map (·.1) ↔ k ∈ l.map (·.1) ∨ k = p.1 := by rw [List.map_append, List.mem_append]; simp
  by_cases e : k = p.1
  · subst e
    rw [if_pos rfl, if_pos (em.mpr (.inr rfl)), ih, e1, if_pos rfl]
    by_cases h : p.1 ∈ l.map (·.1)
    · rw [if_pos h]; simp
    · rw [if_neg h, wK_none h]; simp
  · have e4 : (if p.1 = k then p.2 else 0) = 0 := if_neg (fun z => e z.symm)
    rw [if_neg e, ih, e1, e4]
    by_cases h : k ∈ l.map (·.1)
    · rw [if_pos h, if_pos (em.mpr (.inl h))]; simp
    · rw [if_neg h, if_neg (fun z => (em.mp z).elim h e)]
theorem dictF_keys : ∀ l : List (Int × Nat), ((dictF l).map (·.1)).Nodup ∧ (∀ k, k ∈ (dictF l).map (·.1) ↔ k ∈ l.map (·.1)) ∧ (dictF l).length ≤ l.length := by
  refine snoc_ind ⟨by simp [dictF], by simp [dictF], by simp [dictF]⟩ fun l p ⟨h1, h2, h3⟩ => ?_
  rw [dictF_snoc]
  have hk := zPut_keys (dictF l) p.1 ((zGet (dictF l) p.1).getD 0 + (p.2 : Int))
  have hlen := congrArg List.length hk
  rw [List.length_map] at hlen
  rw [hk]
  by_cases h : p.1 ∈ (dictF l).map (·.1)
  · rw [if_pos h] at hlen ⊢
    refine ⟨h1, fun k => ?_, ?_⟩
    · rw [h2, List.map_append, List.mem_append]
      constructor
      · exact .inl
      · rintro (z | z)
        · exact z
        · have : k = p.1 := by simpa using z
          rw [this]; exact (h2 _).mp h
    · rw [hlen, List.length_map, List.length_append]; omega
  · rw [if_neg h] at hlen ⊢
    refine ⟨List.nodup_append.mpr ⟨h1, by simp, fun a ha b hb z => ?_⟩, fun k => ?_, ?_⟩
    · have : b = p.1 := by simpa using hb
      subst this; subst z; exact h ha
    · rw [List.mem_append, h2, List.map_append, List.mem_append]; rfl
    · rw [hlen, List.length_append, List.length_append, List.length_map]
      simp; exact h3
theorem dictF_srt (l : List (Int × Nat)) : (srtK (l.map (·.1))).Perm ((dictF l).map (·.1)) :=
  (List.perm_ext_iff_of_nodup (srtK_nodup _) (dictF_keys l).1).mpr fun k => by rw [mem_srtK, (dictF_keys l).2.1]
structure HasM (P : Program) (w : World) (K : PySem.W.Frag) (mg : Str → Option Value) (base : Heap) (C : Addr) : Prop where
  ex : ∃ (f : Addr) (fd : FuncData), Mk K C f ∧ mg "Board" = some (.ref C) ∧ Binds K fd ["self", "pays", "plays"] [] ∧ FnOk P w K mg base CX0 1 f fd ["self", "pays", "plays"] (spInit K C)
theorem k_mk {X : Cx} {C : Addr} {p pos : Pos} {e : Expr} {es : List Expr} {t : TA} (K : PySem.W.Frag) (h : HasM X.prog X.w X.K X.mg X.base C) (hr : Room 2 X.A) (ha : PA X (e :: es) t) (hg : Gl X "Board" := by rfl) (hK : X.K = K := by rfl)
    (he : starEach (e :: es) X.env = (false, eval e X.env) :: starEach es X.env := by rfl) (hpl : (backTo pos (starEach es X.env)).any (·.1) = false := by rfl) :
    PE X (.Call (.Name "Board" p) (e :: es) [] pos) (tMake C (spInit K C) [] E0 t) := by
  subst hK
  obtain ⟨f, fd, M, m, b, F⟩ := h.ex
  exact pe_make M F hr hg m b .nil pass0 ha (by decide) he hpl
section
variable {K : PySem.W.Frag} {C : Addr} {c : Ctx} {E : List Slo} {ta : TA}
theorem ev_mk {ds : List PyData} {e : PyData} (h : EvA c E ta [isD K (.tuple ds), isD K e]) : Ev c E (tMake C (spInit K C) [] E0 ta) (isO K C (ds.length : Nat) (.tuple ds) e) := fun σ Hs H e0 Q q => by
  refine h σ Hs H e0 _ fun vs Hs1 H1 s1 hv => ?_
  cases hv with
  | cons hx r =>
    cases r with
    | cons hy r =>
      cases r
      rename_i x y
      intro p dx hp hdx hne
      have sA := Stp.newO (o := .own p) s1.i hdx
      have hp2 : upd H1 dx (.own p) p = none := by rw [upd_ne hne.symm]; exact hp
      have sB := Stp.newO (o := .ins C dx []) sA.i hp2
      have sAB := sA.trans sB
      refine ⟨p, dx, x, y, ds.length, rfl, upd_same, ?_, hne.symm, fun H' eH => ⟨rfl, ?_⟩⟩
      · cases hx with
        | @tup a vs _ hs ha => exact .inr ⟨vs, Evl.ex_t sAB.i hs, (dpAll_length ha).symm⟩
      · have hpS : Hs1 p = none := Evl.fresh_back s1.i hp
        have e2 : H' = upd (upd H1 dx (.own p)) p (.ins C dx (bF ((ds.length : Nat) : Int) x y)) := by
          rw [eH]
          funext b
          by_cases hb : b = p
          · subst hb; rw [upd_same, upd_same]
          · rw [upd_ne hb, upd_ne hb, upd_ne hb]
        have sC := Stp.new (o := .ins C dx (bF ((ds.length : Nat) : Int) x y)) sA.i hp2
        rw [e2]
        have sAC := sA.trans sC
        exact q (.ref p) _ _ (s1.trans sAC) ⟨p, dx, x, y, rfl, upd_same, dp_ex sC.s _ _ hx, dp_ex sC.s _ _ hy⟩
end
end SD
end
section
set_option maxHeartbeats 4000000
set_option exponentiation.threshold 100000
namespace SD
open PySem PySem.Spec PyProof.Rows L2 SH SM RZ
section
def p_is_pay (K : PySem.W.Frag) (C : Addr) : Prom := ⟨Rat, fun a => a = 0 ∨ a = 1, fun a => [isD K (dR a)], fun a => isD K (.bool true)⟩
def p_is_lottery (K : PySem.W.Frag) (C : Addr) : Prom := ⟨Lot × Nat, fun a => LotOk a.2 a.1, fun a => [isD K (dL a.1), isD K (.int (a.2 : Nat))], fun a => isD K (.bool true)⟩
def p_want_pays (K : PySem.W.Frag) (C : Addr) : Prom := ⟨List Rat, fun a => ∀ q ∈ a, q = 0 ∨ q = 1, fun a => [isD K (dRs a), isD K (.int (a.length : Nat))], fun a => isD K .none⟩
def p_want_plays (K : PySem.W.Frag) (C : Addr) : Prom := ⟨List (List Lot) × Nat, fun a => (∀ r ∈ a.1, r.length ≤ 12) ∧ ∀ r ∈ a.1, ∀ L ∈ r, LotOk a.2 L, fun a => [isD K (dPl a.1), isD K (.int (a.2 : Nat))], fun a => isD K .none⟩
def p_made_board (K : PySem.W.Frag) (C : Addr) : Prom := ⟨Bd, fun a => GB a, fun a => [isD K (dRs a.pays), isD K (dPl a.plays)], fun a => isB K C a⟩
def p_stake_lottery (K : PySem.W.Frag) (C : Addr) : Prom := ⟨Nat × Tb × Nat × Nat, fun a => TbOk a.2.1 ∧ a.2.2.2 ∈ stk a.2.1 ∧ a.2.2.2 + a.2.1.fee ≤ a.2.2.1 ∧ a.2.2.1 ≤ 1000, fun a => [isD K (.int (a.1 : Nat)), isD K (dT a.2.1), isD K (.int (a.2.2.1 : Nat)), isD K (.int (a.2.2.2 : Nat))], fun a => isD K (dL (stakeLot a.1 a.2.1 a.2.2.1 a.2.2.2))⟩
def p_house_plays (K : PySem.W.Frag) (C : Addr) : Prom := ⟨Nat × List Tb × Nat, fun a => a.2.1.length ≤ 3 ∧ (∀ t ∈ a.2.1, TbOk t) ∧ a.2.2 ≤ 1000, fun a => [isD K (.int (a.1 : Nat)), isD K (dTs a.2.1), isD K (.int (a.2.2 : Nat))], fun a => isD K (dLs ((opens a.2.1 a.2.2).map fun p => stakeLot a.1 p.1 a.2.2 p.2))⟩
def p_laid (K : PySem.W.Frag) (C : Addr) : Prom := ⟨Nat × List Tb, fun a => HOk a.1 a.2, fun a => [isD K (dH a.1 a.2), isD K (dRs (goalPays a.1))], fun a => isB K C (houseB a.1 a.2)⟩
variable {P : Program} {w : World} {K : PySem.W.Frag} {mg : Str → Option Value} {base : Heap} {T : List Addr} {C : Addr}
theorem sc_Board_init : FnScope ["self", "pays", "plays"] ["self", "pays", "plays"] (defScope s_Board_init) := ⟨rfl, rfl, rfl, by decide +kernel, rfl, by decide +kernel, by decide +kernel⟩
theorem ok_Board_init {f : Addr} {fd : FuncData} (F : FunD K "__init__" "Board.__init__" (defArgs s_Board_init) (defBody s_Board_init) (defScope s_Board_init) [] [] f fd) (B : Blt mg) (BB : BF K C) : FnOk P w K mg base CX0 1 f fd ["self", "pays", "plays"] (spInit K C) := by
  refine F.ok sc_Board_init (fun vs H Q E h => ?_) (fun cdv A outer s H vs Q E hr h => ?_)
  · obtain ⟨p, dx, x, y, n, rfl, _⟩ := h
    rfl
  · obtain ⟨p, dx, x, y, n, rfl, hp, hl, hne, k⟩ := h
    refine ⟨_, pss_cons (ps_fld (pv 0) (pe_callB (k_len K) (by rfl) B.len (by decide +kernel) (pa_cons (pv 1) pa_nil)) rfl)
      (pss_cons (ps_fld (pv 0) (pv 1) rfl)
      (pss_one (ps_fld (pv 0) (pv 2) rfl))), ?_⟩
    refine ⟨x, rfl, x, n, rfl, hl, .ref p, rfl, p, C, dx, [], rfl, hp, BB.cl, BB.nS, by show 0 < 1000; decide, ?_⟩
    refine ⟨x, rfl, .ref p, rfl, p, C, dx, _, rfl, upd_same, BB.cl, BB.nP, by show 1 < 1000; decide, ?_⟩
    refine ⟨y, rfl, .ref p, rfl, p, C, dx, _, rfl, upd_same, BB.cl, BB.nL, ?_, ?_⟩
    · have e : putF "pays" x (putF "size" (V.int (n : Int)) []) = [(("size" : Str), V.int (n : Int)), (("pays" : Str), x)] := by
        show (if ("size" : Str) = "pays" then _ else _) = _
        rw [if_neg (by decide +kernel)]; rfl
      rw [e]; show 2 < 1000; decide
    · refine k _ ?_
      funext b
      by_cases hb : b = p
      · subst hb; rw [upd_same, upd_same]; rfl
      · rw [upd_ne hb, upd_ne hb, upd_ne hb, upd_ne hb]
theorem sc_is_pay : FnScope ["thing"] ["thing"] (defScope s_is_pay) := ⟨rfl, rfl, rfl, by decide +kernel, rfl, by decide +kernel, by decide +kernel⟩
theorem ok_is_pay {f : Addr} {fd : FuncData} (F : FunD K "is_pay" "is_pay" (defArgs s_is_pay) (defBody s_is_pay) (defScope s_is_pay) [] [] f fd) (hm : mg "is_pay" = some (.ref f)) (B : Blt mg)  (h_is_ratio : Has P w K mg base "is_ratio" ["thing"] 2 (spOf T (p_is_ratio K C))) : Has P w K mg base "is_pay" ["thing"] 3 (spOf T (p_is_pay K C)) :=
  has_of F hm sc_is_pay (fun _ _ _ _ _ _ us hl => match us, hl with | [_], _ => rfl) (fun _ => rfl) (by decide) fun cdv A outer s H E hr a c D hT hX hs q hnx => by
    subst hT
    refine ⟨_, (pss_one (ps_ret (pe_and (pe_has (h_is_ratio.mono (by decide)) (hr) (pa_cons (pv 0) pa_nil)) (pe_and (pe_chain op_le op_lt pe_int (pe_ix (k_ixT K) (pv 0) pe_int (fun _ _ => rfl)) (k_glI (by rfl) B.PAY_LIMIT)) (pe_one (pe_cmpR op_lt (pe_ix (k_ixT K) (pv 0) pe_int (fun _ _ => rfl)) (k_glI (by rfl) B.PAY_LIMIT) (nomark _))))))), ?_⟩
    change Rat at a
    have ha : a = 0 ∨ a = 1 := hs
    refine tri_ret (ev_is (ev_andV (ev_call (p := p_is_ratio K C) a (evA_cons (ev_var rfl) evA_nil) trivial) fun _ => ev_andV (ev_chain ev_int (ev_op (ev_var rfl) ev_int (opV_ixT (by decide) rfl)) opV_bool ev_int opV_bool) fun _ => ev_op (ev_op (ev_var rfl) ev_int (opV_ixT (by decide) rfl)) ev_int opV_bool) ?_) q
    rcases ha with rfl | rfl <;> exact congrArg PyData.bool (by decide +kernel)
theorem sc_is_lottery : FnScope ["lottery", "size", "before", "place", "weight"] ["lottery", "size"] (defScope s_is_lottery) := ⟨rfl, rfl, rfl, by decide +kernel, rfl, by decide +kernel, by decide +kernel⟩
theorem ok_is_lottery {f : Addr} {fd : FuncData} (F : FunD K "is_lottery" "is_lottery" (defArgs s_is_lottery) (defBody s_is_lottery) (defScope s_is_lottery) [] [] f fd) (hm : mg "is_lottery" = some (.ref f)) (B : Blt mg)   : Has P w K mg base "is_lottery" ["lottery", "size"] 1 (spOf T (p_is_lottery K C)) :=
  has_of F hm sc_is_lottery (fun _ _ _ _ _ _ us hl => match us, hl with | [_, _], _ => rfl) (fun _ => rfl) (by decide) fun cdv A outer s H E hr a c D hT hX hs q hnx => by
    subst hT
    refine ⟨_, (pss_cons (ps_if (pt_not (pt_chain op_le op_le pe_int (pe_callB (k_len K) (by rfl) B.len (by decide +kernel) (pa_cons (pv 0) pa_nil)) (k_glI (by rfl) B.MOST_PAIRS))) (pss_one (ps_ret pe_bl)) pss_nil)
      (pss_cons (ps_set (i := 2) sc_is_lottery.nd rfl (.inl rfl) (pe_un un_neg pe_int))
      (pss_cons (ps_for PassesOwn.never rfl (k_piT K (pv 0)) (k_tup K 2 (pgs_cons (pg_name (i := 3) sc_is_lottery.nd rfl (.inl rfl)) (pgs_cons (pg_name (i := 4) sc_is_lottery.nd rfl (.inl rfl)) pgs_nil)))
      (pss_cons (ps_if (PW.pt (pw_or (pt_not (pt_chain op_lt op_lt (pv 2) (pv 3) (pv 1))) (pw_or1 (pt_not (pt_chain op_le op_le pe_int (pv 4) (k_glI (by rfl) B.MOST_WEIGHT)))))) (pss_one (ps_ret pe_bl)) pss_nil)
      (pss_one (ps_set (i := 2) sc_is_lottery.nd rfl (.inl rfl) (pv 3)))))
      (pss_one (ps_ret pe_bl))))), ?_⟩
    obtain ⟨L, n⟩ := a
    have lo : LotOk n L := hs
    have h1 : 1 ≤ L.length := List.length_pos_iff.mpr lo.ne
    have h3 := lo.len
    have h27 := lo.whole
    refine tri_seq (tri_ifF (evT_is (evT_not (evT_test (ev_chain ev_int (ev_CB (evA_cons (ev_var rfl) evA_nil) caV_lenT) opV_bool ev_int opV_bool))) ?_) (tri_next ?_))
    · rw [List.length_map]
      rw [decide_eq_true (show (1 : Int) ≤ (L.length : Int) by omega), decide_eq_true (show (L.length : Int) ≤ 8 by omega)]; rfl
    refine tri_seq (tri_asg (ev_un (ev_int (K := K)) unV_int) ?_)
    refine tri_seq (tri_forM (xs := L) (gd := dP) (its_tup (ev_var rfl)) (fun M => [.is (isD K (dL L)), .is (isD K (.int (n : Nat))), .is (isD K (.int (((M.getLast?).map fun p : Nat × Nat => (p.1 : Int)).getD (-1)))), .no, .no]) (by repeat (first | exact Weak.nil | refine Weak.same ?_ | refine Weak.none ?_)) (fun c' M p a1 a2 a3 a4 hp => ?_) ?_)
    · have hpm := prefix_mem hp
      have hlt := lo.lt p hpm
      have hps := lo.pos p hpm
      have hw := wh_mem hpm
      have hb : ((M.getLast?).map fun p : Nat × Nat => (p.1 : Int)).getD (-1) < (p.1 : Int) := by
        cases hM : M.getLast? with
        | none => simp; omega
        | some r =>
          have hr : r ∈ M := List.mem_of_getLast? hM
          obtain ⟨z, hz⟩ := hp
          have hasc := lo.asc
          rw [← hz, List.append_assoc, List.map_append] at hasc
          have := (List.pairwise_append.mp hasc).2.2 r.1 (List.mem_map.mpr ⟨r, hr, rfl⟩) p.1 (by simp)
          simp; omega
      refine ⟨_, _, tgt_tup (ds := [_, _]) (tgts_cons tgt_name (tgts_cons tgt_name tgts_nil)) rfl, fun D' d1 d2 d3 d4 => ?_⟩
      refine tri_seq (tri_ifF (evT_is (evT_or (evT_not (evT_test (ev_chain (ev_var rfl) (ev_var rfl) opV_bool (ev_var rfl) opV_bool))) (fun _ => evT_not (evT_test (ev_chain ev_int (ev_var rfl) opV_bool ev_int opV_bool)))) ?_) (tri_next ?_))
      · rw [decide_eq_true hb, decide_eq_true (show (p.1 : Int) < (n : Int) by omega), decide_eq_true (show (1 : Int) ≤ (p.2 : Int) by omega), decide_eq_true (show (p.2 : Int) ≤ 99999 by omega)]; rfl
      · refine tri_asg (ev_var rfl) (nx_weak ?_ d3)
        have : ((((M ++ [p]).getLast?).map fun p : Nat × Nat => (p.1 : Int)).getD (-1)) = (p.1 : Int) := by simp
        rw [this]
        repeat (first | exact Weak.nil | refine Weak.same ?_ | refine Weak.none ?_)
    · exact nx_tri (tri_ret (ev_is ev_bl rfl) q)
theorem sc_want_pays : FnScope ["pays", "size", "x", "pay"] ["pays", "size"] (defScope s_want_pays) := ⟨rfl, rfl, rfl, by decide +kernel, rfl, by decide +kernel, by decide +kernel⟩
theorem ok_want_pays {f : Addr} {fd : FuncData} (F : FunD K "want_pays" "want_pays" (defArgs s_want_pays) (defBody s_want_pays) (defScope s_want_pays) [] [] f fd) (hm : mg "want_pays" = some (.ref f)) (B : Blt mg)  (h_is_pay : Has P w K mg base "is_pay" ["thing"] 3 (spOf T (p_is_pay K C))) : Has P w K mg base "want_pays" ["pays", "size"] 4 (spOf T (p_want_pays K C)) :=
  has_of F hm sc_want_pays (fun _ _ _ _ _ _ us hl => match us, hl with | [_, _], _ => rfl) (fun _ => rfl) (by decide) fun cdv A outer s H E hr a c D hT hX hs q hnx => by
    subst hT
    refine ⟨_, (pss_cons (ps_if (pt_cmpR op_ne (pe_callB (k_len K) (by rfl) B.len (by decide +kernel) (pa_cons (pv 0) pa_nil)) (pv 1) (nomark _)) (pss_one ps_never) pss_nil)
      (pss_one (ps_for PassesOwn.never rfl (pi_enumT K (by rfl) B.enumerate (pa_cons (pv 0) pa_nil)) (k_tup K 2 (pgs_cons (pg_name (i := 2) sc_want_pays.nd rfl (.inl rfl)) (pgs_cons (pg_name (i := 3) sc_want_pays.nd rfl (.inl rfl)) pgs_nil)))
      (pss_one (ps_if (pt_not (pt_val (pe_has (h_is_pay.mono (by decide)) (hr) (pa_cons (pv 3) pa_nil)))) (pss_one ps_never) pss_nil))))), ?_⟩
    change List Rat at a
    have ha : ∀ r ∈ a, r = 0 ∨ r = 1 := hs
    refine tri_seq (tri_ifF (evT_is (evT_test (ev_op (ev_CB (evA_cons (ev_var (i := 0) rfl) evA_nil) caV_lenT) (ev_var rfl) opV_neI)) (by simp)) (tri_next ?_))
    refine nx_tri (tri_forM (xs := a.zipIdx) (its_enumTM (evA_cons (ev_var rfl) evA_nil)) (fun _ => [.is (isD K (dRs a)), .is (isD K (.int (a.length : Nat))), .no, .no]) (by repeat (first | exact Weak.nil | refine Weak.same ?_ | refine Weak.none ?_)) (fun c' M p a1 a2 a3 a4 hp => ?_) ?_)
    · obtain ⟨h1, h2, h3⟩ := zipIdx_at hp
      refine ⟨_, _, tgt_tup (ds := [_, _]) (tgts_cons tgt_name (tgts_cons tgt_name tgts_nil)) rfl, fun D' d1 d2 d3 d4 => ?_⟩
      rw [← a1]
      exact tri_ifF (evT_is (b := !true) (evT_not (evT_B (ev_call (p := p_is_pay K C) p.1 (evA_cons (ev_var rfl) evA_nil) (ha _ (List.mem_of_getElem? h1))))) rfl) (tri_next (nx_weak (by repeat (first | exact Weak.nil | refine Weak.same ?_ | refine Weak.none ?_)) d3))
    · rw [hnx]
      exact nx_weak (E' := [.no, .no, .no, .no]) (by repeat (first | exact Weak.nil | refine Weak.same ?_ | refine Weak.none ?_)) (nx_fin q)
theorem sc_want_plays : FnScope ["plays", "size", "x", "row", "k", "lottery"] ["plays", "size"] (defScope s_want_plays) := ⟨rfl, rfl, rfl, by decide +kernel, rfl, by decide +kernel, by decide +kernel⟩
theorem ok_want_plays {f : Addr} {fd : FuncData} (F : FunD K "want_plays" "want_plays" (defArgs s_want_plays) (defBody s_want_plays) (defScope s_want_plays) [] [] f fd) (hm : mg "want_plays" = some (.ref f)) (B : Blt mg)  (h_is_lottery : Has P w K mg base "is_lottery" ["lottery", "size"] 1 (spOf T (p_is_lottery K C))) : Has P w K mg base "want_plays" ["plays", "size"] 2 (spOf T (p_want_plays K C)) :=
  has_of F hm sc_want_plays (fun _ _ _ _ _ _ us hl => match us, hl with | [_, _], _ => rfl) (fun _ => rfl) (by decide) fun cdv A outer s H E hr a c D hT hX hs q hnx => by
    subst hT
    refine ⟨_, (pss_cons (ps_for PassesOwn.never rfl (pi_enumT K (by rfl) B.enumerate (pa_cons (pv 0) pa_nil)) (k_tup K 2 (pgs_cons (pg_name (i := 2) sc_want_plays.nd rfl (.inl rfl)) (pgs_cons (pg_name (i := 3) sc_want_plays.nd rfl (.inl rfl)) pgs_nil)))
      (pss_one (ps_if (pt_cmpR op_gt (pe_callB (k_len K) (by rfl) B.len (by decide +kernel) (pa_cons (pv 3) pa_nil)) (k_glI (by rfl) B.MOST_PLAYS) (nomark _)) (pss_one ps_never) pss_nil)))
      (pss_one (ps_for PassesOwn.never rfl (pi_enumT K (by rfl) B.enumerate (pa_cons (pv 0) pa_nil)) (k_tup K 2 (pgs_cons (pg_name (i := 2) sc_want_plays.nd rfl (.inl rfl)) (pgs_cons (pg_name (i := 3) sc_want_plays.nd rfl (.inl rfl)) pgs_nil)))
      (pss_one (ps_for PassesOwn.never rfl (pi_enumT K (by rfl) B.enumerate (pa_cons (pv 3) pa_nil)) (k_tup K 2 (pgs_cons (pg_name (i := 4) sc_want_plays.nd rfl (.inl rfl)) (pgs_cons (pg_name (i := 5) sc_want_plays.nd rfl (.inl rfl)) pgs_nil)))
      (pss_one (ps_if (pt_not (pt_val (pe_has (h_is_lottery.mono (by decide)) (hr) (pa_cons (pv 5) (pa_cons (pv 1) pa_nil))))) (pss_one ps_never) pss_nil))))))), ?_⟩
    obtain ⟨pl, n⟩ := a
    obtain ⟨h12, hlo⟩ := hs
    dsimp only at h12 hlo
    refine tri_seq (tri_forM (xs := pl.zipIdx) (its_enumTM (evA_cons (ev_var rfl) evA_nil)) (fun _ => [.is (isD K (dPl pl)), .is (isD K (.int (n : Nat))), .no, .no, .no, .no]) (by repeat (first | exact Weak.nil | refine Weak.same ?_ | refine Weak.none ?_)) (fun c' M p a1 a2 a3 a4 hp => ?_) ?_)
    · obtain ⟨h1, h2, h3⟩ := zipIdx_at hp
      have hr := h12 _ (List.mem_of_getElem? h1)
      refine ⟨_, _, tgt_tup (ds := [_, _]) (tgts_cons tgt_name (tgts_cons tgt_name tgts_nil)) rfl, fun D' d1 d2 d3 d4 => ?_⟩
      exact tri_ifF (evT_is (evT_test (ev_op (ev_CB (evA_cons (ev_var rfl) evA_nil) caV_lenT) ev_int opV_bool)) (decide_eq_false (by rw [List.length_map]; omega))) (tri_next (nx_weak (by repeat (first | exact Weak.nil | refine Weak.same ?_ | refine Weak.none ?_)) d3))
    · refine nx_tri (tri_forM (xs := pl.zipIdx) (its_enumTM (evA_cons (ev_var rfl) evA_nil)) (fun _ => [.is (isD K (dPl pl)), .is (isD K (.int (n : Nat))), .no, .no, .no, .no]) (by repeat (first | exact Weak.nil | refine Weak.same ?_ | refine Weak.none ?_)) (fun c' M p a1 a2 a3 a4 hp => ?_) ?_)
      · obtain ⟨h1, h2, h3⟩ := zipIdx_at hp
        obtain ⟨r, ix⟩ := p
        have hrm := List.mem_of_getElem? h1
        refine ⟨_, _, tgt_tup (ds := [_, _]) (tgts_cons tgt_name (tgts_cons tgt_name tgts_nil)) rfl, fun D' d1 d2 d3 d4 => ?_⟩
        refine tri_forM (xs := r.zipIdx) (its_enumTM (evA_cons (ev_var rfl) evA_nil)) (fun _ => [.is (isD K (dPl pl)), .is (isD K (.int (n : Nat))), .no, .is (isD K (dLs r)), .no, .no]) (by repeat (first | exact Weak.nil | refine Weak.same ?_ | refine Weak.none ?_)) (fun c2 M2 p2 b1 b2 b3 b4 hp2 => ?_) ?_
        · obtain ⟨g1, g2, g3⟩ := zipIdx_at hp2
          refine ⟨_, _, tgt_tup (ds := [_, _]) (tgts_cons tgt_name (tgts_cons tgt_name tgts_nil)) rfl, fun D2 e1 e2 e3 e4 => ?_⟩
          rw [← a1, ← b1]
          exact tri_ifF (evT_is (b := !true) (evT_not (evT_B (ev_call (p := p_is_lottery K C) (p2.1, n) (evA_cons (ev_var rfl) (evA_cons (ev_var rfl) evA_nil)) (hlo r hrm _ (List.mem_of_getElem? g1))))) rfl) (tri_next (nx_weak (by repeat (first | exact Weak.nil | refine Weak.same ?_ | refine Weak.none ?_)) e3))
        · exact nx_weak (by repeat (first | exact Weak.nil | refine Weak.same ?_ | refine Weak.none ?_)) d3
      · rw [hnx]
        exact nx_weak (E' := [.no, .no, .no, .no, .no, .no]) (by repeat (first | exact Weak.nil | refine Weak.same ?_ | refine Weak.none ?_)) (nx_fin q)
theorem sc_made_board : FnScope ["pays", "plays", "size"] ["pays", "plays"] (defScope s_made_board) := ⟨rfl, rfl, rfl, by decide +kernel, rfl, by decide +kernel, by decide +kernel⟩
theorem ok_made_board {f : Addr} {fd : FuncData} (F : FunD K "made_board" "made_board" (defArgs s_made_board) (defBody s_made_board) (defScope s_made_board) [] [] f fd) (hm : mg "made_board" = some (.ref f)) (B : Blt mg) (h_Board : HasM P w K mg base C) (h_want_pays : Has P w K mg base "want_pays" ["pays", "size"] 4 (spOf T (p_want_pays K C))) (h_want_plays : Has P w K mg base "want_plays" ["plays", "size"] 2 (spOf T (p_want_plays K C))) : Has P w K mg base "made_board" ["pays", "plays"] 5 (spOf T (p_made_board K C)) :=
  has_of F hm sc_made_board (fun _ _ _ _ _ _ us hl => match us, hl with | [_, _], _ => rfl) (fun _ => rfl) (by decide) fun cdv A outer s H E hr a c D hT hX hs q hnx => by
    subst hT
    refine ⟨_, (pss_cons (ps_set (i := 2) sc_made_board.nd rfl (.inl rfl) (pe_callB (k_len K) (by rfl) B.len (by decide +kernel) (pa_cons (pv 0) pa_nil)))
      (pss_cons (ps_if (pt_not (pt_chain op_le op_le pe_int (pv 2) (k_glI (by rfl) B.MOST_PLACES))) (pss_one ps_never) pss_nil)
      (pss_cons (ps_expr (pe_has (h_want_pays.mono (by decide)) (hr) (pa_cons (pv 0) (pa_cons (pv 2) pa_nil))))
      (pss_cons (ps_if (pt_cmpR op_ne (pe_callB (k_len K) (by rfl) B.len (by decide +kernel) (pa_cons (pv 1) pa_nil)) (pv 2) (nomark _)) (pss_one ps_never) pss_nil)
      (pss_cons (ps_expr (pe_has (h_want_plays.mono (by decide)) (hr) (pa_cons (pv 1) (pa_cons (pv 2) pa_nil))))
      (pss_one (ps_ret (k_mk K h_Board (hr.mono (by decide)) (pa_cons (pv 0) (pa_cons (pv 1) pa_nil)))))))))), ?_⟩
    change Bd at a
    have g : GB a := hs
    have g1 := g.one
    have g10 := g.size
    have gl := g.len
    unfold Bd.size at g1 g10
    refine tri_seq (tri_asg (ev_CB (evA_cons (ev_var (i := 0) rfl) evA_nil) (caV_lenT (ds := a.pays.map dR))) ?_)
    refine tri_seq (tri_ifF (evT_is (evT_not (evT_test (ev_chain ev_int (ev_var rfl) opV_bool ev_int opV_bool))) ?_) (tri_next ?_))
    · rw [List.length_map]
      rw [decide_eq_true (show (1 : Int) ≤ (a.pays.length : Int) by omega), decide_eq_true (show (a.pays.length : Int) ≤ 40 by omega)]; rfl
    refine tri_seq (tri_drop (ev_call (p := p_want_pays K C) a.pays (evA_cons (ev_var rfl) (evA_cons (ev_is (ev_var rfl) (by rw [List.length_map])) evA_nil)) g.pays) ?_)
    refine tri_seq (tri_ifF (evT_is (evT_test (ev_op (ev_CB (evA_cons (ev_var (i := 1) rfl) evA_nil) (caV_lenT (ds := a.plays.map dLs))) (ev_var rfl) opV_neI)) (by simp [gl])) (tri_next ?_))
    refine tri_seq (tri_drop (ev_call (p := p_want_plays K C) (a.plays, a.size) (evA_cons (ev_var rfl) (evA_cons (ev_is (ev_var rfl) (by rw [List.length_map]; rfl)) evA_nil)) ⟨g.rows, g.lots⟩) ?_)
    refine tri_ret (ev_weak (ev_mk (ds := a.pays.map dR) (e := dPl a.plays) (evA_cons (ev_var rfl) (evA_cons (ev_var rfl) evA_nil))) fun H v h => ?_) q
    have e : ((a.pays.map dR).length : Int) = (a.size : Int) := by rw [List.length_map]; rfl
    rw [e] at h
    exact h
theorem sc_stake_lottery : FnScope ["goal", "table", "x", "stake", "weights", "gain", "weight", "purse"] ["goal", "table", "x", "stake"] (defScope s_stake_lottery) := ⟨rfl, rfl, rfl, by decide +kernel, rfl, by decide +kernel, by decide +kernel⟩
theorem ok_stake_lottery {f : Addr} {fd : FuncData} (F : FunD K "stake_lottery" "stake_lottery" (defArgs s_stake_lottery) (defBody s_stake_lottery) (defScope s_stake_lottery) [] [] f fd) (hm : mg "stake_lottery" = some (.ref f)) (B : Blt mg)  (h_out_of : Has P w K mg base "out_of" ["goal", "table", "x", "stake", "gain"] 2 (spOf T (p_out_of K C))) : Has P w K mg base "stake_lottery" ["goal", "table", "x", "stake"] 3 (spOf T (p_stake_lottery K C)) :=
  has_of F hm sc_stake_lottery (fun _ _ _ _ _ _ us hl => match us, hl with | [_, _, _, _], _ => rfl) (fun _ => rfl) (by decide) fun cdv A outer s H E hr a c D hT hX hs q hnx => by
    subst hT
    refine ⟨_, (pss_cons (ps_set (i := 4) sc_stake_lottery.nd rfl (.inr rfl) pe_dnewK)
      (pss_cons (ps_for PassesOwn.never rfl (k_piT K (pe_ix (k_ixT K) (pv 1) pe_int (fun _ _ => rfl))) (k_tup K 2 (pgs_cons (pg_name (i := 5) sc_stake_lottery.nd rfl (.inl rfl)) (pgs_cons (pg_name (i := 6) sc_stake_lottery.nd rfl (.inl rfl)) pgs_nil)))
      (pss_cons (ps_set (i := 7) sc_stake_lottery.nd rfl (.inl rfl) (pe_has (h_out_of.mono (by decide)) (hr) (pa_cons (pv 0) (pa_cons (pv 1) (pa_cons (pv 2) (pa_cons (pv 3) (pa_cons (pv 5) pa_nil)))))))
      (pss_one (ps_dput (hu_of hr) (pv 4) (pv 7) (pe_op op_add (pe_dget2 (hu_of hr) (pv 4) (pv 7) pe_int ⟨by rfl, by rfl, by rfl, by rfl⟩) (pv 6)) rfl))))
      (pss_one (ps_ret (pe_callTy (k_tupOf K) (by rfl) B.tuple (by decide +kernel) (pa_cons (pe_lc (own := [("purse", 7)]) rfl sc_stake_lottery.nd (k_piL K (pe_callB k_sortZ (by rfl) B.sorted (by decide +kernel) (pa_cons (pv 4) pa_nil))) (blkOk_by (own := [("purse", 7)]) (N := ["goal", "table", "x", "stake", "weights", "gain", "weight", "purse"]) (sc := defScope s_stake_lottery) (by decide +kernel)) (fun _ _ _ _ _ => (pg_name (i := 7) sc_stake_lottery.nd rfl (.inl rfl))) (fun _ _ _ _ _ => pts_nil) (fun _ _ _ _ _ => (pe_tup (pa_cons (pv 7) (pa_cons (pe_dget (hu_of hr) (pv 4) (pv 7) (fun _ _ => rfl)) pa_nil))))) pa_nil)))))), ?_⟩
    obtain ⟨g, t, x, st⟩ := a
    obtain ⟨ht, hin, hle, hx⟩ := hs
    dsimp only at ht hin hle hx
    refine tri_seq (tri_asgO evO_dnew ?_)
    refine tri_seq (tri_forM (xs := t.outs) (gd := fun p => .tuple [.int p.1, .int (p.2 : Nat)]) (its_tup (ev_op (ev_var (i := 1) rfl) ev_int (opV_ixT (by decide) rfl))) (fun M => [.is (isD K (.int (g : Nat))), .is (isD K (dT t)), .is (isD K (.int (x : Nat))), .is (isD K (.int (st : Nat))), .own (ownZ (dictF (pursed g t x st M))), .no, .no, .no]) (by repeat (first | exact Weak.nil | refine Weak.same ?_ | refine Weak.none ?_)) (fun c' M p a1 a2 a3 a4 hp => ?_) ?_)
    · have hpm := prefix_mem hp
      have hg := ht.outs.gain p hpm
      have hlM : M.length < 100 := by have := prefix_lt hp; have := ht.outs.len; omega
      refine ⟨_, _, tgt_tup (ds := [_, _]) (tgts_cons tgt_name (tgts_cons tgt_name tgts_nil)) rfl, fun D' d1 d2 d3 d4 => ?_⟩
      rw [← a1]
      refine tri_seq (tri_asg (ev_call (p := p_out_of K C) ⟨g, t, x, st, p.1⟩ (evA_cons (ev_var rfl) (evA_cons (ev_var rfl) (evA_cons (ev_var rfl) (evA_cons (ev_var rfl) (evA_cons (ev_var rfl) evA_nil))))) ⟨ht, hin, hle, hx, hg⟩) ?_)
      refine tri_dput rfl (ev_op (ev_dget2 rfl (ev_var rfl) ev_int) (ev_var rfl) opV_int) (ev_var rfl) ?_ ?_
      · have := (dictF_keys (pursed g t x st M)).2.2
        unfold pursed at this
        rw [List.length_map] at this
        unfold pursed
        omega
      · refine nx_weak ?_ d3
        have e : pursed g t x st (M ++ [p]) = pursed g t x st M ++ [(purse g t x st p.1, p.2)] := by unfold pursed; rw [List.map_append]; rfl
        rw [e, dictF_snoc]
        repeat (first | exact Weak.nil | refine Weak.same ?_ | refine Weak.none ?_)
    · have hl3 := ht.outs.len
      have hlen : (dictF (pursed g t x st t.outs)).length < 64 := by
        have := (dictF_keys (pursed g t x st t.outs)).2.2
        unfold pursed at this ⊢
        rw [List.length_map] at this
        omega
      have hsl : (srtK ((pursed g t x st t.outs).map (·.1))).length ≤ 3 := by
        have := srtK_len ((pursed g t x st t.outs).map (·.1))
        unfold pursed at this ⊢
        rw [List.length_map, List.length_map] at this
        omega
      refine nx_tri (tri_ret (ev_is (ev_CB (evA_cons (evO_data (evO_map (xs := srtK ((pursed g t x st t.outs).map (·.1))) (gd := .int) (fun k => .tuple [.int k, .int ((wK (pursed g t x st t.outs) k : Nat) : Int)]) (its_list (evO_data (evO_sortZ rfl (dictF_srt _) (srtK_asc _) hlen))) (by omega) fun i k hk => ⟨_, _, tgt_name, by decide, evT_tt, ?_⟩)) evA_nil) caV_tupL) ?_) q)
      · have hkm := mem_srtK.mp (List.mem_of_getElem? hk)
        refine ev_tup (ds := [.int k, .int ((wK (pursed g t x st t.outs) k : Nat) : Int)]) (evA_cons (ev_var rfl) (evA_cons (ev_dget rfl (ev_var rfl) ?_) evA_nil))
        rw [dictF_get, if_pos hkm]
      · show PyData.tuple _ = PyData.tuple ((stakeLot g t x st).map dP)
        unfold stakeLot toLot gather
        rw [List.map_map, List.map_map]
        congr 1
        apply List.map_congr_left
        intro k hk
        have hkm := mem_srtK.mp hk
        unfold pursed at hkm
        rw [List.map_map] at hkm
        obtain ⟨o, ho, e⟩ := List.mem_map.mp hkm
        have h0 : 0 ≤ k := by
          rw [← e]
          exact (purse_rng (g := g) hle (ht.outs.gain o ho).1).1
        show PyData.tuple [.int k, _] = PyData.tuple [.int ((k.toNat : Nat) : Int), _]
        rw [Int.toNat_of_nonneg h0]
theorem sc_house_plays : FnScope ["goal", "tables", "x", "table", "stake"] ["goal", "tables", "x"] (defScope s_house_plays) := ⟨rfl, rfl, rfl, by decide +kernel, rfl, by decide +kernel, by decide +kernel⟩
theorem ok_house_plays {f : Addr} {fd : FuncData} (F : FunD K "house_plays" "house_plays" (defArgs s_house_plays) (defBody s_house_plays) (defScope s_house_plays) [] [] f fd) (hm : mg "house_plays" = some (.ref f)) (B : Blt mg)  (h_stake_lottery : Has P w K mg base "stake_lottery" ["goal", "table", "x", "stake"] 3 (spOf T (p_stake_lottery K C))) (h_open_stakes : Has P w K mg base "open_stakes" ["tables", "x"] 2 (spOf T (p_open_stakes K C))) : Has P w K mg base "house_plays" ["goal", "tables", "x"] 4 (spOf T (p_house_plays K C)) :=
  has_of F hm sc_house_plays (fun _ _ _ _ _ _ us hl => match us, hl with | [_, _, _], _ => rfl) (fun _ => rfl) (by decide) fun cdv A outer s H E hr a c D hT hX hs q hnx => by
    subst hT
    refine ⟨_, (pss_one (ps_ret (pe_callTy (k_tupOf K) (by rfl) B.tuple (by decide +kernel) (pa_cons (pe_lc (own := [("table", 3), ("stake", 4)]) rfl sc_house_plays.nd (k_piL K (pe_has (h_open_stakes.mono (by decide)) (hr) (pa_cons (pv 1) (pa_cons (pv 2) pa_nil)))) (blkOk_by (own := [("table", 3), ("stake", 4)]) (N := ["goal", "tables", "x", "table", "stake"]) (sc := defScope s_house_plays) (by decide +kernel)) (fun _ _ _ _ _ => (k_tup K 2 (pgs_cons (pg_name (i := 3) sc_house_plays.nd rfl (.inl rfl)) (pgs_cons (pg_name (i := 4) sc_house_plays.nd rfl (.inl rfl)) pgs_nil)))) (fun _ _ _ _ _ => pts_nil) (fun _ _ _ _ _ => (pe_has (h_stake_lottery.mono (by decide)) (hr) (pa_cons (pv 0) (pa_cons (pv 3) (pa_cons (pv 2) (pa_cons (pv 4) pa_nil))))))) pa_nil)))), ?_⟩
    obtain ⟨g, ts, x⟩ := a
    obtain ⟨hl, ht, hx⟩ := hs
    dsimp only at hl ht hx
    have hol := opens_len ht x
    refine tri_ret (ev_is (ev_CB (evA_cons (evO_data (evO_map (xs := opens ts x) (gd := fun p => .tuple [dT p.1, .int (p.2 : Nat)]) (fun p => dL (stakeLot g p.1 x p.2)) (its_list (ev_call (p := p_open_stakes K C) (ts, x) (evA_cons (ev_var (i := 1) rfl) (evA_cons (ev_var (i := 2) rfl) evA_nil)) ⟨hl, ht⟩)) (by omega) fun i p hp => ⟨_, _, tgt_tup (ds := [_, _]) (tgts_cons tgt_name (tgts_cons tgt_name tgts_nil)) rfl, by decide, evT_tt, ?_⟩)) evA_nil) caV_tupL) ?_) q
    · obtain ⟨b1, b2, b3⟩ := opens_mem (List.mem_of_getElem? hp)
      exact ev_call (p := p_stake_lottery K C) (g, p.1, x, p.2) (evA_cons (ev_var rfl) (evA_cons (ev_var rfl) (evA_cons (ev_var rfl) (evA_cons (ev_var rfl) evA_nil)))) ⟨ht _ b1, b2, b3, hx⟩
    · unfold dLs
      rw [List.map_map]; rfl
end
end SD
end
section
set_option maxHeartbeats 4000000
set_option exponentiation.threshold 100000
namespace SD
open PySem PySem.Spec PyProof.Rows L2 SH SM RZ
section
variable {P : Program} {w : World} {K : PySem.W.Frag} {mg : Str → Option Value} {base : Heap} {T : List Addr} {C : Addr}
theorem sc_laid : FnScope ["house", "pays", "goal", "tables", "x"] ["house", "pays"] (defScope s_laid) := ⟨rfl, rfl, rfl, by decide +kernel, rfl, by decide +kernel, by decide +kernel⟩
theorem ok_laid {f : Addr} {fd : FuncData} (F : FunD K "laid" "laid" (defArgs s_laid) (defBody s_laid) (defScope s_laid) [] [] f fd) (hm : mg "laid" = some (.ref f)) (B : Blt mg)  (h_checked_house : Has P w K mg base "checked_house" ["house"] 6 (spOf T (p_checked_house K C))) (h_made_board : Has P w K mg base "made_board" ["pays", "plays"] 5 (spOf T (p_made_board K C))) (h_house_plays : Has P w K mg base "house_plays" ["goal", "tables", "x"] 4 (spOf T (p_house_plays K C))) : Has P w K mg base "laid" ["house", "pays"] 7 (spOf T (p_laid K C)) :=
  has_of F hm sc_laid (fun _ _ _ _ _ _ us hl => match us, hl with | [_, _], _ => rfl) (fun _ => rfl) (by decide) fun cdv A outer s H E hr a c D hT hX hs q hnx => by
    subst hT
    refine ⟨_, (pss_cons (ps_asg (pe_has (h_checked_house.mono (by decide)) (hr) (pa_cons (pv 0) pa_nil)) (k_tup K 2 (pgs_cons (pg_name (i := 2) sc_laid.nd rfl (.inr rfl)) (pgs_cons (pg_name (i := 3) sc_laid.nd rfl (.inr rfl)) pgs_nil))))
      (pss_cons (ps_if (pt_cmpR op_ne (pe_callB (k_len K) (by rfl) B.len (by decide +kernel) (pa_cons (pv 1) pa_nil)) (pe_op op_add (pv 2) pe_int) (nomark _)) (pss_one ps_never) pss_nil)
      (pss_one (ps_ret (pe_has (h_made_board.mono (by decide)) (hr) (pa_cons (pv 1) (pa_cons (pe_callTy (k_tupOf K) (by rfl) B.tuple (by decide +kernel) (pa_cons (pe_lc (own := [("x", 4)]) rfl sc_laid.nd (pi_range1 (by rfl) B.range (pa_cons (pe_op op_add (pv 2) pe_int) pa_nil)) (blkOk_by (own := [("x", 4)]) (N := ["house", "pays", "goal", "tables", "x"]) (sc := defScope s_laid) (by decide +kernel)) (fun _ _ _ _ _ => (pg_name (i := 4) sc_laid.nd rfl (.inl rfl))) (fun _ _ _ _ _ => pts_nil) (fun _ _ _ _ _ => (pe_has (h_house_plays.mono (by decide)) (hr) (pa_cons (pv 2) (pa_cons (pv 3) (pa_cons (pv 4) pa_nil)))))) pa_nil)) pa_nil))))))), ?_⟩
    obtain ⟨g, ts⟩ := a
    have ho : HOk g ts := hs
    have g9 := ho.g9
    refine tri_seq (tri_asgT (ev_call (p := p_checked_house K C) (g, ts) (evA_cons (ev_var rfl) evA_nil) ho) (tgt_tup (ds := [.int (g : Nat), dTs ts]) (tgts_cons tgt_name (tgts_cons tgt_name tgts_nil)) rfl) ?_)
    refine tri_seq (tri_ifF (evT_is (evT_test (ev_op (ev_CB (evA_cons (ev_var (i := 1) rfl) evA_nil) (caV_lenT (ds := (goalPays g).map dR))) (ev_op (ev_var (i := 2) rfl) ev_int opV_int) opV_neI)) (by simp [goalPays])) (tri_next ?_))
    have ep : dRs (goalPays g) = dRs (houseB g ts).pays := rfl
    obtain ⟨N, hN⟩ : ∃ N, N = g + 1 := ⟨_, rfl⟩
    obtain ⟨ff, hff⟩ : ∃ ff : Nat → PyData, ff = fun x => dLs ((opens ts x).map fun p => stakeLot g p.1 x p.2) := ⟨_, rfl⟩
    have el : PyData.tuple ((List.range N).map ff) = dPl (houseB g ts).plays := by
      rw [hN, hff]
      unfold dPl houseB
      rw [List.map_map]; rfl
    have gb := house_gb ho
    have q' : Fin c (isB K C (houseB g ts)) D.rt := q
    generalize houseB g ts = bd at ep el gb q'
    refine tri_ret (ev_call (p := p_made_board K C) bd (evA_cons (ev_is (ev_var rfl) ep) (evA_cons (ev_is ?_ el) evA_nil)) gb) q'
    refine ev_CB (evA_cons (evO_data ?_) evA_nil) caV_tupL
    refine evO_rng (lo := 0) (n := N) ff (its_is (its_range1 (evA_cons (ev_op (ev_var (i := 2) rfl) ev_int opV_int) evA_nil) (by omega) (by omega)) (by rw [show ((g : Int) + 1).toNat = N by omega])) (by omega) fun x hx => ⟨_, _, tgt_name, by decide, evT_tt, ?_⟩
    rw [hff]
    exact ev_call (p := p_house_plays K C) (g, ts, x) (evA_cons (ev_var rfl) (evA_cons (ev_var rfl) (evA_cons (ev_is (ev_var rfl) (by simp)) evA_nil))) ⟨ho.few, ho.tbs, by dsimp only; omega⟩
end
end SD
end
section
set_option maxHeartbeats 1000000
set_option exponentiation.threshold 100000
namespace SD
open PySem PySem.Spec PyProof.Rows L2 SH SM RZ
section
def pk (pl : List Nat) (L : Lot) : List (Int × Nat) := L.map fun p => ((pl.getD p.1 0 : Int), p.2)
def psh (pl : List Nat) (L : Lot) : List (Int × Rat) := (srtK ((pk pl L).map (·.1))).map fun k => (k, Rat.divInt ((wK (pk pl L) k : Nat) : Int) ((wh L : Nat) : Int))
def dK (p : Int × Rat) : PyData := .tuple [.int p.1, dR p.2]
def dPsh (r : List (Int × Rat)) : PyData := .tuple (r.map dK)
structure PuOk (pl : List Nat) (L : Lot) : Prop where
  len : L.length ≤ 3
  lt : ∀ p ∈ L, p.1 < pl.length
  wp : 0 < wh L
  w27 : wh L ≤ 27
def p_pushed (K : PySem.W.Frag) (C : Addr) : Prom := ⟨Lot × List Nat, fun a => PuOk a.2 a.1, fun a => [isD K (dL a.1), isD K (dN a.2)], fun a => isD K (dPsh (psh a.2 a.1))⟩
variable {P : Program} {w : World} {K : PySem.W.Frag} {mg : Str → Option Value} {base : Heap} {T : List Addr} {C : Addr}
theorem sc_pushed : FnScope ["lottery", "places", "weights", "y", "weight", "whole", "place"] ["lottery", "places"] (defScope s_pushed) := ⟨rfl, rfl, rfl, by decide +kernel, rfl, by decide +kernel, by decide +kernel⟩
theorem ok_pushed {f : Addr} {fd : FuncData} (F : FunD K "pushed" "pushed" (defArgs s_pushed) (defBody s_pushed) (defScope s_pushed) [] [] f fd) (hm : mg "pushed" = some (.ref f)) (B : Blt mg)  (h_weight_of : Has P w K mg base "weight_of" ["lottery"] 1 (spOf T (p_weight_of K C))) (h_ratio : Has P w K mg base "ratio" ["n", "d"] 1 (spOf T (p_ratio K C))) : Has P w K mg base "pushed" ["lottery", "places"] 2 (spOf T (p_pushed K C)) :=
  has_of F hm sc_pushed (fun _ _ _ _ _ _ us hl => match us, hl with | [_, _], _ => rfl) (fun _ => rfl) (by decide) fun cdv A outer s H E hr a c D hT hX hs q hnx => by
    subst hT
    refine ⟨_, (pss_cons (ps_set (i := 2) sc_pushed.nd rfl (.inr rfl) pe_dnewK)
      (pss_cons (ps_for PassesOwn.never rfl (k_piT K (pv 0)) (k_tup K 2 (pgs_cons (pg_name (i := 3) sc_pushed.nd rfl (.inl rfl)) (pgs_cons (pg_name (i := 4) sc_pushed.nd rfl (.inl rfl)) pgs_nil)))
      (pss_one (ps_dput (hu_of hr) (pv 2) (pe_ix (k_ixT K) (pv 1) (pv 3) (fun _ _ => rfl)) (pe_op op_add (pe_dget2 (hu_of hr) (pv 2) (pe_ix (k_ixT K) (pv 1) (pv 3) (fun _ _ => rfl)) pe_int ⟨by rfl, by rfl, by rfl, by rfl⟩) (pv 4)) rfl)))
      (pss_cons (ps_set (i := 5) sc_pushed.nd rfl (.inr rfl) (pe_has (h_weight_of.mono (by decide)) (hr) (pa_cons (pv 0) pa_nil)))
      (pss_one (ps_ret (pe_callTy (k_tupOf K) (by rfl) B.tuple (by decide +kernel) (pa_cons (pe_lc (own := [("place", 6)]) rfl sc_pushed.nd (k_piL K (pe_callB k_sortZ (by rfl) B.sorted (by decide +kernel) (pa_cons (pv 2) pa_nil))) (blkOk_by (own := [("place", 6)]) (N := ["lottery", "places", "weights", "y", "weight", "whole", "place"]) (sc := defScope s_pushed) (by decide +kernel)) (fun _ _ _ _ _ => (pg_name (i := 6) sc_pushed.nd rfl (.inl rfl))) (fun _ _ _ _ _ => pts_nil) (fun _ _ _ _ _ => (pe_tup (pa_cons (pv 6) (pa_cons (pe_has (h_ratio.mono (by decide)) (hr) (pa_cons (pe_dget (hu_of hr) (pv 2) (pv 6) (fun _ _ => rfl)) (pa_cons (pv 5) pa_nil))) pa_nil))))) pa_nil))))))), ?_⟩
    obtain ⟨L, pl⟩ := a
    have ho : PuOk pl L := hs
    have h3 := ho.len
    have hwp := ho.wp
    have hw27 := ho.w27
    have get : ∀ p ∈ L, pl[p.1]? = some (pl.getD p.1 0) := fun p hp => by
      have := ho.lt p hp
      rw [List.getD_eq_getElem?_getD, List.getElem?_eq_getElem this]; rfl
    refine tri_seq (tri_asgO evO_dnew ?_)
    refine tri_seq (tri_forM (xs := L) (gd := dP) (its_tup (ev_var (i := 0) rfl)) (fun M => [.is (isD K (dL L)), .is (isD K (dN pl)), .own (ownZ (dictF (pk pl M))), .no, .no, .no, .no]) (by repeat (first | exact Weak.nil | refine Weak.same ?_ | refine Weak.none ?_)) (fun c' M p a1 a2 a3 a4 hp => ?_) ?_)
    · have hpm := prefix_mem hp
      have hlM : M.length < 100 := by have := prefix_lt hp; omega
      refine ⟨_, _, tgt_tup (ds := [_, _]) (tgts_cons tgt_name (tgts_cons tgt_name tgts_nil)) rfl, fun D' d1 d2 d3 d4 => ?_⟩
      refine tri_dput rfl (ev_op (ev_dget2 rfl (ev_op (ev_var (i := 1) rfl) (ev_var rfl) (opV_ixM rfl (get p hpm))) ev_int) (ev_var rfl) opV_int) (ev_op (ev_var (i := 1) rfl) (ev_var rfl) (opV_ixM rfl (get p hpm))) ?_ ?_
      · have := (dictF_keys (pk pl M)).2.2
        unfold pk at this
        rw [List.length_map] at this
        unfold pk
        omega
      · refine nx_weak ?_ d3
        have e : pk pl (M ++ [p]) = pk pl M ++ [((pl.getD p.1 0 : Int), p.2)] := by unfold pk; rw [List.map_append]; rfl
        rw [e, dictF_snoc]
        repeat (first | exact Weak.nil | refine Weak.same ?_ | refine Weak.none ?_)
    · have hlen : (dictF (pk pl L)).length < 64 := by
        have := (dictF_keys (pk pl L)).2.2
        unfold pk at this ⊢
        rw [List.length_map] at this
        omega
      have hsl : (srtK ((pk pl L).map (·.1))).length ≤ 3 := by
        have := srtK_len ((pk pl L).map (·.1))
        unfold pk at this ⊢
        rw [List.length_map, List.length_map] at this
        omega
      refine nx_tri (tri_seq (tri_asg (ev_call (p := p_weight_of K C) L (evA_cons (ev_var (i := 0) rfl) evA_nil) (show L.length ≤ 1000 by omega)) ?_))
      refine tri_ret (ev_is (ev_CB (evA_cons (evO_data (evO_map (xs := srtK ((pk pl L).map (·.1))) (gd := .int) (fun k => dK (k, Rat.divInt ((wK (pk pl L) k : Nat) : Int) ((wh L : Nat) : Int))) (its_list (evO_data (evO_sortZ rfl (dictF_srt _) (srtK_asc _) hlen))) (by omega) fun i k hk => ⟨_, _, tgt_name, by decide, evT_tt, ?_⟩)) evA_nil) caV_tupL) ?_) q
      · have hkm := mem_srtK.mp (List.mem_of_getElem? hk)
        refine ev_tup (ds := [.int k, dR (Rat.divInt ((wK (pk pl L) k : Nat) : Int) ((wh L : Nat) : Int))]) (evA_cons (ev_var rfl) (evA_cons (ev_call (p := p_ratio K C) (((wK (pk pl L) k : Nat) : Int), ((wh L : Nat) : Int)) (evA_cons (ev_dget rfl (ev_var rfl) ?_) (evA_cons (ev_var rfl) evA_nil)) ⟨by dsimp only; omega, ?_⟩) evA_nil))
        · rw [dictF_get, if_pos hkm]
        · exact lt_up 9000 (a := 5) (show ((wh L : Nat) : Int).natAbs < 2 ^ 5 by omega) (by decide)
      · unfold dPsh psh
        rw [List.map_map]; rfl
end
end SD
end
section
set_option maxHeartbeats 4000000
namespace SD
open PySem PySem.Spec PyProof.Rows L2 SM
def EvM (c : Ctx) (E : List Slo) (te : TE) (R : Rp) (E' : List Slo) : Prop := ∀ (σ : L2.St) (Hs H : Hp), Sat c σ Hs H E → ∀ Q : VK, (∀ v Hs' H', Ex Hs Hs' → Sat c σ Hs' H' E' → R.p Hs' v → Q v H') → te σ H Q
def EvAM (c : Ctx) (E : List Slo) (ta : TA) (Rs : List Rp) (E' : List Slo) : Prop := ∀ (σ : L2.St) (Hs H : Hp), Sat c σ Hs H E → ∀ Q : List V → Hp → Prop, (∀ vs Hs' H', Ex Hs Hs' → Sat c σ Hs' H' E' → All2 Hs' Rs vs → Q vs H') → ta σ H Q
def ownS (K : PySem.W.Frag) (oq : Option Addr) (ds : List PyData) : Op := ⟨fun H a o => (∀ q, oq = some q → a = q) ∧ ∃ vs, o = .lst vs ∧ DpAll K H vs ds, fun e ⟨h0, vs, h1, h2⟩ => ⟨h0, vs, h1, dpAll_ex e _ _ h2⟩, fun ⟨_, vs, h1, _⟩ ps z => by rw [h1] at z; cases z⟩
structure PromM where
  α : Type
  side : α → Prop
  src : α → List PyData
  args : α → List Rp
  res : α → Rp
  out : α → List PyData
def spM (K : PySem.W.Frag) (T : List Addr) (p : PromM) : Sp := fun vs H Q _ => ∃ (a : p.α) (Hs : Hp) (q : Addr) (rest us : List V), p.side a ∧ Okk T Hs H ∧ vs = .ref q :: rest ∧ All2 Hs (p.args a) rest ∧ Hs q = none ∧ H q = some (.lst us) ∧ DpAll K Hs us (p.src a) ∧
  ∀ v Hs' H' us', StpX [q] Hs H Hs' H' → (p.res a).p Hs' v → Hs' q = none → H' q = some (.lst us') → DpAll K Hs' us' (p.out a) → Q v H'
section
variable {K : PySem.W.Frag} {oq : Option Addr} {c : Ctx} {E E1 E2 : List Slo} {te ta tb : TE} {R S Z : Rp} {r : R2} {D : Ends} {t : TS} {P P' : Op}
theorem evM_of (h : Ev c E te R) : EvM c E te R E := fun σ Hs H e Q q => h σ Hs H e Q fun v Hs' H' s hv => q v Hs' H' s.s (e.move s) hv
theorem evAM_of {t : TA} {Rs : List Rp} (h : EvA c E t Rs) : EvAM c E t Rs E := fun σ Hs H e Q q => h σ Hs H e Q fun v Hs' H' s hv => q v Hs' H' s.s (e.move s) hv
theorem evM_is {d d' : PyData} (h : EvM c E te (isD K d) E1) (e : d = d') : EvM c E te (isD K d') E1 := e ▸ h
theorem evM_weak {R' : Rp} (h : EvM c E te R E1) (w : ∀ H v, R.p H v → R'.p H v) : EvM c E te R' E1 := fun σ Hs H e Q q => h σ Hs H e Q fun v Hs' H' x s h2 => q v Hs' H' x s (w _ _ h2)
theorem evM_to (h : EvM c E te R E1) (w : Weak E1 E2) : EvM c E te R E2 := fun σ Hs H e Q q => h σ Hs H e Q fun v Hs' H' x s h2 => q v Hs' H' x (s.weak w) h2
theorem evAM_nil : EvAM c E tNil [] E := fun σ Hs H e Q q => q [] Hs H (Evl.Ex.refl _) e .nil
theorem evAM_cons {t : TA} {Rs : List Rp} (h : EvM c E ta R E1) (ht : EvAM c E1 t Rs E2) : EvAM c E (tCons ta t) (R :: Rs) E2 := fun σ Hs H e Q q => by
  refine h σ Hs H e _ fun x Hs1 H1 x1 e1 hx => ht σ Hs1 H1 e1 _ fun xs Hs2 H2 x2 e2 hxs => ?_
  exact q (x :: xs) Hs2 H2 (x1.trans x2) e2 (.cons (R.mono x2 hx) hxs)
theorem Sat.moveX {σ : L2.St} {Hs H Hs' H' : Hp} (e : Sat c σ Hs H E) (s : Stp Hs H Hs' H') : Sat c σ Hs' H' E := e.move s
theorem evM_op (ha : EvM c E ta R E1) (hb : EvM c E1 tb S E2) (hr : OpV r R S Z) : EvM c E (tOp r ta tb) Z E2 := fun σ Hs H e Q q => by
  refine ha σ Hs H e _ fun x Hs1 H1 x1 e1 h1 => hb σ Hs1 H1 e1 _ fun y Hs2 H2 x2 e2 h2 => ?_
  exact hr x y Hs2 H2 e2.ok.sub (R.mono x2 h1) h2 Q fun v Hs3 H3 s3 h3 => q v Hs3 H3 (x1.trans (x2.trans s3.s)) (e2.move s3) h3
theorem evM_CB {rc : List V → Hp → VK → Prop} {t : TA} {Rs : List Rp} (h : EvAM c E t Rs E1) (hr : CaV rc Rs Z) : EvM c E (tCB rc t) Z E1 := fun σ Hs H e Q q => by
  refine h σ Hs H e _ fun vs Hs1 H1 x1 e1 hv => hr vs Hs1 H1 e1.ok.sub hv Q fun v Hs2 H2 s2 h2 => q v Hs2 H2 (x1.trans s2.s) (e1.move s2) h2
theorem evM_tup {t : TA} {ds : List PyData} (h : EvAM c E t (ds.map (isD K)) E1) (hl : ds.length ≤ 100000 := by first | decide | simp) : EvM c E (tTup t) (isD K (.tuple ds)) E1 := fun σ Hs H e Q q => by
  refine h σ Hs H e _ fun vs Hs1 H1 x1 e1 hv => ⟨Evl.sz_of (by rw [hv.length, List.length_map]; exact hl), fun p hp => ?_⟩
  have s := Stp.new (o := .tup vs) e1.ok.sub hp
  exact q _ _ _ (x1.trans s.s) (e1.move s) (.tup (SqT.of upd_same) (dpAll_ex s.s _ _ hv.dp))
theorem evM_lst {t : TA} {ds : List PyData} (h : EvAM c E t (ds.map (isD K)) E1) (hl : ds.length ≤ 100000 := by first | decide | simp) : EvM c E (tLst t) (isD K (.list ds)) E1 := fun σ Hs H e Q q => by
  refine h σ Hs H e _ fun vs Hs1 H1 x1 e1 hv => ⟨Evl.sz_of (by rw [hv.length, List.length_map]; exact hl), fun p hp => ?_⟩
  have s := Stp.new (o := .lst vs) e1.ok.sub hp
  exact q _ _ _ (x1.trans s.s) (e1.move s) (.lst (SqL.of upd_same) (dpAll_ex s.s _ _ hv.dp))
theorem evM_call {p : Prom} {t : TA} (a : p.α) (h : EvAM c E t (p.args a) E1) (hs : p.side a) : EvM c E (tCall (spOf c.T p) [] E0 t) (p.res a) E1 := fun σ Hs H e Q q => by
  refine h σ Hs H e _ fun vs Hs1 H1 x1 e1 hv => ⟨a, Hs1, hs, e1.ok, by rw [List.append_nil]; exact hv, fun v Hs2 H2 s2 h2 => q v Hs2 H2 (x1.trans s2.s) (e1.move s2) h2⟩
theorem Sat.src_at {σ : L2.St} {Hs H : Hp} {i : Nat} {ds : List PyData} (e : Sat c σ Hs H E) (hi : E[i]? = some (.own (ownS K oq ds))) : ∃ p vs, σ[i]? = some (some (.ref p)) ∧ Hs p = none ∧ H p = some (.lst vs) ∧ DpAll K Hs vs ds ∧ ∀ q, oq = some q → p = q := by
  obtain ⟨p, o, h1, h2, h3, ⟨h0, vs, h4, h5⟩, _⟩ := e.own i _ hi
  subst h4
  exact ⟨p, vs, h1, h2, h3, h5, h0⟩
theorem ev_ixS {i : Nat} {ds : List PyData} {n : Int} {d : PyData} (hi : E[i]? = some (.own (ownS K oq ds))) (h2 : Ev c E tb (isD K (.int n))) (h0 : 0 ≤ n) (hd : ds[n.toNat]? = some d) : Ev c E (tOp (rIxL K) (tVar i) tb) (isD K d) := fun σ Hs H e Q q => by
  obtain ⟨p, vs, a1, a2, a3, a4, _⟩ := e.src_at hi
  refine ⟨.ref p, a1, h2 σ Hs H e _ fun y Hs2 H2 s2 hy => ?_⟩
  obtain ⟨p', vs', b1, b2, b3, b4, _⟩ := (e.move s2).src_at hi
  rw [a1] at b1
  cases b1
  cases hy
  obtain ⟨v, g1, g2⟩ := dpAll_get b4 hd
  have ea := atI_of g1
  rw [Int.toNat_of_nonneg h0] at ea
  exact ⟨p, vs', n, v, rfl, rfl, SqL.of b3, ea, q v Hs2 H2 s2 g2⟩
theorem tri_setS {i : Nat} {ds : List PyData} {n : Int} {d : PyData} (hi : E[i]? = some (.own (ownS K oq ds))) (h : Ev c E te (isD K d)) (h2 : Ev c E tb (isD K (.int n))) (h0 : 0 ≤ n) (hn : n.toNat < ds.length) (k : Nx c (E.set i (.own (ownS K oq (ds.set n.toNat d)))) D.nx) : Tri c E (tAsg te (gSub (tVar i) tb rSetL)) D := fun σ Hs H e => h σ Hs H e _ fun v Hs1 H1 s1 hv => by
  have e1 := e.move s1
  obtain ⟨p, vs, a1, a2, a3, a4, _⟩ := e1.src_at hi
  refine ⟨.ref p, a1, h2 σ Hs1 H1 e1 _ fun y Hs2 H2 s2 hy => ?_⟩
  have e2 := e1.move s2
  obtain ⟨p', vs', b1, b2, b3, b4, b5⟩ := e2.src_at hi
  rw [a1] at b1
  cases b1
  cases hy
  refine ⟨p, vs', n, n.toNat, rfl, rfl, b3, ?_, ?_⟩
  · unfold ixN
    rw [if_pos h0, if_pos (by rw [dpAll_length b4]; omega)]
  · exact k σ Hs2 _ (e2.write hi a1 b3 (fun ps z => by cases z) ⟨b5, _, rfl, dpAll_set (dp_ex s2.s _ _ hv) _ b4⟩)
theorem Sat.moveM {σ : L2.St} {Hs H Hs' H' : Hp} {i : Nat} {q : Addr} {ds ds' : List PyData} {us' : List V} (e : Sat c σ Hs H E) (hi : E[i]? = some (.own (ownS K oq ds))) (hσ : σ[i]? = some (some (.ref q))) (s : StpX [q] Hs H Hs' H') (n : Hs' q = none) (hq : H' q = some (.lst us')) (hd : DpAll K Hs' us' ds') :
    Sat c σ Hs' H' (E.set i (.own (ownS K oq ds'))) := by
  obtain ⟨p0, o0, b1, b2, b3, ⟨b40, _⟩, b5⟩ := e.own i _ hi
  rw [hσ] at b1
  cases b1
  have hl := (List.getElem?_eq_some_iff.mp hi).1
  refine ⟨e.ok.stp s, ⟨e.stp.s.trans s.s, s.i, fun a o hX ea hn => ?_, fun a ha => s.t a (e.stp.t a ha), fun a h1 h2 => s.f a (e.stp.d a h1) (e.stp.f a h1 h2), fun a h1 => s.d a (e.stp.d a h1)⟩, c.gm s.s e.g, by rw [List.length_set]; exact e.len, fun j R hj => ?_, fun j Q hj => ?_, fun j k P1 P2 u hjk hj hk hu => ?_⟩
  · have h1 := e.stp.k a o hX ea hn
    refine s.k a o (fun z => ?_) h1 hn
    have : a = q := by simpa using z
    rcases b5 with b5 | b5
    · rw [this, b5] at ea; cases ea
    · exact hX (this ▸ b5)
  · have hij : i ≠ j := fun z => by
      subst z
      rw [List.getElem?_set_self hl] at hj; cases hj
    rw [List.getElem?_set_ne hij] at hj
    obtain ⟨v, h1, h2⟩ := e.val j R hj
    exact ⟨v, h1, R.mono s.s h2⟩
  · by_cases hij : i = j
    · subst hij
      rw [List.getElem?_set_self hl] at hj
      cases hj
      exact ⟨q, _, hσ, n, hq, ⟨b40, us', rfl, hd⟩, b5⟩
    · rw [List.getElem?_set_ne hij] at hj
      obtain ⟨p, u, a1, a2, a3, a4, a5⟩ := e.own j Q hj
      have : p ≠ q := fun z => by
        rw [z] at a1
        exact e.apart i j _ Q q hij hi hj hσ a1
      exact ⟨p, u, a1, s.f p (by rw [a3]; exact Option.some_ne_none _) a2, s.k p u (by simpa using this) a3 (Q.nt a4), Q.mono s.s a4, a5⟩
  · have old : ∀ {m : Nat} {Q : Op}, (E.set i (.own (ownS K oq ds')))[m]? = some (.own Q) → ∃ Q', E[m]? = some (.own Q') := fun {m Q} hm => by
      by_cases him : i = m
      · subst him; exact ⟨_, hi⟩
      · rw [List.getElem?_set_ne him] at hm; exact ⟨Q, hm⟩
    obtain ⟨Q1, a1⟩ := old hj
    obtain ⟨Q2, a2⟩ := old hk
    exact e.apart j k Q1 Q2 u hjk a1 a2 hu
theorem evM_callM {p : PromM} {t : TA} {i : Nat} (a : p.α) (hi : E1[i]? = some (.own (ownS K oq (p.src a)))) (h : EvAM c E t (p.args a) E1) (hi0 : ∃ P, E[i]? = some (.own P)) (hs : p.side a) : EvM c E (tCall (spM K c.T p) [] E0 (tCons (tVar i) t)) (p.res a) (E1.set i (.own (ownS K oq (p.out a)))) := fun σ Hs H e Q q => by
  obtain ⟨P0, hP0⟩ := hi0
  obtain ⟨p0, o0, z1, _, _, _, _⟩ := e.own i P0 hP0
  refine ⟨.ref p0, z1, h σ Hs H e _ fun vs Hs1 H1 x1 e1 hv => ?_⟩
  obtain ⟨p1, us, y1, y2, y3, y4, _⟩ := e1.src_at hi
  rw [z1] at y1
  cases y1
  refine ⟨a, Hs1, p0, vs, us, hs, e1.ok, by rw [List.append_nil], hv, y2, y3, y4, fun v Hs' H' us' s hR n hq hd => ?_⟩
  exact q v Hs' H' (x1.trans s.s) (e1.moveM hi z1 s n hq hd) hR
theorem triM_asg {i : Nat} (h : EvM c E te R E1) (k : Nx c (E1.set i (.is R)) D.nx) : Tri c E (tAsg te (gName i)) D := fun σ Hs H e =>
  h σ Hs H e _ fun v Hs1 H1 x1 e1 hv => k _ Hs1 H1 (e1.set hv i)
theorem triM_ret (h : EvM c E te R E1) (k : ∀ v Hs' H' σ, Sat c σ Hs' H' E1 → R.p Hs' v → D.rt v H') : Tri c E (tRet te) D := fun σ Hs H e => h σ Hs H e _ fun v Hs1 H1 x1 e1 hv => k v Hs1 H1 σ e1 hv
theorem triM_parO {i j : Nat} (h1 : EvM c E ta R E1) (h2 : EvO c E1 tb P) (k : Nx c ((E1.set i (.is R)).set j (.own P)) D.nx) : Tri c E (tPar i j (tCons ta (tCons tb tNil))) D := fun σ Hs H e =>
  h1 σ Hs H e _ fun v Hs1 H1 x1 e1 hv => h2 σ Hs1 H1 e1 _ fun p o Hs2 H2 s2 n1 n2 hp hP => by
    refine ⟨v, .ref p, rfl, ?_⟩
    have e2 := (e1.move s2).set (R.mono s2.s hv) i
    exact k _ Hs2 H2 (e2.setO hp n2 hP (.inl (e1.fresh0 n1)) (fun m Q hm => own_apart (e1.set hv i) n1 m Q hm) j)
theorem triM_par {i j : Nat} (h1 : EvM c E ta R E1) (h2 : EvM c E1 tb S E2) (k : Nx c ((E2.set i (.is R)).set j (.is S)) D.nx) : Tri c E (tPar i j (tCons ta (tCons tb tNil))) D := fun σ Hs H e =>
  h1 σ Hs H e _ fun v Hs1 H1 x1 e1 hv => h2 σ Hs1 H1 e1 _ fun w Hs2 H2 x2 e2 hw => by
    refine ⟨v, w, rfl, ?_⟩
    exact k _ Hs2 H2 ((e2.set (R.mono x2 hv) i).set hw j)
theorem triM_app {i : Nat} {ds ds0 : List PyData} {d : PyData} (hi0 : E[i]? = some (.own (ownL K ds0))) (hi : E1[i]? = some (.own (ownL K ds))) (h : EvM c E te (isD K d) E1) (hl : ds.length < 100000) (k : Nx c (E1.set i (.own (ownL K (ds ++ [d])))) D.nx) :
    Tri c E (tDrop (tBM K "list" rAppend (tVar i) (tCons te tNil))) D := fun σ Hs H e => by
  obtain ⟨p, vs, h1, h2, h3, h4⟩ := e.own_at hi0
  refine ⟨.ref p, h1, .inl ⟨rfl, vs, SqL.of h3⟩, ?_⟩
  refine h σ Hs H e _ fun v Hs1 H1 x1 e1 hv => ?_
  obtain ⟨p', vs', g1, g2, g3, g4⟩ := e1.own_at hi
  rw [h1] at g1
  cases g1
  refine ⟨p, vs', v, rfl, rfl, g3, Evl.sz_lt (by rw [dpAll_length g4]; omega), ?_⟩
  exact k σ Hs1 _ (e1.write hi h1 g3 (fun ps z => by cases z) ⟨vs' ++ [v], rfl, dpAll_append g4 (.cons hv .nil)⟩)
def ItsM (c : Ctx) (E : List Slo) (wi : TI) (Rs : List Rp) (E1 : List Slo) : Prop := ∀ (σ : L2.St) (Hs H : Hp), Sat c σ Hs H E → ∀ RR : It → Hp → Prop, (∀ J Hs' H', Sat c σ Hs' H' E1 → ItOk Hs' J Rs → RR J H') → wi σ H RR
theorem itsM_range1 {t : TA} {j : Int} (h : EvAM c E t [isD K (.int j)] E1) (h1 : -(2 ^ 62) ≤ j) (h2 : j < 2 ^ 62) : ItsM c E (iRng1 t) ((List.range j.toNat).map fun i : Nat => isD K (.int (0 + (i : Int)))) E1 := fun σ Hs H e RR q => h σ Hs H e _ fun vs Hs1 H1 x1 e1 hv => by
  cases hv with
  | cons a b =>
    cases b; cases a
    exact ⟨j, rfl, h1, h2, q _ Hs1 H1 e1 itOk_range⟩
theorem triM_for {wi : TI} {g : TG} {tb : TS} {Rs : List Rp} (hi : ItsM c E wi Rs E1) (I : Nat → List Slo) (h0 : Weak E1 (I 0))
    (turn : ∀ (c' : Ctx) (i : Nat) (R : Rp), c'.T = c.T → c'.X = c.X → c'.Hs0 = c.Hs0 → c'.H0 = c.H0 → Rs[i]? = some R → ∃ js E1, Tgt c' (I i) g R js E1 ∧ ∀ D' : Ends, D'.rt = D.rt → D'.bk = D.nx → Nx c' (I (i + 1)) D'.nx → Nx c' (I (i + 1)) D'.ct → Tri c' E1 tb D')
    (hd : Nx c (I Rs.length) D.nx) : Tri c E (tFor wi g tb) D := fun σ Hs H e => hi σ Hs H e _ fun J Hs1 H1 e1 hJ => by
  let c' : Ctx := c.also (fun Hx => ItOk Hx J Rs) fun ex h => h.ex ex
  refine ⟨fun i m σ H => m = Rs.length - i ∧ i ≤ Rs.length ∧ ∃ Hs, Sat c' σ Hs H (I i), ⟨Rs.length, by simp, Nat.zero_le _, Hs1, (e1.weak h0).more hJ⟩, ?_⟩
  rintro i m σ2 H2 ⟨rfl, hi2, Hs2, e2⟩
  have hJ2 : ItOk Hs2 J Rs := e2.g.2
  by_cases hlt : i < Rs.length
  · refine .inr ⟨hJ2.go Hs2 H2 (Evl.Ex.refl _) e2.ok.sub i hlt, fun σ' H' => ∃ Hs, Sat c' σ' Hs H' (I (i + 1)), fun σ' H' p => ⟨Rs.length - (i + 1), by omega, rfl, hlt, p⟩, fun x H' y => ?_⟩
    have hR : Rs[i]? = some Rs[i] := List.getElem?_eq_getElem hlt
    obtain ⟨Hs3, s3, hx⟩ := hJ2.yld Hs2 H2 (Evl.Ex.refl _) e2.ok.sub i x H' _ hR y
    obtain ⟨js, E1, t, b⟩ := turn c' i _ rfl rfl rfl rfl hR
    refine t.run σ2 Hs3 H' x (e2.move s3) hx _ fun σ' e' _ _ => ?_
    exact b { nx := fun σ' H' => ∃ Hs, Sat c' σ' Hs H' (I (i + 1)), rt := D.rt, bk := D.nx, ct := fun σ' H' => ∃ Hs, Sat c' σ' Hs H' (I (i + 1)) } rfl rfl (fun σ4 Hs4 H4 e4 => ⟨Hs4, e4⟩) (fun σ4 Hs4 H4 e4 => ⟨Hs4, e4⟩) σ' Hs3 H' e'
  · have en : i = Rs.length := by omega
    subst en
    exact .inl ⟨hJ2.stop Hs2 H2 (Evl.Ex.refl _) e2.ok.sub, hd σ2 Hs2 H2 e2.drop⟩
end
section
variable {P : Program} {w : World} {K : PySem.W.Frag} {mg : Str → Option Value} {base : Heap} {T : List Addr}
def entryM (K : PySem.W.Frag) (q : Addr) (ds : List PyData) (Rs : List Rp) (n : Nat) : List Slo := .own (ownS K (some q) ds) :: (Rs.map .is ++ List.replicate (n - 1 - Rs.length) .no)
def FinM (K : PySem.W.Frag) (c : Ctx) (q : Addr) (R : Rp) (ds : List PyData) (Q : VK) : Prop := ∀ v Hs' H' us', StpX c.X c.Hs0 c.H0 Hs' H' → R.p Hs' v → Hs' q = none → H' q = some (.lst us') → DpAll K Hs' us' ds → Q v H'
theorem satM_start {c : Ctx} {Rs : List Rp} {N : List Str} {q : Addr} {us vs : List V} {ds : List PyData} (ok : Okk c.T c.Hs0 c.H0) (g : c.G c.Hs0) (hX : c.X = [q]) (h : All2 c.Hs0 Rs vs) (hl : Rs.length + 1 ≤ N.length) (n : c.Hs0 q = none) (hq : c.H0 q = some (.lst us)) (hd : DpAll K c.Hs0 us ds) :
    Sat c (L2.start N (.ref q :: vs)) c.Hs0 c.H0 (entryM K q ds Rs N.length) := by
  have l := h.length
  have e0 : L2.start N (.ref q :: vs) = some (.ref q) :: (vs.map some ++ List.replicate (N.length - 1 - vs.length) none) := by
    unfold L2.start
    rw [List.map_cons, List.length_cons, List.cons_append]
    congr 3
    omega
  rw [e0]
  have tail : ∀ (i : Nat) (s : Slo), (Rs.map Slo.is ++ List.replicate (N.length - 1 - Rs.length) Slo.no)[i]? = some s → (∃ R, s = .is R ∧ ∃ v, (vs.map some ++ List.replicate (N.length - 1 - vs.length) none)[i]? = some (some v) ∧ R.p c.Hs0 v) ∨ s = .no := fun i s hi => by
    by_cases hlt : i < Rs.length
    · rw [List.getElem?_append_left (by rw [List.length_map]; exact hlt), List.getElem?_map] at hi
      cases hR : Rs[i]? with
      | none => rw [hR] at hi; cases hi
      | some R' =>
        rw [hR] at hi
        cases hi
        obtain ⟨v, h1, h2⟩ := h.get hR
        refine .inl ⟨R', rfl, v, ?_, h2⟩
        rw [List.getElem?_append_left (by rw [List.length_map]; omega), List.getElem?_map, h1]; rfl
    · rw [List.getElem?_append_right (by rw [List.length_map]; omega), List.getElem?_replicate] at hi
      split at hi
      · cases hi; exact .inr rfl
      · cases hi
  refine ⟨ok, StpX.refl ok.sub, g, ?_, fun i R hi => ?_, fun i P hi => ?_, fun i j P P' p hij hi hj => ?_⟩
  · unfold entryM
    simp; omega
  · cases i with
    | zero => cases hi
    | succ i =>
      rcases tail i _ hi with ⟨R', e1, v, h1, h2⟩ | e1
      · cases e1; exact ⟨v, h1, h2⟩
      · cases e1
  · cases i with
    | zero =>
      cases hi
      exact ⟨q, _, rfl, n, hq, ⟨fun z hz => Option.some.inj hz, us, rfl, hd⟩, .inr (by rw [hX]; exact List.mem_singleton.mpr rfl)⟩
    | succ i =>
      rcases tail i _ hi with ⟨R', e1, _⟩ | e1 <;> cases e1
  · cases i with
    | zero =>
      cases j with
      | zero => exact absurd rfl hij
      | succ j => rcases tail j _ hj with ⟨R', e1, _⟩ | e1 <;> cases e1
    | succ i => rcases tail i _ hi with ⟨R', e1, _⟩ | e1 <;> cases e1
theorem hasM_of {x qual : Str} {params : Arguments} {body : List Stmt} {scope : Scope} {f : Addr} {fd : FuncData} {N ps : List Str} {k : Nat} {p : PromM} (F : FunD K x qual params body scope [] [] f fd) (hm : mg x = some (.ref f)) (S : FnScope N ps scope)
    (bd : ∀ (kV doc pm : Value) (an : Option Addr) (cdv ct : Value) (us : List Value), us.length = ps.length → bindArgs (PySem.W.fnOf x qual params body scope .none kV doc pm an cdv ct) ⟨us, []⟩ = pure (ps.zip us))
    (hl : ∀ a, (p.args a).length + 1 = ps.length) (hN : ps.length ≤ N.length)
    (hbody : ∀ (cdv : Value) (A : Around) (outer : List Env) (s : Shared) (H : Hp) (E : XK), Room k (A.deeper (envOfC qual scope s.heap.objs.size f cdv)) →
      ∀ (a : p.α) (c : Ctx) (D : Ends) (q : Addr), c.T = T → c.X = [q] → p.side a → FinM K c q (p.res a) (p.out a) D.rt → D.nx = (fun _ H' => D.rt .non H') →
        ∃ t, PSs (cxOf CX0 P w K mg base N qual scope f cdv A outer s H E).nox body t ∧ Tri c (entryM K q (p.src a) (p.args a) N.length) t D) : Has P w K mg base x ps (k + 1) (spM K T p) := by
  refine ⟨f, fd, hm, F.kp, F.bindsN bd, F.ok S (fun vs H Q E h => ?_) (fun cdv A outer s H vs Q E hr h => ?_)⟩
  · obtain ⟨a, Hs, q, rest, us, _, _, e, hv, _⟩ := h
    rw [e, List.length_cons, hv.length, hl]
  · obtain ⟨a, Hs, q, rest, us, hs, ok, e, hv, hn, hq, hd, fin⟩ := h
    subst e
    obtain ⟨t, h1, h2⟩ := hbody cdv A outer s H E hr a ⟨T, [q], Hs, H, fun _ => True, fun _ _ => trivial⟩ { nx := fun _ H' => Q .non H', rt := Q } q rfl rfl hs (fun v Hs' H' us' st hR n1 q1 d1 => fin v Hs' H' us' st hR n1 q1 d1) rfl
    exact ⟨t, h1.nox, h2 _ Hs H (satM_start (c := ⟨T, [q], Hs, H, fun _ => True, fun _ _ => trivial⟩) ok trivial rfl hv (by rw [hl]; exact hN) hn hq hd)⟩
theorem finM_of {c : Ctx} {q : Addr} {R : Rp} {ds : List PyData} {Q : VK} {E : List Slo} {i : Nat} (h : FinM K c q R ds Q) (he : E[i]? = some (.own (ownS K (some q) ds))) : ∀ v Hs' H' σ, Sat c σ Hs' H' E → R.p Hs' v → Q v H' := fun v Hs H σ e hR => by
  obtain ⟨p, vs, a1, a2, a3, a4, a5⟩ := e.src_at he
  have := a5 q rfl
  subst this
  exact h v Hs H vs e.stp hR a2 a3 a4
theorem nx_src {c : Ctx} {E : List Slo} {Q : L2.St → Hp → Prop} {i : Nat} {ds : List PyData} (hi : E[i]? = some (.own (ownL K ds))) (k : Nx c (E.set i (.own (ownS K none ds))) Q) : Nx c E Q := fun σ Hs H e => by
  obtain ⟨p, vs, a1, a2, a3, a4⟩ := e.own_at hi
  have h := e.write hi a1 a3 (fun ps z => by cases z) (P' := ownS K none ds) (o' := .lst vs) ⟨(fun z hz => nomatch hz), vs, rfl, a4⟩
  rw [upd_id a3] at h
  exact k σ Hs H h
end
end SD
end
section
namespace SM
abbrev Src := Int × Int
structure SOk (s : Src) : Prop where
  big : 0 ≤ s.1
  mix : 0 ≤ s.2
  mix2 : s.2 < 2 ^ 31
def take (s : Src) (top : Int) : Int × Src :=
  if 0 < s.1 then (s.1 % top, (s.1 / top, s.2))
  else ((((s.2 * 39373 + 7) % 2147483647 * ((s.2 * 39373 + 7) % 2147483647)) % 2147483629 / 32) % top, (s.1, (s.2 * 39373 + 7) % 2147483647))
theorem take_ok {s : Src} (h : SOk s) {top : Int} (ht : 0 < top) : SOk (take s top).2 ∧ 0 ≤ (take s top).1 ∧ (take s top).1 < top := by
  obtain ⟨h1, h2, h3⟩ := h
  unfold take
  split
  · refine ⟨⟨Int.ediv_nonneg h1 (by omega), h2, h3⟩, Int.emod_nonneg _ (by omega), Int.emod_lt_of_pos _ ht⟩
  · refine ⟨⟨h1, Int.emod_nonneg _ (by decide), ?_⟩, Int.emod_nonneg _ (by omega), Int.emod_lt_of_pos _ ht⟩
    have := Int.emod_lt_of_pos (s.2 * 39373 + 7) (show (0 : Int) < 2147483647 by decide)
    show (s.2 * 39373 + 7) % 2147483647 < 2 ^ 31
    omega
def cell (ns : List Int) (k : Nat) : Int := if k < ns.length then ns.getD k 0 else if ns ≠ [] then ns.getD 0 0 else 0
def bigOf (z : Int) : Int := max z (-1 - z)
def pool (ns : List Int) (k : Nat) : Src :=
  (bigOf (cell ns k) * (if bigOf (cell ns k) ≥ 10 ^ 18 then 1 else 0), ((bigOf (cell ns k) % 2147483629 + 7919 * (k : Int) * (k : Int) + 31 * (k : Int) + 17) * 48271) % 2147483647)
theorem big_nn (z : Int) : 0 ≤ bigOf z := by unfold bigOf; omega
theorem pool_ok (ns : List Int) (k : Nat) : SOk (pool ns k) := by
  refine ⟨?_, Int.emod_nonneg _ (by decide), ?_⟩
  · unfold pool
    dsimp only
    have := big_nn (cell ns k)
    split <;> omega
  · have := Int.emod_lt_of_pos ((bigOf (cell ns k) % 2147483629 + 7919 * (k : Int) * (k : Int) + 31 * (k : Int) + 17) * 48271) (show (0 : Int) < 2147483647 by decide)
    show ((bigOf (cell ns k) % 2147483629 + 7919 * (k : Int) * (k : Int) + 31 * (k : Int) + 17) * 48271) % 2147483647 < 2 ^ 31
    omega
def low (n d : Int) : Int × Int := (n / ((n.natAbs.gcd d.natAbs : Nat) : Int), d / ((n.natAbs.gcd d.natAbs : Nat) : Int))
end SM
end
section
set_option maxHeartbeats 4000000
set_option exponentiation.threshold 100000
namespace SD
open PySem PySem.Spec PyProof.Rows L2 SH SM RZ
section
def dS (s : Src) : List PyData := [.int s.1, .int s.2]
def p__law_take (K : PySem.W.Frag) (C : Addr) : PromM := ⟨Src × Int, fun a => SOk a.1 ∧ 0 < a.2 ∧ a.2 < 2 ^ 16, fun a => dS a.1, fun a => [isD K (.int a.2)], fun a => isD K (.int (take a.1 a.2).1), fun a => dS (take a.1 a.2).2⟩
def one (s : Src) (ds : List PyData) : PyData := ds.getD (take s (ds.length : Int)).1.toNat .none
def p__law_one (K : PySem.W.Frag) (C : Addr) : PromM := ⟨Src × List PyData, fun a => SOk a.1 ∧ 0 < a.2.length ∧ a.2.length < 2 ^ 15, fun a => dS a.1, fun a => [isD K (.list a.2)], fun a => isD K (one a.1 a.2), fun a => dS (take a.1 (a.2.length : Int)).2⟩
def p__law_low (K : PySem.W.Frag) (C : Addr) : Prom := ⟨Int × Int, fun a => 0 < a.2 ∧ a.2.natAbs < 2 ^ 9000, fun a => [isD K (.int a.1), isD K (.int a.2)], fun a => isD K (dR (Rat.divInt a.1 a.2))⟩
def p__law_is_ratio (K : PySem.W.Frag) (C : Addr) : Prom := ⟨Rat, fun a => Sm a, fun a => [isD K (dR a)], fun a => isD K (.bool true)⟩
def p__law_is_function (K : PySem.W.Frag) (C : Addr) : Prom := ⟨List Rat, fun a => a.length ≤ 1000 ∧ ∀ q ∈ a, Sm q, fun a => [isD K (dRs a), isD K (.int (a.length : Nat))], fun a => isD K (.bool true)⟩
def p__law_times (K : PySem.W.Frag) (C : Addr) : Prom := ⟨Nat × List Tb × Nat, fun a => a.1 ≤ 100 ∧ a.2.1.length ≤ 10 ∧ a.2.2 ≤ 100 ∧ ∀ t ∈ a.2.1, t.low ≤ 100 ∧ t.high ≤ 100 ∧ t.step ≤ 100 ∧ t.fee ≤ 100, fun a => [isD K (dH a.1 a.2.1), isD K (.int (a.2.2 : Nat))], fun a => isD K (dH (a.1 * a.2.2) (a.2.1.map (mulT a.2.2)))⟩
variable {P : Program} {w : World} {K : PySem.W.Frag} {mg : Str → Option Value} {base : Heap} {T : List Addr} {C : Addr}
theorem evT_truthL {c : Ctx} {E : List Slo} {te : TE} {ds : List PyData} (h : Ev c E te (isD K (.list ds))) : EvT c E (tTru K te) (!ds.isEmpty) := fun σ Hs H e Q q => h σ Hs H e _ fun v Hs' H' s hv => by
  cases hv with
  | @lst a vs _ hs ha =>
    refine ⟨!ds.isEmpty, .inl ⟨vs, Evl.ex_l s.i hs, ?_⟩, q Hs' H' s⟩
    have l := dpAll_length ha
    cases vs <;> cases ds <;> simp at l ⊢
theorem sc__law_take : FnScope ["_law_source", "_law_top", "_law_drawn"] ["_law_source", "_law_top"] (defScope s__law_take) := ⟨rfl, rfl, rfl, by decide +kernel, rfl, by decide +kernel, by decide +kernel⟩
theorem ok__law_take {f : Addr} {fd : FuncData} (F : FunD K "_law_take" "_law_take" (defArgs s__law_take) (defBody s__law_take) (defScope s__law_take) [] [] f fd) (hm : mg "_law_take" = some (.ref f)) (B : Blt mg)   : Has P w K mg base "_law_take" ["_law_source", "_law_top"] 1 (spM K T (p__law_take K C)) :=
  hasM_of F hm sc__law_take (fun _ _ _ _ _ _ us hl => match us, hl with | [_, _], _ => rfl) (fun _ => rfl) (by decide) fun cdv A outer s H E hr a c D qa hT hX hs q hnx => by
    subst hT
    refine ⟨_, (pss_cons (ps_if (pt_cmpR op_gt (pe_ix (k_ixL K) (pv 0) pe_int (fun _ _ => rfl)) pe_int (nomark _)) (pss_cons (ps_set (i := 2) sc__law_take.nd rfl (.inl rfl) (pe_op op_mod (pe_callTy call_int1 (by rfl) B.int (by decide +kernel) (pa_cons (pe_ix (k_ixL K) (pv 0) pe_int (fun _ _ => rfl)) pa_nil)) (pv 1)))
      (pss_cons (ps_asg (pe_op op_fdivW (pe_ix (k_ixL K) (pv 0) pe_int (fun _ _ => rfl)) (pv 1)) (pg_sub (pv 0) pe_int set_list))
      (pss_one (ps_ret (pv 2))))) pss_nil)
      (pss_cons (ps_asg (pe_op op_mod (pe_callTy call_int1 (by rfl) B.int (by decide +kernel) (pa_cons (pe_op op_add (pe_op op_mulW (pe_ix (k_ixL K) (pv 0) pe_int (fun _ _ => rfl)) pe_int) pe_int) pa_nil)) pe_int) (pg_sub (pv 0) pe_int set_list))
      (pss_one (ps_ret (pe_op op_mod (pe_callTy call_int1 (by rfl) B.int (by decide +kernel) (pa_cons (pe_op op_fdivW (pe_op op_mod (pe_callTy call_int1 (by rfl) B.int (by decide +kernel) (pa_cons (pe_op op_mulW (pe_ix (k_ixL K) (pv 0) pe_int (fun _ _ => rfl)) (pe_ix (k_ixL K) (pv 0) pe_int (fun _ _ => rfl))) pa_nil)) pe_int) pe_int) pa_nil)) (pv 1)))))), ?_⟩
    obtain ⟨s, top⟩ := a
    obtain ⟨ho, h0, ht⟩ := hs
    dsimp only at ho h0 ht
    obtain ⟨o1, o2, o3⟩ := ho
    have fin : FinM K c qa (isD K (.int (take s top).1)) (dS (take s top).2) D.rt := q
    have hW : ∀ i : Int, CDivW i top := fun i => divW_of 16 h0 (by omega)
    have hms : ((s.2 * 39373 + 7) % 2147483647).natAbs < 2 ^ 32 := by
      have h1 := Int.emod_nonneg (s.2 * 39373 + 7) (show (2147483647 : Int) ≠ 0 by decide)
      have h2 := Int.emod_lt_of_pos (s.2 * 39373 + 7) (show (0 : Int) < 2147483647 by decide)
      omega
    refine tri_seq (tri_if (evT_test (ev_op (ev_ixS (i := 0) rfl ev_int (by decide) rfl) ev_int opV_bool)) (fun hb1 => ?_) fun hb1 => tri_next ?_)
    · have hp : 0 < s.1 := of_decide_eq_true hb1
      have et : take s top = (s.1 % top, (s.1 / top, s.2)) := by unfold take; rw [if_pos hp]
      rw [et] at fin
      refine tri_seq (tri_asg (ev_op (ev_CB (evA_cons (ev_ixS (i := 0) rfl ev_int (by decide) rfl) evA_nil) caV_int) (ev_var (i := 1) rfl) (opV_mod h0)) ?_)
      refine tri_seq (tri_setS rfl (ev_op (ev_ixS (i := 0) rfl ev_int (by decide) rfl) (ev_var (i := 1) rfl) (opV_divW (hW _))) ev_int (by decide) (by simp [dS, p__law_take]) ?_)
      exact triM_ret (evM_of (ev_var (i := 2) rfl)) (finM_of (i := 0) fin rfl)
    · have hp : ¬ 0 < s.1 := of_decide_eq_false hb1
      have et : take s top = ((((s.2 * 39373 + 7) % 2147483647 * ((s.2 * 39373 + 7) % 2147483647)) % 2147483629 / 32) % top, (s.1, (s.2 * 39373 + 7) % 2147483647)) := by unfold take; rw [if_neg hp]
      rw [et] at fin
      refine nx_tri (tri_seq (tri_setS rfl (ev_op (ev_CB (evA_cons (ev_op (ev_op (ev_ixS (i := 0) rfl ev_int (by decide) rfl) ev_int (opV_mulW (mulW_of 32 16 (show s.2.natAbs < 2 ^ 32 by omega) (by decide)))) ev_int opV_int) evA_nil) caV_int) ev_int (opV_mod (by decide))) ev_int (by decide) (by simp [dS, p__law_take]) ?_))
      exact triM_ret (evM_of (ev_op (ev_CB (evA_cons (ev_op (ev_op (ev_CB (evA_cons (ev_op (ev_ixS (i := 0) rfl ev_int (by decide) rfl) (ev_ixS (i := 0) rfl ev_int (by decide) rfl) (opV_mulW (mulW_of 32 32 hms hms))) evA_nil) caV_int) ev_int (opV_mod (by decide))) ev_int (opV_divW (divW_of 16 (by decide) (by decide)))) evA_nil) caV_int) (ev_var (i := 1) rfl) (opV_mod h0))) (finM_of (i := 0) fin rfl)
theorem sc__law_low : FnScope ["_law_n", "_law_d", "_law_a", "_law_b"] ["_law_n", "_law_d"] (defScope s__law_low) := ⟨rfl, rfl, rfl, by decide +kernel, rfl, by decide +kernel, by decide +kernel⟩
theorem ok__law_low {f : Addr} {fd : FuncData} (F : FunD K "_law_low" "_law_low" (defArgs s__law_low) (defBody s__law_low) (defScope s__law_low) [] [] f fd) (hm : mg "_law_low" = some (.ref f)) (B : Blt mg)   : Has P w K mg base "_law_low" ["_law_n", "_law_d"] 1 (spOf T (p__law_low K C)) :=
  has_of F hm sc__law_low (fun _ _ _ _ _ _ us hl => match us, hl with | [_, _], _ => rfl) (fun _ => rfl) (by decide) fun cdv A outer s H E hr a c D hT hX hs q hnx => by
    subst hT
    refine ⟨_, (pss_cons (ps_par (by rfl) sc__law_low.nd (i := 2) (j := 3) rfl rfl (by decide) rfl rfl (pa_cons (pe_callB (call_max2 rfl) (by rfl) B.max (by decide +kernel) (pa_cons (pv 0) (pa_cons (pe_un un_neg (pv 0)) pa_nil))) (pa_cons (pv 1) pa_nil)) (by rfl))
      (pss_cons (ps_while PassesOwn.never (pt_cmpR op_gt (pv 3) pe_int (nomark _)) (pss_one (ps_par (by rfl) sc__law_low.nd (i := 2) (j := 3) rfl rfl (by decide) rfl rfl (pa_cons (pv 3) (pa_cons (pe_op op_mod (pe_callTy call_int1 (by rfl) B.int (by decide +kernel) (pa_cons (pv 2) pa_nil)) (pv 3)) pa_nil)) (by rfl))))
      (pss_one (ps_ret (pe_tup (pa_cons (pe_op op_fdivW (pv 0) (pv 2)) (pa_cons (pe_op op_fdivW (pv 1) (pv 2)) pa_nil))))))), ?_⟩
    obtain ⟨n, d⟩ := a
    obtain ⟨h0, hb⟩ := hs
    dsimp only at h0 hb
    have hg : 0 < n.natAbs.gcd d.natAbs := Nat.gcd_pos_of_pos_right _ (by omega)
    have hg2 : n.natAbs.gcd d.natAbs ≤ d.natAbs := Nat.gcd_le_right _ (by omega)
    have hW : ∀ i : Int, CDivW i ((n.natAbs.gcd d.natAbs : Nat) : Int) := fun i => divW_of 9000 (by omega) (by rw [Int.natAbs_natCast]; exact Nat.lt_of_le_of_lt hg2 hb)
    refine tri_seq (tri_par (evA_cons (ev_CB (evA_cons (ev_var rfl) (evA_cons (ev_un (ev_var rfl) unV_int) evA_nil)) caV_max2) (evA_cons (ev_var rfl) evA_nil)) ?_)
    refine tri_seq (tri_while (α := { p : Nat × Nat // p.1.gcd p.2 = n.natAbs.gcd d.natAbs }) (fun p => [.is (isD K (.int n)), .is (isD K (.int d)), .is (isD K (.int (p.1.1 : Nat))), .is (isD K (.int (p.1.2 : Nat)))]) (fun p => p.1.2) ⟨(n.natAbs, d.natAbs), rfl⟩ ?_ fun p => ⟨_, evT_test (ev_op (ev_var rfl) ev_int opV_bool), fun hb1 => ?_, fun hb1 => ?_⟩)
    · have e1 : max n (-n) = ((n.natAbs : Nat) : Int) := by omega
      have e2 : d = ((d.natAbs : Nat) : Int) := by omega
      dsimp only
      rw [e1]
      conv => lhs; rw [e2]
      conv => rhs; rw [e2]
      simp only [Int.natAbs_natCast]
      repeat (first | exact Weak.nil | refine Weak.same ?_ | refine Weak.none ?_)
    · obtain ⟨⟨x, y⟩, hp⟩ := p
      dsimp only at hp hb1 ⊢
      have hy : 0 < y := by have := of_decide_eq_true hb1; omega
      intro D' d1 d2 d3 d4
      refine tri_par (evA_cons (ev_var rfl) (evA_cons (ev_op (ev_CB (evA_cons (ev_var rfl) evA_nil) caV_int) (ev_var rfl) (opV_mod (by omega))) evA_nil)) ?_
      have e : ((x : Int) % (y : Int)) = ((x % y : Nat) : Int) := by simp
      have := d3 ⟨(y, x % y), by
        dsimp only
        rw [← hp, Nat.gcd_comm x y, Nat.gcd_rec y x, Nat.gcd_comm]⟩ (Nat.mod_lt _ hy)
      refine nx_weak ?_ this
      rw [e]
      repeat (first | exact Weak.nil | refine Weak.same ?_ | refine Weak.none ?_)
    · obtain ⟨⟨x, y⟩, hp⟩ := p
      dsimp only at hp hb1 ⊢
      have hy : y = 0 := by have := of_decide_eq_false hb1; omega
      subst hy
      rw [Nat.gcd_zero_right] at hp
      subst hp
      refine nx_tri (tri_ret (ev_is (ev_tup (ds := [_, _]) (evA_cons (ev_op (ev_var rfl) (ev_var rfl) (opV_divW (hW _))) (evA_cons (ev_op (ev_var rfl) (ev_var rfl) (opV_divW (hW _))) evA_nil))) ?_) q)
      unfold dR
      dsimp only
      rw [divInt_num h0, divInt_den h0]
theorem sc__law_is_ratio : FnScope ["_law_thing", "_law_part"] ["_law_thing"] (defScope s__law_is_ratio) := ⟨rfl, rfl, rfl, by decide +kernel, rfl, by decide +kernel, by decide +kernel⟩
theorem ok__law_is_ratio {f : Addr} {fd : FuncData} (F : FunD K "_law_is_ratio" "_law_is_ratio" (defArgs s__law_is_ratio) (defBody s__law_is_ratio) (defScope s__law_is_ratio) [] [] f fd) (hm : mg "_law_is_ratio" = some (.ref f)) (B : Blt mg)  (h__law_low : Has P w K mg base "_law_low" ["_law_n", "_law_d"] 1 (spOf T (p__law_low K C))) : Has P w K mg base "_law_is_ratio" ["_law_thing"] 2 (spOf T (p__law_is_ratio K C)) :=
  has_of F hm sc__law_is_ratio (fun _ _ _ _ _ _ us hl => match us, hl with | [_], _ => rfl) (fun _ => rfl) (by decide) fun cdv A outer s H E hr a c D hT hX hs q hnx => by
    subst hT
    refine ⟨_, (pss_cons (ps_if (PW.pt (pw_or (pt_not (pt_val (pe_callB (k_isi K) (by rfl) B.isinstance (by decide +kernel) (pa_cons (pv 0) (pa_cons (pe_bltn (v := .ty "tuple") (by rfl) B.tuple (by decide +kernel) rfl) pa_nil))))) (pw_or1 (pt_cmpR op_ne (pe_callB (k_len K) (by rfl) B.len (by decide +kernel) (pa_cons (pv 0) pa_nil)) pe_int (nomark _))))) (pss_one (ps_ret pe_bl)) pss_nil)
      (pss_cons (ps_for PassesOwn.never rfl (k_piT K (pv 0)) (pg_name (i := 1) sc__law_is_ratio.nd rfl (.inl rfl))
      (pss_one (ps_if (PW.pt (pw_or (pt_not (pt_val (pe_callB (k_isi K) (by rfl) B.isinstance (by decide +kernel) (pa_cons (pv 1) (pa_cons (pe_bltn (v := .ty "int") (by rfl) B.int (by decide +kernel) rfl) pa_nil))))) (pw_or1 (pt_val (pe_callB (k_isi K) (by rfl) B.isinstance (by decide +kernel) (pa_cons (pv 1) (pa_cons (pe_bltn (v := .ty "bool") (by rfl) B.bool (by decide +kernel) rfl) pa_nil))))))) (pss_one (ps_ret pe_bl)) pss_nil)))
      (pss_one (ps_ret (pe_and (pe_cmpR op_ge (pe_ix (k_ixT K) (pv 0) pe_int (fun _ _ => rfl)) pe_int (nomark _)) (pe_one (pe_cmpR (k_eqD K hr.units) (pe_has (h__law_low.mono (by decide)) (hr) (pa_cons (pe_ix (k_ixT K) (pv 0) pe_int (fun _ _ => rfl)) (pa_cons (pe_ix (k_ixT K) (pv 0) pe_int (fun _ _ => rfl)) pa_nil))) (pv 0) (nomark _)))))))), ?_⟩
    change Rat at a
    have sm : Sm a := hs
    refine tri_seq (tri_ifF (evT_is (evT_or (evT_not (evT_B (ev_CB (evA_cons (ev_var rfl) (evA_cons ev_ty evA_nil)) (caV_isi (kit_tup _))))) (fun _ => evT_test (ev_op (ev_CB (evA_cons (ev_var rfl) evA_nil) caV_lenT) ev_int opV_neI))) (by simp)) (tri_next ?_))
    refine tri_seq (tri_forM (xs := [a.num, (a.den : Int)]) (gd := .int) (its_tup (ds := [a.num, (a.den : Int)].map .int) (ev_var rfl)) (fun _ => [.is (isD K (dR a)), .no]) (by repeat (first | exact Weak.nil | refine Weak.same ?_ | refine Weak.none ?_)) (fun c' M z a1 a2 a3 a4 hp => ?_) ?_)
    · refine ⟨_, _, tgt_name, fun D' d1 d2 d3 d4 => ?_⟩
      exact tri_ifF (evT_is (evT_or (evT_not (evT_B (ev_CB (evA_cons (ev_var rfl) (evA_cons ev_ty evA_nil)) (caV_isi (kit_int _))))) (fun _ => evT_B (ev_CB (evA_cons (ev_var rfl) (evA_cons ev_ty evA_nil)) (caV_isi (kit_bool _))))) rfl) (tri_next (nx_weak (by repeat (first | exact Weak.nil | refine Weak.same ?_ | refine Weak.none ?_)) d3))
    · have hd := den_pos a
      refine nx_tri (tri_ret (ev_is (ev_andV (ev_op (ev_op (ev_var rfl) ev_int (opV_ixT (by decide) rfl)) ev_int opV_bool) fun _ => ev_op (ev_call (p := p__law_low K C) (a.num, (a.den : Int)) (evA_cons (ev_op (ev_var rfl) ev_int (opV_ixT (by decide) rfl)) (evA_cons (ev_op (ev_var rfl) ev_int (opV_ixT (by decide) rfl)) evA_nil)) ⟨hd, lt_up _ sm.d (by decide)⟩) (ev_var rfl) (opV_eqE enc_R _ _)) ?_) q)
      have e : Rat.divInt a.num (a.den : Int) = a := Rat.num_divInt_den a
      dsimp only
      rw [e, decide_eq_true (show (a.den : Int) ≥ 1 by omega)]
      simp
theorem sc__law_is_function : FnScope ["_law_thing", "_law_size", "_law_part"] ["_law_thing", "_law_size"] (defScope s__law_is_function) := ⟨rfl, rfl, rfl, by decide +kernel, rfl, by decide +kernel, by decide +kernel⟩
theorem ok__law_is_function {f : Addr} {fd : FuncData} (F : FunD K "_law_is_function" "_law_is_function" (defArgs s__law_is_function) (defBody s__law_is_function) (defScope s__law_is_function) [] [] f fd) (hm : mg "_law_is_function" = some (.ref f)) (B : Blt mg)  (h__law_is_ratio : Has P w K mg base "_law_is_ratio" ["_law_thing"] 2 (spOf T (p__law_is_ratio K C))) : Has P w K mg base "_law_is_function" ["_law_thing", "_law_size"] 3 (spOf T (p__law_is_function K C)) :=
  has_of F hm sc__law_is_function (fun _ _ _ _ _ _ us hl => match us, hl with | [_, _], _ => rfl) (fun _ => rfl) (by decide) fun cdv A outer s H E hr a c D hT hX hs q hnx => by
    subst hT
    refine ⟨_, (pss_cons (ps_if (PW.pt (pw_or (pt_not (pt_val (pe_callB (k_isi K) (by rfl) B.isinstance (by decide +kernel) (pa_cons (pv 0) (pa_cons (pe_bltn (v := .ty "tuple") (by rfl) B.tuple (by decide +kernel) rfl) pa_nil))))) (pw_or1 (pt_cmpR op_ne (pe_callB (k_len K) (by rfl) B.len (by decide +kernel) (pa_cons (pv 0) pa_nil)) (pv 1) (nomark _))))) (pss_one (ps_ret pe_bl)) pss_nil)
      (pss_one (ps_ret (pe_callB (k_all K) (by rfl) B.all (by decide +kernel) (pa_cons (pe_lc (own := [("_law_part", 2)]) rfl sc__law_is_function.nd (k_piT K (pv 0)) (blkOk_by (own := [("_law_part", 2)]) (N := ["_law_thing", "_law_size", "_law_part"]) (sc := defScope s__law_is_function) (by decide +kernel)) (fun _ _ _ _ _ => (pg_name (i := 2) sc__law_is_function.nd rfl (.inl rfl))) (fun _ _ _ _ _ => pts_nil) (fun _ _ _ _ _ => (pe_has (h__law_is_ratio.mono (by decide)) (hr) (pa_cons (pv 2) pa_nil)))) pa_nil))))), ?_⟩
    change List Rat at a
    obtain ⟨hl, hsm⟩ := hs
    refine tri_seq (tri_ifF (evT_is (evT_or (evT_not (evT_B (ev_CB (evA_cons (ev_var (i := 0) rfl) (evA_cons ev_ty evA_nil)) (caV_isi (kit_tup _))))) (fun _ => evT_test (ev_op (ev_CB (evA_cons (ev_var (i := 0) rfl) evA_nil) caV_lenT) (ev_var (i := 1) rfl) opV_neI))) (by simp)) (tri_next ?_))
    have e : ∀ l : List Rat, l.map (fun _ => PyData.bool true) = (l.map fun _ => true).map PyData.bool := fun l => by rw [List.map_map]; rfl
    refine tri_ret (ev_is (ev_CB (evA_cons (ev_is (evO_data (evO_map (xs := a) (gd := dR) (fun _ => .bool true) (its_tup (ev_var (i := 0) rfl)) (Nat.le_trans hl (by decide)) fun i x hx => ⟨_, _, tgt_name, by decide, evT_tt, ev_call (p := p__law_is_ratio K C) x (evA_cons (ev_var rfl) evA_nil) (hsm x (List.mem_of_getElem? hx))⟩)) (congrArg PyData.list (e a))) evA_nil) caV_all) ?_) q
    simp
theorem sc__law_times : FnScope ["_law_house", "_law_many", "_law_tables", "_law_name_here", "_law_outs_here", "_law_low_here", "_law_high", "_law_step", "_law_fee"] ["_law_house", "_law_many"] (defScope s__law_times) := ⟨rfl, rfl, rfl, by decide +kernel, rfl, by decide +kernel, by decide +kernel⟩
theorem ok__law_times {f : Addr} {fd : FuncData} (F : FunD K "_law_times" "_law_times" (defArgs s__law_times) (defBody s__law_times) (defScope s__law_times) [] [] f fd) (hm : mg "_law_times" = some (.ref f)) (B : Blt mg)   : Has P w K mg base "_law_times" ["_law_house", "_law_many"] 1 (spOf T (p__law_times K C)) :=
  has_of F hm sc__law_times (fun _ _ _ _ _ _ us hl => match us, hl with | [_, _], _ => rfl) (fun _ => rfl) (by decide) fun cdv A outer s H E hr a c D hT hX hs q hnx => by
    subst hT
    refine ⟨_, (pss_cons (ps_set (i := 2) sc__law_times.nd rfl (.inl rfl) (pe_lst pa_nil))
      (pss_cons (ps_for PassesOwn.never rfl (k_piT K (pe_ix (k_ixT K) (pv 0) pe_int (fun _ _ => rfl))) (k_tup K 6 (pgs_cons (pg_name (i := 3) sc__law_times.nd rfl (.inl rfl)) (pgs_cons (pg_name (i := 4) sc__law_times.nd rfl (.inl rfl)) (pgs_cons (pg_name (i := 5) sc__law_times.nd rfl (.inl rfl)) (pgs_cons (pg_name (i := 6) sc__law_times.nd rfl (.inl rfl)) (pgs_cons (pg_name (i := 7) sc__law_times.nd rfl (.inl rfl)) (pgs_cons (pg_name (i := 8) sc__law_times.nd rfl (.inl rfl)) pgs_nil)))))))
      (pss_one (ps_expr (k_bm K PySem.F.plainAttrs_list PySem.F.slot_list_append PySem.F.type_list_append mt_append (pv 2) (pa_cons (pe_tup (pa_cons (pv 3) (pa_cons (pv 4) (pa_cons (pe_op op_mulW (pv 5) (pv 1)) (pa_cons (pe_op op_mulW (pv 6) (pv 1)) (pa_cons (pe_op op_mulW (pv 7) (pv 1)) (pa_cons (pe_op op_mulW (pv 8) (pv 1)) pa_nil))))))) pa_nil)))))
      (pss_one (ps_ret (pe_tup (pa_cons (pe_op op_mulW (pe_ix (k_ixT K) (pv 0) pe_int (fun _ _ => rfl)) (pv 1)) (pa_cons (pe_callTy (k_tupOf K) (by rfl) B.tuple (by decide +kernel) (pa_cons (pv 2) pa_nil)) pa_nil))))))), ?_⟩
    obtain ⟨g, ts, m⟩ := a
    obtain ⟨h1, h2, h3, h4⟩ := hs
    dsimp only at h1 h2 h3 h4
    have mw : ∀ n : Nat, n ≤ 100 → CMulW (n : Int) (m : Int) := fun n hn => mulW_of 16 16 (by omega) (by omega)
    refine tri_seq (tri_asgO (evO_nil (K := K)) ?_)
    refine tri_seq (tri_forM (xs := ts) (gd := dT) (its_tup (ev_op (ev_var (i := 0) rfl) ev_int (opV_ixT (by decide) rfl))) (fun M => [.is (isD K (dH g ts)), .is (isD K (.int (m : Nat))), .own (ownL K ((M.map (mulT m)).map dT)), .no, .no, .no, .no, .no, .no]) (by repeat (first | exact Weak.nil | refine Weak.same ?_ | refine Weak.none ?_)) (fun c' M t a1 a2 a3 a4 hp => ?_) ?_)
    · obtain ⟨t1, t2, t3, t4⟩ := h4 t (prefix_mem hp)
      have hM := prefix_lt hp
      refine ⟨_, _, tgt_tup (ds := [_, _, _, _, _, _]) (tgts_cons tgt_name (tgts_cons tgt_name (tgts_cons tgt_name (tgts_cons tgt_name (tgts_cons tgt_name (tgts_cons tgt_name tgts_nil)))))) rfl, fun D' d1 d2 d3 d4 => ?_⟩
      have e : ∀ n : Nat, PyData.int ((n : Int) * (m : Int)) = .int ((n * m : Nat) : Int) := fun n => by rw [Int.natCast_mul]
      refine tri_app (d := dT (mulT m t)) rfl (ev_tup (ds := [.str t.name, dO t.outs, .int ((t.low * m : Nat) : Int), .int ((t.high * m : Nat) : Int), .int ((t.step * m : Nat) : Int), .int ((t.fee * m : Nat) : Int)]) (evA_cons (ev_var rfl) (evA_cons (ev_var rfl) (evA_cons (ev_is (ev_op (ev_var rfl) (ev_var rfl) (opV_mulW (mw _ t1))) (e _)) (evA_cons (ev_is (ev_op (ev_var rfl) (ev_var rfl) (opV_mulW (mw _ t2))) (e _)) (evA_cons (ev_is (ev_op (ev_var rfl) (ev_var rfl) (opV_mulW (mw _ t3))) (e _)) (evA_cons (ev_is (ev_op (ev_var rfl) (ev_var rfl) (opV_mulW (mw _ t4))) (e _)) evA_nil))))))) (by rw [List.length_map, List.length_map]; omega) ?_
      refine nx_weak ?_ d3
      rw [List.map_append, List.map_append]
      repeat (first | exact Weak.nil | refine Weak.same ?_ | refine Weak.none ?_)
    · refine nx_tri (tri_freeze 2 rfl hX ?_)
      exact tri_ret (ev_tup (ds := [.int ((g * m : Nat) : Int), dTs (ts.map (mulT m))]) (evA_cons (ev_is (ev_op (ev_op (ev_var (i := 0) rfl) ev_int (opV_ixT (by decide) rfl)) (ev_var rfl) (opV_mulW (mw _ h1))) (by rw [Int.natCast_mul])) (evA_cons (ev_CB (evA_cons (ev_lsD (ev_var rfl)) evA_nil) caV_tupL) evA_nil))) q
end
end SD
end
section
set_option maxHeartbeats 4000000
namespace SD
open PySem PySem.Spec PyProof.Rows L2 SM
def ownX (oq : Option Addr) : Op := ⟨fun H a o => (∀ q, oq = some q → a = q) ∧ ∃ s : Src, SOk s ∧ o = .lst [.int s.1, .int s.2], fun e h => h, fun ⟨_, s, _, h⟩ ps z => by rw [h] at z; cases z⟩
structure PromX where
  α : Type
  side : α → Prop
  args : α → List Rp
  res : α → Rp
def spX (T : List Addr) (p : PromX) : Sp := fun vs H Q _ => ∃ (a : p.α) (Hs : Hp) (q : Addr) (rest : List V) (s : Src), p.side a ∧ Okk T Hs H ∧ vs = .ref q :: rest ∧ All2 Hs (p.args a) rest ∧ Hs q = none ∧ H q = some (.lst [.int s.1, .int s.2]) ∧ SOk s ∧
  ∀ v Hs' H' (s' : Src), StpX [q] Hs H Hs' H' → (p.res a).p Hs' v → Hs' q = none → H' q = some (.lst [.int s'.1, .int s'.2]) → SOk s' → Q v H'
theorem Has.imp {P : Program} {w : World} {K : PySem.W.Frag} {mg : Str → Option Value} {base : Heap} {x : Str} {ps : List Str} {k : Nat} {sp sp' : Sp} (h : Has P w K mg base x ps k sp) (i : ∀ vs H Q E, sp' vs H Q E → sp vs H Q E) : Has P w K mg base x ps k sp' := by
  obtain ⟨f, fd, a, b, c, d⟩ := h.ex
  exact ⟨f, fd, a, b, c, d.imp i⟩
def isZ (P : Int → Prop) : Rp := ⟨fun _ v => ∃ z, P z ∧ v = .int z, fun _ h => h⟩
def isOne (K : PySem.W.Frag) (ds : List PyData) : Rp := ⟨fun H v => ∃ d, d ∈ ds ∧ Dp K H v d, fun e ⟨d, h1, h2⟩ => ⟨d, h1, dp_ex e _ _ h2⟩⟩
section
variable {K : PySem.W.Frag} {oq : Option Addr} {c : Ctx} {E E1 E2 : List Slo} {te ta tb : TE} {R S Z : Rp} {r : R2} {D : Ends} {t : TS} {P P' : Op}
theorem Sat.x_at {σ : L2.St} {Hs H : Hp} {i : Nat} (e : Sat c σ Hs H E) (hi : E[i]? = some (.own (ownX oq))) : ∃ p s, σ[i]? = some (some (.ref p)) ∧ Hs p = none ∧ H p = some (.lst [.int s.1, .int s.2]) ∧ SOk s ∧ ∀ q, oq = some q → p = q := by
  obtain ⟨p, o, h1, h2, h3, ⟨h0, s, h4, h5⟩, _⟩ := e.own i _ hi
  subst h5
  exact ⟨p, s, h1, h2, h3, h4, h0⟩
theorem Sat.moveY {σ : L2.St} {Hs H Hs' H' : Hp} {i : Nat} {q : Addr} {s' : Src} (e : Sat c σ Hs H E) (hi : E[i]? = some (.own (ownX oq))) (hσ : σ[i]? = some (some (.ref q))) (s : StpX [q] Hs H Hs' H') (n : Hs' q = none) (hq : H' q = some (.lst [.int s'.1, .int s'.2])) (hd : SOk s') :
    Sat c σ Hs' H' E := by
  obtain ⟨p0, o0, b1, b2, b3, ⟨b40, _⟩, b5⟩ := e.own i _ hi
  rw [hσ] at b1
  cases b1
  refine ⟨e.ok.stp s, ⟨e.stp.s.trans s.s, s.i, fun a o hX ea hn => ?_, fun a ha => s.t a (e.stp.t a ha), fun a h1 h2 => s.f a (e.stp.d a h1) (e.stp.f a h1 h2), fun a h1 => s.d a (e.stp.d a h1)⟩, c.gm s.s e.g, e.len, fun j R hj => ?_, fun j Q hj => ?_, e.apart⟩
  · have h1 := e.stp.k a o hX ea hn
    refine s.k a o (fun z => ?_) h1 hn
    have : a = q := by simpa using z
    rcases b5 with b5 | b5
    · rw [this, b5] at ea; cases ea
    · exact hX (this ▸ b5)
  · obtain ⟨v, h1, h2⟩ := e.val j R hj
    exact ⟨v, h1, R.mono s.s h2⟩
  · by_cases hij : i = j
    · subst hij
      rw [hi] at hj
      cases hj
      exact ⟨q, _, hσ, n, hq, ⟨b40, s', hd, rfl⟩, b5⟩
    · obtain ⟨p, u, a1, a2, a3, a4, a5⟩ := e.own j Q hj
      have : p ≠ q := fun z => by
        rw [z] at a1
        exact e.apart i j _ Q q hij hi hj hσ a1
      exact ⟨p, u, a1, s.f p (by rw [a3]; exact Option.some_ne_none _) a2, s.k p u (by simpa using this) a3 (Q.nt a4), Q.mono s.s a4, a5⟩
theorem evM_callX {p : PromX} {t : TA} {i : Nat} (a : p.α) (hi : E[i]? = some (.own (ownX oq))) (h : EvAM c E t (p.args a) E) (hs : p.side a) : EvM c E (tCall (spX c.T p) [] E0 (tCons (tVar i) t)) (p.res a) E := fun σ Hs H e Q q => by
  obtain ⟨p0, s0, z1, _, _, _, _⟩ := e.x_at hi
  refine ⟨.ref p0, z1, h σ Hs H e _ fun vs Hs1 H1 x1 e1 hv => ?_⟩
  obtain ⟨p1, s1, y1, y2, y3, y4, _⟩ := e1.x_at hi
  rw [z1] at y1
  cases y1
  refine ⟨a, Hs1, p0, vs, s1, hs, e1.ok, by rw [List.append_nil], hv, y2, y3, y4, fun v Hs' H' s' s hR n hq hd => ?_⟩
  exact q v Hs' H' (x1.trans s.s) (e1.moveY hi z1 s n hq hd) hR
theorem nx_ex {ι : Type} {Pz : ι → Prop} {R' : ι → Rp} {i : Nat} {Q : L2.St → Hp → Prop} (hi : E[i]? = some (.is R)) (hR : ∀ H v, R.p H v → ∃ z, Pz z ∧ (R' z).p H v) (k : ∀ z, Pz z → Nx c (E.set i (.is (R' z))) Q) : Nx c E Q := fun σ Hs H e => by
  obtain ⟨v, h1, h2⟩ := e.val i R hi
  obtain ⟨z, hz, h3⟩ := hR Hs v h2
  have h := e.set h3 i
  have : σ.set i (some v) = σ := by
    apply List.ext_getElem?
    intro j
    by_cases z : i = j
    · subst z
      rw [List.getElem?_set_self (by rw [e.len]; exact (List.getElem?_eq_some_iff.mp hi).1), h1]
    · rw [List.getElem?_set_ne z]
  rw [this] at h
  exact k z hz σ Hs H h
theorem nx_exZ {Pz : Int → Prop} {i : Nat} {Q : L2.St → Hp → Prop} (hi : E[i]? = some (.is (isZ Pz))) (k : ∀ z, Pz z → Nx c (E.set i (.is (isD K (.int z)))) Q) : Nx c E Q :=
  nx_ex (R' := fun z => isD K (.int z)) hi (fun H v ⟨z, h1, h2⟩ => ⟨z, h1, by subst h2; exact .int z⟩) k
theorem nx_exD {ds : List PyData} {i : Nat} {Q : L2.St → Hp → Prop} (hi : E[i]? = some (.is (isOne K ds))) (k : ∀ d, d ∈ ds → Nx c (E.set i (.is (isD K d))) Q) : Nx c E Q :=
  nx_ex (Pz := fun d => d ∈ ds) (R' := fun d => isD K d) hi (fun H v h => h) k
theorem evM_z {i : Int} (h : EvM c E te (isD K (.int i)) E1) : EvM c E te (isZ (· = i)) E1 := evM_weak h fun H v h => by cases h; exact ⟨i, rfl, rfl⟩
theorem evM_zw {A B : Int → Prop} (h : EvM c E te (isZ A) E1) (w : ∀ z, A z → B z) : EvM c E te (isZ B) E1 := evM_weak h fun H v ⟨z, h1, h2⟩ => ⟨z, w z h1, h2⟩
theorem evM_oneZ {ns : List Int} (h : EvM c E te (isOne K (ns.map .int)) E1) : EvM c E te (isZ (· ∈ ns)) E1 := evM_weak h fun H v ⟨d, h1, h2⟩ => by
  obtain ⟨n, hn, rfl⟩ := List.mem_map.mp h1
  cases h2
  exact ⟨n, hn, rfl⟩
theorem opV_Z {A B : Int → Prop} {g : Int → Int → Int} : OpV (rI0 fun i j => .int (g i j)) (isZ A) (isZ B) (isZ fun z => ∃ x y, A x ∧ B y ∧ z = g x y) := fun x y Hs H e ⟨i, hi, ex⟩ ⟨j, hj, ey⟩ Q q => by
  subst ex ey
  exact ⟨i, j, rfl, rfl, q _ Hs H (StpX.refl e) ⟨_, ⟨i, j, hi, hj, rfl⟩, rfl⟩⟩
theorem opV_ZC {A B : Int → Prop} {C : Int → Int → Prop} {g : Int → Int → Int} (hc : ∀ i j, A i → B j → C i j) : OpV (rI C fun i j => .int (g i j)) (isZ A) (isZ B) (isZ fun z => ∃ x y, A x ∧ B y ∧ z = g x y) := fun x y Hs H e ⟨i, hi, ex⟩ ⟨j, hj, ey⟩ Q q => by
  subst ex ey
  exact ⟨i, j, rfl, rfl, hc i j hi hj, q _ Hs H (StpX.refl e) ⟨_, ⟨i, j, hi, hj, rfl⟩, rfl⟩⟩
theorem triM_forZ {A : Int → Prop} {ta : TA} {g : TG} {tb : TS} (h : EvAM c E ta [isZ A] E1) (hA : ∀ z, A z → 0 ≤ z ∧ z < 2 ^ 16) (I : List Slo) (h0 : Weak E1 I)
    (turn : ∀ (c' : Ctx) (j : Int), c'.T = c.T → c'.X = c.X → c'.Hs0 = c.Hs0 → c'.H0 = c.H0 → ∃ js E1, Tgt c' I g (isD K (.int j)) js E1 ∧ ∀ D' : Ends, D'.rt = D.rt → D'.bk = D.nx → Nx c' I D'.nx → Nx c' I D'.ct → Tri c' E1 tb D')
    (hd : Nx c I D.nx) : Tri c E (tFor (iRng1 ta) g tb) D := fun σ Hs H e => h σ Hs H e _ fun vs Hs1 H1 x1 e1 hv => by
  cases hv with
  | cons a b =>
    cases b
    obtain ⟨z, hz, rfl⟩ := a
    obtain ⟨z0, z1⟩ := hA z hz
    refine ⟨z, rfl, by omega, by omega, ?_⟩
    let J : It := Itr 0 z.toNat
    have hJ : ItOk Hs1 J ((List.range z.toNat).map fun i : Nat => isD K (.int (0 + (i : Int)))) := itOk_range
    let Rs := (List.range z.toNat).map fun i : Nat => isD K (.int (0 + (i : Int)))
    let c' : Ctx := c.also (fun Hx => ItOk Hx J Rs) fun ex h => h.ex ex
    refine ⟨fun i m σ H => m = Rs.length - i ∧ i ≤ Rs.length ∧ ∃ Hs, Sat c' σ Hs H I, ⟨Rs.length, by simp, Nat.zero_le _, Hs1, (e1.weak h0).more hJ⟩, ?_⟩
    rintro i m σ2 H2 ⟨rfl, hi2, Hs2, e2⟩
    have hJ2 : ItOk Hs2 J Rs := e2.g.2
    by_cases hlt : i < Rs.length
    · refine .inr ⟨hJ2.go Hs2 H2 (Evl.Ex.refl _) e2.ok.sub i hlt, fun σ' H' => ∃ Hs, Sat c' σ' Hs H' I, fun σ' H' p => ⟨Rs.length - (i + 1), by omega, rfl, hlt, p⟩, fun x H' y => ?_⟩
      have hR : Rs[i]? = some Rs[i] := List.getElem?_eq_getElem hlt
      obtain ⟨hin, eR⟩ := getRng hR
      obtain ⟨Hs3, s3, hx⟩ := hJ2.yld Hs2 H2 (Evl.Ex.refl _) e2.ok.sub i x H' _ hR y
      rw [eR] at hx
      obtain ⟨js, E1, t, b⟩ := turn c' (0 + (i : Int)) rfl rfl rfl rfl
      refine t.run σ2 Hs3 H' x (e2.move s3) hx _ fun σ' e' _ _ => ?_
      exact b { nx := fun σ' H' => ∃ Hs, Sat c' σ' Hs H' I, rt := D.rt, bk := D.nx, ct := fun σ' H' => ∃ Hs, Sat c' σ' Hs H' I } rfl rfl (fun σ4 Hs4 H4 e4 => ⟨Hs4, e4⟩) (fun σ4 Hs4 H4 e4 => ⟨Hs4, e4⟩) σ' Hs3 H' e'
    · have en : i = Rs.length := by omega
      subst en
      exact .inl ⟨hJ2.stop Hs2 H2 (Evl.Ex.refl _) e2.ok.sub, hd σ2 Hs2 H2 e2.drop⟩
end
section
variable {P : Program} {w : World} {K : PySem.W.Frag} {mg : Str → Option Value} {base : Heap} {T : List Addr}
def entryX (q : Addr) (Rs : List Rp) (n : Nat) : List Slo := .own (ownX (some q)) :: (Rs.map .is ++ List.replicate (n - 1 - Rs.length) .no)
def FinX (c : Ctx) (q : Addr) (R : Rp) (Q : VK) : Prop := ∀ v Hs' H' (s' : Src), StpX c.X c.Hs0 c.H0 Hs' H' → R.p Hs' v → Hs' q = none → H' q = some (.lst [.int s'.1, .int s'.2]) → SOk s' → Q v H'
theorem finX_of {c : Ctx} {q : Addr} {R : Rp} {Q : VK} {E : List Slo} {i : Nat} (h : FinX c q R Q) (he : E[i]? = some (.own (ownX (some q)))) : ∀ v Hs' H' σ, Sat c σ Hs' H' E → R.p Hs' v → Q v H' := fun v Hs H σ e hR => by
  obtain ⟨p, s, a1, a2, a3, a4, a5⟩ := e.x_at he
  have := a5 q rfl
  subst this
  exact h v Hs H s e.stp hR a2 a3 a4
theorem hasX_of {x qual : Str} {params : Arguments} {body : List Stmt} {scope : Scope} {f : Addr} {fd : FuncData} {N ps : List Str} {k : Nat} {p : PromX} (F : FunD K x qual params body scope [] [] f fd) (hm : mg x = some (.ref f)) (S : FnScope N ps scope)
    (bd : ∀ (kV doc pm : Value) (an : Option Addr) (cdv ct : Value) (us : List Value), us.length = ps.length → bindArgs (PySem.W.fnOf x qual params body scope .none kV doc pm an cdv ct) ⟨us, []⟩ = pure (ps.zip us))
    (hl : ∀ a, (p.args a).length + 1 = ps.length) (hN : ps.length ≤ N.length)
    (hbody : ∀ (cdv : Value) (A : Around) (outer : List Env) (s : Shared) (H : Hp) (E : XK), Room k (A.deeper (envOfC qual scope s.heap.objs.size f cdv)) →
      ∀ (a : p.α) (c : Ctx) (D : Ends) (q : Addr), c.T = T → c.X = [q] → p.side a → FinX c q (p.res a) D.rt → D.nx = (fun _ H' => D.rt .non H') →
        ∃ t, PSs (cxOf CX0 P w K mg base N qual scope f cdv A outer s H E).nox body t ∧ Tri c (entryX q (p.args a) N.length) t D) : Has P w K mg base x ps (k + 1) (spX T p) := by
  refine ⟨f, fd, hm, F.kp, F.bindsN bd, F.ok S (fun vs H Q E h => ?_) (fun cdv A outer s H vs Q E hr h => ?_)⟩
  · obtain ⟨a, Hs, q, rest, s, _, _, e, hv, _⟩ := h
    rw [e, List.length_cons, hv.length, hl]
  · obtain ⟨a, Hs, q, rest, s0, hs, ok, e, hv, hn, hq, hd, fin⟩ := h
    subst e
    obtain ⟨t, h1, h2⟩ := hbody cdv A outer s H E hr a ⟨T, [q], Hs, H, fun _ => True, fun _ _ => trivial⟩ { nx := fun _ H' => Q .non H', rt := Q } q rfl rfl hs (fun v Hs' H' s' st hR n1 q1 d1 => fin v Hs' H' s' st hR n1 q1 d1) rfl
    refine ⟨t, h1.nox, h2 _ Hs H ?_⟩
    have e0 := satM_start (K := K) (c := ⟨T, [q], Hs, H, fun _ => True, fun _ _ => trivial⟩) (N := N) (ds := [.int s0.1, .int s0.2]) ok trivial rfl hv (by rw [hl]; exact hN) hn hq (.cons (.int _) (.cons (.int _) .nil))
    refine ⟨e0.ok, e0.stp, e0.g, ?_, fun i R hi => ?_, fun i P hi => ?_, fun i j P P' u hij hi hj => ?_⟩
    · have := e0.len
      unfold entryM at this
      unfold entryX
      exact this
    · cases i with
      | zero => cases hi
      | succ i => exact e0.val (i + 1) R hi
    · cases i with
      | zero =>
        cases hi
        exact ⟨q, _, rfl, hn, hq, ⟨fun z hz => Option.some.inj hz, s0, hd, rfl⟩, .inr (List.mem_singleton.mpr rfl)⟩
      | succ i => exact e0.own (i + 1) P hi
    · cases i with
      | zero =>
        cases j with
        | zero => exact absurd rfl hij
        | succ j => exact e0.apart 0 (j + 1) _ P' u hij rfl hj
      | succ i =>
        cases j with
        | zero => exact e0.apart (i + 1) 0 P _ u hij hi rfl
        | succ j => exact e0.apart (i + 1) (j + 1) P P' u hij hi hj
end
def pX__law_take (K : PySem.W.Frag) (C : Addr) : PromX := ⟨Int, fun a => 0 < a ∧ a < 2 ^ 16, fun a => [isD K (.int a)], fun a => isZ fun z => 0 ≤ z ∧ z < a⟩
end SD
end
section
set_option maxHeartbeats 4000000
namespace SD
open PySem PySem.Spec PyProof.Rows L2 SM
def isLR (K : PySem.W.Frag) (Rs : List Rp) : Rp := ⟨fun H v => ∃ p vs, v = .ref p ∧ SqL K H p vs ∧ All2 H Rs vs, fun e ⟨p, vs, h1, h2, h3⟩ => ⟨p, vs, h1, Evl.ex_l e h2, h3.ex e⟩⟩
def isAny (Rs : List Rp) : Rp := ⟨fun H v => ∃ R, R ∈ Rs ∧ R.p H v, fun e ⟨R, h1, h2⟩ => ⟨R, h1, R.mono e h2⟩⟩
def isTP (g : Int) (W : Int → Prop) : Rp := ⟨fun H v => ∃ t w, W w ∧ v = .ref t ∧ H t = some (.tup [.int g, .int w]), fun e ⟨t, w, h1, h2, h3⟩ => ⟨t, w, h1, h2, e _ _ h3⟩⟩
def tpAt (H : Hp) (v : V) (p : Int × Int) : Prop := ∃ t, v = .ref t ∧ H t = some (.tup [.int p.1, .int p.2])
inductive TPs (H : Hp) : List V → List (Int × Int) → Prop where
  | nil : TPs H [] []
  | cons {v : V} {p : Int × Int} {vs : List V} {ps : List (Int × Int)} : tpAt H v p → TPs H vs ps → TPs H (v :: vs) (p :: ps)
theorem TPs.ex {H H' : Hp} (e : Ex H H') : ∀ {vs : List V} {ps : List (Int × Int)}, TPs H vs ps → TPs H' vs ps
  | _, _, .nil => .nil
  | _, _, .cons ⟨t, h1, h2⟩ r => .cons ⟨t, h1, e _ _ h2⟩ (r.ex e)
theorem TPs.len {H : Hp} : ∀ {vs : List V} {ps : List (Int × Int)}, TPs H vs ps → vs.length = ps.length
  | _, _, .nil => rfl
  | _, _, .cons _ r => congrArg Nat.succ r.len
theorem TPs.snoc {H : Hp} {v : V} {p : Int × Int} (h : tpAt H v p) : ∀ {vs : List V} {ps : List (Int × Int)}, TPs H vs ps → TPs H (vs ++ [v]) (ps ++ [p])
  | _, _, .nil => .cons h .nil
  | _, _, .cons a r => .cons a (TPs.snoc h r)
def ownTP (ps : List (Int × Int)) : Op := ⟨fun H _ o => ∃ vs, o = .lst vs ∧ TPs H vs ps, fun e ⟨vs, h1, h2⟩ => ⟨vs, h1, h2.ex e⟩, fun ⟨vs, h, _⟩ ps z => by rw [h] at z; cases z⟩
section
variable {K : PySem.W.Frag} {oq : Option Addr} {c : Ctx} {E E1 E2 : List Slo} {te ta tb : TE} {R S Z : Rp} {r : R2} {D : Ends} {t : TS} {P P' : Op} {ds : List PyData} {Rs : List Rp}
theorem evM_lstR {t : TA} (h : EvAM c E t Rs E1) (hl : Rs.length ≤ 100000) : EvM c E (tLst t) (isLR K Rs) E1 := fun σ Hs H e Q q => by
  refine h σ Hs H e _ fun vs Hs1 H1 x1 e1 hv => ⟨Evl.sz_of (by rw [hv.length]; exact hl), fun p hp => ?_⟩
  have s := Stp.new (o := .lst vs) e1.ok.sub hp
  exact q _ _ _ (x1.trans s.s) (e1.move s) ⟨p, vs, rfl, SqL.of upd_same, hv.ex s.s⟩
theorem caV_lenR : CaV (rLenV K) [isLR K Rs] (isD K (.int (Rs.length : Int))) := fun vs Hs H e hv Q q => by
  cases hv with
  | cons a b =>
    cases b
    obtain ⟨p, us, h1, h2, h3⟩ := a
    exact ⟨_, Rs.length, rfl, by subst h1; exact .inl ⟨us, Evl.ex_l e h2, h3.length.symm⟩, q _ Hs H (StpX.refl e) (.int _)⟩
theorem All2.at_ {H : Hp} : ∀ {Rs : List Rp} {vs : List V} {i : Nat} {v : V}, All2 H Rs vs → vs[i]? = some v → ∃ R, R ∈ Rs ∧ R.p H v
  | _, _, _, _, .nil, e => by simp at e
  | R :: _, _, 0, _, .cons h _, e => by simp at e; subst e; exact ⟨R, by simp, h⟩
  | _, _, i + 1, v, .cons _ r, e => by
    obtain ⟨R, h1, h2⟩ := All2.at_ (i := i) (v := v) r (by simpa using e)
    exact ⟨R, by simp [h1], h2⟩
theorem opV_ixR : OpV (rIxL K) (isLR K Rs) (isZ fun z => 0 ≤ z ∧ z < (Rs.length : Int)) (isAny Rs) := fun x y Hs H e ⟨p, us, h1, h2, h3⟩ ⟨z, ⟨z0, z1⟩, ez⟩ Q q => by
  subst h1 ez
  have hl := h3.length
  have hz : z.toNat < us.length := by omega
  have hg : us[z.toNat]? = some us[z.toNat] := List.getElem?_eq_getElem hz
  have ea := atI_of hg
  rw [Int.toNat_of_nonneg z0] at ea
  exact ⟨p, us, z, us[z.toNat], rfl, rfl, Evl.ex_l e h2, ea, q _ Hs H (StpX.refl e) (h3.at_ hg)⟩
theorem ev_lenO {i : Nat} (hi : E[i]? = some (.own (ownL K ds))) : Ev c E (tCB (rLenV K) (tCons (tVar i) tNil)) (isD K (.int (ds.length : Int))) := fun σ Hs H e Q q => by
  obtain ⟨p, vs, a1, a2, a3, a4⟩ := e.own_at hi
  exact ⟨.ref p, a1, .ref p, ds.length, rfl, .inl ⟨vs, SqL.of a3, (dpAll_length a4).symm⟩, q _ Hs H (StpX.refl e.ok.sub) (.int _)⟩
theorem dpAll_erase {H : Hp} : ∀ {vs : List V} {ds : List PyData} (n : Nat), DpAll K H vs ds → DpAll K H (vs.eraseIdx n) (ds.eraseIdx n)
  | _, _, _, .nil => .nil
  | _, _, 0, .cons _ h => h
  | _, _, n + 1, .cons h1 h2 => .cons h1 (dpAll_erase n h2)
theorem triM_popAt {i j : Nat} (hi : E[i]? = some (.own (ownL K ds))) (h : EvM c E te (isZ fun z => 0 ≤ z ∧ z < (ds.length : Int)) E) (k : ∀ (n : Nat) (d : PyData), ds[n]? = some d → Nx c ((E.set i (.own (ownL K (ds.eraseIdx n)))).set j (.is (isD K d))) D.nx) (hl : ds.length < 1000) :
    Tri c E (tAsg (tBM K "list" rPopAt (tVar i) (tCons te tNil)) (gName j)) D := fun σ Hs H e => by
  obtain ⟨p, vs, a1, a2, a3, a4⟩ := e.own_at hi
  refine ⟨.ref p, a1, .inl ⟨rfl, vs, SqL.of a3⟩, ?_⟩
  refine h σ Hs H e _ fun v Hs1 H1 x1 e1 hv => ?_
  obtain ⟨z, ⟨z0, z1⟩, rfl⟩ := hv
  obtain ⟨p', vs', g1, g2, g3, g4⟩ := e1.own_at hi
  rw [a1] at g1
  cases g1
  have l := dpAll_length g4
  have hz : z.toNat < vs'.length := by omega
  have hd : ds[z.toNat]? = some (ds[z.toNat]'(by omega)) := List.getElem?_eq_getElem _
  obtain ⟨u, y1, y2⟩ := dpAll_get g4 hd
  refine ⟨p, vs', z, z.toNat, u, rfl, rfl, g3, by omega, by omega, ?_, y1, ?_⟩
  · unfold seqIndex?
    have h1 : ¬ z < 0 := by omega
    simp only [h1, if_false]
    have h2 : (0 : Int) ≤ z ∧ z < (vs'.length : Int) := by omega
    simp [h2.1, h2.2]
  · have e2 := e1.write hi a1 g3 (fun ps z => by cases z) (P' := ownL K (ds.eraseIdx z.toNat)) (o' := .lst (vs'.eraseIdx z.toNat)) ⟨_, rfl, dpAll_erase _ g4⟩
    exact k _ _ hd _ Hs1 _ (e2.set y2 j)
theorem evM_tp {g : Int} {W : Int → Prop} (ha : Ev c E ta (isD K (.int g))) (hb : EvM c E tb (isZ W) E) : EvM c E (tTup (tCons ta (tCons tb tNil))) (isTP g W) E := fun σ Hs H e Q q => by
  refine ha σ Hs H e _ fun x Hs1 H1 s1 hx => hb σ Hs1 H1 (e.move s1) _ fun y Hs2 H2 x2 e2 hy => ⟨Evl.sz_of (by simp), fun p hp => ?_⟩
  obtain ⟨z, hz, rfl⟩ := hy
  cases hx
  have s := Stp.new (o := .tup [.int g, .int z]) e2.ok.sub hp
  exact q _ _ _ (s1.s.trans (x2.trans s.s)) (e2.move s) ⟨p, z, hz, rfl, upd_same⟩
theorem Sat.tp_at {σ : L2.St} {Hs H : Hp} {i : Nat} {ps : List (Int × Int)} (e : Sat c σ Hs H E) (hi : E[i]? = some (.own (ownTP ps))) : ∃ p vs, σ[i]? = some (some (.ref p)) ∧ Hs p = none ∧ H p = some (.lst vs) ∧ TPs Hs vs ps := by
  obtain ⟨p, o, h1, h2, h3, ⟨vs, h4, h5⟩, _⟩ := e.own i _ hi
  subst h4
  exact ⟨p, vs, h1, h2, h3, h5⟩
theorem triM_appTP {i : Nat} {ps : List (Int × Int)} {g : Int} {W : Int → Prop} (hi : E[i]? = some (.own (ownTP ps))) (h : EvM c E te (isTP g W) E) (hl : ps.length < 1000) (k : ∀ w, W w → Nx c (E.set i (.own (ownTP (ps ++ [(g, w)])))) D.nx) :
    Tri c E (tDrop (tBM K "list" rAppend (tVar i) (tCons te tNil))) D := fun σ Hs H e => by
  obtain ⟨p, vs, h1, h2, h3, h4⟩ := e.tp_at hi
  refine ⟨.ref p, h1, .inl ⟨rfl, vs, SqL.of h3⟩, ?_⟩
  refine h σ Hs H e _ fun v Hs1 H1 x1 e1 ⟨t, w, hw, ev, ht⟩ => ?_
  obtain ⟨p', vs', g1, g2, g3, g4⟩ := e1.tp_at hi
  rw [h1] at g1
  cases g1
  refine ⟨p, vs', v, rfl, rfl, g3, Evl.sz_lt (by rw [g4.len]; omega), ?_⟩
  exact k w hw σ Hs1 _ (e1.write hi h1 g3 (fun ps z => by cases z) ⟨vs' ++ [v], rfl, g4.snoc ⟨t, ev, ht⟩⟩)
theorem triM_forE {ι : Type} {A : Int → Prop} {ta : TA} {g : TG} {tb : TS} (Pz : Nat → ι → Prop) (I : ι → List Slo) (z0 : ι) (h00 : Pz 0 z0) (h : EvAM c E ta [isZ A] E1) (hA : ∀ z, A z → 0 ≤ z ∧ z < 2 ^ 16) (h0 : Weak E1 (I z0))
    (turn : ∀ (c' : Ctx) (i : Nat) (z : ι) (n : Int), c'.T = c.T → c'.X = c.X → c'.Hs0 = c.Hs0 → c'.H0 = c.H0 → A n → (i : Int) < n → Pz i z → ∃ js E1, Tgt c' (I z) g (isD K (.int (0 + (i : Int)))) js E1 ∧ ∀ D' : Ends, D'.rt = D.rt → D'.bk = D.nx → (∀ z', Pz (i + 1) z' → Nx c' (I z') D'.nx) → Tri c' E1 tb D')
    (hd : ∀ (n : Int) (z : ι), A n → Pz n.toNat z → Nx c (I z) D.nx) : Tri c E (tFor (iRng1 ta) g tb) D := fun σ Hs H e => h σ Hs H e _ fun vs Hs1 H1 x1 e1 hv => by
  cases hv with
  | cons a b =>
    cases b
    obtain ⟨n, hn, rfl⟩ := a
    obtain ⟨n0, n1⟩ := hA n hn
    refine ⟨n, rfl, by omega, by omega, ?_⟩
    let J : It := Itr 0 n.toNat
    let Rs := (List.range n.toNat).map fun i : Nat => isD K (.int (0 + (i : Int)))
    have hJ : ItOk Hs1 J Rs := itOk_range
    have hRl : Rs.length = n.toNat := by simp [Rs]
    let c' : Ctx := c.also (fun Hx => ItOk Hx J Rs) fun ex h => h.ex ex
    refine ⟨fun i m σ H => m = Rs.length - i ∧ i ≤ Rs.length ∧ ∃ z Hs, Pz i z ∧ Sat c' σ Hs H (I z), ⟨Rs.length, by simp, Nat.zero_le _, z0, Hs1, h00, (e1.weak h0).more hJ⟩, ?_⟩
    rintro i m σ2 H2 ⟨rfl, hi2, z, Hs2, hz, e2⟩
    have hJ2 : ItOk Hs2 J Rs := e2.g.2
    by_cases hlt : i < Rs.length
    · refine .inr ⟨hJ2.go Hs2 H2 (Evl.Ex.refl _) e2.ok.sub i hlt, fun σ' H' => ∃ z Hs, Pz (i + 1) z ∧ Sat c' σ' Hs H' (I z), fun σ' H' p => ⟨Rs.length - (i + 1), by omega, rfl, hlt, p⟩, fun x H' y => ?_⟩
      have hR : Rs[i]? = some Rs[i] := List.getElem?_eq_getElem hlt
      obtain ⟨hin, eR⟩ := getRng hR
      obtain ⟨Hs3, s3, hx⟩ := hJ2.yld Hs2 H2 (Evl.Ex.refl _) e2.ok.sub i x H' _ hR y
      rw [eR] at hx
      obtain ⟨js, E1, t, b⟩ := turn c' i z n rfl rfl rfl rfl hn (by omega) hz
      refine t.run σ2 Hs3 H' x (e2.move s3) hx _ fun σ' e' _ _ => ?_
      exact b { nx := fun σ' H' => ∃ z Hs, Pz (i + 1) z ∧ Sat c' σ' Hs H' (I z), rt := D.rt, bk := D.nx, ct := fun σ' H' => ∃ z Hs, Pz (i + 1) z ∧ Sat c' σ' Hs H' (I z) } rfl rfl (fun z' hz' σ4 Hs4 H4 e4 => ⟨z', Hs4, hz', e4⟩) σ' Hs3 H' e'
    · have en : i = Rs.length := by omega
      subst en
      rw [hRl] at hz
      refine .inl ⟨hJ2.stop Hs2 H2 (Evl.Ex.refl _) e2.ok.sub, hd n z hn hz σ2 Hs2 H2 e2.drop⟩
def kP (H : Hp) (v : V) : Int × Int := match v with
  | .ref t => match H t with
    | some (.tup [.int i, .int j]) => (i, j)
    | _ => (0, 0)
  | _ => (0, 0)
theorem kP_at {H : Hp} {v : V} {p : Int × Int} (h : tpAt H v p) : kP H v = p := by
  obtain ⟨t, rfl, ht⟩ := h
  simp only [kP, ht]
theorem TPs.keys {H : Hp} : ∀ {vs : List V} {ps : List (Int × Int)}, TPs H vs ps → vs.map (kP H) = ps
  | _, _, .nil => rfl
  | _, _, .cons h r => by rw [List.map_cons, kP_at h, r.keys]
theorem TPs.mem {H : Hp} : ∀ {vs : List V} {ps : List (Int × Int)}, TPs H vs ps → ∀ v ∈ vs, tpAt H v (kP H v)
  | _, _, .cons h r, v, hv => by
    rcases List.mem_cons.mp hv with e | e
    · subst e; rw [kP_at h]; exact h
    · exact r.mem v e
def dPs (qs : List (Int × Int)) : PyData := .list (qs.map fun p => .tuple [.int p.1, .int p.2])
def isSrt (K : PySem.W.Frag) (ps : List (Int × Int)) : Rp := ⟨fun H v => ∃ qs : List (Int × Int), qs.Perm ps ∧ qs.Pairwise (fun x y => x.1 ≤ y.1) ∧ Dp K H v (dPs qs), fun e ⟨qs, h1, h2, h3⟩ => ⟨qs, h1, h2, dp_ex e _ _ h3⟩⟩
theorem ev_sortTP {i : Nat} {ps : List (Int × Int)} (hi : E[i]? = some (.own (ownTP ps))) (hl : ps.length < 1000) : Ev c E (tCB (rSortedPO K) (tCons (tVar i) tNil))
    (isSrt K ps) := fun σ Hs H e Q q => by
  obtain ⟨p, vs, a1, a2, a3, a4⟩ := e.tp_at hi
  have a5 : TPs H vs ps := a4.ex e.ok.sub
  refine ⟨.ref p, a1, p, vs, kP Hs, rfl, SqL.of a3, fun x hx => ?_, fun ys l hs hst hl => ?_⟩
  · obtain ⟨t, h1, h2⟩ := a4.mem x hx
    exact ⟨t, h1, e.ok.sub _ _ h2⟩
  · have s := Stp.new (o := .lst ys) e.ok.sub hl
    refine q (.ref l) _ _ s ⟨ys.map (kP Hs), ?_, ?_, ?_⟩
    · have := hst.perm.map (kP Hs)
      rw [a4.keys] at this; exact this
    · rw [List.pairwise_map]
      refine List.Pairwise.imp (fun {x y} h => ?_) hs
      have h' : SrtO.lexB (kP Hs y) (kP Hs x) = false := h
      by_cases hlt : (kP Hs y).1 < (kP Hs x).1
      · have := SrtO.lexB_iff.mpr (.inl hlt)
        rw [h'] at this; cases this
      · omega
    · refine .lst (SqL.of upd_same) ?_
      rw [List.map_map]
      have : ∀ zs : List V, (∀ v ∈ zs, tpAt Hs v (kP Hs v)) → DpAll K (upd Hs l (.lst ys)) zs (zs.map ((fun p : Int × Int => PyData.tuple [.int p.1, .int p.2]) ∘ kP Hs)) := fun zs => by
        induction zs with
        | nil => intro _; exact .nil
        | cons z zs ih =>
          intro h
          obtain ⟨t, h1, h2⟩ := h z (by simp)
          refine .cons ?_ (ih fun v hv => h v (by simp [hv]))
          subst h1
          exact .tup (SqT.of (s.s _ _ h2)) (.cons (.int _) (.cons (.int _) .nil))
      exact this ys fun v hv => a4.mem v (hst.perm.mem_iff.mp hv)
end
theorem k_sortP {X : Cx} (K : PySem.W.Frag) (h : X.K = K := by rfl) (hc : X.calm = true := by rfl) : CallR X (.builtin "sorted") (rSortedPO K) := by subst h; exact cr_sortedPO
def pX__law_one (K : PySem.W.Frag) (C : Addr) : PromX := ⟨List Rp, fun a => 0 < a.length ∧ a.length < 2 ^ 15, fun a => [isLR K a], fun a => isAny a⟩
def isOuts (K : PySem.W.Frag) : Rp := ⟨fun H v => ∃ os, OutsOk os ∧ Dp K H v (.tuple (os.map fun p : Int × Nat => .tuple [.int p.1, .int (p.2 : Nat)])), fun e ⟨os, h1, h2⟩ => ⟨os, h1, dp_ex e _ _ h2⟩⟩
def pX__law_outs (K : PySem.W.Frag) (C : Addr) : PromX := ⟨Unit, fun _ => True, fun _ => [isD K (.int 3)], fun _ => isOuts K⟩
end SD
end
section
set_option maxHeartbeats 4000000
set_option exponentiation.threshold 100000
namespace SD
open PySem PySem.Spec PyProof.Rows L2 SH SM RZ
section
variable {P : Program} {w : World} {K : PySem.W.Frag} {mg : Str → Option Value} {base : Heap} {T : List Addr} {C : Addr}
theorem x__law_take {k : Nat} {ps : List Str} (h : Has P w K mg base "_law_take" ps k (spM K T (p__law_take K C))) : Has P w K mg base "_law_take" ps k (spX T (pX__law_take K C)) := h.imp fun vs H Q E hx => by
  obtain ⟨a, Hs, q, rest, s, ⟨h1, h2⟩, ok, e, hv, n, hq, so, fin⟩ := hx
  refine ⟨(s, a), Hs, q, rest, [.int s.1, .int s.2], ⟨so, h1, h2⟩, ok, e, hv, n, hq, .cons (.int _) (.cons (.int _) .nil), fun v Hs' H' us' st hR n' hq' hd => ?_⟩
  obtain ⟨t1, t2, t3⟩ := take_ok so h1
  have hu := dpAll_ints (ns := [(take s a).2.1, (take s a).2.2]) hd
  subst hu
  refine fin v Hs' H' (take s a).2 st ⟨(take s a).1, ⟨t2, t3⟩, ?_⟩ n' hq' t1
  have hR' : Dp K Hs' v (.int (take s a).1) := hR
  cases hR'; rfl
theorem sc__law_one : FnScope ["_law_source", "_law_things"] ["_law_source", "_law_things"] (defScope s__law_one) := ⟨rfl, rfl, rfl, by decide +kernel, rfl, by decide +kernel, by decide +kernel⟩
theorem ok__law_one {f : Addr} {fd : FuncData} (F : FunD K "_law_one" "_law_one" (defArgs s__law_one) (defBody s__law_one) (defScope s__law_one) [] [] f fd) (hm : mg "_law_one" = some (.ref f)) (B : Blt mg)  (h__law_take : Has P w K mg base "_law_take" ["_law_source", "_law_top"] 1 (spX T (pX__law_take K C))) : Has P w K mg base "_law_one" ["_law_source", "_law_things"] 2 (spX T (pX__law_one K C)) :=
  hasX_of F hm sc__law_one (fun _ _ _ _ _ _ us hl => match us, hl with | [_, _], _ => rfl) (fun _ => rfl) (by decide) fun cdv A outer s H E hr a c D qa hT hX hs q hnx => by
    subst hT
    refine ⟨_, (pss_one (ps_ret (pe_ix (k_ixL K) (pv 1) (pe_has (h__law_take.mono (by decide)) (hr) (pa_cons (pv 0) (pa_cons (pe_callB (k_len K) (by rfl) B.len (by decide +kernel) (pa_cons (pv 1) pa_nil)) pa_nil))) (fun _ _ => rfl)))), ?_⟩
    change List Rp at a
    obtain ⟨h0, h1⟩ := hs
    have fin : FinX c qa (isAny a) D.rt := q
    exact triM_ret (evM_op (evM_of (ev_var (i := 1) rfl)) (evM_callX (p := pX__law_take K C) ((a.length : Int)) rfl (evAM_of (evA_cons (ev_CB (evA_cons (ev_var (i := 1) rfl) evA_nil) caV_lenR) evA_nil)) ⟨by omega, by omega⟩) opV_ixR) (finX_of (i := 0) fin rfl)
theorem map_erase {α β : Type} (f : α → β) : ∀ (l : List α) (n : Nat), (l.map f).eraseIdx n = (l.eraseIdx n).map f
  | [], _ => rfl
  | _ :: _, 0 => rfl
  | a :: l, n + 1 => by
    show f a :: (l.map f).eraseIdx n = f a :: (l.eraseIdx n).map f
    rw [map_erase f l n]
structure OutSt (i : Nat) (z : List Int × List (Int × Int)) : Prop where
  len : z.1.length + i = 11
  fl : z.2.length = i
  rng : ∀ g ∈ z.1, -1 ≤ g ∧ g ≤ 9
  nd : z.1.Nodup
  frng : ∀ p ∈ z.2, -1 ≤ p.1 ∧ p.1 ≤ 9 ∧ 1 ≤ p.2 ∧ p.2 ≤ 9
  fnd : (z.2.map (·.1)).Nodup
  ap : ∀ p ∈ z.2, p.1 ∉ z.1
theorem OutSt.step {i : Nat} {L : List Int} {F : List (Int × Int)} (h : OutSt i (L, F)) {n : Nat} {g w : Int} (hg : L[n]? = some g) (hw : 1 ≤ w ∧ w ≤ 9) : OutSt (i + 1) (L.eraseIdx n, F ++ [(g, w)]) := by
  have hn := (List.getElem?_eq_some_iff.mp hg).1
  have hm := List.mem_of_getElem? hg
  have hl := h.len
  have hfl := h.fl
  dsimp only at hl hfl
  have sub : ∀ x ∈ L.eraseIdx n, x ∈ L := fun x hx => List.mem_of_mem_eraseIdx hx
  have gnot : g ∉ L.eraseIdx n := fun hx => by
    have h1 := h.nd
    dsimp only at h1
    obtain ⟨j, hj, e⟩ := List.mem_eraseIdx_iff_getElem?.mp hx
    have hjl := (List.getElem?_eq_some_iff.mp e).1
    exact hj ((List.getElem?_inj hjl h1).mp (by rw [e, hg]))
  refine ⟨?_, ?_, fun x hx => h.rng x (sub x hx), h.nd.sublist (List.eraseIdx_sublist _ _), fun p hp => ?_, ?_, fun p hp hx => ?_⟩
  · dsimp only
    rw [List.length_eraseIdx_of_lt hn]; omega
  · dsimp only
    rw [List.length_append]; simp; exact hfl
  · rcases List.mem_append.mp hp with z | z
    · exact h.frng p z
    · have : p = (g, w) := by simpa using z
      subst this
      exact ⟨(h.rng g hm).1, (h.rng g hm).2, hw.1, hw.2⟩
  · dsimp only
    rw [List.map_append]
    refine List.nodup_append.mpr ⟨h.fnd, by simp, fun a ha b hb e => ?_⟩
    have hb' : b = g := by simpa using hb
    subst hb'; subst e
    obtain ⟨p, hp, e⟩ := List.mem_map.mp ha
    exact h.ap p hp (by rw [e]; exact hm)
  · rcases List.mem_append.mp hp with z | z
    · exact h.ap p z (sub _ hx)
    · have : p = (g, w) := by simpa using z
      subst this
      exact gnot hx
theorem outs_of {n : Nat} {L : List Int} {F qs : List (Int × Int)} (h : OutSt n (L, F)) (h1 : 1 ≤ n) (h3 : n ≤ 3) (hp : qs.Perm F) (hs : qs.Pairwise fun x y => x.1 ≤ y.1) : OutsOk (qs.map fun p => (p.1, p.2.toNat)) ∧ qs.map (fun p : Int × Int => PyData.tuple [.int p.1, .int p.2]) = (qs.map fun p => (p.1, p.2.toNat)).map fun p : Int × Nat => .tuple [.int p.1, .int (p.2 : Nat)] := by
  have hl : qs.length = n := by rw [hp.length_eq]; exact h.fl
  have rg : ∀ p ∈ qs, -1 ≤ p.1 ∧ p.1 ≤ 9 ∧ 1 ≤ p.2 ∧ p.2 ≤ 9 := fun p hpm => h.frng p (hp.mem_iff.mp hpm)
  have nd : (qs.map (·.1)).Nodup := (hp.map _).nodup_iff.mpr h.fnd
  refine ⟨⟨?_, by rw [List.length_map]; omega, ?_, fun p hpm => ?_, fun p hpm => ?_⟩, ?_⟩
  · intro z
    have := congrArg List.length z
    rw [List.length_map, hl] at this
    simp at this; omega
  · rw [List.map_map]
    have e : ((fun p : Int × Nat => p.1) ∘ fun p : Int × Int => (p.1, p.2.toNat)) = fun p => p.1 := rfl
    rw [e]
    have h1 : (qs.map (·.1)).Pairwise (· ≤ ·) := by rw [List.pairwise_map]; exact hs
    exact (h1.and nd).imp fun {a b} hab => by
      have := hab.1
      have := hab.2
      omega
  · obtain ⟨r, hr, rfl⟩ := List.mem_map.mp hpm
    have := rg r hr
    exact ⟨this.1, this.2.1⟩
  · obtain ⟨r, hr, rfl⟩ := List.mem_map.mp hpm
    have := rg r hr
    dsimp only
    omega
  · rw [List.map_map]
    apply List.map_congr_left
    intro p hpm
    have := rg p hpm
    show PyData.tuple [.int p.1, .int p.2] = .tuple [.int p.1, .int ((p.2.toNat : Nat) : Int)]
    rw [Int.toNat_of_nonneg (by omega)]
theorem sc__law_outs : FnScope ["_law_source", "_law_most", "_law_gain", "_law_left", "_law_found", "_law_turn"] ["_law_source", "_law_most"] (defScope s__law_outs) := ⟨rfl, rfl, rfl, by decide +kernel, rfl, by decide +kernel, by decide +kernel⟩
theorem ok__law_outs {f : Addr} {fd : FuncData} (F : FunD K "_law_outs" "_law_outs" (defArgs s__law_outs) (defBody s__law_outs) (defScope s__law_outs) [] [] f fd) (hm : mg "_law_outs" = some (.ref f)) (B : Blt mg)  (h__law_take : Has P w K mg base "_law_take" ["_law_source", "_law_top"] 1 (spX T (pX__law_take K C))) (h__law_one : Has P w K mg base "_law_one" ["_law_source", "_law_things"] 2 (spX T (pX__law_one K C))) : Has P w K mg base "_law_outs" ["_law_source", "_law_most"] 3 (spX T (pX__law_outs K C)) :=
  hasX_of F hm sc__law_outs (fun _ _ _ _ _ _ us hl => match us, hl with | [_, _], _ => rfl) (fun _ => rfl) (by decide) fun cdv A outer s H E hr a c D qa hT hX hs q hnx => by
    subst hT
    refine ⟨_, (pss_cons (ps_par (by rfl) sc__law_outs.nd (i := 3) (j := 4) rfl rfl (by decide) rfl rfl (pa_cons (pe_lc (own := [("_law_gain", 2)]) rfl sc__law_outs.nd (pi_range2 (by rfl) B.range (pa_cons (pe_un un_neg pe_int) (pa_cons pe_int pa_nil))) (blkOk_by (own := [("_law_gain", 2)]) (N := ["_law_source", "_law_most", "_law_gain", "_law_left", "_law_found", "_law_turn"]) (sc := defScope s__law_outs) (by decide +kernel)) (fun _ _ _ _ _ => (pg_name (i := 2) sc__law_outs.nd rfl (.inl rfl))) (fun _ _ _ _ _ => pts_nil) (fun _ _ _ _ _ => (pv 2))) (pa_cons (pe_lst pa_nil) pa_nil)) (by rfl))
      (pss_cons (ps_for PassesOwn.never rfl (pi_range1 (by rfl) B.range (pa_cons (pe_op op_add pe_int (pe_has (h__law_take.mono (by decide)) (hr) (pa_cons (pv 0) (pa_cons (pv 1) pa_nil)))) pa_nil)) (pg_name (i := 5) sc__law_outs.nd rfl (.inl rfl))
      (pss_cons (ps_set (i := 2) sc__law_outs.nd rfl (.inl rfl) (k_bm K PySem.F.plainAttrs_list PySem.F.slot_list_pop PySem.F.type_list_pop mt_popAt (pv 3) (pa_cons (pe_has (h__law_one.mono (by decide)) (hr) (pa_cons (pv 0) (pa_cons (pe_lst (pa_cons pe_int (pa_cons (pe_has (h__law_take.mono (by decide)) (hr) (pa_cons (pv 0) (pa_cons (pe_callB (k_len K) (by rfl) B.len (by decide +kernel) (pa_cons (pv 3) pa_nil)) pa_nil))) pa_nil))) pa_nil))) pa_nil)))
      (pss_one (ps_expr (k_bm K PySem.F.plainAttrs_list PySem.F.slot_list_append PySem.F.type_list_append mt_append (pv 4) (pa_cons (pe_tup (pa_cons (pv 2) (pa_cons (pe_op op_add pe_int (pe_has (h__law_take.mono (by decide)) (hr) (pa_cons (pv 0) (pa_cons pe_int pa_nil)))) pa_nil))) pa_nil))))))
      (pss_one (ps_ret (pe_callTy (k_tupOf K) (by rfl) B.tuple (by decide +kernel) (pa_cons (pe_callB (k_sortP K) (by rfl) B.sorted (by decide +kernel) (pa_cons (pv 4) pa_nil)) pa_nil)))))), ?_⟩
    have fin : FinX c qa (isOuts K) D.rt := q
    let L0 : List Int := (List.range 11).map fun i : Nat => -1 + (i : Int)
    have hL0 : OutSt 0 (L0, []) := ⟨by decide, rfl, by decide, by decide, by simp, by simp, by simp⟩
    have e0 : ((List.range 11).map fun i : Nat => PyData.int (-1 + (i : Int))) = L0.map .int := by rw [List.map_map]; rfl
    refine tri_seq (tri_parOO (P := ownL K (L0.map .int)) (P' := ownTP []) (by decide) ?_ ?_ ?_)
    · rw [← e0]
      exact evO_rng (lo := -1) (n := 11) (fun i => .int (-1 + (i : Int))) (its_range2 (evA_cons (ev_un ev_int unV_int) (evA_cons ev_int evA_nil)) (by decide) (by decide) (by decide) (by decide)) (by decide) fun i hi => ⟨_, _, tgt_name, by decide, evT_tt, ev_var rfl⟩
    · intro σ Hs H e Q q
      exact ⟨Nat.zero_le _, fun l hl => q l _ Hs _ (Stp.newO (o := .lst []) e.ok.sub hl) hl (Evl.fresh_back e.ok.sub hl) upd_same ⟨[], rfl, .nil⟩⟩
    have hA : ∀ z : Int, (∃ x y, x = 1 ∧ (0 ≤ y ∧ y < 3) ∧ z = x + y) → 0 ≤ z ∧ z < 2 ^ 16 := fun z ⟨x, y, h1, h2, h3⟩ => by omega
    refine tri_seq (triM_forE (K := K) (ι := List Int × List (Int × Int)) OutSt (fun z => [.own (ownX (some qa)), .is (isD K (.int 3)), .no, .own (ownL K (z.1.map .int)), .own (ownTP z.2), .no]) (L0, []) hL0 (evAM_cons (evM_op (evM_z (evM_of (ev_int (K := K)))) (evM_callX (p := pX__law_take K C) (3 : Int) rfl (evAM_of (evA_cons (ev_var (i := 1) rfl) evA_nil)) ⟨by decide, by decide⟩) opV_Z) evAM_nil) hA (by repeat (first | exact Weak.nil | refine Weak.same ?_ | refine Weak.none ?_)) (fun c' i z n a1 a2 a3 a4 hn hin hz => ?_) fun n z hn hz => ?_)
    · obtain ⟨L, F⟩ := z
      obtain ⟨x, y, hx, hy, hxy⟩ := hn
      have hl := hz.len
      have hfl := hz.fl
      dsimp only at hl hfl
      refine ⟨_, _, tgt_name, fun D' d1 d2 d3 => ?_⟩
      rw [← a1]
      refine tri_seq (triM_popAt (ds := L.map .int) rfl (evM_weak (evM_callX (p := pX__law_one K C) [isD K (.int 0), isZ fun z => 0 ≤ z ∧ z < ((L.map PyData.int).length : Int)] rfl (evAM_cons (evM_lstR (evAM_cons (evM_of ev_int) (evAM_cons (evM_callX (p := pX__law_take K C) ((L.map PyData.int).length : Int) rfl (evAM_of (evA_cons (ev_lenO rfl) evA_nil)) ⟨by rw [List.length_map]; omega, by rw [List.length_map]; omega⟩) evAM_nil)) (by show 2 ≤ 100000; decide)) evAM_nil) ⟨by show 0 < 2; decide, by show 2 < 2 ^ 15; decide⟩) fun H v h => ?_) (fun n d hd => ?_) (by rw [List.length_map]; omega))
      · obtain ⟨R, hR, hv⟩ := h
        rcases List.mem_cons.mp hR with e | e
        · subst e
          have hv' : Dp K H v (.int 0) := hv
          cases hv'
          exact ⟨0, ⟨by omega, by rw [List.length_map]; omega⟩, rfl⟩
        · have : R = isZ fun z => 0 ≤ z ∧ z < ((L.map PyData.int).length : Int) := by simpa using e
          subst this; exact hv
      · rw [List.getElem?_map] at hd
        cases hg : L[n]? with
        | none => rw [hg] at hd; cases hd
        | some g =>
          rw [hg] at hd
          cases hd
          refine nx_tri (triM_appTP (g := g) (W := fun w => ∃ x y, x = 1 ∧ (0 ≤ y ∧ y < 9) ∧ w = x + y) rfl (evM_tp (ev_var rfl) (evM_op (evM_z (evM_of (ev_int (K := K)))) (evM_callX (p := pX__law_take K C) (9 : Int) rfl (evAM_of (evA_cons ev_int evA_nil)) ⟨by decide, by decide⟩) opV_Z)) (by show F.length < 1000; omega) fun w hw => ?_)
          obtain ⟨x2, y2, hx2, hy2, hxy2⟩ := hw
          refine nx_weak ?_ (d3 (L.eraseIdx n, F ++ [(g, w)]) (hz.step hg ⟨by omega, by omega⟩))
          dsimp only
          rw [map_erase]
          repeat (first | exact Weak.nil | refine Weak.same ?_ | refine Weak.none ?_)
    · obtain ⟨L, F⟩ := z
      obtain ⟨x, y, hx, hy, hxy⟩ := hn
      have hfl := hz.fl
      dsimp only at hfl
      refine (show Tri c _ (tRet (tCB (rTupOf K) (tCons (tCB (rSortedPO K) (tCons (tVar 4) tNil)) tNil))) D from ?_)
      refine triM_ret (evM_of (R := isOuts K) (fun σ Hs H e Q q => ?_)) (finX_of (i := 0) fin rfl)
      refine ev_sortTP (K := K) (c := c) (i := 4) rfl (by show F.length < 1000; omega) σ Hs H e _ fun v Hs1 H1 s1 ⟨qs, hp, hsq, hv⟩ => ?_
      obtain ⟨o1, o2⟩ := outs_of hz (by omega) (by omega) hp hsq
      have hv' : Dp K Hs1 v (.list (qs.map fun p : Int × Int => .tuple [.int p.1, .int p.2])) := hv
      rw [o2] at hv'
      exact caV_tupL (K := K) [v] Hs1 H1 s1.i (.cons hv' .nil) Q fun v2 Hs2 H2 s2 h2 => q v2 Hs2 H2 (s1.trans s2) ⟨_, o1, h2⟩
end
end SD
end
section
namespace SM
structure TbDr (t : Tb) : Prop where
  name : nameOk t.name
  outs : OutsOk t.outs
  low : 1 ≤ t.low ∧ t.low ≤ 3
  step : 1 ≤ t.step ∧ t.step ≤ 3
  high : ∃ k r, k < 4 ∧ r < t.step ∧ t.high = t.low + t.step * k + r
  fee : t.fee ≤ 2
theorem TbDr.top {t : Tb} (h : TbDr t) : t.low ≤ t.high ∧ t.high ≤ 14 := by
  obtain ⟨k, r, hk, hr, e⟩ := h.high
  have h1 := h.low
  have h2 := h.step
  have : t.step * k ≤ 3 * 3 := Nat.mul_le_mul h2.2 (by omega)
  omega
theorem TbDr.few {t : Tb} (h : TbDr t) : (t.high - t.low) / t.step + 1 ≤ 4 := by
  obtain ⟨k, r, hk, hr, e⟩ := h.high
  have h2 := h.step
  have e2 : t.high - t.low = r + t.step * k := by omega
  rw [e2, Nat.add_mul_div_left _ _ (by omega), Nat.div_eq_of_lt hr]
  omega
theorem TbDr.ok {t : Tb} (h : TbDr t) {m : Nat} (hm : 1 ≤ m) (hm4 : m ≤ 4) (ht : t.high * m ≤ 39) : TbOk (mulT m t) := by
  have h1 := h.low
  have h2 := h.step
  have h3 := h.top
  have hf := h.few
  have a1 : 1 * 1 ≤ t.low * m := Nat.mul_le_mul h1.1 hm
  have a2 : t.low * m ≤ t.high * m := Nat.mul_le_mul_right _ h3.1
  have a3 : 1 * 1 ≤ t.step * m := Nat.mul_le_mul h2.1 hm
  have a4 : t.step * m ≤ 3 * 4 := Nat.mul_le_mul h2.2 hm4
  have a5 : t.fee * m ≤ 2 * 4 := Nat.mul_le_mul h.fee hm4
  refine ⟨h.name, h.outs, by show 1 ≤ t.low * m; omega, a2, ht, by show 1 ≤ t.step * m; omega, by show t.step * m ≤ 39; omega, by show t.fee * m ≤ 9; omega, ?_⟩
  rw [stk_mul hm t h2.1, List.length_map]
  unfold stk
  rw [List.length_map, List.length_range]; exact hf
theorem mulT_one (t : Tb) : mulT 1 t = t := by
  unfold mulT
  simp
theorem TbDr.ok1 {t : Tb} (h : TbDr t) : TbOk t := by
  have := h.ok (m := 1) (by decide) (by decide) (by have := h.top; omega)
  rw [mulT_one] at this; exact this
theorem house_drawn {g m : Nat} {ts : List Tb} (hg : 1 ≤ g) (hf : ts.length ≤ 3) (ht : ∀ t ∈ ts, TbDr t) (nd : (ts.map (·.name)).Nodup) (hm : 1 ≤ m) (hm4 : m ≤ 4) (h9 : g * m ≤ 9) (h39 : ∀ t ∈ ts, t.high * m ≤ 39) : HOk (g * m) (ts.map (mulT m)) := by
  refine ⟨Nat.mul_pos hg hm, h9, by rw [List.length_map]; exact hf, fun t htm => ?_, ?_⟩
  · obtain ⟨u, hu, rfl⟩ := List.mem_map.mp htm
    exact (ht u hu).ok hm hm4 (h39 u hu)
  · rw [List.map_map]; exact nd
theorem house_drawn1 {g : Nat} {ts : List Tb} (hg : 1 ≤ g) (hg9 : g ≤ 9) (hf : ts.length ≤ 3) (ht : ∀ t ∈ ts, TbDr t) (nd : (ts.map (·.name)).Nodup) : HOk g ts :=
  ⟨hg, hg9, hf, fun t h => (ht t h).ok1, nd⟩
end SM
end
section
set_option maxHeartbeats 4000000
set_option exponentiation.threshold 100000
namespace SD
open PySem PySem.Spec PyProof.Rows L2 SH SM RZ
section
def isTR (K : PySem.W.Frag) (Rs : List Rp) : Rp := ⟨fun H v => ∃ p vs, v = .ref p ∧ SqT K H p vs ∧ All2 H Rs vs, fun e ⟨p, vs, h1, h2, h3⟩ => ⟨p, vs, h1, Evl.ex_t e h2, h3.ex e⟩⟩
theorem nx_ret {c : Ctx} {E : List Slo} {te : TE} {D : Ends} (h : Tri c E (tRet te) D) : Nx c E (tRet te D) := h
def isNm (used : List Str) : Rp := ⟨fun _ v => ∃ z, nameOk z ∧ z ∉ used ∧ v = .str z, fun _ h => h⟩
def isTab (K : PySem.W.Frag) (used : List Str) : Rp := ⟨fun H v => ∃ t, TbDr t ∧ t.name ∉ used ∧ Dp K H v (dT t), fun e ⟨t, h1, h2, h3⟩ => ⟨t, h1, h2, dp_ex e _ _ h3⟩⟩
def pX__law_name (K : PySem.W.Frag) (C : Addr) : PromX := ⟨List Str, fun a => a.length ≤ 20, fun a => [isD K (.list (a.map .str))], fun a => isNm a⟩
def pX__law_table (K : PySem.W.Frag) (C : Addr) : PromX := ⟨List Str, fun a => a.length ≤ 20, fun a => [isD K (.list (a.map .str))], fun a => isTab K a⟩
variable {P : Program} {w : World} {K : PySem.W.Frag} {mg : Str → Option Value} {base : Heap} {T : List Addr} {C : Addr}
theorem evM_tupR {c : Ctx} {E E1 : List Slo} {t : TA} {Rs : List Rp} (h : EvAM c E t Rs E1) (hl : Rs.length ≤ 100000) : EvM c E (tTup t) (isTR K Rs) E1 := fun σ Hs H e Q q => by
  refine h σ Hs H e _ fun vs Hs1 H1 x1 e1 hv => ⟨Evl.sz_of (by rw [hv.length]; exact hl), fun p hp => ?_⟩
  have s := Stp.new (o := .tup vs) e1.ok.sub hp
  exact q _ _ _ (x1.trans s.s) (e1.move s) ⟨p, vs, rfl, SqT.of upd_same, hv.ex s.s⟩
theorem evM_ints {c : Ctx} {E E1 : List Slo} {t : TA} {ns : List Int} (h : EvAM c E t ((ns.map PyData.int).map (isD K)) E1) (hl : ns.length ≤ 1000) : EvM c E (tLst t) (isLR K ((ns.map PyData.int).map (isD K))) E1 := evM_lstR h (by rw [List.length_map, List.length_map]; omega)
theorem any_ints {ns : List Int} {H : Hp} {v : V} (h : (isAny ((ns.map PyData.int).map (isD K))).p H v) : (isZ (· ∈ ns)).p H v := by
  obtain ⟨R, hR, hv⟩ := h
  rw [List.map_map] at hR
  obtain ⟨n, hn, rfl⟩ := List.mem_map.mp hR
  have hv' : Dp K H v (.int n) := hv
  cases hv'
  exact ⟨n, hn, rfl⟩
theorem tab_num {low high step : Int} (hlow : 1 ≤ low ∧ low ≤ 3) (hs3 : 1 ≤ step ∧ step ≤ 3) (hhigh : ∃ k r, 0 ≤ k ∧ k < 4 ∧ 0 ≤ r ∧ r < step ∧ high = low + step * k + r) :
    0 ≤ high ∧ ∃ k r : Nat, k < 4 ∧ r < step.toNat ∧ high.toNat = low.toNat + step.toNat * k + r := by
  obtain ⟨k, r, k0, k4, r0, r1, eh⟩ := hhigh
  have hsk : 0 ≤ step * k := Int.mul_nonneg (by omega) k0
  have hh : 0 ≤ high := by rw [eh]; omega
  refine ⟨hh, k.toNat, r.toNat, by omega, by omega, ?_⟩
  have e1 : ((high.toNat : Nat) : Int) = ((low.toNat + step.toNat * k.toNat + r.toNat : Nat) : Int) := by
    rw [Int.natCast_add, Int.natCast_add, Int.natCast_mul, Int.toNat_of_nonneg hh, Int.toNat_of_nonneg (by omega), Int.toNat_of_nonneg (by omega), Int.toNat_of_nonneg k0, Int.toNat_of_nonneg r0]
    exact eh
  exact Int.ofNat.inj e1
theorem tab_of {H : Hp} {p : Addr} {vs : List V} {a : List Str} {low high step : Int} (hp : SqT K H p vs) (hv : All2 H [isNm a, isOuts K, isD K (.int low), isD K (.int high), isD K (.int step), isZ (· ∈ [(0 : Int), 0, 0, 1, 2])] vs) (hlow : 1 ≤ low ∧ low ≤ 3) (hs3 : 1 ≤ step ∧ step ≤ 3) (hhigh : ∃ k r, 0 ≤ k ∧ k < 4 ∧ 0 ≤ r ∧ r < step ∧ high = low + step * k + r) : (isTab K a).p H (.ref p) := by
  cases hv with
  | cons h1 r =>
    cases r with
    | cons h2 r =>
      cases r with
      | cons h3 r =>
        cases r with
        | cons h4 r =>
          cases r with
          | cons h5 r =>
            cases r with
            | cons h6 r =>
              cases r
              obtain ⟨z, z1, z2, z3⟩ := h1
              obtain ⟨os, o1, o2⟩ := h2
              obtain ⟨fe, f1, f2⟩ := h6
              subst z3 f2
              obtain ⟨hh, hk⟩ := tab_num hlow hs3 hhigh
              have hfe : 0 ≤ fe ∧ fe ≤ 2 := by
                simp at f1
                omega
              have e1 : ((low.toNat : Nat) : Int) = low := Int.toNat_of_nonneg (by omega)
              have e2 : ((high.toNat : Nat) : Int) = high := Int.toNat_of_nonneg hh
              have e3 : ((step.toNat : Nat) : Int) = step := Int.toNat_of_nonneg (by omega)
              have e4 : ((fe.toNat : Nat) : Int) = fe := Int.toNat_of_nonneg hfe.1
              have b1 : 1 ≤ low.toNat ∧ low.toNat ≤ 3 := by omega
              have b2 : 1 ≤ step.toNat ∧ step.toNat ≤ 3 := by omega
              have b3 : fe.toNat ≤ 2 := by omega
              rw [← e1] at h3
              rw [← e2] at h4
              rw [← e3] at h5
              generalize low.toNat = lo at *
              generalize high.toNat = hi at *
              generalize step.toNat = stp at *
              refine ⟨⟨z, os, lo, hi, stp, fe.toNat⟩, ⟨z1, o1, b1, b2, hk, b3⟩, z2, .tup hp ?_⟩
              refine .cons (.str z) (.cons o2 (.cons h3 (.cons h4 (.cons h5 (.cons ?_ .nil)))))
              show Dp K H (V.int fe) (PyData.int ((fe.toNat : Nat) : Int))
              rw [e4]; exact .int fe
theorem sc__law_table : FnScope ["_law_source", "_law_used", "_law_low_here", "_law_step", "_law_high"] ["_law_source", "_law_used"] (defScope s__law_table) := ⟨rfl, rfl, rfl, by decide +kernel, rfl, by decide +kernel, by decide +kernel⟩
theorem ok__law_table {f : Addr} {fd : FuncData} (F : FunD K "_law_table" "_law_table" (defArgs s__law_table) (defBody s__law_table) (defScope s__law_table) [] [] f fd) (hm : mg "_law_table" = some (.ref f)) (B : Blt mg)  (h__law_one : Has P w K mg base "_law_one" ["_law_source", "_law_things"] 2 (spX T (pX__law_one K C))) (h__law_take : Has P w K mg base "_law_take" ["_law_source", "_law_top"] 1 (spX T (pX__law_take K C))) (h__law_name : Has P w K mg base "_law_name" ["_law_source", "_law_used"] 2 (spX T (pX__law_name K C))) (h__law_outs : Has P w K mg base "_law_outs" ["_law_source", "_law_most"] 3 (spX T (pX__law_outs K C))) : Has P w K mg base "_law_table" ["_law_source", "_law_used"] 4 (spX T (pX__law_table K C)) :=
  hasX_of F hm sc__law_table (fun _ _ _ _ _ _ us hl => match us, hl with | [_, _], _ => rfl) (fun _ => rfl) (by decide) fun cdv A outer s H E hr a c D qa hT hX hs q hnx => by
    subst hT
    refine ⟨_, (pss_cons (ps_par (by rfl) sc__law_table.nd (i := 2) (j := 3) rfl rfl (by decide) rfl rfl (pa_cons (pe_op op_add pe_int (pe_has (h__law_take.mono (by decide)) (hr) (pa_cons (pv 0) (pa_cons pe_int pa_nil)))) (pa_cons (pe_has (h__law_one.mono (by decide)) (hr) (pa_cons (pv 0) (pa_cons (pe_lst (pa_cons pe_int (pa_cons pe_int (pa_cons pe_int (pa_cons pe_int (pa_cons pe_int pa_nil)))))) pa_nil))) pa_nil)) (by rfl))
      (pss_cons (ps_set (i := 4) sc__law_table.nd rfl (.inl rfl) (pe_op op_add (pe_op op_add (pv 2) (pe_op op_mulW (pv 3) (pe_has (h__law_take.mono (by decide)) (hr) (pa_cons (pv 0) (pa_cons pe_int pa_nil))))) (pe_has (h__law_take.mono (by decide)) (hr) (pa_cons (pv 0) (pa_cons (pv 3) pa_nil)))))
      (pss_one (ps_ret (pe_tup (pa_cons (pe_has (h__law_name.mono (by decide)) (hr) (pa_cons (pv 0) (pa_cons (pv 1) pa_nil))) (pa_cons (pe_has (h__law_outs.mono (by decide)) (hr) (pa_cons (pv 0) (pa_cons pe_int pa_nil))) (pa_cons (pv 2) (pa_cons (pv 4) (pa_cons (pv 3) (pa_cons (pe_has (h__law_one.mono (by decide)) (hr) (pa_cons (pv 0) (pa_cons (pe_lst (pa_cons pe_int (pa_cons pe_int (pa_cons pe_int (pa_cons pe_int (pa_cons pe_int pa_nil)))))) pa_nil))) pa_nil))))))))))), ?_⟩
    change List Str at a
    have fin : FinX c qa (isTab K a) D.rt := q
    have hu : a.length ≤ 20 := hs
    refine tri_seq (triM_par (R := isZ fun z => 1 ≤ z ∧ z ≤ 3) (S := isZ (· ∈ [(1 : Int), 1, 1, 2, 3])) (evM_zw (evM_op (evM_z (evM_of (ev_int (K := K)))) (evM_callX (p := pX__law_take K C) (3 : Int) rfl (evAM_of (evA_cons ev_int evA_nil)) ⟨by decide, by decide⟩) opV_Z) fun z ⟨x, y, h1, h2, h3⟩ => by omega) (evM_weak (evM_callX (p := pX__law_one K C) (([(1 : Int), 1, 1, 2, 3].map PyData.int).map (isD K)) rfl (evAM_cons (evM_ints (evAM_of (evA_cons ev_int (evA_cons ev_int (evA_cons ev_int (evA_cons ev_int (evA_cons ev_int evA_nil)))))) (by decide)) evAM_nil) ⟨by simp, by simp⟩) fun H v h => any_ints h) ?_)
    refine nx_exZ (K := K) (i := 2) rfl fun low hlow => nx_exZ (K := K) (i := 3) rfl fun step hstep => ?_
    have hs3 : 1 ≤ step ∧ step ≤ 3 := by simp at hstep; omega
    refine nx_tri (tri_seq (triM_asg (R := isZ fun z => ∃ k r, 0 ≤ k ∧ k < 4 ∧ 0 ≤ r ∧ r < step ∧ z = low + step * k + r) (evM_zw (evM_op (evM_op (evM_z (evM_of (ev_var (i := 2) rfl))) (evM_op (evM_z (evM_of (ev_var (i := 3) rfl))) (evM_callX (p := pX__law_take K C) (4 : Int) rfl (evAM_of (evA_cons ev_int evA_nil)) ⟨by decide, by decide⟩) (opV_ZC fun i j hi hj => ?_)) opV_Z) (evM_callX (p := pX__law_take K C) step rfl (evAM_of (evA_cons (ev_var (i := 3) rfl) evA_nil)) ⟨by omega, by omega⟩) opV_Z) fun z hz => ?_) ?_))
    · subst hi
      exact mulW_of 16 16 (by omega) (by omega)
    · obtain ⟨x, y, ⟨x1, y1, rfl, ⟨x2, y2, rfl, hy2, rfl⟩, rfl⟩, hy, rfl⟩ := hz
      exact ⟨y2, y, hy2.1, hy2.2, hy.1, hy.2, rfl⟩
    refine nx_exZ (K := K) (i := 4) rfl fun high hhigh => ?_
    dsimp only
    refine nx_ret (D := D) ?_
    refine triM_ret (evM_weak (R := isTR K [isNm a, isOuts K, isD K (.int low), isD K (.int high), isD K (.int step), isZ (· ∈ [(0 : Int), 0, 0, 1, 2])]) (evM_tupR (evAM_cons (evM_callX (p := pX__law_name K C) a rfl (evAM_of (evA_cons (ev_var (i := 1) rfl) evA_nil)) hu) (evAM_cons (evM_callX (p := pX__law_outs K C) () rfl (evAM_of (evA_cons ev_int evA_nil)) trivial) (evAM_cons (evM_of (ev_var (i := 2) rfl)) (evAM_cons (evM_of (ev_var (i := 4) rfl)) (evAM_cons (evM_of (ev_var (i := 3) rfl)) (evAM_cons (evM_weak (evM_callX (p := pX__law_one K C) (([(0 : Int), 0, 0, 1, 2].map PyData.int).map (isD K)) rfl (evAM_cons (evM_ints (evAM_of (evA_cons ev_int (evA_cons ev_int (evA_cons ev_int (evA_cons ev_int (evA_cons ev_int evA_nil)))))) (by decide)) evAM_nil) ⟨by simp, by simp⟩) fun H v h => any_ints h) evAM_nil)))))) (by simp)) fun H v h => ?_) (finX_of (i := 0) fin rfl)
    obtain ⟨p, vs, rfl, hp, hv⟩ := h
    exact tab_of hp hv hlow hs3 hhigh
end
end SD
end
section
set_option maxHeartbeats 1000000
namespace SD
open PySem PySem.Spec PyProof.Rows L2 SM
section
variable {K : PySem.W.Frag} {c : Ctx} {E : List Slo} {ta : TE}
theorem dpAll_range {H : Hp} : ∀ n : Nat, DpAll K H (rgV 0 (n : Int)) ((List.range n).map fun i : Nat => PyData.int (i : Int)) := fun n => by
  have h := dpAll_of_ints (K := K) (H := H) ((List.range n).map fun i : Nat => (i : Int))
  rw [List.map_map, List.map_map] at h
  have e : rgV 0 (n : Int) = (List.range n).map (V.int ∘ fun i : Nat => (i : Int)) := by
    unfold rgV
    have : ((n : Int) - 0).toNat = n := by omega
    rw [this]
    apply List.map_congr_left
    intro i _
    show V.int (0 + (i : Int)) = V.int (i : Int)
    rw [Int.zero_add]
  rw [e]; exact h
theorem ev_tupRg {n : Nat} (h : Ev c E ta (isD K (.int (n : Nat)))) (hn : n ≤ 1000) : Ev c E (tTupRg (tRg1 ta)) (isD K (dN (List.range n))) := fun σ Hs H e Q q => h σ Hs H e _ fun v Hs1 H1 s1 hv => by
  cases hv
  refine ⟨(n : Int), rfl, ⟨by omega, by omega, by omega, by omega, by omega⟩, fun p hp => ?_⟩
  have s := Stp.new (o := .tup (rgV 0 (n : Int))) s1.i hp
  exact q _ _ _ (s1.trans s) (.tup (SqT.of upd_same) (dpAll_ex s.s _ _ (dpAll_range n)))
end
end SD
end
section
set_option maxHeartbeats 1000000
namespace SD
open PySem PySem.Spec PyProof.Rows L2 SM
section
variable {K : PySem.W.Frag} {c : Ctx} {E : List Slo} {ta : TE} {α : Type} [DecidableEq α] {f : α → PyData} {n : Nat}
theorem evT_notInO {i : Nat} {x : α} {xs : List α} (en : Enc f n) (hi : E[i]? = some (.own (ownL K (xs.map f)))) (h : Ev c E ta (isD K (f x))) (hn : n + 1 ≤ 64 := by decide) : EvT c E (tTest (tOp (rNotInD K) ta (tVar i))) (!decide (x ∈ xs)) := fun σ Hs H e Q q => by
  refine h σ Hs H e _ fun v Hs1 H1 s1 hv => ?_
  obtain ⟨p, vs, a1, a2, a3, a4⟩ := (e.move s1).own_at hi
  refine ⟨.ref p, a1, f x, xs.map f, dp_ex s1.i _ _ hv, .lst (SqL.of a3) (dpAll_ex s1.i _ _ a4), en.shaped (by omega) x, en.list.shaped hn xs, _, rfl, ?_⟩
  rw [any_enc en]
  exact q Hs1 H1 s1
end
end SD
end
section
set_option maxHeartbeats 2000000
namespace SD
open PySem PySem.Spec PyProof.Rows L2 SM
open GxR (TabB TabG Tabbed GenS)
structure InGen (X : Cx) (P : Addr) (h : Heap) (B : Around) (C : Addr) (x : Str) (v : Value) (z : Shared) : Prop where
  hd : B.handled = none
  dp : B.depth ≤ X.A.depth + 1
  un : B.units ≤ X.A.units + 8
  kp : ∀ b o, b ≠ P → h.get? b = some o → z.heap.get? b = some o
  ns : ∃ m, z.heap.Ns C m ∧ m x = some v
abbrev gEnv (X : Cx) (scope : Scope) (C : Addr) (code : Value) : Env := genEnv scope (cloFrom X.env.cells scope.names []) C code builtinsNs X.env
def EltD (X : Cx) (P : Addr) (scope : Scope) (elt : Expr) (x : Str) (h : Heap) (Pv : Nat → Value → Prop) (f : Nat → Bool) : Prop :=
  ∀ (C : Addr) (code : Value) (B : Around) (E' : Value → Shared → Prop) (i : Nat) (v : Value) (z : Shared), Pv i v → InGen X P h B C x v z →
    wpAny (model X.prog X.w) B (eval elt (gEnv X scope C code)) (fun y z' => y = .bool (f i) ∧ Keeps z z') E' z
def Src1 (X : Cx) (P : Addr) (scope : Scope) (elt : Expr) (x : Str) (s1 : Shared) (u : Value) (n : Nat) (f : Nat → Bool) : Prop :=
  ∃ Pv : Nat → Value → Prop, EltD X P scope elt x s1.heap Pv f ∧ ∀ Qq : Value → Shared → Prop,
    (∀ (o : Obj) (fp : List Addr) (St : Nat → Heap → Prop), (∀ B : Around, B.handled = none → Walks X.prog X.w B s1.heap.objs.size fp [s1.heap.objs.size] n Pv St) → St 0 (s1.heap.push o) → (∀ b ∈ fp, b ≤ s1.heap.objs.size ∧ b ≠ P) →
      Qq (.ref s1.heap.objs.size) { s1 with heap := s1.heap.push o }) → wpAny (model X.prog X.w) X.A (pyIter u) Qq X.xe s1
def Rdy (X : Cx) (pins : List (Addr × Obj)) (σ : L2.St) (H1 : Hp) (P : Addr) (n : Nat) (f : Nat → Bool) (g : Addr) (s5 : Shared) : Prop :=
  ∃ (fp wr : List Addr) (G : Array GenState → Array GenState → Prop) (F : Nat → Value → Prop) (St : Nat → Shared → Prop),
    WalksS X.prog X.w X.A.in1 g fp wr G n F St ∧ St 0 s5 ∧ TruthOf X.prog X.w X.A.in1 F f ∧ ∀ s', Moved wr G s5 s' → ∃ H2, Tabbed P H1 H2 ∧ Inv X pins σ H2 s'
theorem keeps_self (z : Shared) : Keeps z z := ⟨z.heap, z.toks, rfl, fun _ _ e => e⟩
section
variable {X : Cx} {pins : List (Addr × Obj)} {σ : L2.St} {H : Hp} {s : Shared}
theorem gen_run {c P : Addr} {elt iter : Expr} {x : Str} {px gpos : Pos} {scope : Scope} {te : TE} {k : Nat} {Q' : Value → Shared → Prop} {R : V → Hp → Prop}
    (hr : Room k X.A) (TB : TabB X.base X.mg c P) (hcd : X.env.code = .ref c) (S : GenS X.env scope x) (hi : PE X iter te) (hs : ∀ v, genFold iter X.env v = pure v) (I : Inv X pins σ H s)
    (h : te σ H fun v H1 => TabG H1 P ∧ R v H1)
    (src : ∀ (s1 : Shared) (H1 : Hp) (u : Value) (v : V), Inv X pins σ H1 s1 → RelV v u → TabG H1 P → R v H1 → ∃ n f, Src1 X P scope elt x s1 u n f ∧ ∀ g s5, Rdy X pins σ H1 P n f g s5 → Q' (.ref g) s5) :
    wpAny (model X.prog X.w) X.A (eval (.GeneratorExp elt [⟨.Name x px, iter, [], 0⟩] scope gpos) X.env) Q' X.xe s := by
  refine wpAny_GeneratorExp_walksQD hr.hd S.co (closure_ok S.free) S.cell S.dot S.loc S.kind (by have := hr.dp; omega) ?_ hs
  refine thn (hi.run pins s σ H _ I h) fun u s1 ⟨v, H1, I1, r1, hT, q1⟩ => ?_
  obtain ⟨n, f, ⟨Pv, hel, hit⟩, hQ⟩ := src s1 H1 u v I1 r1 hT q1
  obtain ⟨ps, hP, ht⟩ := hT
  refine hit _ fun o fp St W hst hfp => ?_
  have atP : s1.heap.get? P = some { cls := .none, data := .fields ps } := I1.hok P _ hP
  have ltP : P < s1.heap.objs.size := Heap.lt_size atP
  have atP' : (s1.heap.push o).get? P = some { cls := .none, data := .fields ps } := Heap.get?_push_of_some _ atP
  have cdh : PySem.W.CodeHd (s1.heap.push o) c P := TB.code.keeps fun b u e => Heap.get?_push_of_some _ (I1.bk b u e)
  have lim : (s1.heap.push o).NoLimit := I1.nolimit.push o
  have szo : (s1.heap.push o).objs.size = s1.heap.objs.size + 1 := Heap.size_push ..
  -- behind the code object: the table may have grown
  have cont : ∀ (code : Value) (h3 : Heap) (tk : Nat) (qs : Array Value), Heap.ExtBut P (s1.heap.push o) h3 → (s1.heap.push o).objs.size ≤ h3.objs.size → h3.get? P = some { cls := .none, data := .fields qs } → (∃ more, qs = ps ++ more) → TriplesOk qs.toList →
      wpAny (model X.prog X.w) X.A (builtinsFor X.env.globals X.env.builtins) (fun bi s₄ =>
        ∃ Ia fp wr n₀ Pf St₀ pz F, Value.ref s1.heap.objs.size = .ref Ia ∧ (∀ A' : Around, A'.handled = none → Walks X.prog X.w A' Ia fp wr n₀ Pf St₀) ∧ St₀ 0 s₄.heap ∧ (∀ b ∈ fp, b < s₄.heap.objs.size) ∧ s₄.heap.NoLimit ∧ cStatics ∉ wr ∧
          (∀ href : Heap, (∀ b o, s₄.heap.get? b = some o → href.get? b = some o) →
            QuietGenD X.prog X.w (genEnv scope (cloFrom X.env.cells scope.names []) s₄.heap.objs.size code bi X.env) x [] elt (List.range s₄.heap.objs.size) wr Pf pz F href (X.A.depth + 1) (X.A.units + 8)) ∧
          (∀ a h₅ tk gs, gs.bare = true → s₄.heap.objs.size < a → h₅.objs.size = a + 1 → (∀ b o, s₄.heap.get? b = some o → h₅.get? b = some o) →
            WalksS X.prog X.w X.A.in4 a (a :: s₄.heap.objs.size :: List.range s₄.heap.objs.size) (s₄.heap.objs.size :: wr) (GenOnlyQ s₄.gens.size) (passing pz n₀ 0).length
              (fun j y => ∃ i, (passing pz n₀ 0)[j]? = some i ∧ F i y) (GenAt X.prog X.w X.A.in4 a s₄.gens.size s₄.heap.objs.size (List.range s₄.heap.objs.size) wr pz n₀ F) →
            GenAt X.prog X.w X.A.in4 a s₄.gens.size s₄.heap.objs.size (List.range s₄.heap.objs.size) wr pz n₀ F 0 { s₄ with gens := s₄.gens.push gs, toks := tk, heap := h₅ } →
            Q' (.ref a) { s₄ with gens := s₄.gens.push gs, toks := tk, heap := h₅ })) X.xe { s1 with heap := h3, toks := tk } := by
    intro code h3 tk qs hx hsz hq3 hmore ht3
    obtain ⟨bm, ob, e1, e2, e3, e4, e5, e6, e7, e8⟩ := TB.bm
    have stP : cStatics ≠ P := fun e => by
      obtain ⟨_, hns, _⟩ := I1.nolimit
      obtain ⟨o', es, ep, ho, hd, _⟩ := hns
      rw [e, atP] at ho
      cases ho
      cases hd
    have stlt : cStatics < s1.heap.objs.size := let ⟨_, hns, _⟩ := I1.nolimit; hns.lt
    have keep3 : ∀ b u, b ≠ P → s1.heap.get? b = some u → h3.get? b = some u := fun b u hb e => hx b u hb (Heap.get?_push_of_some _ e)
    refine wpAny_builtinsFor (m := X.mg) (by rw [I1.ok.glob]; exact ((I1.mod.glob.keeps I1.bk).push o).extBut hx TB.gP) e1 e2 (keep3 _ _ e4 (I1.bk _ _ e5)) e6 e7 e8 ?_
    refine ⟨s1.heap.objs.size, fp, [s1.heap.objs.size], n, Pv, St, (fun _ => true), (fun i y => y = .bool (f i)), rfl, W, ?_, ?_, lim.extBut hx stP, ?_, ?_, ?_⟩
    · exact (W X.A hr.hd).frame _ _ _ hst fun b hb u e => hx b u (hfp b hb).2 e
    · intro b hb
      exact Nat.lt_of_le_of_lt (hfp b hb).1 (Nat.lt_of_lt_of_le (by rw [szo]; exact Nat.lt_succ_self _) hsz)
    · intro z
      have : cStatics = s1.heap.objs.size := by simpa using z
      exact Nat.ne_of_lt stlt this
    · intro href hhref
      have kp2 : ∀ {z : Shared}, (∀ b ∈ List.range h3.objs.size, b ∉ [s1.heap.objs.size] → ∀ o, href.get? b = some o → z.heap.get? b = some o) → ∀ b o, b ≠ P → s1.heap.get? b = some o → z.heap.get? b = some o := fun {z} hk b ob hb e => by
        have hl := Heap.lt_size e
        refine hk b (List.mem_range.mpr (Nat.lt_of_lt_of_le (Nat.lt_trans hl (by rw [szo]; exact Nat.lt_succ_self _)) hsz)) (fun y => ?_) ob (hhref b ob (keep3 b ob hb e))
        have : b = s1.heap.objs.size := by simpa using y
        exact Nat.ne_of_lt hl this
      refine ⟨fun A' E' i v z m₂ hA hD hU hPv hn hm hk => ?_, fun A' E' i v z m₂ hA hD hU hPv hp hn hm hk => ?_⟩
      · simp only [List.forIn_nil]
        exact wpAny_pure ⟨rfl, keeps_self _⟩
      · exact hel _ _ A' E' i v z hPv ⟨hA, hD, hU, kp2 hk, m₂, hn, hm⟩
    · intro g h5 tk5 gs hgb hag hsz5 hk5 W5 hat
      simp only [GxR.passing_true, List.length_range] at W5
      refine hQ g _ ⟨_, _, _, _, _, W5.in4_1, hat, ?_, fun s' hm => ?_⟩
      · intro j y sj Qj Ej hy hQj
        obtain ⟨i, hij, rfl⟩ := hy
        obtain ⟨hj, ej⟩ := List.getElem?_eq_some_iff.mp hij
        rw [List.getElem_range] at ej
        subst ej
        exact wpAny_truthy_bool hQj
      · obtain ⟨more, em⟩ := hmore
        have out : ∀ b u, s1.heap.get? b = some u → b ∉ h3.objs.size :: [s1.heap.objs.size] := fun b u e hb => by
          have hl := Heap.lt_size e
          rcases List.mem_cons.mp hb with z | z
          · rw [z] at hl
            have : (h3.objs.size : Nat) < s1.heap.objs.size := hl
            omega
          · have : b = s1.heap.objs.size := by simpa using z
            exact Nat.ne_of_lt hl this
        have J := GxR.inv_tab (more := more) (h' := s'.heap) (g' := s'.gens) (d' := s'.drawn) (t' := s'.toks) I1 hP (fun b u hb e => hm.heap b u (out b u e) (hk5 b u (keep3 b u hb e)))
          (by rw [← em]; exact hm.heap P _ (out P _ atP) (hk5 P _ hq3)) (AllBare.movedS (I1.bare.push hgb) hm)
        rw [GxR.sh_eta s1 s' hm.os] at J
        exact ⟨upd H1 P (.tbl (ps ++ more)), ⟨⟨ps ++ more, upd_same, by rw [← em]; exact ht3⟩, fun b hb => upd_ne hb⟩, J⟩
  refine ⟨lim, ?_⟩
  cases hf : codeAmong gpos ps.toList with
  | none =>
    refine wpAny_genexprCodeX hcd (cdh.code atP' ht) (cdh.tab atP') hf fun c' h' tk hx hge hlt hco' _ htab' _ => ?_
    obtain ⟨o1, vs, f1, tf, fl, tg, inF, tx, tt, op, _, _, _, _, _, _, _, _, _, htr, _⟩ := hco'
    exact cont _ h' tk _ hx (Nat.le_trans hge (Nat.le_of_lt hlt)) htab'.2 ⟨_, rfl⟩ htr
  | some cv =>
    refine wpAny_genexprCode_hit hcd (cdh.code atP' ht) hf ?_
    exact cont cv (s1.heap.push o) s1.toks ps (Heap.ExtBut.refl _ _) (Nat.le_refl _) atP' ⟨#[], by simp⟩ ht
def tGenB (P : Addr) (te : TE) (EL : L2.St → Hp → V → List Bool → Prop) (all : Bool) : TE := fun σ H Q => te σ H fun v H1 => TabG H1 P ∧ ∃ bs : List Bool, EL σ H1 v bs ∧ ∀ H2, Tabbed P H1 H2 → Q (.bl (if all then bs.all id else bs.any id)) H2
theorem range_all (bs : List Bool) : (List.range bs.length).all (fun i => bs.getD i false) = bs.all id := by
  rw [Bool.eq_iff_iff, List.all_eq_true, List.all_eq_true]
  constructor
  · intro h b hb
    obtain ⟨j, hj, e⟩ := List.getElem_of_mem hb
    have := h j (List.mem_range.mpr hj)
    rw [List.getD_eq_getElem?_getD, List.getElem?_eq_getElem hj, e] at this
    exact this
  · intro h j hj
    have hj' := List.mem_range.mp hj
    rw [List.getD_eq_getElem?_getD, List.getElem?_eq_getElem hj']
    exact h _ (List.getElem_mem hj')
theorem range_any (bs : List Bool) : (List.range bs.length).any (fun i => bs.getD i false) = bs.any id := by
  rw [Bool.eq_iff_iff, List.any_eq_true, List.any_eq_true]
  constructor
  · intro ⟨j, hj, h⟩
    have hj' := List.mem_range.mp hj
    rw [List.getD_eq_getElem?_getD, List.getElem?_eq_getElem hj'] at h
    exact ⟨_, List.getElem_mem hj', h⟩
  · intro ⟨b, hb, h⟩
    obtain ⟨j, hj, e⟩ := List.getElem_of_mem hb
    refine ⟨j, List.mem_range.mpr hj, ?_⟩
    rw [List.getD_eq_getElem?_getD, List.getElem?_eq_getElem hj, e]
    exact h
theorem pe_genAll {c P : Addr} {elt iter : Expr} {x : Str} {px p pos gpos : Pos} {scope : Scope} {te : TE} {k : Nat} {EL : L2.St → Hp → V → List Bool → Prop}
    (hr : Room k X.A) (hg : Gl X "all") (hm : X.mg "all" = none) (TB : TabB X.base X.mg c P) (hcd : X.env.code = .ref c) (S : GenS X.env scope x) (hi : PE X iter te)
    (src : ∀ (pins : List (Addr × Obj)) (σ : L2.St) (s1 : Shared) (H1 : Hp) (u : Value) (v : V) (bs : List Bool), Inv X pins σ H1 s1 → RelV v u → TabG H1 P → EL σ H1 v bs → Src1 X P scope elt x s1 u bs.length fun i => bs.getD i false)
    (hs : ∀ v, genFold iter X.env v = pure v := by intro _; rfl) (hb : bootBuiltins "all" = some (.builtin "all") := by decide +kernel)
    (he : starEach [.GeneratorExp elt [⟨.Name x px, iter, [], 0⟩] scope gpos] X.env = (false, eval (.GeneratorExp elt [⟨.Name x px, iter, [], 0⟩] scope gpos) X.env) :: starEach [] X.env := by rfl) :
    PE X (.Call (.Name "all" p) [.GeneratorExp elt [⟨.Name x px, iter, [], 0⟩] scope gpos] [] pos) (tGenB P te EL true) := by
  refine ⟨fun pins s σ H Q I h => ?_⟩
  refine wpAny_Call_Name_kw (ld_blt I hg hm hb ?_)
  refine PyProof.Rows.callWith_builtin1 ?_ he (by rfl)
  rw [he]
  refine Calls.spliced_cons (gen_run (R := fun v H1 => ∃ bs : List Bool, EL σ H1 v bs ∧ ∀ H2, Tabbed P H1 H2 → Q (.bl (bs.all id)) H2) hr TB hcd S hi hs I h fun s1 H1 u v I1 r1 hT ⟨bs, h1, h2⟩ => ⟨bs.length, _, src pins σ s1 H1 u v bs I1 r1 hT h1, fun g s5 hG => ?_⟩)
  obtain ⟨fp, wr, G, F, St, W, hst, htr, hI⟩ := hG
  refine Calls.spliced_nil (call_all_walkS (W.self 0 _ _ _ hst ⟨g, fp, wr, G, _, F, St, _, rfl, W, hst, htr, fun s' hmv => ?_⟩))
  obtain ⟨H2, hT2, J⟩ := hI s' hmv
  refine ⟨.bl _, H2, J, rfl, ?_⟩
  rw [range_all]
  exact h2 H2 hT2
theorem pe_genAny {c P : Addr} {elt iter : Expr} {x : Str} {px p pos gpos : Pos} {scope : Scope} {te : TE} {k : Nat} {EL : L2.St → Hp → V → List Bool → Prop}
    (hr : Room k X.A) (hg : Gl X "any") (hm : X.mg "any" = none) (TB : TabB X.base X.mg c P) (hcd : X.env.code = .ref c) (S : GenS X.env scope x) (hi : PE X iter te)
    (src : ∀ (pins : List (Addr × Obj)) (σ : L2.St) (s1 : Shared) (H1 : Hp) (u : Value) (v : V) (bs : List Bool), Inv X pins σ H1 s1 → RelV v u → TabG H1 P → EL σ H1 v bs → Src1 X P scope elt x s1 u bs.length fun i => bs.getD i false)
    (hs : ∀ v, genFold iter X.env v = pure v := by intro _; rfl) (hb : bootBuiltins "any" = some (.builtin "any") := by decide +kernel)
    (he : starEach [.GeneratorExp elt [⟨.Name x px, iter, [], 0⟩] scope gpos] X.env = (false, eval (.GeneratorExp elt [⟨.Name x px, iter, [], 0⟩] scope gpos) X.env) :: starEach [] X.env := by rfl) :
    PE X (.Call (.Name "any" p) [.GeneratorExp elt [⟨.Name x px, iter, [], 0⟩] scope gpos] [] pos) (tGenB P te EL false) := by
  refine ⟨fun pins s σ H Q I h => ?_⟩
  refine wpAny_Call_Name_kw (ld_blt I hg hm hb ?_)
  refine PyProof.Rows.callWith_builtin1 ?_ he (by rfl)
  rw [he]
  refine Calls.spliced_cons (gen_run (R := fun v H1 => ∃ bs : List Bool, EL σ H1 v bs ∧ ∀ H2, Tabbed P H1 H2 → Q (.bl (bs.any id)) H2) hr TB hcd S hi hs I h fun s1 H1 u v I1 r1 hT ⟨bs, h1, h2⟩ => ⟨bs.length, _, src pins σ s1 H1 u v bs I1 r1 hT h1, fun g s5 hG => ?_⟩)
  obtain ⟨fp, wr, G, F, St, W, hst, htr, hI⟩ := hG
  refine Calls.spliced_nil (call_any_walkS (W.self 0 _ _ _ hst ⟨g, fp, wr, G, _, F, St, _, rfl, W, hst, htr, fun s' hmv => ?_⟩))
  obtain ⟨H2, hT2, J⟩ := hI s' hmv
  refine ⟨.bl _, H2, J, rfl, ?_⟩
  rw [range_any]
  exact h2 H2 hT2
theorem src_tup {P : Addr} {elt : Expr} {x : Str} {scope : Scope} {s1 : Shared} {u : Value} {a : Addr} {xs : List V} {n : Nat} {f : Nat → Bool} (I : Inv X pins σ H s1) (hT : TabG H P) (hc : X.calm = true) (hr : RelV (.ref a) u) (hq : SqT X.K H a xs) (hn : n = xs.length)
    (hel : EltD X P scope elt x s1.heap (fun i v => ∃ y, xs[i]? = some y ∧ RelV y v) f) : Src1 X P scope elt x s1 u n f := by
  cases hr
  obtain ⟨its, rv, p, _⟩ := I.tuple hq
  have hp : s1.heap.IsTuple a its.toArray := p
  obtain ⟨o, ho, hcl, hd⟩ := id hp
  have hlt : a < s1.heap.objs.size := Heap.lt_size ho
  have hne : a ≠ P := fun e => by
    obtain ⟨ps, e1, _⟩ := hT
    have := I.hok P _ e1
    have h3 : s1.heap.get? P = some { cls := .none, data := .fields ps } := this
    rw [e, h3] at ho
    cases ho
    cases hcl
  have en : n = its.toArray.size := by rw [hn, List.size_toArray]; exact rv.length
  subst en
  refine ⟨_, hel, fun Qq hQ => ?_⟩
  refine wpAny_pyIter_tuple hp (hQ _ [s1.heap.objs.size, a] (fun i h => h.IsTupleIter s1.heap.objs.size a i ∧ h.IsTuple a its.toArray) (fun B hB => ?_) ⟨⟨_, Heap.get?_push_size _ rfl, rfl, rfl⟩, hp.push _⟩ fun b hb => ?_)
  · have W := Walks.tuple (prog := X.prog) (w := X.w) (A := B) hB s1.heap.objs.size a (Nat.ne_of_lt hlt) its.toArray
    refine ⟨W.sub, W.frame, fun i s Q E hi st k => W.item i s Q E hi st fun v h' tk hv => k v h' tk ?_, W.done, W.self⟩
    have hv' : its[i]? = some v := by simpa using hv
    obtain ⟨y, e1, e2⟩ : ∃ y, xs[i]? = some y ∧ RelV y v := by
      cases e : xs[i]? with
      | none => rw [rv.none_of e] at hv'; cases hv'
      | some y =>
        obtain ⟨u', e1, e2⟩ := rv.get e
        rw [hv'] at e1
        cases e1
        exact ⟨y, rfl, e2⟩
    exact ⟨y, e1, e2⟩
  · have hb' : b = s1.heap.objs.size ∨ b = a := by simpa using hb
    rcases hb' with e | e
    · refine ⟨Nat.le_of_eq e, fun z => ?_⟩
      obtain ⟨ps, e1, _⟩ := hT
      have h3 : s1.heap.get? P = some { cls := .none, data := .fields ps } := I.hok P _ e1
      have := Heap.lt_size h3
      rw [← z, e] at this
      exact Nat.lt_irrefl _ this
    · rw [e]; exact ⟨Nat.le_of_lt hlt, hne⟩
theorem src_str {P : Addr} {elt : Expr} {x : Str} {scope : Scope} {s1 : Shared} {u : Value} {a : Str} {n : Nat} {f : Nat → Bool} (I : Inv X pins σ H s1) (hT : TabG H P) (hr : RelV (.str a) u) (hn : n = a.cps.size)
    (hel : EltD X P scope elt x s1.heap (SignAt a) f) : Src1 X P scope elt x s1 u n f := by
  obtain ⟨t, rfl⟩ := hr
  subst hn
  refine ⟨_, hel, fun Qq hQ => wpAny_pyIter_str fun o St W hst => hQ o [s1.heap.objs.size] St W hst fun b hb => ?_⟩
  have hb' : b = s1.heap.objs.size := by simpa using hb
  refine ⟨Nat.le_of_eq hb', fun z => ?_⟩
  obtain ⟨ps, e1, _⟩ := hT
  have h3 : s1.heap.get? P = some { cls := .none, data := .fields ps } := I.hok P _ e1
  have := Heap.lt_size h3
  rw [← z, hb'] at this
  exact Nat.lt_irrefl _ this
end
end SD
end
section
set_option maxHeartbeats 2000000
namespace SD
open PySem PySem.Spec PyProof.Rows L2 SM
open GxR (TabB TabG Tabbed GenS)
theorem InGen.on {X : Cx} {P : Addr} {h : Heap} {B : Around} {C : Addr} {x : Str} {v : Value} {z z' : Shared} (g : InGen X P h B C x v z) (k : Keeps z z') : InGen X P h B C x v z' := by
  obtain ⟨m, hn, hm⟩ := g.ns
  obtain ⟨h', tk, rfl, hk⟩ := k
  exact ⟨g.hd, g.dp, g.un, fun b o hb e => hk b o (g.kp b o hb e), m, hn.keeps hk, hm⟩
theorem keeps_then {z z1 z2 : Shared} (a : Keeps z z1) (b : Keeps z1 z2) : Keeps z z2 := by
  obtain ⟨h1, t1, rfl, k1⟩ := a
  obtain ⟨h2, t2, rfl, k2⟩ := b
  exact ⟨h2, t2, rfl, fun c o e => k2 c o (k1 c o e)⟩
theorem keeps_toks (z : Shared) (t : Nat) : Keeps z { z with toks := t } := ⟨z.heap, t, rfl, fun _ _ e => e⟩
section
variable {X : Cx} {pins : List (Addr × Obj)} {σ : L2.St} {H : Hp} {s1 : Shared} {P C : Addr} {scope : Scope} {x y : Str} {B : Around} {v : Value} {z : Shared} {code : Value} {E' : Value → Shared → Prop} {Q : Value → Shared → Prop} {p : Pos}
theorem tab_ne (hT : TabG H P) {b : Addr} (h : ∀ ps, H b ≠ some (.tbl ps)) : b ≠ P := fun e => by
  obtain ⟨ps, e1, _⟩ := hT
  exact h ps (by rw [e]; exact e1)
theorem g_base (I : Inv X pins σ H s1) (hT : TabG H P) (g : InGen X P s1.heap B C x v z) : ∀ b o, X.base.get? b = some o → z.heap.get? b = some o := fun b o e =>
  g.kp b o (tab_ne hT fun ps q => by rw [(I.bs b o e).2] at q; cases q) (I.bk b o e)
theorem lo_loc (S : GenS X.env scope x) (g : InGen X P s1.heap B C x v z) (h : Q v z) (hd : (x == ("__debug__" : Str)) = false := by decide) : wpAny (model X.prog X.w) B (eval (.Name x p) (gEnv X scope C code)) Q E' z := by
  obtain ⟨m, hn, hm⟩ := g.ns
  exact wpAny_Name (wpAny_loadName_local (env := gEnv X scope C code) S.kind S.loc hn hm h) hd
theorem lo_glob (S : GenS X.env scope x) (I : Inv X pins σ H s1) (hT : TabG H P) (g : InGen X P s1.heap B C x v z) (hy : scope.names.lookup y = some .globalImplicit) {u : Value} (hm : X.mg y = some u) (h : Q u z) (hd : (y == ("__debug__" : Str)) = false := by decide) :
    wpAny (model X.prog X.w) B (eval (.Name y p) (gEnv X scope C code)) Q E' z :=
  Calls.Name_function_global (env := gEnv X scope C code) S.kind hy (Calls.loadGlobal_global (by show z.heap.Ns X.env.globals X.mg; rw [I.ok.glob]; exact I.mod.glob.keeps (g_base I hT g)) hm h) hd
theorem lo_blt (S : GenS X.env scope x) (I : Inv X pins σ H s1) (hT : TabG H P) (g : InGen X P s1.heap B C x v z) (hy : scope.names.lookup y = some .globalImplicit) {u : Value} (hm : X.mg y = none) (hv : bootBuiltins y = some u) (h : Q u z) (hn : y ≠ "__name__" := by decide) (hd : (y == ("__debug__" : Str)) = false := by decide) :
    wpAny (model X.prog X.w) B (eval (.Name y p) (gEnv X scope C code)) Q E' z := by
  obtain ⟨mb, h1, h2⟩ := I.mod.blt
  exact Calls.Name_function_global (env := gEnv X scope C code) S.kind hy (Calls.loadGlobal_builtin (by show z.heap.Ns X.env.globals X.mg; rw [I.ok.glob]; exact I.mod.glob.keeps (g_base I hT g)) hm (h1.keeps (g_base I hT g)) ((h2 y hn).trans hv) h) hd
theorem lo_free (S : GenS X.env scope x) (I : Inv X pins σ H s1) (hT : TabG H P) (g : InGen X P s1.heap B C x v z) {i : Nat} {V : L2.V} (hN : X.N[i]? = some y) (hσ : σ[i]? = some (some V)) (hk : X.env.kindOf y = some .cell) (hf : scope.names.lookup y = some .free)
    (hcl : (cloFrom X.env.cells scope.names []).lookup y = some ((X.env.cells.lookup y).getD 0)) (h : ∀ u, RelV V u → Q u z) (hd : (y == ("__debug__" : Str)) = false := by decide) (hcd : (y == ("__classdict__" : Str)) = false := by decide) :
    wpAny (model X.prog X.w) B (eval (.Name y p) (gEnv X scope C code)) Q E' z := by
  obtain ⟨m, hn, hl⟩ := I.loc
  obtain ⟨u, r, l⟩ := hl i y V hN hσ (.inr (.inl hk))
  rcases l with ⟨hk2, _⟩ | ⟨_, c, hc, o, ho, hcell⟩
  · rw [hk] at hk2; cases hk2
  · have hne : c ≠ P := tab_ne hT fun ps q => by rw [I.freeC y c hc] at q; cases q
    have hce : z.heap.IsCell c (some u) := ⟨o, g.kp c o hne ho, hcell⟩
    exact wpAny_Name (wpAny_loadName_free (env := gEnv X scope C code) S.kind hf (by show (cloFrom X.env.cells scope.names []).lookup y = some c; rw [hcl, hc]; rfl) hce (h u r) hcd) hd
theorem elt_lenNe {xs : List L2.V} {f : Nat → Bool} {n : Int} {i0 : Nat} {p1 p2 p3 p4 p5 : Pos} (S : GenS X.env scope x) (I : Inv X pins σ H s1) (hT : TabG H P)
    (hl : scope.names.lookup ("len" : Str) = some .globalImplicit) (hm : X.mg "len" = none) (hN : X.N[i0]? = some y) (hσ : σ[i0]? = some (some (.int n))) (hk : X.env.kindOf y = some .cell) (hf : scope.names.lookup y = some .free)
    (hcl : (cloFrom X.env.cells scope.names []).lookup y = some ((X.env.cells.lookup y).getD 0))
    (hx : ∀ i V, xs[i]? = some V → ∃ t ys, V = .ref t ∧ SqT X.K H t ys ∧ f i = (!decide ((ys.length : Int) = n))) (hd : (x == ("__debug__" : Str)) = false := by decide) (hdy : (y == ("__debug__" : Str)) = false := by decide) (hcd : (y == ("__classdict__" : Str)) = false := by decide) :
    EltD X P scope (.Compare (.Call (.Name "len" p1) [.Name x p2] [] p3) [.NotEq] [.Name y p4] p5) x s1.heap (fun i v => ∃ V, xs[i]? = some V ∧ RelV V v) f := by
  intro C code B E' i v z ⟨V, hV, rV⟩ g
  obtain ⟨t, ys, rfl, hq, hfi⟩ := hx i V hV
  cases rV
  obtain ⟨its, rv, pl, hz⟩ := I.tuple hq
  have hp : s1.heap.IsTuple t its.toArray := pl
  obtain ⟨o, ho, hc, no, hdt⟩ := id hp
  have hne : t ≠ P := fun e => by
    obtain ⟨ps, e1, _⟩ := hT
    have h3 : s1.heap.get? P = some { cls := .none, data := .fields ps } := I.hok P _ e1
    rw [e, h3] at ho
    cases ho
    cases hc
  have hpz : IsTup z.heap t its.toArray := ⟨o, g.kp t o hne ho, hc, no, hdt⟩
  refine wpAny_Compare1 ?_
  refine wpAny_Call_Name_kw (lo_blt S I hT g hl hm boot_len ?_)
  refine PyProof.Rows.callWith_builtin1 (Calls.spliced_cons (lo_loc S g (Calls.spliced_nil ?_) hd)) rfl rfl
  refine len_tuple hpz (by simp only [List.size_toArray]; have := line63; have := rv.length; have := sizeLine_eq; omega) ?_
  refine lo_free S I hT (g.on (keeps_toks z (z.toks + 1 + 1))) hN hσ hk hf hcl (fun u r => ?_) hdy hcd
  obtain ⟨t2, rfl⟩ := r
  refine ne_int ⟨?_, keeps_toks z _⟩
  rw [hfi]
  have e : (its.toArray.size : Int) = (ys.length : Int) := by rw [List.size_toArray, rv.length]
  show Value.bool (((its.toArray.size : Nat) : Int) != n) = _
  rw [e, bne, Bool.beq_eq_decide_eq]
theorem elt_inTxt {a b : Str} {f : Nat → Bool} {p1 p2 p3 : Pos} (S : GenS X.env scope x) (I : Inv X pins σ H s1) (hT : TabG H P)
    (hy : scope.names.lookup y = some .globalImplicit) (hm : ∃ t, X.mg y = some (.str b t)) (hf : ∀ i c, a.cps[i]? = some c → f i = Txt.contains b ⟨#[c]⟩) (hd : (x == ("__debug__" : Str)) = false := by decide) (hdy : (y == ("__debug__" : Str)) = false := by decide) :
    EltD X P scope (.Compare (.Name x p1) [.In] [.Name y p2] p3) x s1.heap (SignAt a) f := by
  intro C code B E' i v z ⟨c, u, hc, hv⟩ g
  subst hv
  obtain ⟨t, hm⟩ := hm
  refine wpAny_Compare1 (lo_loc S g (lo_glob S I hT g hy hm ?_ hdy) hd) (by rfl)
  exact PySem.SB.contains ⟨by rw [hf i c hc], keeps_self z⟩
theorem low_num {Pg : Program} {w : World} {K : PySem.W.Frag} {mg : Str → Option Value} {f : Addr} {fd : FuncData} (F : FunD K "is_number" "is_number" (defArgs SH.s_is_number) (defBody SH.s_is_number) (defScope SH.s_is_number) [] [] f fd)
    (hi : mg "isinstance" = none) (hn : mg "int" = none) (hb : mg "bool" = none) {B : Around} {z : Shared} {n : Int} {t : Tok} {Q : Value → Shared → Prop} {E' : Value → Shared → Prop} (hd : B.depth < recursionLimit) (KX : K.In z.heap) (hg : z.heap.Ns mainGlobals mg)
    (hbl : ∃ mb, z.heap.Ns builtinsNs mb ∧ ∀ x : Str, x ≠ "__name__" → mb x = bootBuiltins x) (lim : z.heap.NoLimit) (h : ∀ z', Keeps z z' → Q (.bool true) z') : wpAny (model Pg w) B (call (.ref f) [.int n t]) Q E' z := by
  have hbn : Binds K fd ["thing"] [] := F.bindsN fun _ _ _ _ _ _ us hl => match us, hl with | [_], _ => rfl
  obtain ⟨oc, od, dV, kV, doc, pm, an, cdv, ct, osl, rfl, lk, hcd, _, _⟩ := F.ex
  have ebody : ∃ q1 q2 q3 q4 q5 q6 q7 q8 q9 q10 q11, defBody SH.s_is_number = [.Return (some (.BoolOp .And [.Call (.Name "isinstance" q1) [.Name "thing" q2, .Name "int" q3] [] q4, .UnaryOp .Not (.Call (.Name "isinstance" q5) [.Name "thing" q6, .Name "bool" q7] [] q8) q9] q10)) q11] := ⟨_, _, _, _, _, _, _, _, _, _, _, rfl⟩
  have ekind : (defScope SH.s_is_number).kind = .function := by kernel_rfl
  have l1 : (defScope SH.s_is_number).names.lookup ("thing" : Str) = some .local := by kernel_rfl
  have l2 : (defScope SH.s_is_number).names.lookup ("isinstance" : Str) = some .globalImplicit := by kernel_rfl
  have l3 : (defScope SH.s_is_number).names.lookup ("int" : Str) = some .globalImplicit := by kernel_rfl
  have l4 : (defScope SH.s_is_number).names.lookup ("bool" : Str) = some .globalImplicit := by kernel_rfl
  obtain ⟨q1, q2, q3, q4, q5, q6, q7, q8, q9, q10, q11, ebody⟩ := ebody
  have hbind := hbn z [.int n t] KX rfl
  refine wpAny_call (codeAny_call_function hd (KX _ _ lk) rfl (by kernel_rfl) (by kernel_rfl) rfl (PySem.W.codeRec_of KX hcd) (hbind _ _ _ _ ?_))
  refine (wpAny_newFunctionEnv_cells ekind (fun y hy => ?_) fun env he z1 x1 => ?_)
  · have : y = (("thing" : Str), Value.int n t) := by simpa using hy
    rw [this]; exact .inl l1
  subst he
  have kp : Keeps z z1 := x1.toInCall.done
  have kb : ∀ b o, z.heap.get? b = some o → z1.heap.get? b = some o := x1.toInCall.keep
  refine ⟨lim.keeps kb, codeAny_func ?_⟩
  show wpAny _ _ (execs (defBody SH.s_is_number) _) _ _ _
  rw [ebody]
  have thing : ∀ {A' : Around} {E2 : Value → Shared → Prop} {Q2 : Value → Shared → Prop} {z2 : Shared} {q : Pos}, (∀ b o, z1.heap.get? b = some o → z2.heap.get? b = some o) → Q2 (.int n t) z2 →
      wpAny (model Pg w) A' (eval (.Name "thing" q) (newEnv (defScope SH.s_is_number) z.heap.objs.size mainGlobals (cellsFrom (z.heap.objs.size + 1) (defScope SH.s_is_number).names []) ("is_number" ++ ".<locals>.") (some f) cdv none builtinsNs)) Q2 E2 z2 := fun {A' E2 Q2 z2 q} k2 q2 =>
    wpAny_Name (wpAny_loadName_local (env := newEnv (defScope SH.s_is_number) z.heap.objs.size mainGlobals (cellsFrom (z.heap.objs.size + 1) (defScope SH.s_is_number).names []) ("is_number" ++ ".<locals>.") (some f) cdv none builtinsNs) ekind l1 (x1.toInCall.ns.keeps k2) (by show bindL _ _ _ _ = _; exact bindL_get (P := ["thing"]) (vs := [Value.int n t]) (i := 0) (by decide) rfl rfl l1) q2) (by decide)
  have blt : ∀ {y : Str} {v : Value} {A' : Around} {E2 : Value → Shared → Prop} {Q2 : Value → Shared → Prop} {z2 : Shared} {q : Pos}, (defScope SH.s_is_number).names.lookup y = some .globalImplicit → mg y = none → bootBuiltins y = some v → y ≠ "__name__" → (y == ("__debug__" : Str)) = false → (∀ b o, z1.heap.get? b = some o → z2.heap.get? b = some o) → Q2 v z2 →
      wpAny (model Pg w) A' (eval (.Name y q) (newEnv (defScope SH.s_is_number) z.heap.objs.size mainGlobals (cellsFrom (z.heap.objs.size + 1) (defScope SH.s_is_number).names []) ("is_number" ++ ".<locals>.") (some f) cdv none builtinsNs)) Q2 E2 z2 := fun {y v A' E2 Q2 z2 q} hy hm hv n1 n2 k2 q2 => by
    obtain ⟨mb, h1, h2⟩ := hbl
    exact Calls.Name_function_global (env := newEnv (defScope SH.s_is_number) z.heap.objs.size mainGlobals (cellsFrom (z.heap.objs.size + 1) (defScope SH.s_is_number).names []) ("is_number" ++ ".<locals>.") (some f) cdv none builtinsNs) ekind hy (Calls.loadGlobal_builtin (hg.keeps fun b o e => k2 b o (kb b o e)) hm (h1.keeps fun b o e => k2 b o (kb b o e)) ((h2 y n1).trans hv) q2) n2
  refine wpAny_execs_cons (wpAny_Return_some (BoolOp_and ?_))
  refine wpAny_Call_Name_kw (blt (v := .builtin "isinstance") l2 hi (by decide +kernel) (by decide) (by decide) (fun _ _ e => e) ?_)
  refine PyProof.Rows.callWith_builtin1 (Calls.spliced_cons (thing (fun _ _ e => e) (Calls.spliced_cons (blt (v := .type "int") l3 hn (by decide +kernel) (by decide) (by decide) (fun _ _ e => e) (Calls.spliced_nil ?_))))) rfl rfl
  refine IsiPair.int_int (wpAny_truthy_bool (ite_tt (BoolOp_one (UnaryOp_ ?_))))
  refine wpAny_Call_Name_kw (blt (v := .builtin "isinstance") l2 hi (by decide +kernel) (by decide) (by decide) (fun _ _ e => e) ?_)
  refine PyProof.Rows.callWith_builtin1 (Calls.spliced_cons (thing (fun _ _ e => e) (Calls.spliced_cons (blt (v := .type "bool") l4 hb (by decide +kernel) (by decide) (by decide) (fun _ _ e => e) (Calls.spliced_nil ?_))))) rfl rfl
  refine IsiPair.int_bool (not_of (wpAny_truthy_bool ?_))
  exact h _ (keeps_then kp (keeps_toks z1 _))
theorem elt_place {xs : List L2.V} {f : Nat → Bool} {i0 k : Nat} {CB a dx fn : Addr} {fs : List (Str × L2.V)} {n : Int} {fd : FuncData} {p1 p2 p3 p4 p5 p6 p7 p8 p9 : Pos} {j0 : Nat} (S : GenS X.env scope x) (I : Inv X pins σ H s1) (hT : TabG H P) (hr : Room 3 X.A)
    (F : FunD X.K "is_number" "is_number" (defArgs SH.s_is_number) (defBody SH.s_is_number) (defScope SH.s_is_number) [] [] fn fd) (hmi : X.mg "isinstance" = none) (hmn : X.mg "int" = none) (hmb : X.mg "bool" = none)
    (hc : scope.names.lookup ("is_number" : Str) = some .globalImplicit) (hmf : X.mg "is_number" = some (.ref fn)) (hN : X.N[i0]? = some y) (hσ : σ[i0]? = some (some (.ref a))) (hk : X.env.kindOf y = some .cell) (hf : scope.names.lookup y = some .free)
    (hcl : (cloFrom X.env.cells scope.names []).lookup y = some ((X.env.cells.lookup y).getD 0)) (ha : H a = some (.ins CB dx fs)) (hcls : Cls X.K CB) (hna : NoAttr X.K CB "size") (hfs : fs.lookup ("size" : Str) = some (.int n))
    (hx : ∀ i V, xs[i]? = some V → ∃ j, V = .int j ∧ 0 ≤ j ∧ j < n ∧ f i = true) (hd : (x == ("__debug__" : Str)) = false := by decide) (hdy : (y == ("__debug__" : Str)) = false := by decide) (hcd : (y == ("__classdict__" : Str)) = false := by decide) :
    EltD X P scope (.BoolOp .And [.Call (.Name "is_number" p1) [.Name x p2] [] p3, .Compare (.Constant (.int 0) j0 p4) [.LtE, .Lt] [.Name x p5, .Attribute (.Name y p6) "size" p7] p8] p9) x s1.heap (fun i v => ∃ V, xs[i]? = some V ∧ RelV V v) f := by
  intro C code B E' i v z ⟨V, hV, rV⟩ g
  obtain ⟨j, rfl, h0, h1, hfi⟩ := hx i V hV
  obtain ⟨t, rfl⟩ := rV
  have hdp : B.depth < recursionLimit := by have := g.dp; have := hr.dp; omega
  refine BoolOp_and ?_
  refine wpAny_Call_Name_kw (lo_glob S I hT g hc hmf ?_)
  refine PySem.W.callWith_K (h₀ := X.base) I.ok.mod.kin F.kp (Calls.spliced_cons (lo_loc S g (Calls.spliced_nil ⟨I.ok.mod.kin.keeps (g_base I hT g), ?_⟩) hd)) rfl rfl
  obtain ⟨mb, b1, b2⟩ := I.mod.blt
  refine low_num F hmi hmn hmb hdp (I.ok.mod.kin.keeps (g_base I hT g)) (I.mod.glob.keeps (g_base I hT g)) ⟨mb, b1.keeps (g_base I hT g), b2⟩ (I.ok.mod.nolimit.keeps (g_base I hT g)) fun z1 k1 => ?_
  refine wpAny_truthy_bool (ite_tt (BoolOp_one ?_))
  have g1 := g.on k1
  refine Compare_chain (wpAny_Constant_int (chain_link (lo_loc S (g1.on (keeps_toks z1 _)) ?_ hd))) (by with_unfolding_all rfl)
  refine le_int (wpAny_truthy_bool ?_)
  rw [decide_eq_true h0]
  refine ite_tt (chain_last (attr_of (by rfl) (lo_free S I hT (g1.on (keeps_toks z1 _)) hN hσ hk hf hcl (fun u r => ?_) hdy hcd)))
  cases r
  have g2 : InGen X P s1.heap B C x (.int j t) { z1 with toks := z1.toks + 1 } := g1.on (keeps_toks z1 _)
  obtain ⟨mA, ⟨o1, o2, o3⟩, rf, _, _, hown⟩ := ins_get I.hok ha
  have na : a ≠ P := tab_ne hT fun ps q => by rw [ha] at q; cases q
  have nd : dx ≠ P := tab_ne hT fun ps q => by rw [hown] at q; cases q
  obtain ⟨u, hu, ru⟩ := RelO.some_of (v := .int n) (o := mA "size") (by rw [← hfs]; exact rf "size")
  have O : ObjM z1.heap a dx CB mA := ⟨g2.kp a _ na o1, o2.at fun o q => g2.kp dx o nd q, o3⟩
  obtain ⟨t2, rfl⟩ := ru
  refine get_map (I.ok.mod.kin.keeps (g_base I hT g2)) O (hcls.get "size") hcls.hd hna hu (handed_of (v := .int n) ⟨t2, rfl⟩) ?_
  refine lt_int ⟨?_, keeps_then k1 (keeps_toks z1 _)⟩
  rw [hfi, decide_eq_true h1]
end
end SD
end
section
set_option maxHeartbeats 2000000
namespace SD
open PySem PySem.Spec PyProof.Rows L2 SM
open GxR (TabB TabG Tabbed GenS)
theorem Stp.tab {Hs H1 H2 : Hp} {P : Addr} (e : Ex Hs H1) (h : Tabbed P H1 H2) (ho : TabG H1 P) (hP : Hs P = none) : Stp Hs H1 Hs H2 where
  s := Evl.Ex.refl _
  i := fun a u ea => by
    have : a ≠ P := fun z => by rw [z, hP] at ea; cases ea
    rw [h.2 a this]; exact e a u ea
  k := fun a u _ ea hn => by
    have : a ≠ P := fun z => by
      obtain ⟨ps, e1, _⟩ := ho
      rw [z, e1] at ea
      exact hn ps (Option.some.inj ea).symm
    rw [h.2 a this]; exact ea
  t := fun a ha => by
    by_cases z : a = P
    · rw [z]; exact h.1
    · obtain ⟨ps, e1, t⟩ := ha
      exact ⟨ps, by rw [h.2 a z]; exact e1, t⟩
  f := fun a _ h2 => h2
  d := fun a h1 => by
    by_cases z : a = P
    · obtain ⟨ps, e1, _⟩ := h.1
      rw [z, e1]; exact Option.some_ne_none _
    · rw [h.2 a z]; exact h1
section
variable {K : PySem.W.Frag} {c : Ctx} {E : List Slo} {te : TE} {R : Rp}
theorem ev_genB {P : Addr} {EL : L2.St → Hp → V → List Bool → Prop} {all : Bool} {bs : List Bool} (hP : P ∈ c.T) (h : Ev c E te R) (hel : ∀ (σ : L2.St) (Hs H : Hp) (v : V), Sat c σ Hs H E → R.p Hs v → EL σ H v bs) :
    Ev c E (tGenB P te EL all) (isD K (.bool (if all then bs.all id else bs.any id))) := fun σ Hs H e Q q => h σ Hs H e _ fun v Hs1 H1 s1 hv => by
  have e1 := e.move s1
  obtain ⟨t1, t2⟩ := e1.ok.tab P hP
  refine ⟨t1, bs, hel σ Hs1 H1 v e1 hv, fun H2 hT => ?_⟩
  have s2 := Stp.tab e1.ok.sub hT t1 t2
  exact q _ Hs1 H2 (s1.trans s2) (.bl _)
end
section
variable {P : Program} {w : World} {K : PySem.W.Frag} {mg : Str → Option Value} {base : Heap} {T : List Addr}
theorem hasT_of {x qual : Str} {params : Arguments} {body : List Stmt} {scope : Scope} {f cO : Addr} {fd : FuncData} {N ps : List Str} {k : Nat} {p : Prom} (F : FunD K x qual params body scope [] [] f fd) (hco : fd.code = .ref cO) (hm : mg x = some (.ref f)) (S : FnScope N ps scope)
    (bd : ∀ (kV doc pm : Value) (an : Option Addr) (cdv ct : Value) (us : List Value), us.length = ps.length → bindArgs (PySem.W.fnOf x qual params body scope .none kV doc pm an cdv ct) ⟨us, []⟩ = pure (ps.zip us))
    (hl : ∀ a, (p.args a).length = ps.length) (hN : ps.length ≤ N.length)
    (hbody : ∀ (A : Around) (outer : List Env) (s : Shared) (H : Hp) (E : XK), Room k (A.deeper (envOfC qual scope s.heap.objs.size f (.ref cO))) →
      ∀ (a : p.α) (c : Ctx) (D : Ends), c.T = T → c.X = [] → p.side a → Fin c (p.res a) D.rt → D.nx = (fun _ H' => D.rt .non H') →
        ∃ t, PSs (cxOf CX0 P w K mg base N qual scope f (.ref cO) A outer s H E).nox body t ∧ Tri c (entryE (p.args a) N.length) t D) : Has P w K mg base x ps (k + 1) (spOf T p) := by
  have F0 := F
  obtain ⟨oc, od, dV, kV, doc, pm, an, cdv, ct, osl, rfl, lk, hcd, _, _⟩ := F.ex
  obtain rfl : cdv = .ref cO := hco
  refine ⟨f, _, hm, F0.kp, F0.bindsN bd, fn_of lk hcd S (fun vs H Q E h => ?_) (fun A outer s H vs Q E hr h => ?_)⟩
  · obtain ⟨a, Hs, _, _, hv, _⟩ := h
    rw [hv.length, hl]
  · obtain ⟨a, Hs, hs, ok, hv, q⟩ := h
    obtain ⟨t, h1, h2⟩ := hbody A outer s H E hr a ⟨T, [], Hs, H, fun _ => True, fun _ _ => trivial⟩ { nx := fun _ H' => Q .non H', rt := Q } rfl rfl hs (fun v Hs' H' st hR => q v Hs' H' st hR) rfl
    exact ⟨t, h1.nox, h2 _ Hs H (sat_start (c := ⟨T, [], Hs, H, fun _ => True, fun _ _ => trivial⟩) ok trivial hv (by rw [hl]; exact hN))⟩
end
end SD
end
section
set_option maxHeartbeats 4000000
set_option exponentiation.threshold 100000
namespace SD
open PySem PySem.Spec PyProof.Rows L2 SH SM RZ
section
open GxR (TabB TabG Tabbed GenS)
theorem gfree {names : List (Str × NameKind)} {cells : List (Str × Addr)} (h : (names.all fun y => !(decide (y.2 = .free)) || (cells.lookup y.1).isSome) = true) : ∀ y ∈ names, y.2 = .free → ∃ c, cells.lookup y.1 = some c := fun y hy e => by
  have := List.all_eq_true.mp h y hy
  rw [decide_eq_true e] at this
  cases z : cells.lookup y.1 with
  | none => rw [z] at this; cases this
  | some c => exact ⟨c, rfl⟩
def EL_solved (K : PySem.W.Frag) : L2.St → Hp → V → List Bool → Prop := fun σ H v bs => ∃ (a : Addr) (xs : List V) (n : Int), v = .ref a ∧ SqT K H a xs ∧ σ[7]? = some (some (.int n)) ∧ bs.length = xs.length ∧ ∀ i V, xs[i]? = some V → ∃ t ys, V = .ref t ∧ SqT K H t ys ∧ bs.getD i false = (!decide ((ys.length : Int) = n))
def EL_is_name : L2.St → Hp → V → List Bool → Prop := fun _ _ v bs => ∃ a : Str, v = .str a ∧ bs.length = a.cps.size ∧ ∀ i c, a.cps[i]? = some c → bs.getD i false = Txt.contains "abcdefghijklmnopqrstuvwxyz" ⟨#[c]⟩
def EL_are_places (K : PySem.W.Frag) (C : Addr) : L2.St → Hp → V → List Bool → Prop := fun σ H v bs => ∃ (a : Addr) (xs : List V) (a2 dx : Addr) (fs : List (Str × V)) (n : Int), v = .ref a ∧ SqT K H a xs ∧ σ[2]? = some (some (.ref a2)) ∧ H a2 = some (.ins C dx fs) ∧ fs.lookup ("size" : Str) = some (.int n) ∧ bs.length = xs.length ∧ ∀ i V, xs[i]? = some V → ∃ j, V = .int j ∧ 0 ≤ j ∧ j < n ∧ bs.getD i false = true
section
variable {X : Cx} {P : Addr} {scope : Scope} {x : Str} {p1 p2 p3 p4 p5 p6 p7 p8 p9 : Pos} {j0 : Nat}
theorem src_solved (hc : X.calm = true) (hl : scope.names.lookup ("len" : Str) = some .globalImplicit) (hm : X.mg "len" = none) (hN : X.N[7]? = some ("size" : Str)) (hk : X.env.kindOf ("size" : Str) = some .cell) (hf : scope.names.lookup ("size" : Str) = some .free)
    (hcl : (cloFrom X.env.cells scope.names []).lookup ("size" : Str) = some ((X.env.cells.lookup ("size" : Str)).getD 0)) (S : GenS X.env scope "row") :
    ∀ (pins : List (Addr × Obj)) (σ : L2.St) (s1 : Shared) (H1 : Hp) (u : Value) (v : V) (bs : List Bool), Inv X pins σ H1 s1 → RelV v u → TabG H1 P → EL_solved X.K σ H1 v bs →
      Src1 X P scope (.Compare (.Call (.Name "len" p1) [.Name "row" p2] [] p3) [.NotEq] [.Name "size" p4] p5) "row" s1 u bs.length fun i => bs.getD i false := fun pins σ s1 H1 u v bs I r hT ⟨a, xs, n, e, hq, hσ, hl2, hx⟩ => by
  subst e
  exact src_tup I hT hc r hq hl2 (elt_lenNe (i0 := 7) S I hT hl hm hN hσ hk hf hcl hx)
theorem src_is_name (hy : scope.names.lookup ("LETTERS" : Str) = some .globalImplicit) (hm : ∃ t, X.mg "LETTERS" = some (.str "abcdefghijklmnopqrstuvwxyz" t)) (S : GenS X.env scope "letter") :
    ∀ (pins : List (Addr × Obj)) (σ : L2.St) (s1 : Shared) (H1 : Hp) (u : Value) (v : V) (bs : List Bool), Inv X pins σ H1 s1 → RelV v u → TabG H1 P → EL_is_name σ H1 v bs →
      Src1 X P scope (.Compare (.Name "letter" p1) [.In] [.Name "LETTERS" p2] p3) "letter" s1 u bs.length fun i => bs.getD i false := fun pins σ s1 H1 u v bs I r hT ⟨a, e, hl2, hx⟩ => by
  subst e
  exact src_str I hT r hl2 (elt_inTxt S I hT hy hm hx)
theorem src_are_places {C fn : Addr} {fd : FuncData} (BB : BF X.K C) (hr : Room 3 X.A) (F : FunD X.K "is_number" "is_number" (defArgs SH.s_is_number) (defBody SH.s_is_number) (defScope SH.s_is_number) [] [] fn fd) (hmi : X.mg "isinstance" = none) (hmn : X.mg "int" = none) (hmb : X.mg "bool" = none)
    (hcn : scope.names.lookup ("is_number" : Str) = some .globalImplicit) (hmf : X.mg "is_number" = some (.ref fn)) (hc : X.calm = true) (hN : X.N[2]? = some ("other" : Str)) (hk : X.env.kindOf ("other" : Str) = some .cell) (hf : scope.names.lookup ("other" : Str) = some .free)
    (hcl : (cloFrom X.env.cells scope.names []).lookup ("other" : Str) = some ((X.env.cells.lookup ("other" : Str)).getD 0)) (S : GenS X.env scope "place") :
    ∀ (pins : List (Addr × Obj)) (σ : L2.St) (s1 : Shared) (H1 : Hp) (u : Value) (v : V) (bs : List Bool), Inv X pins σ H1 s1 → RelV v u → TabG H1 P → EL_are_places X.K C σ H1 v bs →
      Src1 X P scope (.BoolOp .And [.Call (.Name "is_number" p1) [.Name "place" p2] [] p3, .Compare (.Constant (.int 0) j0 p4) [.LtE, .Lt] [.Name "place" p5, .Attribute (.Name "other" p6) "size" p7] p8] p9) "place" s1 u bs.length fun i => bs.getD i false := fun pins σ s1 H1 u v bs I r hT ⟨a, xs, a2, dx, fs, n, e, hq, hσ, ha, hfs, hl2, hx⟩ => by
  subst e
  exact src_tup I hT hc r hq hl2 (elt_place (i0 := 2) (k := 0) S I hT hr F hmi hmn hmb hcn hmf hN hσ hk hf hcl ha BB.cl BB.nS hfs hx)
end
variable {P : Program} {w : World} {K : PySem.W.Frag} {mg : Str → Option Value} {base : Heap} {T : List Addr} {C : Addr}
theorem one_letter {c : Nat} (h1 : 97 ≤ c) (h2 : c ≤ 122) : Txt.contains "abcdefghijklmnopqrstuvwxyz" ⟨#[c]⟩ = true := by
  have h : ∀ k : Nat, k < 26 → Txt.contains "abcdefghijklmnopqrstuvwxyz" ⟨#[97 + k]⟩ = true := by
    have := (by decide +kernel : (List.range 26).all (fun k => Txt.contains "abcdefghijklmnopqrstuvwxyz" ⟨#[97 + k]⟩) = true)
    intro k hk
    exact List.all_eq_true.mp this k (List.mem_range.mpr hk)
  have := h (c - 97) (by omega)
  rwa [show 97 + (c - 97) = c by omega] at this
theorem all_rep (n : Nat) : (List.replicate n true).all id = true := List.all_eq_true.mpr fun b hb => (List.mem_replicate.mp hb).2
theorem getD_rep {n i : Nat} (h : i < n) : (List.replicate n true).getD i false = true := by
  rw [List.getD_eq_getElem?_getD, List.getElem?_replicate, if_pos h]; rfl
def p_are_places (K : PySem.W.Frag) (C : Addr) : Prom := ⟨List Nat × Bd × Bd, fun a => a.1.length = a.2.1.size ∧ ∀ p ∈ a.1, p < a.2.2.size, fun a => [isD K (dN a.1), isB K C a.2.1, isB K C a.2.2], fun a => isD K (.bool true)⟩
theorem sc_is_name : FnScope ["thing"] ["thing"] (defScope s_is_name) := ⟨rfl, rfl, rfl, by decide +kernel, rfl, by decide +kernel, by decide +kernel⟩
theorem ok_is_name {f : Addr} {fd : FuncData} (F : FunD K "is_name" "is_name" (defArgs s_is_name) (defBody s_is_name) (defScope s_is_name) [] [] f fd) (hm : mg "is_name" = some (.ref f)) (B : Blt mg) {cO PT : Addr} (hco : fd.code = .ref cO) (TB : GxR.TabB base mg cO PT) (hPT : PT ∈ T)   : Has P w K mg base "is_name" ["thing"] 4 (spOf T (p_is_name K C)) :=
  hasT_of F hco hm sc_is_name (fun _ _ _ _ _ _ us hl => match us, hl with | [_], _ => rfl) (fun _ => rfl) (by decide) fun A outer s H E hr a c D hT hX hs q hnx => by
    subst hT
    refine ⟨_, (pss_cons (ps_if (PW.pt (pw_or (pt_not (pt_val (pe_callB (k_isi K) (by rfl) B.isinstance (by decide +kernel) (pa_cons (pv 0) (pa_cons (pe_bltn (v := .ty "str") (by rfl) B.str (by decide +kernel) rfl) pa_nil))))) (pw_or1 (pt_not (pt_chain op_le op_le pe_int (pe_callB (k_len K) (by rfl) B.len (by decide +kernel) (pa_cons (pv 0) pa_nil)) pe_int))))) (pss_one (ps_ret pe_bl)) pss_nil)
      (pss_one (ps_ret (pe_genAll (EL := EL_is_name) hr (by rfl) B.all TB (by rfl) ⟨by rfl, by rfl, by decide +kernel, by rfl, by rfl, gfree (by rfl)⟩ (pv 0) (src_is_name (by rfl) B.LETTERS ⟨by rfl, by rfl, by decide +kernel, by rfl, by rfl, gfree (by rfl)⟩))))), ?_⟩
    change Str at a
    have hn : nameOk a := hs
    obtain ⟨n1, n2, n3⟩ := hn
    refine tri_seq (tri_ifF (evT_is (evT_or (evT_not (evT_B (ev_CB (evA_cons (ev_var rfl) (evA_cons ev_ty evA_nil)) (caV_isi (kit_str _))))) (fun _ => evT_not (evT_test (ev_chain ev_int (ev_CB (evA_cons (ev_var rfl) evA_nil) (caV_lenS (x := a) (by omega))) opV_bool ev_int opV_bool)))) ?_) (tri_next ?_))
    · rw [decide_eq_true (show (1 : Int) ≤ (a.length : Int) by omega), decide_eq_true (show (a.length : Int) ≤ 4 by omega)]; rfl
    refine tri_ret (ev_is (ev_genB (all := true) (bs := List.replicate a.cps.size true) hPT (ev_var (i := 0) rfl) fun σ Hs H v e hv => ?_) ?_) q
    · have hv' : Dp K Hs v (.str a) := hv
      cases hv'
      refine ⟨a, rfl, by rw [List.length_replicate], fun i c hc => ?_⟩
      have hi := (Array.getElem?_eq_some_iff.mp hc).1
      have hm : c ∈ a.cps.toList := List.mem_of_getElem? (by rw [Array.getElem?_toList]; exact hc)
      rw [getD_rep hi, one_letter (n3 c hm).1 (n3 c hm).2]
    · rw [if_pos rfl, all_rep]
theorem dN_at {H : Hp} {vs : List V} {ns : List Nat} (h : DpAll K H vs (ns.map fun n : Nat => .int (n : Int))) : vs = ns.map fun n : Nat => V.int (n : Int) := by
  have e : (ns.map fun n : Nat => PyData.int (n : Int)) = (ns.map fun n : Nat => (n : Int)).map PyData.int := by rw [List.map_map]; rfl
  rw [e] at h
  have := dpAll_ints h
  rw [this, List.map_map]; rfl
theorem sc_are_places : FnScope ["places", "board", "other"] ["places", "board", "other"] (defScope s_are_places) := ⟨rfl, rfl, rfl, by decide +kernel, rfl, by decide +kernel, by decide +kernel⟩
theorem ok_are_places {f : Addr} {fd : FuncData} (F : FunD K "are_places" "are_places" (defArgs s_are_places) (defBody s_are_places) (defScope s_are_places) [] [] f fd) (hm : mg "are_places" = some (.ref f)) (B : Blt mg) {cO PT : Addr} (hco : fd.code = .ref cO) (TB : GxR.TabB base mg cO PT) (hPT : PT ∈ T) (BB : BF K C) {fnN : Addr} {fdN : FuncData} (FN : FunD K "is_number" "is_number" (defArgs s_is_number) (defBody s_is_number) (defScope s_is_number) [] [] fnN fdN) (hmN : mg "is_number" = some (.ref fnN)) (h_is_number : Has P w K mg base "is_number" ["thing"] 1 (spOf T (p_is_number K C))) : Has P w K mg base "are_places" ["places", "board", "other"] 4 (spOf T (p_are_places K C)) :=
  hasT_of F hco hm sc_are_places (fun _ _ _ _ _ _ us hl => match us, hl with | [_, _, _], _ => rfl) (fun _ => rfl) (by decide) fun A outer s H E hr a c D hT hX hs q hnx => by
    subst hT
    refine ⟨_, (pss_cons (ps_if (PW.pt (pw_or (pt_not (pt_val (pe_callB (k_isi K) (by rfl) B.isinstance (by decide +kernel) (pa_cons (pv 0) (pa_cons (pe_bltn (v := .ty "tuple") (by rfl) B.tuple (by decide +kernel) rfl) pa_nil))))) (pw_or1 (pt_cmpR op_ne (pe_callB (k_len K) (by rfl) B.len (by decide +kernel) (pa_cons (pv 0) pa_nil)) (k_fld K (pv 1) rfl) (nomark _))))) (pss_one (ps_ret pe_bl)) pss_nil)
      (pss_one (ps_ret (pe_genAll (EL := (EL_are_places K C)) hr (by rfl) B.all TB (by rfl) ⟨by rfl, by rfl, by decide +kernel, by rfl, by rfl, gfree (by rfl)⟩ (pv 0) (src_are_places BB (hr.mono (by decide)) FN B.isinstance B.int B.bool (by rfl) hmN (by rfl) (by rfl) (by rfl) (by rfl) (by rfl) ⟨by rfl, by rfl, by decide +kernel, by rfl, by rfl, gfree (by rfl)⟩))))), ?_⟩
    obtain ⟨pl, b, s⟩ := a
    obtain ⟨hl, hp⟩ := hs
    dsimp only at hl hp
    refine tri_seq (tri_ifF (evT_is (evT_or (evT_not (evT_B (ev_CB (evA_cons (ev_var (i := 0) rfl) (evA_cons ev_ty evA_nil)) (caV_isi (kit_tup _))))) (fun _ => evT_test (ev_op (ev_CB (evA_cons (ev_var (i := 0) rfl) evA_nil) caV_lenT) (ev_size BB (ev_var (i := 1) rfl)) opV_neI))) ?_) (tri_next ?_))
    · rw [List.length_map, hl]; simp
    refine tri_ret (ev_is (ev_genB (all := true) (bs := List.replicate pl.length true) hPT (ev_var (i := 0) rfl) fun σ Hs H v e hv => ?_) ?_) q
    · have hv' : Dp K Hs v (.tuple (pl.map fun n : Nat => .int (n : Int))) := hv
      cases hv' with
      | @tup a vs _ hs ha =>
        have hvs := dN_at ha
        obtain ⟨w2, hw, a2, dx, x, y, z1, z2, _, _⟩ := e.val 2 (isB K C s) rfl
        subst z1
        refine ⟨a, vs, a2, dx, _, (s.size : Int), rfl, Evl.ex_t e.ok.sub hs, hw, e.ok.sub _ _ z2, bF_s _ x y, by rw [List.length_replicate, hvs, List.length_map], fun i V hV => ?_⟩
        rw [hvs, List.getElem?_map] at hV
        cases hi : pl[i]? with
        | none => rw [hi] at hV; cases hV
        | some j =>
          rw [hi] at hV
          cases hV
          have := hp j (List.mem_of_getElem? hi)
          exact ⟨(j : Int), rfl, by omega, by omega, getD_rep (List.getElem?_eq_some_iff.mp hi).1⟩
    · rw [if_pos rfl, all_rep]
theorem clr_step {n k : Nat} {col : Nat → Vec} (hk : k < n) (hp : 0 < Dk n col k) {i j : Nat} (hi : i < n) : clr (Tt n col k) k (Dk n col k) i j = Tt n col (k + 1) i j := by
  unfold clr
  by_cases h : i = k
  · subst h; rw [if_pos rfl, Tt_same]
  · rw [if_neg h, ← Tt_step hi hk h]
    exact Int.mul_ediv_cancel_left _ (by omega)
theorem tabZ_congr {n m : Nat} {f g : Nat → Nat → Int} (h : ∀ i j, i < n → j < m → f i j = g i j) : tabZ n m f = tabZ n m g := by
  unfold tabZ
  apply List.map_congr_left
  intro i hi
  apply List.map_congr_left
  intro j hj
  exact h i j (List.mem_range.mp hi) (List.mem_range.mp hj)
theorem cat_row {n : Nat} (f : Nat → Int) : ((List.range n).map f).map PyData.int ++ [] = ((List.range n).map f).map PyData.int := by simp
theorem opV_isN {i : Int} : OpV (fun x y H Q => y = .non ∧ Q (.bl (decide (x = .non))) H) (isD K (.int i)) (isD K .none) (isD K (.bool false)) := fun x y Hs H e hx hy Q q => by
  cases hx; cases hy
  exact ⟨rfl, q _ Hs H (StpX.refl e) (.bl _)⟩
theorem dpAll_getV {H : Hp} : ∀ {vs : List V} {ds : List PyData} {i : Nat} {v : V}, DpAll K H vs ds → vs[i]? = some v → ∃ d, ds[i]? = some d ∧ Dp K H v d
  | _, _, _, _, .nil, e => by simp at e
  | _, _, 0, _, .cons h1 _, e => by simp at e; subst e; exact ⟨_, rfl, h1⟩
  | _, _, i + 1, v, .cons _ h2, e => by
    obtain ⟨d, h3, h4⟩ := dpAll_getV (i := i) (v := v) h2 (by simpa using e)
    exact ⟨d, by simpa using h3, h4⟩
theorem ev_tupR {c : Ctx} {E : List Slo} {t : TA} {Rs : List Rp} (h : EvA c E t Rs) (hl : Rs.length ≤ 100000) : Ev c E (tTup t) (isTR K Rs) := fun σ Hs H e Q q => by
  refine h σ Hs H e _ fun vs Hs1 H1 s1 hv => ⟨Evl.sz_of (by rw [hv.length]; exact hl), fun p hp => ?_⟩
  have s := Stp.new (o := .tup vs) s1.i hp
  exact q _ _ _ (s1.trans s) ⟨p, vs, rfl, SqT.of upd_same, hv.ex s.s⟩
theorem tgt_tupR {c : Ctx} {E E1 : List Slo} {gs : TGs} {js : List Nat} {n : Nat} {Rs : List Rp} (h : Tgts c E gs Rs js E1) (hn : Rs.length = n) : Tgt c E (gTup K n gs) (isTR K Rs) js E1 := ⟨fun σ Hs H v e ⟨p, vs, ev, hp, hv⟩ Q q => by
  subst ev
  exact ⟨p, vs, rfl, Evl.ex_t e.ok.sub hp, by rw [hv.length]; exact hn, h.run σ Hs H vs e hv Q q⟩⟩
theorem tab_start {n : Nat} {col : Nat → Vec} : ((tabZ n n fun r j => col j r).zip ((List.range n).map fun r => col n r)).map (fun p => p.1 ++ [p.2]) = tabZ n (n + 1) (Tt n col 0) := by
  unfold tabZ
  rw [List.zip_map', List.map_map]
  apply List.map_congr_left
  intro r hr
  have hr' := List.mem_range.mp hr
  show ((List.range n).map fun j => col j r) ++ [col n r] = (List.range (n + 1)).map fun j => Tt n col 0 r j
  rw [List.range_succ, List.map_append]
  have e : ∀ j, Tt n col 0 r j = col j r := fun j => Tt_zero hr' col j
  simp only [e, List.map_cons, List.map_nil]
theorem sc_solved : FnScope ["rows", "rights", "table", "before", "at", "index", "pivot", "size", "row", "right"] ["rows", "rights"] (defScope s_solved) := ⟨rfl, rfl, rfl, by decide +kernel, rfl, by decide +kernel, by decide +kernel⟩
theorem ok_solved {f : Addr} {fd : FuncData} (F : FunD K "solved" "solved" (defArgs s_solved) (defBody s_solved) (defScope s_solved) [] [] f fd) (hm : mg "solved" = some (.ref f)) (B : Blt mg) {cO PT : Addr} (hco : fd.code = .ref cO) (TB : GxR.TabB base mg cO PT) (hPT : PT ∈ T)  (h_pivot_of : Has P w K mg base "pivot_of" ["table", "at"] 1 (spOf T (p_pivot_of K C))) (h_cleared : Has P w K mg base "cleared" ["table", "at", "before"] 1 (spOf T (p_cleared K C))) (h_whole_row : Has P w K mg base "whole_row" ["row"] 1 (spOf T (p_whole_row K C))) (h_ratio : Has P w K mg base "ratio" ["n", "d"] 1 (spOf T (p_ratio K C))) : Has P w K mg base "solved" ["rows", "rights"] 4 (spOf T (p_solved K C)) :=
  hasT_of F hco hm sc_solved (fun _ _ _ _ _ _ us hl => match us, hl with | [_, _], _ => rfl) (fun _ => rfl) (by decide) fun A outer s H E hr a c D hT hX hs q hnx => by
    subst hT
    refine ⟨_, (pss_cons (ps_set (i := 7) sc_solved.nd rfl (.inr rfl) (pe_callB (k_len K) (by rfl) B.len (by decide +kernel) (pa_cons (pv 1) pa_nil)))
      (pss_cons (ps_if (PW.pt (pw_or (pt_cmpR op_gt (pv 7) (k_glI (by rfl) B.MOST_UNKNOWNS) (nomark _)) (pw_or (pt_cmpR op_ne (pe_callB (k_len K) (by rfl) B.len (by decide +kernel) (pa_cons (pv 0) pa_nil)) (pv 7) (nomark _)) (pw_or1 (pt_val (pe_genAny (EL := (EL_solved K)) hr (by rfl) B.any TB (by rfl) ⟨by rfl, by rfl, by decide +kernel, by rfl, by rfl, gfree (by rfl)⟩ (pv 0) (src_solved (by rfl) (by rfl) B.len (by rfl) (by rfl) (by rfl) (by rfl) ⟨by rfl, by rfl, by decide +kernel, by rfl, by rfl, gfree (by rfl)⟩))))))) (pss_one ps_never) pss_nil)
      (pss_cons (ps_asg (pe_tup (pa_cons (pe_lc (own := [("row", 8), ("right", 9)]) rfl sc_solved.nd (k_zipA K (by rfl) B.zip (pa_cons (pv 0) (pa_cons (pv 1) pa_nil))) (blkOk_by (own := [("row", 8), ("right", 9)]) (N := ["rows", "rights", "table", "before", "at", "index", "pivot", "size", "row", "right"]) (sc := defScope s_solved) (by decide +kernel)) (fun _ _ _ _ _ => (k_tup K 2 (pgs_cons (pg_name (i := 8) sc_solved.nd rfl (.inl rfl)) (pgs_cons (pg_name (i := 9) sc_solved.nd rfl (.inl rfl)) pgs_nil)))) (fun _ _ _ _ _ => pts_nil) (fun _ _ _ _ _ => (pe_has (h_whole_row.mono (by decide)) (hr) (pa_cons (pe_op (k_catT K) (pv 8) (pe_tup (pa_cons (pv 9) pa_nil))) pa_nil)))) (pa_cons pe_int pa_nil))) (k_tup K 2 (pgs_cons (pg_name (i := 2) sc_solved.nd rfl (.inl rfl)) (pgs_cons (pg_name (i := 3) sc_solved.nd rfl (.inr rfl)) pgs_nil))))
      (pss_cons (ps_for PassesOwn.never rfl (pi_range1 (by rfl) B.range (pa_cons (pv 7) pa_nil)) (pg_name (i := 4) sc_solved.nd rfl (.inl rfl))
      (pss_cons (ps_set (i := 5) sc_solved.nd rfl (.inl rfl) (pe_has (h_pivot_of.mono (by decide)) (hr) (pa_cons (pv 2) (pa_cons (pv 4) pa_nil))))
      (pss_cons (ps_if (pt_cmpR op_isN (pv 5) pe_non (nomark _)) (pss_one (ps_ret pe_non)) pss_nil)
      (pss_cons (ps_set (i := 6) sc_solved.nd rfl (.inl rfl) (pe_ix (k_ixL K) (pv 2) (pv 5) (fun _ _ => rfl)))
      (pss_cons (ps_asg (pe_ix (k_ixL K) (pv 2) (pv 4) (fun _ _ => rfl)) (pg_sub (pv 2) (pv 5) set_list))
      (pss_cons (ps_asg (pv 6) (pg_sub (pv 2) (pv 4) set_list))
      (pss_cons (ps_set (i := 2) sc_solved.nd rfl (.inl rfl) (pe_has (h_cleared.mono (by decide)) (hr) (pa_cons (pv 2) (pa_cons (pv 4) (pa_cons (pv 3) pa_nil)))))
      (pss_one (ps_set (i := 3) sc_solved.nd rfl (.inr rfl) (pe_ix (k_ixL K) (pv 6) (pv 4) (fun _ _ => rfl)))))))))))
      (pss_one (ps_ret (pe_callTy (k_tupOf K) (by rfl) B.tuple (by decide +kernel) (pa_cons (pe_lc (own := [("row", 8)]) rfl sc_solved.nd (k_piL K (pv 2)) (blkOk_by (own := [("row", 8)]) (N := ["rows", "rights", "table", "before", "at", "index", "pivot", "size", "row", "right"]) (sc := defScope s_solved) (by decide +kernel)) (fun _ _ _ _ _ => (pg_name (i := 8) sc_solved.nd rfl (.inl rfl))) (fun _ _ _ _ _ => pts_nil) (fun _ _ _ _ _ => (pe_has (h_ratio.mono (by decide)) (hr) (pa_cons (pe_ix (k_ixL K) (pv 8) (pv 7) (fun _ _ => rfl)) (pa_cons (pv 3) pa_nil))))) pa_nil)))))))), ?_⟩
    obtain ⟨n, col⟩ := a
    obtain ⟨hn, hdp, hdb, htb⟩ := hs
    dsimp only at hn hdp hdb htb
    have len0 : ∀ k, (tabZ n (n + 1) (Tt n col k)).length = n := fun k => by unfold tabZ; simp
    refine tri_seq (tri_asg (ev_is (ev_CB (evA_cons (ev_var (i := 1) rfl) evA_nil) caV_lenT) (d' := .int (n : Nat)) (by simp)) ?_)
    refine tri_seq (tri_ifF (evT_is (evT_or (evT_test (ev_op (ev_var (i := 7) rfl) ev_int opV_bool)) fun _ => evT_or (evT_test (ev_op (ev_CB (evA_cons (ev_var (i := 0) rfl) evA_nil) caV_lenT) (ev_var (i := 7) rfl) opV_neI)) fun _ => evT_B (K := K) (ev_genB (K := K) (all := false) (bs := List.replicate n false) hPT (ev_var (i := 0) rfl) fun σ Hs H v e hv => ?_)) ?_) (tri_next ?_))
    · have hv' : Dp K Hs v (.tuple ((tabZ n n fun r j => col j r).map dIs)) := hv
      cases hv' with
      | @tup a vs _ hs2 ha =>
        obtain ⟨w2, hw, hw2⟩ := e.val 7 (isD K (.int (n : Nat))) rfl
        have hw3 : Dp K Hs w2 (.int (n : Nat)) := hw2
        cases hw3
        have hlv : vs.length = n := by rw [dpAll_length ha]; unfold tabZ; simp
        refine ⟨a, vs, (n : Int), rfl, Evl.ex_t e.ok.sub hs2, hw, by rw [List.length_replicate, hlv], fun i V hV => ?_⟩
        obtain ⟨d, hd, hdV⟩ := dpAll_getV ha hV
        rw [List.getElem?_map] at hd
        have hi : i < n := by rw [← hlv]; exact (List.getElem?_eq_some_iff.mp hV).1
        rw [tabZ_get hi] at hd
        cases hd
        have hdV' : Dp K Hs V (.tuple (((List.range n).map fun j => col j i).map dI)) := hdV
        cases hdV' with
        | @tup t ys _ ht hys =>
          refine ⟨t, ys, rfl, Evl.ex_t e.ok.sub ht, ?_⟩
          rw [dpAll_length hys, List.getD_eq_getElem?_getD, List.getElem?_replicate, if_pos hi]
          simp
    · rw [List.length_map]
      have e1 : (tabZ n n fun r j => col j r).length = n := by unfold tabZ; simp
      rw [e1]
      simp
      omega
    dsimp only
    refine nx_tri (D := D) (tri_seq (tri_asgT (ev_tupR (K := K) (Rs := [isLs K ((tabZ n (n + 1) (Tt n col 0)).map dRow), isD K (.int 1)]) (evA_cons (evO_ls ?_) (evA_cons ev_int evA_nil)) (by simp)) (tgt_tupR (n := 2) (tgts_cons tgt_name (tgts_cons tgt_name tgts_nil)) rfl) ?_))
    · refine (show EvO c _ _ (ownL K ((tabZ n (n + 1) (Tt n col 0)).map dRow)) from ?_)
      have el : ((tabZ n n fun r j => col j r).zip ((List.range n).map fun r => col n r)).length = n := by unfold tabZ; rw [List.length_zip, List.length_map, List.length_map, List.length_range]; omega
      have h := evO_map (K := K) (c := c) (xs := (tabZ n n fun r j => col j r).zip ((List.range n).map fun r => col n r)) (gd := fun p => .tuple [dIs p.1, dI p.2]) (fun p => dRow (p.1 ++ [p.2])) (its_zipTM (g := dIs) (g' := dI) (evA_cons (ev_var (i := 0) rfl) (evA_cons (ev_var (i := 1) rfl) evA_nil))) (by rw [el]; omega) (vs := [8, 9]) (g := gTup K 2 (gCons (gName 8) (gCons (gName 9) gNil))) (tt := tYes) (te := tCall (spOf c.T (p_whole_row K C)) [] E0 (tCons (tOp (rCatT K) (tVar 8) (tTup (tCons (tVar 9) tNil))) tNil)) (E := (entryE ((p_solved K C).args { n := n, col := col }) ["rows", "rights", "table", "before", "at", "index", "pivot", "size", "row", "right"].length).set 7 (.is (isD K (.int (n : Nat))))) fun i p hp => ⟨_, _, tgt_tup (ds := [_, _]) (tgts_cons tgt_name (tgts_cons tgt_name tgts_nil)) rfl, by decide, evT_tt, ?_⟩
      · have e2 : (((tabZ n n fun r j => col j r).zip ((List.range n).map fun r => col n r)).map fun p => dRow (p.1 ++ [p.2])) = (tabZ n (n + 1) (Tt n col 0)).map dRow := by
          rw [← tab_start, List.map_map]; rfl
        rw [e2] at h
        exact h
      · have hm := List.of_mem_zip (List.mem_of_getElem? hp)
        obtain ⟨r, hr1, er⟩ := List.mem_map.mp hm.1
        obtain ⟨r2, hr2, er2⟩ := List.mem_map.mp hm.2
        have hr' := List.mem_range.mp hr1
        have hr2' := List.mem_range.mp hr2
        have hn0 : n ≠ 0 := by omega
        have lp : p.1.length = n := by rw [← er]; simp
        refine ev_call (p := p_whole_row K C) (p.1 ++ [p.2]) (evA_cons (ev_is (ev_op (ev_var rfl) (ev_tup (ds := [dI p.2]) (evA_cons (ev_var rfl) evA_nil)) (opV_catT ?_ (by simp) ?_)) ?_) evA_nil) ⟨by rw [List.length_append, lp]; simp; omega, fun z hz => ?_⟩
        · intro z
          have := congrArg List.length z
          rw [List.length_map, lp] at this
          exact hn0 this
        · rw [List.length_map, lp]; simp; omega
        · unfold dIs
          rw [List.map_append]; rfl
        · rcases List.mem_append.mp hz with hz | hz
          · rw [← er] at hz
            obtain ⟨j, hj, ej⟩ := List.mem_map.mp hz
            have := htb 0 r j (by have := List.mem_range.mp hj; omega)
            rw [Tt_zero hr' col j] at this
            rw [← ej]; exact this
          · have ez : z = p.2 := by simpa using hz
            have := htb 0 r2 n (Nat.le_refl _)
            rw [Tt_zero hr2' col n] at this
            rw [ez, ← er2]; exact this
    refine tri_seq (tri_for (its_range1 (evA_cons (ev_var (i := 7) rfl) evA_nil) (by omega) (by omega)) (fun k => [.is (isD K (.tuple ((tabZ n n fun r j => col j r).map dIs))), .no, .is (isLs K ((tabZ n (n + 1) (Tt n col k)).map dRow)), .is (isD K (.int (Dk n col k))), .no, .no, .no, .is (isD K (.int (n : Nat))), .no, .no]) ?_ (fun c' k R a1 a2 a3 a4 hR => ?_) ?_)
    · rw [Dk_zero]; repeat (first | exact Weak.nil | refine Weak.same ?_ | refine Weak.none ?_)
    · obtain ⟨hk, rfl⟩ := getRng hR
      have hk' : k < n := by simpa using hk
      have e0 : (0 + (k : Int)) = (k : Int) := by omega
      have hdk := hdp k (by omega)
      have hd1 := hdp (k + 1) (by omega)
      have hrow : ((tabZ n (n + 1) (Tt n col k)).map dRow)[k]? = some (dRow ((List.range (n + 1)).map fun j => Tt n col k k j)) := by rw [List.getElem?_map, tabZ_get hk']; rfl
      refine ⟨_, _, tgt_name, fun D' d1 d2 d3 d4 => ?_⟩
      rw [← a1]
      rw [e0]
      refine tri_seq (tri_asg (ev_call (p := p_pivot_of K C) (tabZ n (n + 1) (Tt n col k), k) (evA_cons (ev_lsD (ev_var (i := 2) rfl)) (evA_cons (ev_var (i := 4) rfl) evA_nil)) ⟨by rw [len0]; omega, _, _, tabZ_get hk', rowZ_get (by omega), ?_⟩) ?_)
      · have hd2 : Tt n col k k k ≠ 0 := by rw [Dk_succ] at hd1; omega
        exact hd2
      refine tri_seq (tri_ifF (evT_test (ev_op (ev_var (i := 5) rfl) ev_non opV_isN)) (tri_next ?_))
      refine nx_tri (tri_fixL (i := 2) rfl fun p vs hvl => ?_)
      rw [List.length_map, len0] at hvl
      have hvk : vs[k]? = some (vs[k]'(by omega)) := List.getElem?_eq_getElem _
      obtain ⟨u, hvk⟩ : ∃ u, vs[k]? = some u := ⟨_, hvk⟩
      have tk : ((k : Nat) : Int).toNat = k := Int.toNat_natCast k
      refine tri_seq (tri_asg (ev_ixAt (i := (k : Int)) (ev_var (i := 2) rfl) (ev_var (i := 5) rfl) (by omega) (by rw [tk]; exact hvk) (by rw [tk]; exact hrow)) ?_)
      refine tri_seq (tri_setSame (i := (k : Int)) (ev_ixAt (i := (k : Int)) (ev_var (i := 2) rfl) (ev_var (i := 4) rfl) (by omega) (by rw [tk]; exact hvk) (by rw [tk]; exact hrow)) (ev_var (i := 2) rfl) (ev_var (i := 5) rfl) (by omega) (by rw [tk]; exact hvk) ?_)
      refine tri_seq (tri_setSame (i := (k : Int)) (ev_var (i := 6) rfl) (ev_var (i := 2) rfl) (ev_var (i := 4) rfl) (by omega) (by rw [tk]; exact hvk) ?_)
      refine tri_seq (tri_asg (ev_call (p := p_cleared K C) ⟨n, n + 1, Tt n col k, k, Dk n col k⟩ (evA_cons (ev_atD (ev_var (i := 2) rfl)) (evA_cons (ev_var (i := 4) rfl) (evA_cons (ev_var (i := 3) rfl) evA_nil))) ⟨by dsimp only; omega, by dsimp only; omega, hk', by dsimp only; omega, hdk, hdb k, fun i j _ hj => htb k i j (by dsimp only at hj; omega)⟩) ?_)
      refine tri_asg (ev_op (ev_vD (ev_var (i := 6) rfl)) (ev_var (i := 4) rfl) (opV_ixLM (n := k) rfl (rowZ_get (by omega)))) ?_
      refine nx_weak ?_ d3
      have e1 : tabZ n (n + 1) (clr (Tt n col k) k (Dk n col k)) = tabZ n (n + 1) (Tt n col (k + 1)) := tabZ_congr fun i j hi _ => clr_step hk' hdk hi
      show Weak ([.is (isD K (.tuple ((tabZ n n fun r j => col j r).map dIs))), .no, .is (isLs K ((tabZ n (n + 1) (clr (Tt n col k) k (Dk n col k))).map dRow)), .is (isD K (.int (Tt n col k k k))), .is (isD K (.int (k : Nat))), .is (isD K (.int (k : Nat))), .is (isVD K u (dRow ((List.range (n + 1)).map fun j => Tt n col k k j))), .is (isD K (.int (n : Nat))), .no, .no] : List Slo) _
      rw [e1, ← Dk_succ]
      repeat (first | exact Weak.nil | refine Weak.same ?_ | refine Weak.none ?_)
    · have eR : ((List.range ((n : Nat) : Int).toNat).map fun i : Nat => isD K (.int (0 + (i : Int)))).length = n := by simp
      rw [eR]
      refine nx_tri (tri_ret (ev_is (ev_CB (evA_cons (evO_data (evO_map (xs := tabZ n (n + 1) (Tt n col n)) (gd := dRow) (fun r => dR (Rat.divInt (r.getD n 0) (Dk n col n))) (its_list (ev_lsD (ev_var (i := 2) rfl))) (by rw [len0]; omega) fun i r hr => ⟨_, _, tgt_name, by decide, evT_tt, ev_call (p := p_ratio K C) (r.getD n 0, Dk n col n) (evA_cons (ev_op (ev_var rfl) (ev_var rfl) (opV_ixLM (n := n) rfl ?_)) (evA_cons (ev_var rfl) evA_nil)) ⟨hdp n (Nat.le_refl _), lt_up 9000 (hdb n) (by decide)⟩⟩)) evA_nil) caV_tupL) ?_) q)
      · obtain ⟨i2, hi2, e2⟩ := List.mem_map.mp (List.mem_of_getElem? hr)
        have hl : n < r.length := by rw [← e2]; simp
        rw [List.getD_eq_getElem?_getD, List.getElem?_eq_getElem hl]; rfl
      · unfold dRs tabZ
        rw [List.map_map, List.map_map]
        show PyData.tuple _ = PyData.tuple _
        congr 1
        apply List.map_congr_left
        intro i _
        show dR _ = dR _
        congr 2
        show ((List.range (n + 1)).map fun j => Tt n col n i j).getD n 0 = _
        rw [List.getD_eq_getElem?_getD, rowZ_get (by omega)]; rfl
end
end SD
end
section
set_option maxHeartbeats 4000000
namespace SD
open PySem PySem.Spec PyProof.Rows L2 SM
open Sem (wp)
mutual
inductive Nm : NestedKey → Prop
  | num (i : Int) : Nm (.num i)
  | tup {ks : List NestedKey} : Nms ks → Nm (.tup ks)
inductive Nms : List NestedKey → Prop
  | nil : Nms []
  | cons {k : NestedKey} {ks : List NestedKey} : Nm k → Nms ks → Nms (k :: ks)
end
section
variable {Pg : Program} {w : World}
mutual
theorem byVal : ∀ (k : NestedKey) (v : Value) (n : Nat) (z : Shared), NestedIs z.heap k v → Nm k → k.depth ≤ n → ∀ (A : Around) (E : Value → Shared → Prop) (Q : Bool → Shared → Prop), Q true z → wpAny (model Pg w) A (hashByValue n v) Q E z
  | .none, _, _, _, _, m, _ => nomatch m
  | .text _, _, _, _, _, m, _ => nomatch m
  | .num i, _, n, z, x, _, _ => fun A E Q h => by
    cases x with
    | bool e => cases n <;> exact wpAny_pure h
    | int _ t => cases n <;> exact wpAny_pure h
  | .tup ks, _, n, z, x, m, hn => fun A E Q h => by
    cases m with
    | tup m =>
      cases x with
      | @tup b o vs no _ ho hc hd hk =>
        simp only [NestedKey.depth] at hn
        cases n with
        | zero => omega
        | succ n =>
          have each := byVals ks vs.toList n z hk m (by omega)
          unfold hashByValue
          refine wpAny_bind (wpAny_specialOf ⟨o, ho, hc⟩ F.slot_tuple_hash.lookup ?_)
          show wpAny _ _ (seqItems? (.ref b) >>= _) _ _ z
          refine wpAny_bind (wpAny_seqItems ho hd (wpAny_bind ?_))
          show wpAny _ _ (forIn vs _ _) _ _ z
          rw [← Array.forIn_toList]
          refine wpAny_forIn_list _ (fun todo r y => r.1 = none ∧ y = z ∧ ∀ u ∈ todo, u ∈ vs.toList) _ ?_ ?_ _ _ ⟨rfl, rfl, fun _ e => e⟩
          · rintro u todo r y ⟨hr, rfl, sub⟩
            refine wpAny_bind (each u (sub u List.mem_cons_self) A E _ ?_)
            simp only [Bool.not_true, Bool.false_eq_true, if_false]
            exact wpAny_pure ⟨rfl, rfl, fun u' e => sub u' (List.mem_cons_of_mem _ e)⟩
          · rintro ⟨r1, r2⟩ y ⟨hr, rfl, _⟩
            obtain rfl : r1 = none := hr
            exact wpAny_pure h
theorem byVals : ∀ (ks : List NestedKey) (vs : List Value) (n : Nat) (z : Shared), NestedAll z.heap ks vs → Nms ks → NestedKey.depthAll ks ≤ n → ∀ u ∈ vs, ∀ (A : Around) (E : Value → Shared → Prop) (Q : Bool → Shared → Prop), Q true z → wpAny (model Pg w) A (hashByValue n u) Q E z
  | [], _, _, _, x, _, _, u, hu => by cases x; cases hu
  | k :: ks, _, n, z, x, m, hn, u, hu => by
    cases x with
    | cons x1 x2 =>
      cases m with
      | cons m1 m2 =>
        simp only [NestedKey.depthAll] at hn
        rcases List.mem_cons.mp hu with e | e
        · rw [e]; exact byVal k _ n z x1 m1 (by omega)
        · exact byVals ks _ n z x2 m2 (by omega) u e
end
mutual
theorem noCls : ∀ (k : NestedKey) (v : Value) (n : Nat) (z : Shared), NestedIs z.heap k v → k.depth ≤ n → ∀ (A : Around) (E : Value → Shared → Prop) (Q : Bool → Shared → Prop), Q false z → wpAny (model Pg w) A (ofAClassStatement n v) Q E z
  | .none, _, n, z, x, _ => fun A E Q h => by cases x; cases n <;> exact wpAny_pure h
  | .text _, _, n, z, x, _ => fun A E Q h => by cases x; cases n <;> exact wpAny_pure h
  | .num i, _, n, z, x, _ => fun A E Q h => by cases x <;> cases n <;> exact wpAny_pure h
  | .tup ks, _, n, z, x, hn => fun A E Q h => by
    cases x with
    | @tup b o vs no _ ho hc hd hk =>
      simp only [NestedKey.depth] at hn
      cases n with
      | zero => omega
      | succ n =>
        have each := noClss ks vs.toList n z hk (by omega)
        have et : (("tuple" : String) == "tuple") = true := by decide
        unfold ofAClassStatement
        refine wpAny_bind (wpAny_typeOf (T := "tuple") ⟨o, ho, hc⟩ ?_)
        dsimp only
        simp only [et, if_true, Bool.not_true, Bool.false_eq_true, if_false]
        try refine wpAny_bind (wpAny_pure ?_)
        try simp only [Bool.not_true, Bool.false_eq_true, if_false]
        show wpAny _ _ (seqItems? (.ref b) >>= _) _ _ z
        refine wpAny_bind (wpAny_seqItems ho hd ?_)
        dsimp only
        refine wpAny_bind ?_
        show wpAny _ _ (forIn vs _ _) _ _ z
        rw [← Array.forIn_toList]
        refine wpAny_forIn_list _ (fun todo r y => r.1 = none ∧ y = z ∧ ∀ u ∈ todo, u ∈ vs.toList) _ ?_ ?_ _ _ ⟨rfl, rfl, fun _ e => e⟩
        · rintro u todo r y ⟨hr, rfl, sub⟩
          refine wpAny_bind (each u (sub u List.mem_cons_self) A E _ ?_)
          simp only [Bool.false_eq_true, if_false]
          exact wpAny_pure ⟨rfl, rfl, fun u' e => sub u' (List.mem_cons_of_mem _ e)⟩
        · rintro ⟨r1, r2⟩ y ⟨hr, rfl, _⟩
          obtain rfl : r1 = none := hr
          exact wpAny_pure h
theorem noClss : ∀ (ks : List NestedKey) (vs : List Value) (n : Nat) (z : Shared), NestedAll z.heap ks vs → NestedKey.depthAll ks ≤ n → ∀ u ∈ vs, ∀ (A : Around) (E : Value → Shared → Prop) (Q : Bool → Shared → Prop), Q false z → wpAny (model Pg w) A (ofAClassStatement n u) Q E z
  | [], _, _, _, x, _, u, hu => by cases x; cases hu
  | k :: ks, _, n, z, x, hn, u, hu => by
    cases x with
    | cons x1 x2 =>
      simp only [NestedKey.depthAll] at hn
      rcases List.mem_cons.mp hu with e | e
      · rw [e]; exact noCls k _ n z x1 (by omega)
      · exact noClss ks _ n z x2 (by omega) u e
end
abbrev KA : Type := Addr × NestedKey
structure KeyAt (h : Heap) (p : KA) : Prop where
  is : NestedIs h p.2 (.ref p.1)
  dp : p.2.depth ≤ 8
  nm : Nm p.2
theorem KeyAt.kept {h h' : Heap} {p : KA} (x : KeyAt h p) (k : ∀ b o vs n, h.get? b = some o → o.data = .seq vs n → h'.get? b = some o) : KeyAt h' p := ⟨NestedIs.at k _ _ x.is, x.dp, x.nm⟩
structure SetN (w : World) (h : Heap) (a : Addr) (L : List KA) (es : Array (Int × Value)) (ep : Nat) (t : SetTable) : Prop where
  obj : ∃ o, h.get? a = some o ∧ o.ExactSet ∧ o.data = .set es ep t
  ent : es.toList = L.map fun p => (p.2.hash w, Value.ref p.1)
  tb : TabOk t (L.map fun p => p.2.hash w)
  dis : (L.map (·.2)).Nodup
  pl : t.plain = true
  lg : w.params.followText "set-order" = true ∨ t.led = true
  rm : L.length * 5 < t.mask * 3
  few : L.length < 64
variable {A : Around} {E : Value → Shared → Prop} {s : Shared} {a : Addr} {L : List KA} {es : Array (Int × Value)} {ep : Nat} {t : SetTable} {x : KA}
theorem unseen (hx : KeyAt s.heap x) {ys : List Value} (hy : ∀ y ∈ ys, ∃ p : KA, y = .ref p.1 ∧ KeyAt s.heap p) {Q : Bool → Shared → Prop} (h : Q false s) : wpAny (model Pg w) A (searchCouldBeSeen (.ref x.1) ys) Q E s := by
  unfold searchCouldBeSeen
  refine wpAny_bind (wpAny_forIn_list _ (fun todo r y => r.1 = none ∧ y = s ∧ ∀ u ∈ todo, ∃ p : KA, u = .ref p.1 ∧ KeyAt s.heap p) _ ?_ ?_ _ _ ⟨rfl, rfl, hy⟩)
  · rintro u todo r y ⟨hr, rfl, all⟩
    obtain ⟨p, rfl, hp⟩ := all u List.mem_cons_self
    have all' : ∀ u ∈ todo, ∃ p : KA, u = .ref p.1 ∧ KeyAt y.heap p := fun u e => all u (List.mem_cons_of_mem _ e)
    dsimp only
    by_cases same : (x.1 == p.1 || (carriedByValue (.ref x.1) && carriedByValue (.ref p.1))) = true
    · exact wp_if_pos same (wpAny_pure ⟨rfl, rfl, all'⟩)
    · refine wp_if_neg same (wpAny_bind (quiet_key _ _ 8 y hx.is hx.dp A E _ ?_))
      simp only [Bool.not_true, Bool.false_eq_true, if_false]
      refine wpAny_bind (quiet_key _ _ 8 y hp.is hp.dp A E _ ?_)
      simp only [Bool.not_true, Bool.false_eq_true, if_false]
      refine wpAny_bind (noCls _ _ 8 y hx.is hx.dp A E _ ?_)
      simp only [Bool.false_eq_true, if_false]
      refine wpAny_bind (noCls _ _ 8 y hp.is hp.dp A E _ ?_)
      simp only [Bool.false_eq_true, if_false]
      exact wpAny_pure ⟨rfl, rfl, all'⟩
  · rintro ⟨r1, r2⟩ y ⟨hr, rfl, _⟩
    obtain rfl : r1 = none := hr
    exact wpAny_pure h
theorem SetN.sz (R : SetN w s.heap a L es ep t) : es.size = L.length := by
  have := congrArg List.length R.ent
  rwa [Array.length_toList, List.length_map] at this
theorem SetN.fit (R : SetN w s.heap a L es ep t) : t.fits es.size = true := by
  have h1 := R.tb.sz
  rw [List.length_map] at h1
  have h2 := R.sz
  have h3 := R.rm
  unfold SetTable.fits SetTable.fill
  rw [R.tb.dm, Bool.and_eq_true, beq_iff_eq, decide_eq_true_eq]
  show t.place.size = es.size ∧ t.place.size + 0 ≤ t.mask
  omega
theorem SetN.at_ (R : SetN w s.heap a L es ep t) {i : Nat} {p : KA} (h : L[i]? = some p) : es[i]? = some (p.2.hash w, Value.ref p.1) := by
  rw [← Array.getElem?_toList, R.ent, List.getElem?_map, h]; rfl
abbrev prb (t : SetTable) (h : Int) (c : Nat) : SetTable.Probe := nth t.mask (runAt t.mask (SetTable.bits h % (t.mask + 1)) (SetTable.bits h)) c
theorem prb_dummy (t : SetTable) (h : Int) (c : Nat) : (prb t h c).dummy = none := by
  have go : ∀ (n : Nat) (p : SetTable.Probe), p.dummy = none → (nth t.mask p n).dummy = none := fun n => by
    induction n with
    | zero => exact fun p e => e
    | succ n ih =>
      intro p e
      refine ih (adv t.mask p) ?_
      unfold adv
      split <;> exact e
  exact go c _ rfl
theorem prb_add (t : SetTable) (h : Int) (c q : Nat) : nth t.mask (prb t h c) q = prb t h (c + q) := (nth_add t.mask c _ q).symm
theorem seekFrom (R : SetN w s.heap a L es ep t) (hk : ∀ p ∈ L, KeyAt s.heap p) (hx : KeyAt s.heap x) (hu : A.units + 8 < cLine) {N : Nat} (hNf : N < 10 * SetTable.turns t.mask)
    (hN : way t.mask (x.2.hash w) N ∉ t.place.toList) (hb : ∀ c, c < N → way t.mask (x.2.hash w) c ∈ t.place.toList) {Q : SetFound → Shared → Prop}
    (yes : x.2 ∈ L.map (·.2) → Q (.there none) s) (no : x.2 ∉ L.map (·.2) → Q (.free (way t.mask (x.2.hash w) N) false) s) (f : Nat) :
    ∀ (c : Nat) (at? : Option SetTable.Probe), at?.getD (t.probeStart (x.2.hash w)) = prb t (x.2.hash w) c → c ≤ N → N - c < f →
      (∀ (i : Nat) (p : KA), L[i]? = some p → p.2 = x.2 → ∃ d, c ≤ d ∧ d < N ∧ t.place.toList[i]? = some (way t.mask (x.2.hash w) d)) →
      wpAny (model Pg w) A (setSearchFrom a (.ref x.1) (x.2.hash w) true f at?) Q E s := by
  induction f with
  | zero => exact fun c _ _ _ hf => absurd hf (Nat.not_lt_zero _)
  | succ f ih =>
    intro c at? hat hc hf hre
    obtain ⟨o, ho, hex, hd⟩ := R.obj
    have nogw : ¬ t.gaveWay = true := by unfold SetTable.gaveWay; rw [mask_odd R.tb.mok]; decide
    have hashOf : ∀ (i : Nat) (p : KA), L[i]? = some p → (fun i => (es[i]?.map (·.1)).getD 0) i = p.2.hash w := fun i p e => by
      show (es[i]?.map (·.1)).getD 0 = _
      rw [R.at_ e]; rfl
    have wj : ∀ q, (nth t.mask (prb t (x.2.hash w) c) q).j = way t.mask (x.2.hash w) (c + q) := fun q => congrArg SetTable.Probe.j (prb_add t _ c q)
    have eN : c + (N - c) = N := by omega
    rw [setSearchFrom_succ]
    refine wpAny_bind (wpAny_setState_of ho hd R.fit ?_)
    dsimp only
    refine wp_if_neg nogw ?_
    try refine wpAny_bind (wpAny_pure ?_)
    rcases go_spec t R.tb.ris R.tb.dm (fun i => (es[i]?.map (·.1)).getD 0) (x.2.hash w) (10 * SetTable.turns t.mask) (N - c) _ (prb_dummy t _ c) (by omega)
      (fun q hq => by rw [wj]; exact hb (c + q) (by omega)) (by rw [wj, eN]; exact hN) with ⟨q, i, hq, hi, hh, hno, hpr⟩ | ⟨hno, hpr⟩
    · rw [wj] at hi
      have met : t.probe (fun i => (es[i]?.map (·.1)).getD 0) (x.2.hash w) (at?.getD (t.probeStart (x.2.hash w))) = some (.candidate (way t.mask (x.2.hash w) (c + q)) i (prb t (x.2.hash w) (c + (q + 1)))) := by
        rw [hat, ← wj, ← prb_add]; exact hpr
      rw [met]
      dsimp only
      have hil : i < L.length := by
        have h1 : i < t.place.toList.length := (List.getElem?_eq_some_iff.mp hi).1
        have h2 := R.tb.sz
        rw [List.length_map] at h2
        rw [Array.length_toList] at h1
        omega
      obtain ⟨p, hp⟩ : ∃ p, L[i]? = some p := ⟨_, List.getElem?_eq_getElem hil⟩
      have hpm : p ∈ L := List.mem_of_getElem? hp
      have hpk := hk p hpm
      have slot : t.slot (way t.mask (x.2.hash w) (c + q)) = .live i := slot_live R.tb.ris hi
      have onward : wpAny (model Pg w) A (searchRest a (.ref x.1) (x.2.hash w) true f es t (way t.mask (x.2.hash w) (c + q)) i (prb t (x.2.hash w) (c + (q + 1)))) Q E s := by
        unfold searchRest
        rw [R.at_ hp]
        dsimp only
        refine wpAny_bind (wpAny_holding (eqAt_key _ _ A s _ _ hpk.is hx.is (by have := hpk.dp; omega) _ _ _ _ ?_))
        rw [← NestedKey.decide_eq]
        refine wpAny_bind (wpAny_setState_of ho hd R.fit ?_)
        dsimp only
        by_cases e : p.2 = x.2
        · refine wp_if_pos (by rw [decide_eq_true e]; rfl) (wpAny_pure (yes ?_))
          rw [← e]
          exact List.mem_map.mpr ⟨p, hpm, rfl⟩
        · have ef : decide (p.2 = x.2) = false := decide_eq_false e
          refine wp_if_neg (by rw [ef]; decide) ?_
          try refine wpAny_bind (wpAny_pure ?_)
          rw [sameMem]
          dsimp only
          simp only [if_true, slot, R.at_ hp]
          refine wpAny_bind (wpAny_isSame_ref_self (wpAny_bind (wpAny_pure ?_)))
          simp only [if_true]
          refine wp_if_neg (by rw [ef]; decide) (ih (c + (q + 1)) _ rfl (by omega) (by omega) fun i0 p0 h0 e0 => ?_)
          obtain ⟨d, d1, d2, d3⟩ := hre i0 p0 h0 e0
          refine ⟨d, ?_, d2, d3⟩
          rcases Nat.lt_trichotomy d (c + q) with y | y | y
          · exact absurd ((hashOf i0 p0 h0).trans (congrArg (NestedKey.hash w) e0)) (hno (d - c) i0 (by omega) (by rw [wj, show c + (d - c) = d by omega]; exact d3))
          · rw [y] at d3
            have s0 := slot_live R.tb.ris d3
            rw [slot] at s0
            injection s0 with s0
            rw [← s0, hp] at h0
            exact absurd ((congrArg Prod.snd (Option.some.inj h0)).trans e0) e
          · omega
      by_cases led : t.led = true
      · refine wp_if_neg (by rw [led]; decide) ?_
        try refine wpAny_bind (wpAny_pure ?_)
        exact onward
      · refine wp_if_pos (by simpa using led) (wpAny_bind (unseen hx (fun y hy => ?_) ?_))
        · obtain ⟨e1, he1, e2⟩ := List.mem_map.mp hy
          have he : e1 ∈ es.toList := by
            have : e1 ∈ es ∧ e1.1 = x.2.hash w := by simpa using he1
            simpa using this.1
          rw [R.ent] at he
          obtain ⟨p2, hp2, e3⟩ := List.mem_map.mp he
          exact ⟨p2, by rw [← e2, ← e3], hk p2 hp2⟩
        · refine wp_if_neg (by decide) ?_
          try refine wpAny_bind (wpAny_pure ?_)
          exact onward
    · have met : t.probe (fun i => (es[i]?.map (·.1)).getD 0) (x.2.hash w) (at?.getD (t.probeStart (x.2.hash w))) = some (.empty (way t.mask (x.2.hash w) N) none) := by
        have e := wj (N - c)
        rw [eN] at e
        rw [hat, ← e]; exact hpr
      rw [met]
      dsimp only
      refine wpAny_pure (no fun hm => ?_)
      obtain ⟨p0, h0, e0⟩ := List.mem_map.mp hm
      obtain ⟨i0, hi0, e1⟩ := List.getElem_of_mem h0
      have h00 : L[i0]? = some p0 := by rw [List.getElem?_eq_getElem hi0, e1]
      obtain ⟨d, d1, d2, d3⟩ := hre i0 p0 h00 e0
      exact hno (d - c) i0 (by omega) (by rw [wj, show c + (d - c) = d by omega]; exact d3) ((hashOf i0 p0 h00).trans (congrArg (NestedKey.hash w) e0))
theorem seek (R : SetN w s.heap a L es ep t) (hk : ∀ p ∈ L, KeyAt s.heap p) (hx : KeyAt s.heap x) (hu : A.units + 8 < cLine) {Q : SetFound → Shared → Prop} (yes : x.2 ∈ L.map (·.2) → Q (.there none) s)
    (no : ∀ N, x.2 ∉ L.map (·.2) → way t.mask (x.2.hash w) N ∉ t.place.toList → (∀ c, c < N → way t.mask (x.2.hash w) c ∈ t.place.toList) → Q (.free (way t.mask (x.2.hash w) N) false) s) :
    wpAny (model Pg w) A (setSearch a (.ref x.1) (x.2.hash w) true) Q E s := by
  have hrm := R.rm
  obtain ⟨N, hNf, hN, hb⟩ := R.tb.first (by rw [List.length_map]; omega) (x.2.hash w)
  have small : N < 100000 := by
    have : 10 * SetTable.turns t.mask ≤ 1420 := by
      unfold SetTable.turns
      rcases R.tb.mok with e | e | e <;> omega
    omega
  unfold setSearch
  refine seekFrom R hk hx hu hNf hN hb yes (fun h => no N h hN hb) 100000 0 none rfl (Nat.zero_le _) (by omega) fun i p hp e => ?_
  have hi : (L.map fun p => p.2.hash w)[i]? = some (x.2.hash w) := by rw [List.getElem?_map, hp, ← e]; rfl
  have hil : i < t.place.toList.length := by
    have h1 : i < L.length := (List.getElem?_eq_some_iff.mp hp).1
    have h2 := R.tb.sz
    rw [List.length_map] at h2
    rw [Array.length_toList]
    omega
  have hj := List.getElem?_eq_getElem hil
  obtain ⟨d, hd, e2⟩ := R.tb.before hN hi hj
  exact ⟨d, Nat.zero_le _, hd, by rw [hj, e2]⟩
end
end SD
end
section
set_option maxHeartbeats 4000000
namespace SD
open PySem PySem.Spec PyProof.Rows L2 SM
open Sem (wp)
section
variable {Pg : Program} {w : World} {A : Around} {E : Value → Shared → Prop} {s : Shared} {a : Addr} {L : List KA} {es : Array (Int × Value)} {ep : Nat} {t : SetTable} {x : KA}
theorem picked_hash (he : es.toList = L.map fun p => (p.2.hash w, Value.ref p.1)) : ∀ l : List Nat, (∀ i ∈ l, i < L.length) → (l.filterMap fun i => L[i]?).map (fun p => p.2.hash w) = l.map fun i => (es.map (·.1)).getD i 0
  | [], _ => rfl
  | i :: l, h => by
    have hi := h i List.mem_cons_self
    have hL : L[i]? = some L[i] := List.getElem?_eq_getElem hi
    have hE : (es.map (·.1))[i]? = some (L[i].2.hash w) := by
      rw [Array.getElem?_map, ← Array.getElem?_toList, he, List.getElem?_map, hL]; rfl
    have hD : (es.map (·.1)).getD i 0 = L[i].2.hash w := by simp [Array.getD_eq_getD_getElem?, hE]
    rw [List.filterMap_cons_some hL, List.map_cons, List.map_cons, hD, picked_hash he l fun j hj => h j (List.mem_cons_of_mem _ hj)]
theorem relayN {o : Obj} (ho : s.heap.get? a = some o) (hex : o.ExactSet) (hd : o.data = .set es ep t) (he : es.toList = L.map fun p => (p.2.hash w, Value.ref p.1)) (hsz : t.place.size = es.size) (hdm : t.dummies = #[]) (hfl : es.size ≤ t.mask)
    (nd : (L.map (·.2)).Nodup) (pl : t.plain = true) (lg : w.params.followText "set-order" = true ∨ t.led = true) (few : L.length < 64) {wanted M : Nat} (hw : SetTable.sizeAbove wanted - 1 = M) (hM : MaskOk M) (hw2 : SetTable.sizeAbove wanted ≤ 128) (hn : L.length * 5 < M * 3)
    {Q : Unit → Shared → Prop} (hQ : ∀ h' L' es' ep' t', Heap.SameBut a s.heap h' → SetN w h' a L' es' ep' t' → L'.Perm L → Q () { s with heap := h' }) : wpAny (model Pg w) A (setRelay a wanted) Q E s := by
  have hl : es.size = L.length := by
    have := congrArg List.length he
    rwa [Array.length_toList, List.length_map] at this
  have fit : t.fits es.size = true := by
    unfold SetTable.fits SetTable.fill
    rw [hdm, Bool.and_eq_true, beq_iff_eq, decide_eq_true_eq]
    exact ⟨hsz, by show t.place.size + 0 ≤ t.mask; omega⟩
  obtain ⟨t', order, eo, op, T, em, el, epl, _⟩ := relaid_ok t (hs := es.map (·.1)) (wanted := wanted) hw hM (by rw [Array.size_map, hl]; omega)
  rw [Array.size_map, hl] at op
  have lt : ∀ i ∈ order.toList, i < L.length := fun i hi => List.mem_range.mp (op.mem_iff.mp hi)
  have e2 : (order.filterMap (es[·]?)).toList = (order.toList.filterMap fun i => L[i]?).map fun p => (p.2.hash w, Value.ref p.1) := by
    rw [List.map_filterMap]
    have ee : (order.filterMap (es[·]?)).toList = order.toList.filterMap fun i => es[i]? := by first | (rw [Array.toList_filterMap]) | simp
    rw [ee]
    congr 1
    funext i
    rw [← Array.getElem?_toList, he, List.getElem?_map]
  have perm : (order.toList.filterMap fun i => L[i]?).Perm L := by
    have := op.filterMap fun i => L[i]?
    rwa [List.filterMap_getElem?_range_length] at this
  rw [← picked_hash he _ lt] at T
  generalize hL2 : (order.toList.filterMap fun i => L[i]?) = L2 at e2 perm T
  have l2 : (order.filterMap (es[·]?)).size = es.size := by
    have := congrArg List.length e2
    rw [Array.length_toList, List.length_map, perm.length_eq] at this
    rw [this, hl]
  rw [setRelay_eq]
  refine wpAny_bind (wpAny_setState_of ho hd fit ?_)
  dsimp only
  refine wp_if_neg (by rw [sizeLine_eq]; omega) ?_
  try refine wpAny_bind (wpAny_pure ?_)
  rw [eo]
  dsimp only
  refine wpAny_bind (wp_if_neg (by rw [l2]; simp) ?_)
  try refine wpAny_bind (wpAny_pure ?_)
  refine wpAny_pure ?_
  dsimp only
  refine wpAny_storeSet_of ho hd ?_ (by rw [l2, hl, sizeLine_eq]; omega)
  refine hQ _ L2 _ (ep + 1) t' (Heap.SameBut.update ..) ⟨⟨_, store_at ho hd, ⟨hex.1, hex.2.1, hex.2.2⟩, rfl⟩, e2, T, (perm.map (·.2)).nodup_iff.mpr nd, by rw [epl]; exact pl, by rw [el]; exact lg, by rw [perm.length_eq, em]; exact hn, by rw [perm.length_eq]; exact few⟩ perm
theorem addN (R : SetN w s.heap a L es ep t) (hk : ∀ p ∈ L, KeyAt s.heap p) (hx : KeyAt s.heap x) (hu : A.units + 8 < cLine) (hf : L.length + 1 < 64) {Q : Bool → Shared → Prop}
    (hQ : ∀ b h' L' es' ep' t', Heap.SameBut a s.heap h' → SetN w h' a L' es' ep' t' → (x.2 ∈ L.map (·.2) → L' = L) → (x.2 ∉ L.map (·.2) → L'.Perm (x :: L)) → Q b { s with heap := h' }) :
    wpAny (model Pg w) A (setAddHashed a (.ref x.1) (x.2.hash w)) Q E s := by
  obtain ⟨o, ho, hex, hd⟩ := R.obj
  have hl := R.sz
  have hrm := R.rm
  unfold setAddHashed
  refine wpAny_holding ?_
  rw [show (100000 : Nat) = 99999 + 1 from rfl, setAddHashedIn_succ]
  refine wpAny_bind (wpAny_setState_of ho hd R.fit ?_)
  dsimp only
  refine wp_if_neg (by simp [byScan, Value.scannable]) ?_
  try refine wpAny_bind (wpAny_pure ?_)
  refine wpAny_bind (seek R hk hx hu (fun hm => ?_) fun N hm hN hb => ?_)
  · dsimp only
    exact wpAny_pure (hQ false s.heap L es ep t (Heap.SameBut.refl a s.heap) R (fun _ => rfl) fun no => absurd hm no)
  · dsimp only
    refine wpAny_bind (wpAny_setState_of ho hd R.fit ?_)
    dsimp only
    obtain ⟨q1, q2, q3, q4, q5, q6, q7, q8, q9⟩ := R.tb.put hN hb
    have pl1 : (t.put (way t.mask (x.2.hash w) N)).1.plain = true := q6.trans R.pl
    obtain ⟨⟨t1, b1⟩, hput⟩ : ∃ z, t.put (way t.mask (x.2.hash w) N) = z := ⟨_, rfl⟩
    rw [hput] at q1 q3 q4 q5 q6 q7 q8 q9 pl1 ⊢
    obtain rfl : b1 = SetTable.below t.place (way t.mask (x.2.hash w) N) := q1
    dsimp only at q3 q4 q5 q6 q7 q8 q9 pl1 ⊢
    first
      | (refine wpAny_bind ?_; refine wp_if_pos pl1 ?_; refine byVal _ _ 8 s hx.is hx.nm hx.dp _ _ _ ?_)
      | refine wp_if_pos pl1 (wpAny_bind (byVal _ _ 8 s hx.is hx.nm hx.dp _ _ _ ?_))
    simp only [if_true]
    obtain ⟨b, eb⟩ : ∃ b, SetTable.below t.place (way t.mask (x.2.hash w) N) = b := ⟨_, rfl⟩
    rw [eb] at q2 q3 ⊢
    have perm : (L.take b ++ x :: L.drop b).Perm (x :: L) := put_perm L b x
    have ent1 : (SetTable.insertAt es b (x.2.hash w, Value.ref x.1)).toList = (L.take b ++ x :: L.drop b).map fun p => (p.2.hash w, Value.ref p.1) := by
      rw [SetTable.toList_insertAt, R.ent, List.map_append, List.map_cons, List.map_take, List.map_drop]
    have hash1 : ((L.map fun p => p.2.hash w).take b ++ x.2.hash w :: (L.map fun p => p.2.hash w).drop b) = (L.take b ++ x :: L.drop b).map fun p => p.2.hash w := by
      rw [List.map_append, List.map_cons, List.map_take, List.map_drop]
    rw [hash1] at q3
    have nd1 : ((L.take b ++ x :: L.drop b).map (·.2)).Nodup := (perm.map (·.2)).nodup_iff.mpr (by rw [List.map_cons]; exact List.nodup_cons.mpr ⟨hm, R.dis⟩)
    obtain ⟨L1, eL⟩ : ∃ L1, L.take b ++ x :: L.drop b = L1 := ⟨_, rfl⟩
    rw [eL] at perm ent1 q3 nd1
    obtain ⟨es1, ee⟩ : ∃ es1, SetTable.insertAt es b (x.2.hash w, Value.ref x.1) = es1 := ⟨_, rfl⟩
    rw [ee] at ent1 ⊢
    have len1 : L1.length = L.length + 1 := by rw [perm.length_eq, List.length_cons]
    have sz1 : es1.size = L.length + 1 := by
      have := congrArg List.length ent1
      rwa [Array.length_toList, List.length_map, len1] at this
    refine wpAny_bind (wpAny_storeSet_of ho hd ?_ (by rw [sz1, sizeLine_eq]; omega))
    have sb : Heap.SameBut a s.heap (s.heap.update a (Obj.putSet es1 t1)) := Heap.SameBut.update ..
    have ho1 := store_at (es' := es1) (t' := t1) ho hd
    obtain ⟨h1, eh⟩ : ∃ h1, s.heap.update a (Obj.putSet es1 t1) = h1 := ⟨_, rfl⟩
    rw [eh] at sb ho1 ⊢
    have lg1 : w.params.followText "set-order" = true ∨ t1.led = true := by rw [q5]; exact R.lg
    by_cases full : t1.tooFull = true
    · first
        | (refine wpAny_bind ?_; refine wp_if_pos (by simp [full]) ?_)
        | (refine wp_if_pos (by simp [full]) ?_; refine wpAny_bind ?_)
      have over : (L.length + 1) * 5 ≥ t1.mask * 3 := by
        have := full
        unfold SetTable.tooFull at this
        rw [decide_eq_true_eq, q9, List.length_map] at this
        exact this
      have two : (t.mask = 7 ∧ L.length = 4) ∨ (t.mask = 31 ∧ L.length = 18) := by
        rw [q4] at over
        rcases R.tb.mok with e | e | e <;> rw [e] at over hrm
        · exact .inl ⟨e, by omega⟩
        · exact .inr ⟨e, by omega⟩
        · exfalso; omega
      have pls : t1.place.size = es1.size := by
        have := q3.sz
        rw [List.length_map, len1] at this
        rw [this, sz1]
      have go : ∀ M, SetTable.sizeAbove (SetTable.grown (L.length + 1)) - 1 = M → MaskOk M → SetTable.sizeAbove (SetTable.grown (L.length + 1)) ≤ 128 → (L.length + 1) * 5 < M * 3 →
          wpAny (model Pg w) A (setRelay a (SetTable.grown (L.length + 1))) (fun _ s' => wpAny (model Pg w) A (pure true) Q E s') E { s with heap := h1 } := fun M g1 g2 g3 g4 => by
        refine relayN (s := { s with heap := h1 }) (L := L1) ho1 ⟨hex.1, hex.2.1, hex.2.2⟩ rfl ent1 pls q3.dm (by rw [sz1, q4]; rcases two with ⟨e, e2⟩ | ⟨e, e2⟩ <;> omega) nd1 pl1 lg1 (by rw [len1]; exact hf) g1 g2 g3 (by rw [len1]; exact g4) ?_
        intro h2 L2 es2 ep2 t2 sb2 R2 perm2
        exact wpAny_pure (hQ true h2 L2 es2 ep2 t2 (sb.trans sb2) R2 (fun yes => absurd yes hm) fun _ => perm2.trans perm)
      rw [hl]
      rcases two with ⟨_, e2⟩ | ⟨_, e2⟩
      · exact go 31 (by rw [e2, size_20]) (.inr (.inl rfl)) (by rw [e2, size_20]; decide) (by omega)
      · exact go 127 (by rw [e2, size_76]) (.inr (.inr rfl)) (by rw [e2, size_76]; decide) (by omega)
    · first
        | refine wp_if_neg (by simp [full]) ?_
        | (refine wpAny_bind ?_; refine wp_if_neg (by simp [full]) ?_; refine wpAny_pure ?_)
      refine wpAny_pure (hQ true h1 L1 es1 (ep + 1) t1 sb ⟨⟨_, ho1, ⟨hex.1, hex.2.1, hex.2.2⟩, rfl⟩, ent1, q3, nd1, pl1, lg1, ?_, by rw [len1]; exact hf⟩ (fun yes => absurd yes hm) fun _ => perm)
      have := full
      unfold SetTable.tooFull at this
      rw [decide_eq_true_eq, q9, List.length_map] at this
      rw [len1]
      omega
end
end SD
end
section
set_option maxHeartbeats 4000000
namespace SD
open PySem PySem.Spec PyProof.Rows L2 SM
open Sem (wp)
section
variable {X : Cx} {pins : List (Addr × Obj)} {σ : L2.St} {H : Hp} {s : Shared}
mutual
theorem nest_of (I : Inv X pins σ H s) : ∀ (k : NestedKey) (v : V) (u : Value), Dp X.K H v k.data → Nm k → RelV v u → NestedIs s.heap k u
  | .none, _, _, _, m, _ => nomatch m
  | .text _, _, _, _, m, _ => nomatch m
  | .num i, _, _, h, _, r => by
    cases h
    obtain ⟨t, rfl⟩ := r
    exact .int i t
  | .tup ks, _, _, h, m, r => by
    have h' : Dp X.K H _ (.tuple (NestedKey.datas ks)) := h
    cases h' with
    | tup hs ha =>
      cases m with
      | tup m =>
        cases r
        obtain ⟨its, rv, ⟨o, h1, h2, n, h3⟩, _⟩ := I.tuple hs
        exact .tup h1 h2 h3 (by simpa using nests_of I ks _ its ha m rv)
theorem nests_of (I : Inv X pins σ H s) : ∀ (ks : List NestedKey) (vs : List V) (us : List Value), DpAll X.K H vs (NestedKey.datas ks) → Nms ks → Vals vs us → NestedAll s.heap ks us
  | [], _, _, h, _, r => by cases h; cases r; exact .nil
  | k :: ks, _, _, h, m, r => by
    have h' : DpAll X.K H _ (NestedKey.data k :: NestedKey.datas ks) := h
    cases h' with
    | cons h1 h2 =>
      cases m with
      | cons m1 m2 =>
        cases r with
        | cons r1 r2 => exact .cons (nest_of I k _ _ h1 m1 r1) (nests_of I ks _ _ h2 m2 r2)
end
def SetNO (w : World) (a : Addr) (L : List KA) : HO := .ext fun h => ∃ es ep t, SetN w h a L es ep t
theorem SetN.see {w : World} {h h' : Heap} {a : Addr} {L : List KA} {es : Array (Int × Value)} {ep : Nat} {t : SetTable} (R : SetN w h a L es ep t) (k : ∀ o, h.get? a = some o → h'.get? a = some o) : SetN w h' a L es ep t := by
  obtain ⟨o, ho, r⟩ := R.obj
  exact ⟨⟨o, k o ho, r⟩, R.ent, R.tb, R.dis, R.pl, R.lg, R.rm, R.few⟩
theorem setNO_new {w : World} {Pg : Program} {H : Hp} {h : Heap} {a : Addr} {L : List KA} {es : Array (Int × Value)} {ep : Nat} {t : SetTable} (R : SetN w h a L es ep t) : ObjOk Pg w H h a (SetNO w a L) :=
  ⟨⟨es, ep, t, R⟩, let ⟨o, ho, _⟩ := R.obj; ⟨o, ho⟩, fun h1 h2 ⟨es, ep, t, R⟩ k => ⟨es, ep, t, R.see k⟩⟩
theorem setN_fresh {w : World} {h : Heap} {a : Addr} (ho : h.get? a = some { cls := .type "set", dict := none, data := .set #[] 0 (.fresh 0 0 (!w.params.followText "set-order")) }) : SetN w h a [] #[] 0 (.fresh 0 0 (!w.params.followText "set-order")) where
  obj := ⟨_, ho, ⟨rfl, rfl, rfl⟩, rfl⟩
  ent := rfl
  tb := ⟨List.Pairwise.nil, rfl, rfl, .inl rfl, fun x hx => (by cases hx), fun i h j hi => (by simp at hi)⟩
  dis := List.nodup_nil
  pl := rfl
  lg := by
    cases e : w.params.followText "set-order" with
    | true => exact .inl rfl
    | false => exact .inr rfl
  rm := by show 0 * 5 < 7 * 3; decide
  few := by show 0 < 64; decide
structure KeyH (K : PySem.W.Frag) (H : Hp) (p : KA) : Prop where
  dp : Dp K H (.ref p.1) p.2.data
  nm : Nm p.2
  d8 : p.2.depth ≤ 8
theorem KeyH.at_ (I : Inv X pins σ H s) {p : KA} (x : KeyH X.K H p) : KeyAt s.heap p := ⟨nest_of I _ _ _ x.dp x.nm rfl, x.d8, x.nm⟩
theorem addN_ok {E : Value → Shared → Prop} {D : Addr} {L : List KA} {p : KA} {Q : Value → Shared → Prop} (I : Inv X pins σ H s) (hD : H D = some (SetNO X.w D L)) (hk : ∀ q ∈ L, KeyH X.K H q) (hp : KeyH X.K H p) (hu : X.A.units + 16 < cLine) (hf : L.length + 1 < 64)
    (h : ∀ s' L', (p.2 ∈ L.map (·.2) → L' = L) → (p.2 ∉ L.map (·.2) → L'.Perm (p :: L)) → Inv X pins σ (upd H D (SetNO X.w D L')) s' → Q .none s') : wpAny (model X.prog X.w) X.A (call (.builtin "set.add") [.ref D, .ref p.1]) Q E s := by
  obtain ⟨⟨es, ep, t, R⟩, _⟩ := I.hok D _ hD
  obtain ⟨o, ho, hex, hd⟩ := R.obj
  have hx := hp.at_ I
  refine wpAny_call_entry F.slot_set_add ⟨o, ho, hex.1⟩ F.entry_set_add ?_ (F.args_set_add_2 _ _)
  unfold Builtin.«set.add» Builtin.Frozenset.oneOther
  simp only [List.isEmpty_nil, bind_assoc]
  unfold Builtin.Frozenset.addrOf setAdd
  refine wpAny_bind (wpAny_pure ?_)
  try dsimp only
  refine wpAny_bind (wpAny_pure ?_)
  try dsimp only
  refine wpAny_bind (wpAny_holding (wpAny_bind (pyHash_key _ _ _ s _ hx.is (by have := hx.dp; show X.A.units + _ + p.2.depth < cLine; omega) ?_)))
  refine addN (s := { s with toks := s.toks + p.2.draws }) R (fun q hq => (hk q hq).at_ I) hx (by show X.A.units + _ + 8 < cLine; omega) hf fun b h' L' es' ep' t' sb R' c1 c2 => ?_
  show wpAny _ _ (ret Value.none) _ _ _
  refine wpAny_pure ⟨_, rfl, h _ L' c1 c2 ?_⟩
  exact I.write (e := D) (t' := s.toks + p.2.draws) (by rw [hD]; trivial) (.inl rfl) (fun c u hc hu => (sb.2 c hc).trans hu) (let ⟨o, ho, _⟩ := R'.obj; ⟨o, ho⟩) (setNO_new R')
end
def tScN (K : PySem.W.Frag) (w : World) (wi : TI) (g : TG) (te : TE) (vs : List Nat) : TE := fun σ H Q => wi σ H fun J H1 => ∀ D, H1 D = none → ∃ W : Nat → Nat → Hp → Prop, (∃ m, W 0 m (upd H1 D (SetNO w D []))) ∧ ∀ i m H, W i m H →
  (J.stop i H ∧ Q (.ref D) H) ∨ (J.go i H ∧ ∃ Nx : Hp → Prop, (∀ H', Nx H' → ∃ m', m' < m ∧ W (i + 1) m' H') ∧ ∀ x H', J.yld i H x H' → g x (wipe σ vs) H' fun σ2 H2 => wipe σ2 vs = wipe σ vs ∧ te σ2 H2 fun y H4 =>
    ∃ (b : Addr) (k : NestedKey) (L : List KA), y = .ref b ∧ KeyH K H4 (b, k) ∧ H4 D = some (SetNO w D L) ∧ (∀ q ∈ L, KeyH K H4 q) ∧ L.length + 1 < 64 ∧ ∀ L', (k ∈ L.map (·.2) → L' = L) → (k ∉ L.map (·.2) → L'.Perm ((b, k) :: L)) → Nx (upd H4 D (SetNO w D L')))
section
variable {X : Cx} {elt tg iter : Expr} {scope : Scope} {own : List (PySem.Str × Nat)} {pos : Pos} {wi : TI} {g : TG} {te : TE}
theorem pe_scN (K : PySem.W.Frag) (hc : X.calm = true) (hN : X.N.Nodup) (hu : X.A.units + 64 < cLine) (hi : PI X tg iter wi) (ok : BlkOk X.N X.env.scope scope own)
    (hg : ∀ (s : Shared) (H : Hp) (C : Addr) (cl : List (PySem.Str × Addr)) (fp : List Addr), PG (X.blk s H scope (compEnvC scope cl C X.env) fp) tg g)
    (he : ∀ (s : Shared) (H : Hp) (C : Addr) (cl : List (PySem.Str × Addr)) (fp : List Addr), PE (X.blk s H scope (compEnvC scope cl C X.env) fp) elt te) (hK : X.K = K := by rfl) (hs : ∀ x, foldedSetIterable iter X.env x = pure x := by intro _; rfl) :
    PE X (.SetComp elt [⟨tg, iter, [], 0⟩] scope pos) (tScN K X.w wi g te (own.map (·.2))) := by
  subst hK
  refine ⟨fun pins s σ H Q I h => ?_⟩
  rw [PpSet.eval_SetComp]
  have frees : ∀ y ∈ scope.names, y.2 = .free → ∃ c, X.env.cells.lookup y.1 = some c := fun y hy e => by
    rcases ok.free y hy e with k | k
    · exact I.ok.has _ (.inl k)
    · exact I.ok.has _ (.inr k)
  refine wpAny_comprehension_free rfl hs (closure_ok frees) ok.kind (fun y hy e => by rw [ok.uniq y hy, e])
    (thn (hi.run pins s σ H _ I h) fun xv s1 hx => thn hx fun itv s2 h2 => ?_)
  obtain ⟨it, fp, tn, J, H2, e, I2, T, st2, f2, q⟩ := h2
  subst e
  refine PpSet.newSet_ok (newEnv_comp ?_)
  obtain ⟨D, hD⟩ : ∃ D, s2.heap.objs.size = D := ⟨_, rfl⟩
  rw [hD]
  have hDn : H2 D = none := I2.hok.fresh (Nat.le_of_eq hD)
  obtain ⟨W, ⟨m0, w0⟩, turn⟩ := q D hDn
  obtain ⟨s3, hs3⟩ : ∃ s3 : Shared, ({ s2 with heap := s2.heap.push { cls := .type "set", dict := none, data := .set #[] 0 (.fresh 0 0 (!X.w.params.followText "set-order")) } } : Shared) = s3 := ⟨_, rfl⟩
  have hp3 : s3.heap = s2.heap.push { cls := .type "set", dict := none, data := .set #[] 0 (.fresh 0 0 (!X.w.params.followText "set-order")) } := by rw [← hs3]
  obtain ⟨H3, hH3⟩ : ∃ H3, upd H2 D (SetNO X.w D []) = H3 := ⟨_, rfl⟩
  have I3 : Inv X pins σ H3 s3 := by
    rw [← hs3, ← hH3]
    refine I2.laid (t' := s2.toks) (fun b o e => Heap.get?_push_of_some _ e) (Nat.le_of_eq hD) (setNO_new (setN_fresh ?_))
    rw [← hD]
    exact Heap.get?_push_size _ rfl
  rw [hH3] at w0
  have f3 : ∀ b ∈ fp, FpOk X pins H3 b ∧ b < s3.heap.objs.size := fun b hb => by
    obtain ⟨o, eo, _⟩ := T.obj _ _ st2 b hb
    have hlt : b < s2.heap.objs.size := Heap.lt_size eo
    refine ⟨⟨?_, (f2 b hb).2⟩, by rw [hp3, Heap.size_push]; exact Nat.lt_succ_of_lt hlt⟩
    rw [← hH3, upd_ne (by rw [← hD]; exact Nat.ne_of_lt hlt)]
    exact (f2 b hb).1
  have st3 : tn 0 s3.heap := T.keep _ _ _ st2 fun b _ o e => by rw [hp3]; exact Heap.get?_push_of_some _ e
  have I4 := block_start I3 ok hN f3
  have pg := hg s3 H3 s3.heap.objs.size (cellsFrom (s3.heap.objs.size + 1) scope.names (cloFrom X.env.cells scope.names [])) fp
  have pe := he s3 H3 s3.heap.objs.size (cellsFrom (s3.heap.objs.size + 1) scope.names (cloFrom X.env.cells scope.names [])) fp
  show codeAny _ _ (.compStart (.SetComp elt [⟨tg, iter, [], 0⟩] scope pos) 0 (.ref it) (.ref D) (compEnvC scope (cellsFrom (({ s2 with heap := s2.heap.push { cls := .type "set", dict := none, data := .set #[] 0 (.fresh 0 0 (!X.w.params.followText "set-order")) } } : Shared).heap.objs.size + 1) scope.names (cloFrom X.env.cells scope.names [])) ({ s2 with heap := s2.heap.push { cls := .type "set", dict := none, data := .set #[] 0 (.fresh 0 0 (!X.w.params.followText "set-order")) } } : Shared).heap.objs.size X.env)) _ { ({ s2 with heap := s2.heap.push { cls := .type "set", dict := none, data := .set #[] 0 (.fresh 0 0 (!X.w.params.followText "set-order")) } } : Shared) with heap := pushCells (({ s2 with heap := s2.heap.push { cls := .type "set", dict := none, data := .set #[] 0 (.fresh 0 0 (!X.w.params.followText "set-order")) } } : Shared).heap.push { cls := .type "dict", data := .dict #[] }) scope.names }
  rw [hs3]
  obtain ⟨ce, hce⟩ : ∃ ce, compEnvC scope (cellsFrom (s3.heap.objs.size + 1) scope.names (cloFrom X.env.cells scope.names [])) s3.heap.objs.size X.env = ce := ⟨_, rfl⟩
  have cL : ce.locals = s3.heap.objs.size := by rw [← hce]; rfl
  obtain ⟨s4, hs4⟩ : ∃ s4 : Shared, ({ s3 with heap := pushCells (s3.heap.push { cls := .type "dict", data := .dict #[] }) scope.names } : Shared) = s4 := ⟨_, rfl⟩
  rw [hce, hs4] at I4
  rw [hce] at pg pe
  rw [hce, hs4]
  have st4 : tn 0 s4.heap := T.keep _ _ _ st3 fun b _ o e => by rw [← hs4]; exact pushCells_keeps _ _ _ _ (Heap.get?_push_of_some _ e)
  have stat : ∀ {σ' : L2.St} {H' : Hp} {s' : Shared}, Inv (X.blk s3 H3 scope ce fp) [] σ' H' s' → (∀ b ∈ fp, H' b = none) → ∀ b ∈ fp, FpOk (X.blk s3 H3 scope ce fp) [] H' b := fun {σ' H' s'} I' hn b hb =>
    ⟨hn b hb, (I'.ok.exf b hb).1, I'.ok.exfs b hb, .inl hb, fun x c e => (I'.ok.exf b hb).2 x c e, fun p hp => absurd (show p ∈ ([] : List (Addr × Obj)) ++ [] from hp) (by simp)⟩
  have loop : codeAny (model X.prog X.w) X.A (.compLoop (.SetComp elt [⟨tg, iter, [], 0⟩] scope pos) 0 (.ref it) (.ref D) ce) (compPost (model X.prog X.w) X.A X.xe none (EP X pins σ Q) (.ref D) s3.heap.objs.size) s4 := by
    refine PpSet.compLoopS_any (fun n s' => ∃ i H', Inv (X.blk s3 H3 scope ce fp) [] (wipe σ (own.map (·.2))) H' s' ∧ tn i s'.heap ∧ (∀ b ∈ fp, H' b = none) ∧ W i n H') ?_ m0 ⟨0, H3, I4, st4, fun b hb => (f3 b hb).1.1, w0⟩
    rintro n s5 ⟨i, H5, I5, st5, n5, w5⟩
    rcases turn i n H5 w5 with ⟨stop, qq⟩ | ⟨go, Nx, hNx, step⟩
    · refine thnF (T.done (X.blk s3 H3 scope ce fp) rfl rfl rfl hc i [] s5 _ H5 (fun _ _ => False) I5 (stat I5 n5) st5 stop) fun r s6 ⟨hr, I6⟩ => ?_
      subst hr
      have I7 : Inv X pins σ H5 s6 := I3.call' (ch := fp) I6.os I6.base I6.hok I6.bare fun b hb => ⟨(f3 b hb).1.2.2.2.1, (f3 b hb).1.2.1, (f3 b hb).1.2.2.2.2.1, (f3 b hb).1.2.2.2.2.2⟩
      have nC : H5 s3.heap.objs.size = none := by
        have z : H5 ce.locals = none := I6.free
        rwa [cL] at z
      obtain ⟨m, hn, _⟩ := I6.loc
      have hn2 : s6.heap.Ns ce.locals m := hn
      rw [cL] at hn2
      obtain ⟨f0, f1, fA, fB, fC, fD⟩ := I3.fpOk (Nat.le_refl _) nC
      exact ⟨m, hn2, fun h'' sb => ⟨.ref D, H5, I7.turned (t' := s6.toks) (fun b o hb e => (sb.2 b hb).trans e) f0 f1 fB fC fD, rfl, qq⟩⟩
    · refine thnF (T.item (X.blk s3 H3 scope ce fp) rfl rfl rfl hc i [] s5 _ H5 (fun _ _ => False) I5 (stat I5 n5) st5 go) fun r s6 ⟨u, hr, h6⟩ => ?_
      subst hr
      refine thnF h6 fun _ s7 ⟨x, H7, I7, r7, y7, st7, n7⟩ => ?_
      have I7' := I7.pinned (stat I7 n7) (T.obj _ _ st7)
      refine thnF (pg.run _ s7 _ H7 x u _ I7' r7 (step x H7 y7)) fun _ s8 ⟨σ8, H8, I8, hw8, q8⟩ => ?_
      simp only [List.forIn_nil]
      refine wpAny_pure ?_
      simp only [if_true]
      refine thnF (pe.run _ s8 σ8 H8 _ I8 q8) fun z s10 ⟨yv, H10, I10, r10, b, k, L, ey, hkey, hD10, hkeys, hfew, nx⟩ => ?_
      subst ey
      obtain rfl : z = Value.ref b := r10
      refine addN_ok (X := X.blk s3 H3 scope ce fp) (p := (b, k)) I10 hD10 hkeys hkey (by show X.A.units + 16 < cLine; omega) hfew fun s11 L' c1 c2 I11 => ?_
      obtain ⟨m', hm, w'⟩ := hNx _ (nx L' c1 c2)
      have pinned : ∀ b ∈ fp, ∀ o, s7.heap.get? b = some o → s11.heap.get? b = some o ∧ upd H10 D (SetNO X.w D L') b = none := fun b hb o e =>
        let z := I11.pin (b, o) (List.mem_append_right _ (List.mem_append_right _ (mem_pinsAt hb e)))
        ⟨z.1, z.2.1⟩
      have hl : (wipe σ (own.map (·.2))).length = σ8.length := by rw [← hw8, wipe_length]
      refine ⟨m', hm, i + 1, _, (I11.unpinned (pins := [])).weak hl (fun j v e => ?_), T.keep _ _ _ st7 fun b hb o e => (pinned b hb o e).1, fun b hb => ?_, w'⟩
      · rw [← hw8] at e
        exact (wipe_some e).1
      · obtain ⟨o, e, _⟩ := T.obj _ _ st7 b hb
        exact (pinned b hb o e).2
  exact PpSet.codeAny_compStart_set loop (T.self X.A 0 _ _ _ st4 loop)
end
end SD
end
section
set_option maxHeartbeats 4000000
namespace SD
open PySem PySem.Spec PyProof.Rows L2 SM PySem.W
abbrev leD (x y : PyData) : Bool := dataLe false (fun d : PyData => d) x y
theorem leD_tot : TotalLe leD := sortLe_total (listOrd itemOrd) false _
theorem leD_anti {d e : PyData} (h : alike d e = true) (h1 : leD d e = true) (h2 : leD e d = true) : PyData.eqv d e = true := by
  have a1 : dataLt e d = false := by simpa [leD, dataLe_eq] using h1
  have a2 : dataLt d e = false := by simpa [leD, dataLe_eq] using h2
  have et : keyToks d = keyToks e := (listOrd itemOrd).total _ _ a2 a1
  cases hv : PyData.eqv d e with
  | true => rfl
  | false =>
    have := (toks_eqv d e h).2 hv [.inl 0] [.inl 1]
    rw [et, lex_pre, lex_irrefl] at this
    cases this
section
variable {α β γ : Type}
theorem perm_unmap {f : α → β} : ∀ {m n : List β}, m.Perm n → ∀ l : List α, n = l.map f → ∃ l' : List α, l'.Perm l ∧ m = l'.map f := fun {m n} h => by
  induction h with
  | nil => exact fun l e => ⟨l, .refl _, e⟩
  | cons x _ ih =>
    intro l e
    cases l with
    | nil => cases e
    | cons a l =>
      rw [List.map_cons] at e
      injection e with e1 e2
      obtain ⟨l', p, e3⟩ := ih l e2
      exact ⟨a :: l', p.cons a, by rw [List.map_cons, e1, e3]⟩
  | swap x y l0 =>
    intro l e
    cases l with
    | nil => cases e
    | cons a l =>
      cases l with
      | nil => rw [List.map_cons] at e; injection e with _ e; cases e
      | cons b l =>
        rw [List.map_cons, List.map_cons] at e
        injection e with e1 e2
        injection e2 with e2 e3
        exact ⟨b :: a :: l, .swap a b l, by rw [List.map_cons, List.map_cons, e1, e2, e3]⟩
  | trans _ _ ih1 ih2 =>
    intro l e
    obtain ⟨l1, p1, e1⟩ := ih2 l e
    obtain ⟨l2, p2, e2⟩ := ih1 l1 e1
    exact ⟨l2, p2.trans p1, e2⟩
theorem each_of {R : α → β → Prop} : ∀ {as : List α} {bs : List β}, as.length = bs.length → (∀ (i : Nat) a b, as[i]? = some a → bs[i]? = some b → R a b) → EachIs R as bs
  | [], [], _, _ => .nil
  | a :: as, b :: bs, hl, h => .cons (h 0 a b rfl rfl) (each_of (by simpa using hl) fun i x y e1 e2 => h (i + 1) x y e1 e2)
theorem each_len {R : α → β → Prop} : ∀ {as : List α} {bs : List β}, EachIs R as bs → as.length = bs.length
  | _, _, .nil => rfl
  | _, _, .cons _ t => congrArg Nat.succ (each_len t)
end
section
variable {X : Cx} {pins : List (Addr × Obj)} {σ : L2.St} {H : Hp} {s : Shared}
def rSortD (K : PySem.W.Frag) : List V → Hp → VK → Prop := fun vs H Q => ∃ (a : Addr) (xs : List V) (ds : List PyData), vs = [V.ref a] ∧ SqL K H a xs ∧ DpAll K H xs ds ∧ AllAlike ds ∧ Sortable ds ∧ (∀ d ∈ ds, d.depth ≤ 16) ∧
  ∀ (zs : List (V × PyData)) (p : Addr), zs.Perm (xs.zip ds) → zs.Pairwise (fun x y => leD x.2 y.2 = true) → H p = none → Q (.ref p) (upd H p (.lst (zs.map (·.1))))
theorem dpAll_pairs {K : PySem.W.Frag} : ∀ {xs : List V} {ds : List PyData}, DpAll K H xs ds → ∀ q ∈ xs.zip ds, Dp K H q.1 q.2
  | _, _, .nil, q, hq => by cases hq
  | _, _, .cons h1 h2, q, hq => by
    rcases List.mem_cons.mp hq with e | e
    · rw [e]; exact h1
    · exact dpAll_pairs h2 q e
theorem dpAll_ofPairs {K : PySem.W.Frag} : ∀ (qs : List (V × PyData)), (∀ q ∈ qs, Dp K H q.1 q.2) → DpAll K H (qs.map (·.1)) (qs.map (·.2))
  | [], _ => .nil
  | q :: qs, h => .cons (h q (by simp)) (dpAll_ofPairs qs fun r hr => h r (by simp [hr]))
theorem vals_ofEach {F : V × PyData → V} : ∀ {us : List Value} {qs : List (V × PyData)}, EachIs (fun (u : Value) q => RelV (F q) u) us qs → Vals (qs.map F) us
  | _, _, .nil => .nil
  | _, _, .cons h t => .cons h (vals_ofEach t)
theorem cr_sortD (hu : X.A.units + 64 < cLine) : CallR X (.builtin "sorted") (rSortD X.K) := by
  intro pins s σ H vs us Q I r h
  obtain ⟨a, xs, ds, rfl, hs, hd, hal, hso, hdep, q⟩ := h
  obtain ⟨its, rv, hl, hz⟩ := I.list hs
  obtain ⟨u, rfl, ru⟩ := vals1 r
  obtain rfl : u = Value.ref a := ru
  have lx : xs.length = ds.length := dpAll_length hd
  have li : xs.length = its.length := rv.length
  have sn : (xs.zip ds).map (·.2) = ds := by
    have : (xs.zip ds).map Prod.snd = ds := List.map_snd_zip (by omega)
    exact this
  have zl : (xs.zip ds).length = its.length := by rw [List.length_zip]; omega
  have rel : EachIs (fun (u : Value) (q : V × PyData) => RelV q.1 u) its (xs.zip ds) := each_of zl.symm fun i u q e1 e2 => by
    rw [List.getElem?_zip_eq_some] at e2
    obtain ⟨u', e3, e4⟩ := rv.get e2.1
    rw [e1] at e3
    cases e3
    exact e4
  have rd : EachIs (fun (u : Value) (q : V × PyData) => ∃ as, Reads s.heap u q.2 as) its (xs.zip ds) := each_of zl.symm fun i u q e1 e2 => by
    have hq := dpAll_pairs hd q (List.mem_of_getElem? e2)
    rw [List.getElem?_zip_eq_some] at e2
    obtain ⟨u', e3, e4⟩ := rv.get e2.1
    rw [e1] at e3
    cases e3
    exact Dp.reads I q.2 q.1 u hq e4
  refine sorted_data (enc := fun q : V × PyData => q.2) hl.isList rel rd (by rw [sn]; exact hal) (by rw [sn]; exact hso) (by rw [zl, ← li]; exact hz) (fun b hb => ?_) fun out ho eo => ?_
  · have := hdep b.2 (by rw [← sn]; exact List.mem_map.mpr ⟨b, hb, rfl⟩)
    omega
  · have pm : ((xs.zip ds).mergeSort (dataLe false fun q : V × PyData => q.2)).Perm (xs.zip ds) := List.mergeSort_perm _ _
    have tot : TotalLe (dataLe false fun q : V × PyData => q.2) := sortLe_total (listOrd itemOrd) false _
    have pw : ((xs.zip ds).mergeSort (dataLe false fun q : V × PyData => q.2)).Pairwise fun x y => (dataLe false (fun q : V × PyData => q.2) x y) = true := List.pairwise_mergeSort tot.trans (fun x y => by have := tot.total x y; simpa using this) _
    generalize (xs.zip ds).mergeSort (dataLe false fun q : V × PyData => q.2) = zs at eo pm pw
    obtain ⟨n, hn⟩ := sortedAll_at s.heap its (List.toArray out)
    have le : s.heap.objs.size ≤ s.heap.objs.size + 1 := Nat.le_succ _
    have vz : Vals (zs.map (·.1)) out := vals_ofEach eo
    refine ⟨.ref (s.heap.objs.size + 1), upd H (s.heap.objs.size + 1) (.lst (zs.map (·.1))), I.laid (t' := s.toks) (fun b o e => sortedAll_old e) le ⟨?_, out, n, vz, hn⟩, rfl, q zs _ pm pw (I.hok.fresh le)⟩
    rw [List.length_map, pm.length_eq, zl, ← li]; exact hz
mutual
theorem reads_nil {h : Heap} : ∀ (k : NestedKey) (u : Value) (as : List Addr), Reads h u k.data as → Nm k → as = []
  | .none, _, _, _, m => nomatch m
  | .text _, _, _, _, m => nomatch m
  | .num i, _, _, x, _ => by
    have x' : Reads h _ (.int i) _ := x
    cases x'; rfl
  | .tup ks, _, _, x, m => by
    have x' : Reads h _ (.tuple (NestedKey.datas ks)) _ := x
    cases m with
    | tup m =>
      cases x' with
      | tuple _ _ _ h4 => exact readsAll_nil ks _ _ h4 m
theorem readsAll_nil {h : Heap} : ∀ (ks : List NestedKey) (us : List Value) (as : List Addr), ReadsAll h us (NestedKey.datas ks) as → Nms ks → as = []
  | [], _, _, x, _ => by
    have x' : ReadsAll h _ [] _ := x
    cases x'; rfl
  | k :: ks, _, _, x, m => by
    have x' : ReadsAll h _ (NestedKey.data k :: NestedKey.datas ks) _ := x
    cases m with
    | cons m1 m2 =>
      cases x' with
      | cons h1 h2 => rw [reads_nil k _ _ h1 m1, readsAll_nil ks _ _ h2 m2]; rfl
end
def rSortN (K : PySem.W.Frag) (w : World) : List V → Hp → VK → Prop := fun vs H Q => ∃ (a : Addr) (L : List KA), vs = [V.ref a] ∧ H a = some (SetNO w a L) ∧ (∀ p ∈ L, KeyH K H p) ∧ AllAlike (L.map fun p => p.2.data) ∧ (∀ p ∈ L, ∃ x r, p.2.data = .tuple (x :: r)) ∧ (∀ p ∈ L, p.2.data.depth ≤ 16) ∧
  ∀ (L' : List KA) (p : Addr), L'.Perm L → (L'.map (·.2)).Nodup → L'.Pairwise (fun x y => leD x.2.data y.2.data = true) → H p = none → Q (.ref p) (upd H p (.lst (L'.map fun q => V.ref q.1)))
theorem vals_refs : ∀ L : List KA, Vals (L.map fun q => V.ref q.1) (L.map fun q => Value.ref q.1)
  | [] => .nil
  | q :: L => .cons rfl (vals_refs L)
theorem each_refs {R : Value → KA → Prop} : ∀ L : List KA, (∀ q ∈ L, R (.ref q.1) q) → EachIs R (L.map fun q => Value.ref q.1) L
  | [], _ => .nil
  | q :: L, h => .cons (h q (by simp)) (each_refs L fun r hr => h r (by simp [hr]))
theorem out_refs : ∀ {out : List Value} {L : List KA}, EachIs (fun (u : Value) (q : KA) => u = .ref q.1) out L → out = L.map fun q => Value.ref q.1
  | _, _, .nil => rfl
  | _, _, .cons h t => by rw [h, out_refs t]; rfl
theorem cr_sortN (hc : X.calm = true) (hu : X.A.units + 64 < cLine) : CallR X (.builtin "sorted") (rSortN X.K X.w) := by
  intro pins s σ H vs us Q I r h
  obtain ⟨a, L, rfl, ha, hk, hal, hne, hdep, q⟩ := h
  obtain ⟨u, rfl, ru⟩ := vals1 r
  obtain rfl : u = Value.ref a := ru
  obtain ⟨⟨es, ep, t, R⟩, _⟩ := I.hok a _ ha
  obtain ⟨o, ho, hex, hd⟩ := R.obj
  have hsz := R.sz
  have hfew := R.few
  have hrm := R.rm
  refine Calls.call_function_entry kind_sorted plain_sorted entry_sorted (args_sorted1 _) ?_
  unfold Builtin.«sorted»
  refine wpAny_bind (m := checkCount "sorted" 1 1 _) (wpAny_pure ?_)
  refine wpAny_bind (collect_set (A := X.A.in1) (I.ok.hd hc) ⟨o, ho, hex.1, hd⟩ R.fit (by unfold scanBound; omega) R.tb.ris R.lg fun s1 vs1 k1 hz g1 o1 pm => ?_)
  have ev : es.toList.map (·.2) = L.map fun q => Value.ref q.1 := by rw [R.ent, List.map_map]; rfl
  rw [ev] at pm
  obtain ⟨L1, p1, e1⟩ := perm_unmap pm L rfl
  subst e1
  have l1 : L1.length < 64 := by rw [p1.length_eq]; exact hfew
  refine wpAny_bind (wpAny_newList ?_ (by rw [List.length_map, sizeLine_eq]; omega))
  have hoL : (s1.heap.push (seqObj "list" (L1.map fun q => Value.ref q.1).toArray 0)).get? s1.heap.objs.size = some (seqObj "list" (L1.map fun q => Value.ref q.1).toArray 0) := Heap.get?_push_size _ rfl
  have kp : ∀ b o, s.heap.get? b = some o → (s1.heap.push (seqObj "list" (L1.map fun q => Value.ref q.1).toArray 0)).get? b = some o := fun b o e => Heap.get?_push_of_some _ (k1 b o e)
  have al1 : AllAlike (L1.map fun p : KA => p.2.data) := fun d hd d' hd' => hal d ((p1.map _).mem_iff.mp hd) d' ((p1.map _).mem_iff.mp hd')
  have so1 : Sortable (L1.map fun p : KA => p.2.data) := .inl fun d hd => by
    obtain ⟨p, hp, rfl⟩ := List.mem_map.mp hd
    exact hne p (p1.mem_iff.mp hp)
  refine wpAny_bind (wpAny_holding (list_sort_data (s := { s1 with heap := s1.heap.push (seqObj "list" (L1.map fun q => Value.ref q.1).toArray 0) }) (n := 0) (enc := fun p : KA => p.2.data) (R := fun (u : Value) (q : KA) => u = .ref q.1) hoL (each_refs L1 fun _ _ => rfl) (each_refs L1 fun p hp => ?_) al1 so1 (by rw [sizeLine_eq]; omega) (fun p hp => ?_) fun out hol eo => ?_))
  · obtain ⟨as, hr⟩ := Dp.reads I p.2.data (.ref p.1) (.ref p.1) (hk p (p1.mem_iff.mp hp)).dp rfl
    have hz0 := reads_nil p.2 _ _ hr (hk p (p1.mem_iff.mp hp)).nm
    subst hz0
    exact ⟨[], PyProof.Rows.Reads.keeps kp hr, fun z => nomatch z⟩
  · have := hdep p (p1.mem_iff.mp hp)
    show X.A.units + _ + 1 + p.2.data.depth < cLine
    omega
  · have eo' := out_refs eo
    have pm2 : (L1.mergeSort (dataLe false fun p : KA => p.2.data)).Perm L1 := List.mergeSort_perm _ _
    have tot : TotalLe (dataLe false fun p : KA => p.2.data) := sortLe_total (listOrd itemOrd) false _
    have pw : (L1.mergeSort (dataLe false fun p : KA => p.2.data)).Pairwise fun x y => (dataLe false (fun p : KA => p.2.data) x y) = true := List.pairwise_mergeSort tot.trans (fun x y => by have := tot.total x y; simpa using this) _
    obtain ⟨L2, eL2⟩ : ∃ L2, L1.mergeSort (dataLe false fun p : KA => p.2.data) = L2 := ⟨_, rfl⟩
    rw [eL2] at eo' pm2 pw
    subst eo'
    have p2 := pm2.trans p1
    obtain ⟨n, hn⟩ := sortedHeap_at (vs := L1.map fun q => Value.ref q.1) (out := (L2.map fun q => Value.ref q.1).toArray) hoL
    have kp2 : ∀ b o, s.heap.get? b = some o → (sortedHeap (s1.heap.push (seqObj "list" (L1.map fun q => Value.ref q.1).toArray 0)) s1.heap.objs.size (L1.map fun q => Value.ref q.1) (L2.map fun q => Value.ref q.1).toArray).get? b = some o := fun b o e => by
      have hlt := Heap.lt_size (k1 b o e)
      rw [sortedHeap_old (Nat.ne_of_lt hlt) (by rw [size_push']; exact Nat.lt_succ_of_lt hlt)]
      exact kp b o e
    have nn : H s1.heap.objs.size = none := I.hok.fresh hz
    have J : Inv X pins σ (upd H s1.heap.objs.size (.lst (L2.map fun q => V.ref q.1))) { s with heap := sortedHeap (s1.heap.push (seqObj "list" (L1.map fun q => Value.ref q.1).toArray 0)) s1.heap.objs.size (L1.map fun q => Value.ref q.1) (L2.map fun q => Value.ref q.1).toArray, gens := s1.gens, drawn := s1.drawn, toks := s1.toks } :=
      I.call (ch := []) (Un.laid kp2 hz nn) (I.hok.laid kp2 hz ⟨by rw [List.length_map, p2.length_eq, sizeLine_eq]; omega, _, n, vals_refs L2, hn⟩) (by rw [g1]; exact I.bare) (fun _ z => nomatch z)
    have es1 : ({ s1 with heap := sortedHeap (s1.heap.push (seqObj "list" (L1.map fun q => Value.ref q.1).toArray 0)) s1.heap.objs.size (L1.map fun q => Value.ref q.1) (L2.map fun q => Value.ref q.1).toArray } : Shared) = { s with heap := sortedHeap (s1.heap.push (seqObj "list" (L1.map fun q => Value.ref q.1).toArray 0)) s1.heap.objs.size (L1.map fun q => Value.ref q.1) (L2.map fun q => Value.ref q.1).toArray, gens := s1.gens, drawn := s1.drawn, toks := s1.toks } := by
      cases s1
      cases s
      cases o1
      rfl
    refine wpAny_pure ⟨_, rfl, ?_⟩
    show EP X pins σ Q _ _
    rw [es1]
    exact ⟨.ref s1.heap.objs.size, _, J, rfl, q L2 _ p2 ((p2.map (·.2)).nodup_iff.mpr R.dis) pw nn⟩
end
end SD
end
section
set_option maxHeartbeats 4000000
namespace SD
open PySem PySem.Spec PyProof.Rows L2 SM PySem.W
def isCh {α : Type} (K : PySem.W.Frag) (f : α → PyData) (A : List α) : Rp := ⟨fun H v => ∃ cs : List α, cs.Nodup ∧ (∀ x, x ∈ cs ↔ x ∈ A) ∧ cs.Pairwise (fun x y => leD (f x) (f y) = true) ∧ Dp K H v (.list (cs.map f)), fun e ⟨cs, h1, h2, h3, h4⟩ => ⟨cs, h1, h2, h3, dp_ex e _ _ h4⟩⟩
structure Ord {α : Type} (f : α → PyData) (n : Nat) : Prop where
  enc : Enc f n
  al : ∀ a b, alike (f a) (f b) = true
theorem Ord.uniq {α : Type} {f : α → PyData} {n : Nat} (o : Ord f n) {cs es : List α} (h1 : cs.Nodup) (h2 : es.Nodup) (hm : ∀ x, x ∈ cs ↔ x ∈ es) (p1 : cs.Pairwise fun x y => leD (f x) (f y) = true) (p2 : es.Pairwise fun x y => leD (f x) (f y) = true) : cs = es :=
  ((List.perm_ext_iff_of_nodup h1 h2).mpr hm).eq_of_pairwise (le := fun x y => leD (f x) (f y) = true) (fun a b _ _ h h' => (o.enc.eq a b).mp (leD_anti (o.al a b) h h')) p1 p2
section
variable {K : PySem.W.Frag} {c : Ctx} {E : List Slo} {α ξ : Type} {f : α → PyData} {n : Nat}
theorem opV_neCh (o : Ord f n) (hn : n + 1 ≤ 64) {A B : List α} {b : Bool} (hb : b = true ↔ ∀ x, x ∈ A ↔ x ∈ B) : OpV (rNeD K) (isCh K f A) (isCh K f B) (isD K (.bool (!b))) := fun x y Hs H e ⟨cs, c1, c2, c3, c4⟩ ⟨es, e1, e2, e3, e4⟩ Q q => by
  refine ⟨.list (cs.map f), .list (es.map f), dp_ex e _ _ c4, dp_ex e _ _ e4, o.enc.list.shaped hn cs, o.enc.list.shaped hn es, ?_⟩
  have eb : PyData.eqv (.list (cs.map f)) (.list (es.map f)) = b := by
    rw [Bool.eq_iff_iff, o.enc.list.eq cs es, hb]
    constructor
    · intro h x
      rw [← c2 x, ← e2 x, h]
    · intro h
      exact o.uniq c1 e1 (fun x => by rw [c2, e2]; exact h x) c3 e3
  rw [eb]
  exact q _ Hs H (StpX.refl e) (.bl _)
theorem ev_sortO {i : Nat} {xs : List α} (o : Ord f n) (hn : n ≤ 16) (hso : ∀ a, f a ≠ .none ∧ ∀ ds, f a ≠ .tuple ds) (hi : E[i]? = some (.own (ownL K (xs.map f)))) (nd : xs.Nodup) : Ev c E (tCB (rSortD K) (tCons (tVar i) tNil)) (isCh K f xs) := fun σ Hs H e Q q => by
  obtain ⟨p, vs, a1, a2, a3, a4⟩ := e.own_at hi
  have hl : vs.length = xs.length := by rw [dpAll_length a4, List.length_map]
  refine ⟨.ref p, a1, p, vs, xs.map f, rfl, SqL.of a3, dpAll_ex e.ok.sub _ _ a4, AllAlike.of o.al, Sortable.others hso, fun d hd => ?_, fun zs l hp hpw hl2 => ?_⟩
  · obtain ⟨a, _, rfl⟩ := List.mem_map.mp hd
    exact Nat.le_trans (o.enc.dep a) hn
  · have e2 : (zs.map (·.2)).Perm (xs.map f) := by
      have := hp.map (·.2)
      rwa [show (vs.zip (xs.map f)).map (·.2) = xs.map f from List.map_snd_zip (by rw [List.length_map]; omega)] at this
    obtain ⟨cs, p1, e1⟩ := perm_unmap e2 xs rfl
    have s := Stp.new (o := .lst (zs.map (·.1))) e.ok.sub hl2
    have hd : DpAll K Hs (zs.map (·.1)) (zs.map (·.2)) := dpAll_ofPairs zs fun r hr => dpAll_pairs a4 r (hp.mem_iff.mp hr)
    rw [e1] at hd
    refine q _ _ _ s ⟨cs, p1.nodup_iff.mpr nd, fun x => p1.mem_iff, ?_, .lst (SqL.of upd_same) (dpAll_ex s.s _ _ hd)⟩
    have h3 : (zs.map (·.2)).Pairwise fun x y => leD x y = true := List.pairwise_map.mpr hpw
    rw [e1] at h3
    exact List.pairwise_map.mp h3
structure KeyEnc {α : Type} (f : α → PyData) (key : α → NestedKey) (G : α → Prop) : Prop where
  data : ∀ a, (key a).data = f a
  nm : ∀ a, Nm (key a)
  d8 : ∀ a, (key a).depth ≤ 8
  tup : ∀ a, G a → ∃ x r, f a = .tuple (x :: r)
theorem KeyEnc.inj {key : α → NestedKey} {G : α → Prop} (k : KeyEnc f key G) (o : Ord f n) {a b : α} (h : key a = key b) : a = b := o.enc.inj (by rw [← k.data, ← k.data, h])
abbrev kAs (key : α → NestedKey) (L : List (Addr × α)) : List KA := L.map fun p => (p.1, key p.2)
theorem kAs_mem {key : α → NestedKey} (inj : ∀ a b, key a = key b → a = b) {L : List (Addr × α)} {x : α} : key x ∈ (kAs key L).map (·.2) ↔ x ∈ L.map (·.2) := by
  rw [List.map_map]
  constructor
  · intro h
    obtain ⟨p, hp, e⟩ := List.mem_map.mp h
    exact List.mem_map.mpr ⟨p, hp, inj _ _ e⟩
  · intro h
    obtain ⟨p, hp, rfl⟩ := List.mem_map.mp h
    exact List.mem_map.mpr ⟨p, hp, rfl⟩
theorem ev_sortSet {w : World} {wi : TI} {g : TG} {te : TE} {vs : List Nat} {xs : List ξ} {gd : ξ → PyData} {φ : ξ → α} {key : α → NestedKey} {G : α → Prop} (o : Ord f n) (hn : n ≤ 16) (k : KeyEnc f key G) (hG : ∀ x ∈ xs, G (φ x)) (hi : Its c E wi ((xs.map gd).map (isD K))) (hl : xs.length < 60)
    (turn : ∀ (i : Nat) (x : ξ), xs[i]? = some x → ∃ js E1, Tgt c (wipeE E vs) g (isD K (gd x)) js E1 ∧ (∀ j ∈ js, j ∈ vs) ∧ Ev c E1 te (isD K (f (φ x)))) :
    Ev c E (tCB (rSortN K w) (tCons (tScN K w wi g te vs) tNil)) (isCh K f (xs.map φ)) := fun σ Hs H e Q q => hi σ Hs H e _ fun J Hs1 H1 s1 hJ => fun D hD => by
  have e1 := e.move s1
  have kinj : ∀ a b : α, key a = key b → a = b := fun a b h => k.inj o h
  have n0 : H D = none := s1.fresh hD
  have sD : Stp Hs1 H1 Hs1 (upd H1 D (SetNO w D [])) := Stp.newO s1.i hD
  have ntb : ∀ (L : List KA) ps, SetNO w D L ≠ .tbl ps := fun L ps z => by cases z
  have keyH : ∀ {Hx : Hp} {b : Addr} {a : α}, Dp K Hx (.ref b) (f a) → KeyH K Hx (b, key a) := fun {Hx b a} h => ⟨by rw [show (b, key a).2.data = f a from k.data a]; exact h, k.nm a, k.d8 a⟩
  refine ⟨fun i m H2 => m = xs.length - i ∧ i ≤ xs.length ∧ ∃ (Hs2 : Hp) (L : List (Addr × α)), Stp Hs1 H1 Hs2 H2 ∧ Hs2 D = none ∧ H2 D = some (SetNO w D (kAs key L)) ∧ (∀ p ∈ L, Dp K Hs2 (.ref p.1) (f p.2)) ∧ (∀ x, x ∈ L.map (fun p : Addr × α => p.2) ↔ x ∈ (xs.take i).map φ) ∧ L.length ≤ i ∧ (L.map (fun p : Addr × α => p.2)).Nodup,
    ⟨xs.length, by simp, Nat.zero_le _, Hs1, [], sD, Evl.fresh_back s1.i hD, upd_same, (fun p hp => absurd hp List.not_mem_nil), (fun x => by simp), Nat.le_refl _, List.nodup_nil⟩, ?_⟩
  rintro i m H2 ⟨rfl, hi2, Hs2, L, s2, n2, hDL, hdp, hmem, hlen, hnd⟩
  have hJ2 : ItOk Hs2 J ((xs.map gd).map (isD K)) := hJ.ex s2.s
  by_cases hlt : i < xs.length
  · have hgo : i < ((xs.map gd).map (isD K)).length := by rw [List.length_map, List.length_map]; exact hlt
    refine .inr ⟨hJ2.go Hs2 H2 (Evl.Ex.refl _) s2.i i hgo, fun H' => i + 1 ≤ xs.length ∧ ∃ (Hs2 : Hp) (L : List (Addr × α)), Stp Hs1 H1 Hs2 H' ∧ Hs2 D = none ∧ H' D = some (SetNO w D (kAs key L)) ∧ (∀ p ∈ L, Dp K Hs2 (.ref p.1) (f p.2)) ∧ (∀ x, x ∈ L.map (·.2) ↔ x ∈ (xs.take (i + 1)).map φ) ∧ L.length ≤ i + 1 ∧ (L.map (·.2)).Nodup, fun H' p => ⟨xs.length - (i + 1), by omega, rfl, p.1, p.2⟩, fun x H3 y => ?_⟩
    obtain ⟨ξ0, hx⟩ : ∃ ξ0, xs[i]? = some ξ0 := ⟨_, List.getElem?_eq_getElem hlt⟩
    have hR : ((xs.map gd).map (isD K))[i]? = some (isD K (gd ξ0)) := by rw [List.getElem?_map, List.getElem?_map, hx]; rfl
    obtain ⟨Hs3, s3, hxv⟩ := hJ2.yld Hs2 H2 (Evl.Ex.refl _) s2.i i x H3 _ hR y
    have n3 : Hs3 D = none := s3.f D (by rw [hDL]; exact Option.some_ne_none _) n2
    have h3 : H3 D = some (SetNO w D (kAs key L)) := s3.k D _ (by simp) hDL (ntb _)
    have s13 := s2.trans s3
    obtain ⟨js, E1, t, hjs, he⟩ := turn i ξ0 hx
    refine t.run (L2.wipe σ vs) Hs3 H3 x ((e1.move s13).wipe vs) hxv _ fun σ' e' k' l' => ⟨?_, ?_⟩
    · have h0 : L2.wipe (L2.wipe σ vs) vs = L2.wipe σ vs := wipe_eq (wipe_length _ _) fun j hj => wipe_get hj
      rw [← h0]
      exact wipe_eq l' fun j hj => k' j fun z => hj (hjs j z)
    · refine he σ' Hs3 H3 e' _ fun v Hs4 H4 s4 hv => ?_
      have n4 : Hs4 D = none := s4.f D (by rw [h3]; exact Option.some_ne_none _) n3
      have h4 : H4 D = some (SetNO w D (kAs key L)) := s4.k D _ (by simp) h3 (ntb _)
      have s14 := s13.trans s4
      have hv' : Dp K Hs4 v (f (φ ξ0)) := hv
      obtain ⟨x0, r0, ef⟩ := k.tup _ (hG ξ0 (List.mem_of_getElem? hx))
      obtain ⟨b, eb⟩ : ∃ b, v = .ref b := by
        rw [ef] at hv'
        cases hv' with
        | @tup a ws _ hs _ => exact ⟨a, rfl⟩
      subst eb
      have tk : xs.take (i + 1) = xs.take i ++ [ξ0] := by rw [List.take_succ, hx]; rfl
      have old4 : ∀ p ∈ L, Dp K Hs4 (.ref p.1) (f p.2) := fun p hp => dp_ex (s3.s.trans s4.s) _ _ (hdp p hp)
      refine ⟨b, key (φ ξ0), kAs key L, rfl, keyH (dp_ex s14.i _ _ hv'), h4, fun p hp => ?_, by rw [List.length_map]; omega, fun L' c1 c2 => ⟨hlt, Hs4, ?_⟩⟩
      · obtain ⟨p0, hp0, rfl⟩ := List.mem_map.mp hp
        exact keyH (dp_ex s14.i _ _ (old4 p0 hp0))
      · have stp : ∀ L'' : List KA, Stp Hs1 H1 Hs4 (upd H4 D (SetNO w D L'')) := fun L'' => ⟨s14.s, Evl.Ex.mut s14.i n4, fun a o _ ea hne => by
          have : a ≠ D := fun z => by rw [z, hD] at ea; cases ea
          rw [upd_ne this]; exact s14.k a o (by simp) ea hne, fun a ha => by
          obtain ⟨ps, ep, t1⟩ := s14.t a ha
          have : a ≠ D := fun z => by rw [z, h4] at ep; exact absurd (Option.some.inj ep) (ntb _ ps)
          exact ⟨ps, by rw [upd_ne this]; exact ep, t1⟩, s14.f, fun a ha => by
          by_cases z : a = D
          · rw [z, upd_same]; exact Option.some_ne_none _
          · rw [upd_ne z]; exact s14.d a ha⟩
        by_cases hm : φ ξ0 ∈ L.map (·.2)
        · have eL := c1 ((kAs_mem kinj).mpr hm)
          refine ⟨L, stp L', n4, by rw [upd_same, eL], old4, fun x => ?_, by omega, hnd⟩
          rw [tk, List.map_append, List.mem_append, ← hmem x]
          constructor
          · exact .inl
          · rintro (z | z)
            · exact z
            · have : x = φ ξ0 := by simpa using z
              rw [this]; exact hm
        · obtain ⟨L2, p2, eL⟩ := perm_unmap (f := fun p : Addr × α => (p.1, key p.2)) (c2 fun z => hm ((kAs_mem kinj).mp z)) ((b, φ ξ0) :: L) rfl
          refine ⟨L2, stp L', n4, by rw [upd_same, eL], fun p hp => ?_, fun x => ?_, by rw [p2.length_eq, List.length_cons]; omega, (p2.map (·.2)).nodup_iff.mpr (by rw [List.map_cons]; exact List.nodup_cons.mpr ⟨hm, hnd⟩)⟩
          · rcases List.mem_cons.mp (p2.mem_iff.mp hp) with z | z
            · rw [z]; exact hv'
            · exact old4 p z
          · rw [(p2.map (·.2)).mem_iff, List.map_cons, List.mem_cons, hmem x, tk, List.map_append, List.mem_append]
            constructor
            · rintro (z | z)
              · exact .inr (by simp [z])
              · exact .inl z
            · rintro (z | z)
              · exact .inr z
              · exact .inl (by simpa using z)
  · have en : i = xs.length := by omega
    subst en
    have hst := hJ2.stop Hs2 H2 (Evl.Ex.refl _) s2.i
    rw [List.length_map, List.length_map] at hst
    refine .inl ⟨hst, D, kAs key L, rfl, hDL, fun p hp => ?_, ?_, fun p hp => ?_, fun p hp => ?_, fun L' l p1 nd1 pw1 hl1 => ?_⟩
    · obtain ⟨p0, hp0, rfl⟩ := List.mem_map.mp hp
      exact keyH (dp_ex s2.i _ _ (hdp p0 hp0))
    · rw [List.map_map]
      intro d hd d' hd'
      obtain ⟨p0, _, rfl⟩ := List.mem_map.mp hd
      obtain ⟨p1, _, rfl⟩ := List.mem_map.mp hd'
      show alike (key p0.2).data (key p1.2).data = true
      rw [k.data, k.data]; exact o.al _ _
    · obtain ⟨p0, hp0, rfl⟩ := List.mem_map.mp hp
      have hm : p0.2 ∈ L.map (·.2) := List.mem_map.mpr ⟨p0, hp0, rfl⟩
      rw [hmem, List.take_length] at hm
      obtain ⟨x, hx, ex⟩ := List.mem_map.mp hm
      show ∃ x r, (key p0.2).data = _
      rw [k.data, ← ex]; exact k.tup _ (hG x hx)
    · obtain ⟨p0, hp0, rfl⟩ := List.mem_map.mp hp
      show (key p0.2).data.depth ≤ 16
      rw [k.data]; exact Nat.le_trans (o.enc.dep _) hn
    · obtain ⟨L2, p2, eL⟩ := perm_unmap p1 L rfl
      subst eL
      have s3 := Stp.new (o := .lst ((kAs key L2).map fun q => V.ref q.1)) s2.i hl1
      refine q _ _ _ (s1.trans (s2.trans s3)) ⟨L2.map (·.2), (p2.map (·.2)).nodup_iff.mpr hnd, fun x => ?_, ?_, ?_⟩
      · rw [(p2.map (·.2)).mem_iff, hmem x, List.take_length]
      · have := List.pairwise_map.mp pw1
        refine List.pairwise_map.mpr (this.imp fun {x y} h => ?_)
        have h' : leD (key x.2).data (key y.2).data = true := h
        rw [k.data, k.data] at h'
        exact h'
      · refine .lst (SqL.of upd_same) ?_
        have each : ∀ M : List (Addr × α), (∀ p ∈ M, Dp K Hs2 (.ref p.1) (f p.2)) → DpAll K (upd Hs2 l (.lst ((kAs key L2).map fun q => V.ref q.1))) ((kAs key M).map fun q => V.ref q.1) ((M.map (·.2)).map f) := fun M => by
          induction M with
          | nil => exact fun _ => .nil
          | cons p M ih => exact fun h => .cons (dp_ex s3.s _ _ (h p (by simp))) (ih fun r hr => h r (by simp [hr]))
        exact each L2 fun p hp => hdp p (p2.mem_iff.mp hp)
end
end SD
end
section
set_option maxHeartbeats 4000000
set_option exponentiation.threshold 100000
namespace SD
open PySem PySem.Spec PyProof.Rows L2 SH SM RZ
open PySem.W (alike alikeAll)
section
theorem enc_K : Enc dK 2 := enc_int.pair enc_R
theorem enc_Psh : Enc dPsh 3 := enc_K.tup
theorem alikeAll_map {α : Type} {f : α → PyData} (h : ∀ a b, alike (f a) (f b) = true) : ∀ xs ys : List α, alikeAll (xs.map f) (ys.map f) = true
  | [], ys => by cases ys <;> rfl
  | x :: xs, [] => rfl
  | x :: xs, y :: ys => by
    show (alike (f x) (f y) && alikeAll (xs.map f) (ys.map f)) = true
    rw [h, alikeAll_map h xs ys]; rfl
theorem alike_R (a b : Rat) : alike (dR a) (dR b) = true := rfl
theorem alike_K (a b : Int × Rat) : alike (dK a) (dK b) = true := rfl
theorem ord_Psh : Ord dPsh 3 := ⟨enc_Psh, fun a b => alikeAll_map alike_K a b⟩
def kK (p : Int × Rat) : NestedKey := .tup [.num p.1, .tup [.num p.2.num, .num (p.2.den : Int)]]
def kPsh (r : List (Int × Rat)) : NestedKey := .tup (r.map kK)
theorem datas_map {α : Type} {g : α → NestedKey} {f : α → PyData} (h : ∀ a, (g a).data = f a) : ∀ xs : List α, NestedKey.datas (xs.map g) = xs.map f
  | [] => rfl
  | x :: xs => by
    show (g x).data :: NestedKey.datas (xs.map g) = _
    rw [h, datas_map h xs]; rfl
theorem nms_map {α : Type} {g : α → NestedKey} (h : ∀ a, Nm (g a)) : ∀ xs : List α, Nms (xs.map g)
  | [] => .nil
  | x :: xs => .cons (h x) (nms_map h xs)
theorem depthAll_map {α : Type} {g : α → NestedKey} {n : Nat} (h : ∀ a, (g a).depth ≤ n) : ∀ xs : List α, NestedKey.depthAll (xs.map g) ≤ n
  | [] => Nat.zero_le _
  | x :: xs => Nat.max_le.mpr ⟨h x, depthAll_map h xs⟩
theorem key_Psh : KeyEnc dPsh kPsh (fun r => r ≠ []) := ⟨fun r => by
    show PyData.tuple (NestedKey.datas (r.map kK)) = PyData.tuple (r.map dK)
    rw [datas_map (f := dK) fun a => rfl], fun r => .tup (nms_map (fun p => .tup (.cons (.num _) (.cons (.tup (.cons (.num _) (.cons (.num _) .nil))) .nil))) r), fun r => by
    have : NestedKey.depthAll (r.map kK) ≤ 2 := depthAll_map (g := kK) (fun p => by show NestedKey.depth (.tup [.num p.1, .tup [.num p.2.num, .num (p.2.den : Int)]]) ≤ 2; simp [NestedKey.depth, NestedKey.depthAll]) r
    show NestedKey.depthAll (r.map kK) + 1 ≤ 8
    omega, fun r hr => by
    cases r with
    | nil => exact absurd rfl hr
    | cons p r => exact ⟨_, _, rfl⟩⟩
theorem psh_ne {pl : List Nat} {L : Lot} (h : PuOk pl L) : psh pl L ≠ [] := fun z => by
  have hw := h.wp
  cases L with
  | nil => exact absurd hw (by decide)
  | cons p L =>
    have hm : ((pl.getD p.1 0 : Nat) : Int) ∈ srtK ((pk pl (p :: L)).map (·.1)) := mem_srtK.mpr (by unfold pk; simp)
    unfold psh at z
    rw [List.map_eq_nil_iff.mp z] at hm
    cases hm
def p_chances_of (K : PySem.W.Frag) (C : Addr) : Prom := ⟨List Lot × List Nat, fun a => a.1.length ≤ 12 ∧ ∀ L ∈ a.1, PuOk a.2 L, fun a => [isD K (dLs a.1), isD K (dN a.2)], fun a => isCh K dPsh (a.1.map (psh a.2))⟩
def Same (b s : Bd) (pl ql : List Nat) (x y : Nat) : Prop := b.pay x = s.pay y ∧ ∀ r, r ∈ (b.row x).map (psh pl) ↔ r ∈ (s.row y).map (psh ql)
noncomputable def dcB (p : Prop) : Bool := @decide p (Classical.propDecidable p)
theorem dcB_iff {p : Prop} : dcB p = true ↔ p := @decide_eq_true_iff p (Classical.propDecidable p)
theorem dcB_no {p : Prop} : dcB p = false ↔ ¬ p := @decide_eq_false_iff_not p (Classical.propDecidable p)
noncomputable def mapB (b s : Bd) (pl : List Nat) : Bool := dcB (∀ p ∈ pl.zipIdx, Same b s pl (List.range s.size) p.2 p.1)
structure MapOk (b s : Bd) (pl : List Nat) : Prop where
  gb : GB b
  gs : GB s
  len : pl.length = b.size
  lt : ∀ p ∈ pl, p < s.size
  b12 : ∀ x, (b.row x).length ≤ 12
  s12 : ∀ x, (s.row x).length ≤ 12
  bp : ∀ x, ∀ L ∈ b.row x, PuOk pl L
  sp : ∀ x, ∀ L ∈ s.row x, PuOk (List.range s.size) L
noncomputable def p_is_map (K : PySem.W.Frag) (C : Addr) : Prom := ⟨Bd × Bd × List Nat, fun a => MapOk a.1 a.2.1 a.2.2, fun a => [isB K C a.1, isB K C a.2.1, isD K (dN a.2.2)], fun a => isD K (.bool (mapB a.1 a.2.1 a.2.2))⟩
variable {P : Program} {w : World} {K : PySem.W.Frag} {mg : Str → Option Value} {base : Heap} {T : List Addr} {C : Addr}
theorem sc_chances_of : FnScope ["row", "places", "lottery"] ["row", "places"] (defScope s_chances_of) := ⟨rfl, rfl, rfl, by decide +kernel, rfl, by decide +kernel, by decide +kernel⟩
theorem ok_chances_of {f : Addr} {fd : FuncData} (F : FunD K "chances_of" "chances_of" (defArgs s_chances_of) (defBody s_chances_of) (defScope s_chances_of) [] [] f fd) (hm : mg "chances_of" = some (.ref f)) (B : Blt mg)  (h_pushed : Has P w K mg base "pushed" ["lottery", "places"] 2 (spOf T (p_pushed K C))) : Has P w K mg base "chances_of" ["row", "places"] 3 (spOf T (p_chances_of K C)) :=
  has_of F hm sc_chances_of (fun _ _ _ _ _ _ us hl => match us, hl with | [_, _], _ => rfl) (fun _ => rfl) (by decide) fun cdv A outer s H E hr a c D hT hX hs q hnx => by
    subst hT
    refine ⟨_, (pss_one (ps_ret (pe_callB (cr_sortN rfl hr.units) (by rfl) B.sorted (by decide +kernel) (pa_cons (pe_scN K (own := [("lottery", 2)]) rfl sc_chances_of.nd hr.units (k_piT K (pv 0)) (blkOk_by (own := [("lottery", 2)]) (N := ["row", "places", "lottery"]) (sc := defScope s_chances_of) (by decide +kernel)) (fun _ _ _ _ _ => (pg_name (i := 2) sc_chances_of.nd rfl (.inl rfl))) (fun _ _ _ _ _ => (pe_has (h_pushed.mono (by decide)) (hr) (pa_cons (pv 2) (pa_cons (pv 1) pa_nil))))) pa_nil)))), ?_⟩
    obtain ⟨row, pl⟩ := a
    obtain ⟨h12, hp⟩ := hs
    dsimp only at h12 hp
    refine tri_ret (ev_sortSet (xs := row) (gd := dL) (φ := psh pl) (vs := [2]) ord_Psh (by decide) key_Psh (fun L hL => psh_ne (hp L hL)) (its_tup (ev_var (i := 0) rfl)) (by omega) fun i L hL => ⟨_, _, tgt_name, by decide, ?_⟩) q
    exact ev_call (p := p_pushed K C) (L, pl) (evA_cons (ev_var rfl) (evA_cons (ev_var rfl) evA_nil)) (hp L (List.mem_of_getElem? hL))
theorem sc_is_map : FnScope ["board", "other", "places", "same", "x", "place"] ["board", "other", "places"] (defScope s_is_map) := ⟨rfl, rfl, rfl, by decide +kernel, rfl, by decide +kernel, by decide +kernel⟩
theorem ok_is_map {f : Addr} {fd : FuncData} (F : FunD K "is_map" "is_map" (defArgs s_is_map) (defBody s_is_map) (defScope s_is_map) [] [] f fd) (hm : mg "is_map" = some (.ref f)) (B : Blt mg) (BB : BF K C) (h_are_places : Has P w K mg base "are_places" ["places", "board", "other"] 4 (spOf T (p_are_places K C))) (h_chances_of : Has P w K mg base "chances_of" ["row", "places"] 3 (spOf T (p_chances_of K C))) : Has P w K mg base "is_map" ["board", "other", "places"] 5 (spOf T (p_is_map K C)) :=
  has_of F hm sc_is_map (fun _ _ _ _ _ _ us hl => match us, hl with | [_, _, _], _ => rfl) (fun _ => rfl) (by decide) fun cdv A outer s H E hr a c D hT hX hs q hnx => by
    subst hT
    refine ⟨_, (pss_cons (ps_if (pt_not (pt_val (pe_has (h_are_places.mono (by decide)) (hr) (pa_cons (pv 2) (pa_cons (pv 0) (pa_cons (pv 1) pa_nil)))))) (pss_one (ps_ret pe_bl)) pss_nil)
      (pss_cons (ps_set (i := 3) sc_is_map.nd rfl (.inl rfl) (pe_tupRg rfl (by rfl) B.tuple (prg_1 (by rfl) B.range (k_fld K (pv 1) rfl))))
      (pss_cons (ps_for PassesOwn.never rfl (pi_enumT K (by rfl) B.enumerate (pa_cons (pv 2) pa_nil)) (k_tup K 2 (pgs_cons (pg_name (i := 4) sc_is_map.nd rfl (.inl rfl)) (pgs_cons (pg_name (i := 5) sc_is_map.nd rfl (.inl rfl)) pgs_nil)))
      (pss_cons (ps_if (pt_cmpR (k_neD K hr.units) (pe_ix (k_ixT K) (k_fld K (pv 0) rfl) (pv 4) (fun _ _ => rfl)) (pe_ix (k_ixT K) (k_fld K (pv 1) rfl) (pv 5) (fun _ _ => rfl)) (nomark _)) (pss_one (ps_ret pe_bl)) pss_nil)
      (pss_one (ps_if (pt_cmpR (k_neD K hr.units) (pe_has (h_chances_of.mono (by decide)) (hr) (pa_cons (pe_ix (k_ixT K) (k_fld K (pv 0) rfl) (pv 4) (fun _ _ => rfl)) (pa_cons (pv 2) pa_nil))) (pe_has (h_chances_of.mono (by decide)) (hr) (pa_cons (pe_ix (k_ixT K) (k_fld K (pv 1) rfl) (pv 5) (fun _ _ => rfl)) (pa_cons (pv 3) pa_nil))) (nomark _)) (pss_one (ps_ret pe_bl)) pss_nil))))
      (pss_one (ps_ret pe_bl))))), ?_⟩
    obtain ⟨b, s, pl⟩ := a
    have ho : MapOk b s pl := hs
    refine tri_seq (tri_ifF (evT_is (evT_not (evT_test (ev_call (p := p_are_places K C) (pl, b, s) (evA_cons (ev_var (i := 2) rfl) (evA_cons (ev_var (i := 0) rfl) (evA_cons (ev_var (i := 1) rfl) evA_nil))) ⟨ho.len, ho.lt⟩))) rfl) (tri_next ?_))
    dsimp only
    have hsz : s.size ≤ 10 := ho.gs.size
    refine nx_tri (D := D) (tri_seq (tri_asg (ev_tupRg (n := s.size) (ev_size BB (ev_var (i := 1) rfl)) (by omega)) ?_))
    refine tri_seq (tri_forP (xs := pl.zipIdx) (fun M => ∀ p ∈ M, Same b s pl (List.range s.size) p.2 p.1) (by simp) (its_enumTM (xs := pl) (g := fun n : Nat => .int (n : Int)) (evA_cons (ev_var (i := 2) rfl) evA_nil)) (fun _ => [.is (isB K C b), .is (isB K C s), .is (isD K (dN pl)), .is (isD K (dN (List.range s.size))), .no, .no]) (by repeat (first | exact Weak.nil | refine Weak.same ?_ | refine Weak.none ?_)) (fun c' M p a1 a2 a3 a4 hp hM => ?_) fun hL => ?_)
    · refine ⟨_, _, tgt_tup (ds := [_, _]) (tgts_cons tgt_name (tgts_cons tgt_name tgts_nil)) rfl, fun D' d1 d2 d3 d4 => ?_⟩
      rw [← a1]
      have hpm := prefix_mem hp
      obtain ⟨hx, hy⟩ : p.2 < b.size ∧ p.1 < s.size := by
        have := List.mem_zipIdx hpm
        rw [← ho.len]
        refine ⟨by omega, ho.lt _ ?_⟩
        rw [this.2.2]; exact List.getElem_mem _
      have no : ¬ Same b s pl (List.range s.size) p.2 p.1 → mapB b s pl = false := fun h => by
        unfold mapB
        exact dcB_no.mpr fun z => h (z p hpm)
      refine tri_seq (tri_if (evT_test (ev_op (ev_op (ev_pays BB (ev_var (i := 0) rfl)) (ev_var (i := 4) rfl) (opV_ixM rfl (pay_get hx))) (ev_op (ev_pays BB (ev_var (i := 1) rfl)) (ev_var (i := 5) rfl) (opV_ixM rfl (pay_get hy))) (opV_neE enc_R _ _))) (fun hb => ?_) fun hb => tri_next ?_)
      · refine tri_ret (ev_is ev_bl ?_) (fin_to q a2 a3 a4 d1)
        dsimp only
        rw [no fun z => by simp [z.1] at hb]
      · have hpay : b.pay p.2 = s.pay p.1 := by simpa using hb
        dsimp only
        refine nx_tri (D := D') (tri_if (b := !dcB (∀ r, r ∈ (b.row p.2).map (psh pl) ↔ r ∈ (s.row p.1).map (psh (List.range s.size)))) (evT_test (ev_op (ev_call (p := p_chances_of K C) (b.row p.2, pl) (evA_cons (ev_op (ev_plays BB (ev_var (i := 0) rfl)) (ev_var (i := 4) rfl) (opV_ixM rfl (row_get ho.gb hx))) (evA_cons (ev_var (i := 2) rfl) evA_nil)) ⟨ho.b12 _, ho.bp _⟩) (ev_call (p := p_chances_of K C) (s.row p.1, List.range s.size) (evA_cons (ev_op (ev_plays BB (ev_var (i := 1) rfl)) (ev_var (i := 5) rfl) (opV_ixM rfl (row_get ho.gs hy))) (evA_cons (ev_var (i := 3) rfl) evA_nil)) ⟨ho.s12 _, ho.sp _⟩) (opV_neCh ord_Psh (by decide) dcB_iff))) (fun hb => ?_) fun hb => ?_)
        · refine tri_ret (ev_is ev_bl ?_) (fin_to q a2 a3 a4 d1)
          dsimp only
          rw [no fun z => by rw [Bool.not_eq_true', dcB_no] at hb; exact hb z.2]
        · refine tri_next (nx_weak (by repeat (first | exact Weak.nil | refine Weak.same ?_ | refine Weak.none ?_)) (d3 fun r hr => ?_))
          rcases List.mem_append.mp hr with h | h
          · exact hM r h
          · have : r = p := by simpa using h
            rw [this]
            exact ⟨hpay, dcB_iff.mp (by rw [← Bool.not_eq_false']; exact hb)⟩
    · refine nx_tri (tri_ret (ev_is ev_bl ?_) q)
      dsimp only
      rw [show mapB b s pl = true from dcB_iff.mpr hL]
end
end SD
end
section
namespace SD
open SM
def cl (l : List (Int × Nat)) (n : Nat) : List Int := (List.range n).map fun j : Nat => ((wK l (j : Int) : Nat) : Int)
theorem cl_nil (n : Nat) : cl [] n = (List.range n).map fun _ => (0 : Int) := rfl
theorem cl_len (l : List (Int × Nat)) (n : Nat) : (cl l n).length = n := by unfold cl; simp
theorem cl_get {l : List (Int × Nat)} {n k : Nat} (h : k < n) : (cl l n)[k]? = some ((wK l (k : Int) : Nat) : Int) := by
  unfold cl
  rw [List.getElem?_map, List.getElem?_range h]; rfl
theorem cl_set (l : List (Int × Nat)) {n k : Nat} (h : k < n) (w : Nat) : (cl l n).set k (((wK l (k : Int) : Nat) : Int) + (w : Int)) = cl (l ++ [((k : Int), w)]) n := by
  apply List.ext_getElem?
  intro j
  rw [List.getElem?_set, cl_len]
  by_cases hj : j < n
  · rw [cl_get (l := l ++ _) hj, cl_get hj, wK_app]
    by_cases e : k = j
    · subst e
      rw [if_pos rfl, if_pos h]
      simp [wK]
    · rw [if_neg e]
      have : ¬ ((k : Int) = (j : Int)) := by omega
      simp [wK, this]
  · have h1 : (cl l n)[j]? = none := List.getElem?_eq_none (by rw [cl_len]; omega)
    have h2 : (cl (l ++ [((k : Int), w)]) n)[j]? = none := List.getElem?_eq_none (by rw [cl_len]; omega)
    rw [if_neg (by omega), h1, h2]
theorem cl_sum : ∀ {l : List (Int × Nat)} {n : Nat}, (∀ p ∈ l, 0 ≤ p.1 ∧ p.1 < (n : Int)) → (cl l n).sum = ((whK l : Nat) : Int)
  | [], n, _ => by
    rw [cl_nil]
    show ((List.range n).map fun _ => (0 : Int)).sum = 0
    induction n with
    | zero => rfl
    | succ n ih => rw [List.range_succ, List.map_append, List.sum_append, ih (fun _ h => nomatch h)]; rfl
  | p :: l, n, h => by
    have ih := cl_sum (l := l) (n := n) fun q hq => h q (List.mem_cons_of_mem _ hq)
    have hp := h p (List.mem_cons_self ..)
    have add : ∀ m : Nat, (cl (p :: l) m).sum = (if p.1 < (m : Int) then (p.2 : Int) else 0) + (cl l m).sum := fun m => by
      induction m with
      | zero =>
        rw [if_neg (by omega)]; rfl
      | succ m im =>
        have e1 : ∀ l' : List (Int × Nat), cl l' (m + 1) = cl l' m ++ [((wK l' (m : Int) : Nat) : Int)] := fun l' => by unfold cl; rw [List.range_succ, List.map_append]; rfl
        rw [e1, e1, List.sum_append, List.sum_append, im]
        have e2 : wK (p :: l) (m : Int) = (if p.1 = (m : Int) then p.2 else 0) + wK l (m : Int) := rfl
        simp only [List.sum_cons, List.sum_nil, e2]
        split <;> split <;> split <;> omega
    rw [add n, if_pos hp.2, ih]
    show _ = ((p.2 + whK l : Nat) : Int)
    omega
theorem whK_pk (pl : List Nat) : ∀ L : Lot, whK (pk pl L) = wh L
  | [] => rfl
  | p :: L => by
    show p.2 + whK (pk pl L) = p.2 + wh L
    rw [whK_pk pl L]
def dns (pl : List Nat) (n : Nat) (L : Lot) : List Rat := (List.range n).map fun j : Nat => Rat.divInt ((wK (pk pl L) (j : Int) : Nat) : Int) ((wh L : Nat) : Int)
structure DnOk (pl : List Nat) (n : Nat) (L : Lot) : Prop where
  pu : PuOk pl L
  lt : ∀ p ∈ L, pl.getD p.1 0 < n
  pos : ∀ p ∈ L, 0 < p.2
theorem DnOk.key {pl : List Nat} {n : Nat} {L : Lot} (h : DnOk pl n L) : ∀ p ∈ pk pl L, 0 ≤ p.1 ∧ p.1 < (n : Int) := fun p hp => by
  obtain ⟨q, hq, rfl⟩ := List.mem_map.mp hp
  have := h.lt q hq
  dsimp only
  omega
theorem DnOk.posK {pl : List Nat} {n : Nat} {L : Lot} (h : DnOk pl n L) : ∀ p ∈ pk pl L, 0 < p.2 := fun p hp => by
  obtain ⟨q, hq, rfl⟩ := List.mem_map.mp hp
  exact h.pos q hq
theorem DnOk.zero {pl : List Nat} {n : Nat} {L : Lot} (h : DnOk pl n L) (k : Int) : Rat.divInt ((wK (pk pl L) k : Nat) : Int) ((wh L : Nat) : Int) = 0 ↔ k ∉ (pk pl L).map (·.1) := by
  have hw := h.pu.wp
  have hz : ((wh L : Nat) : Int) ≠ 0 := by omega
  constructor
  · intro e hk
    have := wK_pos h.posK hk
    have e2 := (Rat.divInt_eq_divInt_iff hz (show (1 : Int) ≠ 0 by decide)).mp (e.trans (Rat.zero_divInt 1).symm)
    omega
  · intro hk
    rw [wK_none hk]
    exact Rat.zero_divInt _
theorem asc_eq {A B : List Int} (h1 : A.Pairwise (· < ·)) (h2 : B.Pairwise (· < ·)) (h : ∀ x, x ∈ A ↔ x ∈ B) : A = B :=
  ((List.perm_ext_iff_of_nodup (h1.imp fun h => Int.ne_of_lt h) (h2.imp fun h => Int.ne_of_lt h)).mpr h).eq_of_pairwise (le := fun x y => x < y) (fun a b _ _ h h' => absurd h (by omega)) h1 h2
theorem psh_dns {pl ql : List Nat} {n : Nat} {L M : Lot} (hL : DnOk pl n L) (hM : DnOk ql n M) : psh pl L = psh ql M ↔ dns pl n L = dns ql n M := by
  have at_ : ∀ {r : List Nat} {N : Lot} {k : Int} {q : Rat}, (k, q) ∈ psh r N ↔ k ∈ (pk r N).map (·.1) ∧ q = Rat.divInt ((wK (pk r N) k : Nat) : Int) ((wh N : Nat) : Int) := fun {r N k q} => by
    unfold psh
    rw [List.mem_map]
    constructor
    · rintro ⟨x, hx, e⟩
      obtain ⟨rfl, rfl⟩ := Prod.mk.inj e
      exact ⟨mem_srtK.mp hx, rfl⟩
    · rintro ⟨hk, rfl⟩
      exact ⟨k, mem_srtK.mpr hk, rfl⟩
  constructor
  · intro e
    unfold dns
    apply List.map_congr_left
    intro j hj
    by_cases hk : (j : Int) ∈ (pk pl L).map (·.1)
    · have := at_.mpr ⟨hk, rfl⟩
      rw [e] at this
      exact (at_.mp this).2
    · have hk2 : (j : Int) ∉ (pk ql M).map (·.1) := fun z => by
        have := at_.mpr ⟨z, rfl⟩
        rw [← e] at this
        exact hk (at_.mp this).1
      rw [(hL.zero _).mpr hk, (hM.zero _).mpr hk2]
  · intro e
    have each : ∀ j : Nat, j < n → Rat.divInt ((wK (pk pl L) (j : Int) : Nat) : Int) ((wh L : Nat) : Int) = Rat.divInt ((wK (pk ql M) (j : Int) : Nat) : Int) ((wh M : Nat) : Int) := fun j hj => by
      have : (dns pl n L)[j]? = (dns ql n M)[j]? := by rw [e]
      unfold dns at this
      rw [List.getElem?_map, List.getElem?_map, List.getElem?_range hj] at this
      exact Option.some.inj this
    have keys : ∀ x : Int, x ∈ (pk pl L).map (·.1) ↔ x ∈ (pk ql M).map (·.1) := fun x => by
      by_cases hx : 0 ≤ x ∧ x < (n : Int)
      · have := each x.toNat (by omega)
        rw [Int.toNat_of_nonneg hx.1] at this
        constructor
        · intro h
          exact Classical.byContradiction fun z => (hL.zero x).mp (by rw [this]; exact (hM.zero x).mpr z) h
        · intro h
          exact Classical.byContradiction fun z => (hM.zero x).mp (by rw [← this]; exact (hL.zero x).mpr z) h
      · constructor
        · intro h
          obtain ⟨p, hp, rfl⟩ := List.mem_map.mp h
          exact absurd (hL.key p hp) hx
        · intro h
          obtain ⟨p, hp, rfl⟩ := List.mem_map.mp h
          exact absurd (hM.key p hp) hx
    have es : srtK ((pk pl L).map (·.1)) = srtK ((pk ql M).map (·.1)) := asc_eq (srtK_asc _) (srtK_asc _) fun x => by rw [mem_srtK, mem_srtK]; exact keys x
    unfold psh
    rw [es]
    apply List.map_congr_left
    intro k hk
    have hk' := mem_srtK.mp hk
    obtain ⟨p, hp, ep⟩ := List.mem_map.mp hk'
    have := hM.key p hp
    have h2 := each k.toNat (by rw [← ep]; omega)
    rw [Int.toNat_of_nonneg (by rw [← ep]; exact this.1)] at h2
    rw [h2]
theorem img_iff {α β γ : Type} {A : List α} {B : List β} {f : α → γ} {g : β → γ} : (∀ r, r ∈ A.map f ↔ r ∈ B.map g) ↔ (∀ a ∈ A, ∃ b ∈ B, f a = g b) ∧ ∀ b ∈ B, ∃ a ∈ A, f a = g b := by
  constructor
  · intro h
    refine ⟨fun a ha => ?_, fun b hb => ?_⟩
    · obtain ⟨b, hb, e⟩ := List.mem_map.mp ((h (f a)).mp (List.mem_map.mpr ⟨a, ha, rfl⟩))
      exact ⟨b, hb, e.symm⟩
    · obtain ⟨a, ha, e⟩ := List.mem_map.mp ((h (g b)).mpr (List.mem_map.mpr ⟨b, hb, rfl⟩))
      exact ⟨a, ha, e⟩
  · rintro ⟨h1, h2⟩ r
    constructor
    · intro h
      obtain ⟨a, ha, rfl⟩ := List.mem_map.mp h
      obtain ⟨b, hb, e⟩ := h1 a ha
      exact List.mem_map.mpr ⟨b, hb, e.symm⟩
    · intro h
      obtain ⟨b, hb, rfl⟩ := List.mem_map.mp h
      obtain ⟨a, ha, e⟩ := h2 b hb
      exact List.mem_map.mpr ⟨a, ha, e⟩
theorem img_psh {pl ql : List Nat} {n : Nat} {A B : List Lot} (hA : ∀ L ∈ A, DnOk pl n L) (hB : ∀ L ∈ B, DnOk ql n L) : (∀ r, r ∈ A.map (psh pl) ↔ r ∈ B.map (psh ql)) ↔ ∀ r, r ∈ A.map (dns pl n) ↔ r ∈ B.map (dns ql n) := by
  rw [img_iff, img_iff]
  refine and_congr (forall_congr' fun a => forall_congr' fun ha => exists_congr fun b => and_congr_right fun hb => psh_dns (hA a ha) (hB b hb)) (forall_congr' fun b => forall_congr' fun hb => exists_congr fun a => and_congr_right fun ha => psh_dns (hA a ha) (hB b hb))
end SD
end
section
set_option maxHeartbeats 4000000
set_option exponentiation.threshold 100000
namespace SD
open PySem PySem.Spec PyProof.Rows L2 SH SM RZ
open PySem.W (alike alikeAll)
section
def dDn (r : List Rat) : PyData := .list (r.map dR)
theorem enc_Dn : Enc dDn 2 := enc_R.list
theorem ord_Dn : Ord dDn 2 := ⟨enc_Dn, fun a b => alikeAll_map alike_R a b⟩
def fnd (g : Lot → List Rat) (M : List Lot) : List (List Rat) := M.foldl (fun acc L => if g L ∈ acc then acc else acc ++ [g L]) []
theorem fnd_snoc (g : Lot → List Rat) (M : List Lot) (L : Lot) : fnd g (M ++ [L]) = if g L ∈ fnd g M then fnd g M else fnd g M ++ [g L] := by unfold fnd; rw [List.foldl_append]; rfl
theorem fnd_ok (g : Lot → List Rat) : ∀ n (M : List Lot), M.length = n → (fnd g M).Nodup ∧ (∀ x, x ∈ fnd g M ↔ x ∈ M.map g) ∧ (fnd g M).length ≤ n := fun n => by
  induction n with
  | zero =>
    intro M h
    rw [List.length_eq_zero_iff.mp h]
    exact ⟨List.nodup_nil, fun x => by simp [fnd], Nat.le_refl _⟩
  | succ n ih =>
    intro M h
    obtain ⟨M', L, rfl⟩ : ∃ M' L, M = M' ++ [L] := ⟨M.dropLast, M.getLast (by intro z; rw [z] at h; cases h), (List.dropLast_concat_getLast _).symm⟩
    obtain ⟨h1, h2, h3⟩ := ih M' (by rw [List.length_append] at h; simpa using h)
    rw [fnd_snoc]
    by_cases hm : g L ∈ fnd g M'
    · rw [if_pos hm]
      refine ⟨h1, fun x => ?_, by omega⟩
      rw [h2, List.map_append, List.mem_append]
      constructor
      · exact .inl
      · rintro (z | z)
        · exact z
        · have : x = g L := by simpa using z
          rw [this]; exact (h2 _).mp hm
    · rw [if_neg hm]
      refine ⟨List.nodup_append.mpr ⟨h1, by simp, fun a ha b hb e => hm (by rw [← show b = g L from by simpa using hb, ← e]; exact ha)⟩, fun x => ?_, by rw [List.length_append]; simpa using h3⟩
      rw [List.mem_append, h2, List.map_append, List.mem_append]
      simp
structure SeenOk (b : Bd) (pl : List Nat) (x n : Nat) : Prop where
  gb : GB b
  hx : x < b.size
  hn : n ≤ 100
  r12 : (b.row x).length ≤ 12
  dn : ∀ L ∈ b.row x, DnOk pl n L
def p__law_seen (K : PySem.W.Frag) (C : Addr) : Prom := ⟨Bd × List Nat × Nat × Nat, fun a => SeenOk a.1 a.2.1 a.2.2.1 a.2.2.2, fun a => [isB K C a.1, isD K (dN a.2.1), isD K (.int (a.2.2.1 : Nat)), isD K (.int (a.2.2.2 : Nat))], fun a => isCh K dDn ((a.1.row a.2.2.1).map (dns a.2.1 a.2.2.2))⟩
variable {P : Program} {w : World} {K : PySem.W.Frag} {mg : Str → Option Value} {base : Heap} {T : List Addr} {C : Addr}
theorem sc__law_seen : FnScope ["_law_board", "_law_places", "_law_x", "_law_size", "_law_found", "_law_lottery", "_law_y", "_law_cells", "_law_weight", "_law_chances", "_law_cell"] ["_law_board", "_law_places", "_law_x", "_law_size"] (defScope s__law_seen) := ⟨rfl, rfl, rfl, by decide +kernel, rfl, by decide +kernel, by decide +kernel⟩
theorem ok__law_seen {f : Addr} {fd : FuncData} (F : FunD K "_law_seen" "_law_seen" (defArgs s__law_seen) (defBody s__law_seen) (defScope s__law_seen) [] [] f fd) (hm : mg "_law_seen" = some (.ref f)) (B : Blt mg) (BB : BF K C) (h__law_low : Has P w K mg base "_law_low" ["_law_n", "_law_d"] 1 (spOf T (p__law_low K C))) : Has P w K mg base "_law_seen" ["_law_board", "_law_places", "_law_x", "_law_size"] 2 (spOf T (p__law_seen K C)) :=
  has_of F hm sc__law_seen (fun _ _ _ _ _ _ us hl => match us, hl with | [_, _, _, _], _ => rfl) (fun _ => rfl) (by decide) fun cdv A outer s H E hr a c D hT hX hs q hnx => by
    subst hT
    refine ⟨_, (pss_cons (ps_set (i := 4) sc__law_seen.nd rfl (.inl rfl) (pe_lst pa_nil))
      (pss_cons (ps_for PassesOwn.never rfl (k_piT K (pe_ix (k_ixT K) (k_fld K (pv 0) rfl) (pv 2) (fun _ _ => rfl))) (pg_name (i := 5) sc__law_seen.nd rfl (.inl rfl))
      (pss_cons (ps_set (i := 7) sc__law_seen.nd rfl (.inr rfl) (pe_lc (own := [("_law_y", 6)]) rfl sc__law_seen.nd (pi_range1 (by rfl) B.range (pa_cons (pv 3) pa_nil)) (blkOk_by (own := [("_law_y", 6)]) (N := ["_law_board", "_law_places", "_law_x", "_law_size", "_law_found", "_law_lottery", "_law_y", "_law_cells", "_law_weight", "_law_chances", "_law_cell"]) (sc := defScope s__law_seen) (by decide +kernel)) (fun _ _ _ _ _ => (pg_name (i := 6) sc__law_seen.nd rfl (.inl rfl))) (fun _ _ _ _ _ => pts_nil) (fun _ _ _ _ _ => pe_int)))
      (pss_cons (ps_for PassesOwn.never rfl (k_piT K (pv 5)) (k_tup K 2 (pgs_cons (pg_name (i := 6) sc__law_seen.nd rfl (.inl rfl)) (pgs_cons (pg_name (i := 8) sc__law_seen.nd rfl (.inl rfl)) pgs_nil)))
      (pss_one (ps_asg (pe_op op_add (pe_ix (k_ixL K) (pv 7) (pe_ix (k_ixT K) (pv 1) (pv 6) (fun _ _ => rfl)) (fun _ _ => rfl)) (pv 8)) (pg_sub (pv 7) (pe_ix (k_ixT K) (pv 1) (pv 6) (fun _ _ => rfl)) set_list))))
      (pss_cons (ps_setLc (i := 9) (own := [("_law_cell", 10)]) rfl sc__law_seen.nd rfl rfl (sw_true rfl rfl rfl (by decide +kernel)) (k_piL K (pv 7)) (blkOk_by (own := [("_law_cell", 10)]) (N := ["_law_board", "_law_places", "_law_x", "_law_size", "_law_found", "_law_lottery", "_law_y", "_law_cells", "_law_weight", "_law_chances", "_law_cell"]) (sc := defScope s__law_seen) (by decide +kernel)) (fun _ _ _ _ _ => (pg_name (i := 10) sc__law_seen.nd rfl (.inl rfl))) (fun _ _ _ _ _ => pts_nil) (fun _ _ _ _ _ => (pe_has (h__law_low.mono (by decide)) (hr) (pa_cons (pv 10) (pa_cons (pe_callB (call_max2 rfl) (by rfl) B.max (by decide +kernel) (pa_cons pe_int (pa_cons (pe_callB (k_sum K) (by rfl) B.sum (by decide +kernel) (pa_cons (pv 7) pa_nil)) pa_nil))) pa_nil)))))
      (pss_one (ps_if (pt_cmpR (k_notInD K (un65 hr)) (pv 9) (pv 4) (by rfl)) (pss_one (ps_expr (k_bm K PySem.F.plainAttrs_list PySem.F.slot_list_append PySem.F.type_list_append mt_append (pv 4) (pa_cons (pv 9) pa_nil)))) pss_nil))))))
      (pss_one (ps_ret (pe_callB (cr_sortD hr.units) (by rfl) B.sorted (by decide +kernel) (pa_cons (pv 4) pa_nil)))))), ?_⟩
    obtain ⟨b, pl, x, n⟩ := a
    have ho : SeenOk b pl x n := hs
    have hn := ho.hn
    have h12 := ho.r12
    refine tri_seq (tri_asgO (evO_nil (K := K)) ?_)
    refine tri_seq (tri_forM (xs := b.row x) (gd := dL) (its_tup (show Ev _ _ _ (isD K (dLs (b.row x))) from ev_op (ev_plays BB (ev_var (i := 0) rfl)) (ev_var (i := 2) rfl) (opV_ixM (n := x) rfl (row_get ho.gb ho.hx)))) (fun M => [.is (isB K C b), .is (isD K (dN pl)), .is (isD K (.int (x : Nat))), .is (isD K (.int (n : Nat))), .own (ownL K ((fnd (dns pl n) M).map dDn)), .no, .no, .no, .no, .no, .no]) (by repeat (first | exact Weak.nil | refine Weak.same ?_ | refine Weak.none ?_)) (fun c' M L a1 a2 a3 a4 hp => ?_) ?_)
    · refine ⟨_, _, tgt_name, fun D' d1 d2 d3 d4 => ?_⟩
      rw [← a1]
      have hd := ho.dn L (prefix_mem hp)
      have h3 := hd.pu.len
      have hwp := hd.pu.wp
      have hw27 := hd.pu.w27
      have hM : M.length < 100 := by have := prefix_lt hp; omega
      refine tri_seq (tri_asgO (evO_rng (K := K) (lo := 0) (n := n) (fun _ => .int 0) (its_is (its_range1 (evA_cons (ev_var (i := 3) rfl) evA_nil) (by omega) (by omega)) (by rw [Int.toNat_natCast])) (by omega) fun i hi => ⟨_, _, tgt_name, by decide, evT_tt, ev_int⟩) ?_)
      refine tri_seq (tri_forM (xs := L) (gd := dP) (its_tup (ev_var (i := 5) rfl)) (fun M' => [.is (isB K C b), .is (isD K (dN pl)), .is (isD K (.int (x : Nat))), .is (isD K (.int (n : Nat))), .own (ownL K ((fnd (dns pl n) M).map dDn)), .is (isD K (dL L)), .no, .own (ownL K ((cl (pk pl M') n).map .int)), .no, .no, .no]) ?_ (fun c2 M' p b1 b2 b3 b4 hp2 => ?_) ?_)
      · have e : ((List.range n).map fun _ : Nat => PyData.int 0) = (cl (pk pl []) n).map .int := by
          show _ = (cl [] n).map PyData.int
          rw [cl_nil, List.map_map]; rfl
        rw [e]
        repeat (first | exact Weak.nil | refine Weak.same ?_ | refine Weak.none ?_)
      · refine ⟨_, _, tgt_tup (ds := [_, _]) (tgts_cons tgt_name (tgts_cons tgt_name tgts_nil)) rfl, fun D2 e1 e2 e3 e4 => ?_⟩
        have hpm := prefix_mem hp2
        have hk : pl.getD p.1 0 < n := hd.lt p hpm
        have get : pl[p.1]? = some (pl.getD p.1 0) := by
          have := hd.pu.lt p hpm
          rw [List.getD_eq_getElem?_getD, List.getElem?_eq_getElem this]; rfl
        have tk : (((pl.getD p.1 0 : Nat) : Int)).toNat = pl.getD p.1 0 := Int.toNat_natCast _
        have hix : ∀ E2 : List Slo, E2[1]? = some (.is (isD K (dN pl))) → E2[6]? = some (.is (isD K (.int (p.1 : Nat)))) → Ev c2 E2 (tOp (rIxT K) (tVar 1) (tVar 6)) (isD K (.int (pl.getD p.1 0 : Nat))) := fun E2 z1 z2 => ev_op (ev_var (i := 1) z1) (ev_var (i := 6) z2) (opV_ixM rfl get)
        refine tri_setI (i := 7) rfl (ev_op (ev_ixO (i := 7) rfl (hix _ rfl rfl) (by omega) (d := .int ((wK (pk pl M') ((pl.getD p.1 0 : Nat) : Int) : Nat) : Int)) ?_) (ev_var (i := 8) rfl) opV_int) (hix _ rfl rfl) (by omega) (by rw [tk, List.length_map, cl_len]; exact hk) ?_
        · rw [tk, List.getElem?_map, cl_get hk]; rfl
        · rw [tk]
          refine nx_weak ?_ e3
          have e : ((cl (pk pl M') n).map PyData.int).set (pl.getD p.1 0) (.int (((wK (pk pl M') ((pl.getD p.1 0 : Nat) : Int) : Nat) : Int) + (p.2 : Int))) = (cl (pk pl (M' ++ [p])) n).map .int := by
            rw [← List.map_set, cl_set _ hk]
            unfold pk
            rw [List.map_append]; rfl
          rw [e]
          repeat (first | exact Weak.nil | refine Weak.same ?_ | refine Weak.none ?_)
      · refine nx_freeze 7 rfl (by rw [a2]; exact hX) (nx_tri (tri_seq (tri_asg (ev_is (evO_data (evO_map (K := K) (xs := cl (pk pl L) n) (gd := .int) (fun z => dR (Rat.divInt z ((wh L : Nat) : Int))) (its_list (ev_lsD (ev_var (i := 7) rfl))) (by rw [cl_len]; omega) fun i z hz => ⟨_, _, tgt_name, by decide, evT_tt, ?_⟩)) (d' := dDn (dns pl n L)) ?_) ?_)))
        · have hsum : (cl (pk pl L) n).sum = ((wh L : Nat) : Int) := by rw [cl_sum hd.key, whK_pk]
          refine ev_is (ev_call (p := p__law_low K C) (z, max 1 (cl (pk pl L) n).sum) (evA_cons (ev_var rfl) (evA_cons (ev_CB (evA_cons ev_int (evA_cons (ev_CB (evA_cons (ev_lsD (ev_var (i := 7) rfl)) evA_nil) caV_sum) evA_nil)) caV_max2) evA_nil)) ⟨?_, ?_⟩) ?_
          · dsimp only; omega
          · rw [hsum]
            exact lt_up 9000 (a := 5) (show (max 1 ((wh L : Nat) : Int)).natAbs < 2 ^ 5 by omega) (by decide)
          · rw [hsum, show max 1 ((wh L : Nat) : Int) = ((wh L : Nat) : Int) by omega]
        · unfold dDn dns cl
          rw [List.map_map, List.map_map]; rfl
        · dsimp only
          have hf := fnd_ok (dns pl n) _ M rfl
          refine nx_tri (D := D') (tri_if (evT_notInO enc_Dn (i := 4) rfl (ev_var (i := 9) rfl)) (fun hb => ?_) fun hb => ?_)
          · have hb' : dns pl n L ∉ fnd (dns pl n) M := by simpa using hb
            refine tri_app (i := 4) rfl (ev_var (i := 9) rfl) (by rw [List.length_map]; omega) (nx_weak ?_ d3)
            rw [fnd_snoc, if_neg hb', List.map_append]
            repeat (first | exact Weak.nil | refine Weak.same ?_ | refine Weak.none ?_)
          · have hb' : dns pl n L ∈ fnd (dns pl n) M := by simpa using hb
            refine tri_next (nx_weak ?_ d3)
            rw [fnd_snoc, if_pos hb']
            repeat (first | exact Weak.nil | refine Weak.same ?_ | refine Weak.none ?_)
    · have hf := fnd_ok (dns pl n) _ (b.row x) rfl
      refine nx_tri (tri_ret (ev_weak (ev_sortO (i := 4) ord_Dn (by decide) (fun a => ⟨(fun z => by cases z), (fun ds z => by cases z)⟩) rfl hf.1) fun H v ⟨cs, h1, h2, h3, h4⟩ => ⟨cs, h1, fun y => (h2 y).trans (hf.2.1 y), h3, h4⟩) q)
end
end SD
end
section
set_option maxHeartbeats 4000000
namespace SD
open PySem PySem.Spec PyProof.Rows L2 SM
def isS (P : Str → Prop) : Rp := ⟨fun _ v => ∃ z, P z ∧ v = .str z, fun _ h => h⟩
section
variable {K : PySem.W.Frag} {c : Ctx} {E E1 E2 : List Slo} {R S Z : Rp}
theorem Sat.rebase {σ : L2.St} {Hs H : Hp} (e : Sat c σ Hs H E) {D : Addr} (hD : ∀ (j : Nat) (P : Op), E[j]? = some (Slo.own P) → σ[j]? ≠ some (some (V.ref D))) :
    ∃ c1 : Ctx, c1.T = c.T ∧ D ∉ c1.X ∧ c1.Hs0 = Hs ∧ c1.H0 = H ∧ Sat c1 σ Hs H E ∧ ∀ (σ' : L2.St) (Hs' H' : Hp) (E' : List Slo), Sat c1 σ' Hs' H' E' → Sat c σ' Hs' H' E' := by
  classical
  let X1 : List Addr := (σ.filterMap fun o => match o with | some (V.ref p) => some p | _ => none).filter fun p => decide (∃ (i : Nat) (P : Op), E[i]? = some (Slo.own P) ∧ σ[i]? = some (some (V.ref p)))
  have hX : ∀ p, p ∈ X1 ↔ ∃ (i : Nat) (P : Op), E[i]? = some (Slo.own P) ∧ σ[i]? = some (some (V.ref p)) := fun p => by
    rw [List.mem_filter, decide_eq_true_iff]
    constructor
    · exact fun h => h.2
    · rintro ⟨i, P, h1, h2⟩
      exact ⟨List.mem_filterMap.mpr ⟨some (.ref p), List.mem_of_getElem? h2, rfl⟩, i, P, h1, h2⟩
  have hc : ∀ p ∈ X1, c.H0 p = none ∨ p ∈ c.X := fun p hp => by
    obtain ⟨i, P, h1, h2⟩ := (hX p).mp hp
    obtain ⟨p', o, a1, _, _, _, a5⟩ := e.own i P h1
    rw [h2] at a1
    cases a1
    exact a5
  refine ⟨⟨c.T, X1, Hs, H, fun _ => True, fun _ _ => trivial⟩, rfl, fun z => ?_, rfl, rfl, ⟨e.ok, StpX.refl e.ok.sub, trivial, e.len, e.val, fun i P hi => ?_, e.apart⟩, fun σ' Hs' H' E' e' => ⟨e'.ok, ⟨e.stp.s.trans e'.stp.s, e'.stp.i, fun a o hX1 ea hn => ?_, fun a ha => e'.stp.t a (e.stp.t a ha), fun a h1 h2 => e'.stp.f a (e.stp.d a h1) (e.stp.f a h1 h2), fun a h1 => e'.stp.d a (e.stp.d a h1)⟩, c.gm e'.stp.s e.g, e'.len, e'.val, fun i P hi => ?_, e'.apart⟩⟩
  · obtain ⟨i, P, h1, h2⟩ := (hX D).mp z
    exact hD i P h1 h2
  · obtain ⟨p, o, a1, a2, a3, a4, a5⟩ := e.own i P hi
    exact ⟨p, o, a1, a2, a3, a4, .inr ((hX p).mpr ⟨i, P, hi, a1⟩)⟩
  · refine e'.stp.k a o (fun z => ?_) (e.stp.k a o hX1 ea hn) hn
    rcases hc a z with z' | z'
    · rw [z'] at ea; cases ea
    · exact hX1 z'
  · obtain ⟨p, o, a1, a2, a3, a4, a5⟩ := e'.own i P hi
    refine ⟨p, o, a1, a2, a3, a4, ?_⟩
    rcases a5 with a5 | a5
    · exact .inl (e.fresh0 a5)
    · exact hc p a5
theorem Sat.unwipe {σ : L2.St} {Hs H : Hp} {vs : List Nat} (e : Sat c (L2.wipe σ vs) Hs H E) (hE : ∀ j ∈ vs, E[j]? = some .no ∨ E[j]? = none) : Sat c σ Hs H E := by
  have hj : ∀ {j : Nat} {s : Slo}, E[j]? = some s → s ≠ .no → j ∉ vs := fun {j s} h hn hv => by
    rcases hE j hv with z | z
    · rw [z] at h; exact hn (Option.some.inj h).symm
    · rw [z] at h; cases h
  refine ⟨e.ok, e.stp, e.g, by rw [← e.len, wipe_length], fun i R hi => ?_, fun i P hi => ?_, fun i j P P' p hij hi hj2 h1 => ?_⟩
  · have := e.val i R hi
    rwa [wipe_get (hj hi (fun z => by cases z))] at this
  · have := e.own i P hi
    rwa [wipe_get (hj hi (fun z => by cases z))] at this
  · have := e.apart i j P P' p hij hi hj2
    rw [wipe_get (hj hi (fun z => by cases z)), wipe_get (hj hj2 (fun z => by cases z))] at this
    exact this h1
theorem lcS {A : Int → Prop} {Pw : Str → Prop} {ta : TA} {g : TG} {te : TE} {vs : List Nat} (h : EvAM c E ta [isZ A] E1) (hA : ∀ z, A z → 0 ≤ z ∧ z < 2 ^ 14) (hE : ∀ j ∈ vs, (wipeE E1 vs)[j]? = some .no ∨ (wipeE E1 vs)[j]? = none)
    (turn : ∀ (c' : Ctx) (k : Int), c'.T = c.T → ∃ js E2, Tgt c' (wipeE E1 vs) g (isD K (.int k)) js E2 ∧ (∀ j ∈ js, j ∈ vs) ∧ wipeE E2 vs = wipeE E1 vs ∧ EvM c' E2 te (isS Pw) E2)
    (σ : L2.St) (Hs H : Hp) (e : Sat c σ Hs H E) (Q : VK)
    (q : ∀ (D : Addr) (ws : List Str) (z : Int) (Hs' H' : Hp), Ex Hs Hs' → Sat c σ Hs' H' (wipeE E1 vs) → A z → ws.length = z.toNat → (∀ w ∈ ws, Pw w) → H' D = some (.lst (ws.map V.str)) → Q (.ref D) H') : tLc (iRng1 ta) g tYes te vs σ H Q :=
  h σ Hs H e _ fun us Hs1 H1 x1 e1 hv => by
  cases hv with
  | cons a b =>
    cases b
    obtain ⟨z, hz, rfl⟩ := a
    obtain ⟨z0, z1⟩ := hA z hz
    refine ⟨z, rfl, by omega, by omega, fun D hD => ?_⟩
    let Rs : List Rp := (List.range z.toNat).map fun i : Nat => isD K (.int (0 + (i : Int)))
    have lR : Rs.length = z.toNat := by simp [Rs]
    have hJ : ItOk Hs1 (Itr 0 z.toNat) Rs := itOk_range
    have n0 : Hs1 D = none := Evl.fresh_back e1.ok.sub hD
    have ap0 : ∀ (j : Nat) (P : Op), (wipeE E1 vs)[j]? = some (Slo.own P) → (L2.wipe σ vs)[j]? ≠ some (some (V.ref D)) := fun j P hj2 z2 => by
      obtain ⟨p, o, a1, _, a3, _⟩ := (e1.wipe vs).own j P hj2
      rw [z2] at a1
      cases a1
      rw [hD] at a3; cases a3
    have sD := Stp.newO (o := .lst []) e1.ok.sub hD
    refine ⟨fun i m H2 => m = Rs.length - i ∧ i ≤ Rs.length ∧ ∃ (Hs2 : Hp) (ws : List Str), Ex Hs1 Hs2 ∧ Sat c (L2.wipe σ vs) Hs2 H2 (wipeE E1 vs) ∧ Hs2 D = none ∧ H2 D = some (.lst (ws.map V.str)) ∧ ws.length = i ∧ (∀ w ∈ ws, Pw w),
      ⟨Rs.length, by simp, Nat.zero_le _, Hs1, [], Evl.Ex.refl _, (e1.move sD).wipe vs, n0, upd_same, rfl, fun w hw => absurd hw List.not_mem_nil⟩, ?_⟩
    rintro i m H2 ⟨rfl, hi2, Hs2, ws, x2, e2, n2, hacc, hlen, hws⟩
    have hJ2 : ItOk Hs2 (Itr 0 z.toNat) Rs := hJ.ex x2
    by_cases hlt : i < Rs.length
    · refine .inr ⟨hJ2.go Hs2 H2 (Evl.Ex.refl _) e2.ok.sub i hlt, fun H' => i + 1 ≤ Rs.length ∧ ∃ (Hs2 : Hp) (ws : List Str), Ex Hs1 Hs2 ∧ Sat c (L2.wipe σ vs) Hs2 H' (wipeE E1 vs) ∧ Hs2 D = none ∧ H' D = some (.lst (ws.map V.str)) ∧ ws.length = i + 1 ∧ (∀ w ∈ ws, Pw w), fun H' p => ⟨Rs.length - (i + 1), by omega, rfl, p.1, p.2⟩, fun x H3 y => ?_⟩
      obtain ⟨rfl, rfl⟩ := y
      obtain ⟨c1, hT, hX, hHs, hH, e3, back⟩ := e2.rebase ap0
      obtain ⟨js, E2, t, hjs, hw, he⟩ := turn c1 (0 + (i : Int)) hT
      refine t.run (L2.wipe σ vs) Hs2 H3 _ e3 (.int _) _ fun σ' e' k' l' => ?_
      have hσ : L2.wipe σ' vs = L2.wipe σ vs := by
        have h0 : L2.wipe (L2.wipe σ vs) vs = L2.wipe σ vs := wipe_eq (wipe_length _ _) fun j hj => wipe_get hj
        rw [← h0]
        exact wipe_eq l' fun j hj => k' j fun z => hj (hjs j z)
      refine ⟨hσ, ?_⟩
      show te σ' H3 _
      refine he σ' Hs2 H3 e' _ fun v Hs4 H4 x4 e4 hv => ?_
      obtain ⟨w, hw1, rfl⟩ := hv
      have h4 : H4 D = some (.lst (ws.map V.str)) := e4.stp.k D _ hX (by rw [hH]; exact hacc) fun ps z => by cases z
      have n4 : Hs4 D = none := e4.stp.f D (by rw [hH, hacc]; exact Option.some_ne_none _) (by rw [hHs]; exact n2)
      refine ⟨ws.map V.str, h4, Evl.sz_lt (by rw [List.length_map]; omega), hlt, Hs4, ws ++ [w], x2.trans x4, ?_, n4, by rw [upd_same, List.map_append]; rfl, by rw [List.length_append, hlen]; rfl, fun u hu => ?_⟩
      · have e5 := back _ _ _ _ (e4.wipe vs)
        rw [hσ, hw] at e5
        refine ⟨⟨Evl.Ex.mut e5.ok.sub n4, fun P hP => ?_⟩, ⟨e5.stp.s, Evl.Ex.mut e5.stp.i n4, fun a o hX1 ea hn => ?_, fun a ha => ?_, e5.stp.f, fun a ha => ?_⟩, e5.g, e5.len, e5.val, fun j P hj => ?_, e5.apart⟩
        · obtain ⟨⟨ps, ep, t1⟩, t2⟩ := e5.ok.tab P hP
          have : P ≠ D := fun z => by rw [z, h4] at ep; cases ep
          exact ⟨⟨ps, by rw [upd_ne this]; exact ep, t1⟩, t2⟩
        · have : a ≠ D := fun z => by
            have := e1.stp.d a (by rw [ea]; exact Option.some_ne_none _)
            rw [z, hD] at this; exact this rfl
          rw [upd_ne this]; exact e5.stp.k a o hX1 ea hn
        · obtain ⟨ps, ep, t1⟩ := e5.stp.t a ha
          have : a ≠ D := fun z => by rw [z, h4] at ep; cases ep
          exact ⟨ps, by rw [upd_ne this]; exact ep, t1⟩
        · by_cases z : a = D
          · rw [z, upd_same]; exact Option.some_ne_none _
          · rw [upd_ne z]; exact e5.stp.d a ha
        · obtain ⟨p, o, a1, a2, a3, a4, a5⟩ := e5.own j P hj
          have : p ≠ D := fun z => by rw [z] at a1; exact ap0 j P hj a1
          exact ⟨p, o, a1, a2, by rw [upd_ne this]; exact a3, a4, a5⟩
      · rcases List.mem_append.mp hu with z | z
        · exact hws u z
        · have : u = w := by simpa using z
          rw [this]; exact hw1
    · have en : i = Rs.length := by omega
      subst en
      exact .inl ⟨hJ2.stop Hs2 H2 (Evl.Ex.refl _) e2.ok.sub, q D ws z Hs2 H2 (x1.trans x2) (e2.unwipe hE) hz (by rw [hlen, lR]) hws hacc⟩
structure ItOkS (Hs1 H1 : Hp) (J : It) (Rs : List Rp) : Prop where
  go : ∀ Hs H, Stp Hs1 H1 Hs H → ∀ i, i < Rs.length → J.go i H
  stop : ∀ Hs H, Stp Hs1 H1 Hs H → J.stop Rs.length H
  yld : ∀ Hs H, Stp Hs1 H1 Hs H → ∀ i x H' R, Rs[i]? = some R → J.yld i H x H' → ∃ Hs', Stp Hs H Hs' H' ∧ R.p Hs' x
def ItsS (c : Ctx) (E : List Slo) (wi : TI) (Rs : List Rp) : Prop := ∀ (σ : L2.St) (Hs H : Hp), Sat c σ Hs H E → ∀ RR : It → Hp → Prop, (∀ J Hs' H', Stp Hs H Hs' H' → ItOkS Hs' H' J Rs → RR J H') → wi σ H RR
theorem its_ownL {i : Nat} {ds : List PyData} (hi : E[i]? = some (.own (ownL K ds))) : ItsS c E (iList K (tVar i)) (ds.map (isD K)) := fun σ Hs H e RR q => by
  obtain ⟨p, vs, a1, a2, a3, a4⟩ := e.own_at hi
  refine ⟨.ref p, a1, p, rfl, ⟨vs, SqL.of a3⟩, q _ Hs H (StpX.refl e.ok.sub) ?_⟩
  have at_ : ∀ {Hs2 H2 : Hp}, Stp Hs H Hs2 H2 → SqL K H2 p vs := fun s => SqL.of (s.k p _ (by simp) a3 fun ps z => by cases z)
  have hl : vs.length = ds.length := dpAll_length a4
  exact ⟨fun Hs2 H2 s i hi2 => by
      rw [List.length_map] at hi2
      exact ⟨vs, vs[i]'(by omega), at_ s, List.getElem?_eq_getElem _⟩, fun Hs2 H2 s => ⟨vs, at_ s, by rw [List.length_map, hl]; exact Nat.le_refl _⟩, fun Hs2 H2 s i x H' R hR y => by
      obtain ⟨rfl, y⟩ := y
      rw [List.getElem?_map] at hR
      cases hd : ds[i]? with
      | none => rw [hd] at hR; cases hR
      | some d =>
        rw [hd] at hR; cases hR
        obtain ⟨v, h1, h2⟩ := dpAll_get a4 hd
        have h3 := y vs (at_ s)
        rw [h1] at h3; cases h3
        exact ⟨Hs2, StpX.refl s.i, dp_ex s.s _ _ h2⟩⟩
theorem evO_mapO {α : Type} {wi : TI} {g : TG} {te : TE} {vs : List Nat} {xs : List α} {gd : α → PyData} (f : α → PyData) (hi : ItsS c E wi ((xs.map gd).map (isD K))) (hl : xs.length ≤ 50000)
    (turn : ∀ (i : Nat) (x : α), xs[i]? = some x → ∃ js E1, Tgt c (wipeE E vs) g (isD K (gd x)) js E1 ∧ (∀ j ∈ js, j ∈ vs) ∧ Ev c E1 te (isD K (f x))) :
    EvO c E (tLc wi g tYes te vs) (ownL K (xs.map f)) := fun σ Hs H e Q q => hi σ Hs H e _ fun J Hs1 H1 s1 hJ => fun D hD => by
  have e1 := e.move s1
  have n0 : H D = none := s1.fresh hD
  have sD := Stp.newO (o := .lst []) s1.i hD
  have lR : ((xs.map gd).map (isD K)).length = xs.length := by rw [List.length_map, List.length_map]
  refine ⟨fun i m H2 => m = xs.length - i ∧ i ≤ xs.length ∧ ∃ Hs2 acc, Stp Hs1 H1 Hs2 H2 ∧ Hs2 D = none ∧ H2 D = some (.lst acc) ∧ DpAll K Hs2 acc ((xs.take i).map f),
    ⟨xs.length, by simp, Nat.zero_le _, Hs1, [], sD, Evl.fresh_back s1.i hD, upd_same, .nil⟩, ?_⟩
  rintro i m H2 ⟨rfl, hi2, Hs2, acc, s2, n2, hacc, dacc⟩
  by_cases hlt : i < xs.length
  · refine .inr ⟨hJ.go Hs2 H2 s2 i (by rw [lR]; exact hlt), fun H' => i + 1 ≤ xs.length ∧ ∃ Hs2 acc, Stp Hs1 H1 Hs2 H' ∧ Hs2 D = none ∧ H' D = some (.lst acc) ∧ DpAll K Hs2 acc ((xs.take (i + 1)).map f), fun H' p => ⟨xs.length - (i + 1), by omega, rfl, p.1, p.2⟩, fun x H3 y => ?_⟩
    obtain ⟨x0, hx0⟩ : ∃ x0, xs[i]? = some x0 := ⟨_, List.getElem?_eq_getElem hlt⟩
    have hR : ((xs.map gd).map (isD K))[i]? = some (isD K (gd x0)) := by rw [List.getElem?_map, List.getElem?_map, hx0]; rfl
    obtain ⟨Hs3, s3, hx⟩ := hJ.yld Hs2 H2 s2 i x H3 _ hR y
    have nD : H2 D ≠ none := by rw [hacc]; exact Option.some_ne_none _
    have n3 : Hs3 D = none := s3.f D nD n2
    have h3 : H3 D = some (.lst acc) := s3.k D _ (by simp) hacc fun ps z => by cases z
    obtain ⟨js, E1, t, hjs, he⟩ := turn i x0 hx0
    have s13 := s2.trans s3
    refine t.run (L2.wipe σ vs) Hs3 H3 x ((e1.move s13).wipe vs) hx _ fun σ' e' k' l' => ⟨?_, ?_⟩
    · have h0 : L2.wipe (L2.wipe σ vs) vs = L2.wipe σ vs := wipe_eq (wipe_length _ _) fun j hj => wipe_get hj
      rw [← h0]
      exact wipe_eq l' fun j hj => k' j fun z => hj (hjs j z)
    · show te σ' H3 _
      refine he σ' Hs3 H3 e' _ fun v Hs5 H5 s5 hv => ?_
      have n5 : Hs5 D = none := s5.f D (by rw [h3]; exact Option.some_ne_none _) n3
      have h5 : H5 D = some (.lst acc) := s5.k D _ (by simp) h3 fun ps z => by cases z
      have s15 := s13.trans s5
      refine ⟨acc, h5, Evl.sz_lt ?_, hlt, Hs5, acc ++ [v], ⟨s15.s, Evl.Ex.mut s15.i n5, fun a o _ ea hn => ?_, fun a ha => ?_, s15.f, fun a ha => ?_⟩, n5, upd_same, ?_⟩
      · rw [dpAll_length dacc, List.length_map, List.length_take]
        omega
      · have : a ≠ D := fun z => by rw [z, hD] at ea; cases ea
        rw [upd_ne this]; exact s15.k a o (by simp) ea hn
      · obtain ⟨ps, e1, t1⟩ := s15.t a ha
        have : a ≠ D := fun z => by rw [z, h5] at e1; cases e1
        exact ⟨ps, by rw [upd_ne this]; exact e1, t1⟩
      · by_cases z : a = D
        · rw [z, upd_same]; exact Option.some_ne_none _
        · rw [upd_ne z]; exact s15.d a ha
      · have tk : xs.take (i + 1) = xs.take i ++ [x0] := by rw [List.take_succ, hx0]; rfl
        rw [tk, List.map_append]
        exact dpAll_append (dpAll_ex (s3.s.trans s5.s) _ _ dacc) (.cons hv .nil)
  · have en : i = xs.length := by omega
    subst en
    have st := hJ.stop Hs2 H2 s2
    rw [lR] at st
    rw [List.take_length] at dacc
    exact .inl ⟨st, q D _ Hs2 H2 (s1.trans s2) n0 n2 hacc ⟨acc, rfl, dacc⟩⟩
end
end SD
end
section
set_option maxHeartbeats 4000000
set_option exponentiation.threshold 100000
namespace SD
open PySem PySem.Spec PyProof.Rows L2 SH SM RZ
section
def nm (pre : List Nat) (k : Nat) : Str := ⟨(pre ++ [97 + k % 26]).toArray⟩
def letC (k : Nat) : Str := ⟨#[97 + k]⟩
structure NmP (pre : List Nat) (k : Nat) (z : Str) : Prop where
  l : pre.length ≤ 3
  c : ∀ c ∈ pre, 97 ≤ c ∧ c ≤ 122
  e : z = nm pre k
theorem nm_list (pre : List Nat) (k : Nat) : (nm pre k).cps.toList = pre ++ [97 + k % 26] := rfl
theorem nm_len (pre : List Nat) (k : Nat) : (nm pre k).length = pre.length + 1 := by
  show (pre ++ [97 + k % 26]).toArray.size = _
  rw [List.size_toArray, List.length_append]; rfl
theorem NmP.ok {pre : List Nat} {k : Nat} {z : Str} (h : NmP pre k z) : nameOk z := by
  rw [h.e]
  refine ⟨by rw [nm_len]; omega, by rw [nm_len]; have := h.l; omega, fun c hc => ?_⟩
  rw [nm_list] at hc
  rcases List.mem_append.mp hc with z | z
  · exact h.c c z
  · have : c = 97 + k % 26 := by simpa using z
    have := Nat.mod_lt k (show 26 > 0 by decide)
    omega
theorem nm_inj {pre : List Nat} {j k : Nat} (h : nm pre j = nm pre k) : j % 26 = k % 26 := by
  have h2 : (nm pre j).cps.toList = (nm pre k).cps.toList := by rw [h]
  rw [nm_list, nm_list] at h2
  have := (List.append_cancel_left h2)
  simp at this
  omega
theorem nd_len {α : Type} [DecidableEq α] : ∀ {l : List α}, l.Nodup → ∀ m : List α, (∀ x ∈ l, x ∈ m) → l.length ≤ m.length
  | [], _, m, _ => Nat.zero_le _
  | a :: l, h, m, hs => by
    obtain ⟨h1, h2⟩ := List.nodup_cons.mp h
    have hm : a ∈ m := hs a (List.mem_cons_self ..)
    have := nd_len h2 (m.erase a) fun x hx => (List.mem_erase_of_ne fun (e : x = a) => h1 (e ▸ hx)).mpr (hs x (List.mem_cons_of_mem _ hx))
    rw [List.length_erase_of_mem hm] at this
    have h3 := List.length_pos_of_mem hm
    rw [List.length_cons]
    omega
theorem nm_free {pre : List Nat} {k : Nat} {used : List Str} (hu : used.length ≤ 20) (h : ∀ i, i < 21 → nm pre (k + i) ∈ used) : False := by
  have nd : ((List.range 21).map fun i => nm pre (k + i)).Nodup := List.nodup_iff_pairwise_ne.mpr (List.pairwise_map.mpr ((List.nodup_iff_pairwise_ne.mp List.nodup_range).imp_of_mem fun {a b} ha hb hab e => by
    have := nm_inj e
    have := List.mem_range.mp ha
    have := List.mem_range.mp hb
    omega))
  have := nd_len nd used fun z hz => by
    obtain ⟨i, hi, rfl⟩ := List.mem_map.mp hz
    exact h i (List.mem_range.mp hi)
  rw [List.length_map, List.length_range] at this
  omega
theorem join_ks : ∀ ks : List Nat, (Txt.join "" (ks.map letC)).cps.toList = ks.map (97 + ·) := fun ks => by
  rw [TL.join_eq]
  show TL.tl _ = _
  rw [TL.tl_join]
  induction ks with
  | nil => rfl
  | cons a ks ih =>
    cases ks with
    | nil => rfl
    | cons b ks =>
      show [97 + a] ++ ([] ++ TL.joinL [] ((b :: ks).map letC |>.map TL.tl)) = _
      rw [show (TL.tl (Str.ofString "")) = [] from rfl] at ih
      rw [ih]; rfl
theorem letC_ix {k : Nat} (h : k < 26) : ∀ i : Int, i = (k : Int) → atI ("abcdefghijklmnopqrstuvwxyz" : Str).cps.toList i = some (97 + k) := fun i e => by
  subst e
  have : ∀ k : Nat, k < 26 → atI ("abcdefghijklmnopqrstuvwxyz" : Str).cps.toList (k : Int) = some (97 + k) := by
    have h2 := (by decide +kernel : (List.range 26).all (fun k => decide (atI ("abcdefghijklmnopqrstuvwxyz" : Str).cps.toList (k : Int) = some (97 + k))) = true)
    exact fun k hk => of_decide_eq_true (List.all_eq_true.mp h2 k (List.mem_range.mpr hk))
  exact this k h
theorem letC_at {k : Nat} (h : k < 26) : ∃ rest, Builtin.Str.occurrences "abcdefghijklmnopqrstuvwxyz" (letC k) 0 ("abcdefghijklmnopqrstuvwxyz" : Str).length 1 = k :: rest := by
  have : ∀ k : Nat, k < 26 → (Builtin.Str.occurrences "abcdefghijklmnopqrstuvwxyz" (letC k) 0 ("abcdefghijklmnopqrstuvwxyz" : Str).length 1).head? = some k := by
    have h2 := (by decide +kernel : (List.range 26).all (fun k => decide ((Builtin.Str.occurrences "abcdefghijklmnopqrstuvwxyz" (letC k) 0 ("abcdefghijklmnopqrstuvwxyz" : Str).length 1).head? = some k)) = true)
    exact fun k hk => of_decide_eq_true (List.all_eq_true.mp h2 k (List.mem_range.mpr hk))
  have := this k h
  generalize Builtin.Str.occurrences "abcdefghijklmnopqrstuvwxyz" (letC k) 0 ("abcdefghijklmnopqrstuvwxyz" : Str).length 1 = l at *
  cases l with
  | nil => cases this
  | cons a l => exact ⟨l, by rw [List.head?_cons] at this; rw [Option.some.inj this]⟩
theorem nm_last (pre : List Nat) (k : Nat) : atI (nm pre k).cps.toList (-1) = some (97 + k % 26) := by
  rw [nm_list]
  unfold atI L2.ixN
  rw [List.length_append, List.length_singleton]
  have h1 : ¬ (0 : Int) ≤ -1 := by decide
  have h2 : -(((pre.length + 1 : Nat) : Int)) ≤ -1 := by omega
  rw [if_neg h1, if_pos h2]
  have h3 : ((-1 : Int) + ((pre.length + 1 : Nat) : Int)).toNat = pre.length := by omega
  rw [h3]
  show (pre ++ [97 + k % 26])[pre.length]? = _
  rw [List.getElem?_append_right (Nat.le_refl _), Nat.sub_self]; rfl
theorem nm_init (pre : List Nat) (k : Nat) : cutS (nm pre k) none (some (-1)) = ⟨pre.toArray⟩ := by
  unfold cutS
  rw [nm_list, nm_len]
  have h1 : HT.sIx (pre.length + 1) 0 none = 0 := rfl
  have h2 : HT.sIx (pre.length + 1) (pre.length + 1) (some (-1)) = pre.length := by
    show (if (-1 : Int) < 0 then ((-1 : Int) + ((pre.length + 1 : Nat) : Int)).toNat else min (-1 : Int).toNat (pre.length + 1)) = pre.length
    rw [if_pos (by decide)]
    omega
  rw [h1, h2, List.drop_zero, Nat.sub_zero, List.take_left]
theorem nm_app (pre : List Nat) (k : Nat) : (⟨pre.toArray⟩ : Str) ++ letC (k % 26) = nm pre k := by
  apply TL.ext_tl
  rw [TL.tl_append]; rfl
end
section
variable {K : PySem.W.Frag} {c : Ctx} {E E1 E2 : List Slo} {ta tb te : TE}
theorem len_small {z : Str} (h : z.length ≤ 1000) : z.length ≤ sizeLine := Evl.sz_of (by omega)
theorem opV_ixS {z : Str} {i : Int} {k : Nat} (hz : z.length ≤ 1000) (h : atI z.cps.toList i = some (97 + k)) : OpV rIxS (isD K (.str z)) (isD K (.int i)) (isD K (.str (letC k))) := fun x y Hs H e hx hy Q q => by
  cases hx; cases hy
  exact ⟨z, i, 97 + k, rfl, rfl, len_small hz, h, q _ Hs H (StpX.refl e) (.str _)⟩
theorem opV_ixSZ : OpV rIxS (isD K (.str "abcdefghijklmnopqrstuvwxyz")) (isZ fun z => 0 ≤ z ∧ z < 26) (isS fun z => ∃ k, k < 26 ∧ z = letC k) := fun x y Hs H e hx hy Q q => by
  cases hx
  obtain ⟨i, ⟨i0, i1⟩, rfl⟩ := hy
  exact ⟨_, i, 97 + i.toNat, rfl, rfl, len_small (by decide), letC_ix (k := i.toNat) (by omega) i (by omega), q _ Hs H (StpX.refl e) ⟨letC i.toNat, ⟨i.toNat, by omega, rfl⟩, rfl⟩⟩
theorem opV_catS {y z : Str} (hl : y.length + z.length ≤ 1000) : OpV (fun x y H Q => ∃ i j, x = .str i ∧ y = .str j ∧ i.length + j.length ≤ sizeLine ∧ Q (.str (i ++ j)) H) (isD K (.str y)) (isD K (.str z)) (isD K (.str (y ++ z))) := fun a b Hs H e hx hy Q q => by
  cases hx; cases hy
  exact ⟨y, z, rfl, rfl, Evl.sz_of (by omega), q _ Hs H (StpX.refl e) (.str _)⟩
theorem ev_init {pre : List Nat} {k : Nat} (hl : pre.length ≤ 100) (h : Ev c E te (isD K (.str (nm pre k)))) : Ev c E (tSl rSlS te tNoPart (tPart (tUn (rU fun i => .int (-i)) (tC (.int 1))))) (isD K (.str ⟨pre.toArray⟩)) := fun σ Hs H e Q q => h σ Hs H e _ fun v Hs1 H1 s1 hv => by
  cases hv
  refine ⟨1, rfl, -1, rfl, nm pre k, rfl, len_small (by rw [nm_len]; omega), ?_⟩
  rw [nm_init]
  exact q _ Hs1 H1 s1 (.str _)
theorem ev_letAt {k : Nat} (hk : k < 26) (ha : Ev c E ta (isD K (.str "abcdefghijklmnopqrstuvwxyz"))) (h : Ev c E te (isD K (.str (letC k)))) : Ev c E (tBM K "str" (fun x xs H Q => ∃ a b i rest, x = .str a ∧ xs = [.str b] ∧ Builtin.Str.occurrences a b 0 a.length 1 = i :: rest ∧ Q (.int (i : Nat)) H) ta (tCons te tNil)) (isD K (.int (k : Nat))) := fun σ Hs H e Q q => ha σ Hs H e _ fun v Hs1 H1 s1 hv => by
  cases hv
  refine ⟨rfl, h σ Hs1 H1 (e.move s1) _ fun u Hs2 H2 s2 hu => ?_⟩
  cases hu
  obtain ⟨rest, hr⟩ := letC_at hk
  exact ⟨_, _, k, rest, rfl, rfl, hr, q _ Hs2 H2 (s1.trans s2) (.int _)⟩
theorem evM_join {A : Int → Prop} {tl : TE} (hA : ∀ z, A z → 1 ≤ z ∧ z ≤ 4)
    (L : ∀ (σ : L2.St) (Hs H : Hp), Sat c σ Hs H E → ∀ Q : VK, (∀ (D : Addr) (ws : List Str) (z : Int) (Hs' H' : Hp), Ex Hs Hs' → Sat c σ Hs' H' E1 → A z → ws.length = z.toNat → (∀ w ∈ ws, ∃ k, k < 26 ∧ w = letC k) → H' D = some (.lst (ws.map V.str)) → Q (.ref D) H') → tl σ H Q) :
    EvM c E (tM1 (fun x xs H Q => ∃ a p, ∃ ys : List Str, x = .str a ∧ xs = [.ref p] ∧ (SqL K H p (ys.map V.str) ∨ SqT K H p (ys.map V.str)) ∧
      (ys.map (·.length)).sum + ys.length * a.length ≤ 16777216 ∧ Q (.str (Txt.join a ys)) H) (tC (.str "")) tl) (isS fun z => ∃ pre k, NmP pre k z) E1 := fun σ Hs H e Q q => by
  refine ⟨⟨_, rfl⟩, L σ Hs H e _ fun D ws z Hs' H' x e' hz hl hw hD => ?_⟩
  obtain ⟨z1, z2⟩ := hA z hz
  have ksOf : ∀ ws : List Str, (∀ w ∈ ws, ∃ k, k < 26 ∧ w = letC k) → ∃ ks : List Nat, ws = ks.map letC ∧ ∀ k ∈ ks, k < 26 := fun ws => by
    induction ws with
    | nil => exact fun _ => ⟨[], rfl, fun k hk => absurd hk List.not_mem_nil⟩
    | cons w ws ih =>
      intro h
      obtain ⟨ks, e1, h1⟩ := ih fun u hu => h u (List.mem_cons_of_mem _ hu)
      obtain ⟨k, hk, rfl⟩ := h w (List.mem_cons_self ..)
      refine ⟨k :: ks, by rw [e1]; rfl, fun j hj => ?_⟩
      rcases List.mem_cons.mp hj with z | z
      · rw [z]; exact hk
      · exact h1 j z
  obtain ⟨ks, rfl, hks⟩ := ksOf ws hw
  rw [List.length_map] at hl
  have hsum : ((ks.map letC).map (·.length)).sum = ks.length := by
    clear hD hw hks hl
    induction ks with
    | nil => rfl
    | cons a ks ih => rw [List.map_cons, List.map_cons, List.sum_cons, ih, List.length_cons]; show 1 + _ = _; omega
  refine ⟨_, D, ks.map letC, rfl, rfl, .inl (SqL.of hD), by rw [hsum, List.length_map]; show ks.length + ks.length * 0 ≤ _; omega, q _ Hs' H' x e' ⟨_, ?_, rfl⟩⟩
  have hne : ks ≠ [] := fun z => by rw [z] at hl; simp at hl; omega
  refine ⟨(ks.dropLast).map (97 + ·), ks.getLast hne, by rw [List.length_map, List.length_dropLast]; omega, fun c hc => ?_, ?_⟩
  · obtain ⟨k, hk, rfl⟩ := List.mem_map.mp hc
    have := hks k ((List.dropLast_sublist ks).subset hk)
    omega
  · apply TL.ext_tl
    show (Txt.join "" (ks.map letC)).cps.toList = _
    rw [join_ks]
    show _ = (ks.dropLast).map (97 + ·) ++ [97 + ks.getLast hne % 26]
    rw [Nat.mod_eq_of_lt (hks _ (List.getLast_mem hne))]
    conv => lhs; rw [← List.dropLast_concat_getLast hne, List.map_append]
    rfl
end
section
variable {P : Program} {w : World} {K : PySem.W.Frag} {mg : Str → Option Value} {base : Heap} {T : List Addr} {C : Addr}
def NmT (used : List Str) (pre : List Nat) (k t : Nat) (z : Str) : Prop := ∃ j, j ≤ t ∧ z = nm pre (k + j) ∧ (∀ i, i < j → nm pre (k + i) ∈ used) ∧ (j = t ∨ z ∉ used)
theorem sc__law_name : FnScope ["_law_source", "_law_used", "_law_letters", "_law_turn", "_law_name_here"] ["_law_source", "_law_used"] (defScope s__law_name) := ⟨rfl, rfl, rfl, by decide +kernel, rfl, by decide +kernel, by decide +kernel⟩
theorem ok__law_name {f : Addr} {fd : FuncData} (F : FunD K "_law_name" "_law_name" (defArgs s__law_name) (defBody s__law_name) (defScope s__law_name) [] [] f fd) (hm : mg "_law_name" = some (.ref f)) (B : Blt mg)  (h__law_take : Has P w K mg base "_law_take" ["_law_source", "_law_top"] 1 (spX T (pX__law_take K C))) : Has P w K mg base "_law_name" ["_law_source", "_law_used"] 2 (spX T (pX__law_name K C)) :=
  hasX_of F hm sc__law_name (fun _ _ _ _ _ _ us hl => match us, hl with | [_, _], _ => rfl) (fun _ => rfl) (by decide) fun cdv A outer s H E hr a c D qa hT hX hs q hnx => by
    subst hT
    refine ⟨_, (pss_cons (ps_set (i := 2) sc__law_name.nd rfl (.inr rfl) pe_str)
      (pss_cons (ps_set (i := 4) sc__law_name.nd rfl (.inl rfl) (pe_join pe_str (pe_lc (own := [("_law_turn", 3)]) rfl sc__law_name.nd (pi_range1 (by rfl) B.range (pa_cons (pe_op op_add pe_int (pe_has (h__law_take.mono (by decide)) (hr) (pa_cons (pv 0) (pa_cons pe_int pa_nil)))) pa_nil)) (blkOk_by (own := [("_law_turn", 3)]) (N := ["_law_source", "_law_used", "_law_letters", "_law_turn", "_law_name_here"]) (sc := defScope s__law_name) (by decide +kernel)) (fun _ _ _ _ _ => (pg_name (i := 3) sc__law_name.nd rfl (.inl rfl))) (fun _ _ _ _ _ => pts_nil) (fun _ _ _ _ _ => (pe_ix ix_str (pv 2) (pe_has (h__law_take.mono (by decide)) (hr) (pa_cons (pv 0) (pa_cons pe_int pa_nil))) (fun _ _ => rfl))))))
      (pss_cons (ps_for PassesOwn.never rfl (pi_range1 (by rfl) B.range (pa_cons pe_int pa_nil)) (pg_name (i := 3) sc__law_name.nd rfl (.inl rfl))
      (pss_one (ps_if (pt_cmpR (k_in K) (pv 4) (pv 1) (by rfl)) (pss_one (ps_set (i := 4) sc__law_name.nd rfl (.inl rfl) (pe_op op_add_str (pe_slice sl_str (pv 4) po_none (po_some (pe_un un_neg pe_int))) (pe_ix ix_str (pv 2) (pe_op op_mod (pe_op op_add (k_bm K PySem.F.plainAttrs_str PySem.F.slot_str_index PySem.F.type_str_index mt_sindex (pv 2) (pa_cons (pe_ix ix_str (pv 4) (pe_un un_neg pe_int) (fun _ _ => rfl)) pa_nil)) pe_int) pe_int) (fun _ _ => rfl))))) pss_nil)))
      (pss_one (ps_ret (pv 4)))))), ?_⟩
    change List Str at a
    have fin : FinX c qa (isNm a) D.rt := q
    have hu : a.length ≤ 20 := hs
    refine tri_seq (tri_asg (ev_str (K := K)) ?_)
    refine tri_seq (triM_asg (evM_join (A := fun z => 1 ≤ z ∧ z ≤ 4) (fun z h => h) (fun σ Hs H e Q q => lcS (K := K) (evAM_cons (evM_zw (evM_op (evM_z (evM_of (ev_int (K := K)))) (evM_callX (p := pX__law_take K C) (4 : Int) rfl (evAM_of (evA_cons ev_int evA_nil)) ⟨by decide, by decide⟩) opV_Z) fun z ⟨x, y, h1, h2, h3⟩ => by omega) evAM_nil) (fun z h => by omega) (fun j hj => ?_) (fun c' k hT => ?_) σ Hs H e Q q)) ?_)
    · have : j = 3 := by simpa using hj
      subst this
      exact .inl rfl
    · refine ⟨_, _, tgt_name, by decide, rfl, ?_⟩
      rw [← hT]
      exact evM_op (evM_of (ev_var (i := 2) rfl)) (evM_callX (p := pX__law_take K C) (26 : Int) rfl (evAM_of (evA_cons ev_int evA_nil)) ⟨by decide, by decide⟩) opV_ixSZ
    refine nx_ex (ι := List Nat × Nat) (Pz := fun p => ∃ z, NmP p.1 p.2 z) (R' := fun p => isS (NmT a p.1 p.2 0)) (i := 4) rfl (fun H v ⟨z, ⟨pre, k, h1⟩, h2⟩ => ⟨(pre, k), ⟨z, h1⟩, z, ⟨0, Nat.le_refl _, h1.e, fun i hi => absurd hi (Nat.not_lt_zero _), .inl rfl⟩, h2⟩) fun p hp => ?_
    obtain ⟨pre, k⟩ := p
    obtain ⟨z0, hz0⟩ := hp
    have hpl : pre.length ≤ 3 := hz0.l
    dsimp only
    refine nx_tri (D := D) (tri_seq (tri_for (its_range1 (K := K) (evA_cons ev_int evA_nil) (by decide) (by decide)) (fun t => [.own (ownX (some qa)), .is (isD K (.list (a.map .str))), .is (isD K (.str "abcdefghijklmnopqrstuvwxyz")), .no, .is (isS (NmT a pre k t))]) (by repeat (first | exact Weak.nil | refine Weak.same ?_ | refine Weak.none ?_)) (fun c' t R a1 a2 a3 a4 hR => ?_) ?_))
    · obtain ⟨ht, rfl⟩ := getRng hR
      refine ⟨_, _, tgt_name, fun D' d1 d2 d3 d4 => ?_⟩
      refine nx_tri (D := D') (nx_ex (ι := Nat) (Pz := fun j => NmT a pre k t (nm pre (k + j)) ∧ j ≤ t ∧ (∀ i, i < j → nm pre (k + i) ∈ a) ∧ (j = t ∨ nm pre (k + j) ∉ a)) (R' := fun j => isD K (.str (nm pre (k + j)))) (i := 4) rfl (fun H v ⟨z, ⟨j, h1, h2, h3, h4⟩, h5⟩ => ⟨j, ⟨⟨j, h1, rfl, h3, h2 ▸ h4⟩, h1, h3, h2 ▸ h4⟩, by rw [h5, h2]; exact .str _⟩) fun j hj => ?_)
      obtain ⟨_, hj1, hj2, hj3⟩ := hj
      refine nx_tri (D := D') (tri_if (evT_test (ev_op (ev_var (i := 4) rfl) (ev_var (i := 1) rfl) opV_inS)) (fun hb => ?_) fun hb => ?_)
      · have hm : nm pre (k + j) ∈ a := of_decide_eq_true hb
        have hjt : j = t := by
          rcases hj3 with h | h
          · exact h
          · exact absurd hm h
        have hr := Nat.mod_lt (k + j) (show 26 > 0 by decide)
        refine tri_asg (R := isS (NmT a pre k (t + 1))) (ev_weak (R := isD K (.str (nm pre (k + (j + 1))))) (ev_is (ev_op (ev_init (pre := pre) (k := k + j) (by omega) (ev_var (i := 4) rfl)) (ev_op (ev_var (i := 2) rfl) (ev_op (ev_op (ev_letAt hr (ev_var (i := 2) rfl) (ev_op (ev_var (i := 4) rfl) (ev_un ev_int unV_int) (opV_ixS (by rw [nm_len]; omega) (nm_last pre (k + j))))) ev_int opV_int) ev_int (opV_mod (by decide))) (opV_ixS (k := (k + (j + 1)) % 26) (by decide) (letC_ix (Nat.mod_lt _ (by decide)) _ ?_))) (opV_catS ?_)) ?_) fun H v h => ?_) (nx_weak (by repeat (first | exact Weak.nil | refine Weak.same ?_ | refine Weak.none ?_)) d3)
        · omega
        · show pre.toArray.size + 1 ≤ 1000
          rw [List.size_toArray]; omega
        · rw [nm_app]
        · cases h
          exact ⟨_, ⟨j + 1, by omega, rfl, fun i hi => by
            by_cases e : i = j
            · rw [e]; exact hm
            · exact hj2 i (by omega), .inl (by omega)⟩, rfl⟩
      · have hm : nm pre (k + j) ∉ a := of_decide_eq_false hb
        refine tri_next (nx_ex (ι := Unit) (Pz := fun _ => True) (R' := fun _ => isS (NmT a pre k (t + 1))) (i := 4) rfl (fun H v h => ⟨(), trivial, by
          cases h
          exact ⟨_, ⟨j, by omega, rfl, hj2, .inr hm⟩, rfl⟩⟩) fun _ _ => nx_weak (by repeat (first | exact Weak.nil | refine Weak.same ?_ | refine Weak.none ?_)) d3)
    · have eR : ((List.range (21 : Int).toNat).map fun i : Nat => isD K (.int (0 + (i : Int)))).length = 21 := rfl
      rw [eR]
      refine nx_tri (triM_ret (evM_weak (evM_of (ev_var (i := 4) rfl)) fun H v h => ?_) (finX_of (i := 0) fin rfl))
      obtain ⟨z, ⟨j, h1, h2, h3, h4⟩, h5⟩ := h
      have hz : z ∉ a := by
        rcases h4 with h | h
        · subst h
          exact absurd h3 fun h => nm_free hu h
        · exact h
      exact ⟨z, (NmP.mk hpl hz0.c h2).ok, hz, h5⟩
end
end SD
end
section
set_option maxHeartbeats 4000000
namespace SD
open PySem PySem.Spec PyProof.Rows L2 SM
structure PromO where
  α : Type
  side : α → Prop
  args : α → List Rp
  res : α → Op
def spO (T : List Addr) (p : PromO) : Sp := fun vs H Q _ => ∃ (a : p.α) (Hs : Hp), p.side a ∧ Okk T Hs H ∧ All2 Hs (p.args a) vs ∧ ∀ q o Hs' H', Stp Hs H Hs' H' → H q = none → Hs' q = none → H' q = some o → (p.res a).p Hs' q o → Q (.ref q) H'
def FinO (c : Ctx) (P : Op) (Q : VK) : Prop := ∀ q o Hs' H', StpX c.X c.Hs0 c.H0 Hs' H' → c.H0 q = none → Hs' q = none → H' q = some o → P.p Hs' q o → Q (.ref q) H'
section
variable {K : PySem.W.Frag} {c : Ctx} {E E1 E2 : List Slo} {ta tb te : TE} {R S Z : Rp} {D : Ends}
theorem ev_callO {p : PromO} {t : TA} (a : p.α) (h : EvA c E t (p.args a)) (hs : p.side a) : EvO c E (tCall (spO c.T p) [] E0 t) (p.res a) := fun σ Hs H e Q q => by
  refine h σ Hs H e _ fun vs Hs1 H1 s1 hv => ⟨a, Hs1, hs, e.ok.stp s1, by rw [List.append_nil]; exact hv, fun x o Hs2 H2 s2 n1 n2 ho hP => q x o Hs2 H2 (s1.trans s2) (s1.fresh n1) n2 ho hP⟩
theorem tri_retO {P : Op} (h : EvO c E te P) (k : FinO c P D.rt) : Tri c E (tRet te) D := fun σ Hs H e => h σ Hs H e _ fun p o Hs1 H1 s1 n0 n1 hp hP => k p o Hs1 H1 (e.move s1).stp (e.fresh0 n0) n1 hp hP
theorem evO_weak {P P' : Op} (h : EvO c E te P) (w : ∀ H p o, P.p H p o → P'.p H p o) : EvO c E te P' := fun σ Hs H e Q q => h σ Hs H e _ fun p o Hs1 H1 s1 n0 n1 hp hP => q p o Hs1 H1 s1 n0 n1 hp (w _ _ _ hP)
theorem ev_lr {ds : List PyData} (h : EvO c E te (ownL K ds)) : Ev c E te (isLR K (ds.map (isD K))) := ev_weak (evO_ls h) fun H v ⟨p, vs, e1, h1, h2⟩ => ⟨p, vs, e1, SqL.of h1, All2.of h2⟩
theorem triM_pairO {i j : Nat} (h1 : EvM c E ta R E1) (k : Nx c ((E1.set i (.is R)).set j (.own (ownL K []))) D.nx) : Tri c E (tAsg (tTup (tCons ta (tCons (tLst tNil) tNil))) (gTup K 2 (gCons (gName i) (gCons (gName j) gNil)))) D := fun σ Hs H e =>
  h1 σ Hs H e _ fun v Hs1 H1 x1 e1 hv => ⟨Evl.sz_of (by simp), fun p hp => ⟨Evl.sz_of (by simp), fun t ht => by
    have sp := Stp.newO (o := .lst []) e1.ok.sub hp
    have hne : p ≠ t := fun z => by rw [← z, upd_same] at ht; cases ht
    have n1 : Hs1 p = none := Evl.fresh_back e1.ok.sub hp
    have st := Stp.newO (o := .tup [v, .ref p]) sp.i ht
    refine ⟨t, [v, .ref p], rfl, SqT.of upd_same, rfl, v, [.ref p], rfl, .ref p, [], rfl, rfl, ?_⟩
    have e3 := ((e1.move sp).move st).set (i := i) hv
    refine k _ Hs1 _ (e3.setO (P := ownL K []) (o := .lst []) (by rw [upd_ne hne, upd_same]) n1 ⟨[], rfl, .nil⟩ (.inl (e1.fresh0 hp)) (fun m Q hm z => ?_) j)
    obtain ⟨q, o, a1, a2, a3, a4, a5⟩ := e1.own m Q (by
      rw [List.getElem?_set] at hm
      split at hm
      · split at hm <;> cases hm
      · exact hm)
    have hmi : i ≠ m := fun zz => by
      subst zz
      rw [List.getElem?_set, if_pos rfl] at hm
      split at hm <;> cases hm
    rw [List.getElem?_set, if_neg hmi, a1] at z
    have : q = p := by cases z; rfl
    rw [this, hp] at a3
    cases a3⟩⟩
theorem triM_appE {ι : Type} {Pz : ι → Prop} {f : ι → PyData} {i : Nat} {ds : List PyData} (hi : E[i]? = some (.own (ownL K ds))) (h : EvM c E te R E) (hR : ∀ H v, R.p H v → ∃ z, Pz z ∧ Dp K H v (f z)) (hl : ds.length < 1000) (k : ∀ z, Pz z → Nx c (E.set i (.own (ownL K (ds ++ [f z])))) D.nx) :
    Tri c E (tDrop (tBM K "list" rAppend (tVar i) (tCons te tNil))) D := fun σ Hs H e => by
  obtain ⟨p, vs, h1, h2, h3, h4⟩ := e.own_at hi
  refine ⟨.ref p, h1, .inl ⟨rfl, vs, SqL.of h3⟩, ?_⟩
  refine h σ Hs H e _ fun v Hs1 H1 x1 e1 hv => ?_
  obtain ⟨z, hz, hd⟩ := hR _ _ hv
  obtain ⟨p', vs', g1, g2, g3, g4⟩ := e1.own_at hi
  rw [h1] at g1
  cases g1
  refine ⟨p, vs', v, rfl, rfl, g3, Evl.sz_lt (by rw [dpAll_length g4]; omega), ?_⟩
  exact k z hz σ Hs1 _ (e1.write hi h1 g3 (fun ps z => by cases z) ⟨vs' ++ [v], rfl, dpAll_append g4 (.cons hd .nil)⟩)
theorem caV_max {ns : List Int} (h : 0 < ns.length) : CaV (rMax K) [isD K (.list (ns.map .int))] (isZ fun z => z ∈ ns ∧ ∀ y ∈ ns, y ≤ z) := fun vs Hs H e hv Q q => by
  cases hv with
  | cons a b =>
    cases b
    have a' : Dp K Hs _ (.list (ns.map .int)) := a
    cases a' with
    | @lst p ys _ hs ha =>
      have allI : ∀ {ys : List V} {ns : List Int}, DpAll K Hs ys (ns.map PyData.int) → ys = ns.map V.int := fun {ys ns} => by
        induction ns generalizing ys with
        | nil => intro h; cases h; rfl
        | cons n ns ih => intro h; cases h with
          | cons x y => cases x; rw [ih y]; rfl
      rw [allI ha] at hs
      exact ⟨p, ns, rfl, Evl.ex_l e hs, h, fun m hm hy => q _ Hs H (StpX.refl e) ⟨m, ⟨hm, hy⟩, rfl⟩⟩
theorem opV_catA {ds es : List PyData} (hl : ds.length + es.length ≤ 100000) : OpV (rCatA K) (isD K (.tuple ds)) (isD K (.tuple es)) (isD K (.tuple (ds ++ es))) := fun x y Hs H e hx hy Q q => by
  cases hx with
  | @tup a vs _ hs ha =>
    cases hy with
    | @tup b ws _ hs2 hb =>
      have l1 := dpAll_length ha
      have l2 := dpAll_length hb
      refine ⟨a, b, vs, ws, rfl, rfl, Evl.ex_t e hs, Evl.ex_t e hs2, Evl.sz_of (by omega), fun z => ?_, fun _ z => ?_, fun _ _ p hp => ?_⟩
      · subst z
        have : ds = [] := List.length_eq_zero_iff.mp l1.symm
        subst this
        exact q _ Hs H (StpX.refl e) (.tup hs2 hb)
      · subst z
        have : es = [] := List.length_eq_zero_iff.mp l2.symm
        subst this
        rw [List.append_nil] at q
        exact q _ Hs H (StpX.refl e) (.tup hs ha)
      · have s := Stp.new (o := .tup (vs ++ ws)) e hp
        exact q _ _ _ s (.tup (SqT.of upd_same) (dpAll_append (dpAll_ex s.s _ _ ha) (dpAll_ex s.s _ _ hb)))
theorem dpAll_take {H : Hp} : ∀ {vs : List V} {ds : List PyData} (n : Nat), DpAll K H vs ds → DpAll K H (vs.take n) (ds.take n)
  | _, _, 0, _ => by rw [List.take_zero, List.take_zero]; exact .nil
  | _, _, n + 1, .nil => .nil
  | _, _, n + 1, .cons x y => .cons x (dpAll_take n y)
theorem dpAll_drop {H : Hp} : ∀ {vs : List V} {ds : List PyData} (n : Nat), DpAll K H vs ds → DpAll K H (vs.drop n) (ds.drop n)
  | _, _, 0, h => h
  | _, _, n + 1, .nil => .nil
  | _, _, n + 1, .cons x y => dpAll_drop n y
theorem rSlA_of {ds : List PyData} {a b : Nat} {lo hi : Option Int} {v : V} {Hs H : Hp} (e : Ex Hs H) (hv : Dp K Hs v (.tuple ds)) (h1 : HT.sIx ds.length 0 lo = a) (h2 : HT.sIx ds.length ds.length hi = b) {Q : VK} (q : ∀ v Hs' H', Stp Hs H Hs' H' → Dp K Hs' v (.tuple ((ds.drop a).take (b - a))) → Q v H') : rSlA K v lo hi H Q := by
  cases hv with
  | @tup p vs _ hs ha =>
    have l := dpAll_length ha
    refine ⟨p, vs, rfl, Evl.ex_t e hs, fun z => ?_, fun _ p' hp => ?_⟩
    · rw [l, h1, h2] at z
      obtain ⟨rfl, rfl⟩ := z
      refine q _ Hs H (StpX.refl e) ?_
      rw [List.drop_zero, Nat.sub_zero, List.take_length]
      exact .tup hs ha
    · unfold cutV
      rw [l, h1, h2]
      have s := Stp.new (o := .tup ((vs.drop a).take (b - a))) e hp
      exact q _ _ _ s (.tup (SqT.of upd_same) (dpAll_ex s.s _ _ (dpAll_take _ (dpAll_drop _ ha))))
theorem ev_upto {ds : List PyData} {k : Nat} (h : Ev c E te (isD K (.tuple ds))) (h2 : Ev c E ta (isD K (.int (k : Nat)))) (hk : k ≤ ds.length) : Ev c E (tSl (rSlA K) te tNoPart (tPart ta)) (isD K (.tuple (ds.take k))) := fun σ Hs H e Q q => h σ Hs H e _ fun v Hs1 H1 s1 hv => h2 σ Hs1 H1 (e.move s1) _ fun u Hs2 H2 s2 hu => by
  cases hu
  refine ⟨(k : Int), rfl, rSlA_of (a := 0) (b := k) s2.i (dp_ex s2.s _ _ hv) rfl ?_ fun v Hs' H' s3 h3 => q v Hs' H' (s1.trans (s2.trans s3)) ?_⟩
  · rw [HT.sIx_nat]; omega
  · rw [List.drop_zero, Nat.sub_zero] at h3; exact h3
theorem ev_from {ds : List PyData} {k : Nat} (h : Ev c E te (isD K (.tuple ds))) (h2 : Ev c E ta (isD K (.int (k : Nat)))) (hk : k ≤ ds.length) : Ev c E (tSl (rSlA K) te (tPart ta) tNoPart) (isD K (.tuple (ds.drop k))) := fun σ Hs H e Q q => h σ Hs H e _ fun v Hs1 H1 s1 hv => h2 σ Hs1 H1 (e.move s1) _ fun u Hs2 H2 s2 hu => by
  cases hu
  refine ⟨(k : Int), rfl, rSlA_of (a := k) (b := ds.length) s2.i (dp_ex s2.s _ _ hv) ?_ rfl fun v Hs' H' s3 h3 => q v Hs' H' (s1.trans (s2.trans s3)) ?_⟩
  · rw [HT.sIx_nat]; omega
  · rw [List.take_of_length_le (by rw [List.length_drop]; exact Nat.le_refl _)] at h3; exact h3
end
theorem k_catA {X : Cx} (K : PySem.W.Frag) (h : X.K = K := by rfl) : OpR X (binaryOp .Add) (rCatA K) := by subst h; exact op_catA
section
variable {P : Program} {w : World} {K : PySem.W.Frag} {mg : Str → Option Value} {base : Heap} {T : List Addr}
theorem hasO_of {x qual : Str} {params : Arguments} {body : List Stmt} {scope : Scope} {f : Addr} {fd : FuncData} {N ps : List Str} {k : Nat} {p : PromO} (F : FunD K x qual params body scope [] [] f fd) (hm : mg x = some (.ref f)) (S : FnScope N ps scope)
    (bd : ∀ (kV doc pm : Value) (an : Option Addr) (cdv ct : Value) (us : List Value), us.length = ps.length → bindArgs (PySem.W.fnOf x qual params body scope .none kV doc pm an cdv ct) ⟨us, []⟩ = pure (ps.zip us))
    (hl : ∀ a, (p.args a).length = ps.length) (hN : ps.length ≤ N.length)
    (hbody : ∀ (cdv : Value) (A : Around) (outer : List Env) (s : Shared) (H : Hp) (E : XK), Room k (A.deeper (envOfC qual scope s.heap.objs.size f cdv)) →
      ∀ (a : p.α) (c : Ctx) (D : Ends), c.T = T → c.X = [] → p.side a → FinO c (p.res a) D.rt → D.nx = (fun _ H' => D.rt .non H') →
        ∃ t, PSs (cxOf CX0 P w K mg base N qual scope f cdv A outer s H E).nox body t ∧ Tri c (entryE (p.args a) N.length) t D) : Has P w K mg base x ps (k + 1) (spO T p) := by
  refine ⟨f, fd, hm, F.kp, F.bindsN bd, F.ok S (fun vs H Q E h => ?_) (fun cdv A outer s H vs Q E hr h => ?_)⟩
  · obtain ⟨a, Hs, _, _, hv, _⟩ := h
    rw [hv.length, hl]
  · obtain ⟨a, Hs, hs, ok, hv, q⟩ := h
    obtain ⟨t, h1, h2⟩ := hbody cdv A outer s H E hr a ⟨T, [], Hs, H, fun _ => True, fun _ _ => trivial⟩ { nx := fun _ H' => Q .non H', rt := Q } rfl rfl hs (fun q' o Hs' H' st n0 n1 ho hP => q q' o Hs' H' st n0 n1 ho hP) rfl
    exact ⟨t, h1.nox, h2 _ Hs H (sat_start (c := ⟨T, [], Hs, H, fun _ => True, fun _ _ => trivial⟩) ok trivial hv (by rw [hl]; exact hN))⟩
end
end SD
end
section
set_option maxHeartbeats 4000000
set_option exponentiation.threshold 100000
namespace SD
open PySem PySem.Spec PyProof.Rows L2 SH SM RZ
section
def pO__law_pool (K : PySem.W.Frag) (C : Addr) : PromO := ⟨List Int, fun _ => True, fun a => [isD K (.list (a.map .int)), isD K (.int 0)], fun a => ownX none⟩
variable {P : Program} {w : World} {K : PySem.W.Frag} {mg : Str → Option Value} {base : Heap} {T : List Addr} {C : Addr}
theorem sc__law_pool : FnScope ["_law_script", "_law_k", "_law_cell", "_law_big", "_law_mixed"] ["_law_script", "_law_k"] (defScope s__law_pool) := ⟨rfl, rfl, rfl, by decide +kernel, rfl, by decide +kernel, by decide +kernel⟩
theorem ok__law_pool {f : Addr} {fd : FuncData} (F : FunD K "_law_pool" "_law_pool" (defArgs s__law_pool) (defBody s__law_pool) (defScope s__law_pool) [] [] f fd) (hm : mg "_law_pool" = some (.ref f)) (B : Blt mg)   : Has P w K mg base "_law_pool" ["_law_script", "_law_k"] 1 (spO T (pO__law_pool K C)) :=
  hasO_of F hm sc__law_pool (fun _ _ _ _ _ _ us hl => match us, hl with | [_, _], _ => rfl) (fun _ => rfl) (by decide) fun cdv A outer s H E hr a c D hT hX hs q hnx => by
    subst hT
    refine ⟨_, (pss_cons (ps_set (i := 2) sc__law_pool.nd rfl (.inl rfl) pe_int)
      (pss_cons (ps_if (pt_cmpR op_lt (pv 1) (pe_callB (k_len K) (by rfl) B.len (by decide +kernel) (pa_cons (pv 0) pa_nil)) (nomark _)) (pss_one (ps_set (i := 2) sc__law_pool.nd rfl (.inl rfl) (pe_ix (k_ixL K) (pv 0) (pv 1) (fun _ _ => rfl)))) (pss_one (ps_if (pt_truth (pv 0) (by intro _; rfl)) (pss_one (ps_set (i := 2) sc__law_pool.nd rfl (.inl rfl) (pe_ix (k_ixL K) (pv 0) pe_int (fun _ _ => rfl)))) pss_nil)))
      (pss_cons (ps_set (i := 3) sc__law_pool.nd rfl (.inl rfl) (pe_callB (call_max2 rfl) (by rfl) B.max (by decide +kernel) (pa_cons (pe_callTy call_int1 (by rfl) B.int (by decide +kernel) (pa_cons (pv 2) pa_nil)) (pa_cons (pe_callTy call_int1 (by rfl) B.int (by decide +kernel) (pa_cons (pe_op op_sub (pe_un un_neg pe_int) (pv 2)) pa_nil)) pa_nil))))
      (pss_cons (ps_set (i := 4) sc__law_pool.nd rfl (.inl rfl) (pe_op op_mod (pe_callTy call_int1 (by rfl) B.int (by decide +kernel) (pa_cons (pe_op op_mulW (pe_op op_add (pe_op op_add (pe_op op_add (pe_op op_mod (pe_callTy call_int1 (by rfl) B.int (by decide +kernel) (pa_cons (pv 3) pa_nil)) pe_int) (pe_op op_mulW (pe_op op_mulW pe_int (pv 1)) (pv 1))) (pe_op op_mulW pe_int (pv 1))) pe_int) pe_int) pa_nil)) pe_int))
      (pss_one (ps_ret (pe_lst (pa_cons (pe_op op_mul (pv 3) (pe_callTy call_int1 (by rfl) B.int (by decide +kernel) (pa_cons (pe_cmpR op_ge (pv 3) (pe_op op_pow pe_int pe_int) (nomark _)) pa_nil))) (pa_cons (pv 4) pa_nil))))))))), ?_⟩
    change List Int at a
    have hb := big_nn (cell a 0)
    refine tri_seq (tri_asg (ev_int (K := K)) ?_)
    have step : ∀ (c : Ctx) (D : Ends) (k : Nx c [.is (isD K (.list (a.map .int))), .is (isD K (.int 0)), .is (isD K (.int (cell a 0))), .no, .no] D.nx), Tri c ((entryE ((pO__law_pool K C).args a) ["_law_script", "_law_k", "_law_cell", "_law_big", "_law_mixed"].length).set 2 (.is (isD K (.int 0)))) (tIfS (tTest (tOp (rI0 fun i j => .bl (decide (i < j))) (tVar 1) (tCB (rLenV K) (tCons (tVar 0) tNil)))) (tAsg (tOp (rIxL K) (tVar 0) (tVar 1)) (gName 2)) (tIfS (tTru K (tVar 0)) (tAsg (tOp (rIxL K) (tVar 0) (tC (.int 0))) (gName 2)) tNext)) D := fun c D k => by
      refine tri_if (evT_test (ev_op (ev_var (i := 1) rfl) (ev_CB (evA_cons (ev_var (i := 0) rfl) evA_nil) (caV_lenL (ds := a.map .int))) opV_bool)) (fun hb1 => ?_) fun hb1 => ?_
      · have hl : 0 < a.length := by have := of_decide_eq_true hb1; rw [List.length_map] at this; omega
        have e : a[0]? = some (cell a 0) := by
          unfold cell
          rw [if_pos hl, List.getD_eq_getElem?_getD, List.getElem?_eq_getElem hl]; rfl
        refine tri_asg (ev_op (ev_var (i := 0) rfl) (ev_var (i := 1) rfl) (opV_ixLM (n := 0) rfl e)) (nx_weak (by repeat (first | exact Weak.nil | refine Weak.same ?_ | refine Weak.none ?_)) k)
      · have hl : a = [] := by have := of_decide_eq_false hb1; rw [List.length_map] at this; exact List.length_eq_zero_iff.mp (by omega)
        subst hl
        refine tri_ifF (evT_is (evT_truthL (ev_var (i := 0) rfl)) rfl) (tri_next (nx_weak (by repeat (first | exact Weak.nil | refine Weak.same ?_ | refine Weak.none ?_)) k))
    refine tri_seq (step c _ ?_)
    refine nx_tri (tri_seq (tri_asg (ev_CB (evA_cons (ev_CB (evA_cons (ev_var (i := 2) rfl) evA_nil) caV_int) (evA_cons (ev_CB (evA_cons (ev_op (ev_un (ev_int (K := K)) unV_int) (ev_var (i := 2) rfl) opV_int) evA_nil) caV_int) evA_nil)) caV_max2) ?_))
    have hm : (bigOf (cell a 0) % 2147483629).natAbs < 2 ^ 32 := by
      have h1 := Int.emod_nonneg (bigOf (cell a 0)) (show (2147483629 : Int) ≠ 0 by decide)
      have h2 := Int.emod_lt_of_pos (bigOf (cell a 0)) (show (0 : Int) < 2147483629 by decide)
      omega
    refine tri_seq (tri_asg (ev_op (ev_CB (evA_cons (ev_op (ev_op (ev_op (ev_op (ev_op (ev_CB (evA_cons (ev_is (d' := .int (bigOf (cell a 0))) (ev_var rfl) rfl) evA_nil) caV_int) ev_int (opV_mod (by decide))) (ev_op (ev_op ev_int (ev_var (i := 1) rfl) (opV_mulW (mulW_of 16 16 (by decide) (by decide)))) (ev_var (i := 1) rfl) (opV_mulW (mulW_of 16 16 (by decide) (by decide)))) opV_int) (ev_op ev_int (ev_var (i := 1) rfl) (opV_mulW (mulW_of 16 16 (by decide) (by decide)))) opV_int) ev_int opV_int) ev_int (opV_mulW (mulW_of 40 16 (by omega) (by decide)))) evA_nil) caV_int) ev_int (opV_mod (by decide))) ?_)
    refine tri_retO (evO_weak (evO_lst (ds := [.int (bigOf (cell a 0) * (if decide (bigOf (cell a 0) ≥ 10 ^ 18) = true then 1 else 0)), .int (((bigOf (cell a 0) % 2147483629 + 7919 * 0 * 0 + 31 * 0 + 17) * 48271) % 2147483647)]) (evA_cons (ev_op (ev_is (d' := .int (bigOf (cell a 0))) (ev_var rfl) rfl) (ev_CB (evA_cons (ev_op (ev_is (d' := .int (bigOf (cell a 0))) (ev_var rfl) rfl) (ev_op ev_int ev_int (opV_intC (C := CPow) ⟨by decide, by decide, by decide⟩)) opV_bool) evA_nil) caV_intB) (opV_intC (C := CMul) (.inr ?_))) (evA_cons (ev_var rfl) evA_nil))) fun H p o h => ?_) q
    · split <;> decide
    · have e : dS (pool a 0) = [.int (bigOf (cell a 0) * (if decide (bigOf (cell a 0) ≥ 10 ^ 18) = true then 1 else 0)), .int (((bigOf (cell a 0) % 2147483629 + 7919 * 0 * 0 + 31 * 0 + 17) * 48271) % 2147483647)] := by
        unfold dS pool
        simp
      obtain ⟨vs, rfl, hd⟩ := h
      refine ⟨(fun z hz => by cases hz), pool a 0, pool_ok a 0, ?_⟩
      rw [← e] at hd
      cases hd with
      | cons x y => cases x; cases y with
        | cons x y => cases x; cases y; rfl
end
end SD
end
section
namespace SD
open SM
theorem wsum_dns (pl : List Nat) (n : Nat) (j : Nat) : ∀ L : Lot, wsum (fun y => if pl.getD y 0 = j then 1 else 0) L = ((wK (pk pl L) (j : Int) : Nat) : Rat)
  | [] => rfl
  | p :: L => by
    show (p.2 : Rat) * (if pl.getD p.1 0 = j then 1 else 0) + wsum _ L = (((if ((pl.getD p.1 0 : Nat) : Int) = (j : Int) then p.2 else 0) + wK (pk pl L) (j : Int) : Nat) : Rat)
    rw [wsum_dns pl n j L, Rat.natCast_add]
    by_cases h : pl.getD p.1 0 = j
    · rw [if_pos h, if_pos (by rw [h])]; grind
    · rw [if_neg h, if_neg (by omega)]; grind
theorem wsum_cong {f h : Nat → Rat} : ∀ {L : Lot}, (∀ p ∈ L, f p.1 = h p.1) → wsum f L = wsum h L
  | [], _ => rfl
  | p :: L, e => by
    show (p.2 : Rat) * f p.1 + wsum f L = (p.2 : Rat) * h p.1 + wsum h L
    rw [e p (List.mem_cons_self ..), wsum_cong fun q hq => e q (List.mem_cons_of_mem _ hq)]
theorem push_dns {π : Nat → Nat} {L M : Lot} (h : PushTo π L M) {pl ql : List Nat} {n : Nat} (hp : ∀ p ∈ L, pl.getD p.1 0 = π p.1) (hq : ∀ p ∈ M, ql.getD p.1 0 = p.1) : dns pl n L = dns ql n M := by
  unfold dns
  apply List.map_congr_left
  intro j _
  have e1 := wsum_dns pl n j L
  have e2 := wsum_dns ql n j M
  rw [wsum_cong (h := fun y => if π y = j then 1 else 0) fun p hm => by rw [hp p hm]] at e1
  rw [wsum_cong (h := fun y => if y = j then 1 else 0) fun p hm => by rw [hq p hm]] at e2
  have e3 := h.sum fun y => if y = j then 1 else 0
  rw [e1, e2] at e3
  rw [Rat.natCast_inj.mp e3, h.whole]
theorem range_getD {n k : Nat} (h : k < n) : (List.range n).getD k 0 = k := by
  rw [List.getD_eq_getElem?_getD, List.getElem?_range h]; rfl
theorem _root_.SM.LotOk.pu {n : Nat} {L : Lot} (h : LotOk n L) {pl : List Nat} (hl : n ≤ pl.length) : PuOk pl L := by
  refine ⟨h.len, fun p hp => Nat.lt_of_lt_of_le (h.lt p hp) hl, ?_, h.whole⟩
  cases L with
  | nil => exact absurd rfl h.ne
  | cons p L =>
    have := h.pos p (List.mem_cons_self ..)
    show 0 < p.2 + wh L
    omega
theorem _root_.SM.LotOk.dn {n k : Nat} {L : Lot} (h : LotOk n L) {pl : List Nat} (hl : n ≤ pl.length) (hk : ∀ p ∈ pl, p < k) : DnOk pl k L := by
  refine ⟨h.pu hl, fun p hp => ?_, h.pos⟩
  have h2 : p.1 < pl.length := Nat.lt_of_lt_of_le (h.lt p hp) hl
  rw [List.getD_eq_getElem?_getD, List.getElem?_eq_getElem h2]
  exact hk _ (List.getElem_mem _)
theorem row_none {b : Bd} (g : GB b) {x : Nat} (h : ¬ x < b.size) : b.row x = [] := by
  unfold Bd.row
  rw [List.getD_eq_getElem?_getD, List.getElem?_eq_none (by rw [g.len]; unfold Bd.size at h; omega)]; rfl
theorem row_12 {b : Bd} (g : GB b) (x : Nat) : (b.row x).length ≤ 12 := by
  by_cases h : x < b.size
  · exact g.rows _ (List.mem_of_getElem? (row_get g h))
  · rw [row_none g h]; exact Nat.zero_le _
theorem map_ok {b s : Bd} (gb : GB b) (gs : GB s) {pl : List Nat} (hl : pl.length = b.size) (hk : ∀ p ∈ pl, p < s.size) : MapOk b s pl :=
  ⟨gb, gs, hl, hk, row_12 gb, row_12 gs, fun x L h => (gb.row_mem h).pu (by omega), fun x L h => (gs.row_mem h).pu (by rw [List.length_range]; exact Nat.le_refl _)⟩
theorem zip_iff {pl : List Nat} {n : Nat} (hl : pl.length = n) {Pr : Nat → Nat → Prop} : (∀ p ∈ pl.zipIdx, Pr p.2 p.1) ↔ ∀ y, y < n → Pr y (pl.getD y 0) := by
  constructor
  · intro h y hy
    have : pl[y]? = some (pl.getD y 0) := by rw [List.getD_eq_getElem?_getD, List.getElem?_eq_getElem (by omega)]; rfl
    exact h (pl.getD y 0, y) (List.mem_zipIdx_iff_getElem?.mpr this)
  · intro h p hp
    have h2 := List.mem_zipIdx_iff_getElem?.mp hp
    have h3 := (List.getElem?_eq_some_iff.mp h2).1
    have := h p.2 (by omega)
    rwa [List.getD_eq_getElem?_getD, h2] at this
def SameD (b s : Bd) (pl ql : List Nat) (n x y : Nat) : Prop := b.pay x = s.pay y ∧ ∀ r, r ∈ (b.row x).map (dns pl n) ↔ r ∈ (s.row y).map (dns ql n)
theorem same_iff {b s : Bd} (gb : GB b) (gs : GB s) {pl : List Nat} (hl : pl.length = b.size) (hk : ∀ p ∈ pl, p < s.size) {x y : Nat} : Same b s pl (List.range s.size) x y ↔ SameD b s pl (List.range s.size) s.size x y :=
  and_congr Iff.rfl (img_psh (n := s.size) (fun L h => (gb.row_mem h).dn (by omega) hk) fun L h => (gs.row_mem h).dn (by rw [List.length_range]; exact Nat.le_refl _) fun p hp => List.mem_range.mp hp)
theorem mapB_eq {b s : Bd} (gb : GB b) (gs : GB s) {pl : List Nat} (hl : pl.length = b.size) (hk : ∀ p ∈ pl, p < s.size) : mapB b s pl = dcB (∀ y, y < b.size → SameD b s pl (List.range s.size) s.size y (pl.getD y 0)) := by
  rw [Bool.eq_iff_iff]
  unfold mapB
  rw [dcB_iff, dcB_iff, zip_iff hl (Pr := fun x y => Same b s pl (List.range s.size) x y)]
  exact forall_congr' fun y => forall_congr' fun _ => same_iff gb gs hl hk
theorem mapB_to {b s : Bd} (gb : GB b) (gs : GB s) {π : Nat → Nat} (m : MapTo b s π) : mapB b s ((List.range b.size).map π) = true := by
  have hl : ((List.range b.size).map π).length = b.size := by simp
  have hk : ∀ p ∈ (List.range b.size).map π, p < s.size := fun p hp => by
    obtain ⟨x, hx, rfl⟩ := List.mem_map.mp hp
    exact m.to x (List.mem_range.mp hx)
  have at_ : ∀ y, y < b.size → ((List.range b.size).map π).getD y 0 = π y := fun y hy => by
    rw [List.getD_eq_getElem?_getD, List.getElem?_map, List.getElem?_range hy]; rfl
  rw [mapB_eq gb gs hl hk, dcB_iff]
  intro y hy
  rw [at_ y hy]
  refine ⟨m.pay y hy, img_iff.mpr ⟨fun L hL => ?_, fun M hM => ?_⟩⟩
  · obtain ⟨k, hk2⟩ := List.getElem?_of_mem hL
    have h1 := (List.getElem?_eq_some_iff.mp hk2).1
    have h2 : k < (s.row (π y)).length := by rw [← m.len y hy]; exact h1
    have hM := List.getElem?_eq_getElem h2
    refine ⟨_, List.mem_of_getElem? hM, push_dns (m.push y hy k L _ hk2 hM) (fun p hp => at_ _ ((gb.row_mem hL).lt p hp)) fun p hp => range_getD ((gs.row_mem (List.mem_of_getElem? hM)).lt p hp)⟩
  · obtain ⟨k, hk2⟩ := List.getElem?_of_mem hM
    have h1 := (List.getElem?_eq_some_iff.mp hk2).1
    have h2 : k < (b.row y).length := by rw [m.len y hy]; exact h1
    have hL := List.getElem?_eq_getElem h2
    refine ⟨_, List.mem_of_getElem? hL, push_dns (m.push y hy k _ M hL hk2) (fun p hp => at_ _ ((gb.row_mem (List.mem_of_getElem? hL)).lt p hp)) fun p hp => range_getD ((gs.row_mem hM).lt p hp)⟩
end SD
end
section
set_option maxHeartbeats 8000000
set_option exponentiation.threshold 100000
namespace SD
open PySem PySem.Spec PyProof.Rows L2 SH SM RZ
section
def p_law (K : PySem.W.Frag) (C : Addr) : Prom := ⟨List Int, fun _ => True, fun a => [isD K (.list (a.map .int))], fun _ => isD K (.bool true)⟩
structure TsOk (ts : List Tb) : Prop where
  few : ts.length ≤ 3
  dr : ∀ t ∈ ts, TbDr t
  nd : (ts.map Tb.name).Nodup
theorem made_none (n : Nat) : made (fun _ => none) n = [] := by unfold made; rw [List.filterMap_eq_nil_iff]; exact fun _ _ => rfl
theorem a_or {c : Ctx} {E : List Slo} {t u : TT} {a : Bool} (h1 : EvT c E t false) (h2 : EvT c E u a) : EvT c E (tOr t u) a := evT_is (evT_or h1 fun _ => h2) (by simp)
variable {P : Program} {w : World} {K : PySem.W.Frag} {mg : Str → Option Value} {base : Heap} {T : List Addr} {C : Addr}
theorem fnOk_of {x qual : Str} {params : Arguments} {body : List Stmt} {scope : Scope} {f : Addr} {fd : FuncData} {N ps : List Str} {k : Nat} {p : Prom} (F : FunD K x qual params body scope [] [] f fd) (S : FnScope N ps scope)
    (hl : ∀ a, (p.args a).length = ps.length) (hN : ps.length ≤ N.length)
    (hbody : ∀ (cdv : Value) (A : Around) (outer : List Env) (s : Shared) (H : Hp) (E : XK), Room k (A.deeper (envOfC qual scope s.heap.objs.size f cdv)) →
      ∀ (a : p.α) (c : Ctx) (D : Ends), c.T = T → c.X = [] → p.side a → Fin c (p.res a) D.rt → D.nx = (fun _ H' => D.rt .non H') →
        ∃ t, PSs (cxOf CX0 P w K mg base N qual scope f cdv A outer s H E).nox body t ∧ Tri c (entryE (p.args a) N.length) t D) : FnOk P w K mg base CX0 (k + 1) f fd ps (spOf T p) := by
  refine F.ok S (fun vs H Q E h => ?_) (fun cdv A outer s H vs Q E hr h => ?_)
  · obtain ⟨a, Hs, _, _, hv, _⟩ := h
    rw [hv.length, hl]
  · obtain ⟨a, Hs, hs, ok, hv, q⟩ := h
    obtain ⟨t, h1, h2⟩ := hbody cdv A outer s H E hr a ⟨T, [], Hs, H, fun _ => True, fun _ _ => trivial⟩ { nx := fun _ H' => Q .non H', rt := Q } rfl rfl hs (fun v Hs' H' st hR => q v Hs' H' st hR) rfl
    exact ⟨t, h1.nox, h2 _ Hs H (sat_start (c := ⟨T, [], Hs, H, fun _ => True, fun _ _ => trivial⟩) ok trivial hv (by rw [hl]; exact hN))⟩
theorem sc_law : FnScope ["_law_script", "_law_source", "_law_goal", "_law_tables", "_law_turn", "_law_house", "_law_high", "_law_many", "_law_great", "_law_small_board", "_law_board", "_law_small", "_law_told", "_law_y", "_law_places", "_law_at", "_law_other", "_law_bent", "_law_own", "_law_is_so", "_law_one_here", "_law_table_here"] ["_law_script"] (defScope s_law) := ⟨rfl, rfl, rfl, by decide +kernel, rfl, by decide +kernel, by decide +kernel⟩
theorem ok_law {f : Addr} {fd : FuncData} (F : FunD K "law" "law" (defArgs s_law) (defBody s_law) (defScope s_law) [] [] f fd) (hm : mg "law" = some (.ref f)) (B : Blt mg) (BB : BF K C) (h__law_pool : Has P w K mg base "_law_pool" ["_law_script", "_law_k"] 1 (spO T (pO__law_pool K C))) (h__law_one : Has P w K mg base "_law_one" ["_law_source", "_law_things"] 2 (spX T (pX__law_one K C))) (h__law_times : Has P w K mg base "_law_times" ["_law_house", "_law_many"] 1 (spOf T (p__law_times K C))) (h__law_take : Has P w K mg base "_law_take" ["_law_source", "_law_top"] 1 (spX T (pX__law_take K C))) (h_laid : Has P w K mg base "laid" ["house", "pays"] 7 (spOf T (p_laid K C))) (h_worth : Has P w K mg base "worth" ["board"] 6 (spOf T (p_worth K C))) (h_is_map : Has P w K mg base "is_map" ["board", "other", "places"] 5 (spOf T (p_is_map K C))) (h__law_table : Has P w K mg base "_law_table" ["_law_source", "_law_used"] 4 (spX T (pX__law_table K C))) (h_goal_pays : Has P w K mg base "goal_pays" ["goal"] 2 (spOf T (p_goal_pays K C))) (h__law_is_function : Has P w K mg base "_law_is_function" ["_law_thing", "_law_size"] 3 (spOf T (p__law_is_function K C))) (h__law_seen : Has P w K mg base "_law_seen" ["_law_board", "_law_places", "_law_x", "_law_size"] 2 (spOf T (p__law_seen K C))) : FnOk P w K mg base CX0 8 f fd ["_law_script"] (spOf T (p_law K C)) :=
  fnOk_of F sc_law (fun _ => rfl) (by decide) fun cdv A outer s H E hr a c D hT hX hs q hnx => by
    subst hT
    refine ⟨_, (pss_cons (ps_set (i := 1) sc_law.nd rfl (.inl rfl) (pe_has (h__law_pool.mono (by decide)) (hr) (pa_cons (pv 0) (pa_cons pe_int pa_nil))))
      (pss_cons (ps_asg (pe_tup (pa_cons (pe_has (h__law_one.mono (by decide)) (hr) (pa_cons (pv 1) (pa_cons (pe_lst (pa_cons pe_int (pa_cons pe_int (pa_cons pe_int (pa_cons pe_int (pa_cons pe_int (pa_cons pe_int (pa_cons pe_int pa_nil)))))))) pa_nil))) (pa_cons (pe_lst pa_nil) pa_nil))) (k_tup K 2 (pgs_cons (pg_name (i := 2) sc_law.nd rfl (.inr rfl)) (pgs_cons (pg_name (i := 3) sc_law.nd rfl (.inl rfl)) pgs_nil))))
      (pss_cons (ps_for PassesOwn.never rfl (pi_range1 (by rfl) B.range (pa_cons (pe_has (h__law_take.mono (by decide)) (hr) (pa_cons (pv 1) (pa_cons pe_int pa_nil))) pa_nil)) (pg_name (i := 4) sc_law.nd rfl (.inl rfl))
      (pss_one (ps_expr (k_bm K PySem.F.plainAttrs_list PySem.F.slot_list_append PySem.F.type_list_append mt_append (pv 3) (pa_cons (pe_has (h__law_table.mono (by decide)) (hr) (pa_cons (pv 1) (pa_cons (pe_lc (own := [("_law_table_here", 21)]) rfl sc_law.nd (k_piL K (pv 3)) (blkOk_by (own := [("_law_table_here", 21)]) (N := ["_law_script", "_law_source", "_law_goal", "_law_tables", "_law_turn", "_law_house", "_law_high", "_law_many", "_law_great", "_law_small_board", "_law_board", "_law_small", "_law_told", "_law_y", "_law_places", "_law_at", "_law_other", "_law_bent", "_law_own", "_law_is_so", "_law_one_here", "_law_table_here"]) (sc := defScope s_law) (by decide +kernel)) (fun _ _ _ _ _ => (pg_name (i := 21) sc_law.nd rfl (.inl rfl))) (fun _ _ _ _ _ => pts_nil) (fun _ _ _ _ _ => (pe_ix (k_ixT K) (pv 21) pe_int (fun _ _ => rfl)))) pa_nil))) pa_nil)))))
      (pss_cons (ps_set (i := 5) sc_law.nd rfl (.inl rfl) (pe_tup (pa_cons (pv 2) (pa_cons (pe_callTy (k_tupOf K) (by rfl) B.tuple (by decide +kernel) (pa_cons (pv 3) pa_nil)) pa_nil))))
      (pss_cons (ps_set (i := 6) sc_law.nd rfl (.inr rfl) (pe_callB (k_max K) (by rfl) B.max (by decide +kernel) (pa_cons (pe_op op_cat (pe_lst (pa_cons pe_int pa_nil)) (pe_lc (own := [("_law_table_here", 21)]) rfl sc_law.nd (k_piL K (pv 3)) (blkOk_by (own := [("_law_table_here", 21)]) (N := ["_law_script", "_law_source", "_law_goal", "_law_tables", "_law_turn", "_law_house", "_law_high", "_law_many", "_law_great", "_law_small_board", "_law_board", "_law_small", "_law_told", "_law_y", "_law_places", "_law_at", "_law_other", "_law_bent", "_law_own", "_law_is_so", "_law_one_here", "_law_table_here"]) (sc := defScope s_law) (by decide +kernel)) (fun _ _ _ _ _ => (pg_name (i := 21) sc_law.nd rfl (.inl rfl))) (fun _ _ _ _ _ => pts_nil) (fun _ _ _ _ _ => (pe_ix (k_ixT K) (pv 21) pe_int (fun _ _ => rfl))))) pa_nil)))
      (pss_cons (ps_set (i := 7) sc_law.nd rfl (.inr rfl) (pe_has (h__law_one.mono (by decide)) (hr) (pa_cons (pv 1) (pa_cons (pe_lc (own := [("_law_one_here", 20)]) rfl sc_law.nd (k_piL K (pe_lst (pa_cons pe_int (pa_cons pe_int (pa_cons pe_int (pa_cons pe_int (pa_cons pe_int (pa_cons pe_int pa_nil)))))))) (blkOk_by (own := [("_law_one_here", 20)]) (N := ["_law_script", "_law_source", "_law_goal", "_law_tables", "_law_turn", "_law_house", "_law_high", "_law_many", "_law_great", "_law_small_board", "_law_board", "_law_small", "_law_told", "_law_y", "_law_places", "_law_at", "_law_other", "_law_bent", "_law_own", "_law_is_so", "_law_one_here", "_law_table_here"]) (sc := defScope s_law) (by decide +kernel)) (fun _ _ _ _ _ => (pg_name (i := 20) sc_law.nd rfl (.inl rfl))) (fun _ _ _ _ _ => (pts_one (PW.pt (pw_and (pt_cmpR op_le (pe_op op_mulW (pv 2) (pv 20)) pe_int (nomark _)) (pw_and1 (pt_cmpR op_le (pe_op op_mulW (pv 6) (pv 20)) pe_int (nomark _))))))) (fun _ _ _ _ _ => (pv 20))) pa_nil))))
      (pss_cons (ps_set (i := 8) sc_law.nd rfl (.inl rfl) (pe_has (h__law_times.mono (by decide)) (hr) (pa_cons (pv 5) (pa_cons (pv 7) pa_nil))))
      (pss_cons (ps_par (by rfl) sc_law.nd (i := 9) (j := 10) rfl rfl (by decide) rfl rfl (pa_cons (pe_has (h_laid.mono (by decide)) (hr) (pa_cons (pv 5) (pa_cons (pe_has (h_goal_pays.mono (by decide)) (hr) (pa_cons (pv 2) pa_nil)) pa_nil))) (pa_cons (pe_has (h_laid.mono (by decide)) (hr) (pa_cons (pv 8) (pa_cons (pe_has (h_goal_pays.mono (by decide)) (hr) (pa_cons (pe_op op_mulW (pv 2) (pv 7)) pa_nil)) pa_nil))) pa_nil)) (by rfl))
      (pss_cons (ps_asg (pe_tup (pa_cons (pe_has (h_worth.mono (by decide)) (hr) (pa_cons (pv 9) pa_nil)) (pa_cons (pe_has (h_worth.mono (by decide)) (hr) (pa_cons (pv 10) pa_nil)) pa_nil))) (k_tup K 2 (pgs_cons (pg_name (i := 11) sc_law.nd rfl (.inr rfl)) (pgs_cons (pg_name (i := 12) sc_law.nd rfl (.inr rfl)) pgs_nil))))
      (pss_cons (ps_if (PW.pt (pw_or (pt_not (pt_val (pe_has (h__law_is_function.mono (by decide)) (hr) (pa_cons (pv 12) (pa_cons (pe_op op_add (pe_op op_mulW (pv 2) (pv 7)) pe_int) pa_nil))))) (pw_or1 (pt_not (pt_val (pe_has (h__law_is_function.mono (by decide)) (hr) (pa_cons (pv 11) (pa_cons (pe_op op_add (pv 2) pe_int) pa_nil)))))))) (pss_one (ps_ret pe_bl)) pss_nil)
      (pss_cons (ps_set (i := 14) sc_law.nd rfl (.inr rfl) (pe_callTy (k_tupOf K) (by rfl) B.tuple (by decide +kernel) (pa_cons (pe_lc (own := [("_law_y", 13)]) rfl sc_law.nd (pi_range1 (by rfl) B.range (pa_cons (pe_op op_add (pe_op op_mulW (pv 2) (pv 7)) pe_int) pa_nil)) (blkOk_by (own := [("_law_y", 13)]) (N := ["_law_script", "_law_source", "_law_goal", "_law_tables", "_law_turn", "_law_house", "_law_high", "_law_many", "_law_great", "_law_small_board", "_law_board", "_law_small", "_law_told", "_law_y", "_law_places", "_law_at", "_law_other", "_law_bent", "_law_own", "_law_is_so", "_law_one_here", "_law_table_here"]) (sc := defScope s_law) (by decide +kernel)) (fun _ _ _ _ _ => (pg_name (i := 13) sc_law.nd rfl (.inl rfl))) (fun _ _ _ _ _ => pts_nil) (fun _ _ _ _ _ => (pe_op op_fdivW (pv 13) (pv 7)))) pa_nil)))
      (pss_cons (ps_if (PW.pt (pw_or (pt_cmpR (k_neD K hr.units) (pe_lc (own := [("_law_y", 13)]) rfl sc_law.nd (pi_range1 (by rfl) B.range (pa_cons (pe_op op_add (pe_op op_mulW (pv 2) (pv 7)) pe_int) pa_nil)) (blkOk_by (own := [("_law_y", 13)]) (N := ["_law_script", "_law_source", "_law_goal", "_law_tables", "_law_turn", "_law_house", "_law_high", "_law_many", "_law_great", "_law_small_board", "_law_board", "_law_small", "_law_told", "_law_y", "_law_places", "_law_at", "_law_other", "_law_bent", "_law_own", "_law_is_so", "_law_one_here", "_law_table_here"]) (sc := defScope s_law) (by decide +kernel)) (fun _ _ _ _ _ => (pg_name (i := 13) sc_law.nd rfl (.inl rfl))) (fun _ _ _ _ _ => (pts_one (pt_cmpR (k_neD K hr.units) (pe_ix (k_ixT K) (pv 12) (pv 13) (fun _ _ => rfl)) (pe_ix (k_ixT K) (pv 11) (pe_ix (k_ixT K) (pv 14) (pv 13) (fun _ _ => rfl)) (fun _ _ => rfl)) (nomark _)))) (fun _ _ _ _ _ => (pv 13))) (pe_lst pa_nil) (nomark _)) (pw_or1 (pt_not (pt_val (pe_has (h_is_map.mono (by decide)) (hr) (pa_cons (pv 10) (pa_cons (pv 9) (pa_cons (pv 14) pa_nil))))))))) (pss_one (ps_ret pe_bl)) pss_nil)
      (pss_cons (ps_par (by rfl) sc_law.nd (i := 15) (j := 16) rfl rfl (by decide) rfl rfl (pa_cons (pe_has (h__law_take.mono (by decide)) (hr) (pa_cons (pv 1) (pa_cons (pe_op op_add (pe_op op_mulW (pv 2) (pv 7)) pe_int) pa_nil))) (pa_cons (pe_has (h__law_take.mono (by decide)) (hr) (pa_cons (pv 1) (pa_cons (pe_op op_add (pv 2) pe_int) pa_nil))) pa_nil)) (by rfl))
      (pss_cons (ps_set (i := 17) sc_law.nd rfl (.inl rfl) (pe_op (k_catA K) (pe_op (k_catA K) (pe_slice (k_slT K) (pv 14) po_none (po_some (pv 15))) (pe_tup (pa_cons (pv 16) pa_nil))) (pe_slice (k_slT K) (pv 14) (po_some (pe_op op_add (pv 15) pe_int)) po_none)))
      (pss_cons (ps_par (by rfl) sc_law.nd (i := 18) (j := 19) rfl rfl (by decide) rfl rfl (pa_cons (pe_callTy (k_tupOf K) (by rfl) B.tuple (by decide +kernel) (pa_cons (pe_lc (own := [("_law_y", 13)]) rfl sc_law.nd (pi_range1 (by rfl) B.range (pa_cons (pe_op op_add (pv 2) pe_int) pa_nil)) (blkOk_by (own := [("_law_y", 13)]) (N := ["_law_script", "_law_source", "_law_goal", "_law_tables", "_law_turn", "_law_house", "_law_high", "_law_many", "_law_great", "_law_small_board", "_law_board", "_law_small", "_law_told", "_law_y", "_law_places", "_law_at", "_law_other", "_law_bent", "_law_own", "_law_is_so", "_law_one_here", "_law_table_here"]) (sc := defScope s_law) (by decide +kernel)) (fun _ _ _ _ _ => (pg_name (i := 13) sc_law.nd rfl (.inl rfl))) (fun _ _ _ _ _ => pts_nil) (fun _ _ _ _ _ => (pv 13))) pa_nil)) (pa_cons pe_bl pa_nil)) (by rfl))
      (pss_cons (ps_for PassesOwn.never rfl (pi_range1 (by rfl) B.range (pa_cons (pe_op op_add (pe_op op_mulW (pv 2) (pv 7)) pe_int) pa_nil)) (pg_name (i := 13) sc_law.nd rfl (.inl rfl))
      (pss_one (ps_if (PW.pt (pw_or (pt_cmpR (k_neD K hr.units) (pe_ix (k_ixT K) (k_fld K (pv 10) rfl) (pv 13) (fun _ _ => rfl)) (pe_ix (k_ixT K) (k_fld K (pv 9) rfl) (pe_ix (k_ixT K) (pv 17) (pv 13) (fun _ _ => rfl)) (fun _ _ => rfl)) (nomark _)) (pw_or1 (pt_cmpR (k_neD K hr.units) (pe_has (h__law_seen.mono (by decide)) (hr) (pa_cons (pv 10) (pa_cons (pv 17) (pa_cons (pv 13) (pa_cons (pe_op op_add (pv 2) pe_int) pa_nil))))) (pe_has (h__law_seen.mono (by decide)) (hr) (pa_cons (pv 9) (pa_cons (pv 18) (pa_cons (pe_ix (k_ixT K) (pv 17) (pv 13) (fun _ _ => rfl)) (pa_cons (pe_op op_add (pv 2) pe_int) pa_nil))))) (nomark _))))) (pss_one (ps_set (i := 19) sc_law.nd rfl (.inl rfl) pe_bl)) pss_nil)))
      (pss_one (ps_ret (pe_cmpR op_eq (pe_has (h_is_map.mono (by decide)) (hr) (pa_cons (pv 10) (pa_cons (pv 9) (pa_cons (pv 17) pa_nil)))) (pv 19) (nomark _)))))))))))))))))))), ?_⟩
    change List Int at a
    refine tri_seq (tri_asgO (ev_callO (p := pO__law_pool K C) a (evA_cons (ev_var (i := 0) rfl) (evA_cons ev_int evA_nil)) trivial) ?_)
    refine tri_seq (triM_pairO (R := isZ (· ∈ [(1 : Int), 1, 2, 2, 3, 3, 4])) (evM_weak (evM_callX (p := pX__law_one K C) (([(1 : Int), 1, 2, 2, 3, 3, 4].map PyData.int).map (isD K)) rfl (evAM_cons (evM_ints (evAM_of (evA_cons ev_int (evA_cons ev_int (evA_cons ev_int (evA_cons ev_int (evA_cons ev_int (evA_cons ev_int (evA_cons ev_int evA_nil)))))))) (by decide)) evAM_nil) ⟨by simp, by simp⟩) fun H v h => any_ints h) ?_)
    refine nx_exZ (K := K) (i := 2) rfl fun goal hgoal => ?_
    have hg4 : 1 ≤ goal ∧ goal ≤ 4 := by simp at hgoal; omega
    obtain ⟨g, rfl⟩ : ∃ g : Nat, goal = (g : Int) := ⟨goal.toNat, by omega⟩
    have hg : 1 ≤ g ∧ g ≤ 4 := by omega
    clear hgoal hg4
    refine nx_tri (D := D) (tri_seq (triM_forE (K := K) (ι := List Tb) (A := fun z => 0 ≤ z ∧ z < 4) (fun i ts => ts.length = i ∧ i ≤ 3 ∧ TsOk ts) (fun ts => [.is (isD K (.list (a.map .int))), .own (ownX none), .is (isD K (.int (g : Nat))), .own (ownL K (ts.map dT)), .no, .no, .no, .no, .no, .no, .no, .no, .no, .no, .no, .no, .no, .no, .no, .no, .no, .no]) [] ⟨rfl, by decide, by decide, fun t ht => absurd ht List.not_mem_nil, List.nodup_nil⟩
      (evAM_cons (evM_callX (p := pX__law_take K C) (4 : Int) rfl (evAM_of (evA_cons ev_int evA_nil)) ⟨by decide, by decide⟩) evAM_nil) (fun z h => by omega) (by repeat (first | exact Weak.nil | refine Weak.same ?_ | refine Weak.none ?_)) (fun c' i ts n a1 a2 a3 a4 hn hin hts => ?_) fun n ts hn hts => ?_))
    · refine ⟨_, _, tgt_name, fun D' d1 d2 d3 => ?_⟩
      rw [← a1]
      obtain ⟨h1, h2, h3⟩ := hts
      have hf := h3.few
      refine triM_appE (K := K) (i := 3) (ι := Tb) (Pz := fun t => TbDr t ∧ t.name ∉ ts.map Tb.name) (f := dT) (ds := ts.map dT) rfl (evM_callX (p := pX__law_table K C) (ts.map Tb.name) rfl (evAM_of (evA_cons (ev_is (evO_data (evO_mapO (xs := ts) (gd := dT) (fun t => .str t.name) (its_ownL (i := 3) rfl) (by omega) fun j t ht => ⟨_, _, tgt_name, by decide, ev_op (ev_var rfl) ev_int (opV_ixT (by decide) rfl)⟩)) (by rw [List.map_map]; rfl)) evA_nil)) (show (ts.map Tb.name).length ≤ 20 by rw [List.length_map]; omega)) (fun H v ⟨t, z1, z2, z3⟩ => ⟨t, ⟨z1, z2⟩, z3⟩) (by rw [List.length_map]; omega) fun t ht => nx_weak ?_ (d3 (ts ++ [t]) ?_)
      · rw [List.map_append]
        repeat (first | exact Weak.nil | refine Weak.same ?_ | refine Weak.none ?_)
      · refine ⟨by rw [List.length_append, h1]; rfl, by omega, ⟨by rw [List.length_append]; show ts.length + 1 ≤ 3; omega, fun u hu => ?_, ?_⟩⟩
        · rcases List.mem_append.mp hu with z | z
          · exact h3.dr u z
          · have : u = t := by simpa using z
            rw [this]; exact ht.1
        · rw [List.map_append, List.nodup_append]
          exact ⟨h3.nd, by simp, fun x hx y hy e => ht.2 (by
            have : y = t.name := by simpa using hy
            rw [← this, ← e]; exact hx)⟩
    obtain ⟨_, _, tok⟩ := hts
    have hf := tok.few
    clear hn
    refine nx_freeze 3 rfl hX (nx_tri (tri_seq (tri_asg (ev_is (d' := dH g ts) (ev_tup (ds := [.int (g : Nat), .tuple (ts.map dT)]) (evA_cons (ev_var (i := 2) rfl) (evA_cons (ev_CB (evA_cons (ev_lsD (ev_var (i := 3) rfl)) evA_nil) caV_tupL) evA_nil))) rfl) ?_)))
    refine tri_seq (tri_asg (ev_CB (evA_cons (ev_is (d' := .list (((1 : Int) :: ts.map fun t => (t.high : Int)).map .int)) (evO_data (evO_cat (ds := [.int 1]) (es := ts.map fun t => .int (t.high : Nat)) (evO_ls (evO_lst (evA_cons ev_int evA_nil))) (evO_ls (evO_map (K := K) (xs := ts) (gd := dT) (fun t => .int (t.high : Nat)) (its_list (ev_lsD (ev_var (i := 3) rfl))) (by omega) fun j t ht => ⟨_, _, tgt_name, by decide, evT_tt, ev_op (ev_var rfl) ev_int (opV_ixT (by decide) rfl)⟩)) (by rw [List.length_map, List.length_singleton]; omega))) (by rw [List.map_cons, List.map_map]; rfl)) evA_nil) (caV_max (by simp))) ?_)
    refine nx_exZ (K := K) (i := 6) rfl fun high hhigh => ?_
    have hh1 : 1 ≤ high ∧ high ≤ 14 ∧ ∀ t ∈ ts, (t.high : Int) ≤ high := by
      refine ⟨hhigh.2 1 (List.mem_cons_self ..), ?_, fun t ht => hhigh.2 _ (List.mem_cons_of_mem _ (List.mem_map.mpr ⟨t, ht, rfl⟩))⟩
      rcases List.mem_cons.mp hhigh.1 with z | z
      · omega
      · obtain ⟨t, ht, rfl⟩ := List.mem_map.mp z
        have := (tok.dr t ht).top
        omega
    clear hhigh
    have cond : ∀ x : Int, x ∈ [(1 : Int), 2, 2, 3, 3, 4] → 1 ≤ x ∧ x ≤ 4 := fun x hx => by simp at hx; omega
    refine nx_tri (D := D) (tri_seq (triM_asg (R := isZ fun z => z ∈ [(1 : Int), 2, 2, 3, 3, 4].filter fun x => decide ((g : Int) * x ≤ 9) && decide (high * x ≤ 39)) (evM_weak (evM_callX (p := pX__law_one K C) ((([(1 : Int), 2, 2, 3, 3, 4].filter fun x => decide ((g : Int) * x ≤ 9) && decide (high * x ≤ 39)).map PyData.int).map (isD K)) rfl (evAM_cons (evM_of (ev_lr (evO_filter (K := K) (xs := [(1 : Int), 2, 2, 3, 3, 4]) (gd := .int) (fun x => decide ((g : Int) * x ≤ 9) && decide (high * x ≤ 39)) .int (its_list (evO_data (evO_lst (ds := [.int 1, .int 2, .int 2, .int 3, .int 3, .int 4]) (evA_cons ev_int (evA_cons ev_int (evA_cons ev_int (evA_cons ev_int (evA_cons ev_int (evA_cons ev_int evA_nil))))))))) (by decide) fun i x hx => ⟨_, _, tgt_name, by decide, ?_, fun _ => ev_var rfl⟩))) evAM_nil) ⟨?_, ?_⟩) fun H v h => any_ints h) ?_))
    · have hx4 := cond x (List.mem_of_getElem? hx)
      exact evT_and (evT_test (ev_op (ev_op (ev_var (i := 2) rfl) (ev_var rfl) (opV_mulW (mulW_of 16 16 (by omega) (by omega)))) ev_int opV_bool)) fun _ => evT_test (ev_op (ev_op (ev_var (i := 6) rfl) (ev_var rfl) (opV_mulW (mulW_of 16 16 (by omega) (by omega)))) ev_int opV_bool)
    · rw [List.length_map, List.length_map]
      refine List.length_pos_of_mem (a := (1 : Int)) (List.mem_filter.mpr ⟨by simp, ?_⟩)
      simp
      omega
    · rw [List.length_map, List.length_map]
      exact Nat.lt_of_le_of_lt (List.length_filter_le _ _) (by decide)
    refine nx_exZ (K := K) (i := 7) rfl fun many hmany => ?_
    obtain ⟨m1, m2⟩ := List.mem_filter.mp hmany
    have m4 := cond many m1
    have m5 : (g : Int) * many ≤ 9 ∧ high * many ≤ 39 := by simpa using m2
    obtain ⟨m, rfl⟩ : ∃ m : Nat, many = (m : Int) := ⟨many.toNat, by omega⟩
    have hm : 1 ≤ m ∧ m ≤ 4 := by omega
    have hm9 : g * m ≤ 9 := by
      have := m5.1
      rw [← Int.natCast_mul] at this
      omega
    have hm39 : ∀ t ∈ ts, t.high * m ≤ 39 := fun t ht => by
      have h1 := hh1.2.2 t ht
      have h2 : (t.high : Int) * (m : Int) ≤ high * (m : Int) := Int.mul_le_mul_of_nonneg_right h1 (by omega)
      rw [← Int.natCast_mul] at h2
      omega
    have ok1 : HOk g ts := house_drawn1 hg.1 (by omega) hf tok.dr tok.nd
    have ok2 : HOk (g * m) (ts.map (mulT m)) := house_drawn hg.1 hf tok.dr tok.nd hm.1 hm.2 hm9 hm39
    clear hmany m1 m2 m4 m5 hh1 cond
    have hgm : 1 ≤ g * m := Nat.mul_pos hg.1 hm.1
    have eGM : ((g : Int) * (m : Int)) = ((g * m : Nat) : Int) := (Int.natCast_mul g m).symm
    have gS := house_gb ok1
    have gB := house_gb ok2
    have zS := house_size g ts
    have zB := house_size (g * m) (ts.map (mulT m))
    have mp := house_map ok1 hm.1
    have hwo := fun (F V : Nat → Rat) (hF : IsWorth (houseB (g * m) (ts.map (mulT m))) F) (hV : IsWorth (houseB g ts) V) (x : Nat) (hx : x < g * m + 1) => house_worth ok1 ok2 hm.1 hF hV hx
    refine nx_weak (E' := [.no, .own (ownX none), .is (isD K (.int (g : Nat))), .no, .no, .is (isD K (dH g ts)), .no, .is (isD K (.int (m : Nat))), .no, .no, .no, .no, .no, .no, .no, .no, .no, .no, .no, .no, .no, .no]) (by repeat (first | exact Weak.nil | refine Weak.same ?_ | refine Weak.none ?_)) ?_
    refine nx_tri (tri_seq (tri_asg (ev_call (p := p__law_times K C) (g, ts, m) (evA_cons (ev_var (i := 5) rfl) (evA_cons (ev_var (i := 7) rfl) evA_nil)) ⟨by dsimp only; omega, by dsimp only; omega, by dsimp only; omega, fun t ht => ?_⟩) ?_))
    · have d := tok.dr t ht
      have h1 := d.top
      have h2 := d.low
      have h3 := d.step
      have h4 := d.fee
      exact ⟨by omega, by omega, by omega, by omega⟩
    have prod : ∀ (c2 : Ctx) (E2 : List Slo), E2[2]? = some (.is (isD K (.int (g : Nat)))) → E2[7]? = some (.is (isD K (.int (m : Nat)))) → Ev c2 E2 (tOp (rI CMulW fun i j => .int (i * j)) (tVar 2) (tVar 7)) (isD K (.int ((g * m : Nat) : Int))) := fun c2 E2 z1 z2 => ev_is (ev_op (ev_var (i := 2) z1) (ev_var (i := 7) z2) (opV_mulW (mulW_of 16 16 (by omega) (by omega)))) (by rw [eGM])
    have plus1 : ∀ (c2 : Ctx) (E2 : List Slo), E2[2]? = some (.is (isD K (.int (g : Nat)))) → E2[7]? = some (.is (isD K (.int (m : Nat)))) → Ev c2 E2 (tOp (rI0 fun i j => .int (i + j)) (tOp (rI CMulW fun i j => .int (i * j)) (tVar 2) (tVar 7)) (tC (.int 1))) (isD K (.int ((g * m + 1 : Nat) : Int))) := fun c2 E2 z1 z2 => ev_is (ev_op (prod c2 E2 z1 z2) ev_int opV_int) (by rw [Int.natCast_add]; rfl)
    have gone : ∀ (c2 : Ctx) (E2 : List Slo), E2[2]? = some (.is (isD K (.int (g : Nat)))) → Ev c2 E2 (tOp (rI0 fun i j => .int (i + j)) (tVar 2) (tC (.int 1))) (isD K (.int ((g + 1 : Nat) : Int))) := fun c2 E2 z1 => ev_is (ev_op (ev_var (i := 2) z1) ev_int opV_int) (by rw [Int.natCast_add]; rfl)
    refine tri_seq (tri_par (R := isB K C (houseB g ts)) (S := isB K C (houseB (g * m) (ts.map (mulT m)))) (evA_cons (ev_call (p := p_laid K C) (g, ts) (evA_cons (ev_var (i := 5) rfl) (evA_cons (ev_call (p := p_goal_pays K C) g (evA_cons (ev_var (i := 2) rfl) evA_nil) ⟨hg.1, by omega⟩) evA_nil)) ok1) (evA_cons (ev_call (p := p_laid K C) (g * m, ts.map (mulT m)) (evA_cons (ev_var (i := 8) rfl) (evA_cons (ev_call (p := p_goal_pays K C) (g * m) (evA_cons (prod _ _ rfl rfl) evA_nil) ⟨hgm, by omega⟩) evA_nil)) ok2) evA_nil)) ?_)
    generalize houseB g ts = S at *
    generalize houseB (g * m) (ts.map (mulT m)) = B at *
    refine tri_seq (tri_asgT (ev_tupR (K := K) (Rs := [isWf K S, isWf K B]) (evA_cons (ev_call (p := p_worth K C) S (evA_cons (ev_var (i := 9) rfl) evA_nil) gS) (evA_cons (ev_call (p := p_worth K C) B (evA_cons (ev_var (i := 10) rfl) evA_nil) gB) evA_nil)) (by simp)) (tgt_tupR (n := 2) (tgts_cons tgt_name (tgts_cons tgt_name tgts_nil)) rfl) ?_)
    refine nx_ex (ι := Nat → Rat) (Pz := IsWorth S) (R' := fun F => isD K (dRs (vals S.size F))) (i := 11) rfl (fun H v ⟨F, h1, h2⟩ => ⟨F, h1, h2⟩) fun V hV => ?_
    refine nx_ex (ι := Nat → Rat) (Pz := IsWorth B) (R' := fun F => isD K (dRs (vals B.size F))) (i := 12) rfl (fun H v ⟨F, h1, h2⟩ => ⟨F, h1, h2⟩) fun F hF => ?_
    have hFV := hwo F V hF hV
    refine nx_weak (E' := [.no, .own (ownX none), .is (isD K (.int (g : Nat))), .no, .no, .no, .no, .is (isD K (.int (m : Nat))), .no, .is (isB K C S), .is (isB K C B), .is (isD K (dRs (vals S.size V))), .is (isD K (dRs (vals B.size F))), .no, .no, .no, .no, .no, .no, .no, .no, .no]) (by repeat (first | exact Weak.nil | refine Weak.same ?_ | refine Weak.none ?_)) ?_
    have lv : ∀ (n : Nat) (F : Nat → Rat), (vals n F).length = n := fun n F => by unfold vals; rw [List.length_map, List.length_range]
    have sv : ∀ (n : Nat) (F : Nat → Rat), (∀ x, Sm (F x)) → ∀ q ∈ vals n F, Sm q := fun n F h q hq => by
      unfold vals at hq
      obtain ⟨x, _, rfl⟩ := List.mem_map.mp hq
      exact h x
    have gv : ∀ (n : Nat) (F : Nat → Rat) (y : Nat), y < n → (vals n F)[y]? = some (F y) := fun n F y hy => by
      unfold vals
      rw [List.getElem?_map, List.getElem?_range hy]; rfl
    refine nx_tri (D := D) (tri_seq (tri_ifF (evT_is (evT_or (evT_not (evT_test (ev_call (p := p__law_is_function K C) (vals B.size F) (evA_cons (ev_var (i := 12) rfl) (evA_cons (ev_is (plus1 _ _ rfl rfl) (by rw [lv, zB])) evA_nil)) ⟨by rw [lv]; omega, sv _ _ hF.sm⟩))) fun _ => evT_not (evT_test (ev_call (p := p__law_is_function K C) (vals S.size V) (evA_cons (ev_var (i := 11) rfl) (evA_cons (ev_is (gone _ _ rfl) (by rw [lv, zS])) evA_nil)) ⟨by rw [lv]; omega, sv _ _ hV.sm⟩))) rfl) (tri_next ?_)))
    dsimp only
    have pl_len : ((List.range (g * m + 1)).map (· / m)).length = g * m + 1 := by rw [List.length_map, List.length_range]
    have pl_at : ∀ y, y < g * m + 1 → ((List.range (g * m + 1)).map (· / m))[y]? = some (y / m) := fun y hy => by rw [List.getElem?_map, List.getElem?_range hy]; rfl
    have pl_lt : ∀ p ∈ (List.range (g * m + 1)).map (· / m), p < S.size := fun p hp => by
      obtain ⟨y, hy, rfl⟩ := List.mem_map.mp hp
      exact mp.to y (by rw [zB]; exact List.mem_range.mp hy)
    have mb : mapB B S ((List.range (g * m + 1)).map (· / m)) = true := by
      have := mapB_to gB gS mp
      rw [zB] at this; exact this
    have rngP : ∀ (c2 : Ctx) (E2 : List Slo), E2[2]? = some (.is (isD K (.int (g : Nat)))) → E2[7]? = some (.is (isD K (.int (m : Nat)))) → Its c2 E2 (iRng1 (tCons (tOp (rI0 fun i j => .int (i + j)) (tOp (rI CMulW fun i j => .int (i * j)) (tVar 2) (tVar 7)) (tC (.int 1))) tNil)) ((List.range (g * m + 1)).map fun i : Nat => isD K (.int (0 + (i : Int)))) := fun c2 E2 z1 z2 => its_is (its_range1 (evA_cons (plus1 c2 E2 z1 z2) evA_nil) (by omega) (by omega)) (by rw [Int.toNat_natCast])
    generalize hpl : (List.range (g * m + 1)).map (· / m) = pl at pl_len pl_at pl_lt mb
    refine nx_tri (D := D) (tri_seq (tri_asg (ev_is (ev_CB (evA_cons (evO_data (evO_rng (K := K) (lo := 0) (n := g * m + 1) (fun y => .int ((y / m : Nat) : Int)) (rngP _ _ rfl rfl) (by omega) fun y hy => ⟨_, _, tgt_name, by decide, evT_tt, ev_is (ev_op (ev_var rfl) (ev_var (i := 7) rfl) (opV_divW (divW_of 16 (by omega) (by omega)))) (by rw [Int.zero_add, Int.natCast_ediv])⟩)) evA_nil) caV_tupL) (d' := dN pl) (by rw [← hpl]; unfold dN; rw [List.map_map]; rfl)) ?_))
    refine tri_seq (tri_ifF (evT_is (a_or (evT_is (evT_test (ev_op (ev_is (d' := .list []) (evO_data (evO_lc (K := K) (fun _ => none) (rngP _ _ rfl rfl) (by rw [List.length_map, List.length_range]; omega) fun y R hR => ?_)) (by rw [made_none])) (evO_data (evO_nil (K := K))) (opV_neD rfl rfl))) rfl) (evT_not (evT_test (ev_call (p := p_is_map K C) (B, S, pl) (evA_cons (ev_var (i := 10) rfl) (evA_cons (ev_var (i := 9) rfl) (evA_cons (ev_var (i := 14) rfl) evA_nil))) (map_ok gB gS (by rw [pl_len, zB]) pl_lt))))) (by dsimp only; rw [mb]; rfl)) (tri_next ?_))
    · obtain ⟨hy, rfl⟩ := getRng hR
      have hy2 : y / m < g + 1 := by rw [← zS]; exact mp.to y (by rw [zB]; exact hy)
      refine ⟨_, _, tgt_name, by decide, evT_is (evT_test (ev_op (ev_op (ev_var (i := 12) rfl) (ev_var (i := 13) rfl) (opV_ixM (n := y) (by omega) (gv _ _ y (by rw [zB]; exact hy)))) (ev_op (ev_var (i := 11) rfl) (ev_op (ev_var (i := 14) rfl) (ev_var (i := 13) rfl) (opV_ixM (n := y) (by omega) (pl_at y hy))) (opV_ixM (n := y / m) rfl (gv _ _ _ (by rw [zS]; exact hy2)))) (opV_neE enc_R _ _))) (by rw [hFV y hy]; simp), fun d hd => by cases hd⟩
    dsimp only
    refine nx_tri (D := D) (tri_seq (triM_par (R := isZ fun z => 0 ≤ z ∧ z < ((g * m + 1 : Nat) : Int)) (S := isZ fun z => 0 ≤ z ∧ z < ((g + 1 : Nat) : Int)) (evM_callX (p := pX__law_take K C) ((g * m + 1 : Nat) : Int) rfl (evAM_of (evA_cons (plus1 _ _ rfl rfl) evA_nil)) ⟨by omega, by omega⟩) (evM_callX (p := pX__law_take K C) ((g + 1 : Nat) : Int) rfl (evAM_of (evA_cons (gone _ _ rfl) evA_nil)) ⟨by omega, by omega⟩) ?_))
    refine nx_exZ (K := K) (i := 15) rfl fun at0 hat => nx_exZ (K := K) (i := 16) rfl fun ot0 hot => ?_
    obtain ⟨at1, rfl⟩ : ∃ n : Nat, at0 = (n : Int) := ⟨at0.toNat, by omega⟩
    obtain ⟨ot, rfl⟩ : ∃ n : Nat, ot0 = (n : Int) := ⟨ot0.toNat, by omega⟩
    have hat2 : at1 < g * m + 1 := by omega
    have hot2 : ot < g + 1 := by omega
    clear hat hot
    have bl : (pl.take at1 ++ [ot] ++ pl.drop (at1 + 1)).length = g * m + 1 := by
      rw [List.length_append, List.length_append, List.length_take, List.length_drop, pl_len, List.length_singleton]; omega
    have bk : ∀ p ∈ pl.take at1 ++ [ot] ++ pl.drop (at1 + 1), p < S.size := fun p hp => by
      rcases List.mem_append.mp hp with z | z
      · rcases List.mem_append.mp z with z | z
        · exact pl_lt p (List.mem_of_mem_take z)
        · have : p = ot := by simpa using z
          rw [this, zS]; exact hot2
      · exact pl_lt p (List.mem_of_mem_drop z)
    have eb : ∀ (f : Nat → PyData), (pl.map f).take at1 ++ [f ot] ++ (pl.map f).drop (at1 + 1) = (pl.take at1 ++ [ot] ++ pl.drop (at1 + 1)).map f := fun f => by rw [List.map_append, List.map_append, List.map_take, List.map_drop]; rfl
    generalize hbent : pl.take at1 ++ [ot] ++ pl.drop (at1 + 1) = bent at bl bk eb
    refine nx_tri (D := D) (tri_seq (tri_asg (ev_is (ev_op (ev_op (ev_upto (ds := pl.map fun n : Nat => .int (n : Int)) (k := at1) (ev_var (i := 14) rfl) (ev_var (i := 15) rfl) (by rw [List.length_map]; omega)) (ev_tup (ds := [.int (ot : Nat)]) (evA_cons (ev_var (i := 16) rfl) evA_nil)) (opV_catA (by rw [List.length_take, List.length_map]; simp; omega))) (ev_from (ds := pl.map fun n : Nat => .int (n : Int)) (k := at1 + 1) (ev_var (i := 14) rfl) (ev_is (ev_op (ev_var (i := 15) rfl) ev_int opV_int) (by rw [Int.natCast_add]; rfl)) (by rw [List.length_map]; omega)) (opV_catA (by rw [List.length_append, List.length_take, List.length_drop, List.length_map]; simp; omega))) (d' := dN bent) (by unfold dN; rw [← eb])) ?_))
    refine tri_seq (tri_par (R := isD K (dN (List.range (g + 1)))) (S := isD K (.bool true)) (evA_cons (ev_is (ev_CB (evA_cons (evO_data (evO_rng (K := K) (lo := 0) (n := g + 1) (fun y => .int (y : Nat)) (its_is (its_range1 (evA_cons (gone _ _ rfl) evA_nil) (by omega) (by omega)) (by rw [Int.toNat_natCast])) (by omega) fun y hy => ⟨_, _, tgt_name, by decide, evT_tt, ev_is (ev_var rfl) (by rw [Int.zero_add])⟩)) evA_nil) caV_tupL) rfl) (evA_cons ev_bl evA_nil)) ?_)
    have b_at : ∀ y, y < g * m + 1 → bent[y]? = some (bent.getD y 0) := fun y hy => by rw [List.getD_eq_getElem?_getD, List.getElem?_eq_getElem (by omega)]; rfl
    have b_lt : ∀ y, y < g * m + 1 → bent.getD y 0 < g + 1 := fun y hy => by rw [← zS]; exact bk _ (List.mem_of_getElem? (b_at y hy))
    have o_lt : ∀ p ∈ List.range (g + 1), p < g + 1 := fun p hp => List.mem_range.mp hp
    refine tri_seq (tri_for (rngP _ _ rfl rfl) (fun t => [.no, .no, .is (isD K (.int (g : Nat))), .no, .no, .no, .no, .is (isD K (.int (m : Nat))), .no, .is (isB K C S), .is (isB K C B), .no, .no, .no, .no, .no, .no, .is (isD K (dN bent)), .is (isD K (dN (List.range (g + 1)))), .is (isD K (.bool (dcB (∀ y, y < t → SameD B S bent (List.range (g + 1)) (g + 1) y (bent.getD y 0))))), .no, .no]) ?_ (fun c' y R a1 a2 a3 a4 hR => ?_) ?_)
    · rw [show dcB (∀ y, y < 0 → SameD B S bent (List.range (g + 1)) (g + 1) y (bent.getD y 0)) = true from dcB_iff.mpr fun y hy => absurd hy (Nat.not_lt_zero y)]
      repeat (first | exact Weak.nil | refine Weak.same ?_ | refine Weak.none ?_)
    · obtain ⟨hy, rfl⟩ := getRng hR
      refine ⟨_, _, tgt_name, fun D' d1 d2 d3 d4 => ?_⟩
      rw [← a1]
      have hyB : y < B.size := by rw [zB]; exact hy
      have hyS : bent.getD y 0 < S.size := by rw [zS]; exact b_lt y hy
      have ix : ∀ (c2 : Ctx) (E2 : List Slo), E2[17]? = some (.is (isD K (dN bent))) → E2[13]? = some (.is (isD K (.int (0 + (y : Int))))) → Ev c2 E2 (tOp (rIxT K) (tVar 17) (tVar 13)) (isD K (.int (bent.getD y 0 : Nat))) := fun c2 E2 z1 z2 => ev_op (ev_var (i := 17) z1) (ev_var (i := 13) z2) (opV_ixM (n := y) (by omega) (b_at y hy))
      have key : (!decide (B.pay y = S.pay (bent.getD y 0)) || !dcB (∀ r, r ∈ (B.row y).map (dns bent (g + 1)) ↔ r ∈ (S.row (bent.getD y 0)).map (dns (List.range (g + 1)) (g + 1)))) = !dcB (SameD B S bent (List.range (g + 1)) (g + 1) y (bent.getD y 0)) := by
        rw [← Bool.not_and, Bool.eq_iff_iff, Bool.not_eq_true', Bool.not_eq_true', Bool.and_eq_false_iff, dcB_no, dcB_no, decide_eq_false_iff_not]
        unfold SameD
        constructor
        · rintro (z | z) w
          · exact z w.1
          · exact z w.2
        · intro h
          by_cases z : B.pay y = S.pay (bent.getD y 0)
          · exact .inr fun w => h ⟨z, w⟩
          · exact .inl z
      refine tri_if (evT_is (evT_or (evT_test (ev_op (ev_op (ev_pays BB (ev_var (i := 10) rfl)) (ev_var (i := 13) rfl) (opV_ixM (n := y) (by omega) (pay_get hyB))) (ev_op (ev_pays BB (ev_var (i := 9) rfl)) (ix _ _ rfl rfl) (opV_ixM rfl (pay_get hyS))) (opV_neE enc_R _ _))) fun _ => evT_test (ev_op (ev_call (p := p__law_seen K C) (B, bent, y, g + 1) (evA_cons (ev_var (i := 10) rfl) (evA_cons (ev_var (i := 17) rfl) (evA_cons (ev_is (ev_var (i := 13) rfl) (by rw [Int.zero_add])) (evA_cons (gone _ _ rfl) evA_nil)))) ⟨gB, hyB, by dsimp only; omega, row_12 gB _, fun L hL => (gB.row_mem hL).dn (by dsimp only; omega) fun p hp => by rw [← zS]; exact bk p hp⟩) (ev_call (p := p__law_seen K C) (S, List.range (g + 1), bent.getD y 0, g + 1) (evA_cons (ev_var (i := 9) rfl) (evA_cons (ev_var (i := 18) rfl) (evA_cons (ix _ _ rfl rfl) (evA_cons (gone _ _ rfl) evA_nil)))) ⟨gS, hyS, by dsimp only; omega, row_12 gS _, fun L hL => (gS.row_mem hL).dn (by rw [List.length_range, zS]; exact Nat.le_refl _) o_lt⟩) (opV_neCh ord_Dn (by decide) dcB_iff))) key) (fun hb => ?_) fun hb => ?_
      · refine tri_asg (ev_bl (K := K)) (nx_weak ?_ d3)
        rw [show dcB (∀ z, z < y + 1 → SameD B S bent (List.range (g + 1)) (g + 1) z (bent.getD z 0)) = false from dcB_no.mpr fun z => by
          rw [Bool.not_eq_true', dcB_no] at hb
          exact hb (z y (by omega))]
        repeat (first | exact Weak.nil | refine Weak.same ?_ | refine Weak.none ?_)
      · have hS : SameD B S bent (List.range (g + 1)) (g + 1) y (bent.getD y 0) := dcB_iff.mp (by rw [← Bool.not_eq_false']; exact hb)
        refine tri_next (nx_weak ?_ d3)
        rw [show dcB (∀ z, z < y + 1 → SameD B S bent (List.range (g + 1)) (g + 1) z (bent.getD z 0)) = dcB (∀ z, z < y → SameD B S bent (List.range (g + 1)) (g + 1) z (bent.getD z 0)) from by
          rw [Bool.eq_iff_iff, dcB_iff, dcB_iff]
          constructor
          · exact fun h z hz => h z (by omega)
          · intro h z hz
            by_cases e : z = y
            · rw [e]; exact hS
            · exact h z (by omega)]
        repeat (first | exact Weak.nil | refine Weak.same ?_ | refine Weak.none ?_)
    · have eR : ((List.range (g * m + 1)).map fun i : Nat => isD K (.int (0 + (i : Int)))).length = g * m + 1 := by rw [List.length_map, List.length_range]
      rw [eR]
      refine nx_tri (tri_ret (ev_is (ev_op (ev_call (p := p_is_map K C) (B, S, bent) (evA_cons (ev_var (i := 10) rfl) (evA_cons (ev_var (i := 9) rfl) (evA_cons (ev_var (i := 17) rfl) evA_nil))) (map_ok gB gS (by rw [bl, zB]) bk)) (ev_var (i := 19) rfl) opV_eqB) ?_) q)
      dsimp only
      rw [mapB_eq gB gS (by rw [bl, zB]) bk, zB, zS, decide_eq_true rfl]
end
end SD
end
section
set_option maxHeartbeats 8000000
set_option exponentiation.threshold 100000
namespace SD
open PySem PySem.Spec PyProof.Rows L2 SH
section
variable {w : World} {K : PySem.W.Frag} {mg : Str → Option Value} {h : Heap}
theorem code_of {x qual : Str} {params : Arguments} {body : List Stmt} {scope : Scope} {dvs : List V} {kws : List (Str × V)} {p : Str × Option Str} {fd : FuncData} (F : FunD K x qual params body scope dvs kws (He.fAd K p) fd) : fd.code = .ref (He.cT K p).1 := by
  obtain ⟨oc, od, dV, kV, doc, pm, an, cdv, ct, osl, rfl, lk, hcd, _, _⟩ := F.ex
  obtain ⟨c, e⟩ := He.codeIn_ref hcd
  have e1 : He.codeOf K p = c := He.codeOf_eq lk e
  show cdv = .ref (He.codeOf K p)
  rw [e1, e]
theorem blt_of (X : K.In h) (G : h.Ns mainGlobals mg) (c : He.SaysX fa fn [] tf ex w h K) : Blt mg := by
  have e2 : (He.eqO (PySem.W.nsIn K mainGlobals "gcd") (some (some (.builtin "math.gcd"))) && He.eqO (PySem.W.nsIn K mainGlobals "lcm") (some (some (.builtin "math.lcm")))) = true := c.more
  obtain ⟨e3, e4⟩ := Bool.and_eq_true_iff.mp e2
  exact {
    «len» := He.free_ok X G (c.t.d.fact 76 (f := .free "len") rfl)
    «isinstance» := He.free_ok X G (c.t.d.fact 77 (f := .free "isinstance") rfl)
    «int» := He.free_ok X G (c.t.d.fact 78 (f := .free "int") rfl)
    «bool» := He.free_ok X G (c.t.d.fact 79 (f := .free "bool") rfl)
    «str» := He.free_ok X G (c.t.d.fact 80 (f := .free "str") rfl)
    «tuple» := He.free_ok X G (c.t.d.fact 81 (f := .free "tuple") rfl)
    «sum» := He.free_ok X G (c.t.d.fact 82 (f := .free "sum") rfl)
    «any» := He.free_ok X G (c.t.d.fact 83 (f := .free "any") rfl)
    «all» := He.free_ok X G (c.t.d.fact 84 (f := .free "all") rfl)
    «range» := He.free_ok X G (c.t.d.fact 85 (f := .free "range") rfl)
    «enumerate» := He.free_ok X G (c.t.d.fact 86 (f := .free "enumerate") rfl)
    «zip» := He.free_ok X G (c.t.d.fact 87 (f := .free "zip") rfl)
    «sorted» := He.free_ok X G (c.t.d.fact 88 (f := .free "sorted") rfl)
    «min» := He.free_ok X G (c.t.d.fact 89 (f := .free "min") rfl)
    «max» := He.free_ok X G (c.t.d.fact 90 (f := .free "max") rfl)
    «list» := He.free_ok X G (c.t.d.fact 91 (f := .free "list") rfl)
    gcd := PySem.W.mg_of X G (He.eqO_ok e3)
    lcm := PySem.W.mg_of X G (He.eqO_ok e4)
    MOST_UNKNOWNS := He.int_ok X G (c.t.d.fact 92 (f := .int "MOST_UNKNOWNS" (40)) rfl)
    STOP := He.int_ok X G (c.t.d.fact 93 (f := .int "STOP" (-1)) rfl)
    LETTERS := He.str_ok X G (c.t.d.fact 94 (f := .str "LETTERS" "abcdefghijklmnopqrstuvwxyz") rfl)
    MOST_OUTS := He.int_ok X G (c.t.d.fact 95 (f := .int "MOST_OUTS" (6)) rfl)
    MOST_STAKE := He.int_ok X G (c.t.d.fact 96 (f := .int "MOST_STAKE" (39)) rfl)
    MOST_GOAL := He.int_ok X G (c.t.d.fact 97 (f := .int "MOST_GOAL" (39)) rfl)
    MOST_TABLES := He.int_ok X G (c.t.d.fact 98 (f := .int "MOST_TABLES" (4)) rfl)
    MOST_STAKES := He.int_ok X G (c.t.d.fact 99 (f := .int "MOST_STAKES" (12)) rfl)
    MOST_PLACES := He.int_ok X G (c.t.d.fact 100 (f := .int "MOST_PLACES" (40)) rfl)
    MOST_PLAYS := He.int_ok X G (c.t.d.fact 101 (f := .int "MOST_PLAYS" (12)) rfl)
    MOST_PAIRS := He.int_ok X G (c.t.d.fact 102 (f := .int "MOST_PAIRS" (8)) rfl)
    MOST_WEIGHT := He.int_ok X G (c.t.d.fact 103 (f := .int "MOST_WEIGHT" (99999)) rfl)
    PAY_LIMIT := He.int_ok X G (c.t.d.fact 104 (f := .int "PAY_LIMIT" (10 ^ 600)) rfl)
  }
theorem bf_of (c : He.SaysX fa fn [] tf ex w h K) : BF K (He.ga K "Board") :=
  ⟨He.cls_ok (c.t.d.fact 105 (f := .cls "Board") rfl), He.noat_ok (c.t.d.fact 106 (f := .noat "Board" "size") rfl), He.noat_ok (c.t.d.fact 107 (f := .noat "Board" "pays") rfl), He.noat_ok (c.t.d.fact 108 (f := .noat "Board" "plays") rfl)⟩
theorem start_law {C : Addr} {E : XK} (H : Hp) (a : Addr) (ns : List Int) (hT : ∀ p ∈ tf.map (He.cT K), H p.2 = some (.tbl #[])) (hS : SqL K H a (ns.map V.int)) : spOf ((tf.map (He.cT K)).map (·.2)) (p_law K C) [.ref a] H (fun v _ => v = .bl true) E := by
  have hT2 : ∀ b ∈ (tf.map (He.cT K)).map (·.2), H b = some (.tbl #[]) := fun b hb => by
    obtain ⟨p, hp, e⟩ := List.mem_map.mp hb
    rw [← e]; exact hT p hp
  generalize (tf.map (He.cT K)).map (·.2) = T at *
  let Hs : Hp := fun b => if b ∈ T then none else H b
  have sub : Evl.Ex Hs H := fun b o e => by
    have e2 : (if b ∈ T then none else H b) = some o := e
    by_cases z : b ∈ T
    · rw [if_pos z] at e2; cases e2
    · rw [if_neg z] at e2; exact e2
  have hS2 : SqL K Hs a (ns.map V.int) := by
    rcases hS with r | r
    · refine .inl ?_
      have na : a ∉ T := fun z => by
        have t := hT2 a z
        rcases r with r | ⟨o, r⟩
        · rw [t] at r; cases r
        · rw [t] at r; cases r
      have e : Hs a = H a := if_neg na
      unfold Rd
      rw [e]; exact r
    · exact .inr r
  have allI : ∀ ns : List Int, DpAll K Hs (ns.map V.int) (ns.map PyData.int) := fun ns => by
    induction ns with
    | nil => exact .nil
    | cons n ns ih => exact .cons (.int n) ih
  refine ⟨ns, Hs, trivial, ⟨sub, fun b hb => ⟨⟨#[], hT2 b hb, trivial⟩, if_pos hb⟩⟩, .cons (.lst hS2 (allI ns)) .nil, fun v Hs' H' _ hR => ?_⟩
  have hR' : Dp K Hs' v (.bool true) := hR
  cases hR'; rfl
theorem lawAt {fl : Addr} (X : K.In h) (G : h.Ns mainGlobals mg) (hfa : mg ("law" : Str) = some (.ref fl)) (c : He.SaysX fa fn [] tf ex w h K) : LamX.LawAtS PySem.Challenge.rw_stakehulls_k92_whole_houses_multiplied w K CX0 8 63 "_law_script" mg fl h := by
  have B := blt_of X G c
  have BB := bf_of c
  obtain ⟨fd_Board, F_Board⟩ := c.t.d.def_ 0 (d := dBoard) rfl
  obtain ⟨fd_ratio, F_ratio⟩ := c.t.d.def_ 1 (d := dF "ratio" s_ratio) rfl
  have m_ratio := He.glo_ok X G (c.t.d.fact 0 (f := .glo "ratio") rfl)
  obtain ⟨fd_plus, F_plus⟩ := c.t.d.def_ 2 (d := dF "plus" s_plus) rfl
  have m_plus := He.glo_ok X G (c.t.d.fact 1 (f := .glo "plus") rfl)
  obtain ⟨fd_times, F_times⟩ := c.t.d.def_ 3 (d := dF "times" s_times) rfl
  have m_times := He.glo_ok X G (c.t.d.fact 2 (f := .glo "times") rfl)
  obtain ⟨fd_less, F_less⟩ := c.t.d.def_ 4 (d := dF "less" s_less) rfl
  have m_less := He.glo_ok X G (c.t.d.fact 3 (f := .glo "less") rfl)
  obtain ⟨fd_is_number, F_is_number⟩ := c.t.d.def_ 5 (d := dF "is_number" s_is_number) rfl
  have m_is_number := He.glo_ok X G (c.t.d.fact 4 (f := .glo "is_number") rfl)
  obtain ⟨fd_is_ratio, F_is_ratio⟩ := c.t.d.def_ 6 (d := dF "is_ratio" s_is_ratio) rfl
  have m_is_ratio := He.glo_ok X G (c.t.d.fact 5 (f := .glo "is_ratio") rfl)
  obtain ⟨fd_weight_of, F_weight_of⟩ := c.t.d.def_ 7 (d := dF "weight_of" s_weight_of) rfl
  have m_weight_of := He.glo_ok X G (c.t.d.fact 6 (f := .glo "weight_of") rfl)
  obtain ⟨fd_average, F_average⟩ := c.t.d.def_ 8 (d := dF "average" s_average) rfl
  have m_average := He.glo_ok X G (c.t.d.fact 7 (f := .glo "average") rfl)
  obtain ⟨fd_whole_row, F_whole_row⟩ := c.t.d.def_ 9 (d := dF "whole_row" s_whole_row) rfl
  have m_whole_row := He.glo_ok X G (c.t.d.fact 8 (f := .glo "whole_row") rfl)
  obtain ⟨fd_pivot_of, F_pivot_of⟩ := c.t.d.def_ 10 (d := dF "pivot_of" s_pivot_of) rfl
  have m_pivot_of := He.glo_ok X G (c.t.d.fact 9 (f := .glo "pivot_of") rfl)
  obtain ⟨fd_cleared, F_cleared⟩ := c.t.d.def_ 11 (d := dF "cleared" s_cleared) rfl
  have m_cleared := He.glo_ok X G (c.t.d.fact 10 (f := .glo "cleared") rfl)
  obtain ⟨fd_solved, F_solved⟩ := c.t.d.def_ 12 (d := dF "solved" s_solved) rfl
  have m_solved := He.glo_ok X G (c.t.d.fact 11 (f := .glo "solved") rfl)
  obtain ⟨fd_arrows_back, F_arrows_back⟩ := c.t.d.def_ 13 (d := dF "arrows_back" s_arrows_back) rfl
  have m_arrows_back := He.glo_ok X G (c.t.d.fact 12 (f := .glo "arrows_back") rfl)
  obtain ⟨fd_comes, F_comes⟩ := c.t.d.def_ 14 (d := dF "comes" s_comes) rfl
  have m_comes := He.glo_ok X G (c.t.d.fact 13 (f := .glo "comes") rfl)
  obtain ⟨fd_is_choice, F_is_choice⟩ := c.t.d.def_ 15 (d := dF "is_choice" s_is_choice) rfl
  have m_is_choice := He.glo_ok X G (c.t.d.fact 14 (f := .glo "is_choice") rfl)
  obtain ⟨fd_want_way, F_want_way⟩ := c.t.d.def_ 16 (d := dF "want_way" s_want_way) rfl
  have m_want_way := He.glo_ok X G (c.t.d.fact 15 (f := .glo "want_way") rfl)
  obtain ⟨fd_led_to, F_led_to⟩ := c.t.d.def_ 17 (d := dF "led_to" s_led_to) rfl
  have m_led_to := He.glo_ok X G (c.t.d.fact 16 (f := .glo "led_to") rfl)
  obtain ⟨fd_live_places, F_live_places⟩ := c.t.d.def_ 18 (d := dF "live_places" s_live_places) rfl
  have m_live_places := He.glo_ok X G (c.t.d.fact 17 (f := .glo "live_places") rfl)
  obtain ⟨fd_inner_places, F_inner_places⟩ := c.t.d.def_ 19 (d := dF "inner_places" s_inner_places) rfl
  have m_inner_places := He.glo_ok X G (c.t.d.fact 18 (f := .glo "inner_places") rfl)
  obtain ⟨fd_weight_to, F_weight_to⟩ := c.t.d.def_ 20 (d := dF "weight_to" s_weight_to) rfl
  have m_weight_to := He.glo_ok X G (c.t.d.fact 19 (f := .glo "weight_to") rfl)
  obtain ⟨fd_square_row, F_square_row⟩ := c.t.d.def_ 21 (d := dF "square_row" s_square_row) rfl
  have m_square_row := He.glo_ok X G (c.t.d.fact 20 (f := .glo "square_row") rfl)
  obtain ⟨fd_way_square, F_way_square⟩ := c.t.d.def_ 22 (d := dF "way_square" s_way_square) rfl
  have m_way_square := He.glo_ok X G (c.t.d.fact 21 (f := .glo "way_square") rfl)
  obtain ⟨fd_stopping_sum, F_stopping_sum⟩ := c.t.d.def_ 23 (d := dF "stopping_sum" s_stopping_sum) rfl
  have m_stopping_sum := He.glo_ok X G (c.t.d.fact 22 (f := .glo "stopping_sum") rfl)
  obtain ⟨fd_value, F_value⟩ := c.t.d.def_ 24 (d := dF "value" s_value) rfl
  have m_value := He.glo_ok X G (c.t.d.fact 23 (f := .glo "value") rfl)
  obtain ⟨fd_amounts, F_amounts⟩ := c.t.d.def_ 25 (d := dF "amounts" s_amounts) rfl
  have m_amounts := He.glo_ok X G (c.t.d.fact 24 (f := .glo "amounts") rfl)
  obtain ⟨fd_better_choice, F_better_choice⟩ := c.t.d.def_ 26 (d := dF "better_choice" s_better_choice) rfl
  have m_better_choice := He.glo_ok X G (c.t.d.fact 25 (f := .glo "better_choice") rfl)
  obtain ⟨fd_improved_for, F_improved_for⟩ := c.t.d.def_ 27 (d := dF "improved_for" s_improved_for) rfl
  have m_improved_for := He.glo_ok X G (c.t.d.fact 26 (f := .glo "improved_for") rfl)
  obtain ⟨fd_worth, F_worth⟩ := c.t.d.def_ 28 (d := dF "worth" s_worth) rfl
  have m_worth := He.glo_ok X G (c.t.d.fact 27 (f := .glo "worth") rfl)
  obtain ⟨fd_is_within, F_is_within⟩ := c.t.d.def_ 29 (d := dF "is_within" s_is_within) rfl
  have m_is_within := He.glo_ok X G (c.t.d.fact 28 (f := .glo "is_within") rfl)
  obtain ⟨fd_is_name, F_is_name⟩ := c.t.d.def_ 30 (d := dF "is_name" s_is_name) rfl
  have m_is_name := He.glo_ok X G (c.t.d.fact 29 (f := .glo "is_name") rfl)
  obtain ⟨fd_are_outs, F_are_outs⟩ := c.t.d.def_ 31 (d := dF "are_outs" s_are_outs) rfl
  have m_are_outs := He.glo_ok X G (c.t.d.fact 30 (f := .glo "are_outs") rfl)
  obtain ⟨fd_is_table, F_is_table⟩ := c.t.d.def_ 32 (d := dF "is_table" s_is_table) rfl
  have m_is_table := He.glo_ok X G (c.t.d.fact 31 (f := .glo "is_table") rfl)
  obtain ⟨fd_stakes, F_stakes⟩ := c.t.d.def_ 33 (d := dF "stakes" s_stakes) rfl
  have m_stakes := He.glo_ok X G (c.t.d.fact 32 (f := .glo "stakes") rfl)
  obtain ⟨fd_check_goal, F_check_goal⟩ := c.t.d.def_ 34 (d := dF "check_goal" s_check_goal) rfl
  have m_check_goal := He.glo_ok X G (c.t.d.fact 33 (f := .glo "check_goal") rfl)
  obtain ⟨fd_check_names, F_check_names⟩ := c.t.d.def_ 35 (d := dF "check_names" s_check_names) rfl
  have m_check_names := He.glo_ok X G (c.t.d.fact 34 (f := .glo "check_names") rfl)
  obtain ⟨fd_checked_house, F_checked_house⟩ := c.t.d.def_ 36 (d := dF "checked_house" s_checked_house) rfl
  have m_checked_house := He.glo_ok X G (c.t.d.fact 35 (f := .glo "checked_house") rfl)
  obtain ⟨fd_open_stakes, F_open_stakes⟩ := c.t.d.def_ 37 (d := dF "open_stakes" s_open_stakes) rfl
  have m_open_stakes := He.glo_ok X G (c.t.d.fact 36 (f := .glo "open_stakes") rfl)
  obtain ⟨fd_out_of, F_out_of⟩ := c.t.d.def_ 38 (d := dF "out_of" s_out_of) rfl
  have m_out_of := He.glo_ok X G (c.t.d.fact 37 (f := .glo "out_of") rfl)
  obtain ⟨fd_goal_pays, F_goal_pays⟩ := c.t.d.def_ 39 (d := dF "goal_pays" s_goal_pays) rfl
  have m_goal_pays := He.glo_ok X G (c.t.d.fact 38 (f := .glo "goal_pays") rfl)
  obtain ⟨fd_is_pay, F_is_pay⟩ := c.t.d.def_ 40 (d := dF "is_pay" s_is_pay) rfl
  have m_is_pay := He.glo_ok X G (c.t.d.fact 39 (f := .glo "is_pay") rfl)
  obtain ⟨fd_is_lottery, F_is_lottery⟩ := c.t.d.def_ 41 (d := dF "is_lottery" s_is_lottery) rfl
  have m_is_lottery := He.glo_ok X G (c.t.d.fact 40 (f := .glo "is_lottery") rfl)
  obtain ⟨fd_want_pays, F_want_pays⟩ := c.t.d.def_ 42 (d := dF "want_pays" s_want_pays) rfl
  have m_want_pays := He.glo_ok X G (c.t.d.fact 41 (f := .glo "want_pays") rfl)
  obtain ⟨fd_want_plays, F_want_plays⟩ := c.t.d.def_ 43 (d := dF "want_plays" s_want_plays) rfl
  have m_want_plays := He.glo_ok X G (c.t.d.fact 42 (f := .glo "want_plays") rfl)
  obtain ⟨fd_made_board, F_made_board⟩ := c.t.d.def_ 44 (d := dF "made_board" s_made_board) rfl
  have m_made_board := He.glo_ok X G (c.t.d.fact 43 (f := .glo "made_board") rfl)
  obtain ⟨fd_stake_lottery, F_stake_lottery⟩ := c.t.d.def_ 45 (d := dF "stake_lottery" s_stake_lottery) rfl
  have m_stake_lottery := He.glo_ok X G (c.t.d.fact 44 (f := .glo "stake_lottery") rfl)
  obtain ⟨fd_house_plays, F_house_plays⟩ := c.t.d.def_ 46 (d := dF "house_plays" s_house_plays) rfl
  have m_house_plays := He.glo_ok X G (c.t.d.fact 45 (f := .glo "house_plays") rfl)
  obtain ⟨fd_laid, F_laid⟩ := c.t.d.def_ 47 (d := dF "laid" s_laid) rfl
  have m_laid := He.glo_ok X G (c.t.d.fact 46 (f := .glo "laid") rfl)
  obtain ⟨fd_pushed, F_pushed⟩ := c.t.d.def_ 48 (d := dF "pushed" s_pushed) rfl
  have m_pushed := He.glo_ok X G (c.t.d.fact 47 (f := .glo "pushed") rfl)
  obtain ⟨fd_chances_of, F_chances_of⟩ := c.t.d.def_ 49 (d := dF "chances_of" s_chances_of) rfl
  have m_chances_of := He.glo_ok X G (c.t.d.fact 48 (f := .glo "chances_of") rfl)
  obtain ⟨fd_are_places, F_are_places⟩ := c.t.d.def_ 50 (d := dF "are_places" s_are_places) rfl
  have m_are_places := He.glo_ok X G (c.t.d.fact 49 (f := .glo "are_places") rfl)
  obtain ⟨fd_is_map, F_is_map⟩ := c.t.d.def_ 51 (d := dF "is_map" s_is_map) rfl
  have m_is_map := He.glo_ok X G (c.t.d.fact 50 (f := .glo "is_map") rfl)
  obtain ⟨fd__law_pool, F__law_pool⟩ := c.t.d.def_ 52 (d := dF "_law_pool" s__law_pool) rfl
  have m__law_pool := He.glo_ok X G (c.t.d.fact 51 (f := .glo "_law_pool") rfl)
  obtain ⟨fd__law_take, F__law_take⟩ := c.t.d.def_ 53 (d := dF "_law_take" s__law_take) rfl
  have m__law_take := He.glo_ok X G (c.t.d.fact 52 (f := .glo "_law_take") rfl)
  obtain ⟨fd__law_one, F__law_one⟩ := c.t.d.def_ 54 (d := dF "_law_one" s__law_one) rfl
  have m__law_one := He.glo_ok X G (c.t.d.fact 53 (f := .glo "_law_one") rfl)
  obtain ⟨fd__law_low, F__law_low⟩ := c.t.d.def_ 55 (d := dF "_law_low" s__law_low) rfl
  have m__law_low := He.glo_ok X G (c.t.d.fact 54 (f := .glo "_law_low") rfl)
  obtain ⟨fd__law_is_ratio, F__law_is_ratio⟩ := c.t.d.def_ 56 (d := dF "_law_is_ratio" s__law_is_ratio) rfl
  have m__law_is_ratio := He.glo_ok X G (c.t.d.fact 55 (f := .glo "_law_is_ratio") rfl)
  obtain ⟨fd__law_is_function, F__law_is_function⟩ := c.t.d.def_ 57 (d := dF "_law_is_function" s__law_is_function) rfl
  have m__law_is_function := He.glo_ok X G (c.t.d.fact 56 (f := .glo "_law_is_function") rfl)
  obtain ⟨fd__law_name, F__law_name⟩ := c.t.d.def_ 58 (d := dF "_law_name" s__law_name) rfl
  have m__law_name := He.glo_ok X G (c.t.d.fact 57 (f := .glo "_law_name") rfl)
  obtain ⟨fd__law_outs, F__law_outs⟩ := c.t.d.def_ 59 (d := dF "_law_outs" s__law_outs) rfl
  have m__law_outs := He.glo_ok X G (c.t.d.fact 58 (f := .glo "_law_outs") rfl)
  obtain ⟨fd__law_table, F__law_table⟩ := c.t.d.def_ 60 (d := dF "_law_table" s__law_table) rfl
  have m__law_table := He.glo_ok X G (c.t.d.fact 59 (f := .glo "_law_table") rfl)
  obtain ⟨fd__law_times, F__law_times⟩ := c.t.d.def_ 61 (d := dF "_law_times" s__law_times) rfl
  have m__law_times := He.glo_ok X G (c.t.d.fact 60 (f := .glo "_law_times") rfl)
  obtain ⟨fd__law_seen, F__law_seen⟩ := c.t.d.def_ 62 (d := dF "_law_seen" s__law_seen) rfl
  have m__law_seen := He.glo_ok X G (c.t.d.fact 61 (f := .glo "_law_seen") rfl)
  obtain ⟨fd_law, F_law⟩ := c.t.d.def_ 63 (d := dF "law" s_law) rfl
  have m_law := He.glo_ok X G (c.t.d.fact 62 (f := .glo "law") rfl)
  have m_Board := He.glo_ok X G (c.t.d.fact 75 (f := .glo "Board") rfl)
  have k_Board := He.mkr_ok (c.t.d.fact 109 (f := .mkr "Board") rfl)
  have co_is_name := code_of (p := ("is_name", none)) F_is_name
  have co_solved := code_of (p := ("solved", none)) F_solved
  have co_are_places := code_of (p := ("are_places", none)) F_are_places
  have e := hfa.symm.trans m_law
  cases e
  have b := FunD.bindsA (ps := ["_law_script"]) F_law fun _ _ _ _ _ _ us hl => match us, hl with | [_], _ => rfl
  have hemp := c.empty
  have hout := c.out
  have hhd := c.hd
  clear hfa
  refine ⟨fd_law, tf.map (He.cT K), spOf ((tf.map (He.cT K)).map (·.2)) (p_law K (He.ga K "Board")), fun p hp => ?_, fun p hp => ?_, fun p hp => ?_, fun s v => b s [v] rfl, fun H a ns _ _ hT hS => ?_, fun base KB GB TBs => ?_⟩
  · obtain ⟨q, hq, rfl⟩ := List.mem_map.mp hp
    exact hemp q hq
  · obtain ⟨q, hq, rfl⟩ := List.mem_map.mp hp
    exact hout q hq
  · obtain ⟨q, hq, rfl⟩ := List.mem_map.mp hp
    exact PySem.W.codeHd_of_K X (hhd q hq)
  · exact start_law H a ns hT hS
  · have TB : ∀ p ∈ tf, GxR.TabB base mg (He.cT K p).1 (He.cT K p).2 := fun p hp => by
      have t := TBs _ (List.mem_map.mpr ⟨p, hp, rfl⟩)
      exact ⟨t.code, t.bm, t.gP⟩
    have PT : ∀ p ∈ tf, (He.cT K p).2 ∈ (tf.map (He.cT K)).map (·.2) := fun p hp => List.mem_map.mpr ⟨_, List.mem_map.mpr ⟨p, hp, rfl⟩, rfl⟩
    generalize (tf.map (He.cT K)).map (·.2) = T at *
    have h_Board : HasM PySem.Challenge.rw_stakehulls_k92_whole_houses_multiplied.prog w K mg base (He.ga K "Board") := ⟨_, fd_Board, k_Board, m_Board, F_Board.bindsN (fun _ _ _ _ _ _ us hl => match us, hl with | [_, _, _], _ => rfl), ok_Board_init F_Board B BB⟩
    have h__law_pool := ok__law_pool (P := PySem.Challenge.rw_stakehulls_k92_whole_houses_multiplied.prog) (w := w) (base := base) (T := T) (C := He.ga K "Board") F__law_pool m__law_pool B 
    have h0__law_take := ok__law_take (P := PySem.Challenge.rw_stakehulls_k92_whole_houses_multiplied.prog) (w := w) (base := base) (T := T) (C := He.ga K "Board") F__law_take m__law_take B 
    have h__law_take := x__law_take h0__law_take
    have h__law_one := ok__law_one (P := PySem.Challenge.rw_stakehulls_k92_whole_houses_multiplied.prog) (w := w) (base := base) (T := T) (C := He.ga K "Board") F__law_one m__law_one B h__law_take
    have h__law_times := ok__law_times (P := PySem.Challenge.rw_stakehulls_k92_whole_houses_multiplied.prog) (w := w) (base := base) (T := T) (C := He.ga K "Board") F__law_times m__law_times B 
    have h_check_goal := ok_check_goal (P := PySem.Challenge.rw_stakehulls_k92_whole_houses_multiplied.prog) (w := w) (base := base) (T := T) (C := He.ga K "Board") F_check_goal m_check_goal B 
    have h_check_names := ok_check_names (P := PySem.Challenge.rw_stakehulls_k92_whole_houses_multiplied.prog) (w := w) (base := base) (T := T) (C := He.ga K "Board") F_check_names m_check_names B 
    have h_is_number := ok_is_number (P := PySem.Challenge.rw_stakehulls_k92_whole_houses_multiplied.prog) (w := w) (base := base) (T := T) (C := He.ga K "Board") F_is_number m_is_number B 
    have h_is_within := ok_is_within (P := PySem.Challenge.rw_stakehulls_k92_whole_houses_multiplied.prog) (w := w) (base := base) (T := T) (C := He.ga K "Board") F_is_within m_is_within B h_is_number
    have h_is_name := ok_is_name (P := PySem.Challenge.rw_stakehulls_k92_whole_houses_multiplied.prog) (w := w) (base := base) (T := T) (C := He.ga K "Board") F_is_name m_is_name B co_is_name (TB ("is_name", none) (by decide)) (PT ("is_name", none) (by decide)) 
    have h_are_outs := ok_are_outs (P := PySem.Challenge.rw_stakehulls_k92_whole_houses_multiplied.prog) (w := w) (base := base) (T := T) (C := He.ga K "Board") F_are_outs m_are_outs B h_is_within
    have h_is_table := ok_is_table (P := PySem.Challenge.rw_stakehulls_k92_whole_houses_multiplied.prog) (w := w) (base := base) (T := T) (C := He.ga K "Board") F_is_table m_is_table B h_is_within h_is_name h_are_outs
    have h_stakes := ok_stakes (P := PySem.Challenge.rw_stakehulls_k92_whole_houses_multiplied.prog) (w := w) (base := base) (T := T) (C := He.ga K "Board") F_stakes m_stakes B 
    have h_checked_house := ok_checked_house (P := PySem.Challenge.rw_stakehulls_k92_whole_houses_multiplied.prog) (w := w) (base := base) (T := T) (C := He.ga K "Board") F_checked_house m_checked_house B h_check_goal h_check_names h_is_table h_stakes
    have h_is_ratio := ok_is_ratio (P := PySem.Challenge.rw_stakehulls_k92_whole_houses_multiplied.prog) (w := w) (base := base) (T := T) (C := He.ga K "Board") F_is_ratio m_is_ratio B h_is_number
    have h_is_pay := ok_is_pay (P := PySem.Challenge.rw_stakehulls_k92_whole_houses_multiplied.prog) (w := w) (base := base) (T := T) (C := He.ga K "Board") F_is_pay m_is_pay B h_is_ratio
    have h_want_pays := ok_want_pays (P := PySem.Challenge.rw_stakehulls_k92_whole_houses_multiplied.prog) (w := w) (base := base) (T := T) (C := He.ga K "Board") F_want_pays m_want_pays B h_is_pay
    have h_is_lottery := ok_is_lottery (P := PySem.Challenge.rw_stakehulls_k92_whole_houses_multiplied.prog) (w := w) (base := base) (T := T) (C := He.ga K "Board") F_is_lottery m_is_lottery B 
    have h_want_plays := ok_want_plays (P := PySem.Challenge.rw_stakehulls_k92_whole_houses_multiplied.prog) (w := w) (base := base) (T := T) (C := He.ga K "Board") F_want_plays m_want_plays B h_is_lottery
    have h_made_board := ok_made_board (P := PySem.Challenge.rw_stakehulls_k92_whole_houses_multiplied.prog) (w := w) (base := base) (T := T) (C := He.ga K "Board") F_made_board m_made_board B h_Board h_want_pays h_want_plays
    have h_out_of := ok_out_of (P := PySem.Challenge.rw_stakehulls_k92_whole_houses_multiplied.prog) (w := w) (base := base) (T := T) (C := He.ga K "Board") F_out_of m_out_of B h_stakes
    have h_stake_lottery := ok_stake_lottery (P := PySem.Challenge.rw_stakehulls_k92_whole_houses_multiplied.prog) (w := w) (base := base) (T := T) (C := He.ga K "Board") F_stake_lottery m_stake_lottery B h_out_of
    have h_open_stakes := ok_open_stakes (P := PySem.Challenge.rw_stakehulls_k92_whole_houses_multiplied.prog) (w := w) (base := base) (T := T) (C := He.ga K "Board") F_open_stakes m_open_stakes B h_stakes
    have h_house_plays := ok_house_plays (P := PySem.Challenge.rw_stakehulls_k92_whole_houses_multiplied.prog) (w := w) (base := base) (T := T) (C := He.ga K "Board") F_house_plays m_house_plays B h_stake_lottery h_open_stakes
    have h_laid := ok_laid (P := PySem.Challenge.rw_stakehulls_k92_whole_houses_multiplied.prog) (w := w) (base := base) (T := T) (C := He.ga K "Board") F_laid m_laid B h_checked_house h_made_board h_house_plays
    have h_ratio := ok_ratio (P := PySem.Challenge.rw_stakehulls_k92_whole_houses_multiplied.prog) (w := w) (base := base) (T := T) (C := He.ga K "Board") F_ratio m_ratio B 
    have h_weight_of := ok_weight_of (P := PySem.Challenge.rw_stakehulls_k92_whole_houses_multiplied.prog) (w := w) (base := base) (T := T) (C := He.ga K "Board") F_weight_of m_weight_of B 
    have h_average := ok_average (P := PySem.Challenge.rw_stakehulls_k92_whole_houses_multiplied.prog) (w := w) (base := base) (T := T) (C := He.ga K "Board") F_average m_average B h_ratio h_weight_of
    have h_amounts := ok_amounts (P := PySem.Challenge.rw_stakehulls_k92_whole_houses_multiplied.prog) (w := w) (base := base) (T := T) (C := He.ga K "Board") F_amounts m_amounts B BB h_average
    have h_less := ok_less (P := PySem.Challenge.rw_stakehulls_k92_whole_houses_multiplied.prog) (w := w) (base := base) (T := T) (C := He.ga K "Board") F_less m_less B 
    have h_better_choice := ok_better_choice (P := PySem.Challenge.rw_stakehulls_k92_whole_houses_multiplied.prog) (w := w) (base := base) (T := T) (C := He.ga K "Board") F_better_choice m_better_choice B BB h_amounts h_less
    have h_improved_for := ok_improved_for (P := PySem.Challenge.rw_stakehulls_k92_whole_houses_multiplied.prog) (w := w) (base := base) (T := T) (C := He.ga K "Board") F_improved_for m_improved_for B BB h_better_choice
    have h_is_choice := ok_is_choice (P := PySem.Challenge.rw_stakehulls_k92_whole_houses_multiplied.prog) (w := w) (base := base) (T := T) (C := He.ga K "Board") F_is_choice m_is_choice B BB 
    have h_want_way := ok_want_way (P := PySem.Challenge.rw_stakehulls_k92_whole_houses_multiplied.prog) (w := w) (base := base) (T := T) (C := He.ga K "Board") F_want_way m_want_way B BB h_is_choice
    have h_arrows_back := ok_arrows_back (P := PySem.Challenge.rw_stakehulls_k92_whole_houses_multiplied.prog) (w := w) (base := base) (T := T) (C := He.ga K "Board") F_arrows_back m_arrows_back B 
    have h_comes := ok_comes (P := PySem.Challenge.rw_stakehulls_k92_whole_houses_multiplied.prog) (w := w) (base := base) (T := T) (C := He.ga K "Board") F_comes m_comes B h_arrows_back
    have h_led_to := ok_led_to (P := PySem.Challenge.rw_stakehulls_k92_whole_houses_multiplied.prog) (w := w) (base := base) (T := T) (C := He.ga K "Board") F_led_to m_led_to B BB 
    have h_live_places := ok_live_places (P := PySem.Challenge.rw_stakehulls_k92_whole_houses_multiplied.prog) (w := w) (base := base) (T := T) (C := He.ga K "Board") F_live_places m_live_places B BB h_comes h_led_to
    have h_inner_places := ok_inner_places (P := PySem.Challenge.rw_stakehulls_k92_whole_houses_multiplied.prog) (w := w) (base := base) (T := T) (C := He.ga K "Board") F_inner_places m_inner_places B BB h_live_places
    have h_pivot_of := ok_pivot_of (P := PySem.Challenge.rw_stakehulls_k92_whole_houses_multiplied.prog) (w := w) (base := base) (T := T) (C := He.ga K "Board") F_pivot_of m_pivot_of B 
    have h_cleared := ok_cleared (P := PySem.Challenge.rw_stakehulls_k92_whole_houses_multiplied.prog) (w := w) (base := base) (T := T) (C := He.ga K "Board") F_cleared m_cleared B 
    have h_whole_row := ok_whole_row (P := PySem.Challenge.rw_stakehulls_k92_whole_houses_multiplied.prog) (w := w) (base := base) (T := T) (C := He.ga K "Board") F_whole_row m_whole_row B 
    have h_solved := ok_solved (P := PySem.Challenge.rw_stakehulls_k92_whole_houses_multiplied.prog) (w := w) (base := base) (T := T) (C := He.ga K "Board") F_solved m_solved B co_solved (TB ("solved", none) (by decide)) (PT ("solved", none) (by decide)) h_pivot_of h_cleared h_whole_row h_ratio
    have h_plus := ok_plus (P := PySem.Challenge.rw_stakehulls_k92_whole_houses_multiplied.prog) (w := w) (base := base) (T := T) (C := He.ga K "Board") F_plus m_plus B h_ratio
    have h_times := ok_times (P := PySem.Challenge.rw_stakehulls_k92_whole_houses_multiplied.prog) (w := w) (base := base) (T := T) (C := He.ga K "Board") F_times m_times B h_ratio
    have h_stopping_sum := ok_stopping_sum (P := PySem.Challenge.rw_stakehulls_k92_whole_houses_multiplied.prog) (w := w) (base := base) (T := T) (C := He.ga K "Board") F_stopping_sum m_stopping_sum B BB h_plus h_times
    have h_weight_to := ok_weight_to (P := PySem.Challenge.rw_stakehulls_k92_whole_houses_multiplied.prog) (w := w) (base := base) (T := T) (C := He.ga K "Board") F_weight_to m_weight_to B 
    have h_square_row := ok_square_row (P := PySem.Challenge.rw_stakehulls_k92_whole_houses_multiplied.prog) (w := w) (base := base) (T := T) (C := He.ga K "Board") F_square_row m_square_row B BB h_weight_of h_weight_to
    have h_way_square := ok_way_square (P := PySem.Challenge.rw_stakehulls_k92_whole_houses_multiplied.prog) (w := w) (base := base) (T := T) (C := He.ga K "Board") F_way_square m_way_square B BB h_square_row
    have h_value := ok_value (P := PySem.Challenge.rw_stakehulls_k92_whole_houses_multiplied.prog) (w := w) (base := base) (T := T) (C := He.ga K "Board") F_value m_value B BB h_want_way h_inner_places h_solved h_stopping_sum h_way_square
    have h_worth := ok_worth (P := PySem.Challenge.rw_stakehulls_k92_whole_houses_multiplied.prog) (w := w) (base := base) (T := T) (C := He.ga K "Board") F_worth m_worth B BB h_improved_for h_value
    have h_are_places := ok_are_places (P := PySem.Challenge.rw_stakehulls_k92_whole_houses_multiplied.prog) (w := w) (base := base) (T := T) (C := He.ga K "Board") F_are_places m_are_places B co_are_places (TB ("are_places", none) (by decide)) (PT ("are_places", none) (by decide)) BB F_is_number m_is_number h_is_number
    have h_pushed := ok_pushed (P := PySem.Challenge.rw_stakehulls_k92_whole_houses_multiplied.prog) (w := w) (base := base) (T := T) (C := He.ga K "Board") F_pushed m_pushed B h_weight_of h_ratio
    have h_chances_of := ok_chances_of (P := PySem.Challenge.rw_stakehulls_k92_whole_houses_multiplied.prog) (w := w) (base := base) (T := T) (C := He.ga K "Board") F_chances_of m_chances_of B h_pushed
    have h_is_map := ok_is_map (P := PySem.Challenge.rw_stakehulls_k92_whole_houses_multiplied.prog) (w := w) (base := base) (T := T) (C := He.ga K "Board") F_is_map m_is_map B BB h_are_places h_chances_of
    have h__law_name := ok__law_name (P := PySem.Challenge.rw_stakehulls_k92_whole_houses_multiplied.prog) (w := w) (base := base) (T := T) (C := He.ga K "Board") F__law_name m__law_name B h__law_take
    have h__law_outs := ok__law_outs (P := PySem.Challenge.rw_stakehulls_k92_whole_houses_multiplied.prog) (w := w) (base := base) (T := T) (C := He.ga K "Board") F__law_outs m__law_outs B h__law_take h__law_one
    have h__law_table := ok__law_table (P := PySem.Challenge.rw_stakehulls_k92_whole_houses_multiplied.prog) (w := w) (base := base) (T := T) (C := He.ga K "Board") F__law_table m__law_table B h__law_one h__law_take h__law_name h__law_outs
    have h_goal_pays := ok_goal_pays (P := PySem.Challenge.rw_stakehulls_k92_whole_houses_multiplied.prog) (w := w) (base := base) (T := T) (C := He.ga K "Board") F_goal_pays m_goal_pays B h_check_goal
    have h__law_low := ok__law_low (P := PySem.Challenge.rw_stakehulls_k92_whole_houses_multiplied.prog) (w := w) (base := base) (T := T) (C := He.ga K "Board") F__law_low m__law_low B 
    have h__law_is_ratio := ok__law_is_ratio (P := PySem.Challenge.rw_stakehulls_k92_whole_houses_multiplied.prog) (w := w) (base := base) (T := T) (C := He.ga K "Board") F__law_is_ratio m__law_is_ratio B h__law_low
    have h__law_is_function := ok__law_is_function (P := PySem.Challenge.rw_stakehulls_k92_whole_houses_multiplied.prog) (w := w) (base := base) (T := T) (C := He.ga K "Board") F__law_is_function m__law_is_function B h__law_is_ratio
    have h__law_seen := ok__law_seen (P := PySem.Challenge.rw_stakehulls_k92_whole_houses_multiplied.prog) (w := w) (base := base) (T := T) (C := He.ga K "Board") F__law_seen m__law_seen B BB h__law_low
    exact ok_law F_law m_law B BB h__law_pool h__law_one h__law_times h__law_take h_laid h_worth h_is_map h__law_table h_goal_pays h__law_is_function h__law_seen
end
end SD
end
section
set_option maxHeartbeats 0
open PySem PySem.W PySem.Calls PyProof.Rows
theorem PySem.Challenge.cw_stakehulls_k92_whole_houses_multiplied_holds : PySem.Challenge.rw_stakehulls_k92_whole_houses_multiplied.Holds := by
  w_on; o_law
  refine HandSHeadRun.head_imp (r := SH.R) (q := SH.qv) (H := SH.hk) (ob := SH.ob) (M := 20000) (loose := SH.loose) (d := HandSHeadRun.topDef SH.R.prog 103) (kwd := []) SH.ob_eq SH.run (by kernel_rfl) (by kernel_rfl) (by kernel_rfl) (by rfl) (by first | assumption | decide +kernel) (by decide +kernel) ⟨rfl, rfl, rfl, rfl, rfl, by decide +kernel⟩ ?hw ?hc
  case hw => w_witness2
  case hc =>
    refine LamX.walk_ofTsE (l := PySem.Challenge.rw_stakehulls_k92_whole_houses_multiplied) (n := 63) (k := 8) (x := "_law_script") (CX := fun _ => L2.CX0) rfl (by decide) (by kernel_rfl) ⟨rfl, by decide, by decide⟩ ?F (fun _ _ _ _ _ z => z)
    intro w mg fa h Y G hmg0
    obtain ⟨K, KX, c⟩ := Y
    have hmg : mg ("law" : PySem.Str) = some (.ref fa) := by
      have e : (HandSHeadRun.topDef SH.R.prog 103).name = ("law" : PySem.Str) := by kernel_rfl
      rw [← e]
      exact hmg0
    exact ⟨K, KX, SD.lawAt KX G hmg c⟩
end
