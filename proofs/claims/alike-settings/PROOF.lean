import PyProof.Rows.All
import Wide.All
import OpenK.AllK
import Wide.FinOn
import KE.KStateDown
import HandS.ForMost
import HandS.Defaults
import HandS.HeadHook1
import HandS.HeadHook2
import HandS.HeadHook3
import HandS.HeadHook4
import PySem.Challenge.RW_comesback_k46_whole_alike_settings
import KE.KDictKeyed
import KE.KDictLaw
import HandS.Evl
import HandS.Style
import HandS.TupAny
import HandS.TupMul
import HandS.IsInst
import HandS.SetFor
import KE.GoesEnum
import KE.KeyNested
import KE.KDictDisplayH
import HandS.Dict
import HandS.Zip
import HandS.Sort
import HandS.TupLe
import HandS.Nested
import HandS.NestedK
import HandS.Lambda
import HandS.Head0
import HandS.Head1
import HandS.Head2
import HandS.HeadEnd
import HandS.HeadWalk
import HandS.EndTab
set_option Elab.async false
set_option linter.all false
set_option maxRecDepth 100000
/-! part K0 -/
set_option maxHeartbeats 4000000
namespace K46
open PySem PySem.Spec PyProof.Rows L2
def top (i : Nat) : Stmt := PySem.Challenge.pw_comesback_k46_whole_alike_settings.main.body.getD i (.Pass ⟨0, 0, 0, 0⟩)
abbrev s_is_whole : Stmt := top 17
abbrev s_is_count : Stmt := top 18
abbrev s_is_fuse : Stmt := top 19
abbrev s_is_setting : Stmt := top 20
abbrev s_need_setting : Stmt := top 21
abbrev s_most_tokens : Stmt := top 22
abbrev s_most_rest : Stmt := top 23
abbrev s_first_of : Stmt := top 24
abbrev s_first_state : Stmt := top 25
abbrev s_is_queue : Stmt := top 26
abbrev s_is_later : Stmt := top 27
abbrev s_is_state_of : Stmt := top 28
abbrev s_need_state : Stmt := top 29
abbrev s_need_most : Stmt := top 30
abbrev s_coming : Stmt := top 34
abbrev s_entered : Stmt := top 35
abbrev s_served : Stmt := top 36
abbrev s_aged : Stmt := top 37
abbrev s_shut_then : Stmt := top 38
abbrev s_step : Stmt := top 39
abbrev s_is_row : Stmt := top 40
abbrev s_steps : Stmt := top 41
abbrev s_need_all : Stmt := top 42
abbrev s_run : Stmt := top 43
abbrev s_G_init : Stmt := inClass (top 46) 0
abbrev s_G_row_to : Stmt := inClass (top 46) 1
abbrev s_both : Stmt := top 49
abbrev s_alike : Stmt := top 50
abbrev s_divisor : Stmt := top 53
abbrev s_round_among : Stmt := top 54
abbrev s_climbed : Stmt := top 55
abbrev s_worth_of : Stmt := top 56
abbrev s_quotient : Stmt := top 57
abbrev s_full_round : Stmt := top 58
abbrev s_long_run : Stmt := top 59
abbrev s_worst : Stmt := top 60
abbrev s_law_first : Stmt := top 62
abbrev s_law_comers : Stmt := top 63
abbrev s_law_waited : Stmt := top 64
abbrev s_law_step : Stmt := top 65
abbrev s_law_both : Stmt := top 66
abbrev s_law_draw : Stmt := top 67
abbrev s_law_pick : Stmt := top 68
abbrev s_law_pen : Stmt := top 69
abbrev s_law_cell_at : Stmt := top 70
abbrev s_law_small : Stmt := top 71
abbrev s_law_few : Stmt := top 72
abbrev s_law_bare : Stmt := top 73
abbrev s_law_answers : Stmt := top 74
abbrev s_law_right : Stmt := top 75
abbrev s_law_no_queue : Stmt := top 76
abbrev s_law : Stmt := top 77
def d_is_whole : He.DefD := ⟨("is_whole", none), "is_whole", "is_whole", defArgs s_is_whole, defBody s_is_whole, defScope s_is_whole, [], []⟩
def d_is_count : He.DefD := ⟨("is_count", none), "is_count", "is_count", defArgs s_is_count, defBody s_is_count, defScope s_is_count, [], []⟩
def d_is_fuse : He.DefD := ⟨("is_fuse", none), "is_fuse", "is_fuse", defArgs s_is_fuse, defBody s_is_fuse, defScope s_is_fuse, [], []⟩
def d_is_setting : He.DefD := ⟨("is_setting", none), "is_setting", "is_setting", defArgs s_is_setting, defBody s_is_setting, defScope s_is_setting, [], []⟩
def d_need_setting : He.DefD := ⟨("need_setting", none), "need_setting", "need_setting", defArgs s_need_setting, defBody s_need_setting, defScope s_need_setting, [], []⟩
def d_most_tokens : He.DefD := ⟨("most_tokens", none), "most_tokens", "most_tokens", defArgs s_most_tokens, defBody s_most_tokens, defScope s_most_tokens, [], []⟩
def d_most_rest : He.DefD := ⟨("most_rest", none), "most_rest", "most_rest", defArgs s_most_rest, defBody s_most_rest, defScope s_most_rest, [], []⟩
def d_first_of : He.DefD := ⟨("first_of", none), "first_of", "first_of", defArgs s_first_of, defBody s_first_of, defScope s_first_of, [], []⟩
def d_first_state : He.DefD := ⟨("first_state", none), "first_state", "first_state", defArgs s_first_state, defBody s_first_state, defScope s_first_state, [], []⟩
def d_is_queue : He.DefD := ⟨("is_queue", none), "is_queue", "is_queue", defArgs s_is_queue, defBody s_is_queue, defScope s_is_queue, [], []⟩
def d_is_later : He.DefD := ⟨("is_later", none), "is_later", "is_later", defArgs s_is_later, defBody s_is_later, defScope s_is_later, [], []⟩
def d_is_state_of : He.DefD := ⟨("is_state_of", none), "is_state_of", "is_state_of", defArgs s_is_state_of, defBody s_is_state_of, defScope s_is_state_of, [], []⟩
def d_need_state : He.DefD := ⟨("need_state", none), "need_state", "need_state", defArgs s_need_state, defBody s_need_state, defScope s_need_state, [], []⟩
def d_need_most : He.DefD := ⟨("need_most", none), "need_most", "need_most", defArgs s_need_most, defBody s_need_most, defScope s_need_most, [.int 1], []⟩
def d_coming : He.DefD := ⟨("coming", none), "coming", "coming", defArgs s_coming, defBody s_coming, defScope s_coming, [], []⟩
def d_entered : He.DefD := ⟨("entered", none), "entered", "entered", defArgs s_entered, defBody s_entered, defScope s_entered, [], []⟩
def d_served : He.DefD := ⟨("served", none), "served", "served", defArgs s_served, defBody s_served, defScope s_served, [], []⟩
def d_aged : He.DefD := ⟨("aged", none), "aged", "aged", defArgs s_aged, defBody s_aged, defScope s_aged, [], []⟩
def d_shut_then : He.DefD := ⟨("shut_then", none), "shut_then", "shut_then", defArgs s_shut_then, defBody s_shut_then, defScope s_shut_then, [], []⟩
def d_step : He.DefD := ⟨("step", none), "step", "step", defArgs s_step, defBody s_step, defScope s_step, [], []⟩
def d_is_row : He.DefD := ⟨("is_row", none), "is_row", "is_row", defArgs s_is_row, defBody s_is_row, defScope s_is_row, [], []⟩
def d_steps : He.DefD := ⟨("steps", none), "steps", "steps", defArgs s_steps, defBody s_steps, defScope s_steps, [], []⟩
def d_need_all : He.DefD := ⟨("need_all", none), "need_all", "need_all", defArgs s_need_all, defBody s_need_all, defScope s_need_all, [], []⟩
def d_run : He.DefD := ⟨("run", none), "run", "run", defArgs s_run, defBody s_run, defScope s_run, [], []⟩
def d_G_init : He.DefD := ⟨("Graph", some "__init__"), "__init__", "Graph.__init__", defArgs s_G_init, defBody s_G_init, defScope s_G_init, [], []⟩
def d_G_row_to : He.DefD := ⟨("Graph", some "row_to"), "row_to", "Graph.row_to", defArgs s_G_row_to, defBody s_G_row_to, defScope s_G_row_to, [], []⟩
def d_both : He.DefD := ⟨("both", none), "both", "both", defArgs s_both, defBody s_both, defScope s_both, [], []⟩
def d_alike : He.DefD := ⟨("alike", none), "alike", "alike", defArgs s_alike, defBody s_alike, defScope s_alike, [], []⟩
def d_divisor : He.DefD := ⟨("divisor", none), "divisor", "divisor", defArgs s_divisor, defBody s_divisor, defScope s_divisor, [], []⟩
def d_round_among : He.DefD := ⟨("round_among", none), "round_among", "round_among", defArgs s_round_among, defBody s_round_among, defScope s_round_among, [], []⟩
def d_climbed : He.DefD := ⟨("climbed", none), "climbed", "climbed", defArgs s_climbed, defBody s_climbed, defScope s_climbed, [], []⟩
def d_worth_of : He.DefD := ⟨("worth_of", none), "worth_of", "worth_of", defArgs s_worth_of, defBody s_worth_of, defScope s_worth_of, [], []⟩
def d_quotient : He.DefD := ⟨("quotient", none), "quotient", "quotient", defArgs s_quotient, defBody s_quotient, defScope s_quotient, [], []⟩
def d_full_round : He.DefD := ⟨("full_round", none), "full_round", "full_round", defArgs s_full_round, defBody s_full_round, defScope s_full_round, [], []⟩
def d_long_run : He.DefD := ⟨("long_run", none), "long_run", "long_run", defArgs s_long_run, defBody s_long_run, defScope s_long_run, [], []⟩
def d_worst : He.DefD := ⟨("worst", none), "worst", "worst", defArgs s_worst, defBody s_worst, defScope s_worst, [], []⟩
def d_law_first : He.DefD := ⟨("_law_first", none), "_law_first", "_law_first", defArgs s_law_first, defBody s_law_first, defScope s_law_first, [], []⟩
def d_law_comers : He.DefD := ⟨("_law_comers", none), "_law_comers", "_law_comers", defArgs s_law_comers, defBody s_law_comers, defScope s_law_comers, [], []⟩
def d_law_waited : He.DefD := ⟨("_law_waited", none), "_law_waited", "_law_waited", defArgs s_law_waited, defBody s_law_waited, defScope s_law_waited, [], []⟩
def d_law_step : He.DefD := ⟨("_law_step", none), "_law_step", "_law_step", defArgs s_law_step, defBody s_law_step, defScope s_law_step, [], []⟩
def d_law_both : He.DefD := ⟨("_law_both", none), "_law_both", "_law_both", defArgs s_law_both, defBody s_law_both, defScope s_law_both, [], []⟩
def d_law_draw : He.DefD := ⟨("_law_draw", none), "_law_draw", "_law_draw", defArgs s_law_draw, defBody s_law_draw, defScope s_law_draw, [], []⟩
def d_law_pick : He.DefD := ⟨("_law_pick", none), "_law_pick", "_law_pick", defArgs s_law_pick, defBody s_law_pick, defScope s_law_pick, [], []⟩
def d_law_pen : He.DefD := ⟨("_law_pen", none), "_law_pen", "_law_pen", defArgs s_law_pen, defBody s_law_pen, defScope s_law_pen, [], []⟩
def d_law_cell_at : He.DefD := ⟨("_law_cell_at", none), "_law_cell_at", "_law_cell_at", defArgs s_law_cell_at, defBody s_law_cell_at, defScope s_law_cell_at, [], []⟩
def d_law_small : He.DefD := ⟨("_law_small", none), "_law_small", "_law_small", defArgs s_law_small, defBody s_law_small, defScope s_law_small, [], []⟩
def d_law_few : He.DefD := ⟨("_law_few", none), "_law_few", "_law_few", defArgs s_law_few, defBody s_law_few, defScope s_law_few, [], []⟩
def d_law_bare : He.DefD := ⟨("_law_bare", none), "_law_bare", "_law_bare", defArgs s_law_bare, defBody s_law_bare, defScope s_law_bare, [], []⟩
def d_law_answers : He.DefD := ⟨("_law_answers", none), "_law_answers", "_law_answers", defArgs s_law_answers, defBody s_law_answers, defScope s_law_answers, [], []⟩
def d_law_right : He.DefD := ⟨("_law_right", none), "_law_right", "_law_right", defArgs s_law_right, defBody s_law_right, defScope s_law_right, [], []⟩
def d_law_no_queue : He.DefD := ⟨("_law_no_queue", none), "_law_no_queue", "_law_no_queue", defArgs s_law_no_queue, defBody s_law_no_queue, defScope s_law_no_queue, [], []⟩
def d_law : He.DefD := ⟨("law", none), "law", "law", defArgs s_law, defBody s_law, defScope s_law, [], []⟩
def fn : List He.DefD := [d_is_whole, d_is_count, d_is_fuse, d_is_setting, d_need_setting, d_most_tokens, d_most_rest, d_first_of, d_first_state, d_is_queue, d_is_later, d_is_state_of, d_need_state, d_need_most, d_coming, d_entered, d_served, d_aged, d_shut_then, d_step, d_is_row, d_steps, d_need_all, d_run, d_G_init, d_G_row_to, d_both, d_alike, d_divisor, d_round_among, d_climbed, d_worth_of, d_quotient, d_full_round, d_long_run, d_worst, d_law_first, d_law_comers, d_law_waited, d_law_step, d_law_both, d_law_draw, d_law_pick, d_law_pen, d_law_cell_at, d_law_small, d_law_few, d_law_bare, d_law_answers, d_law_right, d_law_no_queue, d_law]
def fa : List He.Fa := [.glo "is_whole", .glo "is_count", .glo "is_fuse", .glo "is_setting", .glo "need_setting", .glo "most_tokens", .glo "most_rest", .glo "first_of", .glo "first_state", .glo "is_queue", .glo "is_later", .glo "is_state_of", .glo "need_state", .glo "need_most", .glo "coming", .glo "entered", .glo "served", .glo "aged", .glo "shut_then", .glo "step", .glo "is_row", .glo "steps", .glo "need_all", .glo "run", .glo "both", .glo "alike", .glo "divisor", .glo "round_among", .glo "climbed", .glo "worth_of", .glo "quotient", .glo "full_round", .glo "long_run", .glo "worst", .glo "_law_first", .glo "_law_comers", .glo "_law_waited", .glo "_law_step", .glo "_law_both", .glo "_law_draw", .glo "_law_pick", .glo "_law_pen", .glo "_law_cell_at", .glo "_law_small", .glo "_law_few", .glo "_law_bare", .glo "_law_answers", .glo "_law_right", .glo "_law_no_queue", .glo "law", .glo "ServeError", .glo "NoSetting", .glo "NoState", .glo "NoRow", .glo "NoMost", .glo "TooMany", .glo "Graph", .int "MOST_WORK" 3, .int "MOST_ROOM" 5, .int "MOST_PATIENCE" 4, .int "MOST_TRIES" 3, .int "MOST_WAIT" 3, .int "MOST_TOKENS" 4, .int "MOST_OF_FUSE" 3, .int "MOST_STEADY" 9, .int "MOST_FRESH" 999, .int "LONGEST_ROW" 200, .int "LIMIT" 2000, .int "ANSWERED_alike" 1, .int "ANSWERED_loads" 1, .free "isinstance", .free "int", .free "bool", .free "tuple", .free "len", .free "str", .free "all", .free "zip", .free "min", .free "max", .free "enumerate", .free "range", .free "sum", .free "sorted", .free "list", .cls "Graph", .mkr "Graph", .meth "Graph" "row_to", .noat "Graph" "nodes", .noat "Graph" "edges", .noat "Graph" "before", .glo "WAYS"]

def tf : List He.Defn := [("alike", none), ("worth_of", none), ("long_run", none)]
def ex (K : PySem.W.Frag) : Bool := He.tupB K "WAYS" [.str "oldest", .str "newest"] && (decide ((He.cT K ("alike", none)).2 ≠ (He.cT K ("worth_of", none)).2) && (decide ((He.cT K ("alike", none)).2 ≠ (He.cT K ("long_run", none)).2) && decide ((He.cT K ("worth_of", none)).2 ≠ (He.cT K ("long_run", none)).2)))
end K46
/-! part L0 -/
set_option maxHeartbeats 4000000
namespace K46
open PySem PySem.Spec PyProof.Rows L2 Evl

/-! ### data -/
inductive Da where
  | non | bl (b : Bool) | int (i : Int) | str (s : Str) | tup (ds : List Da)

mutual
def Rp (H : Hp) : Da → V → Prop
  | .non, v => v = .non
  | .bl b, v => v = .bl b
  | .int i, v => v = .int i
  | .str s, v => v = .str s
  | .tup ds, v => ∃ a xs, v = .ref a ∧ H a = some (.tup xs) ∧ RpL H ds xs
def RpL (H : Hp) : List Da → List V → Prop
  | [], xs => xs = []
  | d :: ds, xs => ∃ x r, xs = x :: r ∧ Rp H d x ∧ RpL H ds r
end

/-- the tuples stay -/
def Tm (H H' : Hp) : Prop := ∀ b xs, H b = some (.tup xs) → H' b = some (.tup xs)
theorem Tm.refl (H : Hp) : Tm H H := fun _ _ h => h
theorem Tm.trans {H H1 H2 : Hp} (a : Tm H H1) (b : Tm H1 H2) : Tm H H2 := fun c xs h => b c xs (a c xs h)
theorem tm_ex {H H' : Hp} (e : Ex H H') : Tm H H' := fun b xs h => e b _ h
theorem tm_upd {H : Hp} {l : Addr} {o o' : HO} (h : H l = some o) (ho : ∀ xs, o ≠ .tup xs) : Tm H (upd H l o') := fun b xs q => by
  rw [upd_ne]
  · exact q
  · rintro rfl
    rw [h] at q
    exact ho xs (Option.some.inj q)
mutual
theorem Rp.mono {H H' : Hp} (t : Tm H H') : ∀ {d : Da} {v : V}, Rp H d v → Rp H' d v
  | .non, _, h => h
  | .bl _, _, h => h
  | .int _, _, h => h
  | .str _, _, h => h
  | .tup ds, v, h => by
    obtain ⟨a, xs, e, h1, h2⟩ := h
    exact ⟨a, xs, e, t a xs h1, RpL.mono t h2⟩
theorem RpL.mono {H H' : Hp} (t : Tm H H') : ∀ {ds : List Da} {xs : List V}, RpL H ds xs → RpL H' ds xs
  | [], _, h => h
  | d :: ds, xs, h => by
    obtain ⟨x, r, e, h1, h2⟩ := h
    exact ⟨x, r, e, Rp.mono t h1, RpL.mono t h2⟩
end
theorem RpL.length {H : Hp} : ∀ {ds : List Da} {xs : List V}, RpL H ds xs → xs.length = ds.length
  | [], _, h => by cases (show _ = [] from h); rfl
  | d :: ds, xs, h => by
    obtain ⟨x, r, rfl, _, h2⟩ := h
    simp [RpL.length h2]
theorem RpL.get {H : Hp} : ∀ {ds : List Da} {xs : List V} {i : Nat} {d : Da}, RpL H ds xs → ds[i]? = some d → ∃ x, xs[i]? = some x ∧ Rp H d x
  | [], _, i, d, _, e => by simp at e
  | d :: ds, xs, 0, d', h, e => by
    obtain ⟨x, r, rfl, h1, _⟩ := h
    simp at e; subst e
    exact ⟨x, rfl, h1⟩
  | d :: ds, xs, i + 1, d', h, e => by
    obtain ⟨x, r, rfl, _, h2⟩ := h
    obtain ⟨y, q1, q2⟩ := RpL.get (i := i) h2 (by simpa using e)
    exact ⟨y, by simpa using q1, q2⟩
theorem RpL.get' {H : Hp} {ds : List Da} {xs : List V} {i : Nat} {x : V} (h : RpL H ds xs) (e : xs[i]? = some x) : ∃ d, ds[i]? = some d ∧ Rp H d x := by
  have hl := h.length
  have hi : i < xs.length := (List.getElem?_eq_some_iff.mp e).1
  have hd : ds[i]? = some ds[i] := List.getElem?_eq_getElem (by omega)
  obtain ⟨y, q1, q2⟩ := h.get hd
  rw [e] at q1; cases q1
  exact ⟨_, hd, q2⟩
theorem RpL.append {H : Hp} : ∀ {ds es : List Da} {xs ys : List V}, RpL H ds xs → RpL H es ys → RpL H (ds ++ es) (xs ++ ys)
  | [], _, _, _, h, k => by cases (show _ = [] from h); exact k
  | d :: ds, _, _, _, h, k => by
    obtain ⟨x, r, rfl, h1, h2⟩ := h
    exact ⟨x, r ++ _, rfl, h1, RpL.append h2 k⟩
theorem RpL.take {H : Hp} : ∀ {ds : List Da} {xs : List V} (n : Nat), RpL H ds xs → RpL H (ds.take n) (xs.take n)
  | [], _, n, h => by cases (show _ = [] from h); simp [RpL]
  | d :: ds, _, 0, h => by simp [RpL]
  | d :: ds, _, n + 1, h => by
    obtain ⟨x, r, rfl, h1, h2⟩ := h
    exact ⟨x, r.take n, rfl, h1, RpL.take n h2⟩
theorem RpL.drop {H : Hp} : ∀ {ds : List Da} {xs : List V} (n : Nat), RpL H ds xs → RpL H (ds.drop n) (xs.drop n)
  | [], _, n, h => by cases (show _ = [] from h); simp [RpL]
  | d :: ds, _, 0, h => h
  | d :: ds, _, n + 1, h => by
    obtain ⟨x, r, rfl, h1, h2⟩ := h
    exact RpL.drop n h2
theorem RpL.snoc {H : Hp} {ds : List Da} {xs : List V} {d : Da} {x : V} (h : RpL H ds xs) (k : Rp H d x) : RpL H (ds ++ [d]) (xs ++ [x]) := h.append ⟨x, [], rfl, k, rfl⟩
theorem rpl_ints {H : Hp} : ∀ (ns : List Int), RpL H (ns.map Da.int) (ns.map V.int)
  | [] => rfl
  | n :: ns => ⟨.int n, ns.map V.int, rfl, rfl, rpl_ints ns⟩
theorem rpl_ints_of {H : Hp} : ∀ {ns : List Int} {xs : List V}, RpL H (ns.map Da.int) xs → xs = ns.map V.int
  | [], _, h => h
  | n :: ns, xs, h => by
    obtain ⟨x, r, rfl, h1, h2⟩ := h
    rw [show x = V.int n from h1, rpl_ints_of h2]
    rfl
abbrev vn (n : Nat) : V := .int (n : Int)
abbrev dn (n : Nat) : Da := .int (n : Int)
theorem rpl_nats {H : Hp} : ∀ (ns : List Nat), RpL H (ns.map dn) (ns.map vn)
  | [] => rfl
  | n :: ns => ⟨vn n, ns.map vn, rfl, rfl, rpl_nats ns⟩
theorem rpl_nats_of {H : Hp} : ∀ {ns : List Nat} {xs : List V}, RpL H (ns.map dn) xs → xs = ns.map vn
  | [], _, h => h
  | n :: ns, xs, h => by
    obtain ⟨x, r, rfl, h1, h2⟩ := h
    rw [show x = vn n from h1, rpl_nats_of h2]
    rfl

/-! ### new objects, changed lists: the heap behind is a letter -/
theorem alloc {H : Hp} {o : HO} {Q : VK} (k : ∀ p H', H p = none → Ex H H' → H' p = some o → Q (.ref p) H') : ∀ p, H p = none → Q (.ref p) (upd H p o) :=
  fun p hp => k p _ hp (Ex.new hp) upd_same
/-- all but l stay -/
def Bt (l : Addr) (H H' : Hp) : Prop := ∀ b o, b ≠ l → H b = some o → H' b = some o
theorem bt_upd {H : Hp} {l : Addr} {o : HO} : Bt l H (upd H l o) := fun b u n h => by rw [upd_ne n]; exact h
theorem mutl {H : Hp} {l : Addr} {o : HO} {G : Hp → Prop} (k : ∀ H', Bt l H H' → H' l = some o → G H') : G (upd H l o) := k _ bt_upd upd_same
theorem Bt.tm {H H' : Hp} {l : Addr} {xs : List V} (b : Bt l H H') (h : H l = some (.lst xs)) : Tm H H' := fun a ys q => b a _ (fun z => by rw [z, h] at q; cases q) q
/-- what was not there may change -/
theorem _root_.Evl.Ex.bt {H0 H H' : Hp} {l : Addr} (e : Ex H0 H) (n : H0 l = none) (b : Bt l H H') : Ex H0 H' := fun a o h => b a o (ne_of_none h n) (e a o h)

/-! ### the text, the facts of the top -/
def FnP (K : PySem.W.Frag) (x q : Str) (st : Stmt) (dfl : List V) (f : Addr) (fd : FuncData) : Prop := FunD K x q (defArgs st) (defBody st) (defScope st) dfl [] f fd

/-- a global name that can be called: its promise -/
structure Cal (P : Program) (w : World) (K : PySem.W.Frag) (mg : Str → Option Value) (base : Heap) (k : Nat) (x : Str) (ps : List Str) (sp : Sp) : Prop where
  ex : ∃ f fd, FnOk P w K mg base CX0 k f fd ps sp ∧ mg x = some (.ref f) ∧ PySem.W.keepIn K (.ref f) = true ∧ L2.Binds K fd ps []
/-- what the top has left -/
structure Bas (w : World) (K : PySem.W.Frag) (mg : Str → Option Value) : Prop where
  fact : ∀ f ∈ fa, f.ok K = true
  def_ : ∀ d ∈ fn, ∃ fd, FunD K d.name d.qual d.params d.body d.scope (d.dvs K) (d.kws K) (He.fAd K d.at_) fd
  glob : ∃ h : Heap, K.In h ∧ h.Ns mainGlobals mg
  way : ∀ H : Hp, SqT K H (He.ga K "WAYS") [.str "oldest", .str "newest"]
section
variable {P : Program} {w : World} {K : PySem.W.Frag} {mg : Str → Option Value} {base : Heap}
theorem Bas.free (B : Bas w K mg) (j : Nat) {x : Str} (h : fa[j]? = some (.free x) := by rfl) : mg x = none := by
  obtain ⟨hp, hK, G⟩ := B.glob
  exact He.free_ok hK G (B.fact _ (List.mem_of_getElem? h))
theorem Bas.glo (B : Bas w K mg) (j : Nat) {x : Str} (h : fa[j]? = some (.glo x) := by rfl) : mg x = some (.ref (He.ga K x)) := by
  obtain ⟨hp, hK, G⟩ := B.glob
  exact He.glo_ok hK G (B.fact _ (List.mem_of_getElem? h))
theorem Bas.int (B : Bas w K mg) (j : Nat) {x : Str} {i : Int} (h : fa[j]? = some (.int x i) := by rfl) : ∃ t, mg x = some (.int i t) := by
  obtain ⟨hp, hK, G⟩ := B.glob
  exact He.int_ok hK G (B.fact _ (List.mem_of_getElem? h))
theorem mem_at {α : Type} {l : List α} {i : Nat} {d : α} (h : l[i]? = some d) : d ∈ l := List.mem_of_getElem? h
/-- a def of the text keeps its promise -/
theorem Bas.cal (B : Bas w K mg) (x : Str) (i j : Nat) {d : He.DefD} {N ps : List Str} {k : Nat} {sp : Sp} (hd : fn[i]? = some d) (hj : fa[j]? = some (.glo x)) (hat : d.at_ = (x, none)) (hdf : d.dfl = []) (hkw : d.kwd = []) (S : FnScope N ps d.scope)
    (len : ∀ vs H Q E, sp vs H Q E → vs.length = ps.length)
    (hb : ∀ (kV doc pm : Value) (an : Option Addr) (cdv ct : Value) (us : List Value), us.length = ps.length → bindArgs (PySem.W.fnOf d.name d.qual d.params d.body d.scope .none kV doc pm an cdv ct) ⟨us, []⟩ = pure (ps.zip us))
    (hbody : ∀ (f : Addr) (cdv : Value) (A : Around) (outer : List Env) (s : Shared) (H : Hp) (vs : List V) (Q : VK) (E : XK), Room k (A.deeper (envOfC d.qual d.scope s.heap.objs.size f cdv)) → sp vs H Q E →
      ∃ t, PSs (cxOf CX0 P w K mg base N d.qual d.scope f cdv A outer s H E).nox d.body t ∧ t { nx := fun _ H' => Q .non H', rt := Q } (start N vs) H) : Cal P w K mg base (k + 1) x ps sp := by
  obtain ⟨fd, F⟩ := B.def_ d (mem_at hd)
  have e1 : d.dvs K = [] := by unfold He.DefD.dvs; rw [hdf]; rfl
  have e2 : d.kws K = [] := by unfold He.DefD.kws; rw [hkw]; rfl
  rw [e1, e2] at F
  have e3 : He.fAd K d.at_ = He.ga K x := by rw [hat]; rfl
  rw [e3] at F
  exact ⟨_, fd, F.ok S len (fun cdv A outer s H vs Q E hr h => let ⟨t, h1, h2⟩ := hbody _ cdv A outer s H vs Q E hr h; ⟨t, h1.nox, h2⟩), B.glo j hj, F.kp, F.bindsN hb⟩
end
section
variable {X : Cx} {k j : Nat} {x : Str} {ps : List Str} {sp : Sp} {p pos : Pos} {e : Expr} {es : List Expr} {t : TA}
theorem pe_cal (C : Cal X.prog X.w X.K X.mg X.base k x ps sp) (hr : Room j X.A) (hk : k ≤ j) (hg : Gl X x) (ha : PA X (e :: es) t) (hdb : (x == ("__debug__" : Str)) = false := by decide)
    (he : starEach (e :: es) X.env = (false, eval e X.env) :: starEach es X.env := by rfl) (hpl : (backTo pos (starEach es X.env)).any (·.1) = false := by rfl) :
    PE X (.Call (.Name x p) (e :: es) [] pos) (tCall sp [] E0 t) := by
  obtain ⟨f, fd, F, hm, kp, hb⟩ := C.ex
  exact pe_call F (hr.mono hk) hg hm kp hb .nil pass0 ha hdb he hpl
end
end K46
/-! part L1 -/
set_option maxHeartbeats 4000000
namespace K46
open PySem PySem.Spec PyProof.Rows L2 Evl
section
variable {X : Cx} {e a b c : Expr} {ta tb : TE} {pos p1 : Pos} {j : Nat}
/-! ### an item at a written place -/
def tIxk (i : Int) (ta : TE) : TE := fun σ H Q => ta σ H fun x H1 => ∃ a xs v, x = .ref a ∧ H1 a = some (.tup xs) ∧ xs[i.toNat]? = some v ∧ Q v H1
def tIxkL (i : Int) (ta : TE) : TE := fun σ H Q => ta σ H fun x H1 => ∃ a xs v, x = .ref a ∧ H1 a = some (.lst xs) ∧ xs[i.toNat]? = some v ∧ Q v H1
theorem pe_ixk {i : Int} (ha : PE X a ta) (hi : 0 ≤ i := by decide) : PE X (.Subscript a (.Constant (.int i) j p1) pos) (tIxk i ta) := by
  refine ⟨fun pins s σ H Q I h => ?_⟩
  refine Subscript_ (thn (ha.run pins s σ H _ I h) fun v s1 ⟨x, H1, I1, r1, a, xs, w, ex, hx, hw, q⟩ => ?_)
  refine thn ((pe_int (X := X) (i := i) (j := j) (pos := p1)).run pins s1 σ H1 (fun y H2 => y = .int i ∧ H2 = H1) I1 ⟨rfl, rfl⟩) fun u s2 ⟨y, H2, I2, r2, e1, e2⟩ => ?_
  subst e1 e2
  refine ix_tup _ _ pins s2 σ H2 x (.int i) v u Q I2 r1 r2 ⟨a, xs, i, w, ex, rfl, SqT.of hx, ?_, q⟩ rfl
  have := atI_nat hw
  rw [Int.toNat_of_nonneg hi] at this
  exact this
theorem pe_ixkL {i : Int} (ha : PE X a ta) (hi : 0 ≤ i := by decide) : PE X (.Subscript a (.Constant (.int i) j p1) pos) (tIxkL i ta) := by
  refine ⟨fun pins s σ H Q I h => ?_⟩
  refine Subscript_ (thn (ha.run pins s σ H _ I h) fun v s1 ⟨x, H1, I1, r1, a, xs, w, ex, hx, hw, q⟩ => ?_)
  refine thn ((pe_int (X := X) (i := i) (j := j) (pos := p1)).run pins s1 σ H1 (fun y H2 => y = .int i ∧ H2 = H1) I1 ⟨rfl, rfl⟩) fun u s2 ⟨y, H2, I2, r2, e1, e2⟩ => ?_
  subst e1 e2
  refine ix_list _ _ pins s2 σ H2 x (.int i) v u Q I2 r1 r2 ⟨a, xs, i, w, ex, rfl, SqL.of hx, ?_, q⟩ rfl
  have := atI_nat hw
  rw [Int.toNat_of_nonneg hi] at this
  exact this
/-! ### whole numbers from 0 on -/
def rAN : R2 := fun x y H Q => ∃ m n : Nat, x = vn m ∧ y = vn n ∧ Q (vn (m + n)) H
def rSN : R2 := fun x y H Q => ∃ m n : Nat, x = vn m ∧ y = vn n ∧ n ≤ m ∧ Q (vn (m - n)) H
def rCN (p : Nat → Nat → Bool) : R2 := fun x y H Q => ∃ m n : Nat, x = vn m ∧ y = vn n ∧ Q (.bl (p m n)) H
theorem vn_add (m n : Nat) : V.int ((m : Int) + (n : Int)) = vn (m + n) := by simp [vn]
theorem vn_sub {m n : Nat} (h : n ≤ m) : V.int ((m : Int) - (n : Int)) = vn (m - n) := by
  have : ((m - n : Nat) : Int) = (m : Int) - (n : Int) := Int.ofNat_sub h
  simp [vn, this]
theorem op_addN : OpR X (binaryOp .Add) rAN := by
  intro pins s σ H x y v u Q I rx ry h
  obtain ⟨m, n, e1, e2, q⟩ := h
  exact op_add pins s σ H x y v u Q I rx ry ⟨m, n, e1, e2, by show Q (V.int ((m : Int) + (n : Int))) H; rw [vn_add]; exact q⟩
theorem op_subN : OpR X (binaryOp .Sub) rSN := by
  intro pins s σ H x y v u Q I rx ry h
  obtain ⟨m, n, e1, e2, hl, q⟩ := h
  exact op_sub pins s σ H x y v u Q I rx ry ⟨m, n, e1, e2, by show Q (V.int ((m : Int) - (n : Int))) H; rw [vn_sub hl]; exact q⟩
theorem op_ltN : OpR X (compareOp .Lt) (rCN fun m n => decide (m < n)) := by
  intro pins s σ H x y v u Q I rx ry h
  obtain ⟨m, n, e1, e2, q⟩ := h
  exact op_lt pins s σ H x y v u Q I rx ry ⟨m, n, e1, e2, by simpa using q⟩
theorem op_leN : OpR X (compareOp .LtE) (rCN fun m n => decide (m ≤ n)) := by
  intro pins s σ H x y v u Q I rx ry h
  obtain ⟨m, n, e1, e2, q⟩ := h
  exact op_le pins s σ H x y v u Q I rx ry ⟨m, n, e1, e2, by simpa using q⟩
theorem op_gtN : OpR X (compareOp .Gt) (rCN fun m n => decide (n < m)) := by
  intro pins s σ H x y v u Q I rx ry h
  obtain ⟨m, n, e1, e2, q⟩ := h
  exact op_gt pins s σ H x y v u Q I rx ry ⟨m, n, e1, e2, by simpa using q⟩
theorem op_geN : OpR X (compareOp .GtE) (rCN fun m n => decide (n ≤ m)) := by
  intro pins s σ H x y v u Q I rx ry h
  obtain ⟨m, n, e1, e2, q⟩ := h
  exact op_ge pins s σ H x y v u Q I rx ry ⟨m, n, e1, e2, by simpa using q⟩
theorem op_eqN : OpR X (compareOp .Eq) (rCN fun m n => decide (m = n)) := by
  intro pins s σ H x y v u Q I rx ry h
  obtain ⟨m, n, rfl, rfl, q⟩ := h
  refine op_eq pins s σ H _ _ v u Q I rx ry ⟨rfl, ?_⟩
  have : decide (vn m = vn n) = decide (m = n) := by
    rw [Bool.eq_iff_iff]; simp [vn]; omega
  rw [this]; exact q
theorem op_neN : OpR X (compareOp .NotEq) (rCN fun m n => !decide (m = n)) := by
  intro pins s σ H x y v u Q I rx ry h
  obtain ⟨m, n, rfl, rfl, q⟩ := h
  refine op_ne pins s σ H _ _ v u Q I rx ry ⟨rfl, ?_⟩
  have : decide (vn m = vn n) = decide (m = n) := by
    rw [Bool.eq_iff_iff]; simp [vn]; omega
  rw [this]; exact q
def rMinN : List V → Hp → VK → Prop := fun xs H Q => ∃ m n : Nat, xs = [vn m, vn n] ∧ Q (vn (min m n)) H
def rMaxN : List V → Hp → VK → Prop := fun xs H Q => ∃ m n : Nat, xs = [vn m, vn n] ∧ Q (vn (max m n)) H
theorem call_minN (hc : X.calm = true) : CallR X (.builtin "min") rMinN := by
  intro pins s σ H xs us Q I r h
  obtain ⟨m, n, e, q⟩ := h
  refine call_min2 hc pins s σ H xs us Q I r ⟨m, n, e, ?_⟩
  have : V.int (if (n : Int) < (m : Int) then (n : Int) else (m : Int)) = vn (min m n) := by
    by_cases hh : n < m
    · rw [if_pos (by omega)]; exact congrArg V.int (by omega)
    · rw [if_neg (by omega)]; exact congrArg V.int (by omega)
  rw [this]; exact q
theorem call_maxN (hc : X.calm = true) : CallR X (.builtin "max") rMaxN := by
  intro pins s σ H xs us Q I r h
  obtain ⟨m, n, e, q⟩ := h
  refine call_max2 hc pins s σ H xs us Q I r ⟨m, n, e, ?_⟩
  have : V.int (if (n : Int) > (m : Int) then (n : Int) else (m : Int)) = vn (max m n) := by
    by_cases hh : n > m
    · rw [if_pos (by omega)]; exact congrArg V.int (by omega)
    · rw [if_neg (by omega)]; exact congrArg V.int (by omega)
  rw [this]; exact q
end
/-! ### where the built-in names lead -/
theorem boot_isinstance : bootBuiltins "isinstance" = some (.builtin "isinstance") := by decide +kernel
theorem boot_int : bootBuiltins "int" = some (.type "int") := by decide +kernel
theorem boot_bool : bootBuiltins "bool" = some (.type "bool") := by decide +kernel
theorem boot_tuple : bootBuiltins "tuple" = some (.type "tuple") := by decide +kernel
theorem boot_str : bootBuiltins "str" = some (.type "str") := by decide +kernel
theorem boot_len : bootBuiltins "len" = some (.builtin "len") := by decide +kernel
theorem boot_all : bootBuiltins "all" = some (.builtin "all") := by decide +kernel
theorem boot_min : bootBuiltins "min" = some (.builtin "min") := by decide +kernel
theorem boot_max : bootBuiltins "max" = some (.builtin "max") := by decide +kernel
theorem boot_sum : bootBuiltins "sum" = some (.builtin "sum") := by decide +kernel
theorem boot_sorted : bootBuiltins "sorted" = some (.builtin "sorted") := by decide +kernel
theorem boot_list : bootBuiltins "list" = some (.type "list") := by decide +kernel
/-! ### tuple * number, any number from 0 on -/
theorem tuple_mulSame (l : Addr) (items : Array Value) (n : Nat) (dd : Option Addr) (sl : Array (Option Value)) (x : Int) (u : Tok) (c0 : (decide (x < -(2 ^ 63)) || decide (x ≥ 2 ^ 63)) = false) (c1 : (items.isEmpty || x == 1) = true) :
    Meets (Builtin.«tuple.__mul__» ⟨[.ref l, .int x u], []⟩) (fun _ R s => s.heap.get? l = some { cls := .type "tuple", dict := dd, data := .seq items n, slots := sl } ∧ R (.ok (.ret (Value.ref l))) s) :=
  .of_wp fun prog w A R s h => by
    obtain ⟨hp, g, d, tk, os⟩ := s
    obtain ⟨hl, h⟩ := h
    have f1 := AutoSeq1.idx_int
    wp_walk using wpAny_loadPart' hl
    repeat (first
      | (refine wpAny_ite_false (decide_eq_false (by rw [c0]; exact Bool.false_ne_true)) ?_; wp_walk using wpAny_loadPart' hl)
      | (refine wpAny_ite_true (decide_eq_true c1) ?_; wp_walk using wpAny_loadPart' hl))
    exact ⟨_, rfl, h⟩
theorem tuple_mulNone (l : Addr) (items : Array Value) (n : Nat) (dd : Option Addr) (sl : Array (Option Value)) (x : Int) (u : Tok) (c0 : (decide (x < -(2 ^ 63)) || decide (x ≥ 2 ^ 63)) = false) (c1 : (items.isEmpty || x == 1) = false) (c2 : (decide (x ≤ 0) || items.isEmpty) = true) :
    Meets (Builtin.«tuple.__mul__» ⟨[.ref l, .int x u], []⟩) (fun _ R s => s.heap.get? l = some { cls := .type "tuple", dict := dd, data := .seq items n, slots := sl } ∧
      R (.ok (.ret (Value.ref s.heap.objs.size))) { s with heap := s.heap.push { cls := Value.type "tuple", data := Data.seq #[] }, toks := s.toks }) :=
  .of_wp fun prog w A R s h => by
    obtain ⟨hp, g, d, tk, os⟩ := s
    obtain ⟨hl, h⟩ := h
    have f1 := AutoSeq1.idx_int
    wp_walk using wpAny_loadPart' hl
    repeat (first
      | (refine wpAny_ite_false (decide_eq_false (by rw [c0]; exact Bool.false_ne_true)) ?_; wp_walk using wpAny_loadPart' hl)
      | (refine wpAny_ite_false (decide_eq_false (by rw [c1]; exact Bool.false_ne_true)) ?_; wp_walk using wpAny_loadPart' hl)
      | (refine wpAny_ite_true (decide_eq_true c2) ?_; wp_walk using wpAny_loadPart' hl)
      | (refine wpAny_ite_false (decide_eq_false (by decide)) ?_; wp_walk using wpAny_loadPart' hl))
    exact ⟨_, rfl, h⟩
/-! ### new objects: the heap behind is a letter -/
/-- a new object o at p -/
def NewO (o : HO) (H : Hp) (Q : VK) : Prop := ∀ p H', H p = none → Ex H H' → H' p = some o → Q (.ref p) H'
theorem NewO.go {o : HO} {H : Hp} {Q : VK} (k : NewO o H Q) : ∀ p, H p = none → Q (.ref p) (upd H p o) := fun p hp => k p _ hp (Ex.new hp) upd_same
/-- a tuple of these, new or not -/
def TupO (xs : List V) (H : Hp) (Q : VK) : Prop := ∀ p H', Ex H H' → H' p = some (.tup xs) → Q (.ref p) H'
theorem TupO.go {xs : List V} {H : Hp} {Q : VK} (k : TupO xs H Q) : ∀ p, H p = none → Q (.ref p) (upd H p (.tup xs)) := fun p hp => k p _ (Ex.new hp) upd_same
/-- the list at l is changed to ys -/
def ChO (l : Addr) (ys : List V) (H : Hp) (Q : Hp → Prop) : Prop := ∀ H', Bt l H H' → H' l = some (.lst ys) → Q H'
theorem ChO.go {l : Addr} {ys : List V} {H : Hp} {Q : Hp → Prop} (k : ChO l ys H Q) : Q (upd H l (.lst ys)) := k _ bt_upd upd_same
def tTupA (t : TA) : TE := fun σ H Q => t σ H fun xs H1 => xs.length ≤ sizeLine ∧ TupO xs H1 Q
def tLstA (t : TA) : TE := fun σ H Q => t σ H fun xs H1 => xs.length ≤ sizeLine ∧ NewO (.lst xs) H1 Q
section
variable {X : Cx} {e : Expr} {es : List Expr} {te : TE} {t : TA} {pos : Pos}
theorem pe_tupA {x1} (h : PA X es t) : PE X (.Tuple es x1 pos) (tTupA t) := by
  refine ⟨fun pins s σ H Q I hq => ?_⟩
  refine wpAny_Tuple_spliced (thn (h.run pos pins s σ H _ I hq) fun us s1 ⟨xs, H1, I1, r, z, q⟩ => ⟨by rw [← r.length]; exact z, ?_⟩)
  have hf : H1 s1.heap.objs.size = none := I1.hok.fresh (Nat.le_refl _)
  refine ⟨.ref s1.heap.objs.size, upd H1 s1.heap.objs.size (.tup xs), I1.laid (t' := s1.toks) (fun b u e => Heap.get?_push_of_some _ e) (Nat.le_refl _) ?_, rfl, q.go _ hf⟩
  exact ⟨z, us, r, ⟨_, Heap.get?_push_size _ rfl, rfl, _, rfl⟩⟩
theorem pe_lstA (h : PA X es t) : PE X (.List es pos) (tLstA t) := by
  refine ⟨fun pins s σ H Q I hq => ?_⟩
  refine wpAny_List_spliced (thn (h.run pos pins s σ H _ I hq) fun us s1 ⟨xs, H1, I1, r, z, q⟩ => ⟨by rw [← r.length]; exact z, ?_⟩)
  have hf : H1 s1.heap.objs.size = none := I1.hok.fresh (Nat.le_refl _)
  refine ⟨.ref s1.heap.objs.size, upd H1 s1.heap.objs.size (.lst xs), I1.laid (t' := s1.toks) (fun b u e => Heap.get?_push_of_some _ e) (Nat.le_refl _) ?_, rfl, q.go _ hf⟩
  exact ⟨z, us, 0, r, Heap.get?_push_size _ rfl⟩
/-- t + u -/
def rCatB : R2 := fun x y H Q => ∃ a b xs ys, x = .ref a ∧ y = .ref b ∧ H a = some (.tup xs) ∧ H b = some (.tup ys) ∧ xs.length + ys.length ≤ sizeLine ∧ TupO (xs ++ ys) H Q
theorem op_catB : OpR X (binaryOp .Add) rCatB := by
  intro pins s σ H x y v u Q I rx ry h
  obtain ⟨a, b, xs, ys, e1, e2, ha, hb, hz, q⟩ := h
  refine op_catA pins s σ H x y v u Q I rx ry ⟨a, b, xs, ys, e1, e2, SqT.of ha, SqT.of hb, hz, fun z => ?_, fun _ z => ?_, fun _ _ => q.go⟩
  · subst z; exact q b H (Ex.refl H) hb
  · subst z; exact q a H (Ex.refl H) (by rw [List.append_nil]; exact ha)
/-- t[lo:hi] -/
def rSlB : V → Option Int → Option Int → Hp → VK → Prop := fun x lo hi H Q => ∃ a xs, x = .ref a ∧ H a = some (.tup xs) ∧ TupO (cutV xs lo hi) H Q
theorem sl_tupB : SlR X rSlB := by
  intro pins s σ H x v vl vu lo hi sl Q I rx hs pl pu h
  obtain ⟨a, xs, e, ha, q⟩ := h
  refine sl_tupA pins s σ H x v vl vu lo hi sl Q I rx hs pl pu ⟨a, xs, e, SqT.of ha, fun z => ?_, fun _ => q.go⟩
  refine q a H (Ex.refl H) ?_
  have : cutV xs lo hi = xs := by unfold cutV; rw [z.1, z.2]; simp
  rw [this]; exact ha
/-- xs + ys, lists -/
def rCatL : R2 := fun x y H Q => ∃ l b xs zs, x = .ref l ∧ y = .ref b ∧ H l = some (.lst xs) ∧ H b = some (.lst zs) ∧ xs.length + zs.length ≤ sizeLine ∧ NewO (.lst (xs ++ zs)) H Q
theorem op_catL : OpR X (binaryOp .Add) rCatL := by
  intro pins s σ H x y v u Q I rx ry h
  obtain ⟨a, b, xs, ys, e1, e2, ha, hb, hz, q⟩ := h
  exact op_cat pins s σ H x y v u Q I rx ry ⟨a, b, xs, ys, e1, e2, ha, hb, hz, q.go⟩
/-- xs * k -/
def rRepL : R2 := fun x y H Q => ∃ l xs, ∃ k : Nat, x = .ref l ∧ y = vn k ∧ H l = some (.lst xs) ∧ k ≤ 100000 ∧ xs.length * k ≤ sizeLine ∧ NewO (.lst (List.replicate k xs).flatten) H Q
theorem op_repL : OpR X (binaryOp .Mult) rRepL := by
  intro pins s σ H x y v u Q I rx ry h
  obtain ⟨l, xs, k, e1, e2, hl, hk, hz, q⟩ := h
  exact op_rep pins s σ H x y v u Q I rx ry ⟨l, k, xs, e1, e2, hl, by omega, by omega, by simpa using hz, by simpa using q.go⟩
/-- xs[lo:hi] -/
def rSlLB : V → Option Int → Option Int → Hp → VK → Prop := fun x lo hi H Q => ∃ a xs, x = .ref a ∧ H a = some (.lst xs) ∧ NewO (.lst (cutV xs lo hi)) H Q
theorem sl_listB : SlR X rSlLB := by
  intro pins s σ H x v vl vu lo hi sl Q I rx hs pl pu h
  obtain ⟨a, xs, e, ha, q⟩ := h
  exact sl_list pins s σ H x v vl vu lo hi sl Q I rx hs pl pu ⟨a, xs, e, SqL.of ha, q.go⟩
/-- xs.append(e) -/
def rAppB : V → List V → Hp → VK → Prop := fun x vs H Q => ∃ l xs y, x = .ref l ∧ vs = [y] ∧ H l = some (.lst xs) ∧ xs.length < sizeLine ∧ ChO l (xs ++ [y]) H (Q .non)
theorem mt_appB : MtR X "list.append" rAppB := by
  intro pins s σ H x xs v us Q I rx r h
  obtain ⟨l, ys, y, e1, e2, hl, hz, q⟩ := h
  exact mt_append pins s σ H x xs v us Q I rx r ⟨l, ys, y, e1, e2, hl, hz, q.go⟩
/-- xs[i] = e -/
def rSetB : V → V → V → Hp → (Hp → Prop) → Prop := fun o i v H Q => ∃ p xs, ∃ j : Nat, o = .ref p ∧ i = vn j ∧ H p = some (.lst xs) ∧ j < xs.length ∧ ChO p (xs.set j v) H Q
theorem set_listB : PSet X rSetB := by
  intro pins s σ H o i v ov iv u Q I ro ri rv h
  obtain ⟨p, xs, j, e1, e2, hp, hj, q⟩ := h
  exact set_list pins s σ H o i v ov iv u Q I ro ri rv ⟨p, xs, j, j, e1, e2, hp, ixN_nat hj, q.go⟩
/-- tuple(a list) -/
def rTupOf : List V → Hp → VK → Prop := fun xs H Q => ∃ p ys, xs = [.ref p] ∧ H p = some (.lst ys) ∧ TupO ys H Q
theorem call_tupOf : CallR X (.type "tuple") rTupOf := by
  intro pins s σ H xs us Q I r h
  obtain ⟨p, ys, e, hp, q⟩ := h
  exact call_tuple_of pins s σ H xs us Q I r ⟨p, ys, e, .inl ⟨SqL.of hp, q.go⟩⟩
/-- list(a tuple) -/
def rLstOf : List V → Hp → VK → Prop := fun xs H Q => ∃ p ys, xs = [.ref p] ∧ H p = some (.tup ys) ∧ NewO (.lst ys) H Q
theorem call_lstOf : CallR X (.type "list") rLstOf := by
  intro pins s σ H xs us Q I r h
  obtain ⟨p, ys, e, hp, q⟩ := h
  exact call_list_of pins s σ H xs us Q I r ⟨p, ys, e, .inr (SqT.of hp), q.go⟩
/-- xs[i], t[i] at a number from 0 on -/
def rIxT : R2 := fun x y H Q => ∃ p xs, ∃ j : Nat, ∃ v, x = .ref p ∧ y = vn j ∧ H p = some (.tup xs) ∧ xs[j]? = some v ∧ Q v H
def rIxL : R2 := fun x y H Q => ∃ p xs, ∃ j : Nat, ∃ v, x = .ref p ∧ y = vn j ∧ H p = some (.lst xs) ∧ xs[j]? = some v ∧ Q v H
theorem ix_tupN : IxR X rIxT := by
  intro value slice pins s σ H x y v u Q I rx ry h hs
  obtain ⟨p, xs, j, z, e1, e2, hp, hj, q⟩ := h
  exact ix_tup value slice pins s σ H x y v u Q I rx ry ⟨p, xs, j, z, e1, e2, SqT.of hp, atI_nat hj, q⟩ hs
theorem ix_listN : IxR X rIxL := by
  intro value slice pins s σ H x y v u Q I rx ry h hs
  obtain ⟨p, xs, j, z, e1, e2, hp, hj, q⟩ := h
  exact ix_list value slice pins s σ H x y v u Q I rx ry ⟨p, xs, j, z, e1, e2, SqL.of hp, atI_nat hj, q⟩ hs
/-- t[-1] -/
def rIxTLast : R2 := fun x y H Q => ∃ p xs z, x = .ref p ∧ y = .int (-1) ∧ H p = some (.tup (xs ++ [z])) ∧ Q z H
theorem ix_tupLast : IxR X rIxTLast := by
  intro value slice pins s σ H x y v u Q I rx ry h hs
  obtain ⟨p, xs, z, e1, e2, hp, q⟩ := h
  exact ix_tup value slice pins s σ H x y v u Q I rx ry ⟨p, _, -1, z, e1, e2, SqT.of hp, atI_last xs z, q⟩ hs
def rIxLLast : R2 := fun x y H Q => ∃ p xs z, x = .ref p ∧ y = .int (-1) ∧ H p = some (.lst (xs ++ [z])) ∧ Q z H
theorem ix_listLast : IxR X rIxLLast := by
  intro value slice pins s σ H x y v u Q I rx ry h hs
  obtain ⟨p, xs, z, e1, e2, hp, q⟩ := h
  exact ix_list value slice pins s σ H x y v u Q I rx ry ⟨p, _, -1, z, e1, e2, SqL.of hp, atI_last xs z, q⟩ hs
/-- len -/
def rLenB : List V → Hp → VK → Prop := fun xs H Q => ∃ p ys, xs = [.ref p] ∧ (H p = some (.lst ys) ∨ H p = some (.tup ys)) ∧ Q (vn ys.length) H
theorem call_lenB : CallR X (.builtin "len") rLenB := by
  intro pins s σ H xs us Q I r h
  obtain ⟨p, ys, e, hp, q⟩ := h
  exact call_len_seq pins s σ H xs us Q I r ⟨p, ys, e, hp.elim (fun z => .inl (SqL.of z)) fun z => .inr (SqT.of z), q⟩
/-- t * k -/
def rRepX : R2 := fun x y H Q => ∃ l xs, ∃ k : Nat, x = .ref l ∧ y = vn k ∧ H l = some (.tup xs) ∧ k ≤ 1000 ∧ xs.length ≤ 1000 ∧ TupO (List.replicate k xs).flatten H Q
theorem op_repX : OpR X (binaryOp .Mult) rRepX := by
  intro pins s σ H x y v u Q I rx ry h
  obtain ⟨l, xs, k, e1, e2, hT, hk, hz, q⟩ := h
  by_cases hbig : xs ≠ [] ∧ 2 ≤ k
  · exact op_repT pins s σ H x y v u Q I rx ry ⟨l, k, xs, e1, e2, SqT.of hT, hbig.1, by omega, by omega, hz, by simpa using q.go⟩
  subst e1 e2
  cases rx
  obtain ⟨t, rfl⟩ := ry
  obtain ⟨its, r, ⟨⟨cls, dd, data, sl⟩, ho, hc, n, hd⟩, hs⟩ := I.tuple (SqT.of hT)
  simp only at hc hd
  subst hc hd
  have hle : its.length = xs.length := r.length.symm
  have c0 : (decide ((k : Int) < -(2 ^ 63)) || decide ((k : Int) ≥ 2 ^ 63)) = false := by
    rw [decide_eq_false (by omega), decide_eq_false (by omega)] <;> rfl
  by_cases hsame : xs = [] ∨ k = 1
  · have c1 : (its.toArray.isEmpty || ((k : Int) == 1)) = true := by
      rcases hsame with h1 | h1
      · have : its = [] := List.eq_nil_of_length_eq_zero (by rw [hle, h1]; rfl)
        subst this; rfl
      · subst h1; simp
    have hx : (List.replicate k xs).flatten = xs := by
      rcases hsame with h1 | h1
      · subst h1; simp
      · subst h1; simp
    refine wpAny_binaryOp_repeat_ref (T := "tuple") (U := "int") (by decide) ⟨_, ho, rfl⟩ (fun s' => typeIs_int s' k t) noFill_tuple_mul F.fills_int_mul F.slot_int_rmul repeat_tuple F.slot_int_index.lookup
      (call_meets F.slot_int_rmul (typeIs_int s k t) F.entry_int_rmul (F.args_int_rmul_2 _ _) (int_rmul_tuple k t l its.toArray n dd sl)
        ⟨ho, rfl, ⟨_, ho, rfl⟩, call_meets F.slot_tuple_mul ⟨_, ho, rfl⟩ F.entry_tuple_mul (F.args_tuple_mul_2 _ _) (tuple_mulSame l its.toArray n dd sl k t c0 c1) ⟨ho, ?_⟩⟩)
    exact ⟨.ref l, H, I, rfl, q l H (Ex.refl H) (by rw [hx]; exact hT)⟩
  · have hx0 : xs ≠ [] := fun z => hsame (.inl z)
    have hk0 : k = 0 := by
      have a1 : k ≠ 1 := fun z => hsame (.inr z)
      have a2 : ¬ 2 ≤ k := fun z => hbig ⟨hx0, z⟩
      omega
    subst hk0
    have hn : its ≠ [] := fun e => hx0 (by
      rw [e] at hle
      exact List.eq_nil_of_length_eq_zero hle.symm)
    have hi : its.toArray.isEmpty = false := by
      cases its with
      | nil => exact absurd rfl hn
      | cons a b => rfl
    refine wpAny_binaryOp_repeat_ref (T := "tuple") (U := "int") (by decide) ⟨_, ho, rfl⟩ (fun s' => typeIs_int s' _ t) noFill_tuple_mul F.fills_int_mul F.slot_int_rmul repeat_tuple F.slot_int_index.lookup
      (call_meets F.slot_int_rmul (typeIs_int s _ t) F.entry_int_rmul (F.args_int_rmul_2 _ _) (int_rmul_tuple _ t l its.toArray n dd sl)
        ⟨ho, rfl, ⟨_, ho, rfl⟩, call_meets F.slot_tuple_mul ⟨_, ho, rfl⟩ F.entry_tuple_mul (F.args_tuple_mul_2 _ _) (tuple_mulNone l its.toArray n dd sl _ t c0 (by rw [hi]; rfl) (by rw [hi]; rfl)) ⟨ho, ?_⟩⟩)
    refine ⟨.ref s.heap.objs.size, _, I.laid (t' := s.toks) (o := .tup []) (fun b ob q => Heap.get?_push_of_some _ q) (Nat.le_refl _) ?_, rfl, ?_⟩
    · exact ⟨Nat.zero_le _, [], .nil, IsTup.new _ _⟩
    · exact q _ _ (Ex.new (I.hok.fresh (Nat.le_refl _))) upd_same
end
theorem sz0 : 0 ≤ sizeLine := by decide
theorem sz1 : 1 ≤ sizeLine := by decide
theorem sz2 : 2 ≤ sizeLine := by decide
theorem sz3 : 3 ≤ sizeLine := by decide
theorem sz4 : 4 ≤ sizeLine := by decide
theorem sz5 : 5 ≤ sizeLine := by decide
theorem sz7 : 7 ≤ sizeLine := by decide
theorem sz8 : 8 ≤ sizeLine := by decide
theorem sz9 : 9 ≤ sizeLine := by decide
end K46
/-! part M0 -/
set_option maxHeartbeats 1000000
/-! The plain law: settings, states, a beat, as Lean functions. -/
namespace K46
structure Setg where
  work : Nat
  room : Nat
  pat : Nat
  tries : Nat
  newest : Bool
  dead : Bool
  tok : Option Nat
  fuse : Option (Nat × Nat)
  deriving DecidableEq
structure Sta where
  d : Nat
  q : List (Nat × Nat)
  l : List Nat
  t : Nat
  o : Nat
  deriving DecidableEq

/-! ### a beat -/
def comF (s : Setg) (acc : List Nat × Nat × Nat) (m : Nat) : List Nat × Nat × Nat :=
  match s.tok with
  | none => (acc.1 ++ [m], acc.2.1, acc.2.2 + m - m)
  | some _ => (acc.1 ++ [min m acc.2.1], acc.2.1 - min m acc.2.1, acc.2.2 + m - min m acc.2.1)
def comR (s : Setg) (st : Sta) : List Nat × Nat × Nat := st.l.foldl (comF s) ([], st.t, 0)
def entF (acc : List (Nat × Nat) × List Nat × Nat) (m : Nat) : List (Nat × Nat) × List Nat × Nat :=
  (acc.1 ++ List.replicate (min m acc.2.2) (acc.2.1.length, 0), acc.2.1 ++ [m - min m acc.2.2], acc.2.2 - min m acc.2.2)
def free (s : Setg) (st : Sta) : Nat := if st.o = 0 then s.room - st.d - st.q.length else 0
def entR (s : Setg) (st : Sta) (counts : List Nat) : List (Nat × Nat) × List Nat × Nat := counts.foldl entF (st.q, [], free s st)
/-- answered, wasted, the line that stays -/
def serR (s : Setg) (d : Nat) (q : List (Nat × Nat)) : Nat × Nat × List (Nat × Nat) :=
  if s.newest then (min s.work q.length, min (s.work - min s.work q.length) d, q.take (q.length - min s.work q.length))
  else (min (s.work - min s.work d) q.length, min s.work d, q.drop (min (s.work - min s.work d) q.length))
def agS (s : Setg) (q : List (Nat × Nat)) : List (Nat × Nat) := (q.filter fun p => decide (p.2 + 1 < s.pat)).map fun p => (p.1, p.2 + 1)
def agG (s : Setg) (q : List (Nat × Nat)) : List Nat := (q.filter fun p => decide (s.pat ≤ p.2 + 1)).map (·.1)
def shuR (s : Setg) (door failed : Nat) : Nat :=
  if 0 < door then door - 1 else
    match s.fuse with
    | none => 0
    | some p => if failed < p.1 then 0 else p.2
/-- failed, by tries behind -/
def faiR (g : List Nat) : Nat → List Nat → List Nat
  | _, [] => []
  | i, m :: r => (m + g.count i) :: faiR g (i + 1) r
structure Told where
  came : Nat
  ans : Nat
  was : Nat
  ref : Nat
  gav : Nat
  los : Nat
  st : Sta
  deriving DecidableEq
def mtok (s : Setg) : Nat := match s.tok with
  | none => 0
  | some n => n
def stp (s : Setg) (st : Sta) (f : Nat) : Told :=
  let c := comR s st
  let counts := c.1 ++ [f]
  let e := entR s st counts
  let v := serR s st.d e.1
  let g := agG s v.2.2
  let fl := faiR g 0 e.2.1
  { came := counts.sum, ans := v.1, was := v.2.1, ref := e.2.1.sum, gav := g.length, los := c.2.2 + fl.headD 0,
    st := { d := st.d - v.2.1 + (if s.dead then g.length else 0), q := agS s v.2.2, l := fl.tail, t := min (mtok s) (c.2.1 + v.1), o := shuR s st.o fl.sum } }
def fst0 (s : Setg) : Sta := { d := 0, q := [], l := List.replicate (s.tries - 1) 0, t := mtok s, o := 0 }
end K46
/-! part N1 -/
set_option maxHeartbeats 1000000
/-! Closed lists of states, told by evaluation. -/
namespace K46
def eqN : List Nat → List Nat → Bool
  | [], [] => true
  | x :: a, y :: b => Nat.beq x y && eqN a b
  | _, _ => false
def eqP : List (Nat × Nat) → List (Nat × Nat) → Bool
  | [], [] => true
  | x :: a, y :: b => Nat.beq x.1 y.1 && (Nat.beq x.2 y.2 && eqP a b)
  | _, _ => false
theorem eqN_eq : ∀ {a b : List Nat}, eqN a b = true → a = b
  | [], [], _ => rfl
  | [], _ :: _, h => by simp [eqN] at h
  | _ :: _, [], h => by simp [eqN] at h
  | x :: a, y :: b, h => by
    simp only [eqN, Bool.and_eq_true] at h
    rw [Nat.eq_of_beq_eq_true h.1, eqN_eq h.2]
theorem eqP_eq : ∀ {a b : List (Nat × Nat)}, eqP a b = true → a = b
  | [], [], _ => rfl
  | [], _ :: _, h => by simp [eqP] at h
  | _ :: _, [], h => by simp [eqP] at h
  | x :: a, y :: b, h => by
    simp only [eqP, Bool.and_eq_true] at h
    rw [Prod.ext (Nat.eq_of_beq_eq_true h.1) (Nat.eq_of_beq_eq_true h.2.1), eqP_eq h.2.2]
def eqS (x y : Sta) : Bool := Nat.beq x.d y.d && (Nat.beq x.t y.t && (Nat.beq x.o y.o && (eqN x.l y.l && eqP x.q y.q)))
theorem eqS_eq {x y : Sta} (h : eqS x y = true) : x = y := by
  obtain ⟨a, b, c, d, e⟩ := x
  obtain ⟨a', b', c', d', e'⟩ := y
  simp only [eqS, Bool.and_eq_true] at h
  obtain ⟨h1, h2, h3, h4, h5⟩ := h
  cases Nat.eq_of_beq_eq_true h1
  cases Nat.eq_of_beq_eq_true h2
  cases Nat.eq_of_beq_eq_true h3
  cases eqN_eq h4
  cases eqP_eq h5
  rfl
def memS (x : Sta) : List Sta → Bool
  | [] => false
  | y :: l => eqS x y || memS x l
theorem memS_mem {x : Sta} : ∀ {l : List Sta}, memS x l = true → x ∈ l
  | [], h => by cases h
  | y :: l, h => by
    simp only [memS, Bool.or_eq_true] at h
    rcases h with h | h
    · rw [eqS_eq h]; exact List.mem_cons_self ..
    · exact List.mem_cons_of_mem _ (memS_mem h)
/-- what comes behind x by fewer than n is laid to those -/
def adds (s : Setg) (x : Sta) : Nat → List Sta × List Sta → List Sta × List Sta
  | 0, a => a
  | n + 1, a => match memS (stp s x n).st a.2 with
    | true => adds s x n a
    | false => adds s x n ((stp s x n).st :: a.1, (stp s x n).st :: a.2)
def grow (s : Setg) (m : Nat) : Nat → List Sta × List Sta → Option (List Sta)
  | _, ([], seen) => some seen
  | 0, (_ :: _, _) => none
  | k + 1, (x :: todo, seen) => grow s m k (adds s x (m + 1) (todo, seen))
theorem adds_ok (s : Setg) (x : Sta) : ∀ (n : Nat) (a : List Sta × List Sta),
    (∀ y ∈ a.2, y ∈ (adds s x n a).2) ∧ (∀ y ∈ a.1, y ∈ (adds s x n a).1) ∧ (∀ y ∈ (adds s x n a).2, y ∈ a.2 ∨ y ∈ (adds s x n a).1 ∧ ∃ k, k < n ∧ y = (stp s x k).st) ∧ ∀ k, k < n → (stp s x k).st ∈ (adds s x n a).2
  | 0, a => ⟨fun y h => h, fun y h => h, fun y h => .inl h, fun k h => absurd h (Nat.not_lt_zero _)⟩
  | n + 1, a => by
    unfold adds
    split
    · rename_i hm
      obtain ⟨h1, h2, h3, h4⟩ := adds_ok s x n a
      refine ⟨h1, h2, fun y hy => ?_, fun k hk => ?_⟩
      · rcases h3 y hy with h | ⟨h, k, hk, e⟩
        · exact .inl h
        · exact .inr ⟨h, k, by omega, e⟩
      · by_cases e : k = n
        · subst e; exact h1 _ (memS_mem hm)
        · exact h4 k (by omega)
    · obtain ⟨h1, h2, h3, h4⟩ := adds_ok s x n ((stp s x n).st :: a.1, (stp s x n).st :: a.2)
      refine ⟨fun y hy => h1 y (List.mem_cons_of_mem _ hy), fun y hy => h2 y (List.mem_cons_of_mem _ hy), fun y hy => ?_, fun k hk => ?_⟩
      · rcases h3 y hy with h | ⟨h, k, hk, e⟩
        · rcases List.mem_cons.mp h with rfl | h
          · exact .inr ⟨h2 _ (List.mem_cons_self ..), n, by omega, rfl⟩
          · exact .inl h
        · exact .inr ⟨h, k, by omega, e⟩
      · by_cases e : k = n
        · subst e; exact h1 _ (List.mem_cons_self ..)
        · exact h4 k (by omega)
theorem grow_ok {s : Setg} {m : Nat} {P : Sta → Prop} (hP : ∀ x k, P x → P (stp s x k).st) : ∀ (k : Nat) (a : List Sta × List Sta) {S : List Sta}, grow s m k a = some S → (∀ y ∈ a.1, y ∈ a.2) → (∀ y ∈ a.2, P y) →
    (∀ y ∈ a.2, y ∈ a.1 ∨ ∀ n, n ≤ m → (stp s y n).st ∈ a.2) → (∀ y ∈ a.2, y ∈ S) ∧ (∀ y ∈ S, P y) ∧ ∀ y ∈ S, ∀ n, n ≤ m → (stp s y n).st ∈ S
  | k, ([], seen), S, h, h1, h2, h3 => by
    have e : some seen = some S := by cases k <;> exact h
    cases e
    refine ⟨fun y h => h, h2, fun y hy => ?_⟩
    rcases h3 y hy with h | h
    · cases h
    · exact h
  | 0, (_ :: _, _), S, h, h1, h2, h3 => by cases h
  | k + 1, (x :: todo, seen), S, h, h1, h2, h3 => by
    obtain ⟨a1, a2, a3, a4⟩ := adds_ok s x (m + 1) (todo, seen)
    have hx : x ∈ seen := h1 x (List.mem_cons_self ..)
    have := grow_ok hP k (adds s x (m + 1) (todo, seen)) (S := S) h ?_ ?_ ?_
    · exact ⟨fun y hy => this.1 y (a1 y hy), this.2⟩
    · intro y hy
      have b := adds_sub s x (m + 1) (todo, seen) (fun y hy => h1 y (List.mem_cons_of_mem _ hy))
      exact b y hy
    · intro y hy
      rcases a3 y hy with h | ⟨_, k, _, e⟩
      · exact h2 y h
      · rw [e]; exact hP x k (h2 x hx)
    · intro y hy
      rcases a3 y hy with h | ⟨h, _⟩
      · rcases h3 y h with h' | h'
        · rcases List.mem_cons.mp h' with rfl | h'
          · exact .inr fun n hn => a4 n (by omega)
          · exact .inl (a2 y h')
        · exact .inr fun n hn => a1 _ (h' n hn)
      · exact .inl h
where
  adds_sub (s : Setg) (x : Sta) : ∀ (n : Nat) (a : List Sta × List Sta), (∀ y ∈ a.1, y ∈ a.2) → ∀ y ∈ (adds s x n a).1, y ∈ (adds s x n a).2
    | 0, a, h => h
    | n + 1, a, h => by
      unfold adds
      split
      · exact adds_sub s x n a h
      · refine adds_sub s x n _ fun y hy => ?_
        rcases List.mem_cons.mp hy with rfl | hy
        · exact List.mem_cons_self ..
        · exact List.mem_cons_of_mem _ (h y hy)
def ck (s : Setg) (m b : Nat) : Bool := match grow s m 60 ([fst0 s], [fst0 s]) with
  | some S => Nat.ble S.length b
  | none => false
theorem ck_ok {s : Setg} {m b : Nat} (h : ck s m b = true) {P : Sta → Prop} (h0 : P (fst0 s)) (hP : ∀ x k, P x → P (stp s x k).st) : ∃ S : List Sta, S.length ≤ b ∧ fst0 s ∈ S ∧ (∀ y ∈ S, P y) ∧ ∀ y ∈ S, ∀ n, n ≤ m → (stp s y n).st ∈ S := by
  unfold ck at h
  split at h
  · rename_i S e
    obtain ⟨h1, h2, h3⟩ := grow_ok hP 60 _ e (fun y hy => hy) (fun y hy => by rw [List.mem_singleton.mp hy]; exact h0) (fun y hy => .inl hy)
    exact ⟨S, Nat.le_of_ble_eq_true h, h1 _ (List.mem_cons_self ..), h2, h3⟩
  · cases h
end K46
/-! part N2 -/
set_option maxHeartbeats 1000000
namespace K46
def ckSmall : Bool := [1, 2].all fun w => [1, 2].all fun p => [0, 1, 2].all fun r => [1, 2].all fun tr => [false, true].all fun nw => [false, true].all fun de => [none, some 0, some 1, some 2].all fun tk => [none, some (1, 1), some (1, 2), some (2, 1), some (2, 2)].all fun fu =>
  ck { work := w, room := w + r, pat := p, tries := tr, newest := nw, dead := de, tok := tk, fuse := fu } 2 41
theorem ckSmall_ok : ckSmall = true := by decide +kernel
def ckBare : Bool := [1, 2, 3].all fun w => [1, 2, 3, 4, 5].all fun r => [1, 2].all fun tr => [false, true].all fun nw => [false, true].all fun de =>
  ck { work := w, room := r, pat := 1, tries := tr, newest := nw, dead := de, tok := none, fuse := none } 9 41
theorem ckBare_ok : ckBare = true := by decide +kernel
def ckNoQ : Bool := [1, 2, 3].all fun w => [1, 2, 3, 4].all fun p => [false, true].all fun nw => [false, true].all fun de => [none, some 0, some 1, some 2].all fun tk =>
  ck { work := w, room := min w 2, pat := p, tries := 2, newest := nw, dead := de, tok := tk, fuse := none } 3 41
theorem ckNoQ_ok : ckNoQ = true := by decide +kernel
end K46
/-! part M1 -/
set_option maxHeartbeats 1000000
/-! The graph, as Lean functions. -/
namespace K46
structure BF (α τ : Type) where
  nodes : List α
  before : List (Option (Nat × Nat))
  edges : List (List (τ × Nat))
section
variable {α τ : Type} [DecidableEq α]
abbrev BA (α τ : Type) := (List α × List (Option (Nat × Nat))) × List (τ × Nat)
def bfIn (go : α → Nat → τ × α) (at_ : Nat) (x : α) (acc : BA α τ) (n : Nat) : BA α τ :=
  if (go x n).2 ∈ acc.1.1 then (acc.1, acc.2 ++ [((go x n).1, acc.1.1.idxOf (go x n).2)])
  else ((acc.1.1 ++ [(go x n).2], acc.1.2 ++ [some (at_, n)]), acc.2 ++ [((go x n).1, acc.1.1.length)])
def bfFold (go : α → Nat → τ × α) (at_ : Nat) (x : α) (b : BF α τ) (k : Nat) : BA α τ := (List.range k).foldl (bfIn go at_ x) ((b.nodes, b.before), [])
def bfRow (go : α → Nat → τ × α) (m at_ : Nat) (b : BF α τ) : BF α τ :=
  match b.nodes[at_]? with
  | none => b
  | some x => ⟨(bfFold go at_ x b (m + 1)).1.1, (bfFold go at_ x b (m + 1)).1.2, b.edges ++ [(bfFold go at_ x b (m + 1)).2]⟩
def bf (go : α → Nat → τ × α) (m : Nat) (first : α) : Nat → BF α τ
  | 0 => ⟨[first], [none], []⟩
  | n + 1 => bfRow go m n (bf go m first n)
theorem bfFold_succ (go : α → Nat → τ × α) (at_ : Nat) (x : α) (b : BF α τ) (k : Nat) : bfFold go at_ x b (k + 1) = bfIn go at_ x (bfFold go at_ x b k) k := by
  unfold bfFold; rw [List.range_succ, List.foldl_append]; rfl
/-- within S, no node twice -/
structure BIn (S : List α) (l : List α) (bs : List (Option (Nat × Nat))) : Prop where
  sub : ∀ x ∈ l, x ∈ S
  nd : l.Nodup
  len : bs.length = l.length
theorem nodup_len {α : Type} [DecidableEq α] : ∀ {l S : List α}, l.Nodup → (∀ x ∈ l, x ∈ S) → l.length ≤ S.length
  | [], _, _, _ => Nat.zero_le _
  | x :: l, S, nd, sub => by
    have nd' := List.nodup_cons.mp nd
    have hx : x ∈ S := sub x (List.mem_cons_self ..)
    have := nodup_len (l := l) (S := S.erase x) nd'.2 (fun y hy => (List.mem_erase_of_ne (show y ≠ x from fun e => nd'.1 (by rw [← e]; exact hy))).mpr (sub y (List.mem_cons_of_mem _ hy)))
    rw [List.length_erase_of_mem hx] at this
    have hp : 0 < S.length := List.length_pos_of_mem hx
    simp only [List.length_cons]
    omega
theorem BIn.le {S l : List α} {bs : List (Option (Nat × Nat))} (h : BIn S l bs) : l.length ≤ S.length := nodup_len h.nd h.sub
theorem bfIn_in {S : List α} {go : α → Nat → τ × α} {at_ : Nat} {x : α} {acc : BA α τ} {n : Nat} (h : BIn S acc.1.1 acc.1.2) (hc : (go x n).2 ∈ S) : BIn S (bfIn go at_ x acc n).1.1 (bfIn go at_ x acc n).1.2 := by
  unfold bfIn
  by_cases hm : (go x n).2 ∈ acc.1.1
  · rw [if_pos hm]; exact h
  · rw [if_neg hm]
    refine ⟨fun y hy => ?_, ?_, by simp [h.len]⟩
    · rcases List.mem_append.mp hy with hy | hy
      · exact h.sub y hy
      · rw [List.mem_singleton.mp hy]; exact hc
    · exact List.nodup_append.mpr ⟨h.nd, by simp, fun a ha b hb => by rw [List.mem_singleton.mp hb]; intro e; exact hm (e ▸ ha)⟩
theorem bfFold_in {S : List α} {go : α → Nat → τ × α} {at_ m : Nat} {x : α} {b : BF α τ} (h : BIn S b.nodes b.before) (hc : ∀ n, n ≤ m → (go x n).2 ∈ S) : ∀ k, k ≤ m + 1 → BIn S (bfFold go at_ x b k).1.1 (bfFold go at_ x b k).1.2
  | 0, _ => h
  | k + 1, hk => by rw [bfFold_succ]; exact bfIn_in (bfFold_in h hc k (by omega)) (hc k (by omega))
theorem bf_in {S : List α} {go : α → Nat → τ × α} {m : Nat} {first : α} (h0 : first ∈ S) (hc : ∀ x ∈ S, ∀ n, n ≤ m → (go x n).2 ∈ S) : ∀ n, BIn S (bf go m first n).nodes (bf go m first n).before
  | 0 => ⟨fun x hx => by rw [List.mem_singleton.mp hx]; exact h0, by simp [bf], rfl⟩
  | n + 1 => by
    have ih := bf_in h0 hc n
    show BIn S (bfRow go m n (bf go m first n)).nodes (bfRow go m n (bf go m first n)).before
    unfold bfRow
    cases e : (bf go m first n).nodes[n]? with
    | none => exact ih
    | some x => exact bfFold_in ih (hc x (ih.sub x (List.mem_of_getElem? e))) (m + 1) (Nat.le_refl _)
theorem bfIn_nodes (go : α → Nat → τ × α) (at_ : Nat) (x : α) (acc : BA α τ) (n : Nat) : (bfIn go at_ x acc n).1.1 = acc.1.1 ∨ (bfIn go at_ x acc n).1.1 = acc.1.1 ++ [(go x n).2] := by
  unfold bfIn; split
  · exact .inl rfl
  · exact .inr rfl
theorem bfFold_get {go : α → Nat → τ × α} {at_ : Nat} {x : α} {b : BF α τ} {i : Nat} {y : α} (h : b.nodes[i]? = some y) : ∀ k, (bfFold go at_ x b k).1.1[i]? = some y
  | 0 => h
  | k + 1 => by
    have ih := bfFold_get (go := go) (at_ := at_) (x := x) h k
    rw [bfFold_succ]
    rcases bfIn_nodes go at_ x (bfFold go at_ x b k) k with e | e
    · rw [e]; exact ih
    · rw [e, List.getElem?_append_left (List.getElem?_eq_some_iff.mp ih).1]; exact ih
theorem bfFold_len {go : α → Nat → τ × α} {at_ : Nat} {x : α} {b : BF α τ} : ∀ k, b.nodes.length ≤ (bfFold go at_ x b k).1.1.length ∧ (bfFold go at_ x b k).2.length = k
  | 0 => ⟨Nat.le_refl _, rfl⟩
  | k + 1 => by
    have ih := bfFold_len (go := go) (at_ := at_) (x := x) (b := b) k
    rw [bfFold_succ]
    unfold bfIn; split
    · exact ⟨ih.1, by simp [ih.2]⟩
    · exact ⟨by simp; omega, by simp [ih.2]⟩
theorem bf_grow (go : α → Nat → τ × α) (m : Nat) (first : α) (n : Nat) : (bf go m first n).nodes.length ≤ (bf go m first (n + 1)).nodes.length := by
  show _ ≤ (bfRow go m n (bf go m first n)).nodes.length
  unfold bfRow; split
  · exact Nat.le_refl _
  · exact (bfFold_len (m + 1)).1
theorem bf_edges (go : α → Nat → τ × α) (m : Nat) (first : α) : ∀ n, (bf go m first n).edges.length ≤ n
  | 0 => Nat.le_refl _
  | n + 1 => by
    have ih := bf_edges go m first n
    show (bfRow go m n (bf go m first n)).edges.length ≤ n + 1
    unfold bfRow; split
    · omega
    · simp; omega
theorem bf_succ {go : α → Nat → τ × α} {m : Nat} {first : α} {n : Nat} {x : α} (h : (bf go m first n).nodes[n]? = some x) : bf go m first (n + 1) = ⟨(bfFold go n x (bf go m first n) (m + 1)).1.1, (bfFold go n x (bf go m first n) (m + 1)).1.2, (bf go m first n).edges ++ [(bfFold go n x (bf go m first n) (m + 1)).2]⟩ := by
  show bfRow go m n (bf go m first n) = _
  unfold bfRow; rw [h]
theorem idxOf_snoc (l : List α) (y : α) (h : y ∉ l) : (l ++ [y]).idxOf y = l.length := by
  induction l with
  | nil => simp
  | cons x r ih =>
    have e : ¬ x = y := fun z => h (by rw [z]; exact List.mem_cons_self ..)
    have : (x == y) = false := by simp [e]
    rw [List.cons_append, List.idxOf_cons, this, ih (fun z => h (List.mem_cons_of_mem _ z)), List.length_cons]
    rfl
theorem bfIn_row (go : α → Nat → τ × α) (at_ : Nat) (x : α) (acc : BA α τ) (n : Nat) : (bfIn go at_ x acc n).2 = acc.2 ++ [((go x n).1, (bfIn go at_ x acc n).1.1.idxOf (go x n).2)] ∧ (go x n).2 ∈ (bfIn go at_ x acc n).1.1 := by
  unfold bfIn; split
  · rename_i h; exact ⟨rfl, h⟩
  · rename_i h
    refine ⟨?_, by simp⟩
    show _ = acc.2 ++ [((go x n).1, (acc.1.1 ++ [(go x n).2]).idxOf (go x n).2)]
    rw [idxOf_snoc _ _ h]
end
end K46
/-! part M2 -/
set_option maxHeartbeats 1000000
/-! What the graph's lists tell. -/
namespace K46
section
variable {α τ : Type} [DecidableEq α]
structure BSnd (go : α → Nat → τ × α) (m : Nat) (first : α) (nodes : List α) (before : List (Option (Nat × Nat))) : Prop where
  len : before.length = nodes.length
  f : nodes[0]? = some first
  z : before[0]? = some none
  s : ∀ j, 0 < j → j < nodes.length → ∃ p x, before[j]? = some (some p) ∧ p.1 < j ∧ p.2 ≤ m ∧ nodes[p.1]? = some x ∧ nodes[j]? = some (go x p.2).2
def RowOk (go : α → Nat → τ × α) (m : Nat) (nodes : List α) (x : α) (row : List (τ × Nat)) : Prop := ∀ (k : Nat) (r : τ × Nat), row[k]? = some r → r.1 = (go x k).1 ∧ nodes[r.2]? = some (go x k).2
theorem idx_at {l : List α} {y : α} (h : y ∈ l) : l[l.idxOf y]? = some y := by
  induction l with
  | nil => cases h
  | cons x r ih =>
    rw [List.idxOf_cons]
    by_cases e : x = y
    · subst e; simp
    · have hr : y ∈ r := by
        rcases List.mem_cons.mp h with z | z
        · exact absurd z.symm e
        · exact z
      have : (x == y) = false := by simp [e]
      rw [this]
      simpa using ih hr
theorem RowOk.grow {go : α → Nat → τ × α} {m : Nat} {nodes nodes' : List α} {x : α} {row : List (τ × Nat)} (h : RowOk go m nodes x row) (g : ∀ (i : Nat) y, nodes[i]? = some y → nodes'[i]? = some y) : RowOk go m nodes' x row :=
  fun k r hk => ⟨(h k r hk).1, g _ _ (h k r hk).2⟩
theorem bfIn_grow {go : α → Nat → τ × α} {a : Nat} {x : α} {acc : BA α τ} {n : Nat} (i : Nat) (y : α) (h : acc.1.1[i]? = some y) : (bfIn go a x acc n).1.1[i]? = some y := by
  rcases bfIn_nodes go a x acc n with e | e
  · rw [e]; exact h
  · rw [e, List.getElem?_append_left (List.getElem?_eq_some_iff.mp h).1]; exact h
theorem bfIn_snd {go : α → Nat → τ × α} {m : Nat} {first : α} {a : Nat} {x : α} {acc : BA α τ} {n : Nat} (h : BSnd go m first acc.1.1 acc.1.2) (hx : acc.1.1[a]? = some x) (hn : n ≤ m) : BSnd go m first (bfIn go a x acc n).1.1 (bfIn go a x acc n).1.2 := by
  unfold bfIn
  by_cases hm : (go x n).2 ∈ acc.1.1
  · rw [if_pos hm]; exact h
  · rw [if_neg hm]
    have ha : a < acc.1.1.length := (List.getElem?_eq_some_iff.mp hx).1
    have h0 : 0 < acc.1.1.length := by omega
    have hl := h.len
    refine ⟨by simp [hl], by rw [List.getElem?_append_left h0]; exact h.f, by rw [List.getElem?_append_left (by omega)]; exact h.z, fun j j0 jl => ?_⟩
    by_cases hj : j < acc.1.1.length
    · obtain ⟨p, y, h1, h2, h3, h4, h5⟩ := h.s j j0 hj
      exact ⟨p, y, by rw [List.getElem?_append_left (by omega)]; exact h1, h2, h3, by rw [List.getElem?_append_left (by omega)]; exact h4, by rw [List.getElem?_append_left hj]; exact h5⟩
    · have e : j = acc.1.1.length := by simp at jl; omega
      subst e
      refine ⟨(a, n), x, ?_, ha, hn, ?_, ?_⟩
      · rw [List.getElem?_append_right (by omega), hl]; simp
      · show (acc.1.1 ++ [(go x n).2])[a]? = some x
        rw [List.getElem?_append_left ha]; exact hx
      · rw [List.getElem?_append_right (Nat.le_refl _)]; simp
theorem bfFold_snd {go : α → Nat → τ × α} {m : Nat} {first : α} {a : Nat} {x : α} {b : BF α τ} (h : BSnd go m first b.nodes b.before) (hx : b.nodes[a]? = some x) : ∀ k, k ≤ m + 1 →
    BSnd go m first (bfFold go a x b k).1.1 (bfFold go a x b k).1.2 ∧ RowOk go m (bfFold go a x b k).1.1 x (bfFold go a x b k).2 ∧ ∀ (i : Nat) y, b.nodes[i]? = some y → (bfFold go a x b k).1.1[i]? = some y
  | 0, _ => ⟨h, fun k r hk => by simp [bfFold] at hk, fun i y h => h⟩
  | k + 1, hk => by
    obtain ⟨h1, h2, h3⟩ := bfFold_snd h hx k (by omega)
    have hlen := (bfFold_len (go := go) (at_ := a) (x := x) (b := b) k).2
    rw [bfFold_succ]
    refine ⟨bfIn_snd h1 (h3 a x hx) (by omega), ?_, fun i y hi => bfIn_grow i y (h3 i y hi)⟩
    obtain ⟨r1, r2⟩ := bfIn_row go a x (bfFold go a x b k) k
    rw [r1]
    intro i r hi
    by_cases hik : i < (bfFold go a x b k).2.length
    · rw [List.getElem?_append_left hik] at hi
      exact (h2.grow fun i y h => bfIn_grow i y h) i r hi
    · rw [List.getElem?_append_right (by omega)] at hi
      have : i - (bfFold go a x b k).2.length = 0 := by
        by_cases z : i - (bfFold go a x b k).2.length = 0
        · exact z
        · rw [List.getElem?_eq_none (by simp; omega)] at hi; cases hi
      rw [this] at hi
      simp at hi
      subst hi
      have : i = k := by omega
      subst this
      exact ⟨rfl, idx_at r2⟩
/-- behind n turns, all of them within -/
structure BAll (go : α → Nat → τ × α) (m : Nat) (first : α) (n : Nat) : Prop where
  snd : BSnd go m first (bf go m first n).nodes (bf go m first n).before
  el : (bf go m first n).edges.length = n
  e : ∀ (i : Nat) (row : List (τ × Nat)), (bf go m first n).edges[i]? = some row → row.length = m + 1 ∧ ∃ x, (bf go m first n).nodes[i]? = some x ∧ RowOk go m (bf go m first n).nodes x row
theorem bf_all {go : α → Nat → τ × α} {m : Nat} {first : α} : ∀ n, (∀ i, i < n → i < (bf go m first i).nodes.length) → BAll go m first n
  | 0, _ => ⟨⟨rfl, rfl, rfl, fun j j0 jl => by simp [bf] at jl; omega⟩, rfl, fun i row h => by simp [bf] at h⟩
  | n + 1, hl => by
    have ih := bf_all (go := go) (m := m) (first := first) n fun i hi => hl i (by omega)
    have hn := hl n (Nat.lt_succ_self n)
    obtain ⟨x, hx⟩ : ∃ x, (bf go m first n).nodes[n]? = some x := ⟨_, List.getElem?_eq_getElem hn⟩
    obtain ⟨h1, h2, h3⟩ := bfFold_snd ih.snd hx (m + 1) (Nat.le_refl _)
    have hlen := (bfFold_len (go := go) (at_ := n) (x := x) (b := bf go m first n) (m + 1)).2
    have hb := bf_succ hx
    refine ⟨by rw [hb]; exact h1, by rw [hb]; simp [ih.el], fun i row hi => ?_⟩
    rw [hb] at hi ⊢
    simp only at hi ⊢
    by_cases hin : i < n
    · rw [List.getElem?_append_left (by rw [ih.el]; exact hin)] at hi
      obtain ⟨a, y, b, c⟩ := ih.e i row hi
      exact ⟨a, y, h3 i y b, c.grow h3⟩
    · rw [List.getElem?_append_right (by rw [ih.el]; omega), ih.el] at hi
      have : i - n = 0 := by
        by_cases z : i - n = 0
        · exact z
        · rw [List.getElem?_eq_none (by simp; omega)] at hi; cases hi
      rw [this] at hi
      simp at hi
      subst hi
      have : i = n := by omega
      subst this
      exact ⟨hlen, x, h3 i x hx, h2⟩
end
end K46
/-! part M3 -/
set_option maxHeartbeats 1000000
/-! Steps back: who was reached from whom. -/
namespace K46
abbrev Ss := List (Option (Nat × Nat))
/-- from a on, back and back: the numbers on the way -/
inductive Chn (ss : Ss) : Nat → List Nat → Nat → Prop
  | nil (a : Nat) : Chn ss a [] a
  | cons {a b n c : Nat} {l : List Nat} (h : ss[a]? = some (some (b, n))) (t : Chn ss b l c) : Chn ss a (n :: l) c
theorem Chn.app {ss : Ss} {a b c : Nat} {l m : List Nat} (h : Chn ss a l b) (k : Chn ss b m c) : Chn ss a (l ++ m) c := by
  induction h with
  | nil => exact k
  | cons h _ ih => exact .cons h (ih k)
theorem Chn.snoc {ss : Ss} {a b c n : Nat} {l : List Nat} (h : Chn ss a l b) (k : ss[b]? = some (some (c, n))) : Chn ss a (l ++ [n]) c := h.app (.cons k (.nil c))
/-- the way back ends -/
def Ends (ss : Ss) (v : Nat) : Prop := ∃ l c, Chn ss v l c ∧ ss[c]? = some none
theorem Ends.back {ss : Ss} {a b : Nat} {l : List Nat} (h : Chn ss a l b) (e : Ends ss b) : Ends ss a := by
  obtain ⟨m, c, h1, h2⟩ := e
  exact ⟨_, c, h.app h1, h2⟩
def noneN : List (Option Nat) → Nat
  | [] => 0
  | none :: r => noneN r + 1
  | some _ :: r => noneN r
theorem noneN_set : ∀ {l : List (Option Nat)} {i c : Nat}, l[i]? = some none → noneN (l.set i (some c)) + 1 = noneN l
  | [], i, c, h => by simp at h
  | x :: r, 0, c, h => by simp at h; subst h; rfl
  | x :: r, i + 1, c, h => by
    have ih := noneN_set (l := r) (i := i) (c := c) (by simpa using h)
    cases x with
    | none => show noneN (r.set i (some c)) + 1 + 1 = noneN r + 1; omega
    | some y => exact ih
theorem noneN_le : ∀ (l : List (Option Nat)), noneN l ≤ l.length
  | [] => Nat.le_refl _
  | none :: r => Nat.succ_le_succ (noneN_le r)
  | some _ :: r => Nat.le_succ_of_le (noneN_le r)
end K46
/-! part M4 -/
set_option maxHeartbeats 1000000
/-! Prices that climb: what holds through the turns. -/
namespace K46
abbrev Prs := List (Option Int)
/-- worth of an edge -/
def wfn (p q t n : Nat) : Int := (p : Int) * n - (q : Int) * t
abbrev EsT := List (List (Nat × Nat))
def stE (es : EsT) (st : Nat × Nat) (n : Nat) : Nat × Nat := match es[st.2]? with
  | none => st
  | some row => match row[n]? with
    | none => st
    | some e => (st.1 + e.1, e.2)
/-- the step noted at x leads there -/
def StepOk (es : EsT) (p q : Nat) (pr : Prs) (T : Nat → Nat) (x v n : Nat) : Prop :=
  ∃ row e px pv, es[v]? = some row ∧ row[n]? = some e ∧ e.2 = x ∧ pr[x]? = some (some px) ∧ pr[v]? = some (some pv) ∧ px ≤ pv + wfn p q e.1 n ∧ (T x ≤ T v → px < pv + wfn p q e.1 n)
def cnt : Prs → Nat
  | [] => 0
  | none :: r => cnt r
  | some _ :: r => cnt r + 1
theorem cnt_le : ∀ (l : Prs), cnt l ≤ l.length
  | [] => Nat.le_refl _
  | none :: r => Nat.le_succ_of_le (cnt_le r)
  | some _ :: r => Nat.succ_le_succ (cnt_le r)
theorem cnt_new : ∀ {l : Prs} {i : Nat} {c : Int}, l[i]? = some none → cnt (l.set i (some c)) = cnt l + 1
  | [], i, c, h => by simp at h
  | x :: r, 0, c, h => by simp at h; subst h; rfl
  | x :: r, i + 1, c, h => by
    have ih := cnt_new (l := r) (i := i) (c := c) (by simpa using h)
    cases x with
    | none => exact ih
    | some y => show cnt (r.set i (some c)) + 1 = cnt r + 1 + 1; omega
theorem cnt_old : ∀ {l : Prs} {i : Nat} {b c : Int}, l[i]? = some (some b) → cnt (l.set i (some c)) = cnt l
  | [], i, b, c, h => by simp at h
  | x :: r, 0, b, c, h => by simp at h; subst h; rfl
  | x :: r, i + 1, b, c, h => by
    have ih := cnt_old (l := r) (i := i) (b := b) (c := c) (by simpa using h)
    cases x with
    | none => exact ih
    | some y => show cnt (r.set i (some c)) + 1 = cnt r + 1; omega
structure CI (es : EsT) (p q W N : Nat) (pr : Prs) (ss : Ss) : Prop where
  l1 : pr.length = N
  l2 : ss.length = N
  z : ∃ p0, pr[0]? = some (some p0)
  z0 : ss[0]? = some none → pr[0]? = some (some 0)
  s : ∃ T c, (∀ (x v n : Nat), ss[x]? = some (some (v, n)) → StepOk es p q pr T x v n) ∧ ∀ x, T x ≤ c
  pa : ∀ (x : Nat) (px : Int), x ≠ 0 → pr[x]? = some (some px) → ∃ b, ss[x]? = some (some b)
  lo : ∀ (x : Nat) (px : Int), pr[x]? = some (some px) → -((W * cnt pr : Nat) : Int) ≤ px
/-- each price grows or stays -/
def PLe (a b : Prs) : Prop := a.length = b.length ∧ ∀ (x : Nat) (px : Int), a[x]? = some (some px) → ∃ py, b[x]? = some (some py) ∧ px ≤ py
def PLt (a b : Prs) : Prop := ∃ x : Nat, (a[x]? = some none ∧ ∃ py : Int, b[x]? = some (some py)) ∨ ∃ px py : Int, a[x]? = some (some px) ∧ b[x]? = some (some py) ∧ px < py
theorem PLe.refl (a : Prs) : PLe a a := ⟨rfl, fun x px h => ⟨px, h, Int.le_refl _⟩⟩
theorem PLe.trans {a b c : Prs} (h : PLe a b) (k : PLe b c) : PLe a c := ⟨h.1.trans k.1, fun x px e => by
  obtain ⟨py, e1, l1⟩ := h.2 x px e
  obtain ⟨pz, e2, l2⟩ := k.2 x py e1
  exact ⟨pz, e2, Int.le_trans l1 l2⟩⟩
theorem PLt.of {a b c : Prs} (h : PLe a b) (k : PLt b c) : PLt a c := by
  obtain ⟨x, ⟨h1, py, h2⟩ | ⟨px, py, h1, h2, h3⟩⟩ := k
  · have hx : x < a.length := by rw [h.1]; exact (List.getElem?_eq_some_iff.mp h1).1
    cases e : a[x] with
    | none => exact ⟨x, Or.inl ⟨by rw [List.getElem?_eq_getElem hx, e], py, h2⟩⟩
    | some pa =>
      obtain ⟨pb, h4, _⟩ := h.2 x pa (by rw [List.getElem?_eq_getElem hx, e])
      rw [h1] at h4; cases h4
  · have hx : x < a.length := by rw [h.1]; exact (List.getElem?_eq_some_iff.mp h1).1
    cases e : a[x] with
    | none => exact ⟨x, Or.inl ⟨by rw [List.getElem?_eq_getElem hx, e], py, h2⟩⟩
    | some pa =>
      obtain ⟨pb, h4, h5⟩ := h.2 x pa (by rw [List.getElem?_eq_getElem hx, e])
      rw [h1] at h4; cases h4
      exact ⟨x, Or.inr ⟨pa, py, by rw [List.getElem?_eq_getElem hx, e], h2, by omega⟩⟩
theorem pr_set {pr : Prs} {t x : Nat} {v : Option Int} (ht : t < pr.length) : (pr.set t v)[x]? = if x = t then some v else pr[x]? := by
  by_cases h : x = t
  · subst h; rw [if_pos rfl, List.getElem?_set_self ht]
  · rw [if_neg h, List.getElem?_set_ne (Ne.symm h)]
theorem ss_set {ss : Ss} {t x : Nat} {v : Option (Nat × Nat)} (ht : t < ss.length) : (ss.set t v)[x]? = if x = t then some v else ss[x]? := by
  by_cases h : x = t
  · subst h; rw [if_pos rfl, List.getElem?_set_self ht]
  · rw [if_neg h, List.getElem?_set_ne (Ne.symm h)]
/-- one price is raised -/
theorem CI.raise {es : EsT} {p q W N : Nat} {pr : Prs} {ss : Ss} (h : CI es p q W N pr ss) {a n t : Nat} {row : List (Nat × Nat)} {e : Nat × Nat} {pa : Int} (hr : es[a]? = some row) (he : row[n]? = some e) (et : e.2 = t) (htN : t < N) (hpa : pr[a]? = some (some pa))
    (hw : -(W : Int) ≤ wfn p q e.1 n) (hup : pr[t]? = some none ∨ ∃ pt, pr[t]? = some (some pt) ∧ pt < pa + wfn p q e.1 n) :
    CI es p q W N (pr.set t (some (pa + wfn p q e.1 n))) (ss.set t (some (a, n))) ∧ PLe pr (pr.set t (some (pa + wfn p q e.1 n))) ∧ PLt pr (pr.set t (some (pa + wfn p q e.1 n))) := by
  have ht1 : t < pr.length := by rw [h.l1]; exact htN
  have ht2 : t < ss.length := by rw [h.l2]; exact htN
  have hPLe : PLe pr (pr.set t (some (pa + wfn p q e.1 n))) := ⟨by simp, fun x px hx => by
    rw [pr_set ht1]
    by_cases hxt : x = t
    · subst hxt
      rw [if_pos rfl]
      rcases hup with hn | ⟨pt, h1, h2⟩
      · rw [hx] at hn; cases hn
      · rw [hx] at h1; cases h1
        exact ⟨_, rfl, Int.le_of_lt h2⟩
    · rw [if_neg hxt]; exact ⟨px, hx, Int.le_refl _⟩⟩
  refine ⟨⟨by simp [h.l1], by simp [h.l2], ?_, ?_, ?_, ?_, ?_⟩, hPLe, ⟨t, ?_⟩⟩
  · obtain ⟨p0, h0⟩ := h.z
    obtain ⟨py, h1, _⟩ := hPLe.2 0 p0 h0
    exact ⟨py, h1⟩
  · intro h0
    rw [ss_set ht2] at h0
    by_cases h0t : 0 = t
    · rw [if_pos h0t] at h0; cases h0
    · rw [if_neg h0t] at h0
      rw [pr_set ht1, if_neg h0t]
      exact h.z0 h0
  · obtain ⟨T, c, hT, hc⟩ := h.s
    refine ⟨fun x => if x = t then c + 1 else T x, c + 1, fun x v k hx => ?_, fun x => ?_⟩
    · rw [ss_set ht2] at hx
      by_cases hxt : x = t
      · subst hxt
        rw [if_pos rfl] at hx
        cases hx
        by_cases hax : a = x
        · subst hax
          refine ⟨row, e, _, _, hr, he, et, by rw [pr_set ht1, if_pos rfl], by rw [pr_set ht1, if_pos rfl], ?_, fun _ => ?_⟩
          · rcases hup with hn | ⟨pt, h1, h2⟩
            · rw [hpa] at hn; cases hn
            · rw [hpa] at h1; cases h1; omega
          · rcases hup with hn | ⟨pt, h1, h2⟩
            · rw [hpa] at hn; cases hn
            · rw [hpa] at h1; cases h1; omega
        · refine ⟨row, e, _, pa, hr, he, et, by rw [pr_set ht1, if_pos rfl], by rw [pr_set ht1, if_neg hax]; exact hpa, Int.le_refl _, fun hle => ?_⟩
          dsimp only at hle
          rw [if_pos rfl, if_neg hax] at hle
          have := hc a
          omega
      · rw [if_neg hxt] at hx
        obtain ⟨row', e', px, pv, g1, g2, g3, g4, g5, g6, g7⟩ := hT x v k hx
        by_cases hvt : v = t
        · subst hvt
          refine ⟨row', e', px, pa + wfn p q e.1 n, g1, g2, g3, by rw [pr_set ht1, if_neg hxt]; exact g4, by rw [pr_set ht1, if_pos rfl], ?_, fun _ => ?_⟩
          · rcases hup with hn | ⟨pt, h1, h2⟩
            · rw [g5] at hn; cases hn
            · rw [g5] at h1; cases h1; omega
          · rcases hup with hn | ⟨pt, h1, h2⟩
            · rw [g5] at hn; cases hn
            · rw [g5] at h1; cases h1; omega
        · refine ⟨row', e', px, pv, g1, g2, g3, by rw [pr_set ht1, if_neg hxt]; exact g4, by rw [pr_set ht1, if_neg hvt]; exact g5, g6, fun hle => ?_⟩
          dsimp only at hle
          rw [if_neg hxt, if_neg hvt] at hle
          exact g7 hle
    · dsimp only
      by_cases hxt : x = t
      · rw [if_pos hxt]
        exact Nat.le_refl _
      · rw [if_neg hxt]
        have := hc x
        omega
  · intro x px hx0 hx
    rw [ss_set ht2]
    by_cases hxt : x = t
    · rw [if_pos hxt]; exact ⟨_, rfl⟩
    · rw [if_neg hxt]
      rw [pr_set ht1, if_neg hxt] at hx
      exact h.pa x px hx0 hx
  · intro x px hx
    rw [pr_set ht1] at hx
    have hlo := h.lo a pa hpa
    rcases hup with hn | ⟨pt, h1, h2⟩
    · rw [cnt_new hn]
      have e1 : ((W * (cnt pr + 1) : Nat) : Int) = ((W * cnt pr : Nat) : Int) + (W : Int) := by rw [Nat.mul_add, Nat.mul_one]; omega
      rw [e1]
      by_cases hxt : x = t
      · rw [if_pos hxt] at hx; cases hx; omega
      · rw [if_neg hxt] at hx
        have := h.lo x px hx
        omega
    · rw [cnt_old h1]
      by_cases hxt : x = t
      · rw [if_pos hxt] at hx; cases hx
        have := h.lo t pt h1
        omega
      · rw [if_neg hxt] at hx
        exact h.lo x px hx
  · rcases hup with hn | ⟨pt, h1, h2⟩
    · exact Or.inl ⟨hn, _, by rw [pr_set ht1, if_pos rfl]⟩
    · exact Or.inr ⟨pt, _, h1, by rw [pr_set ht1, if_pos rfl], h2⟩

theorem chn_price {es : EsT} {p q : Nat} {pr : Prs} {ss : Ss} {T : Nat → Nat} (hT : ∀ (x v n : Nat), ss[x]? = some (some (v, n)) → StepOk es p q pr T x v n) {x y : Nat} {l : List Nat} (h : Chn ss x l y) : ∀ {py : Int}, pr[y]? = some (some py) →
    ∃ (px : Int) (t : Nat), pr[x]? = some (some px) ∧ (∀ t0, l.reverse.foldl (stE es) (t0, y) = (t0 + t, x)) ∧ px ≤ py + ((p : Int) * (l.sum : Nat) - (q : Int) * t) ∧ (l = [] ∨ T y < T x ∨ px < py + ((p : Int) * (l.sum : Nat) - (q : Int) * t)) := by
  induction h with
  | nil a => intro py hy; exact ⟨py, 0, hy, fun t0 => rfl, by simp, Or.inl rfl⟩
  | @cons a b n c l hs hc ih =>
    intro py hy
    obtain ⟨pb, t, h1, h2, h3, h4⟩ := ih hy
    obtain ⟨row, e, px, pv, g1, g2, g3, g4, g5, g6, g7⟩ := hT a b n hs
    rw [h1] at g5; cases g5
    have hsum : ((n :: l).sum : Nat) = n + l.sum := rfl
    have eq1 : (p : Int) * ((n :: l).sum : Nat) - (q : Int) * ((t + e.1 : Nat) : Int) = ((p : Int) * (l.sum : Nat) - (q : Int) * t) + wfn p q e.1 n := by
      unfold wfn
      rw [hsum]
      push_cast
      rw [Int.mul_add, Int.mul_add]
      omega
    refine ⟨px, t + e.1, g4, fun t0 => ?_, by rw [eq1]; omega, ?_⟩
    · rw [List.reverse_cons, List.foldl_append, h2]
      show stE es (t0 + t, b) n = _
      unfold stE
      simp only [g1, g2, g3]
      rw [Nat.add_assoc]
    · rw [eq1]
      right
      by_cases hle : T a ≤ T b
      · right
        have := g7 hle
        omega
      · rcases h4 with h4 | h4 | h4
        · subst h4
          cases hc
          left; omega
        · left; omega
        · right; omega
/-- a round of steps back is worth something -/
theorem CI.round {es : EsT} {p q W N : Nat} {pr : Prs} {ss : Ss} (h : CI es p q W N pr ss) {a : Nat} {l : List Nat} (hc : Chn ss a l a) (hl : l ≠ []) : ∃ t, (∀ t0, l.reverse.foldl (stE es) (t0, a) = (t0 + t, a)) ∧ q * t < p * l.sum := by
  obtain ⟨T, c, hT, _⟩ := h.s
  have hpa : ∃ pa : Int, pr[a]? = some (some pa) := by
    cases hc with
    | nil => exact absurd rfl hl
    | @cons _ b n _ l' hs _ =>
      obtain ⟨_, _, px, _, _, _, _, g4, _⟩ := hT a b n hs
      exact ⟨px, g4⟩
  obtain ⟨pa, hpa⟩ := hpa
  obtain ⟨px, t, h1, h2, h3, h4⟩ := chn_price hT hc hpa
  rw [hpa] at h1; cases h1
  refine ⟨t, h2, ?_⟩
  rcases h4 with h4 | h4 | h4
  · exact absurd h4 hl
  · omega
  · have : (q : Int) * t < (p : Int) * (l.sum : Nat) := by omega
    exact_mod_cast this
theorem chn_det {ss : Ss} {a c : Nat} {l : List Nat} (h : Chn ss a l c) (hc : ss[c]? = some none) : ∀ {m : List Nat}, Chn ss a m c → l = m := by
  induction h with
  | nil a => intro m k; cases k with
    | nil => rfl
    | cons hs _ => rw [hc] at hs; cases hs
  | cons hs _ ih => intro m k; cases k with
    | nil => rw [hc] at hs; cases hs
    | cons hs' k' => rw [hs] at hs'; cases hs'; rw [ih hc k']
theorem chn_len {ss : Ss} {a c : Nat} {l : List Nat} (h : Chn ss a l c) (hc : ss[c]? = some none) : ∃ vis : List Nat, vis.length = l.length + 1 ∧ vis.Nodup ∧ ∀ y ∈ vis, y < ss.length ∧ ∃ l', Chn ss y l' c ∧ l'.length ≤ l.length := by
  induction h with
  | nil a => exact ⟨[a], rfl, by simp, fun y hy => by
      rw [List.mem_singleton.mp hy]
      exact ⟨(List.getElem?_eq_some_iff.mp hc).1, [], .nil a, Nat.le_refl _⟩⟩
  | @cons a b n c l hs k ih =>
    obtain ⟨vis, h1, h2, h3⟩ := ih hc
    refine ⟨a :: vis, by simp [h1], List.nodup_cons.mpr ⟨fun hm => ?_, h2⟩, fun y hy => ?_⟩
    · obtain ⟨_, l', h4, h5⟩ := h3 a hm
      have := chn_det (Chn.cons hs k) hc h4
      rw [← this] at h5
      simp at h5
      omega
    · rcases List.mem_cons.mp hy with rfl | hy
      · exact ⟨(List.getElem?_eq_some_iff.mp hs).1, n :: l, .cons hs k, Nat.le_refl _⟩
      · obtain ⟨h4, l', h5, h6⟩ := h3 y hy
        exact ⟨h4, l', h5, by simp; omega⟩
theorem chn_down {es : EsT} {p q W N : Nat} {pr : Prs} {ss : Ss} (h : CI es p q W N pr ss) (hw : ∀ (a n : Nat) (row : List (Nat × Nat)) (e : Nat × Nat), es[a]? = some row → row[n]? = some e → wfn p q e.1 n ≤ W) {x c : Nat} {l : List Nat} (hc : Chn ss x l c) : ∀ {px : Int}, pr[x]? = some (some px) → ∃ pc : Int, pr[c]? = some (some pc) ∧ px ≤ pc + ((W * l.length : Nat) : Int) := by
  obtain ⟨T, cl, hT, _⟩ := h.s
  induction hc with
  | nil a => intro px hx; exact ⟨px, hx, by simp⟩
  | @cons a b n c l hs k ih =>
    intro px hx
    obtain ⟨row, e, px', pv, g1, g2, g3, g4, g5, g6, g7⟩ := hT a b n hs
    rw [hx] at g4; cases g4
    obtain ⟨pc, h1, h2⟩ := ih g5
    have := hw b n row e g1 g2
    refine ⟨pc, h1, ?_⟩
    have e1 : ((W * (n :: l).length : Nat) : Int) = ((W * l.length : Nat) : Int) + (W : Int) := by rw [List.length_cons, Nat.mul_add, Nat.mul_one]; omega
    rw [e1]
    omega
/-- where every way back ends the prices are bounded -/
theorem CI.bound {es : EsT} {p q W N : Nat} {pr : Prs} {ss : Ss} (h : CI es p q W N pr ss) (hw : ∀ (a n : Nat) (row : List (Nat × Nat)) (e : Nat × Nat), es[a]? = some row → row[n]? = some e → wfn p q e.1 n ≤ W) (hE : ∀ v, v < ss.length → Ends ss v) (x : Nat) (px : Int) (hx : pr[x]? = some (some px)) : px ≤ ((W * N : Nat) : Int) := by
  have hxl : x < ss.length := by rw [h.l2, ← h.l1]; exact (List.getElem?_eq_some_iff.mp hx).1
  obtain ⟨l, c, hc, hn⟩ := hE x hxl
  obtain ⟨pc, h1, h2⟩ := chn_down h hw hc hx
  have hc0 : c = 0 := by
    by_cases z : c = 0
    · exact z
    · obtain ⟨b, hb⟩ := h.pa c pc z h1
      rw [hn] at hb; cases hb
  subst hc0
  rw [h.z0 hn] at h1
  cases h1
  obtain ⟨vis, v1, v2, v3⟩ := chn_len hc hn
  have := nodup_len (S := List.range N) v2 fun y hy => List.mem_range.mpr (by have := (v3 y hy).1; rw [h.l2] at this; exact this)
  rw [List.length_range] at this
  have h3 : W * l.length ≤ W * N := Nat.mul_le_mul_left _ (by omega)
  omega
/-! a number that falls -/
def gval (B : Nat) : Option Int → Nat
  | none => 2 * B + 1
  | some p => ((B : Int) - p).toNat
def Phi (B : Nat) (pr : Prs) : Nat := (pr.map (gval B)).sum
theorem sum_lt : ∀ {a b : List Nat}, a.length = b.length → (∀ (i x y : Nat), a[i]? = some x → b[i]? = some y → y ≤ x) → (∃ (i x y : Nat), a[i]? = some x ∧ b[i]? = some y ∧ y < x) → b.sum < a.sum
  | [], [], _, _, ⟨i, x, y, h, _⟩ => by simp at h
  | [], _ :: _, h, _, _ => by simp at h
  | _ :: _, [], h, _, _ => by simp at h
  | x :: a, y :: b, h, hle, ⟨i, u, v, h1, h2, h3⟩ => by
    have hl : a.length = b.length := by simpa using h
    have h0 := hle 0 x y rfl rfl
    have ht : ∀ (i x y : Nat), a[i]? = some x → b[i]? = some y → y ≤ x := fun i x y p q => hle (i + 1) x y (by simpa using p) (by simpa using q)
    have le : ∀ {a b : List Nat}, a.length = b.length → (∀ (i x y : Nat), a[i]? = some x → b[i]? = some y → y ≤ x) → b.sum ≤ a.sum := by
      intro a
      induction a with
      | nil => intro b hb _; cases b with
        | nil => exact Nat.le_refl _
        | cons _ _ => simp at hb
      | cons c r ih => intro b hb hh; cases b with
        | nil => simp at hb
        | cons d t =>
          have e1 := hh 0 c d rfl rfl
          have e2 := ih (b := t) (by simpa using hb) fun i x y p q => hh (i + 1) x y (by simpa using p) (by simpa using q)
          simp only [List.sum_cons]; omega
    simp only [List.sum_cons]
    cases i with
    | zero =>
      simp at h1 h2
      subst h1 h2
      have := le hl ht
      omega
    | succ i =>
      have := sum_lt hl ht ⟨i, u, v, by simpa using h1, by simpa using h2, h3⟩
      omega
theorem Phi_lt {es : EsT} {p q W N : Nat} {a b : Prs} {ss : Ss} (hb : CI es p q W N b ss) (hle : PLe a b) (hlt : PLt a b) (hup : ∀ (x : Nat) (px : Int), b[x]? = some (some px) → px ≤ ((W * N : Nat) : Int)) : Phi (W * N) b < Phi (W * N) a := by
  have lo : ∀ (x : Nat) (px : Int), b[x]? = some (some px) → -((W * N : Nat) : Int) ≤ px := fun x px hx => by
    have h1 := hb.lo x px hx
    have h2 := cnt_le b
    rw [hb.l1] at h2
    have h3 : W * cnt b ≤ W * N := Nat.mul_le_mul_left _ h2
    omega
  refine sum_lt (by simp [hle.1]) (fun i x y hx hy => ?_) ?_
  · rw [List.getElem?_map] at hx hy
    cases ha : a[i]? with
    | none => rw [ha] at hx; cases hx
    | some oa =>
      cases hbb : b[i]? with
      | none => rw [hbb] at hy; cases hy
      | some ob =>
        rw [ha] at hx; rw [hbb] at hy
        cases hx; cases hy
        cases oa with
        | none =>
          cases ob with
          | none => exact Nat.le_refl _
          | some py =>
            have := lo i py hbb
            show ((( W * N : Nat) : Int) - py).toNat ≤ 2 * (W * N) + 1
            omega
        | some px =>
          obtain ⟨py, h1, h2⟩ := hle.2 i px ha
          rw [hbb] at h1; cases h1
          show ((( W * N : Nat) : Int) - py).toNat ≤ ((( W * N : Nat) : Int) - px).toNat
          omega
  · obtain ⟨x, ⟨h1, py, h2⟩ | ⟨px, py, h1, h2, h3⟩⟩ := hlt
    · refine ⟨x, _, _, by rw [List.getElem?_map, h1]; rfl, by rw [List.getElem?_map, h2]; rfl, ?_⟩
      have := lo x py h2
      show ((( W * N : Nat) : Int) - py).toNat < 2 * (W * N) + 1
      omega
    · refine ⟨x, _, _, by rw [List.getElem?_map, h1]; rfl, by rw [List.getElem?_map, h2]; rfl, ?_⟩
      have := hup x py h2
      show ((( W * N : Nat) : Int) - py).toNat < ((( W * N : Nat) : Int) - px).toNat
      omega
end K46
/-! part L2 -/
set_option maxHeartbeats 4000000
namespace K46
open PySem PySem.Spec PyProof.Rows L2 Evl
/-! ### settings and states as data -/
def Setg.wayS (s : Setg) : Str := if s.newest then "newest" else "oldest"
def tokD : Option Nat → Da
  | none => .non
  | some n => dn n
def tokV : Option Nat → V
  | none => .non
  | some n => vn n
def fuseD : Option (Nat × Nat) → Da
  | none => .non
  | some p => .tup [dn p.1, dn p.2]
def Setg.da (s : Setg) : Da := .tup [dn s.work, dn s.room, dn s.pat, dn s.tries, .int 1, .str s.wayS, .bl s.dead, tokD s.tok, fuseD s.fuse]
def prD (p : Nat × Nat) : Da := .tup [dn p.1, dn p.2]
def Sta.qD (s : Sta) : Da := .tup (s.q.map prD)
def Sta.lD (s : Sta) : Da := .tup [.tup (s.l.map dn)]
def Sta.da (s : Sta) : Da := .tup [dn s.d, s.qD, s.lD, dn s.t, dn s.o]
theorem rp_tok {H : Hp} {t : Option Nat} {v : V} (h : Rp H (tokD t) v) : v = tokV t := by
  cases t with
  | none => exact h
  | some n => exact h
def FuA (H : Hp) : Option (Nat × Nat) → V → Prop
  | none, v => v = .non
  | some p, v => ∃ a, v = .ref a ∧ H a = some (.tup [vn p.1, vn p.2])
theorem rp_fuse {H : Hp} {t : Option (Nat × Nat)} {v : V} (h : Rp H (fuseD t) v) : FuA H t v := by
  cases t with
  | none => exact h
  | some p =>
    obtain ⟨a, xs, e, h1, h2⟩ := h
    obtain ⟨x, r, rfl, e1, x2, r2, rfl, e2, e3⟩ := h2
    cases (show x = vn p.1 from e1)
    cases (show x2 = vn p.2 from e2)
    cases (show r2 = [] from e3)
    exact ⟨a, e, h1⟩
/-- a setting as it stands -/
structure SeA (H : Hp) (s : Setg) (a : Addr) (f : V) : Prop where
  at_ : H a = some (.tup [vn s.work, vn s.room, vn s.pat, vn s.tries, .int 1, .str s.wayS, .bl s.dead, tokV s.tok, f])
  fu : FuA H s.fuse f
theorem rp_set {H : Hp} {s : Setg} {v : V} (h : Rp H s.da v) : ∃ a f, v = .ref a ∧ SeA H s a f := by
  obtain ⟨a, xs, e, h1, h2⟩ := h
  obtain ⟨x1, r, rfl, e1, x2, r2, rfl, e2, x3, r3, rfl, e3, x4, r4, rfl, e4, x5, r5, rfl, e5, x6, r6, rfl, e6, x7, r7, rfl, e7, x8, r8, rfl, e8, x9, r9, rfl, e9, e10⟩ := h2
  cases (show x1 = vn s.work from e1)
  cases (show x2 = vn s.room from e2)
  cases (show x3 = vn s.pat from e3)
  cases (show x4 = vn s.tries from e4)
  cases (show x5 = .int 1 from e5)
  cases (show x6 = .str s.wayS from e6)
  cases (show x7 = .bl s.dead from e7)
  cases rp_tok e8
  cases (show r9 = [] from e10)
  exact ⟨a, x9, e, h1, rp_fuse e9⟩
theorem FuA.mono {H H' : Hp} (t : Tm H H') : ∀ {p : Option (Nat × Nat)} {v : V}, FuA H p v → FuA H' p v
  | none, _, h => h
  | some _, _, ⟨a, e, h⟩ => ⟨a, e, t a _ h⟩
theorem SeA.mono {H H' : Hp} (t : Tm H H') {s : Setg} {a : Addr} {f : V} (h : SeA H s a f) : SeA H' s a f := ⟨t _ _ h.at_, h.fu.mono t⟩
/-- a state as it stands -/
structure StA (H : Hp) (s : Sta) (a b c e : Addr) (qs : List V) : Prop where
  at_ : H a = some (.tup [vn s.d, .ref b, .ref c, vn s.t, vn s.o])
  q : H b = some (.tup qs)
  qr : RpL H (s.q.map prD) qs
  l : H c = some (.tup [.ref e])
  l0 : H e = some (.tup (s.l.map vn))
theorem rp_sta {H : Hp} {s : Sta} {v : V} (h : Rp H s.da v) : ∃ a b c e qs, v = .ref a ∧ StA H s a b c e qs := by
  obtain ⟨a, xs, ev, h1, h2⟩ := h
  obtain ⟨x1, r, rfl, e1, x2, r2, rfl, e2, x3, r3, rfl, e3, x4, r4, rfl, e4, x5, r5, rfl, e5, e6⟩ := h2
  cases (show x1 = vn s.d from e1)
  cases (show x4 = vn s.t from e4)
  cases (show x5 = vn s.o from e5)
  cases (show r5 = [] from e6)
  obtain ⟨b, qs, rfl, q1, q2⟩ := e2
  obtain ⟨c, ls, rfl, l1, l2⟩ := e3
  obtain ⟨y, r, rfl, ⟨e, zs, rfl, z1, z2⟩, e7⟩ := l2
  cases (show r = [] from e7)
  rw [rpl_nats_of z2] at z1
  exact ⟨a, b, c, e, qs, ev, h1, q1, q2, l1, z1⟩
theorem StA.mono {H H' : Hp} (t : Tm H H') {s : Sta} {a b c e : Addr} {qs : List V} (h : StA H s a b c e qs) : StA H' s a b c e qs :=
  ⟨t _ _ h.at_, t _ _ h.q, h.qr.mono t, t _ _ h.l, t _ _ h.l0⟩
theorem StA.rp {H : Hp} {s : Sta} {a b c e : Addr} {qs : List V} (h : StA H s a b c e qs) : Rp H s.da (.ref a) :=
  ⟨a, _, rfl, h.at_, _, _, rfl, rfl, _, _, rfl, ⟨b, qs, rfl, h.q, h.qr⟩, _, _, rfl, ⟨c, _, rfl, h.l, _, _, rfl, ⟨e, _, rfl, h.l0, rpl_nats _⟩, rfl⟩, _, _, rfl, rfl, _, _, rfl, rfl, rfl⟩

section
variable {P : Program} {w : World} {K : PySem.W.Frag} {mg : Str → Option Value} {base : Heap}
theorem dtt {p : Prop} [Decidable p] (h : p) : true = decide p := (decide_eq_true h).symm
def spWhole : Sp := fun vs H Q _ => ∃ (i lo hi : Int) (b : Bool), vs = [.int i, .int lo, .int hi] ∧ b = decide (lo ≤ i ∧ i ≤ hi) ∧ Q (.bl b) H
theorem sc_is_whole : FnScope ["thing", "low", "high"] ["thing", "low", "high"] (d_is_whole.scope) := ⟨rfl, rfl, rfl, by decide +kernel, rfl, by decide +kernel, by decide +kernel⟩
theorem kit_ii : kitB "int" "int" = some true := by decide +kernel
theorem kit_ib : kitB "int" "bool" = some false := by decide +kernel
theorem c_is_whole (B : Bas w K mg) : Cal P w K mg base 1 "is_whole" ["thing", "low", "high"] spWhole := by
  refine B.cal "is_whole" 0 0 (d := d_is_whole) rfl rfl rfl rfl rfl sc_is_whole (fun vs H Q E h => ?_) (fun _ _ _ _ _ _ us hl => match us, hl with | [_, _, _], _ => rfl) (fun f cdv A outer s H vs Q E hr h => ?_)
  · obtain ⟨i, lo, hi, bb, rfl, _⟩ := h
    rfl
  · obtain ⟨i, lo, hi, bb, rfl, rfl, k⟩ := h
    refine ⟨_, (pss_one (ps_ret (pe_and (pe_callB call_isi (by rfl) (B.free 70) boot_isinstance (pa_cons (pv 0) (pa_cons (pe_bltn (v := .ty "int") (by rfl) (B.free 71) boot_int rfl) pa_nil))) (pe_and (pe_not (pe_callB call_isi (by rfl) (B.free 70) boot_isinstance (pa_cons (pv 0) (pa_cons (pe_bltn (v := .ty "bool") (by rfl) (B.free 72) boot_bool rfl) pa_nil)))) (pe_one (pe_chain op_le op_le (pv 1) (pv 0) (pv 2))))))), ?_⟩
    refine ⟨_, rfl, _, _, _, _, true, rfl, .ty "int", .base (.int i), kit_ty kit_ii, true, rfl, ?_⟩
    refine ⟨_, rfl, _, _, _, _, false, rfl, .ty "bool", .base (.int i), kit_ty kit_ib, false, rfl, true, rfl, ?_⟩
    refine ⟨_, rfl, _, rfl, _, _, rfl, rfl, _, rfl, ?_⟩
    by_cases h1 : lo ≤ i
    · rw [decide_eq_true h1]
      refine ⟨_, rfl, _, _, rfl, rfl, ?_⟩
      have := k
      have e : decide (lo ≤ i ∧ i ≤ hi) = decide (i ≤ hi) := by rw [Bool.eq_iff_iff]; simp [h1]
      rw [e] at this
      exact this
    · rw [decide_eq_false h1]
      have := k
      have e : decide (lo ≤ i ∧ i ≤ hi) = false := by simp [h1]
      rw [e] at this
      exact this
end
end K46
/-! part L3 -/
set_option maxHeartbeats 600000
namespace K46
open PySem PySem.Spec PyProof.Rows L2 Evl
/-- for i, x in enumerate(a list that stays) -/
theorem for_enum {K : PySem.W.Frag} {a : Addr} {xs : List V} {g : TG} {tb : TS} {D : L2.Ends} {σ : L2.St} {H : Hp} (Pv : Nat → L2.St → Hp → Prop) (h0 : Pv 0 σ H) (hl : ∀ i σ H, i ≤ xs.length → Pv i σ H → H a = some (.lst xs))
    (hs : ∀ i x σ H T H', xs[i]? = some x → Pv i σ H → H T = none → Ex H H' → H' T = some (.tup [vn i, x]) → g (.ref T) σ H' fun σ2 H2 => tb { D with nx := Pv (i + 1), ct := Pv (i + 1), bk := D.nx } σ2 H2) (hd : ∀ σ H, Pv xs.length σ H → D.nx σ H) :
    ∃ W : Nat → Nat → L2.St → Hp → Prop, (∃ m, W 0 m σ H) ∧ ∀ i m σ H, W i m σ H →
      ((Ite K a).stop i H ∧ D.nx σ H) ∨ ((Ite K a).go i H ∧ ∃ N : L2.St → Hp → Prop, (∀ σ' H', N σ' H' → ∃ m', m' < m ∧ W (i + 1) m' σ' H') ∧ ∀ v H', (Ite K a).yld i H v H' → g v σ H' fun σ2 H2 => tb { D with nx := N, ct := N, bk := D.nx } σ2 H2) := by
  refine ⟨fun i m σ H => m = xs.length - i ∧ i ≤ xs.length ∧ Pv i σ H, ⟨xs.length, by simp, Nat.zero_le _, h0⟩, ?_⟩
  rintro i m σ H ⟨rfl, hi, p⟩
  have q : SqL K H a xs := SqL.of (hl i σ H hi p)
  by_cases hlt : i < xs.length
  · refine .inr ⟨⟨xs, xs[i], q, by simp [hlt]⟩, Pv (i + 1), fun σ' H' p' => ⟨xs.length - (i + 1), by omega, rfl, hlt, p'⟩, fun v H' y => ?_⟩
    obtain ⟨T, x, e1, n, e2, hx⟩ := y
    subst e1 e2
    exact hs i x σ H T _ (hx xs q) p n (Ex.new n) upd_same
  · have e : i = xs.length := by omega
    subst e
    exact .inl ⟨⟨xs, q, Nat.le_refl _⟩, hd σ H p⟩

/-! ### comprehensions whose turns leave all as it was: res i, what is made in i turns -/
section
variable {K : PySem.W.Frag} {a : Addr} {xs : List V} {g : TG} {tt : TT} {te : TE} {vs : List Nat} {σ : L2.St} {H1 : Hp} {D : Addr} {Qd : Hp → Prop}
abbrev CTurn (H1 : Hp) (σ : L2.St) (vs : List Nat) (g : TG) (tt : TT) (te : TE) (res : Nat → List V) (i : Nat) (x : V) (H : Hp) : Prop :=
  ∀ (R : V → Hp → Prop) (N : Hp → Prop), (∀ y H4, Ex H H4 → res (i + 1) = res i ++ [y] → R y H4) → (∀ H3, Ex H H3 → res (i + 1) = res i → N H3) →
    g x (wipe σ vs) H fun σ2 H2 => wipe σ2 vs = wipe σ vs ∧ tt σ2 H2 fun b H3 => if b = true then te σ2 H3 R else N H3
theorem lcT (res : Nat → List V) (hx : H1 a = some (.tup xs)) (r0 : res 0 = []) (hz : ∀ i, i ≤ xs.length → (res i).length < sizeLine)
    (hs : ∀ i x H, xs[i]? = some x → Ex H1 H → CTurn H1 σ vs g tt te res i x H) (hD : H1 D = none) (k : ∀ H', Ex H1 H' → H' D = some (.lst (res xs.length)) → Qd H') :
    ∃ W : Nat → Nat → Hp → Prop, (∃ m, W 0 m (upd H1 D (.lst []))) ∧ ∀ i m H, W i m H →
      ((Itt K a).stop i H ∧ Qd H) ∨ ((Itt K a).go i H ∧ ∃ Nx : Hp → Prop, (∀ H', Nx H' → ∃ m', m' < m ∧ W (i + 1) m' H') ∧ ∀ x H', (Itt K a).yld i H x H' → g x (wipe σ vs) H' fun σ2 H2 => wipe σ2 vs = wipe σ vs ∧ tt σ2 H2 fun b H3 =>
        if b = true then te σ2 H3 fun y H4 => ∃ acc, H4 D = some (.lst acc) ∧ acc.length < sizeLine ∧ Nx (upd H4 D (.lst (acc ++ [y]))) else Nx H3) := by
  refine lc_tup (fun i H => Ex H1 H ∧ H D = some (.lst (res i))) ⟨Ex.new hD, by rw [r0]; exact upd_same⟩ (fun i H _ p => SqT.of (p.1 _ _ hx)) (fun i x H hi p => ?_) (fun H p => k H p.1 p.2)
  have hil : i < xs.length := (List.getElem?_eq_some_iff.mp hi).1
  refine hs i x H hi p.1 _ _ (fun y H4 e4 er => ?_) (fun H3 e3 er => ⟨p.1.trans e3, by rw [er]; exact e3 _ _ p.2⟩)
  exact ⟨res i, e4 _ _ p.2, hz i (Nat.le_of_lt hil), (p.1.trans e4).mut hD, by rw [er]; exact upd_same⟩
theorem lcL (res : Nat → List V) (hx : H1 a = some (.lst xs)) (r0 : res 0 = []) (hz : ∀ i, i ≤ xs.length → (res i).length < sizeLine)
    (hs : ∀ i x H, xs[i]? = some x → Ex H1 H → CTurn H1 σ vs g tt te res i x H) (hD : H1 D = none) (k : ∀ H', Ex H1 H' → H' D = some (.lst (res xs.length)) → Qd H') :
    ∃ W : Nat → Nat → Hp → Prop, (∃ m, W 0 m (upd H1 D (.lst []))) ∧ ∀ i m H, W i m H →
      ((Itl K a).stop i H ∧ Qd H) ∨ ((Itl K a).go i H ∧ ∃ Nx : Hp → Prop, (∀ H', Nx H' → ∃ m', m' < m ∧ W (i + 1) m' H') ∧ ∀ x H', (Itl K a).yld i H x H' → g x (wipe σ vs) H' fun σ2 H2 => wipe σ2 vs = wipe σ vs ∧ tt σ2 H2 fun b H3 =>
        if b = true then te σ2 H3 fun y H4 => ∃ acc, H4 D = some (.lst acc) ∧ acc.length < sizeLine ∧ Nx (upd H4 D (.lst (acc ++ [y]))) else Nx H3) := by
  refine lc_list (fun i H => Ex H1 H ∧ H D = some (.lst (res i))) ⟨Ex.new hD, by rw [r0]; exact upd_same⟩ (fun i H _ p => SqL.of (p.1 _ _ hx)) (fun i x H hi p => ?_) (fun H p => k H p.1 p.2)
  have hil : i < xs.length := (List.getElem?_eq_some_iff.mp hi).1
  refine hs i x H hi p.1 _ _ (fun y H4 e4 er => ?_) (fun H3 e3 er => ⟨p.1.trans e3, by rw [er]; exact e3 _ _ p.2⟩)
  exact ⟨res i, e4 _ _ p.2, hz i (Nat.le_of_lt hil), (p.1.trans e4).mut hD, by rw [er]; exact upd_same⟩
theorem lcE (res : Nat → List V) (hx : H1 a = some (.lst xs)) (r0 : res 0 = []) (hz : ∀ i, i ≤ xs.length → (res i).length < sizeLine)
    (hs : ∀ i x T H, xs[i]? = some x → Ex H1 H → H T = some (.tup [vn i, x]) → CTurn H1 σ vs g tt te res i (.ref T) H) (hD : H1 D = none) (k : ∀ H', Ex H1 H' → H' D = some (.lst (res xs.length)) → Qd H') :
    ∃ W : Nat → Nat → Hp → Prop, (∃ m, W 0 m (upd H1 D (.lst []))) ∧ ∀ i m H, W i m H →
      ((Ite K a).stop i H ∧ Qd H) ∨ ((Ite K a).go i H ∧ ∃ Nx : Hp → Prop, (∀ H', Nx H' → ∃ m', m' < m ∧ W (i + 1) m' H') ∧ ∀ x H', (Ite K a).yld i H x H' → g x (wipe σ vs) H' fun σ2 H2 => wipe σ2 vs = wipe σ vs ∧ tt σ2 H2 fun b H3 =>
        if b = true then te σ2 H3 fun y H4 => ∃ acc, H4 D = some (.lst acc) ∧ acc.length < sizeLine ∧ Nx (upd H4 D (.lst (acc ++ [y]))) else Nx H3) := by
  refine ⟨fun i m H => m = xs.length - i ∧ i ≤ xs.length ∧ Ex H1 H ∧ H D = some (.lst (res i)), ⟨xs.length, by simp, Nat.zero_le _, Ex.new hD, by rw [r0]; exact upd_same⟩, ?_⟩
  rintro i m H ⟨rfl, hi, p1, p2⟩
  have q : SqL K H a xs := SqL.of (p1 _ _ hx)
  by_cases hlt : i < xs.length
  · refine .inr ⟨⟨xs, xs[i], q, by simp [hlt]⟩, fun H' => Ex H1 H' ∧ H' D = some (.lst (res (i + 1))), fun H' p' => ⟨xs.length - (i + 1), by omega, rfl, hlt, p'⟩, fun v H' y => ?_⟩
    obtain ⟨T, x, e1, n, e2, hx'⟩ := y
    subst e1 e2
    refine hs i x T _ (hx' xs q) (p1.trans (Ex.new n)) upd_same _ _ (fun y H4 e4 er => ?_) (fun H3 e3 er => ⟨(p1.trans (Ex.new n)).trans e3, by rw [er]; exact e3 _ _ (Ex.new n _ _ p2)⟩)
    exact ⟨res i, e4 _ _ (Ex.new n _ _ p2), hz i hi, ((p1.trans (Ex.new n)).trans e4).mut hD, by rw [er]; exact upd_same⟩
  · have e : i = xs.length := by omega
    subst e
    exact .inl ⟨⟨xs, q, Nat.le_refl _⟩, k H p1 p2⟩
theorem lcR {n : Nat} (res : Nat → List V) (r0 : res 0 = []) (hz : ∀ i, i ≤ n → (res i).length < sizeLine)
    (hs : ∀ i H, i < n → Ex H1 H → CTurn H1 σ vs g tt te res i (vn i) H) (hD : H1 D = none) (k : ∀ H', Ex H1 H' → H' D = some (.lst (res n)) → Qd H') :
    ∃ W : Nat → Nat → Hp → Prop, (∃ m, W 0 m (upd H1 D (.lst []))) ∧ ∀ i m H, W i m H →
      ((Itr 0 n).stop i H ∧ Qd H) ∨ ((Itr 0 n).go i H ∧ ∃ Nx : Hp → Prop, (∀ H', Nx H' → ∃ m', m' < m ∧ W (i + 1) m' H') ∧ ∀ x H', (Itr 0 n).yld i H x H' → g x (wipe σ vs) H' fun σ2 H2 => wipe σ2 vs = wipe σ vs ∧ tt σ2 H2 fun b H3 =>
        if b = true then te σ2 H3 fun y H4 => ∃ acc, H4 D = some (.lst acc) ∧ acc.length < sizeLine ∧ Nx (upd H4 D (.lst (acc ++ [y]))) else Nx H3) := by
  refine lc_range (fun i H => Ex H1 H ∧ H D = some (.lst (res i))) ⟨Ex.new hD, by rw [r0]; exact upd_same⟩ (fun i H hi p => ?_) (fun H p => k H p.1 p.2)
  have e0 : (0 : Int) + (i : Int) = (i : Int) := Int.zero_add _
  rw [e0]
  refine hs i H hi p.1 _ _ (fun y H4 e4 er => ?_) (fun H3 e3 er => ⟨p.1.trans e3, by rw [er]; exact e3 _ _ p.2⟩)
  exact ⟨res i, e4 _ _ p.2, hz i (Nat.le_of_lt hi), (p.1.trans e4).mut hD, by rw [er]; exact upd_same⟩
end
theorem map_at {α : Type} {l : List α} {f : α → V} {i : Nat} {x : V} (h : (l.map f)[i]? = some x) : ∃ m, l[i]? = some m ∧ x = f m := by
  rw [List.getElem?_map] at h
  cases q : l[i]? with
  | none => rw [q] at h; cases h
  | some m => rw [q] at h; exact ⟨m, rfl, (Option.some.inj h).symm⟩
theorem foldl_take {α β : Type} (f : β → α → β) (b : β) : ∀ {l : List α} {i : Nat} {x : α}, l[i]? = some x → (l.take (i + 1)).foldl f b = f ((l.take i).foldl f b) x := by
  intro l i x h
  have e : l.take (i + 1) = l.take i ++ [x] := by
    rw [List.take_add_one, h]; rfl
  rw [e, List.foldl_append]; rfl
/-! ### sums, counts of numbers from 0 on -/
theorem map_vn (l : List Nat) : l.map vn = (l.map (fun n : Nat => (n : Int))).map V.int := by rw [List.map_map]; rfl
theorem sum_nat : ∀ (l : List Nat), (l.map (fun n : Nat => (n : Int))).sum = ((l.sum : Nat) : Int)
  | [] => rfl
  | a :: r => by rw [List.map_cons, List.sum_cons, List.sum_cons, sum_nat r]; omega
theorem count_nat (k : Nat) : ∀ (l : List Nat), (l.map (fun n : Nat => (n : Int))).count (k : Int) = l.count k
  | [] => rfl
  | a :: r => by
    rw [List.map_cons, List.count_cons, List.count_cons, count_nat k r]
    by_cases h : a = k
    · subst h; simp
    · have : ¬ ((a : Int) = (k : Int)) := by omega
      simp [h, this]
section
variable {X : Cx}
def rSumN : List V → Hp → VK → Prop := fun vs H Q => ∃ (a : Addr) (ns : List Nat), vs = [V.ref a] ∧ H a = some (.lst (ns.map vn)) ∧ Q (vn ns.sum) H
theorem cr_sumN (hc : X.calm = true) : CallR X (.builtin "sum") rSumN := by
  intro pins s σ H xs us Q I r h
  obtain ⟨a, ns, e, ha, q⟩ := h
  refine cr_sum hc pins s σ H xs us Q I r ⟨a, _, e, SqL.of (by rw [ha, map_vn]), ?_⟩
  rw [sum_nat]; exact q
def rCntN : V → List V → Hp → VK → Prop := fun x xs H Q => ∃ (p : Addr) (ns : List Nat) (k : Nat), x = .ref p ∧ xs = [vn k] ∧ H p = some (.lst (ns.map vn)) ∧ Q (vn (ns.count k)) H
theorem mt_cntN : MtR X "list.count" rCntN := by
  intro pins s σ H x xs v us Q I rx r h
  obtain ⟨p, ns, k, e1, e2, hp, q⟩ := h
  refine mt_lcount pins s σ H x xs v us Q I rx r ⟨p, _, k, e1, e2, SqL.of (by rw [hp, map_vn]), ?_⟩
  rw [count_nat]; exact q
end
end K46
/-! part L4 -/
set_option maxHeartbeats 600000
namespace K46
open PySem PySem.Spec PyProof.Rows L2 Evl
theorem iT {b : Bool} {A B : Prop} (h : b = true) (k : A) : if b = true then A else B := by rw [if_pos h]; exact k
theorem iF {b : Bool} {A B : Prop} (h : b = false) (k : B) : if b = true then A else B := by rw [if_neg (by rw [h]; exact Bool.false_ne_true)]; exact k
theorem yesT {σ : L2.St} {H : Hp} {te : TE} {R : VK} {N : Hp → Prop} (h : te σ H R) : tYes σ H fun b H3 => if b = true then te σ H3 R else N H3 := by
  show if true = true then te σ H R else N H
  rw [if_pos rfl]; exact h
/-- the state list, told anew -/
theorem setσ {t : TS} {D : L2.Ends} {σ σ' : L2.St} {H : Hp} (e : σ = σ') (h : t D σ' H) : t D σ H := by rw [e]; exact h
/-- both branches give v and leave all as it was -/
theorem joinIf {b : Bool} {te1 te2 : TE} {σ : L2.St} {H : Hp} {Q : VK} (v : V) (h1 : b = true → ∀ Q' : VK, Q' v H → te1 σ H Q') (h2 : b = false → ∀ Q' : VK, Q' v H → te2 σ H Q') (k : Q v H) : if b = true then te1 σ H Q else te2 σ H Q := by
  cases b with
  | true => exact iT rfl (h1 rfl Q k)
  | false => exact iF rfl (h2 rfl Q k)
theorem cut_take (xs : List V) (n : Nat) (h : n ≤ xs.length) : cutV xs none (some (n : Int)) = xs.take n := by
  unfold cutV
  rw [HT.sIx_none, HT.sIx_nat, Nat.min_eq_left h]
  simp
theorem cut_drop (xs : List V) (n : Nat) (h : n ≤ xs.length) : cutV xs (some (n : Int)) none = xs.drop n := by
  unfold cutV
  rw [HT.sIx_none, HT.sIx_nat, Nat.min_eq_left h]
  exact List.take_of_length_le (by simp)
theorem cut_tail (xs : List V) : cutV xs (some 1) none = xs.tail := by
  cases xs with
  | nil => rfl
  | cons x r => exact cut_drop (x :: r) 1 (by simp)
theorem cut35 {a b c d e f g h i : V} : cutV [a, b, c, d, e, f, g, h, i] (some 3) (some 5) = [d, e] := rfl
theorem cut24 {a b c d e f g h i : V} : cutV [a, b, c, d, e, f, g, h, i] (some 2) (some 4) = [c, d] := rfl
theorem for_rangeN {n : Nat} {g : TG} {tb : TS} {D : L2.Ends} {σ : L2.St} {H : Hp} (Pv : Nat → L2.St → Hp → Prop) (h0 : Pv 0 σ H)
    (hs : ∀ i σ H, i < n → Pv i σ H → g (vn i) σ H fun σ2 H2 => tb { D with nx := Pv (i + 1), ct := Pv (i + 1), bk := D.nx } σ2 H2) (hd : ∀ σ H, Pv n σ H → D.nx σ H) :
    ∃ W : Nat → Nat → L2.St → Hp → Prop, (∃ m, W 0 m σ H) ∧ ∀ i m σ H, W i m σ H →
      ((Itr 0 n).stop i H ∧ D.nx σ H) ∨ ((Itr 0 n).go i H ∧ ∃ N : L2.St → Hp → Prop, (∀ σ' H', N σ' H' → ∃ m', m' < m ∧ W (i + 1) m' σ' H') ∧ ∀ x H', (Itr 0 n).yld i H x H' → g x σ H' fun σ2 H2 => tb { D with nx := N, ct := N, bk := D.nx } σ2 H2) :=
  for_range Pv h0 (fun i σ H hi p => by rw [show (0 : Int) + (i : Int) = (i : Int) from Int.zero_add _]; exact hs i σ H hi p) hd
/-! ### isinstance, told true -/
section
variable {X : Cx}
theorem kit_tt : kitB "tuple" "tuple" = some true := by decide +kernel
theorem kit_ss : kitB "str" "str" = some true := by decide +kernel
theorem kit_bb : kitB "bool" "bool" = some true := by decide +kernel
def rIsTup : List V → Hp → VK → Prop := fun vs H Q => ∃ a xs, vs = [.ref a, .ty "tuple"] ∧ H a = some (.tup xs) ∧ Q (.bl true) H
theorem call_isiTup : CallR X (.builtin "isinstance") rIsTup := by
  intro pins s σ H xs us Q I r h
  obtain ⟨a, ys, e, ha, q⟩ := h
  exact call_isi pins s σ H xs us Q I r ⟨_, _, _, _, true, e, .ty "tuple", .base (.tup ha), kit_ty kit_tt, q⟩
def rIsStr : List V → Hp → VK → Prop := fun vs H Q => ∃ x, vs = [.str x, .ty "str"] ∧ Q (.bl true) H
theorem call_isiStr : CallR X (.builtin "isinstance") rIsStr := by
  intro pins s σ H xs us Q I r h
  obtain ⟨x, e, q⟩ := h
  exact call_isi pins s σ H xs us Q I r ⟨_, _, _, _, true, e, .ty "str", .base (.str x), kit_ty kit_ss, q⟩
def rIsBool : List V → Hp → VK → Prop := fun vs H Q => ∃ x, vs = [.bl x, .ty "bool"] ∧ Q (.bl true) H
theorem call_isiBool : CallR X (.builtin "isinstance") rIsBool := by
  intro pins s σ H xs us Q I r h
  obtain ⟨x, e, q⟩ := h
  exact call_isi pins s σ H xs us Q I r ⟨_, _, _, _, true, e, .ty "bool", .base (.bl x), kit_ty kit_bb, q⟩
end
/-! ### comprehensions, what is made told as data -/
section
variable {K : PySem.W.Frag} {a : Addr} {xs : List V} {g : TG} {tt : TT} {te : TE} {vs : List Nat} {σ : L2.St} {H1 : Hp} {D : Addr} {Qd : Hp → Prop}
abbrev DTurn (H1 : Hp) (σ : L2.St) (vs : List Nat) (g : TG) (tt : TT) (te : TE) (res : Nat → List Da) (i : Nat) (x : V) (H : Hp) : Prop :=
  ∀ (R : V → Hp → Prop) (N : Hp → Prop), (∀ y d H4, Ex H H4 → Rp H4 d y → res (i + 1) = res i ++ [d] → R y H4) → (∀ H3, Ex H H3 → res (i + 1) = res i → N H3) →
    g x (wipe σ vs) H fun σ2 H2 => wipe σ2 vs = wipe σ vs ∧ tt σ2 H2 fun b H3 => if b = true then te σ2 H3 R else N H3
/-- a new list of these -/
def NewD (ds : List Da) (H : Hp) (Q : VK) : Prop := ∀ p H' ys, H p = none → Ex H H' → H' p = some (.lst ys) → RpL H' ds ys → Q (.ref p) H'
theorem dturn {n : Nat} {i : Nat} {x : V} {H : Hp} (res : Nat → List Da) (hz : ∀ i, i ≤ n → (res i).length < sizeLine) (hD : H1 D = none) (hin : i ≤ n) (hs : DTurn H1 σ vs g tt te res i x H) (p1 : Ex H1 H) {acc : List V} (p2 : H D = some (.lst acc)) (p3 : RpL H (res i) acc)
    {Nx : Hp → Prop} (hN : ∀ H', Ex H1 H' → (∃ ac, H' D = some (.lst ac) ∧ RpL H' (res (i + 1)) ac) → Nx H') :
    g x (wipe σ vs) H fun σ2 H2 => wipe σ2 vs = wipe σ vs ∧ tt σ2 H2 fun b H3 => if b = true then te σ2 H3 fun y H4 => ∃ acc, H4 D = some (.lst acc) ∧ acc.length < sizeLine ∧ Nx (upd H4 D (.lst (acc ++ [y]))) else Nx H3 := by
  refine hs _ _ (fun y d H4 e4 rd er => ?_) (fun H3 e3 er => hN H3 (p1.trans e3) ⟨acc, e3 _ _ p2, by rw [er]; exact p3.mono (tm_ex e3)⟩)
  refine ⟨acc, e4 _ _ p2, by rw [p3.length]; exact hz i hin, hN _ ((p1.trans e4).mut hD) ⟨_, upd_same, ?_⟩⟩
  rw [er]
  exact ((p3.mono (tm_ex e4)).snoc rd).mono (tm_upd (e4 _ _ p2) (fun _ z => by cases z))
theorem lcTD (res : Nat → List Da) (hx : H1 a = some (.tup xs)) (r0 : res 0 = []) (hz : ∀ i, i ≤ xs.length → (res i).length < sizeLine)
    (hs : ∀ i x H, xs[i]? = some x → Ex H1 H → DTurn H1 σ vs g tt te res i x H) (hD : H1 D = none) (k : ∀ H' ys, Ex H1 H' → H' D = some (.lst ys) → RpL H' (res xs.length) ys → Qd H') :
    ∃ W : Nat → Nat → Hp → Prop, (∃ m, W 0 m (upd H1 D (.lst []))) ∧ ∀ i m H, W i m H →
      ((Itt K a).stop i H ∧ Qd H) ∨ ((Itt K a).go i H ∧ ∃ Nx : Hp → Prop, (∀ H', Nx H' → ∃ m', m' < m ∧ W (i + 1) m' H') ∧ ∀ x H', (Itt K a).yld i H x H' → g x (wipe σ vs) H' fun σ2 H2 => wipe σ2 vs = wipe σ vs ∧ tt σ2 H2 fun b H3 =>
        if b = true then te σ2 H3 fun y H4 => ∃ acc, H4 D = some (.lst acc) ∧ acc.length < sizeLine ∧ Nx (upd H4 D (.lst (acc ++ [y]))) else Nx H3) := by
  refine lc_tup (fun i H => Ex H1 H ∧ ∃ acc, H D = some (.lst acc) ∧ RpL H (res i) acc) ⟨Ex.new hD, [], upd_same, by rw [r0]; rfl⟩ (fun i H _ p => SqT.of (p.1 _ _ hx)) (fun i x H hi p => ?_) (fun H ⟨p1, acc, p2, p3⟩ => k H acc p1 p2 p3)
  obtain ⟨p1, acc, p2, p3⟩ := p
  exact dturn res hz hD (Nat.le_of_lt (List.getElem?_eq_some_iff.mp hi).1) (hs i x H hi p1) p1 p2 p3 (fun H' e q => ⟨e, q⟩)
theorem lcLD (res : Nat → List Da) (hx : H1 a = some (.lst xs)) (r0 : res 0 = []) (hz : ∀ i, i ≤ xs.length → (res i).length < sizeLine)
    (hs : ∀ i x H, xs[i]? = some x → Ex H1 H → DTurn H1 σ vs g tt te res i x H) (hD : H1 D = none) (k : ∀ H' ys, Ex H1 H' → H' D = some (.lst ys) → RpL H' (res xs.length) ys → Qd H') :
    ∃ W : Nat → Nat → Hp → Prop, (∃ m, W 0 m (upd H1 D (.lst []))) ∧ ∀ i m H, W i m H →
      ((Itl K a).stop i H ∧ Qd H) ∨ ((Itl K a).go i H ∧ ∃ Nx : Hp → Prop, (∀ H', Nx H' → ∃ m', m' < m ∧ W (i + 1) m' H') ∧ ∀ x H', (Itl K a).yld i H x H' → g x (wipe σ vs) H' fun σ2 H2 => wipe σ2 vs = wipe σ vs ∧ tt σ2 H2 fun b H3 =>
        if b = true then te σ2 H3 fun y H4 => ∃ acc, H4 D = some (.lst acc) ∧ acc.length < sizeLine ∧ Nx (upd H4 D (.lst (acc ++ [y]))) else Nx H3) := by
  refine lc_list (fun i H => Ex H1 H ∧ ∃ acc, H D = some (.lst acc) ∧ RpL H (res i) acc) ⟨Ex.new hD, [], upd_same, by rw [r0]; rfl⟩ (fun i H _ p => SqL.of (p.1 _ _ hx)) (fun i x H hi p => ?_) (fun H ⟨p1, acc, p2, p3⟩ => k H acc p1 p2 p3)
  obtain ⟨p1, acc, p2, p3⟩ := p
  exact dturn res hz hD (Nat.le_of_lt (List.getElem?_eq_some_iff.mp hi).1) (hs i x H hi p1) p1 p2 p3 (fun H' e q => ⟨e, q⟩)
/-- all turns give True -/
theorem lcAll (hx : H1 a = some (.tup xs)) (hz : xs.length < sizeLine)
    (hs : ∀ (i : Nat) x H, xs[i]? = some x → Ex H1 H → ∀ (R : V → Hp → Prop) (N : Hp → Prop), (∀ H4, Ex H H4 → R (.bl true) H4) → g x (wipe σ vs) H fun σ2 H2 => wipe σ2 vs = wipe σ vs ∧ tt σ2 H2 fun b H3 => if b = true then te σ2 H3 R else N H3)
    (hD : H1 D = none) (k : ∀ H', Ex H1 H' → H' D = some (.lst ((List.replicate xs.length true).map V.bl)) → Qd H') :
    ∃ W : Nat → Nat → Hp → Prop, (∃ m, W 0 m (upd H1 D (.lst []))) ∧ ∀ i m H, W i m H →
      ((Itt K a).stop i H ∧ Qd H) ∨ ((Itt K a).go i H ∧ ∃ Nx : Hp → Prop, (∀ H', Nx H' → ∃ m', m' < m ∧ W (i + 1) m' H') ∧ ∀ x H', (Itt K a).yld i H x H' → g x (wipe σ vs) H' fun σ2 H2 => wipe σ2 vs = wipe σ vs ∧ tt σ2 H2 fun b H3 =>
        if b = true then te σ2 H3 fun y H4 => ∃ acc, H4 D = some (.lst acc) ∧ acc.length < sizeLine ∧ Nx (upd H4 D (.lst (acc ++ [y]))) else Nx H3) :=
  lcT (fun i => (List.replicate i true).map V.bl) hx rfl (fun i hi => by rw [List.length_map, List.length_replicate]; omega)
    (fun i x H hi e R N hR _ => hs i x H hi e R N fun H4 e4 => hR _ H4 e4 (by dsimp only; rw [List.replicate_succ', List.map_append]; rfl)) hD k
theorem all_true (n : Nat) : (List.replicate n true).all id = true := by
  rw [List.all_eq_true]; intro x hx; exact (List.mem_replicate.mp hx).2
theorem lcZ0 {b : Addr} {ys : List V} (hx : H1 a = some (.tup [])) (hy : H1 b = some (.tup ys)) (hD : H1 D = none) (k : ∀ H', Ex H1 H' → H' D = some (.lst []) → Qd H') :
    ∃ W : Nat → Nat → Hp → Prop, (∃ m, W 0 m (upd H1 D (.lst []))) ∧ ∀ i m H, W i m H →
      ((RZ.ItzT K a b).stop i H ∧ Qd H) ∨ ((RZ.ItzT K a b).go i H ∧ ∃ Nx : Hp → Prop, (∀ H', Nx H' → ∃ m', m' < m ∧ W (i + 1) m' H') ∧ ∀ x H', (RZ.ItzT K a b).yld i H x H' → g x (wipe σ vs) H' fun σ2 H2 => wipe σ2 vs = wipe σ vs ∧ tt σ2 H2 fun b H3 =>
        if b = true then te σ2 H3 fun y H4 => ∃ acc, H4 D = some (.lst acc) ∧ acc.length < sizeLine ∧ Nx (upd H4 D (.lst (acc ++ [y]))) else Nx H3) := by
  refine ⟨fun i m H => i = 0 ∧ Ex H1 H ∧ H D = some (.lst []), ⟨0, rfl, Ex.new hD, upd_same⟩, ?_⟩
  rintro i m H ⟨rfl, e, h⟩
  exact .inl ⟨⟨[], ys, SqT.of (e _ _ hx), SqT.of (e _ _ hy), .inl (Nat.le_refl _)⟩, k H e h⟩
end
end K46
/-! part C1 -/
set_option maxHeartbeats 600000
namespace K46
open PySem PySem.Spec PyProof.Rows L2 Evl LamX NdefX
/-! ### objects of the heap that the proof does not track, as they stand -/
abbrev Pins := List (Addr × Obj)
def PinAt (pn : Pins) (s : Shared) (H : Hp) : Prop := ∀ p ∈ pn, s.heap.get? p.1 = some p.2 ∧ H p.1 = none
theorem pin_later {X : Cx} {pins : List (Addr × Obj)} {σ : L2.St} {H : Hp} {s : Shared} {pn : Pins} (I : Inv X pins σ H s) (h : PinAt pn X.s_0 X.H_0) (nf : ∀ p ∈ pn, p.1 ∉ X.fs) (hx : X.ex = []) : PinAt pn s H := fun p hp => by
  obtain ⟨h1, h2⟩ := h p hp
  have hx' : p.1 ∉ X.ex := by rw [hx]; exact List.not_mem_nil
  exact ⟨I.base.keep _ _ h1 h2 (nf p hp) hx', I.base.free _ _ h1 h2 hx'⟩
def pinsOf (cl : List (Str × Addr)) (h : Heap) : Pins := (cl.map (·.1)).filterMap fun y => (cl.lookup y).bind fun c => (h.get? c).map fun o => (c, o)
theorem mem_pinsOf {cl : List (Str × Addr)} {h : Heap} {p : Addr × Obj} (hp : p ∈ pinsOf cl h) : ∃ y, cl.lookup y = some p.1 ∧ h.get? p.1 = some p.2 := by
  obtain ⟨y, _, e⟩ := List.mem_filterMap.mp hp
  cases q : cl.lookup y with
  | none => rw [q] at e; cases e
  | some c =>
    rw [q] at e
    cases r : h.get? c with
    | none => simp [r] at e
    | some o =>
      simp [r] at e
      subst e
      exact ⟨y, q, r⟩
theorem in_pinsOf {cl : List (Str × Addr)} {h : Heap} {y : Str} {c : Addr} {o : Obj} (e : cl.lookup y = some c) (r : h.get? c = some o) : (c, o) ∈ pinsOf cl h :=
  List.mem_filterMap.mpr ⟨y, List.mem_map.mpr ⟨(y, c), PySem.mem_of_lookup e, rfl⟩, by simp [e, r]⟩
theorem pinsOf_at {cl : List (Str × Addr)} {fr : List Str} {ws : List (Option V)} {s : Shared} {H : Hp} (C : CellsAt cl fr ws s.heap H) : PinAt (pinsOf cl s.heap) s H := fun p hp => by
  obtain ⟨y, e, r⟩ := mem_pinsOf hp
  exact ⟨r, (C.all y _ e).1⟩
theorem cells_pin {cl : List (Str × Addr)} {fr : List Str} {ws : List (Option V)} {h : Heap} {H H' : Hp} {s' : Shared} (C : CellsAt cl fr ws h H) (P : PinAt (pinsOf cl h) s' H') : CellsAt cl fr ws s'.heap H' := by
  have st : ∀ y c, cl.lookup y = some c → ∀ v, h.IsCell c v → s'.heap.IsCell c v ∧ H' c = none := fun y c e v ⟨o, ho, hd⟩ => by
    obtain ⟨h1, h2⟩ := P _ (in_pinsOf e ho)
    exact ⟨⟨o, h1, hd⟩, h2⟩
  refine ⟨C.len, fun y c e => ?_, C.inj, fun i y e => ?_⟩
  · obtain ⟨_, v, hv⟩ := C.all y c e
    exact ⟨(st y c e v hv).2, v, (st y c e v hv).1⟩
  · obtain ⟨c, e1, h1⟩ := C.has i y e
    exact ⟨c, e1, fun v hv => let ⟨u, a, b⟩ := h1 v hv; ⟨u, a, (st y c e1 _ b).1⟩⟩
/-- what is told by a look at the heap stays -/
def ExtE (H H' : Hp) : Prop := ∀ b φ, H b = some (.ext φ) → H' b = some (.ext φ)
theorem exte_n {H H' : Hp} (e : ExtN H H') : ExtE H H' := fun b φ h => e b _ h (fun ps z => by cases z)
theorem exte_ex {H H' : Hp} (e : Ex H H') : ExtE H H' := fun b φ h => e b _ h
theorem ExtE.trans {H H1 H2 : Hp} (a : ExtE H H1) (b : ExtE H1 H2) : ExtE H H2 := fun c φ h => b c φ (a c φ h)
theorem Bt.trans {l : Addr} {H H1 H2 : Hp} (a : Bt l H H1) (b : Bt l H1 H2) : Bt l H H2 := fun c o n h => b c o n (a c o n h)
theorem Bt.ofEx {l : Addr} {H H1 : Hp} (e : Ex H H1) : Bt l H H1 := fun c o _ h => e c o h
theorem Bt.none {l a : Addr} {H H1 : Hp} (b : Bt l H H1) (h : H1 a = .none) (n : a ≠ l) : H a = .none := by
  cases q : H a with
  | none => rfl
  | some o => rw [b a o n q] at h; cases h
/-- the tuples stay too -/
def Sty (H H' : Hp) : Prop := ExtE H H' ∧ Tm H H'
theorem sty_ex {H H' : Hp} (e : Ex H H') : Sty H H' := ⟨exte_ex e, tm_ex e⟩
/-! ### a function with captured cells, as others may call it -/
structure Clo (P : Program) (w : World) (K : PySem.W.Frag) (mg : Str → Option Value) (base : Heap) (k : Nat) (f : Addr) (pn : Pins) (tr : Hp → Prop) (sp : Sp) : Prop where
  at_ : ∀ s H, HOk P w H s.heap → PinAt pn s H → tr H → PySem.W.FnAt f s.heap
  st : ∀ H H', Sty H H' → tr H → tr H'
  run : ∀ (A : Around) (outer : List Env) (s : Shared) (H : Hp) (us : List Value) (vs : List V) (Q : VK), Room k A → Env0 P w K mg base A outer s H → PinAt pn s H → tr H → Vals vs us → sp vs H Q E0 → codeAny (model P w) A (.call (.ref f) ⟨us, []⟩) (CR CX0 outer P w H s Q E0) s
def tClo (i : Nat) (f : Addr) (tr : Hp → Prop) (sp : Sp) (t : TA) : TE := fun σ H Q => σ[i]? = some (some (.ref f)) ∧ tr H ∧ t σ H fun vs H1 => tr H1 ∧ sp vs H1 Q E0
section
variable {X : Cx} {k j i : Nat} {f : Addr} {pn : Pins} {tr : Hp → Prop} {sp : Sp} {x : Str} {p pos : Pos} {e : Expr} {es : List Expr} {t : TA}
theorem pe_clo (C : Clo X.prog X.w X.K X.mg X.base k f pn tr sp) (hP : PinAt pn X.s_0 X.H_0) (nf : ∀ p ∈ pn, p.1 ∉ X.fs) (hex : X.ex = []) (hr : Room j X.A) (hk : k ≤ j) (ha : PA X (e :: es) t) (hN : X.N[i]? = some x := by rfl) (hv : Vis X.env.scope x := by first | exact Or.inl rfl | exact Or.inr (Or.inl rfl) | exact Or.inr (Or.inr rfl))
    (hd : (x == ("__debug__" : Str)) = false := by decide) (hcd : (x == ("__classdict__" : Str)) = false := by decide)
    (he : starEach (e :: es) X.env = (false, eval e X.env) :: starEach es X.env := by rfl) (hpl : (backTo pos (starEach es X.env)).any (·.1) = false := by rfl) :
    PE X (.Call (.Name x p) (e :: es) [] pos) (tClo i f tr sp t) := by
  refine ⟨fun pins s σ H Q I h => ?_⟩
  obtain ⟨hs, htr, ht⟩ := h
  refine wpAny_Call_Name_kw (thn ((pe_var (pos := p) hN hv hd hcd).run pins s σ H (fun v H1 => v = .ref f ∧ H1 = H) I ⟨.ref f, hs, rfl, rfl⟩) fun u s1 ⟨v, H1, I1, r1, q1⟩ => ?_)
  obtain ⟨ev, eH⟩ := q1
  subst ev
  rw [eH] at I1
  obtain rfl : u = Value.ref f := r1
  refine PySem.W.callWith_F (first := []) (C.at_ _ _ I1.hok (pin_later I1 hP nf hex) htr) (thn (ha.run pos pins s1 σ H _ I1 ht) fun us s2 ⟨vs, H2, I2, r, h2, q⟩ => ⟨C.at_ _ _ I2.hok (pin_later I2 hP nf hex) h2, ?_⟩) he hpl
  show wpAny _ _ (call (.ref f) us) _ _ _
  refine wpAny_call (codeAny_mono (C.run X.A X.stack s2 H2 us vs Q (hr.mono hk) I2.env0 (pin_later I2 hP nf hex) h2 r q) fun r s' hq => ?_)
  cases r with
  | error e => exact (show False from hq).elim
  | ok fl =>
    cases fl with
    | ret u => exact I2.after hq
    | next => exact False.elim hq
    | brk => exact False.elim hq
    | cont => exact False.elim hq
end
/-! ### made by def -/
section
variable {P : Program} {w : World} {K : PySem.W.Frag} {mg : Str → Option Value} {base : Heap} {k : Nat} {f : Addr} {F : NF} {ps fr N : List Str} {sp : List (Option V) → Sp} {ws : List (Option V)} {h : Heap} {H0 : Hp}
theorem clo_def {sp' : Sp} (Fn : NOk P w K mg base CX0 k f F ps fr sp) (C : CellsAt F.cl fr ws h H0) (hsp : ∀ vs H Q, Tm H0 H → sp' vs H Q E0 → sp ws vs H Q E0) : Clo P w K mg base k f (pinsOf F.cl h) (fun H => (H f = some (FnO f F) ∧ H F.c = some (CodeO F.c F.qual)) ∧ Tm H0 H) sp' :=
  ⟨fun s H hok _ t => by
      obtain ⟨od, sl, doc, pm, ctv, ho⟩ := fnO_at hok t.1.1
      exact ⟨_, od, _, sl, ho⟩,
    fun H H' e t => ⟨⟨e.1 _ _ t.1.1, e.1 _ _ t.1.2⟩, t.2.trans e.2⟩,
    fun A outer s H us vs Q hr e0 hp t r q => Fn.run A outer s H us vs ws Q E0 hr e0 t.1.1 t.1.2 (cells_pin C hp) r (hsp vs H Q t.2 q)⟩
/-! ### made by lambda -/
/-- the object of a lambda -/
abbrev lamO (F : NF) (e : Expr) (pm ctv : Value) : Obj := PySem.W.kla_obj F.name F.qual F.params e F.scope F.cl pm F.c ctv
theorem clo_lam {e : Expr} {pm ctv : Value} (S : NScope N ps fr F.scope) (C : CellsAt F.cl fr ws h H0) (hb : ∀ us : List Value, us.length = ps.length → bindArgs (PySem.W.kla_fn F.name F.qual F.params e F.scope F.cl pm (.ref F.c) ctv) ⟨us, []⟩ = pure (ps.zip us))
    {sp : Sp} (len : ∀ vs H Q E, sp vs H Q E → vs.length = ps.length)
    (hbody : ∀ (A : Around) (outer : List Env) (s : Shared) (H : Hp) (vs : List V) (Q : VK), Room k (A.deeper (envF F f s.heap.objs.size)) → Tm H0 H → sp vs H Q E0 → ∃ te, PE (ncx CX0 P w K mg base N F f A outer s H E0) e te ∧ te (startF N vs ws) H Q) :
    Clo P w K mg base (k + 1) f ((f, lamO F e pm ctv) :: pinsOf F.cl h) (fun H => H F.c = some (CodeO F.c F.qual) ∧ Tm H0 H) sp := by
  refine ⟨fun s H _ hp _ => ⟨_, _, _, _, (hp _ (List.mem_cons_self ..)).1⟩, fun H H' e t => ⟨e.1 _ _ t.1, t.2.trans e.2⟩, fun A outer s H us vs Q hr e0 hp t r q => ?_⟩
  have hl := len _ _ _ _ q
  have C' : CellsAt F.cl fr ws s.heap H := cells_pin C fun p hp' => hp p (List.mem_cons_of_mem _ hp')
  have lim : s.heap.NoLimit := e0.mod.nolimit.keeps fun b o e => (e0.bs b o e).1
  refine PySem.W.kla_callFunE hr.depth (hp _ (List.mem_cons_self ..)).1 rfl S.co S.gen rfl (codeO_at e0.hok t.1) ?_
  rw [hb us (by rw [← r.length]; exact hl)]
  refine wpAny_pure (wpAny_newFunctionEnv S.nocell (fun ⟨n, _⟩ hy => S.par n (List.of_mem_zip hy).1) (fun h₁ hns hsb => ⟨lim.fresh _ hsb, ?_⟩) S.kind)
  show codeAny _ _ (.expr e (envF F f s.heap.objs.size)) _ _
  have kp : ∀ b o, s.heap.get? b = some o → h₁.get? b = some o := fun b o e => hsb.extBut b o (Nat.ne_of_lt (Heap.lt_size e)) (Heap.get?_push_of_some _ e)
  obtain ⟨te, ht, hq⟩ := hbody A outer s H vs Q (hr.deeper _) t.2 q
  have I : Inv (ncx CX0 P w K mg base N F f A outer s H E0) [] (startF N vs ws) H { s with heap := h₁, toks := s.toks + (ps.zip us).length } := inv_startN S hr.hd e0 hl r C' hns kp
  refine PySem.W.kla_codeExpr (wpAny_mono (ht.run [] _ (startF N vs ws) H _ I hq) (fun u s' hs => ?_) fun e s' hs => hs)
  obtain ⟨v, H', J, rv, q⟩ := hs
  exact ⟨v, H', J.os, J.bare, J.base, J.hok, rv, q⟩
end
/-- a frame's cells are no frames -/
theorem cell_nofr {X : Cx} {pins : List (Addr × Obj)} {σ : L2.St} {H : Hp} {s : Shared} (I : Inv X pins σ H s) (hfn : ∀ x, X.fn x = true) {y : Str} {c : Addr} (e : X.env.cells.lookup y = some c) : c ∉ frs X.stack := fun hb => by
  rcases List.mem_cons.mp (I.stkSub _ hb) with z | z
  · exact I.cne y c e z
  · obtain ⟨_, o, ho, _⟩ := I.ok.funs.mem z
    exact absurd (Nat.lt_of_lt_of_le (Heap.lt_size ho) (I.ok.cab y c (hfn y) e)) (Nat.lt_irrefl _)
end K46
/-! part D1 -/
set_option maxHeartbeats 600000
namespace K46
open PySem PySem.Spec PyProof.Rows L2 Evl
/-! ### nested tuples as keys -/
mutual
def key : Da → NestedKey
  | .non => .none
  | .bl b => .num (if b = true then 1 else 0)
  | .int i => .num i
  | .str s => .text s
  | .tup ds => .tup (keys ds)
def keys : List Da → List NestedKey
  | [] => []
  | d :: ds => key d :: keys ds
end
mutual
theorem rp_nested {P : Program} {w : World} {H : Hp} {h : Heap} (hok : HOk P w H h) : ∀ (d : Da) (v : V) (u : Value), Rp H d v → RelV v u → NestedIs h (key d) u
  | .non, _, _, e, r => by cases (show _ = V.non from e); cases (show _ = Value.none from r); exact .none
  | .bl b, _, _, e, r => by cases (show _ = V.bl b from e); cases (show _ = Value.bool b from r); exact .bool rfl
  | .int i, _, _, e, r => by cases (show _ = V.int i from e); obtain ⟨t, rfl⟩ := r; exact .int i t
  | .str x, _, _, e, r => by cases (show _ = V.str x from e); obtain ⟨t, rfl⟩ := r; exact .text x t
  | .tup ds, v, u, e, r => by
    obtain ⟨a, xs, rfl, h1, h2⟩ := e
    obtain rfl : u = Value.ref a := r
    obtain ⟨_, its, r, o, e1, e2, n, e3⟩ := hok a _ h1
    exact .tup e1 e2 e3 (rp_nesteds hok ds xs its h2 r)
theorem rp_nesteds {P : Program} {w : World} {H : Hp} {h : Heap} (hok : HOk P w H h) : ∀ (ds : List Da) (xs : List V) (us : List Value), RpL H ds xs → Vals xs us → NestedAll h (keys ds) us
  | [], _, _, e, r => by cases (show _ = [] from e); cases r; exact .nil
  | d :: ds, xs, us, e, r => by
    obtain ⟨x, xr, rfl, h1, h2⟩ := e
    cases r with
    | cons r1 r2 => exact .cons (rp_nested hok d x _ h1 r1) (rp_nesteds hok ds xr _ h2 r2)
end
/-! ### dicts with such keys -/
abbrev NX := List (NestedKey × Addr × Value)
def NDat (P : Program) (w : World) (d : Addr) (xs : NX) : HO := .ext fun h => ∃ o es ep, h.get? d = some o ∧ o.ExactDict ∧ o.data = .dict es ep ∧ es.toList = xs.map (entryOfKey (nestedKind P w))
def NRel (H : Hp) (p : Da × V) (x : NestedKey × Addr × Value) : Prop := x.1 = key p.1 ∧ Rp H p.1 (.ref x.2.1) ∧ RelV p.2 x.2.2 ∧ (key p.1).depth ≤ 8
structure NDict (P : Program) (w : World) (H : Hp) (d : Addr) (kvs : List (Da × V)) : Prop where
  sys : (d == sysModules) = false
  sz : kvs.length ≤ sizeLine
  nd : (kvs.map fun q => key q.1).Nodup
  at_ : ∃ xs, H d = some (NDat P w d xs) ∧ Paired (NRel H) kvs xs
theorem NRel.mono {H H' : Hp} (t : Tm H H') {p : Da × V} {x : NestedKey × Addr × Value} (h : NRel H p x) : NRel H' p x := ⟨h.1, h.2.1.mono t, h.2.2⟩
theorem npair_mono {H H' : Hp} (t : Tm H H') {kvs : List (Da × V)} {xs : NX} (h : Paired (NRel H) kvs xs) : Paired (NRel H') kvs xs := by
  induction h with
  | nil => exact .nil
  | cons a _ ih => exact .cons (a.mono t) ih
/-- it stays while it stands there and the tuples stay -/
theorem NDict.stay {P : Program} {w : World} {H H' : Hp} {d : Addr} {kvs : List (Da × V)} (D : NDict P w H d kvs) (t : Tm H H') (e : ∀ o, H d = some o → H' d = some o) : NDict P w H' d kvs := by
  obtain ⟨a, b, c, xs, h1, h2⟩ := D
  exact ⟨a, b, c, xs, e _ h1, npair_mono t h2⟩
theorem NDict.ex {P : Program} {w : World} {H H' : Hp} {d : Addr} {kvs : List (Da × V)} (D : NDict P w H d kvs) (e : Ex H H') : NDict P w H' d kvs := D.stay (tm_ex e) (e _)
theorem NDict.no_lst {P : Program} {w : World} {H : Hp} {d : Addr} {kvs : List (Da × V)} (D : NDict P w H d kvs) {l : Addr} {ys : List V} (h : H l = some (.lst ys)) : d ≠ l := fun z => by
  obtain ⟨xs, h1, _⟩ := D.at_
  rw [z, h] at h1
  unfold NDat at h1
  cases h1
theorem npair_keys {H : Hp} {kvs : List (Da × V)} {xs : NX} (h : Paired (NRel H) kvs xs) : xs.map (·.1) = kvs.map fun q => key q.1 := by
  induction h with
  | nil => rfl
  | cons a _ ih => rw [List.map_cons, List.map_cons, ih, a.1]
theorem npair_len {H : Hp} {kvs : List (Da × V)} {xs : NX} (h : Paired (NRel H) kvs xs) : xs.length = kvs.length := by
  have := congrArg List.length (npair_keys h)
  simpa using this
theorem npair_none {H : Hp} {kvs : List (Da × V)} {xs : NX} {k : NestedKey} (h : Paired (NRel H) kvs xs) : (atKey xs k).isSome = decide (k ∈ kvs.map fun q => key q.1) := by
  induction h with
  | nil => rfl
  | @cons a b l1 l2 r _ ih =>
    unfold atKey at ih ⊢
    rw [List.find?_cons]
    by_cases e : b.1 = k
    · rw [decide_eq_true e]
      have : k ∈ (a :: l1).map fun q => key q.1 := by rw [← e, r.1]; exact List.mem_cons_self ..
      rw [decide_eq_true this]; rfl
    · rw [decide_eq_false e]
      have e2 : ¬ k = key a.1 := fun z => e (by rw [r.1, z])
      simp only [ih]
      rw [Bool.eq_iff_iff]; simp [e2]
theorem npair_get {H : Hp} {kvs : List (Da × V)} {xs : NX} {p : Da × V} (h : Paired (NRel H) kvs xs) (nd : (kvs.map fun q => key q.1).Nodup) (hp : p ∈ kvs) : ∃ a u, atKey xs (key p.1) = some (a, u) ∧ RelV p.2 u := by
  induction h with
  | nil => cases hp
  | @cons a b l1 l2 r _ ih =>
    rw [List.map_cons, List.nodup_cons] at nd
    unfold atKey at ih ⊢
    rw [List.find?_cons]
    rcases List.mem_cons.mp hp with rfl | hp
    · rw [decide_eq_true r.1]
      exact ⟨b.2.1, b.2.2, rfl, r.2.2.1⟩
    · have : ¬ b.1 = key p.1 := fun z => nd.1 (by rw [← r.1, z]; exact List.mem_map.mpr ⟨p, hp, rfl⟩)
      rw [decide_eq_false this]
      exact ih nd.2 hp
theorem npair_is {P : Program} {w : World} {H : Hp} {h : Heap} (hok : HOk P w H h) {kvs : List (Da × V)} {xs : NX} (r : Paired (NRel H) kvs xs) : ∀ x ∈ xs, (nestedKind P w).is h x.1 x.2.1 := by
  induction r with
  | nil => intro x hx; cases hx
  | @cons a b l1 l2 r _ ih =>
    intro x hx
    rcases List.mem_cons.mp hx with rfl | hx
    · exact ⟨by rw [r.1]; exact rp_nested hok _ _ _ r.2.1 rfl, by rw [r.1]; exact r.2.2.2⟩
    · exact ih x hx
theorem NDict.of {P : Program} {w : World} {H : Hp} {h : Heap} {d : Addr} {kvs : List (Da × V)} (hok : HOk P w H h) (D : NDict P w H d kvs) : ∃ xs, H d = some (NDat P w d xs) ∧ Paired (NRel H) kvs xs ∧ h.DictOfH (nestedKind P w) d xs := by
  obtain ⟨_, _, nd, xs, h1, h2⟩ := D
  obtain ⟨⟨o, es, ep, e1, e2, e3, e4⟩, _, _⟩ := hok d _ h1
  exact ⟨xs, h1, h2, o, es, ep, e1, e2, e3, e4, npair_is hok h2, by rw [npair_keys h2]; exact nd⟩
/-- the key as it is asked -/
structure KeyA (H : Hp) (k : Da) (x : V) : Prop where
  rp : Rp H k x
  dep : (key k).depth ≤ 8
  ref : ∃ a, x = .ref a
def rNotInN (P : Program) (w : World) : R2 := fun x y H Q => ∃ d kvs k, y = .ref d ∧ NDict P w H d kvs ∧ KeyA H k x ∧ Q (.bl (!decide (key k ∈ kvs.map fun q => key q.1))) H
def rGetN (P : Program) (w : World) : R2 := fun x y H Q => ∃ d kvs k p, x = .ref d ∧ NDict P w H d kvs ∧ KeyA H k y ∧ p ∈ kvs ∧ key p.1 = key k ∧ Q p.2 H
section
variable {X : Cx}
theorem op_notInN (hu : X.A.units + 64 < cLine) : OpR X (compareOp .NotIn) (rNotInN X.prog X.w) := by
  intro pins s σ H x y v u Q I rx ry h
  obtain ⟨d, kvs, k, rfl, D, ⟨hk, hd, a, rfl⟩, q⟩ := h
  obtain rfl : v = Value.ref a := rx
  obtain rfl : u = Value.ref d := ry
  obtain ⟨xs, _, hp, dd⟩ := D.of I.hok
  refine wpAny_notIn_heap (knd := nestedKind X.prog X.w) (k := key k) (by show X.A.units + 1 + 8 < cLine; omega) ⟨rp_nested I.hok _ _ _ hk rfl, hd⟩ D.sys dd ?_
  rw [npair_none hp]
  exact ⟨.bl (!decide (key k ∈ kvs.map fun q : Da × V => key q.1)), H, I.tok _, rfl, q⟩
theorem op_getN (hu : X.A.units + 64 < cLine) : OpR X getItem (rGetN X.prog X.w) := by
  intro pins s σ H x y v u Q I rx ry h
  obtain ⟨d, kvs, k, p, rfl, D, ⟨hk, hd, a, rfl⟩, hm, he, q⟩ := h
  obtain rfl : v = Value.ref d := rx
  obtain rfl : u = Value.ref a := ry
  obtain ⟨xs, _, hp, dd⟩ := D.of I.hok
  obtain ⟨b, u, e, r⟩ := npair_get hp D.nd hm
  rw [he] at e
  exact wpAny_getItem_heap (knd := nestedKind X.prog X.w) (k := key k) (by show X.A.units + 1 + 8 < cLine; omega) ⟨rp_nested I.hok _ _ _ hk rfl, hd⟩ dd e ⟨_, H, I.tok _, r, q⟩
def tGetN (P : Program) (w : World) (td ty : TE) : TE := fun σ H Q => td σ H fun x H1 => ty σ H1 fun y H2 => rGetN P w x y H2 Q
theorem pe_dgetN {o i : Expr} {td ty : TE} {pos : Pos} (hu : X.A.units + 64 < cLine) (ho : PE X o td) (hi : PE X i ty) (hs : NoSl i := by intro _ _; rfl) : PE X (.Subscript o i pos) (tGetN X.prog X.w td ty) := by
  refine ⟨fun pins s σ H Q I h => ?_⟩
  refine subD_of PySem.F.slot_dict_getitem.lookup hs (thn (ho.run pins s σ H _ I h) fun u s1 ⟨x, H1, I1, rx, q1⟩ => thn (hi.run pins s1 σ H1 _ I1 q1) fun iv s2 ⟨y, H2, I2, ry, q2⟩ => ?_)
  have q3 := q2
  obtain ⟨d, kvs, k, p, rfl, D, _⟩ := q2
  obtain rfl : u = Value.ref d := rx
  obtain ⟨xs, _, hp, dd⟩ := D.of I2.hok
  exact ⟨dd.typeIs, op_getN hu pins s2 σ H2 (.ref d) y (.ref d) iv Q I2 (show L2.RelV (.ref d) (.ref d) from rfl) ry q3⟩
/-- d[k] = v, k a new key -/
def rPutN (P : Program) (w : World) : V → V → V → Hp → (Hp → Prop) → Prop := fun o i v H Q => ∃ d kvs k, o = .ref d ∧ NDict P w H d kvs ∧ KeyA H k i ∧ key k ∉ (kvs.map fun q => key q.1) ∧ kvs.length < sizeLine ∧ ∀ H', Bt d H H' → NDict P w H' d (kvs ++ [(k, v)]) → Q H'
theorem ndat_ok {P : Program} {w : World} {H : Hp} {h : Heap} {d : Addr} {xs : NX} (dd : h.DictOfH (nestedKind P w) d xs) : ObjOk P w H h d (NDat P w d xs) := by
  obtain ⟨o, es, ep, e1, e2, e3, e4, _⟩ := dd
  exact ⟨⟨o, es, ep, e1, e2, e3, e4⟩, ⟨o, e1⟩, fun h1 h2 ⟨o, es, ep, a, b⟩ st => ⟨o, es, ep, st _ a, b⟩⟩
theorem put_N (hu : X.A.units + 64 < cLine) : PSet X (rPutN X.prog X.w) := by
  intro pins s σ H o i v ov iv u Q I ro ri rv h
  obtain ⟨d, kvs, k, rfl, D, ⟨hk, hd, a, rfl⟩, hn, hz, q⟩ := h
  obtain rfl : ov = Value.ref d := ro
  obtain rfl : iv = Value.ref a := ri
  obtain ⟨xs, hx, hp, dd⟩ := D.of I.hok
  have hnone : atKey xs (key k) = none := by
    have := npair_none (k := key k) hp
    rw [decide_eq_false hn] at this
    cases e : atKey xs (key k) with
    | none => rfl
    | some p => rw [e] at this; cases this
  refine wpAny_setItem_heap (knd := nestedKind X.prog X.w) (k := key k) (hsz := by rw [npair_len hp]; exact D.sz) (by show X.A.units + 1 + 8 < cLine; omega) ⟨rp_nested I.hok _ _ _ hk rfl, hd⟩ dd fun h' dd' hs => ?_
  rw [storedH_new hnone] at dd'
  have he : ∃ q, h'.get? d = some q := let ⟨q, _, _, hq, _⟩ := dd'; ⟨q, hq⟩
  refine ⟨upd H d (NDat X.prog X.w d (xs ++ [(key k, a, u)])), d_write I (by rw [hx]; exact True.intro) hs he (ndat_ok dd'), q _ bt_upd ?_⟩
  have tm : Tm H (upd H d (NDat X.prog X.w d (xs ++ [(key k, a, u)]))) := tm_upd hx fun ys z => by unfold NDat at z; cases z
  refine ⟨D.sys, by rw [List.length_append]; exact hz, ?_, _, upd_same, ?_⟩
  · rw [List.map_append]
    exact List.nodup_append.mpr ⟨D.nd, by simp, fun x hx y hy => by simp at hy; subst hy; intro e; exact hn (e ▸ hx)⟩
  · exact (npair_mono tm hp).snoc ⟨rfl, hk.mono tm, rv, hd⟩
/-- {k: v} -/
def tDict1 (P : Program) (w : World) (tk tv : TE) : TE := fun σ H Q => ∀ p H0, H p = none → Ex H H0 → NDict P w H0 p [] → tk σ H0 fun x H1 => tv σ H1 fun v H2 => NDict P w H2 p [] ∧ ∃ k, KeyA H2 k x ∧ ∀ H3, Bt p H2 H3 → NDict P w H3 p [(k, v)] → Q (.ref p) H3
theorem ndat_nil {P : Program} {w : World} {H : Hp} (h : Heap) : ObjOk P w H (h.push { cls := .type "dict", data := .dict #[] }) h.objs.size (NDat P w h.objs.size []) := ndat_ok (Heap.DictOfH.new h)
theorem pe_dict1 {k v : Expr} {tk tv : TE} {pos : Pos} (hu : X.A.units + 64 < cLine) (hk : PE X k tk) (hv : PE X v tv) : PE X (.Dict [some k] [v] pos) (tDict1 X.prog X.w tk tv) := by
  refine ⟨fun pins s σ H Q I h => ?_⟩
  have hn := I.hok.fresh (Nat.le_refl s.heap.objs.size)
  have hb := I.big
  have I1 := I.laid (a := s.heap.objs.size) (o := NDat X.prog X.w s.heap.objs.size []) (h' := s.heap.push { cls := .type "dict", data := .dict #[] }) (t' := s.toks) (fun _ _ q => Heap.get?_push_of_some _ q) (Nat.le_refl _) (ndat_nil s.heap)
  have h1 := h s.heap.objs.size _ hn (Ex.new hn) ⟨beq_eq_false_iff_ne.mpr (Ne.symm (Nat.ne_of_lt hb)), Nat.zero_le _, List.nodup_nil, [], upd_same, .nil⟩
  have hp := (pps_cons (pos := pos) hk hv pps_nil).run pins _ σ _ (fun ps H2 => match ps with
      | [(x, y)] => NDict X.prog X.w H2 s.heap.objs.size [] ∧ ∃ k, KeyA H2 k x ∧ ∀ H3, Bt s.heap.objs.size H2 H3 → NDict X.prog X.w H3 s.heap.objs.size [(k, y)] → Q (.ref s.heap.objs.size) H3
      | _ => False) I1 h1
  rw [arm_eval_Dict, zip_pairTrees [some k] [v] X.env pos rfl rfl, dictDisplay_pairs (pairTrees [some k] [v] X.env pos) (by intro z; cases z) (by show 1 < 17; decide)]
  refine wpAny_bind (wpAny_standAt (wpAny_bind (wpAny_subDictH (knd := nestedKind X.prog X.w) (Q := fun d s' => wpAny (model X.prog X.w) X.A (pure (Value.ref d)) _ _ s') (by show X.A.units + 8 < cLine; omega) (by show 1 ≤ 15; decide) (wpAny_mono hp (fun vs s2 ⟨ps, H2, I2, rel, q⟩ => ?_) fun _ _ z => z))))
  match ps, q, rel with
  | [(x, y)], ⟨D, kd, ⟨k1, k2, a, e⟩, q⟩, .cons (b := b) ⟨r1, r2⟩ .nil =>
    obtain ⟨b1, b2⟩ := b
    subst e
    obtain rfl : b1 = Value.ref a := r1
    obtain ⟨xs, hx, hp, dd⟩ := D.of I2.hok
    cases hp
    refine ⟨[(key kd, a, b2)], ⟨rfl, rfl, ⟨rp_nested I2.hok _ _ _ k1 rfl, k2⟩, trivial⟩, dd, fun h' tk dd' hs => wpAny_pure ?_⟩
    have dd' : h'.DictOfH (nestedKind X.prog X.w) s.heap.objs.size [(key kd, a, b2)] := dd'
    have he : ∃ q, h'.get? s.heap.objs.size = some q := let ⟨q, _, _, hq, _⟩ := dd'; ⟨q, hq⟩
    refine ⟨.ref s.heap.objs.size, upd H2 s.heap.objs.size (NDat X.prog X.w s.heap.objs.size [(key kd, a, b2)]), d_write I2 (by rw [hx]; exact True.intro) hs he (ndat_ok dd'), rfl, q _ bt_upd ?_⟩
    have tm : Tm H2 (upd H2 s.heap.objs.size (NDat X.prog X.w s.heap.objs.size [(key kd, a, b2)])) := tm_upd hx fun ys z => by unfold NDat at z; cases z
    exact ⟨D.sys, by show 1 ≤ sizeLine; decide, by simp, _, upd_same, .cons ⟨rfl, k1.mono tm, r2, k2⟩ .nil⟩
end
end K46
/-! part S1 -/
set_option maxHeartbeats 600000
namespace K46
open PySem PySem.Spec PyProof.Rows L2 Evl
/-! ### sorted, of nested tuples that compare -/
mutual
def cmpD : Da → Da → Prop
  | .int _, .int _ => True
  | .tup ds, .tup es => cmpL ds es
  | _, _ => False
def cmpL : List Da → List Da → Prop
  | d :: ds, e :: es => cmpD d e ∧ cmpL ds es
  | _, _ => True
end
theorem cmpL_at : ∀ {ds es : List Da} {j : Nat} {d e : Da}, cmpL ds es → ds[j]? = some d → es[j]? = some e → cmpD d e
  | [], _, _, _, _, _, h, _ => by simp at h
  | _ :: _, [], _, _, _, _, _, h => by simp at h
  | x :: ds, y :: es, 0, d, e, h, h1, h2 => by
    simp at h1 h2
    subst h1 h2
    exact h.1
  | x :: ds, y :: es, j + 1, d, e, h, h1, h2 => cmpL_at h.2 (by simpa using h1) (by simpa using h2)
theorem keys_len : ∀ (ds : List Da), (keys ds).length = ds.length
  | [] => rfl
  | d :: ds => by simp [keys, keys_len ds]
theorem dep_at {ds : List Da} {j : Nat} {d : Da} : ds[j]? = some d → (key d).depth ≤ NestedKey.depthAll (keys ds) := by
  induction ds generalizing j with
  | nil => intro h; simp at h
  | cons x r ih =>
    intro h
    cases j with
    | zero => simp at h; subst h; exact Nat.le_max_left _ _
    | succ j => exact Nat.le_trans (ih (by simpa using h)) (Nat.le_max_right _ _)
theorem rc_data {P : Program} {w : World} {H : Hp} : ∀ (n : Nat) (d e : Da) (A : Around) (s : Shared) (x y : V) (u v : Value), HOk P w H s.heap → (key d).depth ≤ n → Rp H d x → L2.RelV x u → Rp H e y → L2.RelV y v → cmpD d e → A.units + n < cLine → ∃ b, Ob.RcOp .Lt A s u v b := by
  intro n
  induction n with
  | zero =>
    intro d e A s x y u v hok hn hx ru hy rv hc hA
    match d, e, hc with
    | .int i, .int j, _ =>
      cases (show x = V.int i from hx)
      cases (show y = V.int j from hy)
      obtain ⟨t, rfl⟩ := ru
      obtain ⟨t', rfl⟩ := rv
      exact ⟨_, Ob.RcOp.lt_int i j t t'⟩
    | .tup ds, .tup es, hc => exact absurd hn (by simp [key, NestedKey.depth])
  | succ n ih =>
    intro d e A s x y u v hok hn hx ru hy rv hc hA
    match d, e, hc with
    | .int i, .int j, _ =>
      cases (show x = V.int i from hx)
      cases (show y = V.int j from hy)
      obtain ⟨t, rfl⟩ := ru
      obtain ⟨t', rfl⟩ := rv
      exact ⟨_, Ob.RcOp.lt_int i j t t'⟩
    | .tup ds, .tup es, hc =>
      obtain ⟨a, xs, rfl, h1, h2⟩ := hx
      obtain ⟨b, ys, rfl, k1, k2⟩ := hy
      obtain rfl : u = Value.ref a := ru
      obtain rfl : v = Value.ref b := rv
      obtain ⟨_, its, r1, o1, e1, e2, n1, e3⟩ := hok a _ h1
      obtain ⟨_, its2, r2, o2, f1, f2, n2, f3⟩ := hok b _ k1
      have hdep : NestedKey.depthAll (keys ds) ≤ n := by
        have : NestedKey.depthAll (keys ds) + 1 ≤ n + 1 := hn
        omega
      have at1 : ∀ j (h : j < its.toArray.size), ∃ d' x', ds[j]? = some d' ∧ Rp H d' x' ∧ L2.RelV x' its.toArray[j] := fun j h => by
        have hj : j < its.length := by simpa using h
        have hx : j < xs.length := by rw [r1.length]; exact hj
        obtain ⟨d', q1, q2⟩ := h2.get' (i := j) (x := xs[j]) (List.getElem?_eq_getElem hx)
        obtain ⟨u', q3, q4⟩ := r1.get (List.getElem?_eq_getElem hx)
        rw [List.getElem?_eq_getElem hj] at q3
        cases q3
        exact ⟨d', _, q1, q2, by simpa using q4⟩
      have at2 : ∀ j (h : j < its2.toArray.size), ∃ d' x', es[j]? = some d' ∧ Rp H d' x' ∧ L2.RelV x' its2.toArray[j] := fun j h => by
        have hj : j < its2.length := by simpa using h
        have hx : j < ys.length := by rw [r2.length]; exact hj
        obtain ⟨d', q1, q2⟩ := k2.get' (i := j) (x := ys[j]) (List.getElem?_eq_getElem hx)
        obtain ⟨u', q3, q4⟩ := r2.get (List.getElem?_eq_getElem hx)
        rw [List.getElem?_eq_getElem hj] at q3
        cases q3
        exact ⟨d', _, q1, q2, by simpa using q4⟩
      have hb : ∀ j (h1 : j < its.toArray.size) (h2 : j < its2.toArray.size), ∃ b : Bool, Ob.RcOp .Lt A.in1 s its.toArray[j] its2.toArray[j] b := fun j j1 j2 => by
        obtain ⟨d', x', q1, q2, q3⟩ := at1 j j1
        obtain ⟨e', y', p1, p2, p3⟩ := at2 j j2
        exact ih d' e' A.in1 s x' y' _ _ hok (Nat.le_trans (dep_at q1) hdep) q2 q3 p2 p3 (cmpL_at hc q1 p1) (by show A.units + 1 + n < cLine; omega)
      have he : ∀ j (h1 : j < its.toArray.size) (h2 : j < its2.toArray.size), ∃ b : Bool, SeqAt.EqAt A.in1 s its.toArray[j] its2.toArray[j] b := fun j j1 j2 => by
        obtain ⟨d', x', q1, q2, q3⟩ := at1 j j1
        obtain ⟨e', y', p1, p2, p3⟩ := at2 j j2
        have := dep_at q1
        exact ⟨_, eqAt_key (key d') (key e') A.in1 s _ _ (rp_nested hok _ _ _ q2 q3) (rp_nested hok _ _ _ p2 p3) (by show A.units + 1 + _ < cLine; omega)⟩
      exact ⟨_, Ob.RcOp.tuples_lt (e := fun j => if h : j < its.toArray.size ∧ j < its2.toArray.size then (he j h.1 h.2).choose else false) (r := fun j => if h : j < its.toArray.size ∧ j < its2.toArray.size then (hb j h.1 h.2).choose else false)
        ⟨_, e1, e2, _, e3⟩ ⟨_, f1, f2, _, f3⟩ (by omega) (fun j j1 j2 => by rw [dif_pos ⟨j1, j2⟩]; exact (he j j1 j2).choose_spec) (fun j j1 j2 _ => by rw [dif_pos ⟨j1, j2⟩]; exact (hb j j1 j2).choose_spec)⟩
/-- a tuple that begins with a tuple -/
def TT (d : Da) : Prop := ∃ e r, d = .tup (.tup e :: r)
def rSortN : List V → Hp → VK → Prop := fun vs H Q => ∃ l xs ds, vs = [.ref l] ∧ H l = some (.lst xs) ∧ RpL H ds xs ∧ (∀ d ∈ ds, TT d) ∧ (∀ d ∈ ds, ∀ e ∈ ds, cmpD d e) ∧ (∀ d ∈ ds, (key d).depth ≤ 8) ∧
  ∀ p H' ys, Ex H H' → H' p = some (.lst ys) → Q (.ref p) H'
theorem vals_of_all : ∀ {out : List Value}, (∀ v ∈ out, ∃ x, L2.RelV x v) → ∃ ys, Vals ys out
  | [], _ => ⟨[], .nil⟩
  | v :: r, h => by
    obtain ⟨x, hx⟩ := h v (List.mem_cons_self ..)
    obtain ⟨ys, hy⟩ := vals_of_all fun u hu => h u (List.mem_cons_of_mem _ hu)
    exact ⟨x :: ys, .cons hx hy⟩
theorem vals_all : ∀ {xs : List V} {us : List Value}, Vals xs us → ∀ v ∈ us, ∃ x, L2.RelV x v
  | _, _, .nil, v, h => by cases h
  | _, _, .cons a b, v, h => by
    rcases List.mem_cons.mp h with rfl | h
    · exact ⟨_, a⟩
    · exact vals_all b v h
theorem katlex_ex {prog : Program} {w : World} {A : Around} {fin : Bool} {s : Shared} : ∀ (l : List (Value × Value)) (i : Nat), (∀ p ∈ l, (∃ e, SeqAt.EqAt A s p.1 p.2 e) ∧ ∃ b, Ob.RcOp .Lt A s p.1 p.2 b) → ∃ b : Bool, PySem.W.KatLex prog w A false fin (fun r s' => s' = s ∧ r = b) l i s
  | [], i, _ => ⟨fin, PySem.W.kat_nil ⟨rfl, rfl⟩⟩
  | (p, q) :: r, i, h => by
    obtain ⟨⟨e, he⟩, b, hb⟩ := h (p, q) (List.mem_cons_self ..)
    obtain ⟨b2, h2⟩ := katlex_ex (prog := prog) (w := w) (fin := fin) r (i + 1) fun x hx => h x (List.mem_cons_of_mem _ hx)
    cases e with
    | true => exact ⟨b2, PySem.W.kat_cons (he prog w _ _ (PySem.W.kat_yes h2))⟩
    | false => exact ⟨b, PySem.W.kat_cons (he prog w _ _ (PySem.W.kat_no (PySem.W.kat_one _ _ (hb prog w _ _ ⟨rfl, rfl⟩))))⟩
theorem sortN_able {P : Program} {w : World} {H : Hp} {A : Around} {s : Shared} {a : Addr} {ds : List Da} {xs : List V} {us : List Value} (hok : ∀ h' : Heap, (∀ b o, b ≠ a → s.heap.get? b = some o → h'.get? b = some o) → HOk P w H h') (r : Vals xs us) (rp : RpL H ds xs)
    (ht : ∀ d ∈ ds, TT d) (hc : ∀ d ∈ ds, ∀ e ∈ ds, cmpD d e) (hd : ∀ d ∈ ds, (key d).depth ≤ 8) (hA : A.units + 16 < cLine) (h0 : 0 < us.length) : Srt.Sortable P w A s a us := by
  intro h' keep
  have ok := hok h' keep
  have el : ∀ v ∈ us, ∃ d x, d ∈ ds ∧ Rp H d x ∧ L2.RelV x v := fun v hv => by
    obtain ⟨i, hi⟩ := List.mem_iff_getElem?.mp hv
    have hl := r.length
    have hx : i < xs.length := by rw [hl]; exact (List.getElem?_eq_some_iff.mp hi).1
    obtain ⟨u, q1, q2⟩ := r.get (List.getElem?_eq_getElem hx)
    rw [hi] at q1; cases q1
    obtain ⟨d, q3, q4⟩ := rp.get' (List.getElem?_eq_getElem hx)
    exact ⟨d, _, List.mem_of_getElem? q3, q4, q2⟩
  have parts : ∀ v ∈ us, ∃ b o its n c o2, v = Value.ref b ∧ h'.get? b = some o ∧ o.cls = .type "tuple" ∧ o.data = .seq its n ∧ its[0]? = some (Value.ref c) ∧ h'.get? c = some o2 ∧ o2.cls = .type "tuple" := fun v hv => by
    obtain ⟨d, x, m, rx, rv⟩ := el v hv
    obtain ⟨e, rr, rfl⟩ := ht d m
    obtain ⟨b, ys, rfl, h1, y, yr, rfl, ⟨c, zs, rfl, h2, _⟩, _⟩ := rx
    obtain rfl : v = Value.ref b := rv
    obtain ⟨_, its, r1, o, e1, e2, n, e3⟩ := ok b _ h1
    obtain ⟨_, _, _, o2, f1, f2, _⟩ := ok c _ h2
    cases r1 with
    | @cons _ u _ us' q1 q2 =>
      obtain rfl : u = Value.ref c := q1
      exact ⟨b, o, _, n, c, o2, rfl, e1, e2, e3, by simp, f1, f2⟩
  have kt : ∀ (l : List Value), (∀ v ∈ l, v ∈ us) → ∃ fs, PySem.W.KatTups h' l fs ∧ fs.length = l.length ∧ ∀ f ∈ fs, ∃ c o2, f = Value.ref c ∧ h'.get? c = some o2 ∧ o2.cls = .type "tuple" := by
    intro l
    induction l with
    | nil => intro _; exact ⟨[], PySem.W.KatTups.nil, rfl, fun f hf => by cases hf⟩
    | cons v l ih =>
      intro hm
      obtain ⟨fs, k1, k2, k3⟩ := ih fun u hu => hm u (List.mem_cons_of_mem _ hu)
      obtain ⟨b, o, its, n, c, o2, rfl, e1, e2, e3, e4, e5, e6⟩ := parts v (hm v (List.mem_cons_self ..))
      refine ⟨.ref c :: fs, PySem.W.KatTups.cons e1 e2 e3 e4 k1, by simp [k2], fun f hf => ?_⟩
      rcases List.mem_cons.mp hf with rfl | hf
      · exact ⟨c, o2, rfl, e5, e6⟩
      · exact k3 f hf
  obtain ⟨fs, k1, k2, k3⟩ := kt us fun v h => h
  refine ⟨tuples' false, fun Q E hq => ?_, ?_⟩
  · refine PySem.W.kat_kind (T := .type "tuple") k1 (by omega) (fun f hf => ?_) (by rfl) ?_
    · obtain ⟨c, o2, rfl, e5, e6⟩ := k3 f hf
      exact (PySem.W.Looks.ld e5).andThen (by rw [e6]; exact .now)
    · have e : (Value.type "tuple" != Value.type "tuple") = false := by first | decide +kernel | rfl | decide
      rw [e]; exact hq
  · intro p q hp hq
    obtain ⟨d, x, m, rx, rv⟩ := el _ hp
    obtain ⟨d2, x2, m2, rx2, rv2⟩ := el _ hq
    have hcd := hc d m d2 m2
    have hdd := hd d m
    obtain ⟨e, rr, rfl⟩ := ht d m
    obtain ⟨e', rr', rfl⟩ := ht d2 m2
    obtain ⟨b, ys, rfl, h1, g1⟩ := rx
    obtain ⟨b2, ys2, rfl, h2, g2⟩ := rx2
    rw [show p.1 = Value.ref b from rv, show q.1 = Value.ref b2 from rv2]
    obtain ⟨_, its, r1, o, e1, e2, n, e3⟩ := ok b _ h1
    obtain ⟨_, its2, r2, o2, f1, f2, n2, f3⟩ := ok b2 _ h2
    have hdep : NestedKey.depthAll (keys (.tup e :: rr)) ≤ 8 := by
      have : NestedKey.depthAll (keys (.tup e :: rr)) + 1 ≤ 8 := hdd
      omega
    obtain ⟨bb, hbb⟩ := katlex_ex (prog := P) (w := w) (A := A) (fin := decide (its.toArray.size < its2.toArray.size)) (s := { s with heap := h' }) (its.toArray.toList.zip its2.toArray.toList) 0 (by
      intro pr hpr
      obtain ⟨j, hj⟩ := List.mem_iff_getElem?.mp hpr
      have hz : (its.zip its2)[j]? = some pr := by simpa using hj
      obtain ⟨z1, z2⟩ := List.getElem?_zip_eq_some.mp hz
      have j1 : j < ys.length := by rw [r1.length]; exact (List.getElem?_eq_some_iff.mp z1).1
      have j2 : j < ys2.length := by rw [r2.length]; exact (List.getElem?_eq_some_iff.mp z2).1
      obtain ⟨d', q1, q2⟩ := g1.get' (List.getElem?_eq_getElem j1)
      obtain ⟨e', p1, p2⟩ := g2.get' (List.getElem?_eq_getElem j2)
      obtain ⟨u1, w1, w2⟩ := r1.get (List.getElem?_eq_getElem j1)
      rw [z1] at w1; cases w1
      obtain ⟨u2, v1, v2⟩ := r2.get (List.getElem?_eq_getElem j2)
      rw [z2] at v1; cases v1
      have := dep_at q1
      exact ⟨⟨_, eqAt_key _ _ A { s with heap := h' } _ _ (rp_nested ok _ _ _ q2 w2) (rp_nested ok _ _ _ p2 v2) (by omega)⟩, rc_data 8 _ _ A { s with heap := h' } _ _ _ _ ok (by omega) q2 w2 p2 v2 (cmpL_at hcd q1 p1) (by omega)⟩)
    exact ⟨bb, PySem.W.kat_lt e1 e3 f1 f3 hbb⟩
section
variable {X : Cx}
theorem cr_sortN (hu : X.A.units + 64 < cLine) : CallR X (.builtin "sorted") rSortN := by
  intro pins s σ H vs us Q I r h
  obtain ⟨l, xs, ds, rfl, hl, rp, ht, hc, hd, q⟩ := h
  obtain ⟨its, rv, hp, hz⟩ := I.list (SqL.of hl)
  rw [Vals.ref1 r]
  refine Srt.sorted_any hp.isList (by rw [← rv.length]; exact hz) (fun h2 h₁ a ha k => ?_) fun out ho => ?_
  · refine sortN_able (P := X.prog) (w := X.w) (s := { s with heap := h₁ }) (fun h' keep => I.hok.kept fun b o e => keep b o (k b o e).1 (k b o e).2) rv rp ht hc hd (by show X.A.units + 1 + 1 + 16 < cLine; omega) (by omega)
  · obtain ⟨ep, he'⟩ := PyProof.Rows.sortedAll_at s.heap its out.toArray
    obtain ⟨ys, hy⟩ := vals_of_all (out := out) fun v hv => vals_all rv v (ho.mem_iff.mp hv)
    have hlen : ys.length ≤ sizeLine := by rw [hy.length, ho.length_eq, ← rv.length]; exact hz
    have hn := I.hok.fresh (Nat.le_succ s.heap.objs.size)
    exact ⟨.ref _, upd H (s.heap.objs.size + 1) (.lst ys), I.laid (t' := s.toks) (fun _ _ => PyProof.Rows.sortedAll_old) (Nat.le_succ _) ⟨hlen, out, ep, hy, he'⟩, rfl, q _ _ _ (Ex.new hn) upd_same⟩
end
end K46
/-! part S2 -/
set_option maxHeartbeats 600000
namespace K46
open PySem PySem.Spec PyProof.Rows L2 Evl LamX NdefX
/-! ### sorted(zip(one, other)) -/
section
variable {X : Cx} {pins : List (Addr × Obj)}
/-- a zip over the lists a and b from size k on, as it stands at turn i; zs are the pairs it gave -/
structure ZS (X : Cx) (pins : List (Addr × Obj)) (σ : L2.St) (k S a b : Nat) (xs ys : List V) (H0 : Hp) (i : Nat) (H : Hp) (zs : List V) (us : List Value) (s : Shared) : Prop where
  inv : Inv X pins σ H s
  ap : ZipApart (k + 4) (k + 2) (k + 3) k (k + 1) a b
  la : H a = some (.lst xs)
  lb : H b = some (.lst ys)
  fp : ∀ c ∈ [k + 4, k + 2, k + 3, k, k + 1, S], FpOk X pins H c
  sne : S ≠ k + 4 ∧ S ≠ k + 2 ∧ S ≠ k + 3 ∧ S ≠ k ∧ S ≠ k + 1
  tin : IsPair s.heap (k + 2) (.ref k) (.ref (k + 1))
  i1 : s.heap.IsListIter k a i
  i2 : s.heap.IsListIter (k + 1) b i
  st : (IsZip s.heap (k + 4) (k + 2) (k + 3) .none ∧ ∃ x y, IsPair s.heap (k + 3) x y) ∨ ∃ T f x y, IsZipHeld s.heap (k + 4) (k + 2) (k + 3) T f ∧ H T = some (.tup [x, y])
  acc : ∃ c, s.heap.get? S = some { cls := .type "list", dict := none, data := .seq us.toArray c, slots := #[] }
  rv : Vals zs us
  len : zs.length = i
  ext : Ex H0 H
  pr : ∀ (j : Nat) x y, j < i → xs[j]? = some x → ys[j]? = some y → ∃ T : Addr, zs[j]? = some (.ref T) ∧ H T = some (.tup [x, y])
theorem zs_step {A : Around} {E : Value → Shared → Prop} {σ : L2.St} {k S a b : Nat} {xs ys : List V} {H0 H : Hp} {i : Nat} {zs : List V} {us : List Value} {s : Shared} {Q : Option Value → Shared → Prop} (Z : ZS X pins σ k S a b xs ys H0 i H zs us s) (hl : ys.length = xs.length) (hi : i < xs.length)
    (hq : ∀ T h', (∀ c, h'.get? S = some { cls := .type "list", dict := none, data := .seq us.toArray c, slots := #[] } → (us.toArray.push (Value.ref T)).size ≤ sizeLine + 1) → True → (∃ c, h'.get? S = some { cls := .type "list", dict := none, data := .seq us.toArray c, slots := #[] }) →
      (∀ h'' t', (∃ c, h''.get? S = some { cls := .type "list", dict := none, data := .seq (us ++ [Value.ref T]).toArray c, slots := #[] }) → (∀ b o, b ≠ S → h'.get? b = some o → h''.get? b = some o) →
        ∃ H', ZS X pins σ k S a b xs ys H0 (i + 1) H' (zs ++ [V.ref T]) (us ++ [Value.ref T]) { s with heap := h'', toks := t' }) → Q (some (.ref T)) { s with heap := h' }) :
    wpAny (model X.prog X.w) A (pyNext (.ref (k + 4))) Q E s := by
  obtain ⟨its, rv, p, hz1⟩ := Z.inv.list (SqL.of Z.la)
  obtain ⟨its2, rv2, p2, _⟩ := Z.inv.list (SqL.of Z.lb)
  obtain ⟨x, hx⟩ : ∃ x, xs[i]? = some x := ⟨_, List.getElem?_eq_getElem hi⟩
  obtain ⟨y, hy⟩ : ∃ y, ys[i]? = some y := ⟨_, List.getElem?_eq_getElem (by omega)⟩
  obtain ⟨u, hu, ru⟩ := rv.get hx
  obtain ⟨u2, hu2, ru2⟩ := rv2.get hy
  obtain ⟨c0, hacc⟩ := Z.acc
  have hlen : us.length = i := by rw [← Z.rv.length, Z.len]
  have fin : ∀ h' : Heap, IsPair h' s.heap.objs.size u u2 → (∀ c o, c ≠ k + 4 → c ≠ k + 3 → c ≠ k → c ≠ k + 1 → s.heap.get? c = some o → h'.get? c = some o) → h'.IsListIter k a (i + 1) → h'.IsListIter (k + 1) b (i + 1) →
      (∃ T0 f, IsZipHeld h' (k + 4) (k + 2) (k + 3) T0 f ∧ (T0 = s.heap.objs.size ∨ ∃ x y, H T0 = some (.tup [x, y]))) → Q (some (.ref s.heap.objs.size)) { s with heap := h' } := by
    intro h' hT hk j1 j2 ⟨T0, f, hh, hT0⟩
    have hS : h'.get? S = some { cls := .type "list", dict := none, data := .seq us.toArray c0, slots := #[] } := hk _ _ Z.sne.1 Z.sne.2.2.1 Z.sne.2.2.2.1 Z.sne.2.2.2.2 hacc
    have hSlt : S < s.heap.objs.size := Heap.lt_size hacc
    refine hq _ h' (fun _ _ => by rw [Array.size_push, List.size_toArray, hlen]; omega) trivial ⟨c0, hS⟩ fun h'' t' hS'' hk'' => ?_
    have hTn : s.heap.objs.size ≠ S := Nat.ne_of_gt hSlt
    have hT2 : h''.get? s.heap.objs.size = some { cls := .type "tuple", data := .seq #[u, u2] } := hk'' _ _ hTn hT
    have new : ObjOk X.prog X.w (upd H s.heap.objs.size (.tup [x, y])) h'' s.heap.objs.size (.tup [x, y]) :=
      ⟨by show 2 ≤ sizeLine; decide, [u, u2], .cons ru (.cons ru2 .nil), ⟨_, hT2, rfl, _, rfl⟩⟩
    have I1 : Inv X pins σ (upd H s.heap.objs.size (.tup [x, y])) { s with heap := h'', toks := t' } :=
      Z.inv.turnedNew (t' := t') (ch := [k + 4, k + 2, k + 3, k, k + 1, S]) (fun c o hb q => hk'' c o (fun e => hb (by simp [e])) (hk c o (fun e => hb (by simp [e])) (fun e => hb (by simp [e])) (fun e => hb (by simp [e])) (fun e => hb (by simp [e])) q)) Z.fp (Nat.le_refl _) new
    have hn : H s.heap.objs.size = none := Z.inv.hok.fresh (Nat.le_refl _)
    refine ⟨_, I1, Z.ap, (Ex.new hn) _ _ Z.la, (Ex.new hn) _ _ Z.lb, fun c hc => ?_, Z.sne, hk'' _ _ (Ne.symm Z.sne.2.1) (hk _ _ (by omega) (by omega) (by omega) (by omega) Z.tin), j1.at fun o q => hk'' _ _ (Ne.symm Z.sne.2.2.2.1) q, j2.at fun o q => hk'' _ _ (Ne.symm Z.sne.2.2.2.2) q,
      .inr (by
        rcases hT0 with rfl | ⟨x1, y1, e⟩
        · exact ⟨_, f, _, _, hk'' _ _ (Ne.symm Z.sne.1) hh, upd_same⟩
        · exact ⟨_, f, _, _, hk'' _ _ (Ne.symm Z.sne.1) hh, (Ex.new hn) _ _ e⟩), hS'', Z.rv.append (.cons rfl .nil), by rw [List.length_append, Z.len]; rfl, Z.ext.trans (Ex.new hn), fun j x' y' hj e1 e2 => ?_⟩
    · refine ⟨?_, (Z.fp c hc).2⟩
      refine (upd_ne (Nat.ne_of_lt ?_)).trans (Z.fp c hc).1
      have hzl : k + 4 < s.heap.objs.size := by
        rcases Z.st with ⟨z, _⟩ | ⟨_, _, _, _, z, _⟩
        · exact Heap.lt_size z
        · exact Heap.lt_size z
      have e' : c = k + 4 ∨ c = k + 2 ∨ c = k + 3 ∨ c = k ∨ c = k + 1 ∨ c = S := by simpa using hc
      omega
    · by_cases hjl : j < i
      · obtain ⟨T, q1, q2⟩ := Z.pr j x' y' hjl e1 e2
        exact ⟨T, by rw [List.getElem?_append_left (by rw [Z.len]; exact hjl)]; exact q1, (Ex.new hn) _ _ q2⟩
      · obtain rfl : j = i := by omega
        rw [hx] at e1; rw [hy] at e2; cases e1; cases e2
        exact ⟨_, by rw [List.getElem?_append_right (by rw [Z.len]; exact Nat.le_refl _), Z.len, Nat.sub_self]; rfl, upd_same⟩
  rcases Z.st with ⟨hz, x0, y0, hTO⟩ | ⟨T, f, x0, y0, hz, hT⟩
  · exact wpAny_pyNext_zip_item Z.ap hz Z.tin hTO Z.i1 Z.i2 p.isList p2.isList (x := u) (y := u2) (by simpa using hu) (by simpa using hu2) fun h' z' _ h1' h2' hT _ hk => fin h' hT hk h1' h2' ⟨_, false, z', .inl rfl⟩
  · obtain ⟨_, _, _, oT, hoT, _⟩ := Z.inv.hok _ _ hT
    exact wpAny_pyNext_zip_item_held Z.ap hz hoT Z.tin Z.i1 Z.i2 p.isList p2.isList (x := u) (y := u2) (by simpa using hu) (by simpa using hu2) fun h' z' h1' h2' hT2 _ hk => fin h' hT2 (fun c o c1 _ c2 c3 q => hk c o c1 c2 c3 q) h1' h2' ⟨_, true, z', .inr ⟨_, _, hT⟩⟩
theorem zs_end {A : Around} {E : Value → Shared → Prop} {σ : L2.St} {k S a b : Nat} {xs ys : List V} {H0 H : Hp} {zs : List V} {us : List Value} {s : Shared} {Q : Option Value → Shared → Prop} (hh : A.handled = none) (Z : ZS X pins σ k S a b xs ys H0 xs.length H zs us s)
    (hq : ∀ h', Inv X pins σ H { s with heap := h' } → (∃ c, h'.get? S = some { cls := .type "list", dict := none, data := .seq us.toArray c, slots := #[] }) → Q none { s with heap := h' }) :
    wpAny (model X.prog X.w) A (pyNext (.ref (k + 4))) Q E s := by
  obtain ⟨its, rv, p, hz1⟩ := Z.inv.list (SqL.of Z.la)
  obtain ⟨its2, rv2, p2, _⟩ := Z.inv.list (SqL.of Z.lb)
  have l1 := rv.length
  obtain ⟨c0, hacc⟩ := Z.acc
  have he : its.toArray[xs.length]? = none := by simp; omega
  have fin : ∀ h' : Heap, (∀ c o, c ≠ k + 4 → c ≠ k + 3 → c ≠ k → c ≠ k + 1 → s.heap.get? c = some o → h'.get? c = some o) → Q none { s with heap := h' } := by
    intro h' hk
    refine hq h' (Z.inv.turnedL (t' := s.toks) (ch := [k + 4, k + 2, k + 3, k, k + 1, S]) (fun c o hb q => hk c o (fun e => hb (by simp [e])) (fun e => hb (by simp [e])) (fun e => hb (by simp [e])) (fun e => hb (by simp [e])) q) Z.fp) ⟨c0, hk _ _ Z.sne.1 Z.sne.2.2.1 Z.sne.2.2.2.1 Z.sne.2.2.2.2 hacc⟩
  rcases Z.st with ⟨hz, x0, y0, hTO⟩ | ⟨T, f, x0, y0, hz, hT⟩
  · exact wpAny_pyNext_zip_end hh Z.ap hz Z.tin hTO Z.i1 Z.i2 p.isList p2.isList (.inl he) fun h' hk => fin h' hk
  · obtain ⟨_, _, _, oT, hoT, _⟩ := Z.inv.hok _ _ hT
    exact wpAny_pyNext_zip_end_held hh Z.ap hz hoT Z.tin Z.i1 Z.i2 p.isList p2.isList (.inl he) fun h' hk => fin h' fun c o c1 _ c2 c3 q => hk c o c1 c2 c3 q
theorem zs_loop {A : Around} {R : Result → Shared → Prop} (hh : A.handled = none) {σ : L2.St} {k S a b : Nat} {xs ys : List V} {H0 : Hp} {res : Value} (hl : ys.length = xs.length) : ∀ (m i : Nat) (H : Hp) (zs : List V) (us : List Value) (s : Shared), xs.length - i = m → i ≤ xs.length → ZS X pins σ k S a b xs ys H0 i H zs us s →
    (∀ H' zs' us' s', Ex H0 H' → Inv X pins σ H' s' → (∃ c, s'.heap.get? S = some { cls := .type "list", dict := none, data := .seq us'.toArray c, slots := #[] }) → Vals zs' us' → zs'.length = xs.length →
      (∀ (j : Nat) x y, xs[j]? = some x → ys[j]? = some y → ∃ T : Addr, zs'[j]? = some (.ref T) ∧ H' T = some (.tup [x, y])) → R (.ok (.ret res)) s') →
    codeAny (model X.prog X.w) A (.builtin "list.extend.loop" ⟨[.ref S, .ref (k + 4), res], []⟩) R s := by
  intro m
  induction m with
  | zero =>
    intro i H zs us s hm hi Z hR
    have hin : i = xs.length := by omega
    subst hin
    refine codeAny_builtin F.entry_extend_loop ?_
    rw [Around.under_plainId F.plain_extend_loop _]
    show wpAny _ A.in1 (pyNext (.ref (k + 4)) >>= _) _ _ s
    refine wpAny_bind (zs_end (by exact hh) Z fun h' I' hS => ?_)
    refine wpAny_pure (hR H zs us _ Z.ext I' hS Z.rv Z.len fun j x y e1 e2 => Z.pr j x y (List.getElem?_eq_some_iff.mp e1).1 e1 e2)
  | succ m ih =>
    intro i H zs us s hm hi Z hR
    have hlt : i < xs.length := by omega
    refine codeAny_builtin F.entry_extend_loop ?_
    rw [Around.under_plainId F.plain_extend_loop _]
    show wpAny _ A.in1 (pyNext (.ref (k + 4)) >>= _) _ _ s
    refine wpAny_bind (zs_step Z hl hlt fun T h' sz _ ⟨c, hS⟩ nx => ?_)
    show wpAny _ A.in1 (updateSeq S (·.push (.ref T)) >>= _) _ _ _
    have hz1 : xs.length ≤ sizeLine := (Z.inv.list (SqL.of Z.la)).choose_spec.2.2
    have hus : us.length = i := by rw [← Z.rv.length, Z.len]
    refine wpAny_bind ?_
    refine wpAny_updateSeq hS rfl (wpAny_pure ⟨plainId_quiet F.plain_extend_loop _, ?_⟩) (by rw [List.size_toArray, hus]; omega) (sz c hS)
    obtain ⟨H', Z'⟩ := nx (h'.update S (Obj.mapSeq (·.push (.ref T)))) s.toks ⟨_, by
      have e := Heap.get?_update_self (Obj.mapSeq (·.push (Value.ref T))) hS rfl
      rw [show (us ++ [Value.ref T]).toArray = us.toArray.push (Value.ref T) from by simp]
      exact e⟩ fun b o hb e => (Heap.get?_update_other _ _ (Ne.symm hb)).trans e
    exact ih (i + 1) H' _ _ _ (by omega) (by omega) Z' hR
theorem nolen_zip : typeLookup (.type "zip") "__len__" = pure none := by rw [typeLookup_type, builtinLookup_eq_fast]; kernel_rfl
theorem nohint_zip : typeLookup (.type "zip") "__length_hint__" = pure none := by rw [typeLookup_type, builtinLookup_eq_fast]; kernel_rfl
theorem collect_zip {A : Around} (hh : A.handled = none) {E : Value → Shared → Prop} {σ : L2.St} {H : Hp} {a b : Addr} {xs ys : List V} {s : Shared} {h₀ : Heap} {Q : List Value → Shared → Prop} (I : Inv X pins σ H s) (la : H a = some (.lst xs)) (lb : H b = some (.lst ys)) (hl : ys.length = xs.length)
    (hz : IsZip h₀ (s.heap.objs.size + 4) (s.heap.objs.size + 2) (s.heap.objs.size + 3) .none) (hTI : IsPair h₀ (s.heap.objs.size + 2) (.ref s.heap.objs.size) (.ref (s.heap.objs.size + 1)))
    (hTO : IsPair h₀ (s.heap.objs.size + 3) .none .none) (h1 : h₀.IsListIter s.heap.objs.size a 0) (h2 : h₀.IsListIter (s.heap.objs.size + 1) b 0) (hsz : h₀.objs.size = s.heap.objs.size + 5) (hk : ∀ c o, s.heap.get? c = some o → h₀.get? c = some o)
    (hq : ∀ H' zs' us' s', Ex H H' → Inv X pins σ H' s' → Vals zs' us' → zs'.length = xs.length →
      (∀ (j : Nat) x y, xs[j]? = some x → ys[j]? = some y → ∃ T : Addr, zs'[j]? = some (.ref T) ∧ H' T = some (.tup [x, y])) → Q us' s') :
    wpAny (model X.prog X.w) A (collect (.ref (s.heap.objs.size + 4))) Q E { s with heap := h₀ } := by
  have hT : ∀ h' : Heap, (∀ b o, h₀.get? b = some o → h'.get? b = some o) → ({ s with heap := h' } : Shared).TypeIs (.ref (s.heap.objs.size + 4)) "zip" := fun h' k => ⟨_, k _ _ hz, rfl⟩
  have hSz : h₀.objs.size = s.heap.objs.size + 5 := hsz
  unfold collect
  refine wpAny_bind (wpAny_runValue (codeAny_builtin F.entry_proto_collect ?_))
  rw [Around.under_plainId F.plain_proto_collect _]
  show wpAny _ A.in1 (newList [] >>= fun l => again (.builtin "list.__iadd__" ⟨[l, .ref (s.heap.objs.size + 4)], []⟩)) _ _ _
  refine wpAny_bind (wpAny_newObj_type ?_)
  refine wpAny_pure ⟨plainId_quiet F.plain_list_iadd _, codeAny_builtin F.entry_list_iadd ?_⟩
  rw [Around.under_plainId F.plain_list_iadd _]
  show wpAny _ A.in1 (Builtin.List.listExtendWith (.ref h₀.objs.size) (.ref (s.heap.objs.size + 4)) (.ref h₀.objs.size)) _ _ _
  unfold Builtin.List.listExtendWith
  have k1 : ∀ b o, h₀.get? b = some o → (h₀.push { cls := .type "list", data := .seq ([] : List Value).toArray }).get? b = some o := fun b o e => Heap.get?_push_of_some _ e
  refine wpAny_bind (wpAny_typeOf (hT _ k1) ?_)
  have e1 : Builtin.List.listSameRef (.ref h₀.objs.size) (.ref (s.heap.objs.size + 4)) = false := by
    have : ¬ h₀.objs.size = s.heap.objs.size + 4 := by omega
    simp [Builtin.List.listSameRef, this]
  have e2 : (Value.type "zip" == Value.type "list") = false := by decide
  have e3 : (Value.type "zip" == Value.type "tuple") = false := by decide
  simp only [e1, e2, e3, Bool.or_false, Bool.false_eq_true, if_false]
  refine wpAny_bind (wpAny_pyIter_zip (k1 _ _ hz) ?_)
  refine wpAny_bind (wpAny_holding ?_)
  unfold Builtin.List.listLengthHint
  refine wpAny_bind (wpAny_specialOf (hT _ k1) nolen_zip ?_)
  show wpAny _ A.in1 (specialOf (Value.ref (s.heap.objs.size + 4)) (Str.ofString "__length_hint__") >>= _) _ _ _
  refine wpAny_bind (wpAny_specialOf (hT _ k1) nohint_zip ?_)
  refine wpAny_pure ?_
  show wpAny _ A.in1 (rule "list.extend.makes-room" >>= fun _ => Builtin.List.listTouch (.ref h₀.objs.size) >>= fun _ =>
    again (.builtin "list.extend.loop" ⟨[.ref h₀.objs.size, .ref (s.heap.objs.size + 4), .ref h₀.objs.size], []⟩)) _ _ _
  refine wpAny_bind (wpAny_rule ?_)
  have hS₁ : (h₀.push { cls := .type "list", data := .seq ([] : List Value).toArray }).get? h₀.objs.size = some { cls := .type "list", data := .seq ([] : List Value).toArray } := Heap.get?_push_size _ rfl
  refine wpAny_bind ?_
  show wpAny _ A.in1 (updateSeq h₀.objs.size (·.push .none) >>= fun _ => updateSeq h₀.objs.size (·.pop)) _ _ _
  refine wpAny_bind (wpAny_updateSeq hS₁ rfl ?_)
  have hS₂ := Heap.get?_update_self (Obj.mapSeq (·.push Value.none)) hS₁ rfl
  refine wpAny_updateSeq hS₂ rfl ?_
  have hS₃ := Heap.get?_update_self (Obj.mapSeq (·.pop)) hS₂ rfl
  have oth : ∀ b o, h₀.get? b = some o →
      (((h₀.push { cls := .type "list", data := .seq ([] : List Value).toArray }).update h₀.objs.size (Obj.mapSeq (·.push Value.none))).update h₀.objs.size (Obj.mapSeq (·.pop))).get? b = some o := fun b o e => by
    have hb : h₀.objs.size ≠ b := Nat.ne_of_gt (Heap.lt_size e)
    exact (Heap.get?_update_other _ _ hb).trans ((Heap.get?_update_other _ _ hb).trans (k1 b o e))
  have pa := (I.list (SqL.of la)).choose_spec.2.1.lt
  have pb := (I.list (SqL.of lb)).choose_spec.2.1.lt
  refine wpAny_pure ⟨plainId_quiet F.plain_extend_loop _, zs_loop (X := X) (pins := pins) (σ := σ) (H0 := H) (by exact hh) hl xs.length 0 H [] [] _ rfl (Nat.zero_le _) (S := h₀.objs.size)
    ⟨I.kept (t' := s.toks) fun c o e => oth c o (hk c o e), PySem.W.ktu_apart s.heap.objs.size a b pa pb, la, lb, fun c hc => ?_, by omega, oth _ _ hTI, h1.at fun o q => oth _ _ q, h2.at fun o q => oth _ _ q, .inl ⟨oth _ _ hz, _, _, oth _ _ hTO⟩, ⟨_, hS₃⟩, .nil, rfl, fun _ _ q => q, fun j _ _ hj => absurd hj (Nat.not_lt_zero _)⟩
    fun H' zs' us' s' ex I' ⟨c', hS'⟩ rv' len' pr' => ?_⟩
  · have e' : c = s.heap.objs.size + 4 ∨ c = s.heap.objs.size + 2 ∨ c = s.heap.objs.size + 3 ∨ c = s.heap.objs.size ∨ c = s.heap.objs.size + 1 ∨ c = h₀.objs.size := by simpa using hc
    have hle : s.heap.objs.size ≤ c := by omega
    exact I.fpOk hle (I.hok.fresh hle)
  show wpAny _ A (load h₀.objs.size >>= _) _ _ s'
  refine wpAny_bind (wpAny_load hS' ?_)
  refine wpAny_pure ?_
  have := hq H' zs' us' s' ex I' rv' len' pr'
  simpa using this
end
/-! the rule -/
section
variable {X : Cx} {ta : TA} {e1 e2 : Expr} {p1 p2 pos pos2 : Pos}
theorem rpL_of {H : Hp} : ∀ {ds : List Da} {xs : List V}, xs.length = ds.length → (∀ (j : Nat) d x, ds[j]? = some d → xs[j]? = some x → Rp H d x) → RpL H ds xs
  | [], [], _, _ => rfl
  | d :: ds, x :: xs, hl, h => ⟨x, xs, rfl, h 0 d x rfl rfl, rpL_of (by simpa using hl) fun j d' x' e1 e2 => h (j + 1) d' x' (by simpa using e1) (by simpa using e2)⟩
  | [], _ :: _, hl, _ => by simp at hl
  | _ :: _, [], hl, _ => by simp at hl
def tSortZ (ta : TA) : TE := fun σ H Q => ta σ H fun vs H1 => ∃ a b xs ys ds es, vs = [.ref a, .ref b] ∧ H1 a = some (.lst xs) ∧ H1 b = some (.lst ys) ∧ RpL H1 ds xs ∧ RpL H1 es ys ∧ ys.length = xs.length ∧
  (∀ d ∈ ds, ∃ e, d = .tup e) ∧ (∀ d ∈ ds, ∀ e ∈ ds, cmpD d e) ∧ (∀ d ∈ ds, (key d).depth ≤ 7) ∧ (∀ d ∈ es, ∃ i, d = .int i) ∧ ∀ p H' zs, Ex H1 H' → H' p = some (.lst zs) → Q (.ref p) H'
theorem pe_sortZ (hu : X.A.units + 64 < cLine) (hc : X.calm = true) (hg : Gl X "sorted") (hm : X.mg "sorted" = none) (hg2 : Gl X "zip") (hm2 : X.mg "zip" = none) (ha : PA X [e1, e2] ta)
    (hs : starEach [e1, e2] X.env = (false, eval e1 X.env) :: starEach [e2] X.env := by rfl) (hpl : (backTo pos2 (starEach [e2] X.env)).any (·.1) = false := by rfl)
    (hs1 : starEach [.Call (.Name "zip" p2) [e1, e2] [] pos2] X.env = (false, eval (.Call (.Name "zip" p2) [e1, e2] [] pos2) X.env) :: starEach [] X.env := by rfl) (hpl1 : (backTo pos (starEach [] X.env)).any (·.1) = false := by rfl)
    (hs2 : backTo pos (starEach [.Call (.Name "zip" p2) [e1, e2] [] pos2] X.env) = [(false, eval (.Call (.Name "zip" p2) [e1, e2] [] pos2) X.env)] := by rfl) :
    PE X (.Call (.Name "sorted" p1) [.Call (.Name "zip" p2) [e1, e2] [] pos2] [] pos) (tSortZ ta) := by
  refine ⟨fun pins s σ H Q I h => ?_⟩
  refine wpAny_Call_Name_kw (ld_blt I hg hm PyProof.Rows.boot_sorted ?_ (by decide) (by decide))
  refine PyProof.Rows.callWith_builtin1 ?_ hs1 hpl1
  rw [hs2]
  refine Calls.spliced_cons (wpAny_Call_Name_kw (ld_blt I hg2 hm2 PyProof.Rows.boot_zip (PyProof.Rows.callWith_type1 (thn (ha.run pos2 pins s σ H _ I h) fun us s1 ⟨vs, H1, I1, r1, q1⟩ => ?_) hs hpl) (by decide) (by decide)))
  obtain ⟨a, b, xs, ys, ds, es, rfl, la, lb, rx, ry, hl, ht, hcmp, hdep, hint, q⟩ := q1
  obtain rfl : us = [Value.ref a, Value.ref b] := by
    cases r1 with
    | cons r rr => cases rr with
      | cons r' rr => cases rr; cases r; cases r'; rfl
  obtain ⟨its, rv, p1, _⟩ := I1.list (SqL.of la)
  obtain ⟨its2, rv2, p2, _⟩ := I1.list (SqL.of lb)
  refine call_zip_2 p1.isList p2.isList fun h' hz hTI hTO h1 h2 hsz hk => Calls.spliced_nil ?_
  refine Calls.call_function_entry kind_sorted plain_sorted entry_sorted (args_sorted1 _) ?_
  unfold Builtin.«sorted»
  refine wpAny_bind (m := checkCount "sorted" 1 1 _) (wpAny_pure ?_)
  refine wpAny_bind (collect_zip (X := X) (by exact I1.ok.hd hc) I1 la lb hl hz hTI hTO h1 h2 hsz hk fun H' zs us s' ex I' rv' len' pr' => ?_)
  have hz' : us.length ≤ sizeLine := by rw [← rv'.length, len']; exact (I1.list (SqL.of la)).choose_spec.2.2
  refine wpAny_bind (wpAny_newList ?_ hz')
  have hoL : (s'.heap.push (seqObj "list" us.toArray 0)).get? s'.heap.objs.size = some (seqObj "list" us.toArray 0) := Heap.get?_push_size _ rfl
  have keep : ∀ b o, s'.heap.get? b = some o → (s'.heap.push (seqObj "list" us.toArray 0)).get? b = some o := fun b o q => Heap.get?_push_of_some _ q
  have hT : Tm H1 H' := fun b ys' e => ex _ _ e
  have rz : RpL H' ((ds.zip es).map fun z => .tup [z.1, z.2]) zs := by
    have l1 := rx.length
    have l2 := ry.length
    refine rpL_of (by rw [len', List.length_map, List.length_zip]; omega) fun j d x e1 e2 => ?_
    rw [List.getElem?_map] at e1
    obtain ⟨z, hz1, rfl⟩ := Option.map_eq_some_iff.mp e1
    obtain ⟨c1, c2⟩ := List.getElem?_zip_eq_some.mp hz1
    obtain ⟨x1, g1, g2⟩ := rx.get c1
    obtain ⟨y1, g3, g4⟩ := ry.get c2
    obtain ⟨T, t1, t2⟩ := pr' j x1 y1 g1 g3
    rw [e2] at t1; cases t1
    exact ⟨T, [x1, y1], rfl, t2, x1, [y1], rfl, Rp.mono hT g2, y1, [], rfl, Rp.mono hT g4, rfl⟩
  have el : ∀ d ∈ (ds.zip es).map (fun z => Da.tup [z.1, z.2]), ∃ d1 i, d1 ∈ ds ∧ d = .tup [d1, .int i] := fun d hd => by
    obtain ⟨z, hz1, rfl⟩ := List.mem_map.mp hd
    obtain ⟨m1, m2⟩ := List.of_mem_zip hz1
    obtain ⟨i, e⟩ := hint _ m2
    exact ⟨z.1, i, m1, by rw [e]⟩
  refine wpAny_bind (wpAny_holding (wpAny_call_entry slot_list_sort ⟨_, hoL, rfl⟩ entry_list_sort (Srt.list_sort_any (s := { s' with heap := s'.heap.push (seqObj "list" us.toArray 0) }) hoL hz' (fun h2 => ?_) fun out ho => ⟨_, rfl, ?_⟩) (args_list_sort _)))
  · refine sortN_able (P := X.prog) (w := X.w) (fun h'' kp => I'.hok.kept fun b o e => kp b o (Nat.ne_of_lt (Heap.lt_size e)) (keep b o e)) rv' rz (fun d hd => ?_) (fun d hd e he => ?_) (fun d hd => ?_) (by show X.A.units + 1 + 1 + 16 < cLine; omega) (by omega)
    · obtain ⟨d1, i, m, rfl⟩ := el d hd
      obtain ⟨e, rfl⟩ := ht d1 m
      exact ⟨e, _, rfl⟩
    · obtain ⟨d1, i, m, rfl⟩ := el d hd
      obtain ⟨d2, j, m2, rfl⟩ := el e he
      exact ⟨hcmp _ m _ m2, trivial, trivial⟩
    · obtain ⟨d1, i, m, rfl⟩ := el d hd
      have := hdep d1 m
      show NestedKey.depthAll (keys [d1, .int i]) + 1 ≤ 8
      have : NestedKey.depthAll (keys [d1, .int i]) ≤ 7 := Nat.max_le.mpr ⟨this, by simp [keys, key, NestedKey.depthAll, NestedKey.depth]⟩
      omega
  · obtain ⟨ep, he'⟩ := PyProof.Rows.sortedHeap_at (out := out.toArray) hoL
    obtain ⟨zs2, hy⟩ := vals_of_all (out := out) fun v hv => vals_all rv' v (ho.mem_iff.mp hv)
    have hlen : zs2.length ≤ sizeLine := by rw [hy.length, ho.length_eq]; exact hz'
    have hn := I'.hok.fresh (Nat.le_refl s'.heap.objs.size)
    refine wpAny_pure ⟨_, rfl, .ref _, upd H' s'.heap.objs.size (.lst zs2), I'.laid (t' := s'.toks) (fun b o e => ?_) (Nat.le_refl _) ⟨hlen, out, ep, hy, he'⟩, rfl, q _ _ _ (ex.trans (Ex.new hn)) upd_same⟩
    have hlt := Heap.lt_size e
    rw [PyProof.Rows.sortedHeap_old (Nat.ne_of_lt hlt) (by rw [Heap.size_push]; exact Nat.lt_succ_of_lt hlt)]
    exact keep b o e
end
end K46
/-! part Q1 -/
set_option maxHeartbeats 600000
namespace K46
open PySem PySem.Spec PyProof.Rows L2 Evl
/-! ### == of nested tuples, of lists of numbers -/
mutual
def pyd : Da → PyData
  | .non => .none
  | .bl b => .bool b
  | .int i => .int i
  | .str s => .str s
  | .tup ds => .tuple (pyds ds)
def pyds : List Da → List PyData
  | [] => []
  | d :: ds => pyd d :: pyds ds
end
mutual
theorem rp_dp {K : PySem.W.Frag} {H : Hp} : ∀ (d : Da) (v : V), Rp H d v → Dp K H v (pyd d)
  | .non, _, e => by cases (show _ = V.non from e); exact .non
  | .bl b, _, e => by cases (show _ = V.bl b from e); exact .bl b
  | .int i, _, e => by cases (show _ = V.int i from e); exact .int i
  | .str x, _, e => by cases (show _ = V.str x from e); exact .str x
  | .tup ds, v, e => by
    obtain ⟨a, xs, rfl, h1, h2⟩ := e
    exact .tup (SqT.of h1) (rp_dps ds xs h2)
theorem rp_dps {K : PySem.W.Frag} {H : Hp} : ∀ (ds : List Da) (xs : List V), RpL H ds xs → DpAll K H xs (pyds ds)
  | [], _, e => by cases (show _ = [] from e); exact .nil
  | d :: ds, xs, e => by
    obtain ⟨x, r, rfl, h1, h2⟩ := e
    exact .cons (rp_dp d x h1) (rp_dps ds r h2)
end
theorem pyds_nats (l : List Nat) : pyds (l.map dn) = l.map fun n : Nat => PyData.int (n : Int) := by
  induction l with
  | nil => rfl
  | cons x r ih => rw [List.map_cons, pyds, ih, List.map_cons]; rfl
theorem nats_lay (l : List Nat) : PyData.canLayAll0 (l.map fun n : Nat => PyData.int (n : Int)) = true := by
  induction l with
  | nil => rfl
  | cons x r ih => rw [List.map_cons, PyData.canLayAll0, ih]; rfl
theorem nats_dep (l : List Nat) : PyData.depthAll (l.map fun n : Nat => PyData.int (n : Int)) = 0 := by
  induction l with
  | nil => rfl
  | cons x r ih => rw [List.map_cons, PyData.depthAll, ih]; rfl
theorem nats_eqv : ∀ (l m : List Nat), PyData.eqvAll (l.map fun n : Nat => PyData.int (n : Int)) (m.map fun n : Nat => PyData.int (n : Int)) = decide (l = m)
  | [], [] => rfl
  | [], y :: m => by simp [PyData.eqvAll]
  | x :: l, [] => by simp [PyData.eqvAll]
  | x :: l, y :: m => by
    rw [List.map_cons, List.map_cons, PyData.eqvAll, nats_eqv l m]
    show ((x : Int) == (y : Int) && decide (l = m)) = _
    rw [Bool.eq_iff_iff]
    simp
    omega
def rEqLN : R2 := fun x y H Q => ∃ (p q : Addr) (ns ms : List Nat), x = .ref p ∧ y = .ref q ∧ H p = some (.lst (ns.map vn)) ∧ H q = some (.lst (ms.map vn)) ∧ Q (.bl (decide (ns = ms))) H
def rNeLN : R2 := fun x y H Q => ∃ (p q : Addr) (ns ms : List Nat), x = .ref p ∧ y = .ref q ∧ H p = some (.lst (ns.map vn)) ∧ H q = some (.lst (ms.map vn)) ∧ Q (.bl (!decide (ns = ms))) H
theorem dpl {K : PySem.W.Frag} {H : Hp} {p : Addr} {ns : List Nat} (h : H p = some (.lst (ns.map vn))) : Dp K H (.ref p) (.list (ns.map fun n : Nat => PyData.int (n : Int))) := by
  refine .lst (SqL.of h) ?_
  clear h
  induction ns with
  | nil => exact .nil
  | cons x r ih => exact .cons (.int _) ih
theorem shl (ns : List Nat) : SeqAt.shaped (.list (ns.map fun n : Nat => PyData.int (n : Int))) = true := by
  unfold SeqAt.shaped
  rw [Bool.and_eq_true]
  exact ⟨nats_lay ns, by show decide (PyData.depthAll _ + 1 ≤ 64) = true; rw [nats_dep]; rfl⟩
section
variable {X : Cx}
theorem op_eqLN (hu : X.A.units + 64 < cLine) : OpR X (compareOp .Eq) rEqLN := by
  intro pins s σ H x y v u Q I rx ry h
  obtain ⟨p, q, ns, ms, e1, e2, hp, hq, k⟩ := h
  subst e1 e2
  exact op_eqD hu pins s σ H _ _ v u Q I rx ry ⟨_, _, dpl hp, dpl hq, shl ns, shl ms, by show Q (.bl (PyData.eqvAll _ _)) H; rw [nats_eqv]; exact k⟩
theorem op_neLN (hu : X.A.units + 64 < cLine) : OpR X (compareOp .NotEq) rNeLN := by
  intro pins s σ H x y v u Q I rx ry h
  obtain ⟨p, q, ns, ms, e1, e2, hp, hq, k⟩ := h
  subst e1 e2
  exact op_neD hu pins s σ H _ _ v u Q I rx ry ⟨_, _, dpl hp, dpl hq, shl ns, shl ms, by show Q (.bl (!PyData.eqvAll _ _)) H; rw [nats_eqv]; exact k⟩
/-- == of two that are told as data -/
def rEqRp : R2 := fun x y H Q => ∃ d e, Rp H d x ∧ Rp H e y ∧ SeqAt.shaped (pyd d) = true ∧ SeqAt.shaped (pyd e) = true ∧ Q (.bl (PyData.eqv (pyd d) (pyd e))) H
theorem op_eqRp (hu : X.A.units + 64 < cLine) : OpR X (compareOp .Eq) rEqRp := by
  intro pins s σ H x y v u Q I rx ry h
  obtain ⟨d, e, h1, h2, s1, s2, k⟩ := h
  exact op_eqD hu pins s σ H x y v u Q I rx ry ⟨_, _, rp_dp d x h1, rp_dp e y h2, s1, s2, k⟩
end
end K46
/-! part E1 -/
set_option maxHeartbeats 600000
namespace K46
open PySem PySem.Spec PyProof.Rows L2 Evl
/-! ### for i, x in enumerate(a tuple) -/
set_option maxHeartbeats 1000000 in
theorem meets_enumerate_newB1 {v : Value} {o : Obj} {H : Heap → Prop} (B : Begins v o H) :
    Meets (Builtin.«enumerate.__new__» ⟨[.type "enumerate", v], []⟩) (fun _ R s => H s.heap ∧
      R (.ok (.ret (.ref (s.heap.push o).objs.size))) { s with heap := (s.heap.push o).push { cls := .type "enumerate", data := .fields #[.none, .bool false, .ref s.heap.objs.size, rawInt 0, .none, .none] } }) :=
  .of_wp fun prog w A R s h => by
    obtain ⟨hp, g, d, tk, os⟩ := s; obtain ⟨h1, h⟩ := h
    have hsub := sub_enumerate
    have q1 : ∀ {A' : Around} {E : Value → Shared → Prop} {Q : Value → Shared → Prop}, Q (.ref hp.objs.size) ⟨hp.push o, g, d, tk, os⟩ → wpAny (model prog w) A' (pyIter v) Q E ⟨hp, g, d, tk, os⟩ :=
      fun q => B.iter prog w _ _ ⟨hp, g, d, tk, os⟩ _ h1 q
    wp_walk using q1
    refine wpAny_stack_any fun st => wpAny_pure ?_
    split
    · rename_i c _ _ _ _ _
      cases (c == Value.type "enumerate")
      · wp_walk using q1
        exact ⟨_, rfl, h⟩
      · wp_walk using q1
        exact ⟨_, rfl, h⟩
    · wp_walk using q1
      exact ⟨_, rfl, h⟩
section
variable {prog : Program} {w : World} {A : Around} {E : Value → Shared → Prop} {s : Shared}
theorem enum_begins1 {v : Value} {o : Obj} {H : Heap → Prop} {Q : Value → Shared → Prop} (B : Begins v o H) (h1 : H s.heap)
    (h : ∀ h', IsEnum h' (s.heap.objs.size + 1) s.heap.objs.size 0 .none → h'.get? s.heap.objs.size = some o → h'.objs.size = s.heap.objs.size + 2 →
      (∀ b o, s.heap.get? b = some o → h'.get? b = some o) → Q (.ref (s.heap.objs.size + 1)) { s with heap := h' }) :
    wpAny (model prog w) A (call (.type "enumerate") [v]) Q E s := by
  refine callType_new F.called_enumerate (by decide) (F.typeCall_enumerate_1 _) (F.newCall_enumerate_1 _) (fun obj => F.args_object_init_2 obj _) F.entry_enumerate_new
    (meets_enumerate_newB1 B) ⟨h1, ?_⟩
  have hz : (s.heap.push o).objs.size = s.heap.objs.size + 1 := Heap.size_push ..
  show _ ∧ _
  rw [hz]
  have he : IsEnum ((s.heap.push o).push { cls := .type "enumerate", data := .fields #[.none, .bool false, .ref s.heap.objs.size, rawInt 0, .none, .none] }) (s.heap.objs.size + 1) s.heap.objs.size 0 .none := by
    have := Heap.get?_push_size (s.heap.push o) (o := { cls := .type "enumerate", data := .fields #[.none, .bool false, .ref s.heap.objs.size, rawInt 0, .none, .none] }) rfl
    rw [hz] at this; exact this
  refine ⟨⟨_, he, rfl⟩, h _ he (Heap.get?_push_of_some _ (Heap.get?_push_size _ B.free)) (by rw [Heap.size_push, hz]) fun b o x => Heap.get?_push_of_some _ (Heap.get?_push_of_some _ x)⟩
end
def IteT (K : PySem.W.Frag) (a : Addr) : It :=
  ⟨fun i H => ∃ (xs : List V) (x : V), SqT K H a xs ∧ xs[i]? = some x, fun i H v H' => ∃ T x, v = .ref T ∧ H T = none ∧ H' = upd H T (.tup [.int (i : Nat), x]) ∧ ∀ xs, SqT K H a xs → xs[i]? = some x, fun i H => ∃ xs : List V, SqT K H a xs ∧ xs.length ≤ i⟩
theorem turn_enumT {P : Program} {w : World} {K : PySem.W.Frag} {elts : List Expr} {kk : Nat} {tpos : Pos} (a e it : Addr) (hae : a ≠ e) (hai : a ≠ it) :
    Turn P w K (.Tuple elts kk tpos) (IteT K a) [e, it] e (fun i h => (∃ old, IsEnum h e it ((i : Nat) : Int) old) ∧ h.IsTupleIter it a i ∧ e ≠ it) where
  mem := by simp
  obj := fun i h st b hb => by
    obtain ⟨⟨old, he⟩, ⟨o, ho, hc, hd⟩, _⟩ := st
    have e' : b = e ∨ b = it := by simpa using hb
    rcases e' with z | z
    · rw [z]; exact ⟨_, he, fun v q => nomatch q⟩
    · rw [z]; exact ⟨o, ho, fun v q => by rw [hd] at q; cases q⟩
  keep := fun i h h' st k => let ⟨⟨old, he⟩, hi, hne⟩ := st; ⟨⟨old, k e (by simp) _ he⟩, hi.at fun o q => k it (by simp) o q, hne⟩
  item := by
    intro X hP hw hK hc i pins s σ H E I hf st hg
    subst hP hw hK
    obtain ⟨⟨old, he⟩, hit, hne⟩ := st
    obtain ⟨xs, x, hq, hx⟩ := hg
    obtain ⟨its, rv, p, hz⟩ := I.tuple hq
    obtain ⟨u, hu, ru⟩ := rv.get hx
    have hel : e < s.heap.objs.size := Heap.lt_size he
    have hil : it < s.heap.objs.size := by obtain ⟨_, q, _⟩ := hit; exact Heap.lt_size q
    have hil2 : i < its.toArray.size := by simpa using (List.getElem?_eq_some_iff.mp hu).1
    refine wpAny_pyNext_enum_itemD (Draws.tuple (A := X.A.in1) (I.ok.hd hc) it a hai its.toArray) he ⟨hit, show s.heap.IsTuple a its.toArray from p⟩ hil2 hne (by simp [hne, Ne.symm hae]) fun y h' tk hy ho hst' hT hsz hk => ?_
    obtain ⟨hit', _⟩ := hst'
    obtain rfl : y = u := by
      have : its.toArray[i]? = some u := by simpa using hu
      rw [hy] at this; cases this; rfl
    refine ⟨_, rfl, wpAny_letOwnedTupleGo_enum (s := { s with heap := h', toks := tk + 1 }) ho fun h'' he' sb => ?_⟩
    have hT2 : h''.get? s.heap.objs.size = some { cls := .type "tuple", data := .seq #[.int i tk, y] } := (sb.2 _ (Nat.ne_of_gt hel)).trans hT
    have new : ObjOk X.prog X.w (upd H s.heap.objs.size (.tup [.int (i : Nat), x])) h'' s.heap.objs.size (.tup [.int (i : Nat), x]) :=
      ⟨by show 2 ≤ sizeLine; decide, [.int i tk, y], .cons ⟨_, rfl⟩ (.cons ru .nil), ⟨_, hT2, rfl, _, rfl⟩⟩
    have I1 : Inv X pins σ (upd H s.heap.objs.size (.tup [.int (i : Nat), x])) { s with heap := h'', toks := tk + 1 } :=
      I.turnedNew (ch := [e, it]) (fun b ob hb q => (sb.2 b (fun z => hb (by simp [z]))).trans (hk b ob (fun z => hb (by simp [z])) (fun z => hb (by simp [z])) q)) hf (Nat.le_refl _) new
    refine ⟨.ref s.heap.objs.size, _, I1, rfl, ⟨_, x, rfl, I.hok.fresh (Nat.le_refl _), rfl, fun ys hy => by rw [I.tuple_inj hy hq]; exact hx⟩, ⟨⟨y, ?_⟩, hit'.at fun o q => (sb.2 it (Ne.symm hne)).trans q, hne⟩, fun b hb => ?_⟩
    · have e1 : ((i + 1 : Nat) : Int) = (i : Int) + 1 := by omega
      rw [e1]; exact he'
    · have hb' : b < s.heap.objs.size := by
        have e' : b = e ∨ b = it := by simpa using hb
        rcases e' with z | z
        · rw [z]; exact hel
        · rw [z]; exact hil
      rw [upd_ne (Nat.ne_of_lt hb')]
      exact (hf b hb).1
  done := by
    intro X hP hw hK hc i pins s σ H E I hf st hg
    subst hP hw hK
    obtain ⟨⟨old, he⟩, hit, hne⟩ := st
    obtain ⟨xs, hq, hx⟩ := hg
    obtain ⟨its, rv, p, hz⟩ := I.tuple hq
    obtain ⟨f0, f1, f2, f3, f4, f5⟩ := hf it (by simp)
    have hl := rv.length
    have hT : s.TypeIs (.ref e) "enumerate" := ⟨_, he, rfl⟩
    unfold pyNext
    refine wpAny_bind (wpAny_attempt (wpAny_callSpecial?_slot (name := Str.ofString "__next__") hT F.slot_enumerate_next
      (wpAny_call_entry F.slot_enumerate_next hT F.entry_enumerate_next ?_ (F.args_enumerate_next_1 _))))
    show wpAny _ _ (field (.ref e) 2 >>= _) _ _ _
    refine wpAny_bind (wpAny_field he rfl (x := .ref it) rfl ?_)
    refine wpAny_bind (wpAny_nextOf_tuple_end (A := X.A.in1) (I.ok.hd hc) hit (show s.heap.IsTuple a its.toArray from p) (by simp; omega) fun h' ev eb hev => ?_)
    obtain ⟨o, ho, hcl⟩ := hev
    refine wpAny_bind (wpAny_isInstance (T := "StopIteration") (b := true) ⟨o, ho, hcl⟩ isSubtype_stop ?_)
    exact wpAny_pure ⟨rfl, I.turned (t' := s.toks) (fun b o hb q => eb b o hb q) f0 f1 f3 f4 f5⟩
  self := fun A i s Q E st h => let ⟨⟨_, he⟩, _⟩ := st; wpAny_pyIter_enum he h
def iEnumT (K : PySem.W.Frag) (ta : TA) : TI := fun σ H R => ta σ H fun vs H1 => ∃ a xs, vs = [.ref a] ∧ SqT K H1 a xs ∧ R (IteT K a) H1
theorem pi_enumT {X : Cx} {e : Expr} {ta : TA} {p pos tpos : Pos} {elts : List Expr} {kk : Nat} (hg : Gl X "enumerate") (hm : X.mg "enumerate" = none) (ha : PA X [e] ta) (hs : starEach [e] X.env = [(false, eval e X.env)] := by rfl) :
    PI X (.Tuple elts kk tpos) (.Call (.Name "enumerate" p) [e] [] pos) (iEnumT X.K ta) := by
  refine ⟨fun pins s σ H R I h => ?_⟩
  refine Call_ (ld_blt I hg hm boot_enumerate (PyProof.Rows.callWith_type1 (thn (ha.run pos pins s σ H _ I h) fun us s1 ⟨vs, H1, I1, r1, q1⟩ => ?_) hs rfl))
  obtain ⟨a, xs, ex, hq, q⟩ := q1
  subst ex
  cases r1 with
  | cons r rr =>
    cases rr
    cases r
    obtain ⟨its, rv, p', hz⟩ := I1.tuple hq
    have hal : a < s1.heap.objs.size := by obtain ⟨o, ho, _⟩ := p'; exact Heap.lt_size ho
    refine enum_begins1 (begins_tuple a its.toArray) (show s1.heap.IsTuple a its.toArray from p') fun h' he hit hsz hk => wpAny_pyIter_enum he ?_
    have I2 : Inv X pins σ H1 { s1 with heap := h' } := I1.kept (t' := s1.toks) hk
    refine ⟨s1.heap.objs.size + 1, [s1.heap.objs.size + 1, s1.heap.objs.size], _, _, H1, rfl, I2, turn_enumT a (s1.heap.objs.size + 1) s1.heap.objs.size (Nat.ne_of_lt (Nat.lt_succ_of_lt hal)) (Nat.ne_of_lt hal), ⟨⟨.none, he⟩, ⟨_, hit, rfl, rfl⟩, Nat.succ_ne_self _⟩, fun b hb => ?_, q⟩
    have e' : b = s1.heap.objs.size + 1 ∨ b = s1.heap.objs.size := by simpa using hb
    have hle : s1.heap.objs.size ≤ b := by
      rcases e' with z | z
      · rw [z]; exact Nat.le_add_right _ _
      · rw [z]; exact Nat.le_refl _
    exact I1.fpOk hle (I1.hok.fresh hle)
theorem for_enumT {K : PySem.W.Frag} {a : Addr} {xs : List V} {g : TG} {tb : TS} {D : L2.Ends} {σ : L2.St} {H : Hp} (Pv : Nat → L2.St → Hp → Prop) (h0 : Pv 0 σ H) (hl : ∀ i σ H, i ≤ xs.length → Pv i σ H → H a = some (.tup xs))
    (hs : ∀ i x σ H T H', xs[i]? = some x → Pv i σ H → H T = none → Ex H H' → H' T = some (.tup [vn i, x]) → g (.ref T) σ H' fun σ2 H2 => tb { D with nx := Pv (i + 1), ct := Pv (i + 1), bk := D.nx } σ2 H2) (hd : ∀ σ H, Pv xs.length σ H → D.nx σ H) :
    ∃ W : Nat → Nat → L2.St → Hp → Prop, (∃ m, W 0 m σ H) ∧ ∀ i m σ H, W i m σ H →
      ((IteT K a).stop i H ∧ D.nx σ H) ∨ ((IteT K a).go i H ∧ ∃ N : L2.St → Hp → Prop, (∀ σ' H', N σ' H' → ∃ m', m' < m ∧ W (i + 1) m' σ' H') ∧ ∀ v H', (IteT K a).yld i H v H' → g v σ H' fun σ2 H2 => tb { D with nx := N, ct := N, bk := D.nx } σ2 H2) := by
  refine ⟨fun i m σ H => m = xs.length - i ∧ i ≤ xs.length ∧ Pv i σ H, ⟨xs.length, by simp, Nat.zero_le _, h0⟩, ?_⟩
  rintro i m σ H ⟨rfl, hi, p⟩
  have q : SqT K H a xs := SqT.of (hl i σ H hi p)
  by_cases hlt : i < xs.length
  · refine .inr ⟨⟨xs, xs[i], q, by simp [hlt]⟩, Pv (i + 1), fun σ' H' p' => ⟨xs.length - (i + 1), by omega, rfl, hlt, p'⟩, fun v H' y => ?_⟩
    obtain ⟨T, x, e1, n, e2, hx⟩ := y
    subst e1 e2
    exact hs i x σ H T _ (hx xs q) p n (Ex.new n) upd_same
  · have e : i = xs.length := by omega
    subst e
    exact .inl ⟨⟨xs, q, Nat.le_refl _⟩, hd σ H p⟩
end K46
/-! part W1 -/
set_option maxHeartbeats 600000
namespace K46
open PySem PySem.Spec PyProof.Rows L2 Evl
theorem notN {H : Hp} {t : Option Nat} : (!decide (tokV t = V.non)) = t.isSome := by
  cases t <;> rfl
section
variable {P : Program} {w : World} {K : PySem.W.Frag} {mg : Str → Option Value} {base : Heap}
/-- counts, tokens, lost -/
def spComing : Sp := fun vs H Q _ => ∃ (s : Setg) (st : Sta) (f : Nat) (v1 v2 : V), vs = [v1, v2, vn f] ∧ Rp H s.da v1 ∧ Rp H st.da v2 ∧ st.l.length ≤ 1000 ∧
  ∀ H' p c, Ex H H' → H c = none → H' p = some (.tup [.ref c, vn (comR s st).2.1, vn (comR s st).2.2]) → H' c = some (.lst (((comR s st).1 ++ [f]).map vn)) → Q (.ref p) H'
theorem sc_coming : FnScope ["setting", "state", "fresh", "counts", "tokens", "lost", "many", "let"] ["setting", "state", "fresh"] (d_coming.scope) := ⟨rfl, rfl, rfl, by decide +kernel, rfl, by decide +kernel, by decide +kernel⟩
theorem comF_len (s : Setg) (l : List Nat) (a : List Nat × Nat × Nat) : (l.foldl (comF s) a).1.length = a.1.length + l.length := by
  induction l generalizing a with
  | nil => rfl
  | cons m r ih =>
    rw [List.foldl_cons, ih]
    unfold comF
    cases s.tok <;> simp <;> omega
theorem c_coming (B : Bas w K mg) : Cal P w K mg base 1 "coming" ["setting", "state", "fresh"] spComing := by
  refine B.cal "coming" 14 14 (d := d_coming) rfl rfl rfl rfl rfl sc_coming (fun vs H Q E h => ?_) (fun _ _ _ _ _ _ us hl => match us, hl with | [_, _, _], _ => rfl) (fun f cdv A outer s H vs Q E hr h => ?_)
  · obtain ⟨s, st, f, v1, v2, rfl, _⟩ := h
    rfl
  · obtain ⟨s, st, f, v1, v2, rfl, r1, r2, hz, k⟩ := h
    obtain ⟨a, fv, rfl, S⟩ := rp_set r1
    obtain ⟨b, b1, b2, b3, qs, rfl, T⟩ := rp_sta r2
    refine ⟨_, (pss_cons (ps_par3 (i := 3) (j := 4) (l := 5) rfl sc_coming.nd rfl rfl rfl (by decide) (by decide) (by decide) rfl rfl rfl (pa_cons (pe_lstA pa_nil) (pa_cons (pe_ixk (pv 1)) (pa_cons pe_int pa_nil))) (by rfl))
    (pss_cons (ps_for PassesOwn.never rfl (pi_tup (pe_ixk (pe_ixk (pv 1)))) (pg_name (i := 6) sc_coming.nd rfl (Or.inl rfl))
      (pss_cons (ps_set (i := 7) sc_coming.nd rfl (Or.inl rfl) (pv 6))
      (pss_cons (ps_if (pt_cmpR op_notN (pe_ixk (pv 0)) pe_non (nomark _))
        (pss_cons (ps_set (i := 7) sc_coming.nd rfl (Or.inl rfl) (pe_callB (call_minN rfl) (by rfl) (B.free 78) boot_min (pa_cons (pv 6) (pa_cons (pv 4) pa_nil))))
        (pss_one (ps_set (i := 4) sc_coming.nd rfl (Or.inl rfl) (pe_op op_subN (pv 4) (pv 7)))))
        pss_nil)
      (pss_cons (ps_expr (pe_bm PySem.F.plainAttrs_list PySem.F.slot_list_append PySem.F.type_list_append mt_appB (pv 3) (pa_cons (pv 7) pa_nil)))
      (pss_one (ps_set (i := 5) sc_coming.nd rfl (Or.inl rfl) (pe_op op_subN (pe_op op_addN (pv 5) (pv 6)) (pv 7))))))))
    (pss_one (ps_ret (pe_tupA (pa_cons (pe_op op_catL (pv 3) (pe_lstA (pa_cons (pv 2) pa_nil))) (pa_cons (pv 4) (pa_cons (pv 5) pa_nil)))))))), ?_⟩
    -- counts, tokens, lost = [], state[3], 0
    refine ⟨sz0, fun c H1 n1 e1 h1 => ?_⟩
    refine ⟨_, rfl, _, _, _, rfl, e1 _ _ T.at_, rfl, _, _, _, rfl, ?_⟩
    -- for many in state[2][0]
    refine ⟨_, rfl, _, _, _, rfl, e1 _ _ T.at_, rfl, _, _, _, rfl, e1 _ _ T.l, rfl, _, rfl, ⟨_, SqT.of (e1 _ _ T.l0)⟩, for_tup (xs := st.l.map vn)
      (fun i σ H2 => ∃ m6 l7, σ = [some (.ref a), some (.ref b), some (vn f), some (.ref c), some (vn ((st.l.take i).foldl (comF s) ([], st.t, 0)).2.1), some (vn ((st.l.take i).foldl (comF s) ([], st.t, 0)).2.2), m6, l7] ∧ Ex H H2 ∧
        H2 c = some (.lst (((st.l.take i).foldl (comF s) ([], st.t, 0)).1.map vn)))
      ⟨none, none, rfl, e1, h1⟩ (fun i σ H2 _ ⟨_, _, _, e2, _⟩ => SqT.of (e2 _ _ T.l0)) ?_ ?_⟩
    · rintro i x σ H2 hx ⟨m6, l7, rfl, e2, h2⟩
      obtain ⟨m, hm, rfl⟩ := map_at hx
      have hil : i < st.l.length := (List.getElem?_eq_some_iff.mp hm).1
      rw [foldl_take (comF s) _ hm]
      have hln : (((st.l.take i).foldl (comF s) ([], st.t, 0)).1.map vn).length < sizeLine := by
        rw [List.length_map, comF_len, List.length_take, sizeLine_eq]; simp; omega
      generalize (st.l.take i).foldl (comF s) ([], st.t, 0) = acc at *
      refine ⟨_, rfl, ?_⟩
      refine ⟨_, rfl, _, _, _, rfl, e2 _ _ S.at_, rfl, rfl, _, rfl, ?_⟩
      show (if (!decide (tokV s.tok = V.non)) = true then _ else _)
      unfold comF
      cases ht : s.tok with
      | none =>
        refine iteF ?_
        refine ⟨_, rfl, Or.inl ⟨rfl, _, SqL.of h2⟩, _, rfl, _, _, _, rfl, rfl, h2, hln, fun H3 b3 h3 => ?_⟩
        refine ⟨_, rfl, _, rfl, _, _, rfl, rfl, _, rfl, _, _, rfl, rfl, Nat.le_add_left _ _, ?_⟩
        exact ⟨_, _, rfl, e2.bt n1 b3, by rw [h3, List.map_append]; rfl⟩
      | some n =>
        refine iteT ?_
        refine ⟨_, rfl, _, rfl, _, _, rfl, ?_⟩
        refine ⟨_, rfl, _, rfl, _, _, rfl, rfl, Nat.min_le_right _ _, ?_⟩
        refine ⟨_, rfl, Or.inl ⟨rfl, _, SqL.of h2⟩, _, rfl, _, _, _, rfl, rfl, h2, hln, fun H3 b3 h3 => ?_⟩
        refine ⟨_, rfl, _, rfl, _, _, rfl, rfl, _, rfl, _, _, rfl, rfl, by omega, ?_⟩
        exact ⟨_, _, rfl, e2.bt n1 b3, by rw [h3, List.map_append]; rfl⟩
    · -- return (counts + [fresh], tokens, lost)
      rintro σ H2 ⟨m6, l7, rfl, e2, h2⟩
      have ee : (st.l.take (st.l.map vn).length).foldl (comF s) ([], st.t, 0) = comR s st := by rw [List.length_map, List.take_length]; rfl
      rw [ee] at h2 ⊢
      have hln : ((comR s st).1.map vn).length ≤ 1000 := by
        rw [List.length_map]; unfold comR; rw [comF_len]; simp; omega
      refine ⟨_, rfl, _, rfl, sz1, fun p3 H3 n3 e3 h3 => ?_⟩
      refine ⟨_, _, _, _, rfl, rfl, e3 _ _ h2, h3, by rw [sizeLine_eq]; simp at *; omega, fun p4 H4 n4 e4 h4 => ?_⟩
      refine ⟨_, rfl, _, rfl, sz3, fun p5 H5 e5 h5 => ?_⟩
      refine k H5 p5 p4 ((e2.trans e3).trans (e4.trans e5)) (fresh_back (e2.trans e3) n4) h5 ?_
      rw [e5 _ _ h4, List.map_append]; rfl
end
end K46
/-! part W2 -/
set_option maxHeartbeats 600000
namespace K46
open PySem PySem.Spec PyProof.Rows L2 Evl
section
variable {P : Program} {w : World} {K : PySem.W.Frag} {mg : Str → Option Value} {base : Heap}
/-! ### entered -/
def spEntered : Sp := fun vs H Q _ => ∃ (s : Setg) (st : Sta) (cs : List Nat) (v1 v2 : V) (c : Addr), vs = [v1, v2, .ref c] ∧ Rp H s.da v1 ∧ Rp H st.da v2 ∧ H c = some (.lst (cs.map vn)) ∧ st.d + st.q.length ≤ s.room ∧ s.room ≤ 100 ∧ cs.length ≤ 100 ∧
  ∀ H' p b v, Ex H H' → H b = none → H' p = some (.tup [v, .ref b]) → H' b = some (.lst ((entR s st cs).2.1.map vn)) → Rp H' (.tup ((entR s st cs).1.map prD)) v → Q (.ref p) H'
theorem entF_len (l : List Nat) (a : List (Nat × Nat) × List Nat × Nat) : (l.foldl entF a).2.1.length = a.2.1.length + l.length := by
  induction l generalizing a with
  | nil => rfl
  | cons m r ih =>
    rw [List.foldl_cons, ih]
    simp [entF]; omega
theorem entF_room (l : List Nat) (a : List (Nat × Nat) × List Nat × Nat) : (l.foldl entF a).1.length + (l.foldl entF a).2.2 = a.1.length + a.2.2 := by
  induction l generalizing a with
  | nil => rfl
  | cons m r ih =>
    rw [List.foldl_cons, ih]
    simp [entF]; omega
theorem rep_pr {H : Hp} {n : Nat} {t : Addr} {p : Nat × Nat} (h : H t = some (.tup [vn p.1, vn p.2])) : RpL H (List.replicate n (prD p)) (List.replicate n (V.ref t)) := by
  induction n with
  | zero => rfl
  | succ n ih => exact ⟨_, _, rfl, ⟨t, _, rfl, h, _, _, rfl, rfl, _, _, rfl, rfl, rfl⟩, ih⟩
theorem flat_one {α : Type} (n : Nat) (x : α) : (List.replicate n [x]).flatten = List.replicate n x := by
  induction n with
  | zero => rfl
  | succ n ih => rw [List.replicate_succ, List.flatten_cons, ih]; rfl
/-! entered: 0 setting, 1 state, 2 counts, 3 queue, 4 refused, 5 free, 6 left, 7 many, 8 let -/
theorem sc_entered : FnScope ["setting", "state", "counts", "queue", "refused", "free", "left", "many", "let"] ["setting", "state", "counts"] (d_entered.scope) := ⟨rfl, rfl, rfl, by decide +kernel, rfl, by decide +kernel, by decide +kernel⟩
theorem c_entered (B : Bas w K mg) : Cal P w K mg base 1 "entered" ["setting", "state", "counts"] spEntered := by
  refine B.cal "entered" 15 15 (d := d_entered) rfl rfl rfl rfl rfl sc_entered (fun vs H Q E h => ?_) (fun _ _ _ _ _ _ us hl => match us, hl with | [_, _, _], _ => rfl) (fun f cdv A outer s₀ H vs Q E hr h => ?_)
  · obtain ⟨s, st, cs, v1, v2, c, rfl, _⟩ := h
    rfl
  · obtain ⟨s, st, cs, v1, v2, c, rfl, r1, r2, hc, hroom, hr100, hcl, k⟩ := h
    obtain ⟨a, fv, rfl, S⟩ := rp_set r1
    obtain ⟨b, b1, b2, b3, qs, rfl, T⟩ := rp_sta r2
    have hql : qs.length = st.q.length := by rw [T.qr.length, List.length_map]
    refine ⟨_, (pss_cons (ps_par (i := 3) (j := 4) rfl sc_entered.nd rfl rfl (by decide) rfl rfl (pa_cons (pe_ixk (pv 1)) (pa_cons (pe_lstA pa_nil) pa_nil)) (by rfl))
    (pss_cons (ps_set (i := 5) sc_entered.nd rfl (Or.inl rfl) (pe_ifExp (pt_cmpR op_eqN (pe_ixk (pv 1)) pe_int (nomark _)) (pe_op op_subN (pe_op op_subN (pe_ixk (pv 0)) (pe_ixk (pv 1))) (pe_callB call_lenB (by rfl) (B.free 74) boot_len (pa_cons (pv 3) pa_nil))) pe_int))
    (pss_cons (ps_for PassesOwn.never rfl (pi_enum (by rfl) (B.free 80) (pa_cons (pv 2) pa_nil)) (pg_tup rfl (pgs_cons (pg_name (i := 6) sc_entered.nd rfl (Or.inl rfl)) (pgs_cons (pg_name (i := 7) sc_entered.nd rfl (Or.inl rfl)) pgs_nil)))
      (pss_cons (ps_set (i := 8) sc_entered.nd rfl (Or.inl rfl) (pe_callB (call_minN rfl) (by rfl) (B.free 78) boot_min (pa_cons (pv 7) (pa_cons (pv 5) pa_nil))))
      (pss_cons (ps_set (i := 5) sc_entered.nd rfl (Or.inl rfl) (pe_op op_subN (pv 5) (pv 8)))
      (pss_cons (ps_set (i := 3) sc_entered.nd rfl (Or.inl rfl) (pe_op op_catB (pv 3) (pe_op op_repX (pe_tupA (pa_cons (pe_tupA (pa_cons (pv 6) (pa_cons pe_int pa_nil))) pa_nil)) (pv 8))))
      (pss_one (ps_expr (pe_bm PySem.F.plainAttrs_list PySem.F.slot_list_append PySem.F.type_list_append mt_appB (pv 4) (pa_cons (pe_op op_subN (pv 7) (pv 8)) pa_nil))))))))
    (pss_one (ps_ret (pe_tupA (pa_cons (pv 3) (pa_cons (pv 4) pa_nil)))))))), ?_⟩
    -- queue, refused = state[1], []
    refine ⟨_, rfl, _, _, _, rfl, T.at_, rfl, sz0, fun rf H1 n1 e1 h1 => ?_⟩
    refine ⟨_, _, rfl, ?_⟩
    -- free
    dsimp only
    refine q_asg (v := vn (free s st)) (fun H2 e2 Q2 k2 => ?_) (fun H2 e2 => ?_)
    · have e := e1.trans e2
      refine ⟨_, rfl, _, _, _, rfl, e _ _ T.at_, rfl, _, 0, rfl, rfl, _, rfl, ?_⟩
      unfold free at k2
      by_cases ho : st.o = 0
      · rw [if_pos ho] at k2
        refine iT (decide_eq_true ho) ?_
        refine ⟨_, rfl, _, _, _, rfl, e _ _ S.at_, rfl, _, rfl, _, _, _, rfl, e _ _ T.at_, rfl, _, _, rfl, rfl, by omega, ?_⟩
        refine ⟨_, rfl, _, _, rfl, Or.inr (e _ _ T.q), _, _, rfl, rfl, by omega, ?_⟩
        rw [hql]
        exact k2 _ (Ex.refl _)
      · rw [if_neg ho] at k2
        refine iF (decide_eq_false ho) ?_
        exact k2 _ (Ex.refl _)
    · -- for left, many in enumerate(counts)
      have e12 := e1.trans e2
      have hfr : free s st ≤ 100 := by unfold free; split <;> omega
      refine ⟨_, rfl, _, _, rfl, SqL.of (e12 _ _ hc), for_enum (xs := cs.map vn)
        (fun i σ H3 => ∃ (v6 v7 v8 : Option V) (v : V), σ = [some (.ref a), some (.ref b), some (.ref c), some v, some (.ref rf), some (vn ((cs.take i).foldl entF (st.q, [], free s st)).2.2), v6, v7, v8] ∧ Ex H H3 ∧
          H3 rf = some (.lst (((cs.take i).foldl entF (st.q, [], free s st)).2.1.map vn)) ∧ Rp H3 (.tup (((cs.take i).foldl entF (st.q, [], free s st)).1.map prD)) v)
        ⟨none, none, none, _, rfl, e12, e2 _ _ h1, _, qs, rfl, e12 _ _ T.q, T.qr.mono (tm_ex e12)⟩ (fun i σ H3 _ ⟨_, _, _, _, _, e3, _⟩ => e3 _ _ hc) ?_ ?_⟩
      · rintro i x σ H3 tp H4 hx ⟨v6, v7, v8, v, rfl, e3, h3, hq⟩ n4 e4 h4
        obtain ⟨m, hm, rfl⟩ := map_at hx
        have hil : i < cs.length := (List.getElem?_eq_some_iff.mp hm).1
        rw [foldl_take entF _ hm]
        have hln : ((cs.take i).foldl entF (st.q, [], free s st)).2.1.length = i := by
          rw [entF_len, List.length_take]; simp; omega
        have hrm := entF_room (cs.take i) (st.q, [], free s st)
        simp only at hrm
        have hqq : st.q.length ≤ 100 := by omega
        generalize (cs.take i).foldl entF (st.q, [], free s st) = acc at *
        refine ⟨_, _, rfl, SqT.of h4, rfl, _, _, rfl, _, _, rfl, rfl, ?_⟩
        -- let = min(many, free); free = free - let
        refine ⟨_, rfl, _, rfl, _, _, rfl, ?_⟩
        refine ⟨_, rfl, _, rfl, _, _, rfl, rfl, Nat.min_le_right _ _, ?_⟩
        -- queue = queue + ((left, 0),) * let
        refine ⟨_, rfl, _, rfl, sz2, fun t5 H5 e5 h5 => ⟨sz1, fun t6 H6 e6 h6 => ?_⟩⟩
        refine ⟨_, rfl, _, _, _, rfl, rfl, h6, by omega, by show 1 ≤ 1000; decide, fun t7 H7 e7 h7 => ?_⟩
        obtain ⟨aq, xq, rfl, hq1, hq2⟩ := hq
        have e47 := ((e4.trans e5).trans e6).trans e7
        have hxl : xq.length = acc.1.length := by rw [hq2.length, List.length_map]
        rw [flat_one] at h7
        refine ⟨_, _, _, _, rfl, rfl, e47 _ _ hq1, h7, by rw [List.length_replicate, sizeLine_eq]; omega, fun t8 H8 e8 h8 => ?_⟩
        have e38 := e47.trans e8
        -- refused.append(many - let)
        refine ⟨_, rfl, Or.inl ⟨rfl, _, SqL.of (e38 _ _ h3)⟩, _, rfl, _, rfl, _, _, rfl, rfl, Nat.min_le_left _ _, ?_⟩
        refine ⟨_, _, _, rfl, rfl, e38 _ _ h3, by rw [List.length_map, hln, sizeLine_eq]; omega, fun H9 b9 h9 => ?_⟩
        have hne : t8 ≠ rf := ne_of h8 (e38 _ _ h3) (by intro z; cases z)
        refine ⟨_, _, _, _, rfl, (e3.trans e38).bt n1 b9, by rw [h9]; simp only [entF, List.map_append, List.map_cons, List.map_nil], t8, _, rfl, b9 _ _ hne h8, ?_⟩
        have tm9 : Tm H8 H9 := b9.tm (e38 _ _ h3)
        simp only [entF, List.map_append, List.map_replicate]
        have h5' : H8 t5 = some (.tup [vn acc.2.1.length, vn 0]) := by
          rw [hln]; exact ((e6.trans e7).trans e8) _ _ h5
        exact ((hq2.mono (tm_ex e38)).append (rep_pr (p := (acc.2.1.length, 0)) h5')).mono tm9
      · -- return (queue, refused)
        rintro σ H3 ⟨v6, v7, v8, v, rfl, e3, h3, hq⟩
        have ee : (cs.take (cs.map vn).length).foldl entF (st.q, [], free s st) = entR s st cs := by rw [List.length_map, List.take_length]; rfl
        rw [ee] at h3 hq
        refine ⟨_, rfl, _, rfl, sz2, fun p H4 e4 h4 => ?_⟩
        exact k H4 p rf v (e3.trans e4) n1 h4 (e4 _ _ h3) (hq.mono (tm_ex e4))
end
end K46
/-! part W3 -/
set_option maxHeartbeats 600000
namespace K46
open PySem PySem.Spec PyProof.Rows L2 Evl
section
variable {P : Program} {w : World} {K : PySem.W.Frag} {mg : Str → Option Value} {base : Heap}
def spServed : Sp := fun vs H Q _ => ∃ (s : Setg) (d : Nat) (q : List (Nat × Nat)) (v1 v2 : V), vs = [v1, vn d, v2] ∧ Rp H s.da v1 ∧ Rp H (.tup (q.map prD)) v2 ∧
  ∀ H' p v, Ex H H' → H' p = some (.tup [vn (serR s d q).1, vn (serR s d q).2.1, v]) → Rp H' (.tup ((serR s d q).2.2.map prD)) v → Q (.ref p) H'
/-! served: 0 setting, 1 dead, 2 queue, 3 answered, 4 wasted -/
theorem sc_served : FnScope ["setting", "dead", "queue", "answered", "wasted"] ["setting", "dead", "queue"] (d_served.scope) := ⟨rfl, rfl, rfl, by decide +kernel, rfl, by decide +kernel, by decide +kernel⟩
theorem c_served (B : Bas w K mg) : Cal P w K mg base 1 "served" ["setting", "dead", "queue"] spServed := by
  refine B.cal "served" 16 16 (d := d_served) rfl rfl rfl rfl rfl sc_served (fun vs H Q E h => ?_) (fun _ _ _ _ _ _ us hl => match us, hl with | [_, _, _], _ => rfl) (fun f cdv A outer s₀ H vs Q E hr h => ?_)
  · obtain ⟨s, d, q, v1, v2, rfl, _⟩ := h
    rfl
  · obtain ⟨s, d, q, v1, v2, rfl, r1, r2, k⟩ := h
    obtain ⟨a, fv, rfl, S⟩ := rp_set r1
    obtain ⟨b, qs, rfl, hb, hq⟩ := r2
    have hql : qs.length = q.length := by rw [hq.length, List.length_map]
    refine ⟨_, (pss_cons (ps_if (pt_cmpR op_eq (pe_ixk (pv 0)) pe_str (nomark _))
      (pss_cons (ps_set (i := 3) sc_served.nd rfl (Or.inl rfl) (pe_callB (call_minN rfl) (by rfl) (B.free 78) boot_min (pa_cons (pe_ixk (pv 0)) (pa_cons (pe_callB call_lenB (by rfl) (B.free 74) boot_len (pa_cons (pv 2) pa_nil)) pa_nil))))
      (pss_one (ps_ret (pe_tupA (pa_cons (pv 3) (pa_cons (pe_callB (call_minN rfl) (by rfl) (B.free 78) boot_min (pa_cons (pe_op op_subN (pe_ixk (pv 0)) (pv 3)) (pa_cons (pv 1) pa_nil))) (pa_cons (pe_slice sl_tupB (pv 2) po_none (po_some (pe_op op_subN (pe_callB call_lenB (by rfl) (B.free 74) boot_len (pa_cons (pv 2) pa_nil)) (pv 3)))) pa_nil)))))))
      pss_nil)
    (pss_cons (ps_set (i := 4) sc_served.nd rfl (Or.inl rfl) (pe_callB (call_minN rfl) (by rfl) (B.free 78) boot_min (pa_cons (pe_ixk (pv 0)) (pa_cons (pv 1) pa_nil))))
    (pss_cons (ps_set (i := 3) sc_served.nd rfl (Or.inl rfl) (pe_callB (call_minN rfl) (by rfl) (B.free 78) boot_min (pa_cons (pe_op op_subN (pe_ixk (pv 0)) (pv 4)) (pa_cons (pe_callB call_lenB (by rfl) (B.free 74) boot_len (pa_cons (pv 2) pa_nil)) pa_nil))))
    (pss_one (ps_ret (pe_tupA (pa_cons (pv 3) (pa_cons (pv 4) (pa_cons (pe_slice sl_tupB (pv 2) (po_some (pv 3)) po_none) pa_nil))))))))), ?_⟩
    refine ⟨_, rfl, _, _, _, rfl, S.at_, rfl, rfl, _, rfl, ?_⟩
    unfold serR at k
    by_cases hw : s.newest = true
    · rw [if_pos hw] at k
      refine iT (by unfold Setg.wayS; rw [if_pos hw]; decide) ?_
      refine ⟨_, rfl, _, _, _, rfl, S.at_, rfl, _, rfl, _, _, rfl, Or.inr hb, _, _, rfl, ?_⟩
      rw [hql]
      refine ⟨_, rfl, _, rfl, _, _, _, rfl, S.at_, rfl, _, rfl, _, _, rfl, rfl, Nat.min_le_left _ _, ?_⟩
      refine ⟨_, rfl, _, _, rfl, ?_⟩
      refine ⟨_, rfl, _, rfl, _, _, rfl, Or.inr hb, _, rfl, _, _, rfl, rfl, by rw [hql]; exact Nat.min_le_right _ _, _, rfl, ?_⟩
      refine ⟨_, _, rfl, hb, fun p2 H2 e2 h2 => ?_⟩
      refine ⟨sz3, fun p3 H3 e3 h3 => ?_⟩
      rw [hql, cut_take _ _ (by rw [hql]; exact Nat.sub_le _ _)] at h2
      exact k H3 p3 (.ref p2) (e2.trans e3) h3 ⟨p2, _, rfl, e3 _ _ h2, by dsimp only; rw [List.map_take]; exact (hq.take _).mono (tm_ex (e2.trans e3))⟩
    · rw [if_neg hw] at k
      refine iF (by unfold Setg.wayS; rw [if_neg hw]; decide) ?_
      refine ⟨_, rfl, _, _, _, rfl, S.at_, rfl, _, rfl, _, _, rfl, ?_⟩
      refine ⟨_, rfl, _, _, _, rfl, S.at_, rfl, _, rfl, _, _, rfl, rfl, Nat.min_le_left _ _, _, rfl, _, _, rfl, Or.inr hb, _, _, rfl, ?_⟩
      rw [hql]
      refine ⟨_, rfl, _, rfl, _, rfl, _, rfl, _, rfl, ?_⟩
      refine ⟨_, _, rfl, hb, fun p2 H2 e2 h2 => ?_⟩
      refine ⟨sz3, fun p3 H3 e3 h3 => ?_⟩
      rw [cut_drop _ _ (by rw [hql]; exact Nat.min_le_right _ _)] at h2
      exact k H3 p3 (.ref p2) (e2.trans e3) h3 ⟨p2, _, rfl, e3 _ _ h2, by dsimp only; rw [List.map_drop]; exact (hq.drop _).mono (tm_ex (e2.trans e3))⟩
/-! most_tokens -/
def spMostTok : Sp := fun vs H Q _ => ∃ (s : Setg) (v1 : V), vs = [v1] ∧ Rp H s.da v1 ∧ Q (vn (mtok s)) H
/-! most_tokens: 0 setting -/
theorem sc_most_tokens : FnScope ["setting"] ["setting"] (d_most_tokens.scope) := ⟨rfl, rfl, rfl, by decide +kernel, rfl, by decide +kernel, by decide +kernel⟩
theorem c_most_tokens (B : Bas w K mg) : Cal P w K mg base 1 "most_tokens" ["setting"] spMostTok := by
  refine B.cal "most_tokens" 5 5 (d := d_most_tokens) rfl rfl rfl rfl rfl sc_most_tokens (fun vs H Q E h => ?_) (fun _ _ _ _ _ _ us hl => match us, hl with | [_], _ => rfl) (fun f cdv A outer s₀ H vs Q E hr h => ?_)
  · obtain ⟨s, v1, rfl, _⟩ := h
    rfl
  · obtain ⟨s, v1, rfl, r1, k⟩ := h
    obtain ⟨a, fv, rfl, S⟩ := rp_set r1
    refine ⟨_, (pss_one (ps_ret (pe_ifExp (pt_cmpR op_isN (pe_ixk (pv 0)) pe_non (nomark _)) pe_int (pe_ixk (pv 0))))), ?_⟩
    refine ⟨_, rfl, _, _, _, rfl, S.at_, rfl, rfl, _, rfl, ?_⟩
    unfold mtok at k
    cases ht : s.tok with
    | none =>
      rw [ht] at k
      refine iT (by rfl) ?_
      exact k
    | some n =>
      rw [ht] at k
      refine iF (by rfl) ?_
      exact ⟨_, rfl, _, _, _, rfl, S.at_, by rw [ht]; rfl, k⟩
/-! most_rest -/
def spMostRest : Sp := fun vs H Q _ => ∃ (s : Setg) (v1 : V), vs = [v1] ∧ Rp H s.da v1 ∧ Q (vn (match s.fuse with | none => 0 | some p => p.2)) H
/-! most_rest: 0 setting -/
theorem sc_most_rest : FnScope ["setting"] ["setting"] (d_most_rest.scope) := ⟨rfl, rfl, rfl, by decide +kernel, rfl, by decide +kernel, by decide +kernel⟩
theorem c_most_rest (B : Bas w K mg) : Cal P w K mg base 1 "most_rest" ["setting"] spMostRest := by
  refine B.cal "most_rest" 6 6 (d := d_most_rest) rfl rfl rfl rfl rfl sc_most_rest (fun vs H Q E h => ?_) (fun _ _ _ _ _ _ us hl => match us, hl with | [_], _ => rfl) (fun f cdv A outer s₀ H vs Q E hr h => ?_)
  · obtain ⟨s, v1, rfl, _⟩ := h
    rfl
  · obtain ⟨s, v1, rfl, r1, k⟩ := h
    obtain ⟨a, fv, rfl, S⟩ := rp_set r1
    refine ⟨_, (pss_one (ps_ret (pe_ifExp (pt_cmpR op_isN (pe_ixk (pv 0)) pe_non (nomark _)) pe_int (pe_ixk (pe_ixk (pv 0)))))), ?_⟩
    refine ⟨_, rfl, _, _, _, rfl, S.at_, rfl, rfl, _, rfl, ?_⟩
    have hf := S.fu
    cases ht : s.fuse with
    | none =>
      rw [ht] at k hf
      refine iT (by rw [show fv = .non from hf]; rfl) ?_
      exact k
    | some p =>
      rw [ht] at k hf
      obtain ⟨b, rfl, hb⟩ := hf
      refine iF (by rfl) ?_
      exact ⟨_, rfl, _, _, _, rfl, S.at_, rfl, _, _, _, rfl, hb, rfl, k⟩
/-! shut_then -/
def spShut : Sp := fun vs H Q _ => ∃ (s : Setg) (door failed : Nat) (v1 : V), vs = [v1, vn door, vn failed] ∧ Rp H s.da v1 ∧ Q (vn (shuR s door failed)) H
/-! shut_then: 0 setting, 1 door, 2 failed -/
theorem sc_shut_then : FnScope ["setting", "door", "failed"] ["setting", "door", "failed"] (d_shut_then.scope) := ⟨rfl, rfl, rfl, by decide +kernel, rfl, by decide +kernel, by decide +kernel⟩
theorem c_shut_then (B : Bas w K mg) : Cal P w K mg base 1 "shut_then" ["setting", "door", "failed"] spShut := by
  refine B.cal "shut_then" 18 18 (d := d_shut_then) rfl rfl rfl rfl rfl sc_shut_then (fun vs H Q E h => ?_) (fun _ _ _ _ _ _ us hl => match us, hl with | [_, _, _], _ => rfl) (fun f cdv A outer s₀ H vs Q E hr h => ?_)
  · obtain ⟨s, dr, fl, v1, rfl, _⟩ := h
    rfl
  · obtain ⟨s, dr, fl, v1, rfl, r1, k⟩ := h
    obtain ⟨a, fv, rfl, S⟩ := rp_set r1
    refine ⟨_, (pss_cons (ps_if (pt_cmpR op_gtN (pv 1) pe_int (nomark _))
      (pss_one (ps_ret (pe_op op_subN (pv 1) pe_int)))
      pss_nil)
    (pss_cons (ps_if (PW.pt (pw_or (pt_cmpR op_isN (pe_ixk (pv 0)) pe_non (nomark _)) (pw_or1 (pt_cmpR op_ltN (pv 2) (pe_ixk (pe_ixk (pv 0))) (nomark _)))))
      (pss_one (ps_ret pe_int))
      pss_nil)
    (pss_one (ps_ret (pe_ixk (pe_ixk (pv 0))))))), ?_⟩
    refine ⟨_, rfl, _, 0, rfl, rfl, _, rfl, ?_⟩
    unfold shuR at k
    by_cases hd : 0 < dr
    · rw [if_pos hd] at k
      refine iT (decide_eq_true hd) ?_
      exact ⟨_, rfl, _, 1, rfl, rfl, hd, k⟩
    · rw [if_neg hd] at k
      refine iF (decide_eq_false hd) ?_
      refine ⟨_, rfl, _, _, _, rfl, S.at_, rfl, rfl, _, rfl, ?_⟩
      have hf := S.fu
      cases ht : s.fuse with
      | none =>
        rw [ht] at k hf
        rw [show fv = .non from hf]
        exact k
      | some p =>
        rw [ht] at k hf
        obtain ⟨b, rfl, hb⟩ := hf
        refine ⟨_, rfl, _, rfl, _, _, _, rfl, S.at_, rfl, _, _, _, rfl, hb, rfl, _, _, rfl, rfl, _, rfl, ?_⟩
        by_cases hlt : fl < p.1
        · simp only [if_pos hlt] at k
          refine iT (decide_eq_true hlt) ?_
          exact k
        · simp only [if_neg hlt] at k
          refine iF (decide_eq_false hlt) ?_
          exact ⟨_, rfl, _, _, _, rfl, S.at_, rfl, _, _, _, rfl, hb, rfl, k⟩
end
end K46
/-! part W4 -/
set_option maxHeartbeats 600000
namespace K46
open PySem PySem.Spec PyProof.Rows L2 Evl
theorem RpL.mapAt {α : Type} {H : Hp} {f : α → Da} {l : List α} {xs : List V} {i : Nat} {x : V} (h : RpL H (l.map f) xs) (e : xs[i]? = some x) : ∃ m, l[i]? = some m ∧ Rp H (f m) x := by
  obtain ⟨d, h1, h2⟩ := h.get' e
  rw [List.getElem?_map] at h1
  cases q : l[i]? with
  | none => rw [q] at h1; cases h1
  | some m => rw [q] at h1; cases h1; exact ⟨m, rfl, h2⟩
theorem rp_pr {H : Hp} {p : Nat × Nat} {v : V} (h : Rp H (prD p) v) : ∃ a, v = .ref a ∧ H a = some (.tup [vn p.1, vn p.2]) := by
  obtain ⟨a, xs, e, h1, h2⟩ := h
  obtain ⟨x, r, rfl, e1, x2, r2, rfl, e2, e3⟩ := h2
  cases (show x = vn p.1 from e1)
  cases (show x2 = vn p.2 from e2)
  cases (show r2 = [] from e3)
  exact ⟨a, e, h1⟩
theorem rp_pr_of {H : Hp} {t : Addr} {p : Nat × Nat} (h : H t = some (.tup [vn p.1, vn p.2])) : Rp H (prD p) (.ref t) := ⟨t, _, rfl, h, _, _, rfl, rfl, _, _, rfl, rfl, rfl⟩
theorem take_snoc {α : Type} {l : List α} {i : Nat} {x : α} (h : l[i]? = some x) : l.take (i + 1) = l.take i ++ [x] := by
  rw [List.take_add_one, h]; rfl
theorem agS_len (s : Setg) (q : List (Nat × Nat)) : (agS s q).length ≤ q.length := by
  unfold agS; rw [List.length_map]; exact List.length_filter_le _ _
theorem agG_len (s : Setg) (q : List (Nat × Nat)) : (agG s q).length ≤ q.length := by
  unfold agG; rw [List.length_map]; exact List.length_filter_le _ _
theorem agS_snoc (s : Setg) (q : List (Nat × Nat)) (p : Nat × Nat) : agS s (q ++ [p]) = agS s q ++ if p.2 + 1 < s.pat then [(p.1, p.2 + 1)] else [] := by
  unfold agS
  rw [List.filter_append, List.map_append]
  by_cases h : p.2 + 1 < s.pat
  · rw [if_pos h]; simp [h]
  · rw [if_neg h]; simp [h]
theorem agG_snoc (s : Setg) (q : List (Nat × Nat)) (p : Nat × Nat) : agG s (q ++ [p]) = agG s q ++ if s.pat ≤ p.2 + 1 then [p.1] else [] := by
  unfold agG
  rw [List.filter_append, List.map_append]
  by_cases h : s.pat ≤ p.2 + 1
  · rw [if_pos h]; simp [h]
  · rw [if_neg h]; simp [h]
section
variable {P : Program} {w : World} {K : PySem.W.Frag} {mg : Str → Option Value} {base : Heap}
def spAged : Sp := fun vs H Q _ => ∃ (s : Setg) (q : List (Nat × Nat)) (v1 v2 : V), vs = [v1, v2] ∧ Rp H s.da v1 ∧ Rp H (.tup (q.map prD)) v2 ∧ q.length ≤ 1000 ∧
  ∀ H' p v g, Ex H H' → H' p = some (.tup [v, .ref g]) → Rp H' (.tup ((agS s q).map prD)) v → H' g = some (.lst ((agG s q).map vn)) → Q (.ref p) H'
/-! aged: 0 setting, 1 queue, 2 stay, 3 left, 4 age -/
theorem sc_aged : FnScope ["setting", "queue", "stay", "left", "age"] ["setting", "queue"] (d_aged.scope) := ⟨rfl, rfl, rfl, by decide +kernel, rfl, by decide +kernel, by decide +kernel⟩
theorem c_aged (B : Bas w K mg) : Cal P w K mg base 1 "aged" ["setting", "queue"] spAged := by
  refine B.cal "aged" 17 17 (d := d_aged) rfl rfl rfl rfl rfl sc_aged (fun vs H Q E h => ?_) (fun _ _ _ _ _ _ us hl => match us, hl with | [_, _], _ => rfl) (fun f cdv A outer s₀ H vs Q E hr h => ?_)
  · obtain ⟨s, q, v1, v2, rfl, _⟩ := h
    rfl
  · obtain ⟨s, q, v1, v2, rfl, r1, r2, hz, k⟩ := h
    obtain ⟨a, fv, rfl, S⟩ := rp_set r1
    obtain ⟨b, qs, rfl, hb, hq⟩ := r2
    have hql : qs.length = q.length := by rw [hq.length, List.length_map]
    refine ⟨_, (pss_cons (ps_setLc (i := 2) (own := [("left", 3), ("age", 4)]) (g := gTup K 2 (gCons (gName 3) (gCons (gName 4) gNil))) (by rfl) sc_aged.nd rfl rfl (sw_true rfl rfl rfl (by decide +kernel)) (pi_tup (pv 1)) (blkOk_by (own := [("left", 3), ("age", 4)]) (N := ["setting", "queue", "stay", "left", "age"]) (sc := d_aged.scope) (by decide +kernel)) (fun _ _ _ _ _ => (pg_tup rfl (pgs_cons (pg_name (i := 3) sc_aged.nd rfl (Or.inl rfl)) (pgs_cons (pg_name (i := 4) sc_aged.nd rfl (Or.inl rfl)) pgs_nil)))) (fun _ _ _ _ _ => pts_one (pt_cmpR op_ltN (pe_op op_addN (pv 4) pe_int) (pe_ixk (pv 0)) (nomark _))) (fun _ _ _ _ _ => (pe_tupA (pa_cons (pv 3) (pa_cons (pe_op op_addN (pv 4) pe_int) pa_nil)))))
    (pss_one (ps_ret (pe_tupA (pa_cons (pe_callTy call_tupOf (by rfl) (B.free 73) boot_tuple (pa_cons (pv 2) pa_nil)) (pa_cons (pe_lc (own := [("left", 3), ("age", 4)]) (g := gTup K 2 (gCons (gName 3) (gCons (gName 4) gNil))) (by rfl) sc_aged.nd (pi_tup (pv 1)) (blkOk_by (own := [("left", 3), ("age", 4)]) (N := ["setting", "queue", "stay", "left", "age"]) (sc := d_aged.scope) (by decide +kernel)) (fun _ _ _ _ _ => (pg_tup rfl (pgs_cons (pg_name (i := 3) sc_aged.nd rfl (Or.inl rfl)) (pgs_cons (pg_name (i := 4) sc_aged.nd rfl (Or.inl rfl)) pgs_nil)))) (fun _ _ _ _ _ => pts_one (pt_cmpR op_geN (pe_op op_addN (pv 4) pe_int) (pe_ixk (pv 0)) (nomark _))) (fun _ _ _ _ _ => (pv 3))) pa_nil)))))), ?_⟩
    refine ⟨_, rfl, _, rfl, ⟨_, SqT.of hb⟩, fun p1 n1 => lcTD (fun i => (agS s (q.take i)).map prD) hb (by simp [agS]) (fun i _ => by have := agS_len s (q.take i); rw [List.length_map, sizeLine_eq]; simp at this; omega) (fun i x H2 hx e2 R N hR hN => ?_) n1 (fun H1 ys e1 h1 d1 => ?_)⟩
    · obtain ⟨p, hp, hv⟩ := hq.mapAt hx
      obtain ⟨t, rfl, ht⟩ := rp_pr hv
      dsimp only at hR hN
      rw [take_snoc hp, agS_snoc] at hR hN
      refine ⟨_, _, rfl, SqT.of (e2 _ _ ht), rfl, _, _, rfl, _, _, rfl, rfl, rfl, ?_⟩
      refine ⟨_, rfl, _, 1, rfl, rfl, _, rfl, _, _, _, rfl, e2 _ _ S.at_, rfl, _, _, rfl, rfl, _, rfl, ?_⟩
      by_cases hlt : p.2 + 1 < s.pat
      · rw [if_pos hlt] at hR
        refine iT (decide_eq_true hlt) ?_
        refine ⟨_, rfl, _, rfl, _, 1, rfl, rfl, sz2, fun p5 H5 e5 h5 => hR _ _ _ e5 (rp_pr_of (p := (p.1, p.2 + 1)) h5) (by rw [List.map_append]; rfl)⟩
      · rw [if_neg hlt] at hN
        refine iF (decide_eq_false hlt) ?_
        exact hN _ (Ex.refl _) (by rw [List.append_nil])
    · rw [show q.take qs.length = q by rw [hql, List.take_length]] at d1
      refine ⟨_, rfl, _, _, rfl, h1, fun p2 H2 e2 h2 => ?_⟩
      have e02 := e1.trans e2
      refine ⟨_, rfl, _, rfl, ⟨_, SqT.of (e02 _ _ hb)⟩, fun p3 n3 => lcT (fun i => (agG s (q.take i)).map vn) (e02 _ _ hb) (by simp [agG]) (fun i _ => by have := agG_len s (q.take i); rw [List.length_map, sizeLine_eq]; simp at this; omega) (fun i x H3 hx e3 R N hR hN => ?_) n3 (fun H3 e3 h3 => ?_)⟩
      · obtain ⟨p, hp, hv⟩ := hq.mapAt hx
        obtain ⟨t, rfl, ht⟩ := rp_pr hv
        dsimp only at hR hN
        rw [take_snoc hp, agG_snoc] at hR hN
        have e := e02.trans e3
        refine ⟨_, _, rfl, SqT.of (e _ _ ht), rfl, _, _, rfl, _, _, rfl, rfl, rfl, ?_⟩
        refine ⟨_, rfl, _, 1, rfl, rfl, _, rfl, _, _, _, rfl, e _ _ S.at_, rfl, _, _, rfl, rfl, _, rfl, ?_⟩
        by_cases hlt : s.pat ≤ p.2 + 1
        · rw [if_pos hlt] at hR
          refine iT (decide_eq_true hlt) ?_
          exact ⟨_, rfl, hR _ _ (Ex.refl _) (by rw [List.map_append]; rfl)⟩
        · rw [if_neg hlt] at hN
          refine iF (decide_eq_false hlt) ?_
          exact hN _ (Ex.refl _) (by rw [List.append_nil])
      · rw [show q.take qs.length = q by rw [hql, List.take_length]] at h3
        refine ⟨sz2, fun p4 H4 e4 h4 => ?_⟩
        exact k H4 p4 (.ref p2) p3 (e02.trans (e3.trans e4)) h4 ⟨p2, _, rfl, (e3.trans e4) _ _ h2, d1.mono (tm_ex (e2.trans (e3.trans e4)))⟩ (e4 _ _ h3)
end
end K46
/-! part W5 -/
set_option maxHeartbeats 600000
namespace K46
open PySem PySem.Spec PyProof.Rows L2 Evl
theorem faiR_len (g : List Nat) : ∀ (l : List Nat) (j : Nat), (faiR g j l).length = l.length
  | [], _ => rfl
  | m :: r, j => by simp [faiR, faiR_len g r]
theorem faiR_snoc (g : List Nat) (m : Nat) : ∀ (l : List Nat) (j : Nat), faiR g j (l ++ [m]) = faiR g j l ++ [m + g.count (j + l.length)]
  | [], j => rfl
  | x :: r, j => by
    rw [List.cons_append, faiR, faiR_snoc g m r, faiR, List.length_cons, show j + 1 + r.length = j + (r.length + 1) by omega]; rfl
def Told.da (t : Told) : Da := .tup [dn t.came, dn t.ans, dn t.was, dn t.ref, dn t.gav, dn t.los, t.st.da]
theorem comR_len (s : Setg) (st : Sta) : (comR s st).1.length = st.l.length := by
  unfold comR; rw [comF_len]; simp
theorem entR_len (s : Setg) (st : Sta) (cs : List Nat) : (entR s st cs).2.1.length = cs.length := by
  unfold entR; rw [entF_len]; simp
theorem entR_room (s : Setg) (st : Sta) (cs : List Nat) : (entR s st cs).1.length ≤ st.q.length + free s st := by
  have := entF_room cs (st.q, [], free s st)
  unfold entR
  simp only at this
  omega
theorem free_le (s : Setg) (st : Sta) : free s st ≤ s.room := by
  unfold free; split <;> omega
theorem serR_was (s : Setg) (d : Nat) (q : List (Nat × Nat)) : (serR s d q).2.1 ≤ d := by
  unfold serR; split
  · exact Nat.min_le_right _ _
  · exact Nat.min_le_right _ _
theorem serR_len (s : Setg) (d : Nat) (q : List (Nat × Nat)) : (serR s d q).2.2.length ≤ q.length := by
  unfold serR; split
  · simp
  · simp
section
variable {P : Program} {w : World} {K : PySem.W.Frag} {mg : Str → Option Value} {base : Heap}
def spStep : Sp := fun vs H Q _ => ∃ (s : Setg) (st : Sta) (f : Nat) (v1 v2 : V), vs = [v1, v2, vn f] ∧ Rp H s.da v1 ∧ Rp H st.da v2 ∧ st.d + st.q.length ≤ s.room ∧ s.room ≤ 100 ∧ st.l.length ≤ 50 ∧
  ∀ H' v, Ex H H' → Rp H' (stp s st f).da v → Q v H'
/-! step: 0 setting, 1 state, 2 fresh, 3 counts, 4 tokens, 5 lost, 6 queue, 7 refused, 8 answered, 9 wasted, 10 gave_up, 11 failed, 12 dead, 13 later, 14 then, 15 left, 16 many -/
theorem sc_step : FnScope ["setting", "state", "fresh", "counts", "tokens", "lost", "queue", "refused", "answered", "wasted", "gave_up", "failed", "dead", "later", "then", "left", "many"] ["setting", "state", "fresh"] (d_step.scope) := ⟨rfl, rfl, rfl, by decide +kernel, rfl, by decide +kernel, by decide +kernel⟩
theorem c_step (B : Bas w K mg) : Cal P w K mg base 3 "step" ["setting", "state", "fresh"] spStep := by
  have C_coming := c_coming (P := P) (base := base) B
  have C_entered := c_entered (P := P) (base := base) B
  have C_served := c_served (P := P) (base := base) B
  have C_aged := c_aged (P := P) (base := base) B
  have C_most_tokens := c_most_tokens (P := P) (base := base) B
  have C_shut_then := c_shut_then (P := P) (base := base) B
  refine B.cal "step" 19 19 (d := d_step) rfl rfl rfl rfl rfl sc_step (fun vs H Q E h => ?_) (fun _ _ _ _ _ _ us hl => match us, hl with | [_, _, _], _ => rfl) (fun f cdv A outer s₀ H vs Q E hr h => ?_)
  · obtain ⟨s, st, f, v1, v2, rfl, _⟩ := h
    rfl
  · obtain ⟨s, st, fr, v1, v2, rfl, r1, r2, hroom, hr100, hl50, k⟩ := h
    have r1' := r1
    have r2' := r2
    obtain ⟨a, fv, rfl, S⟩ := rp_set r1
    obtain ⟨b, b1, b2, b3, qs, rfl, T⟩ := rp_sta r2
    refine ⟨_, (pss_cons (ps_asg (pe_cal C_coming hr (by first | decide | omega) (by rfl) (pa_cons (pv 0) (pa_cons (pv 1) (pa_cons (pv 2) pa_nil)))) (pg_tup rfl (pgs_cons (pg_name (i := 3) sc_step.nd rfl (Or.inl rfl)) (pgs_cons (pg_name (i := 4) sc_step.nd rfl (Or.inl rfl)) (pgs_cons (pg_name (i := 5) sc_step.nd rfl (Or.inl rfl)) pgs_nil)))))
    (pss_cons (ps_asg (pe_cal C_entered hr (by first | decide | omega) (by rfl) (pa_cons (pv 0) (pa_cons (pv 1) (pa_cons (pv 3) pa_nil)))) (pg_tup rfl (pgs_cons (pg_name (i := 6) sc_step.nd rfl (Or.inl rfl)) (pgs_cons (pg_name (i := 7) sc_step.nd rfl (Or.inl rfl)) pgs_nil))))
    (pss_cons (ps_asg (pe_cal C_served hr (by first | decide | omega) (by rfl) (pa_cons (pv 0) (pa_cons (pe_ixk (pv 1)) (pa_cons (pv 6) pa_nil)))) (pg_tup rfl (pgs_cons (pg_name (i := 8) sc_step.nd rfl (Or.inl rfl)) (pgs_cons (pg_name (i := 9) sc_step.nd rfl (Or.inl rfl)) (pgs_cons (pg_name (i := 6) sc_step.nd rfl (Or.inl rfl)) pgs_nil)))))
    (pss_cons (ps_asg (pe_cal C_aged hr (by first | decide | omega) (by rfl) (pa_cons (pv 0) (pa_cons (pv 6) pa_nil))) (pg_tup rfl (pgs_cons (pg_name (i := 6) sc_step.nd rfl (Or.inl rfl)) (pgs_cons (pg_name (i := 10) sc_step.nd rfl (Or.inr rfl)) pgs_nil))))
    (pss_cons (ps_setLc (i := 11) (own := [("left", 15), ("many", 16)]) (g := gTup K 2 (gCons (gName 15) (gCons (gName 16) gNil))) (te := tOp rAN (tVar 16) (tBM K "list" rCntN (tVar 10) (tCons (tVar 15) tNil))) (by rfl) sc_step.nd rfl rfl (sw_true rfl rfl rfl (by decide +kernel)) (pi_enum (by rfl) (B.free 80) (pa_cons (pv 7) pa_nil)) (blkOk_by (own := [("left", 15), ("many", 16)]) (N := ["setting", "state", "fresh", "counts", "tokens", "lost", "queue", "refused", "answered", "wasted", "gave_up", "failed", "dead", "later", "then", "left", "many"]) (sc := d_step.scope) (by decide +kernel)) (fun _ _ _ _ _ => (pg_tup rfl (pgs_cons (pg_name (i := 15) sc_step.nd rfl (Or.inl rfl)) (pgs_cons (pg_name (i := 16) sc_step.nd rfl (Or.inl rfl)) pgs_nil)))) (fun _ _ _ _ _ => pts_nil) (fun _ _ _ _ _ => (pe_op op_addN (pv 16) (pe_bm PySem.F.plainAttrs_list PySem.F.slot_list_count PySem.F.type_list_count mt_cntN (pv 10) (pa_cons (pv 15) pa_nil)))))
    (pss_cons (ps_set (i := 12) sc_step.nd rfl (Or.inl rfl) (pe_op op_addN (pe_op op_subN (pe_ixk (pv 1)) (pv 9)) (pe_ifExp (pt_val (pe_ixk (pv 0))) (pe_callB call_lenB (by rfl) (B.free 74) boot_len (pa_cons (pv 10) pa_nil)) pe_int)))
    (pss_cons (ps_set (i := 4) sc_step.nd rfl (Or.inl rfl) (pe_callB (call_minN rfl) (by rfl) (B.free 78) boot_min (pa_cons (pe_cal C_most_tokens hr (by first | decide | omega) (by rfl) (pa_cons (pv 0) pa_nil)) (pa_cons (pe_op op_addN (pv 4) (pv 8)) pa_nil))))
    (pss_cons (ps_set (i := 13) sc_step.nd rfl (Or.inl rfl) (pe_op op_catB (pe_slice sl_tupB (pe_ixk (pv 1)) (po_some pe_int) po_none) (pe_tupA (pa_cons (pe_callTy call_tupOf (by rfl) (B.free 73) boot_tuple (pa_cons (pe_slice sl_listB (pv 11) (po_some pe_int) po_none) pa_nil)) pa_nil))))
    (pss_cons (ps_set (i := 14) sc_step.nd rfl (Or.inl rfl) (pe_tupA (pa_cons (pv 12) (pa_cons (pv 6) (pa_cons (pv 13) (pa_cons (pv 4) (pa_cons (pe_cal C_shut_then hr (by first | decide | omega) (by rfl) (pa_cons (pv 0) (pa_cons (pe_ixk (pv 1)) (pa_cons (pe_callB (cr_sumN rfl) (by rfl) (B.free 82) boot_sum (pa_cons (pv 11) pa_nil)) pa_nil)))) pa_nil)))))))
    (pss_one (ps_ret (pe_tupA (pa_cons (pe_callB (cr_sumN rfl) (by rfl) (B.free 82) boot_sum (pa_cons (pv 3) pa_nil)) (pa_cons (pv 8) (pa_cons (pv 9) (pa_cons (pe_callB (cr_sumN rfl) (by rfl) (B.free 82) boot_sum (pa_cons (pv 7) pa_nil)) (pa_cons (pe_callB call_lenB (by rfl) (B.free 74) boot_len (pa_cons (pv 10) pa_nil)) (pa_cons (pe_op op_addN (pv 5) (pe_ixkL (pv 11))) (pa_cons (pv 14) pa_nil))))))))))))))))))), ?_⟩
    -- counts, tokens, lost = coming(..)
    refine ⟨_, rfl, _, rfl, _, rfl, s, st, fr, _, _, rfl, r1', r2', by omega, fun H1 p1 c e1 n1 h1 hc => ?_⟩
    refine ⟨_, _, rfl, SqT.of h1, rfl, _, _, rfl, _, _, rfl, _, _, rfl, rfl, ?_⟩
    -- queue, refused = entered(..)
    refine ⟨_, rfl, _, rfl, _, rfl, s, st, _, _, _, _, rfl, r1'.mono (tm_ex e1), r2'.mono (tm_ex e1), hc, hroom, hr100, by rw [List.length_append, comR_len]; simp; omega, fun H2 p2 rf v6 e2 n2 h2 hrf hv6 => ?_⟩
    refine ⟨_, _, rfl, SqT.of h2, rfl, _, _, rfl, _, _, rfl, rfl, ?_⟩
    have e02 := e1.trans e2
    generalize hcm : comR s st = cm at *
    have hcl : (cm.1 ++ [fr]).length ≤ 51 := by rw [← hcm, List.length_append, comR_len]; simp; omega
    have hel := entR_len s st (cm.1 ++ [fr])
    have her := entR_room s st (cm.1 ++ [fr])
    have hfl := free_le s st
    generalize hen : entR s st (cm.1 ++ [fr]) = en at *
    -- answered, wasted, queue = served(..)
    refine ⟨_, rfl, _, rfl, _, _, _, rfl, e02 _ _ T.at_, rfl, _, rfl, s, st.d, en.1, _, _, rfl, r1'.mono (tm_ex e02), hv6, fun H3 p3 vq e3 h3 hvq => ?_⟩
    refine ⟨_, _, rfl, SqT.of h3, rfl, _, _, rfl, _, _, rfl, _, _, rfl, rfl, ?_⟩
    have e03 := e02.trans e3
    have hsw := serR_was s st.d en.1
    have hsl := serR_len s st.d en.1
    generalize hse : serR s st.d en.1 = se at *
    -- queue, gave_up = aged(..)
    refine ⟨_, rfl, _, rfl, s, se.2.2, _, _, rfl, r1'.mono (tm_ex e03), hvq, by omega, fun H4 p4 vs4 g e4 h4 hvs hg => ?_⟩
    refine ⟨_, _, rfl, SqT.of h4, rfl, _, _, rfl, _, _, rfl, rfl, ?_⟩
    have e04 := e03.trans e4
    have e24 := e3.trans e4
    have hagl := agG_len s se.2.2
    generalize hag : agG s se.2.2 = ag at *
    -- failed
    dsimp only
    refine setσ (σ' := [some (.ref a), some (.ref b), some (vn fr), some (.ref c), some (vn cm.2.1), some (vn cm.2.2), some vs4, some (.ref rf), some (vn se.1), some (vn se.2.1), some (.ref g), none, none, none, none, none, none]) rfl ?_
    refine ⟨_, rfl, _, _, rfl, SqL.of (e24 _ _ hrf), fun pf nf => lcE (fun i => (faiR ag 0 (en.2.1.take i)).map vn) (e24 _ _ hrf) (by simp [faiR]) (fun i _ => by rw [List.length_map, faiR_len, List.length_take, sizeLine_eq]; omega) (fun i x T5 H5 hx e5 hT5 R N hR hN => ?_) nf (fun H5 e5 h5 => ?_)⟩
    · obtain ⟨m, hm, rfl⟩ := map_at hx
      have hil : i < en.2.1.length := (List.getElem?_eq_some_iff.mp hm).1
      dsimp only at hR
      rw [take_snoc hm, faiR_snoc, List.map_append, List.length_take, Nat.min_eq_left (Nat.le_of_lt hil), Nat.zero_add] at hR
      refine ⟨_, _, rfl, SqT.of hT5, rfl, _, _, rfl, _, _, rfl, rfl, rfl, yesT ?_⟩
      refine ⟨_, rfl, _, rfl, Or.inl ⟨rfl, _, SqL.of (e5 _ _ hg)⟩, _, rfl, _, _, i, rfl, rfl, e5 _ _ hg, _, _, rfl, rfl, ?_⟩
      exact hR _ _ (Ex.refl _) rfl
    · rw [List.length_map, List.take_length] at h5
      have hfl' := faiR_len ag en.2.1 0
      generalize hfa : faiR ag 0 en.2.1 = fa at *
      have e05 := e04.trans e5
      -- dead
      refine ⟨_, rfl, _, _, _, rfl, e05 _ _ T.at_, rfl, _, rfl, _, _, rfl, rfl, hsw, ?_⟩
      refine ⟨_, rfl, _, _, _, rfl, e05 _ _ S.at_, rfl, _, rfl, ?_⟩
      refine joinIf (vn (if s.dead = true then ag.length else 0)) (fun hd Q' k' => ?_) (fun hd Q' k' => ?_) ?_
      · rw [if_pos hd] at k'
        refine ⟨_, rfl, _, _, rfl, Or.inl (e5 _ _ hg), ?_⟩
        rw [List.length_map]
        exact k'
      · rw [if_neg (by rw [hd]; exact Bool.false_ne_true)] at k'
        exact k'
      refine ⟨_, _, rfl, rfl, ?_⟩
      -- tokens
      refine ⟨_, rfl, s, _, rfl, r1'.mono (tm_ex e05), ?_⟩
      refine ⟨_, rfl, _, rfl, _, _, rfl, rfl, _, _, rfl, ?_⟩
      -- later
      refine ⟨_, rfl, _, _, _, rfl, e05 _ _ T.at_, rfl, _, rfl, _, _, rfl, e05 _ _ T.l, fun p6 H6 e6 h6 => ?_⟩
      rw [show cutV [V.ref b3] (some 1) none = [] from cut_tail _] at h6
      refine ⟨_, rfl, _, rfl, _, _, rfl, e6 _ _ h5, fun p7 H7 n7 e7 h7 => ?_⟩
      rw [cut_tail, ← List.map_tail] at h7
      refine ⟨_, _, rfl, h7, fun p8 H8 e8 h8 => ?_⟩
      refine ⟨sz1, fun p9 H9 e9 h9 => ?_⟩
      have e69 := (e7.trans e8).trans e9
      refine ⟨_, _, _, _, rfl, rfl, e69 _ _ h6, h9, sz1, fun p10 H10 e10 h10 => ?_⟩
      rw [List.nil_append] at h10
      have e010 := ((e05.trans e6).trans e69).trans e10
      have e510 := (e6.trans e69).trans e10
      -- then
      refine ⟨_, rfl, _, rfl, _, rfl, _, rfl, _, rfl, _, rfl, _, _, _, rfl, e010 _ _ T.at_, rfl, _, rfl, _, _, rfl, e510 _ _ h5, ?_⟩
      refine ⟨s, st.o, fa.sum, _, rfl, r1'.mono (tm_ex e010), ?_⟩
      refine ⟨sz5, fun p11 H11 e11 h11 => ?_⟩
      have e511 := e510.trans e11
      have e211 := (e24.trans e5).trans e511
      have e111 := e2.trans e211
      -- return
      refine ⟨_, rfl, _, _, rfl, e111 _ _ hc, ?_⟩
      refine ⟨_, rfl, _, rfl, _, rfl, _, _, rfl, e211 _ _ hrf, ?_⟩
      refine ⟨_, rfl, _, _, rfl, Or.inl ((e5.trans e511) _ _ hg), ?_⟩
      have hne : fa.length ≠ 0 := by rw [hfl', hel]; simp
      obtain ⟨f0, fr', hfe⟩ : ∃ f0 fr', fa = f0 :: fr' := by
        cases fa with
        | nil => exact absurd rfl hne
        | cons a b => exact ⟨a, b, rfl⟩
      have h5' := e511 _ _ h5
      rw [hfe] at h5'
      refine ⟨_, rfl, _, rfl, _, _, _, rfl, h5', rfl, _, _, rfl, rfl, _, rfl, sz7, fun p12 H12 e12 h12 => ?_⟩
      have e012 := (e010.trans e11).trans e12
      refine k H12 _ e012 ?_
      have hst : (stp s st fr) = { came := (cm.1 ++ [fr]).sum, ans := se.1, was := se.2.1, ref := en.2.1.sum, gav := ag.length, los := cm.2.2 + f0, st := { d := st.d - se.2.1 + (if s.dead then ag.length else 0), q := agS s se.2.2, l := fa.tail, t := min (mtok s) (cm.2.1 + se.1), o := shuR s st.o fa.sum } } := by
        unfold stp
        simp only [hcm, hen, hse, hag, hfa]
        rw [hfe]; rfl
      rw [hst]
      rw [List.length_map] at h12
      refine ⟨p12, _, rfl, h12, _, _, rfl, rfl, _, _, rfl, rfl, _, _, rfl, rfl, _, _, rfl, rfl, _, _, rfl, rfl, _, _, rfl, rfl, _, _, rfl, ?_, rfl⟩
      refine ⟨p11, _, rfl, e12 _ _ h11, _, _, rfl, rfl, _, _, rfl, ?_, _, _, rfl, ?_, _, _, rfl, rfl, _, _, rfl, rfl, rfl⟩
      · exact hvs.mono (tm_ex ((e5.trans e511).trans e12))
      · refine ⟨p10, _, rfl, (e11.trans e12) _ _ h10, _, _, rfl, ?_, rfl⟩
        exact ⟨p8, _, rfl, ((e9.trans e10).trans (e11.trans e12)) _ _ h8, rpl_nats _⟩
end
end K46
/-! part W6 -/
set_option maxHeartbeats 600000
namespace K46
open PySem PySem.Spec PyProof.Rows L2 Evl
structure SetOk (s : Setg) : Prop where
  w1 : 1 ≤ s.work
  w3 : s.work ≤ 3
  r1 : 1 ≤ s.room
  r5 : s.room ≤ 5
  p1 : 1 ≤ s.pat
  p4 : s.pat ≤ 4
  t1 : 1 ≤ s.tries
  t3 : s.tries ≤ 3
  k4 : ∀ n, s.tok = some n → n ≤ 4
  f3 : ∀ p, s.fuse = some p → 1 ≤ p.1 ∧ p.1 ≤ 3 ∧ 1 ≤ p.2 ∧ p.2 ≤ 3
section
variable {P : Program} {w : World} {K : PySem.W.Frag} {mg : Str → Option Value} {base : Heap}
def spFuse : Sp := fun vs H Q _ => ∃ (fu : Option (Nat × Nat)) (v : V), vs = [v] ∧ FuA H fu v ∧ (∀ p, fu = some p → 1 ≤ p.1 ∧ p.1 ≤ 3 ∧ 1 ≤ p.2 ∧ p.2 ≤ 3) ∧ Q (.bl true) H
/-! is_fuse: 0 thing -/
theorem sc_is_fuse : FnScope ["thing"] ["thing"] (d_is_fuse.scope) := ⟨rfl, rfl, rfl, by decide +kernel, rfl, by decide +kernel, by decide +kernel⟩
theorem c_is_fuse (B : Bas w K mg) : Cal P w K mg base 2 "is_fuse" ["thing"] spFuse := by
  have C_is_whole := c_is_whole (P := P) (base := base) B
  refine B.cal "is_fuse" 2 2 (d := d_is_fuse) rfl rfl rfl rfl rfl sc_is_fuse (fun vs H Q E h => ?_) (fun _ _ _ _ _ _ us hl => match us, hl with | [_], _ => rfl) (fun f cdv A outer s₀ H vs Q E hr h => ?_)
  · obtain ⟨fu, v, rfl, _⟩ := h
    rfl
  · obtain ⟨fu, v, rfl, hf, hk, k⟩ := h
    refine ⟨_, (pss_cons (ps_if (pt_cmpR op_isN (pv 0) pe_non (nomark _))
      (pss_one (ps_ret pe_bl))
      pss_nil)
    (pss_cons (ps_if (PW.pt (pw_or (pt_not (pt_val (pe_callB call_isiTup (by rfl) (B.free 70) boot_isinstance (pa_cons (pv 0) (pa_cons (pe_bltn (v := .ty "tuple") (by rfl) (B.free 73) boot_tuple rfl) pa_nil))))) (pw_or1 (pt_cmpR op_neN (pe_callB call_lenB (by rfl) (B.free 74) boot_len (pa_cons (pv 0) pa_nil)) pe_int (nomark _)))))
      (pss_one (ps_ret pe_bl))
      pss_nil)
    (pss_one (ps_ret (pe_and (pe_cal C_is_whole hr (by first | decide | omega) (by rfl) (pa_cons (pe_ixk (pv 0)) (pa_cons pe_int (pa_cons (pe_glob (v := .int 3) (by rfl) (B.int 63).choose_spec ⟨_, rfl⟩) pa_nil)))) (pe_one (pe_cal C_is_whole hr (by first | decide | omega) (by rfl) (pa_cons (pe_ixk (pv 0)) (pa_cons pe_int (pa_cons (pe_glob (v := .int 3) (by rfl) (B.int 63).choose_spec ⟨_, rfl⟩) pa_nil)))))))))), ?_⟩
    refine ⟨_, rfl, rfl, _, rfl, ?_⟩
    cases fu with
    | none =>
      refine iT (by rw [show v = .non from hf]; rfl) ?_
      exact k
    | some p =>
      obtain ⟨b, rfl, hb⟩ := hf
      obtain ⟨a1, a2, a3, a4⟩ := hk p rfl
      refine iF (by rfl) ?_
      refine ⟨_, rfl, _, _, rfl, hb, _, rfl, ?_⟩
      refine ⟨_, rfl, _, _, rfl, Or.inr hb, _, 2, rfl, rfl, _, rfl, ?_⟩
      refine iF (by rfl) ?_
      refine ⟨_, rfl, _, _, _, rfl, hb, rfl, _, _, _, true, rfl, dtt (by omega), _, rfl, ?_⟩
      exact ⟨_, rfl, _, _, _, rfl, hb, rfl, _, _, _, true, rfl, dtt (by omega), k⟩
/-! is_count -/
def spCount : Sp := fun vs H Q _ => ∃ n : Nat, vs = [vn n] ∧ Q (.bl true) H
/-! is_count: 0 thing -/
theorem sc_is_count : FnScope ["thing"] ["thing"] (d_is_count.scope) := ⟨rfl, rfl, rfl, by decide +kernel, rfl, by decide +kernel, by decide +kernel⟩
theorem c_is_count (B : Bas w K mg) : Cal P w K mg base 1 "is_count" ["thing"] spCount := by
  refine B.cal "is_count" 1 1 (d := d_is_count) rfl rfl rfl rfl rfl sc_is_count (fun vs H Q E h => ?_) (fun _ _ _ _ _ _ us hl => match us, hl with | [_], _ => rfl) (fun f cdv A outer s₀ H vs Q E hr h => ?_)
  · obtain ⟨n, rfl, _⟩ := h
    rfl
  · obtain ⟨n, rfl, k⟩ := h
    refine ⟨_, (pss_one (ps_ret (pe_and (pe_callB call_isi (by rfl) (B.free 70) boot_isinstance (pa_cons (pv 0) (pa_cons (pe_bltn (v := .ty "int") (by rfl) (B.free 71) boot_int rfl) pa_nil))) (pe_and (pe_not (pe_callB call_isi (by rfl) (B.free 70) boot_isinstance (pa_cons (pv 0) (pa_cons (pe_bltn (v := .ty "bool") (by rfl) (B.free 72) boot_bool rfl) pa_nil)))) (pe_one (pe_cmpR op_geN (pv 0) pe_int (nomark _))))))), ?_⟩
    refine ⟨_, rfl, _, _, _, _, true, rfl, .ty "int", .base (.int n), kit_ty kit_ii, true, rfl, ?_⟩
    refine ⟨_, rfl, _, _, _, _, false, rfl, .ty "bool", .base (.int n), kit_ty kit_ib, false, rfl, true, rfl, ?_⟩
    refine ⟨_, rfl, _, 0, rfl, rfl, ?_⟩
    show Q (.bl (decide (0 ≤ n))) H
    rw [decide_eq_true (Nat.zero_le n)]
    exact k
/-! is_setting -/
def spSetting : Sp := fun vs H Q _ => ∃ (s : Setg) (v : V), vs = [v] ∧ Rp H s.da v ∧ SetOk s ∧ Q (.bl true) H
/-! is_setting: 0 thing, 1 work, 2 room, 3 patience, 4 tries, 5 wait, 6 way, 7 dead, 8 tokens, 9 fuse -/
theorem sc_is_setting : FnScope ["thing", "work", "room", "patience", "tries", "wait", "way", "dead", "tokens", "fuse"] ["thing"] (d_is_setting.scope) := ⟨rfl, rfl, rfl, by decide +kernel, rfl, by decide +kernel, by decide +kernel⟩
theorem c_is_setting (B : Bas w K mg) : Cal P w K mg base 3 "is_setting" ["thing"] spSetting := by
  have C_is_whole := c_is_whole (P := P) (base := base) B
  have C_is_fuse := c_is_fuse (P := P) (base := base) B
  refine B.cal "is_setting" 3 3 (d := d_is_setting) rfl rfl rfl rfl rfl sc_is_setting (fun vs H Q E h => ?_) (fun _ _ _ _ _ _ us hl => match us, hl with | [_], _ => rfl) (fun f cdv A outer s₀ H vs Q E hr h => ?_)
  · obtain ⟨s, v, rfl, _⟩ := h
    rfl
  · obtain ⟨s, v, rfl, r1, O, k⟩ := h
    obtain ⟨a, fv, rfl, S⟩ := rp_set r1
    obtain ⟨w1, w3, o1, o5, p1, p4, t1, t3, k4, f3⟩ := O
    refine ⟨_, (pss_cons (ps_if (PW.pt (pw_or (pt_not (pt_val (pe_callB call_isiTup (by rfl) (B.free 70) boot_isinstance (pa_cons (pv 0) (pa_cons (pe_bltn (v := .ty "tuple") (by rfl) (B.free 73) boot_tuple rfl) pa_nil))))) (pw_or1 (pt_cmpR op_neN (pe_callB call_lenB (by rfl) (B.free 74) boot_len (pa_cons (pv 0) pa_nil)) pe_int (nomark _)))))
      (pss_one (ps_ret pe_bl))
      pss_nil)
    (pss_cons (ps_asg (pv 0) (pg_tup rfl (pgs_cons (pg_name (i := 1) sc_is_setting.nd rfl (Or.inl rfl)) (pgs_cons (pg_name (i := 2) sc_is_setting.nd rfl (Or.inl rfl)) (pgs_cons (pg_name (i := 3) sc_is_setting.nd rfl (Or.inl rfl)) (pgs_cons (pg_name (i := 4) sc_is_setting.nd rfl (Or.inl rfl)) (pgs_cons (pg_name (i := 5) sc_is_setting.nd rfl (Or.inl rfl)) (pgs_cons (pg_name (i := 6) sc_is_setting.nd rfl (Or.inl rfl)) (pgs_cons (pg_name (i := 7) sc_is_setting.nd rfl (Or.inl rfl)) (pgs_cons (pg_name (i := 8) sc_is_setting.nd rfl (Or.inl rfl)) (pgs_cons (pg_name (i := 9) sc_is_setting.nd rfl (Or.inl rfl)) pgs_nil)))))))))))
    (pss_cons (ps_if (PW.pt (pw_or (pt_not (pt_val (pe_cal C_is_whole hr (by first | decide | omega) (by rfl) (pa_cons (pv 1) (pa_cons pe_int (pa_cons (pe_glob (v := .int 3) (by rfl) (B.int 57).choose_spec ⟨_, rfl⟩) pa_nil)))))) (pw_or1 (pt_not (pt_val (pe_cal C_is_whole hr (by first | decide | omega) (by rfl) (pa_cons (pv 2) (pa_cons pe_int (pa_cons (pe_glob (v := .int 5) (by rfl) (B.int 58).choose_spec ⟨_, rfl⟩) pa_nil)))))))))
      (pss_one (ps_ret pe_bl))
      pss_nil)
    (pss_cons (ps_if (PW.pt (pw_or (pt_not (pt_val (pe_cal C_is_whole hr (by first | decide | omega) (by rfl) (pa_cons (pv 3) (pa_cons pe_int (pa_cons (pe_glob (v := .int 4) (by rfl) (B.int 59).choose_spec ⟨_, rfl⟩) pa_nil)))))) (pw_or1 (pt_not (pt_val (pe_cal C_is_whole hr (by first | decide | omega) (by rfl) (pa_cons (pv 4) (pa_cons pe_int (pa_cons (pe_glob (v := .int 3) (by rfl) (B.int 60).choose_spec ⟨_, rfl⟩) pa_nil)))))))))
      (pss_one (ps_ret pe_bl))
      pss_nil)
    (pss_cons (ps_if (pt_not (pt_val (pe_cal C_is_whole hr (by first | decide | omega) (by rfl) (pa_cons (pv 5) (pa_cons pe_int (pa_cons (pe_glob (v := .int 3) (by rfl) (B.int 61).choose_spec ⟨_, rfl⟩) pa_nil))))))
      (pss_one (ps_ret pe_bl))
      pss_nil)
    (pss_cons (ps_if (PW.pt (pw_or (pt_not (pt_val (pe_callB call_isiStr (by rfl) (B.free 70) boot_isinstance (pa_cons (pv 6) (pa_cons (pe_bltn (v := .ty "str") (by rfl) (B.free 75) boot_str rfl) pa_nil))))) (pw_or (pt_cmpR op_notIn_seq (pv 6) (pe_glob (v := .ref (He.ga K "WAYS")) (by rfl) (B.glo 91) rfl) (by rfl)) (pw_or1 (pt_not (pt_val (pe_callB call_isiBool (by rfl) (B.free 70) boot_isinstance (pa_cons (pv 7) (pa_cons (pe_bltn (v := .ty "bool") (by rfl) (B.free 72) boot_bool rfl) pa_nil)))))))))
      (pss_one (ps_ret pe_bl))
      pss_nil)
    (pss_one (ps_ret (pe_and (pe_or (pe_cmpR op_isN (pv 8) pe_non (nomark _)) (pe_one (pe_cal C_is_whole hr (by first | decide | omega) (by rfl) (pa_cons (pv 8) (pa_cons pe_int (pa_cons (pe_glob (v := .int 4) (by rfl) (B.int 62).choose_spec ⟨_, rfl⟩) pa_nil)))))) (pe_one (pe_cal C_is_fuse hr (by first | decide | omega) (by rfl) (pa_cons (pv 9) pa_nil)))))))))))), ?_⟩
    refine ⟨_, rfl, _, _, rfl, S.at_, _, rfl, ?_⟩
    refine ⟨_, rfl, _, _, rfl, Or.inr S.at_, _, 9, rfl, rfl, _, rfl, ?_⟩
    refine iF (by rfl) ?_
    refine ⟨_, rfl, _, _, rfl, SqT.of S.at_, rfl, _, _, rfl, _, _, rfl, _, _, rfl, _, _, rfl, _, _, rfl, _, _, rfl, _, _, rfl, _, _, rfl, _, _, rfl, rfl, ?_⟩
    dsimp only
    refine setσ (σ' := [some (.ref a), some (vn s.work), some (vn s.room), some (vn s.pat), some (vn s.tries), some (.int 1), some (.str s.wayS), some (.bl s.dead), some (tokV s.tok), some fv]) rfl ?_
    refine ⟨_, rfl, _, _, _, true, rfl, dtt (by omega), _, rfl, ?_⟩
    refine ⟨_, rfl, _, _, _, true, rfl, dtt (by omega), _, rfl, ?_⟩
    refine iF (by rfl) ?_
    refine ⟨_, rfl, _, _, _, true, rfl, dtt (by omega), _, rfl, ?_⟩
    refine ⟨_, rfl, _, _, _, true, rfl, dtt (by omega), _, rfl, ?_⟩
    refine iF (by rfl) ?_
    refine ⟨_, rfl, _, _, _, true, rfl, dtt (by decide), _, rfl, ?_⟩
    refine iF (by rfl) ?_
    refine ⟨_, rfl, _, rfl, _, rfl, ?_⟩
    refine ⟨_, rfl, _, _, rfl, Or.inr (B.way H), rfl, rfl, _, rfl, ?_⟩
    have hw : (!inV (V.str s.wayS) [.str "oldest", .str "newest"]) = false := by
      unfold Setg.wayS; cases s.newest <;> decide
    simp only [if_pos]
    rw [hw]
    refine ⟨_, rfl, _, rfl, _, rfl, ?_⟩
    refine iF (by rfl) ?_
    cases ht : s.tok with
    | none =>
      refine ⟨_, rfl, rfl, true, rfl, ?_⟩
      refine ⟨true, rfl, ?_⟩
      exact ⟨_, rfl, s.fuse, fv, rfl, S.fu, f3, k⟩
    | some n =>
      have hn := k4 n ht
      refine ⟨_, rfl, rfl, false, rfl, ?_⟩
      refine ⟨_, rfl, _, _, _, true, rfl, dtt (by omega), true, rfl, ?_⟩
      exact ⟨_, rfl, s.fuse, fv, rfl, S.fu, f3, k⟩
/-! need_setting -/
def spNeedS : Sp := fun vs H Q _ => ∃ (s : Setg) (v : V), vs = [v] ∧ Rp H s.da v ∧ SetOk s ∧ Q .non H
/-! need_setting: 0 setting -/
theorem sc_need_setting : FnScope ["setting"] ["setting"] (d_need_setting.scope) := ⟨rfl, rfl, rfl, by decide +kernel, rfl, by decide +kernel, by decide +kernel⟩
theorem c_need_setting (B : Bas w K mg) : Cal P w K mg base 4 "need_setting" ["setting"] spNeedS := by
  have C_is_setting := c_is_setting (P := P) (base := base) B
  refine B.cal "need_setting" 4 4 (d := d_need_setting) rfl rfl rfl rfl rfl sc_need_setting (fun vs H Q E h => ?_) (fun _ _ _ _ _ _ us hl => match us, hl with | [_], _ => rfl) (fun f cdv A outer s₀ H vs Q E hr h => ?_)
  · obtain ⟨s, v, rfl, _⟩ := h
    rfl
  · obtain ⟨s, v, rfl, r1, O, k⟩ := h
    refine ⟨_, (pss_one (ps_if (pt_not (pt_val (pe_cal C_is_setting hr (by first | decide | omega) (by rfl) (pa_cons (pv 0) pa_nil))))
      (pss_one ps_never)
      pss_nil)), ?_⟩
    refine ⟨_, rfl, s, v, rfl, r1, O, _, rfl, ?_⟩
    refine iF (by rfl) ?_
    exact k
/-! first_of -/
def spFirst : Sp := fun vs H Q _ => ∃ (s : Setg) (v : V), vs = [v] ∧ Rp H s.da v ∧ SetOk s ∧ ∀ H' v', Ex H H' → Rp H' (fst0 s).da v' → Q v' H'
/-! first_of: 0 setting, 1 tries, 2 wait -/
theorem sc_first_of : FnScope ["setting", "tries", "wait"] ["setting"] (d_first_of.scope) := ⟨rfl, rfl, rfl, by decide +kernel, rfl, by decide +kernel, by decide +kernel⟩
theorem c_first_of (B : Bas w K mg) : Cal P w K mg base 2 "first_of" ["setting"] spFirst := by
  have C_most_tokens := c_most_tokens (P := P) (base := base) B
  refine B.cal "first_of" 7 7 (d := d_first_of) rfl rfl rfl rfl rfl sc_first_of (fun vs H Q E h => ?_) (fun _ _ _ _ _ _ us hl => match us, hl with | [_], _ => rfl) (fun f cdv A outer s₀ H vs Q E hr h => ?_)
  · obtain ⟨s, v, rfl, _⟩ := h
    rfl
  · obtain ⟨s, v, rfl, r1, O, k⟩ := h
    have r1' := r1
    obtain ⟨a, fv, rfl, S⟩ := rp_set r1
    have ot := O.t1
    have ot3 := O.t3
    refine ⟨_, (pss_cons (ps_asg (pe_slice sl_tupB (pv 0) (po_some pe_int) (po_some pe_int)) (pg_tup rfl (pgs_cons (pg_name (i := 1) sc_first_of.nd rfl (Or.inl rfl)) (pgs_cons (pg_name (i := 2) sc_first_of.nd rfl (Or.inl rfl)) pgs_nil))))
    (pss_one (ps_ret (pe_tupA (pa_cons pe_int (pa_cons (pe_tupA pa_nil) (pa_cons (pe_op op_repX (pe_tupA (pa_cons (pe_op op_repX (pe_tupA (pa_cons pe_int pa_nil)) (pe_op op_subN (pv 1) pe_int)) pa_nil)) (pv 2)) (pa_cons (pe_cal C_most_tokens hr (by first | decide | omega) (by rfl) (pa_cons (pv 0) pa_nil)) (pa_cons pe_int pa_nil))))))))), ?_⟩
    refine ⟨_, rfl, _, rfl, _, rfl, _, _, rfl, S.at_, fun p1 H1 e1 h1 => ?_⟩
    rw [cut35] at h1
    refine ⟨_, _, rfl, SqT.of h1, rfl, _, _, rfl, _, _, rfl, rfl, ?_⟩
    refine ⟨sz0, fun p2 H2 e2 h2 => ?_⟩
    refine ⟨sz1, fun p3 H3 e3 h3 => ?_⟩
    refine ⟨_, rfl, _, 1, rfl, rfl, ot, _, _, _, rfl, rfl, h3, by omega, by decide, fun p4 H4 e4 h4 => ?_⟩
    refine ⟨sz1, fun p5 H5 e5 h5 => ?_⟩
    refine ⟨_, rfl, _, _, 1, rfl, rfl, h5, by decide, (by show 1 ≤ 1000; decide), fun p6 H6 e6 h6 => ?_⟩
    have e06 := (((((e1.trans e2).trans e3).trans e4).trans e5).trans e6)
    refine ⟨_, rfl, s, _, rfl, r1'.mono (tm_ex e06), ?_⟩
    refine ⟨sz5, fun p7 H7 e7 h7 => ?_⟩
    refine k H7 _ (e06.trans e7) ?_
    rw [flat_one] at h4
    refine StA.rp (b := p2) (c := p6) (e := p4) (qs := []) ⟨h7, ((((e3.trans e4).trans e5).trans e6).trans e7) _ _ h2, rfl, e7 _ _ h6, ?_⟩
    rw [show (fst0 s).l.map vn = List.replicate (s.tries - 1) (V.int 0) from by unfold fst0; rw [List.map_replicate]; rfl]
    exact ((e5.trans e6).trans e7) _ _ h4
/-! first_state -/
/-! first_state: 0 setting -/
theorem sc_first_state : FnScope ["setting"] ["setting"] (d_first_state.scope) := ⟨rfl, rfl, rfl, by decide +kernel, rfl, by decide +kernel, by decide +kernel⟩
theorem c_first_state (B : Bas w K mg) : Cal P w K mg base 5 "first_state" ["setting"] spFirst := by
  have C_need_setting := c_need_setting (P := P) (base := base) B
  have C_first_of := c_first_of (P := P) (base := base) B
  refine B.cal "first_state" 8 8 (d := d_first_state) rfl rfl rfl rfl rfl sc_first_state (fun vs H Q E h => ?_) (fun _ _ _ _ _ _ us hl => match us, hl with | [_], _ => rfl) (fun f cdv A outer s₀ H vs Q E hr h => ?_)
  · obtain ⟨s, v, rfl, _⟩ := h
    rfl
  · obtain ⟨s, v, rfl, r1, O, k⟩ := h
    refine ⟨_, (pss_cons (ps_expr (pe_cal C_need_setting hr (by first | decide | omega) (by rfl) (pa_cons (pv 0) pa_nil)))
    (pss_one (ps_ret (pe_cal C_first_of hr (by first | decide | omega) (by rfl) (pa_cons (pv 0) pa_nil))))), ?_⟩
    refine ⟨_, rfl, s, v, rfl, r1, O, ?_⟩
    exact ⟨_, rfl, s, v, rfl, r1, O, k⟩
/-! is_queue, at the empty queue -/
def spQueue : Sp := fun vs H Q _ => ∃ (s : Setg) (v v2 : V), vs = [v, v2] ∧ Rp H s.da v ∧ Rp H (.tup []) v2 ∧ SetOk s ∧ ∀ H', Ex H H' → Q (.bl true) H'
/-! is_queue: 0 setting, 1 thing, 2 patience, 3 tries, 4 one, 5 left, 6 age, 7 other -/
theorem sc_is_queue : FnScope ["setting", "thing", "patience", "tries", "one", "left", "age", "other"] ["setting", "thing"] (d_is_queue.scope) := ⟨rfl, rfl, rfl, by decide +kernel, rfl, by decide +kernel, by decide +kernel⟩
theorem c_is_queue (B : Bas w K mg) : Cal P w K mg base 2 "is_queue" ["setting", "thing"] spQueue := by
  have C_is_whole := c_is_whole (P := P) (base := base) B
  refine B.cal "is_queue" 9 9 (d := d_is_queue) rfl rfl rfl rfl rfl sc_is_queue (fun vs H Q E h => ?_) (fun _ _ _ _ _ _ us hl => match us, hl with | [_, _], _ => rfl) (fun f cdv A outer s₀ H vs Q E hr h => ?_)
  · obtain ⟨s, v, v2, rfl, _⟩ := h
    rfl
  · obtain ⟨s, v, v2, rfl, r1, r2, O, k⟩ := h
    obtain ⟨a, fv, rfl, S⟩ := rp_set r1
    obtain ⟨b, xs, rfl, hb, he⟩ := r2
    cases (show xs = [] from he)
    have ot := O.t1
    have op := O.p1
    refine ⟨_, (pss_cons (ps_asg (pe_slice sl_tupB (pv 0) (po_some pe_int) (po_some pe_int)) (pg_tup rfl (pgs_cons (pg_name (i := 2) sc_is_queue.nd rfl (Or.inr rfl)) (pgs_cons (pg_name (i := 3) sc_is_queue.nd rfl (Or.inr rfl)) pgs_nil))))
    (pss_cons (ps_if (PW.pt (pw_or (pt_not (pt_val (pe_callB call_isiTup (by rfl) (B.free 70) boot_isinstance (pa_cons (pv 1) (pa_cons (pe_bltn (v := .ty "tuple") (by rfl) (B.free 73) boot_tuple rfl) pa_nil))))) (pw_or1 (pt_cmpR op_gtN (pe_callB call_lenB (by rfl) (B.free 74) boot_len (pa_cons (pv 1) pa_nil)) (pe_ixk (pv 0)) (nomark _)))))
      (pss_one (ps_ret pe_bl))
      pss_nil)
    (pss_cons (ps_if (pt_not (pt_val (pe_callB (cr_all rfl) (by rfl) (B.free 76) boot_all (pa_cons (pe_lc (own := [("one", 4)]) (g := gName 4) (by rfl) sc_is_queue.nd (pi_tup (pv 1)) (blkOk_by (own := [("one", 4)]) (N := ["setting", "thing", "patience", "tries", "one", "left", "age", "other"]) (sc := d_is_queue.scope) (by decide +kernel)) (fun _ _ _ _ _ => (pg_name (i := 4) sc_is_queue.nd rfl (Or.inl rfl))) (fun _ _ _ _ _ => pts_nil) (fun _ _ _ _ _ => (pe_and (pe_callB call_isiTup (by rfl) (B.free 70) boot_isinstance (pa_cons (pv 4) (pa_cons (pe_bltn (v := .ty "tuple") (by rfl) (B.free 73) boot_tuple rfl) pa_nil))) (pe_one (pe_cmpR op_eqN (pe_callB call_lenB (by rfl) (B.free 74) boot_len (pa_cons (pv 4) pa_nil)) pe_int (nomark _)))))) pa_nil))))
      (pss_one (ps_ret pe_bl))
      pss_nil)
    (pss_cons (ps_if (pt_not (pt_val (pe_callB (cr_all rfl) (by rfl) (B.free 76) boot_all (pa_cons (pe_lc (own := [("left", 5), ("age", 6)]) (g := gTup K 2 (gCons (gName 5) (gCons (gName 6) gNil))) (by rfl) sc_is_queue.nd (pi_tup (pv 1)) (blkOk_by (own := [("left", 5), ("age", 6)]) (N := ["setting", "thing", "patience", "tries", "one", "left", "age", "other"]) (sc := d_is_queue.scope) (by decide +kernel)) (fun _ _ _ _ _ => (pg_tup rfl (pgs_cons (pg_name (i := 5) sc_is_queue.nd rfl (Or.inl rfl)) (pgs_cons (pg_name (i := 6) sc_is_queue.nd rfl (Or.inl rfl)) pgs_nil)))) (fun _ _ _ _ _ => pts_nil) (fun _ _ _ _ _ => (pe_and (pe_cal C_is_whole hr (by first | decide | omega) (by rfl) (pa_cons (pv 5) (pa_cons pe_int (pa_cons (pe_op op_subN (pv 3) pe_int) pa_nil)))) (pe_one (pe_cal C_is_whole hr (by first | decide | omega) (by rfl) (pa_cons (pv 6) (pa_cons pe_int (pa_cons (pe_op op_subN (pv 2) pe_int) pa_nil)))))))) pa_nil))))
      (pss_one (ps_ret pe_bl))
      pss_nil)
    (pss_one (ps_ret (pe_callB (cr_all rfl) (by rfl) (B.free 76) boot_all (pa_cons (pe_lc (own := [("one", 4), ("other", 7)]) (g := gTup K 2 (gCons (gName 4) (gCons (gName 7) gNil))) (by rfl) sc_is_queue.nd (RZ.pi_zipA (by rfl) (B.free 77) (pa_cons (pv 1) (pa_cons (pe_slice sl_tupB (pv 1) (po_some pe_int) po_none) pa_nil))) (blkOk_by (own := [("one", 4), ("other", 7)]) (N := ["setting", "thing", "patience", "tries", "one", "left", "age", "other"]) (sc := d_is_queue.scope) (by decide +kernel)) (fun _ _ _ _ _ => (pg_tup rfl (pgs_cons (pg_name (i := 4) sc_is_queue.nd rfl (Or.inl rfl)) (pgs_cons (pg_name (i := 7) sc_is_queue.nd rfl (Or.inl rfl)) pgs_nil)))) (fun _ _ _ _ _ => pts_nil) (fun _ _ _ _ _ => (pe_cmpR op_geN (pe_ixk (pv 4)) (pe_ixk (pv 7)) (nomark _)))) pa_nil)))))))), ?_⟩
    refine ⟨_, rfl, _, rfl, _, rfl, _, _, rfl, S.at_, fun p1 H1 e1 h1 => ?_⟩
    rw [cut24] at h1
    refine ⟨_, _, rfl, SqT.of h1, rfl, _, _, rfl, _, _, rfl, rfl, ?_⟩
    refine ⟨_, rfl, _, _, rfl, e1 _ _ hb, _, rfl, ?_⟩
    refine ⟨_, rfl, _, _, rfl, Or.inr (e1 _ _ hb), _, rfl, _, _, _, rfl, e1 _ _ S.at_, rfl, _, _, rfl, rfl, false, rfl, ?_⟩
    refine iF (by rfl) ?_
    refine ⟨_, rfl, _, rfl, ⟨_, SqT.of (e1 _ _ hb)⟩, fun D2 n2 => lcAll (e1 _ _ hb) sz1 (fun i x H hx => by cases hx) n2 (fun H2 e2 h2 => ?_)⟩
    refine ⟨_, _, rfl, SqL.of h2, _, rfl, ?_⟩
    refine iF (by rfl) ?_
    have e02 := e1.trans e2
    refine ⟨_, rfl, _, rfl, ⟨_, SqT.of (e02 _ _ hb)⟩, fun D3 n3 => lcAll (e02 _ _ hb) sz1 (fun i x H hx => by cases hx) n3 (fun H3 e3 h3 => ?_)⟩
    refine ⟨_, _, rfl, SqL.of h3, _, rfl, ?_⟩
    refine iF (by rfl) ?_
    have e03 := e02.trans e3
    refine ⟨_, rfl, _, rfl, _, rfl, _, _, rfl, e03 _ _ hb, fun p4 H4 e4 h4 => ?_⟩
    have e04 := e03.trans e4
    refine ⟨_, _, _, _, rfl, Or.inr ⟨SqT.of (e04 _ _ hb), SqT.of h4, fun D5 n5 => lcZ0 (e04 _ _ hb) h4 n5 (fun H5 e5 h5 => ?_)⟩⟩
    refine ⟨_, [], rfl, SqL.of h5, ?_⟩
    exact k H5 (e04.trans e5)
end
end K46
/-! part W7 -/
set_option maxHeartbeats 600000
namespace K46
open PySem PySem.Spec PyProof.Rows L2 Evl
section
variable {P : Program} {w : World} {K : PySem.W.Frag} {mg : Str → Option Value} {base : Heap}
def spLater : Sp := fun vs H Q _ => ∃ (s : Setg) (v v2 : V) (ns : List Nat), vs = [v, v2] ∧ Rp H s.da v ∧ Rp H (.tup [.tup (ns.map dn)]) v2 ∧ SetOk s ∧ ns.length = s.tries - 1 ∧ ∀ H', Ex H H' → Q (.bl true) H'
/-! is_later: 0 setting, 1 thing, 2 tries, 3 wait, 4 row, 5 many -/
theorem sc_is_later : FnScope ["setting", "thing", "tries", "wait", "row", "many"] ["setting", "thing"] (d_is_later.scope) := ⟨rfl, rfl, rfl, by decide +kernel, rfl, by decide +kernel, by decide +kernel⟩
theorem c_is_later (B : Bas w K mg) : Cal P w K mg base 2 "is_later" ["setting", "thing"] spLater := by
  have C_is_count := c_is_count (P := P) (base := base) B
  refine B.cal "is_later" 10 10 (d := d_is_later) rfl rfl rfl rfl rfl sc_is_later (fun vs H Q E h => ?_) (fun _ _ _ _ _ _ us hl => match us, hl with | [_, _], _ => rfl) (fun f cdv A outer s₀ H vs Q E hr h => ?_)
  · obtain ⟨s, v, v2, ns, rfl, _⟩ := h
    rfl
  · obtain ⟨s, v, v2, ns, rfl, r1, r2, O, hl, k⟩ := h
    obtain ⟨a, fv, rfl, S⟩ := rp_set r1
    obtain ⟨b, xs, rfl, hb, y, r, rfl, ⟨c, zs, rfl, hc, hz⟩, e7⟩ := r2
    cases (show r = [] from e7)
    cases rpl_nats_of hz
    have ot := O.t1
    have ot3 := O.t3
    refine ⟨_, (pss_cons (ps_asg (pe_slice sl_tupB (pv 0) (po_some pe_int) (po_some pe_int)) (pg_tup rfl (pgs_cons (pg_name (i := 2) sc_is_later.nd rfl (Or.inr rfl)) (pgs_cons (pg_name (i := 3) sc_is_later.nd rfl (Or.inl rfl)) pgs_nil))))
    (pss_cons (ps_if (PW.pt (pw_or (pt_not (pt_val (pe_callB call_isiTup (by rfl) (B.free 70) boot_isinstance (pa_cons (pv 1) (pa_cons (pe_bltn (v := .ty "tuple") (by rfl) (B.free 73) boot_tuple rfl) pa_nil))))) (pw_or1 (pt_cmpR op_neN (pe_callB call_lenB (by rfl) (B.free 74) boot_len (pa_cons (pv 1) pa_nil)) (pv 3) (nomark _)))))
      (pss_one (ps_ret pe_bl))
      pss_nil)
    (pss_cons (ps_if (pt_not (pt_val (pe_callB (cr_all rfl) (by rfl) (B.free 76) boot_all (pa_cons (pe_lc (own := [("row", 4)]) (g := gName 4) (by rfl) sc_is_later.nd (pi_tup (pv 1)) (blkOk_by (own := [("row", 4)]) (N := ["setting", "thing", "tries", "wait", "row", "many"]) (sc := d_is_later.scope) (by decide +kernel)) (fun _ _ _ _ _ => (pg_name (i := 4) sc_is_later.nd rfl (Or.inl rfl))) (fun _ _ _ _ _ => pts_nil) (fun _ _ _ _ _ => (pe_and (pe_callB call_isiTup (by rfl) (B.free 70) boot_isinstance (pa_cons (pv 4) (pa_cons (pe_bltn (v := .ty "tuple") (by rfl) (B.free 73) boot_tuple rfl) pa_nil))) (pe_one (pe_cmpR op_eqN (pe_callB call_lenB (by rfl) (B.free 74) boot_len (pa_cons (pv 4) pa_nil)) (pe_op op_subN (pv 2) pe_int) (nomark _)))))) pa_nil))))
      (pss_one (ps_ret pe_bl))
      pss_nil)
    (pss_one (ps_ret (pe_callB (cr_all rfl) (by rfl) (B.free 76) boot_all (pa_cons (pe_lc (own := [("row", 4)]) (g := gName 4) (te := tCB (rAll K) (tCons (tLc (iTup K (tVar 4)) (gName 5) tYes (tCall spCount [] E0 (tCons (tVar 5) tNil)) [5]) tNil)) (by rfl) sc_is_later.nd (pi_tup (pv 1)) (blkOk_by (own := [("row", 4)]) (N := ["setting", "thing", "tries", "wait", "row", "many"]) (sc := d_is_later.scope) (by decide +kernel)) (fun _ _ _ _ _ => (pg_name (i := 4) sc_is_later.nd rfl (Or.inl rfl))) (fun _ _ _ _ _ => pts_nil) (fun _ _ _ _ _ => (pe_callB (cr_all rfl) (by rfl) (B.free 76) boot_all (pa_cons (pe_lc (own := [("many", 5)]) (g := gName 5) (by rfl) sc_is_later.nd (pi_tup (pv 4)) (blkOk_by (own := [("many", 5)]) (N := ["setting", "thing", "tries", "wait", "row", "many"]) (sc := { kind := .function, names := [(".0", .local), ("row", .local), ("all", .globalImplicit)], isGenerator := false, isCoroutine := false }) (by decide +kernel)) (fun _ _ _ _ _ => (pg_name (i := 5) sc_is_later.nd rfl (Or.inl rfl))) (fun _ _ _ _ _ => pts_nil) (fun _ _ _ _ _ => (pe_cal C_is_count hr (by first | decide | omega) (by rfl) (pa_cons (pv 5) pa_nil)))) pa_nil)))) pa_nil))))))), ?_⟩
    refine ⟨_, rfl, _, rfl, _, rfl, _, _, rfl, S.at_, fun p1 H1 e1 h1 => ?_⟩
    rw [cut35] at h1
    refine ⟨_, _, rfl, SqT.of h1, rfl, _, _, rfl, _, _, rfl, rfl, ?_⟩
    refine ⟨_, rfl, _, _, rfl, e1 _ _ hb, _, rfl, ?_⟩
    refine ⟨_, rfl, _, _, rfl, Or.inr (e1 _ _ hb), _, rfl, _, 1, rfl, rfl, false, rfl, ?_⟩
    refine iF (by rfl) ?_
    refine ⟨_, rfl, _, rfl, ⟨_, SqT.of (e1 _ _ hb)⟩, fun D2 n2 => lcAll (e1 _ _ hb) sz2 (fun i x H3 hx e3 R N hR => ?_) n2 (fun H2 e2 h2 => ?_)⟩
    · have hxc : x = .ref c := by
        cases i with
        | zero => exact (Option.some.inj hx).symm
        | succ i => cases hx
      subst hxc
      have e := e1.trans e3
      refine ⟨rfl, yesT ?_⟩
      refine ⟨_, rfl, _, _, rfl, e _ _ hc, _, rfl, ?_⟩
      refine ⟨_, rfl, _, _, rfl, Or.inr (e _ _ hc), _, rfl, _, 1, rfl, rfl, ot, _, _, rfl, rfl, ?_⟩
      have hd : decide ((ns.map vn).length = s.tries - 1) = true := decide_eq_true (by rw [List.length_map]; exact hl)
      have := hR _ (Ex.refl H3)
      rw [← hd] at this
      exact this
    · refine ⟨_, _, rfl, SqL.of h2, _, rfl, ?_⟩
      refine iF (by rfl) ?_
      have e02 := e1.trans e2
      refine ⟨_, rfl, _, rfl, ⟨_, SqT.of (e02 _ _ hb)⟩, fun D3 n3 => lcAll (e02 _ _ hb) sz2 (fun i x H4 hx e4 R N hR => ?_) n3 (fun H3 e3 h3 => ?_)⟩
      · have hxc : x = .ref c := by
          cases i with
          | zero => exact (Option.some.inj hx).symm
          | succ i => cases hx
        subst hxc
        have e := e02.trans e4
        refine ⟨rfl, yesT ?_⟩
        refine ⟨_, rfl, _, rfl, ⟨_, SqT.of (e _ _ hc)⟩, fun D5 n5 => lcAll (e _ _ hc) (by rw [List.length_map, sizeLine_eq]; omega) (fun i x H6 hx e6 R2 N2 hR2 => ?_) n5 (fun H5 e5 h5 => ?_)⟩
        · obtain ⟨m, hm, rfl⟩ := map_at hx
          refine ⟨rfl, yesT ?_⟩
          exact ⟨_, rfl, m, rfl, hR2 _ (Ex.refl _)⟩
        · refine ⟨_, _, rfl, SqL.of h5, ?_⟩
          rw [all_true]
          exact hR _ e5
      · refine ⟨_, _, rfl, SqL.of h3, ?_⟩
        exact k _ (e02.trans e3)
/-! is_state_of, at the first state -/
def spStateOf : Sp := fun vs H Q _ => ∃ (s : Setg) (v v2 : V), vs = [v, v2] ∧ Rp H s.da v ∧ Rp H (fst0 s).da v2 ∧ SetOk s ∧ ∀ H', Ex H H' → Q (.bl true) H'
/-! is_state_of: 0 setting, 1 thing, 2 dead, 3 queue, 4 later, 5 tokens, 6 door -/
theorem sc_is_state_of : FnScope ["setting", "thing", "dead", "queue", "later", "tokens", "door"] ["setting", "thing"] (d_is_state_of.scope) := ⟨rfl, rfl, rfl, by decide +kernel, rfl, by decide +kernel, by decide +kernel⟩
theorem c_is_state_of (B : Bas w K mg) : Cal P w K mg base 3 "is_state_of" ["setting", "thing"] spStateOf := by
  have C_is_queue := c_is_queue (P := P) (base := base) B
  have C_is_whole := c_is_whole (P := P) (base := base) B
  have C_is_later := c_is_later (P := P) (base := base) B
  have C_most_rest := c_most_rest (P := P) (base := base) B
  have C_most_tokens := c_most_tokens (P := P) (base := base) B
  refine B.cal "is_state_of" 11 11 (d := d_is_state_of) rfl rfl rfl rfl rfl sc_is_state_of (fun vs H Q E h => ?_) (fun _ _ _ _ _ _ us hl => match us, hl with | [_, _], _ => rfl) (fun f cdv A outer s₀ H vs Q E hr h => ?_)
  · obtain ⟨s, v, v2, rfl, _⟩ := h
    rfl
  · obtain ⟨s, v, v2, rfl, r1, r2, O, k⟩ := h
    have r1' := r1
    obtain ⟨a, fv, rfl, S⟩ := rp_set r1
    obtain ⟨b, b1, b2, b3, qs, rfl, T⟩ := rp_sta r2
    refine ⟨_, (pss_cons (ps_if (PW.pt (pw_or (pt_not (pt_val (pe_callB call_isiTup (by rfl) (B.free 70) boot_isinstance (pa_cons (pv 1) (pa_cons (pe_bltn (v := .ty "tuple") (by rfl) (B.free 73) boot_tuple rfl) pa_nil))))) (pw_or1 (pt_cmpR op_neN (pe_callB call_lenB (by rfl) (B.free 74) boot_len (pa_cons (pv 1) pa_nil)) pe_int (nomark _)))))
      (pss_one (ps_ret pe_bl))
      pss_nil)
    (pss_cons (ps_asg (pv 1) (pg_tup rfl (pgs_cons (pg_name (i := 2) sc_is_state_of.nd rfl (Or.inl rfl)) (pgs_cons (pg_name (i := 3) sc_is_state_of.nd rfl (Or.inl rfl)) (pgs_cons (pg_name (i := 4) sc_is_state_of.nd rfl (Or.inl rfl)) (pgs_cons (pg_name (i := 5) sc_is_state_of.nd rfl (Or.inl rfl)) (pgs_cons (pg_name (i := 6) sc_is_state_of.nd rfl (Or.inl rfl)) pgs_nil)))))))
    (pss_cons (ps_if (PW.pt (pw_or (pt_not (pt_val (pe_cal C_is_whole hr (by first | decide | omega) (by rfl) (pa_cons (pv 2) (pa_cons pe_int (pa_cons (pe_ifExp (pt_val (pe_ixk (pv 0))) (pe_ixk (pv 0)) pe_int) pa_nil)))))) (pw_or1 (pt_not (pt_val (pe_cal C_is_queue hr (by first | decide | omega) (by rfl) (pa_cons (pv 0) (pa_cons (pv 3) pa_nil))))))))
      (pss_one (ps_ret pe_bl))
      pss_nil)
    (pss_cons (ps_if (PW.pt (pw_or (pt_cmpR op_gtN (pe_op op_addN (pv 2) (pe_callB call_lenB (by rfl) (B.free 74) boot_len (pa_cons (pv 3) pa_nil))) (pe_ixk (pv 0)) (nomark _)) (pw_or1 (pt_not (pt_val (pe_cal C_is_later hr (by first | decide | omega) (by rfl) (pa_cons (pv 0) (pa_cons (pv 4) pa_nil))))))))
      (pss_one (ps_ret pe_bl))
      pss_nil)
    (pss_one (ps_ret (pe_and (pe_cal C_is_whole hr (by first | decide | omega) (by rfl) (pa_cons (pv 5) (pa_cons pe_int (pa_cons (pe_cal C_most_tokens hr (by first | decide | omega) (by rfl) (pa_cons (pv 0) pa_nil)) pa_nil)))) (pe_one (pe_cal C_is_whole hr (by first | decide | omega) (by rfl) (pa_cons (pv 6) (pa_cons pe_int (pa_cons (pe_cal C_most_rest hr (by first | decide | omega) (by rfl) (pa_cons (pv 0) pa_nil)) pa_nil)))))))))))), ?_⟩
    refine ⟨_, rfl, _, _, rfl, T.at_, _, rfl, ?_⟩
    refine ⟨_, rfl, _, _, rfl, Or.inr T.at_, _, 5, rfl, rfl, _, rfl, ?_⟩
    refine iF (by rfl) ?_
    refine ⟨_, rfl, _, _, rfl, SqT.of T.at_, rfl, _, _, rfl, _, _, rfl, _, _, rfl, _, _, rfl, _, _, rfl, rfl, ?_⟩
    refine ⟨_, rfl, _, rfl, _, _, _, rfl, S.at_, rfl, _, rfl, ?_⟩
    refine joinIf (vn (if s.dead = true then s.room else 0)) (fun hd Q' k' => ?_) (fun hd Q' k' => ?_) ?_
    · rw [if_pos hd] at k'
      exact ⟨_, rfl, _, _, _, rfl, S.at_, rfl, k'⟩
    · rw [if_neg (by rw [hd]; exact Bool.false_ne_true)] at k'
      exact k'
    refine ⟨_, _, _, true, rfl, dtt (by show (0 : Int) ≤ ((0 : Nat) : Int) ∧ ((0 : Nat) : Int) ≤ _; omega), _, rfl, ?_⟩
    have hq : Rp H (.tup []) (.ref b1) := ⟨b1, qs, rfl, T.q, T.qr⟩
    refine ⟨_, rfl, _, rfl, s, _, _, rfl, r1', hq, O, fun H1 e1 => ⟨_, rfl, ?_⟩⟩
    refine iF (by rfl) ?_
    have hqs : qs = [] := T.qr
    refine ⟨_, rfl, _, rfl, _, _, rfl, Or.inr (e1 _ _ T.q), _, _, rfl, rfl, _, rfl, _, _, _, rfl, e1 _ _ S.at_, rfl, _, _, rfl, rfl, false, ?_, ?_⟩
    · rw [hqs]; rfl
    have hl : Rp H (.tup [.tup ((fst0 s).l.map dn)]) (.ref b2) := ⟨b2, _, rfl, T.l, _, _, rfl, ⟨b3, _, rfl, T.l0, rpl_nats _⟩, rfl⟩
    refine ⟨_, rfl, _, rfl, s, _, _, _, rfl, r1'.mono (tm_ex e1), hl.mono (tm_ex e1), O, by unfold fst0; simp, fun H2 e2 => ⟨_, rfl, ?_⟩⟩
    refine iF (by rfl) ?_
    have e02 := e1.trans e2
    refine ⟨_, rfl, _, rfl, s, _, rfl, r1'.mono (tm_ex e02), ?_⟩
    refine ⟨_, _, _, true, rfl, dtt (by show (0 : Int) ≤ ((fst0 s).t : Int) ∧ ((fst0 s).t : Int) ≤ _; unfold fst0; constructor <;> simp), _, rfl, ?_⟩
    refine ⟨_, rfl, _, rfl, s, _, rfl, r1'.mono (tm_ex e02), ?_⟩
    refine ⟨_, _, _, true, rfl, dtt (by show (0 : Int) ≤ ((0 : Nat) : Int) ∧ ((0 : Nat) : Int) ≤ _; omega), ?_⟩
    exact k _ e02
/-! need_state -/
def spNeedSt : Sp := fun vs H Q _ => ∃ (s : Setg) (v v2 : V), vs = [v, v2] ∧ Rp H s.da v ∧ Rp H (fst0 s).da v2 ∧ SetOk s ∧ ∀ H', Ex H H' → Q .non H'
/-! need_state: 0 setting, 1 state -/
theorem sc_need_state : FnScope ["setting", "state"] ["setting", "state"] (d_need_state.scope) := ⟨rfl, rfl, rfl, by decide +kernel, rfl, by decide +kernel, by decide +kernel⟩
theorem c_need_state (B : Bas w K mg) : Cal P w K mg base 4 "need_state" ["setting", "state"] spNeedSt := by
  have C_is_state_of := c_is_state_of (P := P) (base := base) B
  refine B.cal "need_state" 12 12 (d := d_need_state) rfl rfl rfl rfl rfl sc_need_state (fun vs H Q E h => ?_) (fun _ _ _ _ _ _ us hl => match us, hl with | [_, _], _ => rfl) (fun f cdv A outer s₀ H vs Q E hr h => ?_)
  · obtain ⟨s, v, v2, rfl, _⟩ := h
    rfl
  · obtain ⟨s, v, v2, rfl, r1, r2, O, k⟩ := h
    refine ⟨_, (pss_one (ps_if (pt_not (pt_val (pe_cal C_is_state_of hr (by first | decide | omega) (by rfl) (pa_cons (pv 0) (pa_cons (pv 1) pa_nil)))))
      (pss_one ps_never)
      pss_nil)), ?_⟩
    refine ⟨_, rfl, _, rfl, s, v, v2, rfl, r1, r2, O, fun H' e => ⟨_, rfl, ?_⟩⟩
    refine iF (by rfl) ?_
    exact k _ e
/-! is_row -/
def spRow : Sp := fun vs H Q _ => ∃ (a : Addr) (ns : List Nat), vs = [.ref a] ∧ H a = some (.tup (ns.map vn)) ∧ ns.length ≤ 200 ∧ (∀ n ∈ ns, n ≤ 999) ∧ ∀ H', Ex H H' → Q (.bl true) H'
/-! is_row: 0 thing, 1 one -/
theorem sc_is_row : FnScope ["thing", "one"] ["thing"] (d_is_row.scope) := ⟨rfl, rfl, rfl, by decide +kernel, rfl, by decide +kernel, by decide +kernel⟩
theorem c_is_row (B : Bas w K mg) : Cal P w K mg base 2 "is_row" ["thing"] spRow := by
  have C_is_whole := c_is_whole (P := P) (base := base) B
  refine B.cal "is_row" 20 20 (d := d_is_row) rfl rfl rfl rfl rfl sc_is_row (fun vs H Q E h => ?_) (fun _ _ _ _ _ _ us hl => match us, hl with | [_], _ => rfl) (fun f cdv A outer s₀ H vs Q E hr h => ?_)
  · obtain ⟨a, ns, rfl, _⟩ := h
    rfl
  · obtain ⟨a, ns, rfl, ha, hl, hn, k⟩ := h
    refine ⟨_, (pss_one (ps_ret (pe_and (pe_callB call_isiTup (by rfl) (B.free 70) boot_isinstance (pa_cons (pv 0) (pa_cons (pe_bltn (v := .ty "tuple") (by rfl) (B.free 73) boot_tuple rfl) pa_nil))) (pe_one (pe_callB (cr_all rfl) (by rfl) (B.free 76) boot_all (pa_cons (pe_lc (own := [("one", 1)]) (g := gName 1) (by rfl) sc_is_row.nd (pi_tup (pv 0)) (blkOk_by (own := [("one", 1)]) (N := ["thing", "one"]) (sc := d_is_row.scope) (by decide +kernel)) (fun _ _ _ _ _ => (pg_name (i := 1) sc_is_row.nd rfl (Or.inl rfl))) (fun _ _ _ _ _ => pts_nil) (fun _ _ _ _ _ => (pe_cal C_is_whole hr (by first | decide | omega) (by rfl) (pa_cons (pv 1) (pa_cons pe_int (pa_cons (pe_glob (v := .int 999) (by rfl) (B.int 65).choose_spec ⟨_, rfl⟩) pa_nil)))))) pa_nil)))))), ?_⟩
    refine ⟨_, rfl, _, _, rfl, ha, _, rfl, ?_⟩
    refine ⟨_, rfl, _, rfl, ⟨_, SqT.of ha⟩, fun D2 n2 => lcAll ha (by rw [List.length_map, sizeLine_eq]; omega) (fun i x H3 hx e3 R N hR => ?_) n2 (fun H2 e2 h2 => ?_)⟩
    · obtain ⟨m, hm, rfl⟩ := map_at hx
      have := hn m (List.mem_of_getElem? hm)
      refine ⟨rfl, yesT ?_⟩
      exact ⟨_, rfl, _, _, _, true, rfl, dtt (by omega), hR _ (Ex.refl _)⟩
    · refine ⟨_, _, rfl, SqL.of h2, ?_⟩
      rw [all_true]
      exact k _ e2
/-! need_all -/
def spNeedAll : Sp := fun vs H Q _ => ∃ (s : Setg) (v v2 : V) (a : Addr) (ns : List Nat), vs = [v, v2, .ref a] ∧ Rp H s.da v ∧ Rp H (fst0 s).da v2 ∧ SetOk s ∧ H a = some (.tup (ns.map vn)) ∧ ns.length ≤ 200 ∧ (∀ n ∈ ns, n ≤ 999) ∧ ∀ H', Ex H H' → Q .non H'
/-! need_all: 0 setting, 1 state, 2 row -/
theorem sc_need_all : FnScope ["setting", "state", "row"] ["setting", "state", "row"] (d_need_all.scope) := ⟨rfl, rfl, rfl, by decide +kernel, rfl, by decide +kernel, by decide +kernel⟩
theorem c_need_all (B : Bas w K mg) : Cal P w K mg base 5 "need_all" ["setting", "state", "row"] spNeedAll := by
  have C_need_setting := c_need_setting (P := P) (base := base) B
  have C_need_state := c_need_state (P := P) (base := base) B
  have C_is_row := c_is_row (P := P) (base := base) B
  refine B.cal "need_all" 22 22 (d := d_need_all) rfl rfl rfl rfl rfl sc_need_all (fun vs H Q E h => ?_) (fun _ _ _ _ _ _ us hl => match us, hl with | [_, _, _], _ => rfl) (fun f cdv A outer s₀ H vs Q E hr h => ?_)
  · obtain ⟨s, v, v2, a, ns, rfl, _⟩ := h
    rfl
  · obtain ⟨s, v, v2, a, ns, rfl, r1, r2, O, ha, hl, hn, k⟩ := h
    refine ⟨_, (pss_cons (ps_expr (pe_cal C_need_setting hr (by first | decide | omega) (by rfl) (pa_cons (pv 0) pa_nil)))
    (pss_cons (ps_expr (pe_cal C_need_state hr (by first | decide | omega) (by rfl) (pa_cons (pv 0) (pa_cons (pv 1) pa_nil))))
    (pss_one (ps_if (PW.pt (pw_or (pt_not (pt_val (pe_cal C_is_row hr (by first | decide | omega) (by rfl) (pa_cons (pv 2) pa_nil)))) (pw_or1 (pt_cmpR op_gtN (pe_callB call_lenB (by rfl) (B.free 74) boot_len (pa_cons (pv 2) pa_nil)) (pe_glob (v := .int 200) (by rfl) (B.int 66).choose_spec ⟨_, rfl⟩) (nomark _)))))
      (pss_one ps_never)
      pss_nil)))), ?_⟩
    refine ⟨_, rfl, s, v, rfl, r1, O, ?_⟩
    refine ⟨_, rfl, _, rfl, s, v, v2, rfl, r1, r2, O, fun H1 e1 => ?_⟩
    refine ⟨_, rfl, a, ns, rfl, e1 _ _ ha, hl, hn, fun H2 e2 => ⟨_, rfl, ?_⟩⟩
    have e := e1.trans e2
    refine ⟨_, rfl, _, _, rfl, Or.inr (e _ _ ha), _, 200, rfl, rfl, _, rfl, ?_⟩
    refine iF (decide_eq_false (by rw [List.length_map]; omega)) ?_
    exact k _ e
/-! need_most -/
structure CalD (P : Program) (w : World) (K : PySem.W.Frag) (mg : Str → Option Value) (base : Heap) (k : Nat) (x : Str) (ps : List Str) (dvs : List V) (sp : Sp) : Prop where
  ex : ∃ f fd ds, FnOk P w K mg base CX0 k f fd ps sp ∧ mg x = some (.ref f) ∧ PySem.W.keepIn K (.ref f) = true ∧ Vals dvs ds ∧ L2.Binds K fd ps ds
theorem pe_calD {X : Cx} {k j : Nat} {x : Str} {ps : List Str} {dvs : List V} {sp : Sp} {p pos : Pos} {e : Expr} {es : List Expr} {t : TA} (C : CalD X.prog X.w X.K X.mg X.base k x ps dvs sp) (hr : Room j X.A) (hk : k ≤ j) (hg : Gl X x) (ha : PA X (e :: es) t) (hdb : (x == ("__debug__" : Str)) = false := by decide)
    (he : starEach (e :: es) X.env = (false, eval e X.env) :: starEach es X.env := by rfl) (hpl : (backTo pos (starEach es X.env)).any (·.1) = false := by rfl) :
    PE X (.Call (.Name x p) (e :: es) [] pos) (tCall sp dvs E0 t) := by
  obtain ⟨f, fd, ds, F, hm, kp, hv, hb⟩ := C.ex
  exact pe_call F (hr.mono hk) hg hm kp hb hv pass0 ha hdb he hpl
def spNeedMost : Sp := fun vs H Q _ => ∃ m : Nat, vs = [vn m, .int 1] ∧ 1 ≤ m ∧ m ≤ 9 ∧ Q .non H
/-! need_most: 0 most, 1 steady -/
theorem sc_need_most : FnScope ["most", "steady"] ["most", "steady"] (d_need_most.scope) := ⟨rfl, rfl, rfl, by decide +kernel, rfl, by decide +kernel, by decide +kernel⟩
theorem c_need_most (B : Bas w K mg) : CalD P w K mg base 2 "need_most" ["most", "steady"] [.int 1] spNeedMost := by
  have C_is_whole := c_is_whole (P := P) (base := base) B
  obtain ⟨fd, F⟩ := B.def_ d_need_most (mem_at (i := 13) rfl)
  obtain ⟨ds, h1, h2⟩ := F.binds1 (ps := ["most", "steady"]) 1 0 (by intro z; cases z) rfl (fun T kV doc pm an cdv ct us its hu hi => match us, its, hu, hi with | [_], [_], _, _ => ⟨_, rfl, rfl⟩)
  refine ⟨_, fd, ds, F.ok sc_need_most (fun vs H Q E h => ?_) (fun cdv A outer s₀ H vs Q E hr h => ?_), B.glo 13, F.kp, h1, h2⟩
  · obtain ⟨m, rfl, _⟩ := h
    rfl
  · obtain ⟨m, rfl, hm, h9, k⟩ := h
    refine ⟨_, (pss_one (ps_if (pt_not (pt_val (pe_cal C_is_whole hr (by first | decide | omega) (by rfl) (pa_cons (pv 0) (pa_cons (pv 1) (pa_cons (pe_glob (v := .int 9) (by rfl) (B.int 64).choose_spec ⟨_, rfl⟩) pa_nil))))))
      (pss_one ps_never)
      pss_nil)), ?_⟩
    refine ⟨_, rfl, _, rfl, _, _, _, true, rfl, dtt (by omega), _, rfl, ?_⟩
    refine iF (by rfl) ?_
    exact k
end
end K46
/-! part W8 -/
set_option maxHeartbeats 600000
namespace K46
open PySem PySem.Spec PyProof.Rows L2 Evl
/-! ### well-formed states -/
structure StOk (s : Setg) (st : Sta) : Prop where
  room : st.d + st.q.length ≤ s.room
  ll : st.l.length = s.tries - 1
theorem ag_split (s : Setg) (q : List (Nat × Nat)) : (agS s q).length + (agG s q).length = q.length := by
  induction q with
  | nil => rfl
  | cons p r ih =>
    unfold agS agG at ih ⊢
    simp only [List.length_map] at ih ⊢
    rw [List.filter_cons, List.filter_cons]
    by_cases h : p.2 + 1 < s.pat
    · have h' : ¬ s.pat ≤ p.2 + 1 := by omega
      simp only [decide_eq_true h, decide_eq_false h', if_true, List.length_cons]
      simp
      omega
    · have h' : s.pat ≤ p.2 + 1 := by omega
      simp only [decide_eq_true h', decide_eq_false h, if_true, List.length_cons]
      simp
      omega
theorem ser_split (s : Setg) (d : Nat) (q : List (Nat × Nat)) : (serR s d q).2.2.length ≤ q.length := serR_len s d q
theorem StOk.stp {s : Setg} {st : Sta} (h : StOk s st) (f : Nat) : StOk s (stp s st f).st := by
  obtain ⟨h1, h2⟩ := h
  constructor
  · show st.d - _ + (if s.dead = true then _ else 0) + (agS s _).length ≤ s.room
    have er := entR_room s st ((comR s st).1 ++ [f])
    have hw := serR_was s st.d (entR s st ((comR s st).1 ++ [f])).1
    have hs := serR_len s st.d (entR s st ((comR s st).1 ++ [f])).1
    have ha := ag_split s (serR s st.d (entR s st ((comR s st).1 ++ [f])).1).2.2
    have hf : st.d + st.q.length + free s st ≤ s.room := by
      unfold free; split <;> omega
    split <;> omega
  · show (faiR _ 0 _).tail.length = _
    rw [List.length_tail, faiR_len, entR_len, List.length_append, comR_len, h2]
    simp
theorem fst0_ok (s : Setg) : StOk s (fst0 s) := ⟨Nat.zero_le _, by unfold fst0; simp⟩
def stps (s : Setg) : Sta → List Nat → List Told
  | _, [] => []
  | st, f :: r => stp s st f :: stps s (stp s st f).st r
def aft (s : Setg) (st : Sta) (l : List Nat) : Sta := l.foldl (fun st f => (stp s st f).st) st
theorem aft_ok {s : Setg} {st : Sta} (h : StOk s st) (l : List Nat) : StOk s (aft s st l) := by
  induction l generalizing st with
  | nil => exact h
  | cons f r ih => exact ih (h.stp f)
theorem stps_snoc (s : Setg) (l : List Nat) (f : Nat) (st : Sta) : stps s st (l ++ [f]) = stps s st l ++ [stp s (aft s st l) f] := by
  induction l generalizing st with
  | nil => rfl
  | cons g r ih => rw [List.cons_append, stps, ih, stps, List.cons_append]; rfl
theorem aft_snoc (s : Setg) (l : List Nat) (f : Nat) (st : Sta) : aft s st (l ++ [f]) = (stp s (aft s st l) f).st := by
  unfold aft; rw [List.foldl_append]; rfl
theorem stps_len (s : Setg) (l : List Nat) (st : Sta) : (stps s st l).length = l.length := by
  induction l generalizing st with
  | nil => rfl
  | cons g r ih => rw [stps, List.length_cons, ih, List.length_cons]
abbrev Told.six (t : Told) : List V := [vn t.came, vn t.ans, vn t.was, vn t.ref, vn t.gav, vn t.los]
/-- a tuple of results as it stands -/
theorem rp_told {H : Hp} {t : Told} {v : V} (h : Rp H t.da v) : ∃ a w, v = .ref a ∧ H a = some (.tup [vn t.came, vn t.ans, vn t.was, vn t.ref, vn t.gav, vn t.los, w]) ∧ Rp H t.st.da w := by
  obtain ⟨a, xs, e, h1, h2⟩ := h
  obtain ⟨x1, r, rfl, e1, x2, r2, rfl, e2, x3, r3, rfl, e3, x4, r4, rfl, e4, x5, r5, rfl, e5, x6, r6, rfl, e6, x7, r7, rfl, e7, e8⟩ := h2
  cases (show x1 = vn t.came from e1)
  cases (show x2 = vn t.ans from e2)
  cases (show x3 = vn t.was from e3)
  cases (show x4 = vn t.ref from e4)
  cases (show x5 = vn t.gav from e5)
  cases (show x6 = vn t.los from e6)
  cases (show r7 = [] from e8)
  exact ⟨a, x7, e, h1, e7⟩
section
variable {P : Program} {w : World} {K : PySem.W.Frag} {mg : Str → Option Value} {base : Heap}
def spSteps : Sp := fun vs H Q _ => ∃ (s : Setg) (st : Sta) (v v2 : V) (a : Addr) (ns : List Nat), vs = [v, v2, .ref a] ∧ Rp H s.da v ∧ Rp H st.da v2 ∧ SetOk s ∧ StOk s st ∧ H a = some (.tup (ns.map vn)) ∧ ns.length ≤ 200 ∧
  ∀ H' p ys, Ex H H' → H p = none → H' p = some (.lst ys) → RpL H' ((stps s st ns).map Told.da) ys → Q (.ref p) H'
/-! steps: 0 setting, 1 state, 2 row, 3 found, 4 fresh -/
theorem sc_steps : FnScope ["setting", "state", "row", "found", "fresh"] ["setting", "state", "row"] (d_steps.scope) := ⟨rfl, rfl, rfl, by decide +kernel, rfl, by decide +kernel, by decide +kernel⟩
theorem c_steps (B : Bas w K mg) : Cal P w K mg base 4 "steps" ["setting", "state", "row"] spSteps := by
  have C_step := c_step (P := P) (base := base) B
  refine B.cal "steps" 21 21 (d := d_steps) rfl rfl rfl rfl rfl sc_steps (fun vs H Q E h => ?_) (fun _ _ _ _ _ _ us hl => match us, hl with | [_, _, _], _ => rfl) (fun f cdv A outer s₀ H vs Q E hr h => ?_)
  · obtain ⟨s, st, v, v2, a, ns, rfl, _⟩ := h
    rfl
  · obtain ⟨s, st, v, v2, a, ns, rfl, r1, r2, O, ok, ha, hl, k⟩ := h
    have o5 := O.r5
    have ot3 := O.t3
    refine ⟨_, (pss_cons (ps_set (i := 3) sc_steps.nd rfl (Or.inl rfl) (pe_lstA pa_nil))
    (pss_cons (ps_for PassesOwn.never rfl (pi_tup (pv 2)) (pg_name (i := 4) sc_steps.nd rfl (Or.inl rfl))
      (pss_cons (ps_expr (pe_bm PySem.F.plainAttrs_list PySem.F.slot_list_append PySem.F.type_list_append mt_appB (pv 3) (pa_cons (pe_cal C_step hr (by first | decide | omega) (by rfl) (pa_cons (pv 0) (pa_cons (pv 1) (pa_cons (pv 4) pa_nil)))) pa_nil)))
      (pss_one (ps_set (i := 1) sc_steps.nd rfl (Or.inl rfl) (pe_ixk (pe_ix ix_listLast (pv 3) (pe_un un_neg pe_int) (fun _ _ => rfl)))))))
    (pss_one (ps_ret (pv 3))))), ?_⟩
    refine ⟨sz0, fun D H1 n1 e1 h1 => ?_⟩
    refine ⟨_, rfl, _, rfl, ⟨_, SqT.of (e1 _ _ ha)⟩, for_tup (xs := ns.map vn)
      (fun i σ H2 => ∃ v4 w, σ = [some v, some w, some (.ref a), some (.ref D), v4] ∧ Ex H H2 ∧ Rp H2 (aft s st (ns.take i)).da w ∧ ∃ ys, H2 D = some (.lst ys) ∧ RpL H2 ((stps s st (ns.take i)).map Told.da) ys)
      ⟨none, v2, rfl, e1, r2.mono (tm_ex e1), [], h1, rfl⟩ (fun i σ H2 _ ⟨_, _, _, e2, _⟩ => SqT.of (e2 _ _ ha)) ?_ ?_⟩
    · rintro i x σ H2 hx ⟨v4, u, rfl, e2, hu, ys, h2, hy⟩
      obtain ⟨m, hm, rfl⟩ := map_at hx
      have hil : i < ns.length := (List.getElem?_eq_some_iff.mp hm).1
      rw [take_snoc hm, stps_snoc, aft_snoc]
      have ok' := aft_ok ok (ns.take i)
      have hsl : (stps s st (ns.take i)).length = i := by rw [stps_len, List.length_take]; omega
      generalize aft s st (ns.take i) = st' at *
      generalize stps s st (ns.take i) = ss at *
      have hyl : ys.length = i := by rw [hy.length, List.length_map, hsl]
      have := ok'.room
      have := ok'.ll
      refine ⟨_, rfl, Or.inl ⟨rfl, _, SqL.of h2⟩, _, rfl, _, rfl, _, rfl, s, st', m, _, _, rfl, r1.mono (tm_ex e2), hu, by omega, by omega, by omega, fun H3 z e3 hz => ?_⟩
      refine ⟨_, _, _, rfl, rfl, e3 _ _ h2, by rw [hyl, sizeLine_eq]; omega, fun H4 b4 h4 => ?_⟩
      have t4 : Tm H3 H4 := b4.tm (e3 _ _ h2)
      obtain ⟨p, u2, rfl, hp, hu2⟩ := rp_told (hz.mono t4)
      refine ⟨_, rfl, _, rfl, _, _, _, rfl, rfl, h4, _, _, _, rfl, hp, rfl, ?_⟩
      refine ⟨_, _, rfl, (e2.trans e3).bt n1 b4, hu2, _, h4, ?_⟩
      rw [List.map_append]
      exact ((hy.mono (tm_ex e3)).mono t4).snoc (hz.mono t4)
    · rintro σ H2 ⟨v4, u, rfl, e2, hu, ys, h2, hy⟩
      rw [List.length_map, List.take_length] at hy
      exact ⟨_, rfl, k H2 D ys e2 n1 h2 hy⟩
/-! run -/
def spRun : Sp := fun vs H Q _ => ∃ (s : Setg) (v v2 : V) (a : Addr) (ns : List Nat), vs = [v, v2, .ref a] ∧ Rp H s.da v ∧ Rp H (fst0 s).da v2 ∧ SetOk s ∧ H a = some (.tup (ns.map vn)) ∧ ns.length ≤ 200 ∧ (∀ n ∈ ns, n ≤ 999) ∧
  ∀ H' p ys, Ex H H' → H' p = some (.tup ys) → RpL H' ((stps s (fst0 s) ns).map Told.da) ys → Q (.ref p) H'
/-! run: 0 setting, 1 state, 2 row -/
theorem sc_run : FnScope ["setting", "state", "row"] ["setting", "state", "row"] (d_run.scope) := ⟨rfl, rfl, rfl, by decide +kernel, rfl, by decide +kernel, by decide +kernel⟩
theorem c_run (B : Bas w K mg) : Cal P w K mg base 6 "run" ["setting", "state", "row"] spRun := by
  have C_need_all := c_need_all (P := P) (base := base) B
  have C_steps := c_steps (P := P) (base := base) B
  refine B.cal "run" 23 23 (d := d_run) rfl rfl rfl rfl rfl sc_run (fun vs H Q E h => ?_) (fun _ _ _ _ _ _ us hl => match us, hl with | [_, _, _], _ => rfl) (fun f cdv A outer s₀ H vs Q E hr h => ?_)
  · obtain ⟨s, v, v2, a, ns, rfl, _⟩ := h
    rfl
  · obtain ⟨s, v, v2, a, ns, rfl, r1, r2, O, ha, hl, hn, k⟩ := h
    refine ⟨_, (pss_cons (ps_expr (pe_cal C_need_all hr (by first | decide | omega) (by rfl) (pa_cons (pv 0) (pa_cons (pv 1) (pa_cons (pv 2) pa_nil)))))
    (pss_one (ps_ret (pe_callTy call_tupOf (by rfl) (B.free 73) boot_tuple (pa_cons (pe_cal C_steps hr (by first | decide | omega) (by rfl) (pa_cons (pv 0) (pa_cons (pv 1) (pa_cons (pv 2) pa_nil)))) pa_nil))))), ?_⟩
    refine ⟨_, rfl, _, rfl, _, rfl, s, v, v2, a, ns, rfl, r1, r2, O, ha, hl, hn, fun H1 e1 => ?_⟩
    refine ⟨_, rfl, _, rfl, _, rfl, s, fst0 s, v, v2, a, ns, rfl, r1.mono (tm_ex e1), r2.mono (tm_ex e1), O, fst0_ok s, e1 _ _ ha, hl, fun H2 p ys e2 n2 h2 hy => ?_⟩
    refine ⟨_, _, rfl, h2, fun p3 H3 e3 h3 => ?_⟩
    exact k H3 p3 ys ((e1.trans e2).trans e3) h3 (hy.mono (tm_ex e3))
/-! both -/
def spBoth : Sp := fun vs H Q _ => ∃ (s t : Setg) (x y : Sta) (f : Nat) (v1 v2 v3 : V), vs = [v1, v2, v3, vn f] ∧ Rp H s.da v1 ∧ Rp H t.da v2 ∧ Rp H (.tup [x.da, y.da]) v3 ∧ SetOk s ∧ SetOk t ∧ StOk s x ∧ StOk t y ∧
  ∀ H' v, Ex H H' → Rp H' (.tup [.bl (decide ((stp s x f).ans = (stp t y f).ans)), .tup [(stp s x f).st.da, (stp t y f).st.da]]) v → Q v H'
/-! both: 0 one, 1 other, 2 pair, 3 fresh, 4 told, 5 its -/
theorem sc_both : FnScope ["one", "other", "pair", "fresh", "told", "its"] ["one", "other", "pair", "fresh"] (d_both.scope) := ⟨rfl, rfl, rfl, by decide +kernel, rfl, by decide +kernel, by decide +kernel⟩
theorem c_both (B : Bas w K mg) : Cal P w K mg base 4 "both" ["one", "other", "pair", "fresh"] spBoth := by
  have C_step := c_step (P := P) (base := base) B
  refine B.cal "both" 26 24 (d := d_both) rfl rfl rfl rfl rfl sc_both (fun vs H Q E h => ?_) (fun _ _ _ _ _ _ us hl => match us, hl with | [_, _, _, _], _ => rfl) (fun f cdv A outer s₀ H vs Q E hr h => ?_)
  · obtain ⟨s, t, x, y, fr, v1, v2, v3, rfl, _⟩ := h
    rfl
  · obtain ⟨s, t, x, y, fr, v1, v2, v3, rfl, r1, r2, r3, O1, O2, ok1, ok2, k⟩ := h
    obtain ⟨p, xs, rfl, hp, x1, r, rfl, hx, x2, rr, rfl, hy, e⟩ := r3
    cases (show rr = [] from e)
    have := O1.r5
    have := O2.r5
    have := O1.t3
    have := O2.t3
    have := ok1.room
    have := ok1.ll
    have := ok2.room
    have := ok2.ll
    refine ⟨_, (pss_cons (ps_par (i := 4) (j := 5) rfl sc_both.nd rfl rfl (by decide) rfl rfl (pa_cons (pe_cal C_step hr (by first | decide | omega) (by rfl) (pa_cons (pv 0) (pa_cons (pe_ixk (pv 2)) (pa_cons (pv 3) pa_nil)))) (pa_cons (pe_cal C_step hr (by first | decide | omega) (by rfl) (pa_cons (pv 1) (pa_cons (pe_ixk (pv 2)) (pa_cons (pv 3) pa_nil)))) pa_nil)) (by rfl))
    (pss_one (ps_ret (pe_tupA (pa_cons (pe_cmpR op_eqN (pe_ix ix_tupN (pv 4) (pe_glob (v := .int 1) (by rfl) (B.int 68).choose_spec ⟨_, rfl⟩) (fun _ _ => rfl)) (pe_ix ix_tupN (pv 5) (pe_glob (v := .int 1) (by rfl) (B.int 68).choose_spec ⟨_, rfl⟩) (fun _ _ => rfl)) (nomark _)) (pa_cons (pe_tupA (pa_cons (pe_ix ix_tupLast (pv 4) (pe_un un_neg pe_int) (fun _ _ => rfl)) (pa_cons (pe_ix ix_tupLast (pv 5) (pe_un un_neg pe_int) (fun _ _ => rfl)) pa_nil))) pa_nil)))))), ?_⟩
    refine ⟨_, rfl, _, rfl, _, _, _, rfl, hp, rfl, _, rfl, s, x, fr, _, _, rfl, r1, hx, by omega, by omega, by omega, fun H1 z1 e1 hz1 => ?_⟩
    refine ⟨_, rfl, _, rfl, _, _, _, rfl, e1 _ _ hp, rfl, _, rfl, t, y, fr, _, _, rfl, r2.mono (tm_ex e1), hy.mono (tm_ex e1), by omega, by omega, by omega, fun H2 z2 e2 hz2 => ?_⟩
    obtain ⟨p1, u1, rfl, hp1, hu1⟩ := rp_told (hz1.mono (tm_ex e2))
    obtain ⟨p2, u2, rfl, hp2, hu2⟩ := rp_told hz2
    refine ⟨_, _, rfl, ?_⟩
    refine ⟨_, rfl, _, _, 1, _, rfl, rfl, hp1, rfl, _, rfl, _, _, 1, _, rfl, rfl, hp2, rfl, _, _, rfl, rfl, ?_⟩
    refine ⟨_, rfl, _, rfl, _, (stp s x fr).six, u1, rfl, rfl, hp1, _, rfl, _, rfl, _, (stp t y fr).six, u2, rfl, rfl, hp2, sz2, fun p3 H3 e3 h3 => ?_⟩
    refine ⟨sz2, fun p4 H4 e4 h4 => ?_⟩
    refine k H4 _ (((e1.trans e2).trans e3).trans e4) ⟨p4, _, rfl, h4, _, _, rfl, rfl, _, _, rfl, ?_, rfl⟩
    exact ⟨p3, _, rfl, e4 _ _ h3, _, _, rfl, hu1.mono (tm_ex (e3.trans e4)), _, _, rfl, hu2.mono (tm_ex (e3.trans e4)), rfl⟩
end
end K46
/-! part W9 -/
set_option maxHeartbeats 600000
namespace K46
open PySem PySem.Spec PyProof.Rows L2 Evl
/-- what a graph is made of -/
structure GP (α τ : Type) [DecidableEq α] where
  da : α → Da
  ta : τ → Da
  go : α → Nat → τ × α
  m : Nat
  S : List α
  first : α
  f0 : first ∈ S
  tup : ∀ x, ∃ ds, da x = .tup ds
  dep : ∀ x, x ∈ S → (key (da x)).depth ≤ 8
  inj : ∀ x y, key (da x) = key (da y) → x = y
  cl : ∀ x ∈ S, ∀ n, n ≤ m → (go x n).2 ∈ S
  sz : S.length ≤ 2000
  m9 : m ≤ 9
section
variable {α τ : Type} [DecidableEq α]
def GP.rowD (G : GP α τ) (r : τ × Nat) : Da := .tup [G.ta r.1, dn r.2]
def GP.plac (G : GP α τ) (l : List α) : List (Da × V) := l.zipIdx.map fun q => (G.da q.1, vn q.2)
def GP.b (G : GP α τ) (n : Nat) : BF α τ := bf G.go G.m G.first n
def spGo (G : GP α τ) : Sp := fun vs H Q _ => ∃ x n v, vs = [v, vn n] ∧ x ∈ G.S ∧ n ≤ G.m ∧ Rp H (G.da x) v ∧ ∀ H' v', Ex H H' → Rp H' (.tup [G.ta (G.go x n).1, G.da (G.go x n).2]) v' → Q v' H'
theorem GP.plac_snoc (G : GP α τ) (l : List α) (y : α) : G.plac (l ++ [y]) = G.plac l ++ [(G.da y, vn l.length)] := by
  unfold GP.plac; rw [List.zipIdx_append, List.map_append]; simp
theorem GP.plac_keys (G : GP α τ) (l : List α) : ((G.plac l).map fun q => key q.1) = l.map fun x => key (G.da x) := by
  unfold GP.plac; rw [List.map_map]
  have : ∀ (l : List α) (n : Nat), (l.zipIdx n).map ((fun q : Da × V => key q.1) ∘ fun q : α × Nat => (G.da q.1, vn q.2)) = l.map fun x => key (G.da x) := by
    intro l; induction l with
    | nil => intro n; rfl
    | cons x r ih => intro n; rw [List.zipIdx_cons, List.map_cons, ih, List.map_cons]; rfl
  exact this l 0
theorem GP.plac_len (G : GP α τ) (l : List α) : (G.plac l).length = l.length := by unfold GP.plac; simp
theorem GP.plac_mem (G : GP α τ) (l : List α) (y : α) : key (G.da y) ∈ ((G.plac l).map fun q => key q.1) ↔ y ∈ l := by
  rw [G.plac_keys]
  constructor
  · intro h
    obtain ⟨x, hx, e⟩ := List.mem_map.mp h
    rw [← G.inj x y e]; exact hx
  · intro h; exact List.mem_map.mpr ⟨y, h, rfl⟩
theorem idx_get {l : List α} {y : α} (h : y ∈ l) : l[l.idxOf y]? = some y := by
  induction l with
  | nil => cases h
  | cons x r ih =>
    rw [List.idxOf_cons]
    by_cases e : x = y
    · subst e; simp
    · have hr : y ∈ r := by
        rcases List.mem_cons.mp h with z | z
        · exact absurd z.symm e
        · exact z
      have : (x == y) = false := by simp [e]
      rw [this]
      simpa using ih hr
theorem GP.plac_get (G : GP α τ) (l : List α) (y : α) (h : y ∈ l) : (G.da y, vn (l.idxOf y)) ∈ G.plac l := by
  unfold GP.plac
  refine List.mem_map.mpr ⟨(y, l.idxOf y), ?_, rfl⟩
  rw [List.mem_zipIdx_iff_getElem?]
  exact idx_get h
/-- all but l stay, told of two places -/
abbrev RowAt (G : GP α τ) (H : Hp) (r : Addr) (row : List (τ × Nat)) : Prop := ∃ ys, H r = some (.lst ys) ∧ RpL H (row.map G.rowD) ys
structure GH (P : Program) (w : World) (G : GP α τ) (C dx : Addr) (H0 H : Hp) (x ln le lb d : Addr) (rs : List Addr) (l : List α) (bs : List (Option (Nat × Nat))) (es : List (List (τ × Nat))) : Prop where
  ex : Bt x H0 H
  ins : H x = some (.ins C dx [("nodes", .ref ln), ("edges", .ref le), ("before", .ref lb)])
  n : ∃ nv, H ln = some (.lst nv) ∧ RpL H (l.map G.da) nv
  b : ∃ bv, H lb = some (.lst bv) ∧ RpL H (bs.map fuseD) bv
  e : H le = some (.lst (rs.map V.ref))
  r : Paired (RowAt G H) rs es
  rn : ∀ r ∈ rs, r ≠ ln ∧ r ≠ le ∧ r ≠ lb ∧ H0 r = none
  pd : NDict P w H d (G.plac l)
  fn : H0 ln = none
  fe : H0 le = none
  fb : H0 lb = none
  fd : H0 d = none
  n1 : ln ≠ le
  n2 : ln ≠ lb
  n3 : le ≠ lb
theorem RowAt.mono {G : GP α τ} {H H' : Hp} {r : Addr} {row : List (τ × Nat)} (h : RowAt G H r row) (t : Tm H H') (e : ∀ o, H r = some o → H' r = some o) : RowAt G H' r row := by
  obtain ⟨ys, h1, h2⟩ := h
  exact ⟨ys, e _ h1, h2.mono t⟩
theorem rows_mono {G : GP α τ} {H H' : Hp} (t : Tm H H') {rs : List Addr} {es : List (List (τ × Nat))} (h : Paired (RowAt G H) rs es) (e : ∀ r ∈ rs, ∀ o, H r = some o → H' r = some o) : Paired (RowAt G H') rs es := by
  induction h with
  | nil => exact .nil
  | @cons a b l1 l2 r _ ih => exact .cons (r.mono t (e a (List.mem_cons_self ..))) (ih fun r hr => e r (List.mem_cons_of_mem _ hr))
section
variable {P : Program} {w : World} {G : GP α τ} {C dx : Addr} {H0 H H' : Hp} {x ln le lb d row : Addr} {rs : List Addr} {l : List α} {bs : List (Option (Nat × Nat))} {es : List (List (τ × Nat))}
theorem GH.mono (g : GH P w G C dx H0 H x ln le lb d rs l bs es) (e : Ex H H') : GH P w G C dx H0 H' x ln le lb d rs l bs es := by
  obtain ⟨nv, n1, n2⟩ := g.n
  obtain ⟨bv, b1, b2⟩ := g.b
  exact ⟨fun b o h1 h2 => e _ _ (g.ex b o h1 h2), e _ _ g.ins, ⟨nv, e _ _ n1, n2.mono (tm_ex e)⟩, ⟨bv, e _ _ b1, b2.mono (tm_ex e)⟩, e _ _ g.e, rows_mono (tm_ex e) g.r fun r _ o => e r o, g.rn, g.pd.ex e, g.fn, g.fe, g.fb, g.fd, g.n1, g.n2, g.n3⟩
theorem GH.xne (g : GH P w G C dx H0 H x ln le lb d rs l bs es) {a : Addr} {ys : List V} (h : H a = some (.lst ys)) : x ≠ a := ne_of g.ins h (by intro z; cases z)
/-- the row changes -/
theorem GH.rowCh (g : GH P w G C dx H0 H x ln le lb d rs l bs es) {ys : List V} (h : H row = some (.lst ys)) (f : H0 row = none) (r1 : row ≠ ln) (r2 : row ≠ le) (r3 : row ≠ lb) (r4 : row ∉ rs) (b : Bt row H H') : GH P w G C dx H0 H' x ln le lb d rs l bs es := by
  obtain ⟨nv, n1, n2⟩ := g.n
  obtain ⟨bv, b1, b2⟩ := g.b
  have t : Tm H H' := b.tm h
  exact ⟨fun b' o h1 h2 => b _ _ (ne_of_none h2 f) (g.ex b' o h1 h2), b _ _ (g.xne h) g.ins, ⟨nv, b _ _ (Ne.symm r1) n1, n2.mono t⟩, ⟨bv, b _ _ (Ne.symm r3) b1, b2.mono t⟩, b _ _ (Ne.symm r2) g.e, rows_mono t g.r fun r hr o q => b _ _ (fun z => r4 (z ▸ hr)) q, g.rn,
    g.pd.stay t fun o q => b _ _ (g.pd.no_lst h) q, g.fn, g.fe, g.fb, g.fd, g.n1, g.n2, g.n3⟩
/-- a node is laid to the others -/
theorem GH.node (g : GH P w G C dx H0 H x ln le lb d rs l bs es) {y : α} {p : Option (Nat × Nat)} (k : ∀ b o, b ≠ d → b ≠ ln → b ≠ lb → H b = some o → H' b = some o) (hn : ∃ nv, H' ln = some (.lst nv) ∧ RpL H' ((l ++ [y]).map G.da) nv)
    (hb : ∃ bv, H' lb = some (.lst bv) ∧ RpL H' ((bs ++ [p]).map fuseD) bv) (hd : NDict P w H' d (G.plac (l ++ [y]))) : GH P w G C dx H0 H' x ln le lb d rs (l ++ [y]) (bs ++ [p]) es ∧ Tm H H' := by
  obtain ⟨nv, n1, _⟩ := g.n
  obtain ⟨bv, b1, _⟩ := g.b
  have t : Tm H H' := fun b xs h => k _ _ (fun z => by
      obtain ⟨ys, h1, _⟩ := g.pd.at_
      rw [← z, h] at h1; unfold NDat at h1; cases h1) (ne_of h n1 (by intro z; cases z)) (ne_of h b1 (by intro z; cases z)) h
  refine ⟨⟨fun b o h1 h2 => k _ _ (ne_of_none h2 g.fd) (ne_of_none h2 g.fn) (ne_of_none h2 g.fb) (g.ex b o h1 h2), k _ _ (fun z => by
      obtain ⟨ys, h1, _⟩ := g.pd.at_
      rw [← z, g.ins] at h1; unfold NDat at h1; cases h1) (g.xne n1) (g.xne b1) g.ins, hn, hb, k _ _ (Ne.symm (g.pd.no_lst g.e)) (Ne.symm g.n1) g.n3 g.e, ?_, g.rn, hd, g.fn, g.fe, g.fb, g.fd, g.n1, g.n2, g.n3⟩, t⟩
  refine rows_mono t g.r fun r hr o q => k _ _ (fun z => ?_) (g.rn r hr).1 (g.rn r hr).2.2.1 q
  subst z
  have := g.r
  clear hd
  have key : ∀ {rs : List Addr} {es : List (List (τ × Nat))}, Paired (RowAt G H) rs es → ∀ r ∈ rs, ∃ ys, H r = some (.lst ys) := by
    intro rs es h
    induction h with
    | nil => intro r hr; cases hr
    | @cons a b l1 l2 q _ ih =>
      intro r hr
      rcases List.mem_cons.mp hr with rfl | hr
      · obtain ⟨ys, h, _⟩ := q; exact ⟨ys, h⟩
      · exact ih r hr
  obtain ⟨ys, hy⟩ := key g.r _ hr
  exact g.pd.no_lst hy rfl
/-- the row is laid to the others -/
theorem GH.edge (g : GH P w G C dx H0 H x ln le lb d rs l bs es) {rw_ : List (τ × Nat)} (h : RowAt G H row rw_) (f : H0 row = none) (r1 : row ≠ ln) (r2 : row ≠ le) (r3 : row ≠ lb) (b : Bt le H H') (h' : H' le = some (.lst (rs.map V.ref ++ [.ref row]))) : GH P w G C dx H0 H' x ln le lb d (rs ++ [row]) l bs (es ++ [rw_]) := by
  obtain ⟨nv, n1, n2⟩ := g.n
  obtain ⟨bv, b1, b2⟩ := g.b
  have t : Tm H H' := b.tm g.e
  refine ⟨fun b' o h1 h2 => b _ _ (ne_of_none h2 g.fe) (g.ex b' o h1 h2), b _ _ (g.xne g.e) g.ins, ⟨nv, b _ _ g.n1 n1, n2.mono t⟩, ⟨bv, b _ _ (Ne.symm g.n3) b1, b2.mono t⟩, by rw [h', List.map_append]; rfl, (rows_mono t g.r fun r hr o q => b _ _ (g.rn r hr).2.1 q).snoc (h.mono t fun o q => b _ _ r2 q), fun r hr => ?_,
    g.pd.stay t fun o q => b _ _ (g.pd.no_lst g.e) q, g.fn, g.fe, g.fb, g.fd, g.n1, g.n2, g.n3⟩
  rcases List.mem_append.mp hr with hr | hr
  · exact g.rn r hr
  · rw [List.mem_singleton.mp hr]; exact ⟨r1, r2, r3, f⟩
end
end
section
variable {P : Program} {w : World} {K : PySem.W.Frag} {mg : Str → Option Value} {base : Heap}
theorem Bas.cls (B : Bas w K mg) : Cls K (He.ga K "Graph") := He.cls_ok (B.fact (.cls "Graph") (mem_at (i := 85) rfl))
theorem Bas.noat (B : Bas w K mg) (f : Str) (i : Nat) (h : fa[i]? = some (.noat "Graph" f) := by rfl) : NoAttr K (He.ga K "Graph") f := He.noat_ok (B.fact _ (mem_at h))
/-! Graph.__init__: 0 self, 1 first, 2 most, 3 go, 4 places, 5 at, 6 row, 7 number, 8 told, 9 node -/
theorem sc_G_init : FnScope ["self", "first", "most", "go", "places", "at", "row", "number", "told", "node"] ["self", "first", "most", "go"] (d_G_init.scope) := ⟨rfl, rfl, rfl, by decide +kernel, rfl, by decide +kernel, by decide +kernel⟩
end
end K46
/-! part W10 -/
set_option maxHeartbeats 600000
namespace K46
open PySem PySem.Spec PyProof.Rows L2 Evl LamX NdefX
section
variable {P : Program} {w : World} {K : PySem.W.Frag} {mg : Str → Option Value} {base : Heap} {α τ : Type} [DecidableEq α]
theorem GP.bin (G : GP α τ) (n : Nat) : BIn G.S (G.b n).nodes (G.b n).before := bf_in G.f0 G.cl n
theorem GP.keyA (G : GP α τ) {H : Hp} {y : α} {v : V} (h : Rp H (G.da y) v) (hy : y ∈ G.S) : KeyA H (G.da y) v := by
  refine ⟨h, G.dep y hy, ?_⟩
  obtain ⟨ds, e⟩ := G.tup y
  rw [e] at h
  obtain ⟨a, _, e, _⟩ := h
  exact ⟨a, e⟩
/-- the graph as it stands behind -/
structure GrA (P : Program) (w : World) (K : PySem.W.Frag) (G : GP α τ) (H0 H : Hp) (x : Addr) (N : Nat) : Prop where
  at_ : ∃ dx ln le lb d rs, GH P w G (He.ga K "Graph") dx H0 H x ln le lb d rs (G.b N).nodes (G.b N).before (G.b N).edges
  all : (G.b N).nodes.length = N
  lt : ∀ n, n < N → n < (G.b n).nodes.length
theorem g_init (B : Bas w K mg) (G : GP α τ) {k j : Nat} {A : Around} {outer : List Env} {s : Shared} {H : Hp} {us : List Value} {x dx f : Addr} {v1 : V} {pn : Pins} {tr : Hp → Prop} {Q : VK}
    (hC : Clo P w K mg base k f pn tr (spGo G)) (hP : PinAt pn s H) (hnf : ∀ p ∈ pn, p.1 ∉ frs outer) (htr : tr H) (hjk : k ≤ j) (hr : Room (j + 1) A) (e0 : Env0 P w K mg base A outer s H) (r : Vals [.ref x, v1, vn G.m, .ref f] us)
    (hx : H x = some (.ins (He.ga K "Graph") dx [])) (h1 : Rp H (G.da G.first) v1) (k : ∀ H' N, GrA P w K G H H' x N → Q .non H') :
    codeAny (model P w) A (.call (.ref (He.ma K (He.ga K "Graph") "__init__")) ⟨us, []⟩) (CR CX0 outer P w H s Q E0) s := by
  obtain ⟨fd, F⟩ := B.def_ d_G_init (mem_at (i := 24) rfl)
  have F : FunD K d_G_init.name d_G_init.qual d_G_init.params d_G_init.body d_G_init.scope [] [] (He.ma K (He.ga K "Graph") "__init__") fd := F
  have hb := F.bindsN (ps := ["self", "first", "most", "go"]) (fun _ _ _ _ _ _ us hl => match us, hl with | [_, _, _, _], _ => rfl)
  obtain ⟨oc, od, dV, kV, doc, pm, an, cdv, ct, osl, rfl, lk, hcd, _, _⟩ := F.ex
  have KX : K.In s.heap := e0.mod.kin.keeps fun b o e => (e0.bs b o e).1
  have hul : us.length = 4 := r.length.symm
  refine run_ofS (N := ["self", "first", "most", "go", "places", "at", "row", "number", "told", "node"]) (ps := ["self", "first", "most", "go"]) (us := us) (vs := [.ref x, v1, vn G.m, .ref f]) lk hcd sc_G_init hr e0 (by have := hb s us KX (by rw [List.append_nil]; exact hul); rw [List.append_nil] at this; exact this) r rfl fun hr => ?_
  suffices hh : ∃ t, PSs (cxOf CX0 P w K mg base ["self", "first", "most", "go", "places", "at", "row", "number", "told", "node"] d_G_init.qual d_G_init.scope (He.ma K (He.ga K "Graph") "__init__") cdv A outer s H E0).nox d_G_init.body t ∧ t { nx := fun _ H' => Q .non H', rt := Q } (L2.start ["self", "first", "most", "go", "places", "at", "row", "number", "told", "node"] [.ref x, v1, vn G.m, .ref f]) H from
    let ⟨t, a, b⟩ := hh; ⟨t, a.nox, b⟩
  refine ⟨_, (pss_cons (ps_fld (pv 0) (pe_lstA (pa_cons (pv 1) pa_nil)) (by rfl))
    (pss_cons (ps_fld (pv 0) (pe_lstA pa_nil) (by rfl))
    (pss_cons (ps_fld (pv 0) (pe_lstA (pa_cons pe_non pa_nil)) (by rfl))
    (pss_cons (ps_par (i := 4) (j := 5) rfl sc_G_init.nd rfl rfl (by decide) rfl rfl (pa_cons (pe_dict1 hr.units (pv 1) pe_int) (pa_cons pe_int pa_nil)) (by rfl))
    (pss_one (ps_while PassesOwn.never (pt_cmpR op_ltN (pv 5) (pe_callB call_lenB (by rfl) (B.free 74) boot_len (pa_cons (pe_fld (pv 0) (by rfl)) pa_nil)) (nomark _))
      (pss_cons (ps_set (i := 6) sc_G_init.nd rfl (Or.inl rfl) (pe_lstA pa_nil))
      (pss_cons (ps_for PassesOwn.never rfl (pi_range1 (by rfl) (B.free 81) (pa_cons (pe_op op_addN (pv 2) pe_int) pa_nil)) (pg_name (i := 7) sc_G_init.nd rfl (Or.inl rfl))
        (pss_cons (ps_asg (pe_clo (i := 3) hC hP hnf rfl hr hjk (pa_cons (pe_ix ix_listN (pe_fld (pv 0) (by rfl)) (pv 5) (fun _ _ => rfl)) (pa_cons (pv 7) pa_nil))) (pg_tup rfl (pgs_cons (pg_name (i := 8) sc_G_init.nd rfl (Or.inl rfl)) (pgs_cons (pg_name (i := 9) sc_G_init.nd rfl (Or.inl rfl)) pgs_nil))))
        (pss_cut (ps_if (pt_cmpR (op_notInN hr.units) (pv 9) (pv 4) (by rfl))
          (pss_cons (ps_if (pt_cmpR op_eqN (pe_callB call_lenB (by rfl) (B.free 74) boot_len (pa_cons (pe_fld (pv 0) (by rfl)) pa_nil)) (pe_glob (v := .int 2000) (by rfl) (B.int 67).choose_spec ⟨_, rfl⟩) (nomark _))
            (pss_one ps_never)
            pss_nil)
          (pss_cons (ps_asg (pe_callB call_lenB (by rfl) (B.free 74) boot_len (pa_cons (pe_fld (pv 0) (by rfl)) pa_nil)) (pg_sub (pv 4) (pv 9) (put_N hr.units)))
          (pss_cons (ps_expr (pe_bm PySem.F.plainAttrs_list PySem.F.slot_list_append PySem.F.type_list_append mt_appB (pe_fld (pv 0) (by rfl)) (pa_cons (pv 9) pa_nil)))
          (pss_one (ps_expr (pe_bm PySem.F.plainAttrs_list PySem.F.slot_list_append PySem.F.type_list_append mt_appB (pe_fld (pv 0) (by rfl)) (pa_cons (pe_tupA (pa_cons (pv 5) (pa_cons (pv 7) pa_nil))) pa_nil)))))))
          pss_nil)
        (pss_one (ps_expr (pe_bm PySem.F.plainAttrs_list PySem.F.slot_list_append PySem.F.type_list_append mt_appB (pv 6) (pa_cons (pe_tupA (pa_cons (pv 8) (pa_cons (pe_dgetN hr.units (pv 4) (pv 9)) pa_nil))) pa_nil)))))))
      (pss_cons (ps_expr (pe_bm PySem.F.plainAttrs_list PySem.F.slot_list_append PySem.F.type_list_append mt_appB (pe_fld (pv 0) (by rfl)) (pa_cons (pv 6) pa_nil)))
      (pss_one (ps_set (i := 5) sc_G_init.nd rfl (Or.inl rfl) (pe_op op_addN (pv 5) pe_int)))))))))))), ?_⟩
  -- the three lists
  refine ⟨_, rfl, sz1, fun ln H1 n1 e1 q1 => ?_⟩
  refine ⟨_, rfl, x, _, dx, _, rfl, e1 _ _ hx, B.cls, B.noat "nodes" 88, (by show 0 < 1000; decide), ?_⟩
  refine mutl (l := x) (fun H2 b2 q2 => ?_)
  have xln : ln ≠ x := ne_of q1 (e1 _ _ hx) (by intro z; cases z)
  refine ⟨sz0, fun le H3 n3 e3 q3 => ?_⟩
  refine ⟨_, rfl, x, _, dx, _, rfl, e3 _ _ q2, B.cls, B.noat "edges" 89, (by show 1 < 1000; decide), ?_⟩
  refine mutl (l := x) (fun H4 b4 q4 => ?_)
  have xle : le ≠ x := ne_of q3 (e3 _ _ q2) (by intro z; cases z)
  refine ⟨sz1, fun lb H5 n5 e5 q5 => ?_⟩
  refine ⟨_, rfl, x, _, dx, _, rfl, e5 _ _ q4, B.cls, B.noat "before" 90, (by show 2 < 1000; decide), ?_⟩
  refine mutl (l := x) (fun H6 b6 q6 => ?_)
  have xlb : lb ≠ x := ne_of q5 (e5 _ _ q4) (by intro z; cases z)
  -- places, at
  have B2 : Bt x H H2 := (Bt.ofEx e1).trans b2
  have B4 : Bt x H H4 := (B2.trans (Bt.ofEx e3)).trans b4
  have B6 : Bt x H H6 := (B4.trans (Bt.ofEx e5)).trans b6
  have t6 : Tm H H6 := fun b xs h => B6 _ _ (ne_of h hx (by intro z; cases z)) h
  refine fun d H7 nd7 e7 D7 => ⟨_, rfl, D7, G.da G.first, G.keyA ((h1.mono t6).mono (tm_ex e7)) G.f0, fun H8 b8 D8 => ?_⟩
  have q1' : H2 ln = _ := b2 _ _ xln q1
  have q1'' : H4 ln = _ := b4 _ _ xln (e3 _ _ q1')
  have q1t : H6 ln = _ := b6 _ _ xln (e5 _ _ q1'')
  have q3' : H4 le = _ := b4 _ _ xle q3
  have q3t : H6 le = _ := b6 _ _ xle (e5 _ _ q3')
  have q5t : H6 lb = _ := b6 _ _ xlb q5
  have dnx : d ≠ x := Ne.symm (ne_of_none q6 nd7)
  have up : ∀ b o, H6 b = some o → H8 b = some o := fun b o h => b8 _ _ (ne_of_none h nd7) (e7 _ _ h)
  have B8 : Bt x H H8 := fun b o n h => up _ _ (B6 _ _ n h)
  have t8 : Tm H H8 := fun b xs h => B8 _ _ (ne_of h hx (by intro z; cases z)) h
  have g0 : GH P w G (He.ga K "Graph") dx H H8 x ln le lb d [] (G.b 0).nodes (G.b 0).before (G.b 0).edges :=
    ⟨B8, up _ _ q6, ⟨_, up _ _ q1t, _, [], rfl, h1.mono t8, rfl⟩, ⟨_, up _ _ q5t, _, [], rfl, rfl, rfl⟩, up _ _ q3t, .nil, fun r hr => absurd hr List.not_mem_nil, D8, n1, B2.none n3 xle, B4.none n5 xlb, B6.none nd7 dnx,
      ne_of_none q1' n3, ne_of_none q1'' n5, ne_of_none q3' n5⟩
  refine ⟨_, _, rfl, ?_⟩
  -- while at < len(self.nodes)
  refine ⟨fun M σ H' => ∃ n v6 v7 v8 v9 rs, σ = [some (.ref x), some v1, some (vn G.m), some (.ref f), some (.ref d), some (vn n), v6, v7, v8, v9] ∧ M = 2001 - n ∧ GH P w G (He.ga K "Graph") dx H H' x ln le lb d rs (G.b n).nodes (G.b n).before (G.b n).edges ∧ (∀ i, i < n → i < (G.b i).nodes.length) ∧ n ≤ (G.b n).nodes.length,
    ⟨2001, 0, none, none, none, none, [], rfl, rfl, g0, fun i hi => absurd hi (Nat.not_lt_zero _), Nat.zero_le _⟩, ?_⟩
  rintro M σ H9 ⟨n, v6, v7, v8, v9, rs, rfl, rfl, g, hlt, hle⟩
  obtain ⟨nv, hn1, hn2⟩ := g.n
  have hnl : nv.length = (G.b n).nodes.length := by rw [hn2.length, List.length_map]
  have hS := (G.bin n).le
  have hsz := G.sz
  refine ⟨_, rfl, _, rfl, x, _, dx, _, _, rfl, g.ins, B.cls, B.noat "nodes" 88, rfl, _, _, rfl, Or.inl hn1, _, _, rfl, rfl, _, rfl, ?_⟩
  by_cases hc : n < (G.b n).nodes.length
  · refine iT (decide_eq_true (by rw [hnl]; exact hc)) ?_
    obtain ⟨y, hy⟩ : ∃ y, (G.b n).nodes[n]? = some y := ⟨_, List.getElem?_eq_getElem hc⟩
    have hyS : y ∈ G.S := (G.bin n).sub y (List.mem_of_getElem? hy)
    have hbs := bf_succ (go := G.go) (m := G.m) (first := G.first) hy
    refine ⟨fun σ' H' => ∃ v6 v7 v8 v9 rs, σ' = [some (.ref x), some v1, some (vn G.m), some (.ref f), some (.ref d), some (vn (n + 1)), v6, v7, v8, v9] ∧ GH P w G (He.ga K "Graph") dx H H' x ln le lb d rs (G.b (n + 1)).nodes (G.b (n + 1)).before (G.b (n + 1)).edges, ?_, ?_⟩
    · rintro σ' H' ⟨v6, v7, v8, v9, rs, rfl, g⟩
      refine ⟨2001 - (n + 1), by omega, n + 1, v6, v7, v8, v9, rs, rfl, rfl, g, fun i hi => ?_, ?_⟩
      · by_cases h : i = n
        · rw [h]; exact hc
        · exact hlt i (by omega)
      · have := bf_grow G.go G.m G.first n
        have e1 : (G.b n).nodes.length = (bf G.go G.m G.first n).nodes.length := rfl
        show n + 1 ≤ (bf G.go G.m G.first (n + 1)).nodes.length
        omega
    -- row = []
    refine ⟨sz0, fun row Ha na ea qa => ?_⟩
    have ga := g.mono ea
    have fa : H row = none := g.ex.none na (fun z => by rw [z, g.ins] at na; cases na)
    have rln : row ≠ ln := Ne.symm (ne_of_none hn1 na)
    have rle : row ≠ le := Ne.symm (ne_of_none g.e na)
    obtain ⟨bv0, hb1, _⟩ := g.b
    have rlb : row ≠ lb := Ne.symm (ne_of_none hb1 na)
    have rrs : row ∉ rs := fun z => by
      have key : ∀ {rs : List Addr} {es : List (List (τ × Nat))}, Paired (RowAt G H9) rs es → ∀ r ∈ rs, ∃ ys, H9 r = some (.lst ys) := by
        intro rs es h
        induction h with
        | nil => intro r hr; cases hr
        | @cons a b l1 l2 q _ ih =>
          intro r hr
          rcases List.mem_cons.mp hr with rfl | hr
          · obtain ⟨ys, h, _⟩ := q; exact ⟨ys, h⟩
          · exact ih r hr
      obtain ⟨ys, hy⟩ := key g.r row z
      rw [na] at hy; cases hy
    -- for number in range(most + 1)
    have hm9 := G.m9
    refine ⟨_, rfl, _, 1, rfl, rfl, _, rfl, by omega, by omega, for_rangeN (n := G.m + 1)
      (fun i σ H' => ∃ v7 v8 v9, σ = [some (.ref x), some v1, some (vn G.m), some (.ref f), some (.ref d), some (vn n), some (.ref row), v7, v8, v9] ∧
        GH P w G (He.ga K "Graph") dx H H' x ln le lb d rs (bfFold G.go n y (G.b n) i).1.1 (bfFold G.go n y (G.b n) i).1.2 (G.b n).edges ∧ RowAt G H' row (bfFold G.go n y (G.b n) i).2)
      ⟨v7, v8, v9, rfl, ga, _, qa, rfl⟩ ?_ ?_⟩
    · rintro i σ Hb hi ⟨v7, v8, v9, rfl, gb, rb⟩
      have hget := bfFold_get (go := G.go) (at_ := n) (x := y) hy i
      have hin := bfFold_in (at_ := n) (G.bin n) (fun k hk => G.cl y hyS k hk) i (by omega)
      have hfl := (bfFold_len (go := G.go) (at_ := n) (x := y) (b := G.b n) i).2
      rw [bfFold_succ]
      have hrow := bfIn_row G.go n y (bfFold G.go n y (G.b n) i) i
      have hin' := bfIn_in (at_ := n) hin (G.cl y hyS i (by omega))
      generalize bfFold G.go n y (G.b n) i = acc at *
      obtain ⟨nvb, nb1, nb2⟩ := gb.n
      have nbl : nvb.length = acc.1.1.length := by rw [nb2.length, List.length_map]
      obtain ⟨vy, hvy, rvy⟩ := nb2.get (i := n) (d := G.da y) (by rw [List.getElem?_map, hget]; rfl)
      have trb : tr Hb := hC.st _ _ ⟨fun b φ h => gb.ex _ _ (fun z => by rw [z, hx] at h; cases h) h, fun b xs h => gb.ex _ _ (fun z => by rw [z, hx] at h; cases h) h⟩ htr
      -- told, node = go(self.nodes[at], number)
      refine ⟨rfl, trb, ?_⟩
      refine ⟨_, rfl, x, _, dx, _, _, rfl, gb.ins, B.cls, B.noat "nodes" 88, rfl, _, rfl, _, _, n, _, rfl, rfl, nb1, hvy, _, rfl, trb, y, i, _, rfl, hyS, by omega, rvy, fun Hc vr ec rc => ?_⟩
      obtain ⟨tp, xs, rfl, ht, tv, xr, rfl, rt, nv', xr2, rfl, rn, e3⟩ := rc
      cases (show xr2 = [] from e3)
      refine ⟨_, _, rfl, SqT.of ht, rfl, _, _, rfl, _, _, rfl, rfl, ?_⟩
      have gc := gb.mono ec
      have rowc := rb.mono (tm_ex ec) (ec row)
      have hyS' := G.cl y hyS i (by omega)
      -- if node not in places
      refine ⟨fun σ' H' => σ' = [some (.ref x), some v1, some (vn G.m), some (.ref f), some (.ref d), some (vn n), some (.ref row), some (vn i), some tv, some nv'] ∧
        GH P w G (He.ga K "Graph") dx H H' x ln le lb d rs (bfIn G.go n y acc i).1.1 (bfIn G.go n y acc i).1.2 (G.b n).edges ∧ RowAt G H' row acc.2 ∧ Rp H' (G.ta (G.go y i).1) tv ∧ Rp H' (G.da (G.go y i).2) nv', ?_, ?_⟩
      · refine ⟨_, rfl, _, rfl, d, _, G.da (G.go y i).2, rfl, gc.pd, G.keyA rn hyS', _, rfl, ?_⟩
        by_cases hm : (G.go y i).2 ∈ acc.1.1
        · refine iF (by rw [decide_eq_true ((G.plac_mem _ _).mpr hm)]; rfl) ?_
          have eb : bfIn G.go n y acc i = (acc.1, acc.2 ++ [((G.go y i).1, acc.1.1.idxOf (G.go y i).2)]) := if_pos hm
          refine ⟨rfl, ?_, rowc, rt, rn⟩
          rw [eb]; exact gc
        · refine iT (by rw [decide_eq_false (fun z => hm ((G.plac_mem _ _).mp z))]; rfl) ?_
          have eb : bfIn G.go n y acc i = ((acc.1.1 ++ [(G.go y i).2], acc.1.2 ++ [some (n, i)]), acc.2 ++ [((G.go y i).1, acc.1.1.length)]) := if_neg hm
          have hle2 := hin'.le
          rw [eb] at hle2
          have hl2 : acc.1.1.length + 1 ≤ 2000 := by
            have : (acc.1.1 ++ [(G.go y i).2]).length = acc.1.1.length + 1 := by simp
            have h2 : (acc.1.1 ++ [(G.go y i).2]).length ≤ G.S.length := hle2
            omega
          have hbl2 : acc.1.2.length = acc.1.1.length := hin.len
          obtain ⟨nvc, nc1, nc2⟩ := gc.n
          have ncl : nvc.length = acc.1.1.length := by rw [nc2.length, List.length_map]
          obtain ⟨bvc, bc1, bc2⟩ := gc.b
          have bcl : bvc.length = acc.1.2.length := by rw [bc2.length, List.length_map]
          -- if len(self.nodes) == LIMIT
          refine ⟨_, rfl, x, _, dx, _, _, rfl, gc.ins, B.cls, B.noat "nodes" 88, rfl, _, _, rfl, Or.inl nc1, _, 2000, rfl, rfl, _, rfl, ?_⟩
          refine iF (decide_eq_false (by rw [ncl]; omega)) ?_
          -- places[node] = len(self.nodes)
          refine ⟨_, rfl, x, _, dx, _, _, rfl, gc.ins, B.cls, B.noat "nodes" 88, rfl, _, _, rfl, Or.inl nc1, _, rfl, _, rfl, d, _, G.da (G.go y i).2, rfl, gc.pd, G.keyA rn hyS', fun z => hm ((G.plac_mem _ _).mp z), by rw [G.plac_len, sizeLine_eq]; omega, fun Hd bd Dd => ?_⟩
          have dln : ln ≠ d := Ne.symm (gc.pd.no_lst nc1)
          have dlb : lb ≠ d := Ne.symm (gc.pd.no_lst bc1)
          have insd : Hd x = _ := bd _ _ (fun z => by
            obtain ⟨ys, h1, _⟩ := gc.pd.at_
            rw [← z, gc.ins] at h1; unfold NDat at h1; cases h1) gc.ins
          have ncd := bd _ _ dln nc1
          have bcd := bd _ _ dlb bc1
          -- self.nodes.append(node)
          refine ⟨_, rfl, x, _, dx, _, _, rfl, insd, B.cls, B.noat "nodes" 88, rfl, Or.inl ⟨rfl, _, SqL.of ncd⟩, _, rfl, _, _, _, rfl, rfl, ncd, by rw [ncl, sizeLine_eq]; omega, fun He be he => ?_⟩
          have inse : He x = _ := be _ _ (gc.xne nc1) insd
          have bce := be _ _ (Ne.symm gc.n2) bcd
          -- self.before.append((at, number))
          refine ⟨_, rfl, x, _, dx, _, _, rfl, inse, B.cls, B.noat "before" 90, rfl, Or.inl ⟨rfl, _, SqL.of bce⟩, _, rfl, _, rfl, sz2, fun tq Hf ef hf => ?_⟩
          refine ⟨_, _, _, rfl, rfl, ef _ _ bce, by rw [bcl, hbl2, sizeLine_eq]; omega, fun Hg bg hg => ?_⟩
          have tqlb : tq ≠ lb := ne_of hf (ef _ _ bce) (by intro z; cases z)
          have all4 : ∀ b o, b ≠ d → b ≠ ln → b ≠ lb → Hc b = some o → Hg b = some o := fun b o h1 h2 h3 h => bg _ _ h3 (ef _ _ (be _ _ h2 (bd _ _ h1 h)))
          have tmd : Tm Hc Hg := fun b xs h => all4 _ _ (fun z => by
            obtain ⟨ys, h1, _⟩ := gc.pd.at_
            rw [← z, h] at h1; unfold NDat at h1; cases h1) (ne_of h nc1 (by intro z; cases z)) (ne_of h bc1 (by intro z; cases z)) h
          have tde : Tm Hd He := be.tm ncd
          have tfg : Tm Hf Hg := bg.tm (ef _ _ bce)
          have hlng : Hg ln = _ := bg _ _ gc.n2 (ef _ _ he)
          have gg := gc.node (y := (G.go y i).2) (p := some (n, i)) all4
            ⟨_, hlng, by rw [List.map_append]; exact (nc2.mono tmd).snoc (rn.mono tmd)⟩
            ⟨_, hg, by rw [List.map_append]; exact (bc2.mono tmd).snoc ⟨tq, _, rfl, bg _ _ tqlb hf, _, _, rfl, rfl, _, _, rfl, rfl, rfl⟩⟩
            (by
              rw [G.plac_snoc]
              have D1 := Dd.stay tde (fun o h => be _ _ (Dd.no_lst ncd) h)
              have D2 := (D1.ex ef).stay tfg (fun o h => bg _ _ ((D1.ex ef).no_lst (ef _ _ bce)) h)
              rw [ncl] at D2
              exact D2)
          refine ⟨rfl, ?_, ?_, rt.mono tmd, rn.mono tmd⟩
          · rw [eb]; exact gg.1
          · obtain ⟨ys, hys, rys⟩ := rowc
            exact ⟨ys, all4 _ _ (Ne.symm (gc.pd.no_lst hys)) rln rlb hys, rys.mono tmd⟩
      · -- row.append((told, places[node]))
        rintro σ' Hd ⟨rfl, gd, ⟨ys, hys, rys⟩, rt2, rn2⟩
        have hyl : ys.length = i := by rw [rys.length, List.length_map, hfl]
        refine ⟨_, rfl, Or.inl ⟨rfl, _, SqL.of hys⟩, _, rfl, _, rfl, _, rfl, d, _, G.da (G.go y i).2, (G.da (G.go y i).2, vn _), rfl, gd.pd, G.keyA rn2 hyS', G.plac_get _ _ hrow.2, rfl, sz2, fun p He ee hp => ?_⟩
        refine ⟨_, _, _, rfl, rfl, ee _ _ hys, by rw [hyl, sizeLine_eq]; omega, fun Hf bf hf => ?_⟩
        have tf : Tm He Hf := bf.tm (ee _ _ hys)
        have prow : p ≠ row := ne_of hp (ee _ _ hys) (by intro z; cases z)
        refine ⟨_, _, _, rfl, (gd.mono ee).rowCh (ee _ _ hys) fa rln rle rlb rrs bf, _, hf, ?_⟩
        rw [hrow.1, List.map_append]
        exact ((rys.mono (tm_ex ee)).mono tf).snoc ⟨p, _, rfl, bf _ _ prow hp, _, _, rfl, (rt2.mono (tm_ex ee)).mono tf, _, _, rfl, rfl, rfl⟩
    · -- self.edges.append(row)
      rintro σ' Hb ⟨v7, v8, v9, rfl, gb, rb⟩
      have hel := bf_edges G.go G.m G.first n
      have hrl : rs.length = (G.b n).edges.length := by
        have key : ∀ {rs : List Addr} {es : List (List (τ × Nat))}, Paired (RowAt G Hb) rs es → rs.length = es.length := by
          intro rs es h
          induction h with
          | nil => rfl
          | cons _ _ ih => simp [ih]
        exact key gb.r
      have hel' : (G.b n).edges.length ≤ n := hel
      refine ⟨_, rfl, x, _, dx, _, _, rfl, gb.ins, B.cls, B.noat "edges" 89, rfl, Or.inl ⟨rfl, _, SqL.of gb.e⟩, _, rfl, _, _, _, rfl, rfl, gb.e, by rw [List.length_map, hrl, sizeLine_eq]; omega, fun Hf bt hf => ?_⟩
      refine ⟨_, rfl, _, 1, rfl, rfl, ?_⟩
      refine ⟨_, _, _, _, rs ++ [row], rfl, ?_⟩
      show GH P w G (He.ga K "Graph") dx H Hf x ln le lb d (rs ++ [row]) (bf G.go G.m G.first (n + 1)).nodes (bf G.go G.m G.first (n + 1)).before (bf G.go G.m G.first (n + 1)).edges
      rw [hbs]
      exact gb.edge rb fa rln rle rlb bt hf
  · refine iF (decide_eq_false (by rw [hnl]; exact hc)) ?_
    exact k H9 n ⟨⟨_, ln, le, lb, d, rs, g⟩, by omega, hlt⟩
end
end K46
/-! part W11 -/
set_option maxHeartbeats 600000
namespace K46
open PySem PySem.Spec PyProof.Rows L2 Evl
/-! ### the way to a node -/
def pth (bs : List (Option (Nat × Nat))) : Nat → Nat → List Nat
  | 0, _ => []
  | k + 1, a => match bs[a]? with
    | some (some p) => pth bs k p.1 ++ [p.2]
    | _ => []
def pathTo (bs : List (Option (Nat × Nat))) (a : Nat) : List Nat := pth bs (a + 1) a
theorem pth_len (bs : List (Option (Nat × Nat))) : ∀ k a, (pth bs k a).length ≤ k
  | 0, _ => Nat.le_refl _
  | k + 1, a => by
    unfold pth
    split
    · have := pth_len bs k (by assumption : Nat × Nat).1
      simp; omega
    · exact Nat.zero_le _
def Par (bs : List (Option (Nat × Nat))) : Prop := ∀ (j : Nat) (p : Nat × Nat), bs[j]? = some (some p) → p.1 < j
theorem pth_two {bs : List (Option (Nat × Nat))} (h : Par bs) : ∀ (m b : Nat), b + 1 ≤ m → ∀ m', b + 1 ≤ m' → pth bs m b = pth bs m' b := by
  intro m
  induction m with
  | zero => intro b hb; omega
  | succ m ihm =>
    intro b hb m' hb'
    cases m' with
    | zero => omega
    | succ m' =>
      unfold pth
      cases e2 : bs[b]? with
      | none => rfl
      | some o2 =>
        cases o2 with
        | none => rfl
        | some p2 =>
          have hp2 := h b p2 e2
          simp only
          rw [ihm p2.1 (by omega) m' (by omega)]
theorem pth_fuel {bs : List (Option (Nat × Nat))} (h : Par bs) (k a : Nat) (hk : a + 1 ≤ k) : pth bs k a = pathTo bs a := pth_two h k a hk (a + 1) (Nat.le_refl _)
theorem pathTo_none {bs : List (Option (Nat × Nat))} {a : Nat} (e : bs[a]? = some none) : pathTo bs a = [] := by
  unfold pathTo pth; rw [e]
theorem pathTo_some {bs : List (Option (Nat × Nat))} (h : Par bs) {a : Nat} {p : Nat × Nat} (e : bs[a]? = some (some p)) : pathTo bs a = pathTo bs p.1 ++ [p.2] := by
  show pth bs (a + 1) a = _
  unfold pth; rw [e]
  simp only
  have hp := h a p e
  rw [pth_fuel h a p.1 (by omega)]
section
variable {P : Program} {w : World} {K : PySem.W.Frag} {mg : Str → Option Value} {base : Heap}
structure Met (P : Program) (w : World) (K : PySem.W.Frag) (mg : Str → Option Value) (base : Heap) (k : Nat) (f : Addr) (ps : List Str) (sp : Sp) : Prop where
  ex : ∃ fd, FnOk P w K mg base CX0 k f fd ps sp ∧ L2.Binds K fd ps []
theorem Bas.mrow (B : Bas w K mg) : Meth K (He.ga K "Graph") "row_to" (He.ma K (He.ga K "Graph") "row_to") := He.meth_ok (B.fact (.meth "Graph" "row_to") (mem_at (i := 87) rfl))
def spRowTo (K : PySem.W.Frag) : Sp := fun vs H Q _ => ∃ (x : Addr) (a : Nat) (dx lb : Addr) (fs : List (Str × V)) (bv : List V) (bs : List (Option (Nat × Nat))), vs = [.ref x, vn a] ∧ H x = some (.ins (He.ga K "Graph") dx fs) ∧ fs.lookup ("before" : Str) = some (.ref lb) ∧ H lb = some (.lst bv) ∧ RpL H (bs.map fuseD) bv ∧
  Par bs ∧ a < bs.length ∧ bs.length ≤ 2000 ∧ ∀ H' p, Ex H H' → H' p = some (.tup ((pathTo bs a).map vn)) → Q (.ref p) H'
/-! Graph.row_to: 0 self, 1 at, 2 found, 3 number -/
theorem sc_G_row_to : FnScope ["self", "at", "found", "number"] ["self", "at"] (d_G_row_to.scope) := ⟨rfl, rfl, rfl, by decide +kernel, rfl, by decide +kernel, by decide +kernel⟩
theorem m_row_to (B : Bas w K mg) : Met P w K mg base 1 (He.ma K (He.ga K "Graph") "row_to") ["self", "at"] (spRowTo K) := by
  obtain ⟨fd, F⟩ := B.def_ d_G_row_to (mem_at (i := 25) rfl)
  have F : FunD K d_G_row_to.name d_G_row_to.qual d_G_row_to.params d_G_row_to.body d_G_row_to.scope [] [] (He.ma K (He.ga K "Graph") "row_to") fd := F
  refine ⟨fd, F.ok sc_G_row_to (fun vs H Q E h => ?_) (fun cdv A outer s₀ H vs Q E hr h => ?_), F.bindsN (fun _ _ _ _ _ _ us hl => match us, hl with | [_, _], _ => rfl)⟩
  · obtain ⟨x, a, dx, lb, fs, bv, bs, rfl, _⟩ := h
    rfl
  · obtain ⟨x, a, dx, lb, fs, bv, bs, rfl, hx, hlk, hlb, hbv, hpar, hal, hbl, k⟩ := h
    have hbvl : bv.length = bs.length := by rw [hbv.length, List.length_map]
    suffices hh : ∃ t, PSs (cxOf CX0 P w K mg base ["self", "at", "found", "number"] d_G_row_to.qual d_G_row_to.scope (He.ma K (He.ga K "Graph") "row_to") cdv A outer s₀ H E).nox d_G_row_to.body t ∧ t { nx := fun _ H' => Q .non H', rt := Q } (L2.start ["self", "at", "found", "number"] [.ref x, vn a]) H from
      let ⟨t, p, q⟩ := hh; ⟨t, p.nox, q⟩
    refine ⟨_, (pss_cons (ps_set (i := 2) sc_G_row_to.nd rfl (Or.inl rfl) (pe_lstA pa_nil))
    (pss_cons (ps_while PassesOwn.never (pt_cmpR op_notN (pe_ix ix_listN (pe_fld (pv 0) (by rfl)) (pv 1) (fun _ _ => rfl)) pe_non (nomark _))
      (pss_cons (ps_asg (pe_ix ix_listN (pe_fld (pv 0) (by rfl)) (pv 1) (fun _ _ => rfl)) (pg_tup rfl (pgs_cons (pg_name (i := 1) sc_G_row_to.nd rfl (Or.inl rfl)) (pgs_cons (pg_name (i := 3) sc_G_row_to.nd rfl (Or.inl rfl)) pgs_nil))))
      (pss_one (ps_expr (pe_bm PySem.F.plainAttrs_list PySem.F.slot_list_append PySem.F.type_list_append mt_appB (pv 2) (pa_cons (pv 3) pa_nil))))))
    (pss_one (ps_ret (pe_callTy call_tupOf (by rfl) (B.free 73) boot_tuple (pa_cons (pe_revL (pv 2)) pa_nil)))))), ?_⟩
    refine ⟨sz0, fun fo H1 n1 e1 h1 => ?_⟩
    -- while self.before[at] is not None
    refine ⟨fun M σ H' => ∃ b acc v3, σ = [some (.ref x), some (vn b), some (.ref fo), v3] ∧ M = b ∧ b < bs.length ∧ acc.length + b ≤ a ∧ pathTo bs a = pathTo bs b ++ acc.reverse ∧ Ex H H' ∧ H' fo = some (.lst (acc.map vn)),
      ⟨a, a, [], none, rfl, rfl, hal, by simp, by simp, e1, h1⟩, ?_⟩
    rintro M σ H2 ⟨b, acc, v3, rfl, rfl, hb, hab, hpa, e2, h2⟩
    obtain ⟨vb, hvb, rvb⟩ := hbv.get (i := M) (d := fuseD bs[M]) (by rw [List.getElem?_map, List.getElem?_eq_getElem hb]; rfl)
    have rvb := rvb.mono (tm_ex e2)
    refine ⟨_, rfl, x, _, dx, _, _, rfl, e2 _ _ hx, B.cls, B.noat "before" 90, hlk, _, rfl, _, _, M, _, rfl, rfl, e2 _ _ hlb, hvb, rfl, _, rfl, ?_⟩
    have hfu := rp_fuse rvb
    have hbe : bs[M]? = some bs[M] := List.getElem?_eq_getElem hb
    generalize bs[M] = o at hfu hbe
    cases o with
    | none =>
      refine iF (by rw [show vb = .non from hfu]; rfl) ?_
      rw [pathTo_none hbe, List.nil_append] at hpa
      refine ⟨_, rfl, _, _, rfl, SqL.of h2, fun p3 n3 => ?_⟩
      refine ⟨_, _, rfl, upd_same, fun p4 H4 e4 h4 => ?_⟩
      refine k H4 p4 ((e2.trans (Ex.new n3)).trans e4) ?_
      rw [h4, hpa, List.map_reverse]
    | some p =>
      obtain ⟨t, rfl, ht⟩ := hfu
      have hp := hpar M p hbe
      refine iT (by rfl) ?_
      refine ⟨fun σ' H' => ∃ v3, σ' = [some (.ref x), some (vn p.1), some (.ref fo), v3] ∧ Ex H H' ∧ H' fo = some (.lst ((acc ++ [p.2]).map vn)), ?_, ?_⟩
      · rintro σ' H' ⟨v3, rfl, e, h⟩
        refine ⟨p.1, hp, p.1, acc ++ [p.2], v3, rfl, rfl, by omega, by simp; omega, ?_, e, h⟩
        rw [hpa, pathTo_some hpar hbe, List.reverse_append]; simp
      · refine ⟨_, rfl, x, _, dx, _, _, rfl, e2 _ _ hx, B.cls, B.noat "before" 90, hlk, _, rfl, _, _, M, _, rfl, rfl, e2 _ _ hlb, hvb, ?_⟩
        refine ⟨_, _, rfl, SqT.of ht, rfl, _, _, rfl, _, _, rfl, rfl, ?_⟩
        refine ⟨_, rfl, Or.inl ⟨rfl, _, SqL.of h2⟩, _, rfl, _, _, _, rfl, rfl, h2, by rw [List.length_map, sizeLine_eq]; omega, fun H3 b3 h3 => ?_⟩
        exact ⟨_, rfl, e2.bt n1 b3, by rw [h3, List.map_append]; rfl⟩
end
section
variable {X : Cx} {k j : Nat} {C f : Addr} {m : Str} {ps : List Str} {sp : Sp} {pos apos : Pos} {o e : Expr} {es : List Expr} {to : TE} {t : TA}
theorem pe_mtd {pl : Sem Bool} (M : Met X.prog X.w X.K X.mg X.base k f ps sp) (ho : PE X o to) (c : Cls X.K C) (hm : Meth X.K C m f) (hr : Room j X.A) (hk : k ≤ j) (ha : PA X (e :: es) t)
    (hst : starEach (e :: es) X.env = (false, eval e X.env) :: starEach es X.env := by rfl) (hpl : (backTo pos (starEach es X.env)).any (·.1) = false := by rfl)
    (ht : eval (.Call (.Attribute o m apos) (e :: es) [] pos) X.env = (do
      let ov ← eval o X.env
      standAt apos.atName
      let (f, first) ← holding [ov] (getMethod ov m pl)
      callWith pos f first (backTo pos (starEach (e :: es) X.env)) (backToKw pos (keywordEach [] X.env))) := by rfl) :
    PE X (.Call (.Attribute o m apos) (e :: es) [] pos) (tMeth C m sp [] E0 to t) := by
  obtain ⟨fd, F, hb⟩ := M.ex
  exact pe_meth ho c hm F (hr.mono hk) hb .nil pass0 ha hst hpl ht
end
end K46
/-! part W12 -/
set_option maxHeartbeats 600000
namespace K46
open PySem PySem.Spec PyProof.Rows L2 Evl LamX NdefX
section
variable {P : Program} {w : World} {K : PySem.W.Frag} {mg : Str → Option Value} {base : Heap}
/-- a def of the text, its code object told -/
theorem Bas.calC (B : Bas w K mg) (x : Str) (i j : Nat) {d : He.DefD} {N ps : List Str} {k : Nat} {sp : Sp} (hd : fn[i]? = some d) (hj : fa[j]? = some (.glo x)) (hat : d.at_ = (x, none)) (hdf : d.dfl = []) (hkw : d.kwd = []) (S : FnScope N ps d.scope)
    (len : ∀ vs H Q E, sp vs H Q E → vs.length = ps.length)
    (hb : ∀ (kV doc pm : Value) (an : Option Addr) (cdv ct : Value) (us : List Value), us.length = ps.length → bindArgs (PySem.W.fnOf d.name d.qual d.params d.body d.scope .none kV doc pm an cdv ct) ⟨us, []⟩ = pure (ps.zip us))
    (hbody : ∀ (f : Addr) (A : Around) (outer : List Env) (s : Shared) (H : Hp) (vs : List V) (Q : VK) (E : XK), Room k (A.deeper (envOfC d.qual d.scope s.heap.objs.size f (.ref (He.codeOf K d.at_)))) → sp vs H Q E →
      ∃ t, PSs (cxOf CX0 P w K mg base N d.qual d.scope f (.ref (He.codeOf K d.at_)) A outer s H E).nox d.body t ∧ t { nx := fun _ H' => Q .non H', rt := Q } (start N vs) H) : Cal P w K mg base (k + 1) x ps sp := by
  obtain ⟨fd, F⟩ := B.def_ d (mem_at hd)
  have e1 : d.dvs K = [] := by unfold He.DefD.dvs; rw [hdf]; rfl
  have e2 : d.kws K = [] := by unfold He.DefD.kws; rw [hkw]; rfl
  rw [e1, e2] at F
  have e3 : He.fAd K d.at_ = He.ga K x := by rw [hat]; rfl
  have hB := F.bindsN hb
  have kp := F.kp
  obtain ⟨oc, od, dV, kV, doc, pm, an, cdv, ct, osl, rfl, lk, hcd, _, _⟩ := F.ex
  obtain ⟨c, rfl⟩ := He.codeIn_ref hcd
  have hc : He.codeOf K d.at_ = c := He.codeOf_eq lk rfl
  rw [hc] at hbody
  have lk' := lk
  rw [e3] at lk' kp
  exact ⟨_, _, fn_of lk' hcd S len (fun A outer s H vs Q E hr h => let ⟨t, h1, h2⟩ := hbody _ A outer s H vs Q E hr h; ⟨t, h1.nox, h2⟩), B.glo j hj, kp, hB⟩
/-! ### the tables of code objects -/
abbrev tA (K : PySem.W.Frag) : Addr := (He.cT K ("alike", none)).2
abbrev tW (K : PySem.W.Frag) : Addr := (He.cT K ("worth_of", none)).2
abbrev tL (K : PySem.W.Frag) : Addr := (He.cT K ("long_run", none)).2
def Tq (K : PySem.W.Frag) : List (Addr × Str) := [(tA K, "alike.<locals>.<lambda>"), (tW K, "worth_of.<locals>.<lambda>"), (tL K, "long_run.<locals>.go")]
structure Bat (K : PySem.W.Frag) (mg : Str → Option Value) (base : Heap) : Prop where
  a : TabB base mg (He.codeOf K ("alike", none)) (tA K)
  w : TabB base mg (He.codeOf K ("worth_of", none)) (tW K)
  l : TabB base mg (He.codeOf K ("long_run", none)) (tL K)
  n1 : tA K ≠ tW K
  n2 : tA K ≠ tL K
  n3 : tW K ≠ tL K
/-! ### Graph(first, most, a function with captured cells) -/
theorem Bas.mkG (B : Bas w K mg) : Mk K (He.ga K "Graph") (He.ma K (He.ga K "Graph") "__init__") := He.mkr_ok (B.fact (.mkr "Graph") (mem_at (i := 86) rfl))
end
section
variable {α τ : Type} [DecidableEq α]
theorem run_graph {X : Cx} (B : Bas X.w X.K X.mg) (G : GP α τ) {pins : List (Addr × Obj)} {σ : L2.St} {H : Hp} {s : Shared} {Q : VK} {us : List Value} {v1 : V} {f : Addr} {pn : Pins} {tr : Hp → Prop} {k j : Nat} (I : Inv X pins σ H s)
    (hC : Clo X.prog X.w X.K X.mg X.base k f pn tr (spGo G)) (hP : PinAt pn s H) (hnf : ∀ p ∈ pn, p.1 ∉ frs X.stack) (htr : tr H) (hr : Room (j + 2) X.A) (hjk : k ≤ j) (r : Vals [v1, vn G.m, .ref f] us) (h1 : Rp H (G.da G.first) v1)
    (q : ∀ H' g n H0, H g = none → Ex H H' → GrA X.prog X.w X.K G H0 H' g n → Q (.ref g) H') : wpAny (model X.prog X.w) X.A (call (.ref (He.ga X.K "Graph")) us) (EP X pins σ Q) X.xe s := by
  have M := B.mkG
  have f1 := I.hok.fresh (Nat.le_succ s.heap.objs.size)
  have f2 := I.hok.fresh (Nat.le_refl s.heap.objs.size)
  have I2 := Inv.made (C := He.ga X.K "Graph") I
  have r2 : Vals (V.ref (s.heap.objs.size + 1) :: [v1, vn G.m, .ref f]) (Value.ref (s.heap.objs.size + 1) :: us) := .cons rfl r
  have ex2 : Ex H (upd (upd H s.heap.objs.size (.own (s.heap.objs.size + 1))) (s.heap.objs.size + 1) (.ins (He.ga X.K "Graph") s.heap.objs.size [])) := fun b o h => by
    rw [upd_ne (ne_of_none h f1), upd_ne (ne_of_none h f2)]; exact h
  have hP2 : PinAt pn { s with heap := (s.heap.push PySem.W.emptyDict).push (PySem.W.instObj (He.ga X.K "Graph") s.heap.objs.size) } (upd (upd H s.heap.objs.size (.own (s.heap.objs.size + 1))) (s.heap.objs.size + 1) (.ins (He.ga X.K "Graph") s.heap.objs.size [])) := fun p hp => by
    obtain ⟨a, b⟩ := hP p hp
    have hlt := Heap.lt_size a
    refine ⟨Heap.get?_push_of_some _ (Heap.get?_push_of_some _ a), ?_⟩
    rw [upd_ne (Nat.ne_of_lt (Nat.lt_succ_of_lt hlt)), upd_ne (Nat.ne_of_lt hlt)]; exact b
  refine wpAny_call (make_map (f := He.ma X.K (He.ga X.K "Graph") "__init__") I.kIn M.makes M.init (beq_iff_eq.mp M.fn) (codeAny_mono (g_init (x := s.heap.objs.size + 1) (dx := s.heap.objs.size) (j := j) (Q := fun v H2 => v = .non ∧ Q (.ref (s.heap.objs.size + 1)) H2) B G hC hP2 hnf (hC.st _ _ (sty_ex ex2) htr) hjk (hr.make (He.ga X.K "Graph") us [])
    (I2.env0.make (He.ga X.K "Graph") us []) r2 upd_same (h1.mono (tm_ex ex2)) (fun H' N g => ⟨rfl, q H' _ N _ f1 (fun b o h => ?_) g⟩)) fun r s' hq' => ?_))
  · obtain ⟨dx, ln, le, lb, d, rs, gh⟩ := g.at_
    exact gh.ex _ _ (ne_of_none h f1) (ex2 _ _ h)
  · cases r with
    | error e => exact (show False from hq').elim
    | ok fl =>
      cases fl with
      | ret u =>
        obtain ⟨v, H', I3, rv, ev, q3⟩ := I2.after hq'
        subst ev
        exact ⟨rv, ⟨V.ref (s.heap.objs.size + 1), H', I3, rfl, q3⟩⟩
      | next => exact False.elim hq'
      | brk => exact False.elim hq'
      | cont => exact False.elim hq'
end
section
variable {X : Cx} {k j : Nat} {N ps fr : List Str} {js : List Nat} {e1 e2 body : Expr} {t1 t2 tb : TE} {params : Arguments} {scope : Scope} {p lpos pos : Pos} {c Pt : Addr}
def tGraphL (X : Cx) (N ps : List Str) (js : List Nat) (t1 t2 tb : TE) : TE := fun σ H Q => t1 σ H fun v1 H1 => t2 σ H1 fun v2 H2 => Tabs (Tq X.K) H2 ∧ ∃ (α τ : Type) (i : DecidableEq α) (G : GP α τ), v2 = vn G.m ∧ Rp H2 (G.da G.first) v1 ∧
  (∀ vs H' Q', Tm H2 H' → spGo G vs H' Q' E0 → tb (startF N vs (js.map (slotAt σ))) H' Q') ∧ ∀ H3 H' g n H0, ExtN H2 H3 → Tabs (Tq X.K) H3 → H3 g = none → Ex H3 H' → GrA X.prog X.w X.K G H0 H' g n → Q (.ref g) H'
theorem pe_graphL (B : Bas X.w X.K X.mg) (hg : Gl X "Graph") (TB : TabB X.base X.mg c Pt) (hcode : X.env.code = .ref c) (hmT : (Pt, X.env.qual ++ "<lambda>") ∈ Tq X.K) (hu : ∀ p ∈ Tq X.K, p.1 = Pt → p.2 = X.env.qual ++ "<lambda>") (hr : Room (j + 2) X.A) (hjk : k + 1 ≤ j) (hdef : defaultsOf params X.env = ([], [])) (hfn : ∀ x, X.fn x = true)
    (S : NScope N ps fr scope) (hfree : ∀ y ∈ scope.names, y.2 = .free → X.env.scope.names.lookup y.1 = some .cell ∨ X.env.scope.names.lookup y.1 = some .free) (hfr : ∀ y ∈ fr, (y, NameKind.free) ∈ scope.names) (hjs : js.map (fun j => X.N[j]?) = fr.map some) (hps : ps.length = 2)
    (hbind : ∀ (q : Str) (cl : List (Str × Addr)) (pm cv ctv : Value) (us : List Value), us.length = ps.length → bindArgs (PySem.W.kla_fn "<lambda>" q params body scope cl pm cv ctv) ⟨us, []⟩ = pure (ps.zip us))
    (hbody : ∀ (q : Str) (cl : List (Str × Addr)) (c' f : Addr) (A : Around) (outer : List Env) (s : Shared) (H : Hp), Room k (A.deeper (envF ⟨"<lambda>", q, params, [], scope, cl, c'⟩ f s.heap.objs.size)) → PE (ncx CX0 X.prog X.w X.K X.mg X.base N ⟨"<lambda>", q, params, [], scope, cl, c'⟩ f A outer s H E0) body tb)
    (h1 : PE X e1 t1) (h2 : PE X e2 t2) (hs : starEach [e1, e2, .Lambda params body scope lpos] X.env = [(false, eval e1 X.env), (false, eval e2 X.env), (false, eval (.Lambda params body scope lpos) X.env)] := by rfl)
    (hs0 : starEach [e1, e2, .Lambda params body scope lpos] X.env = (false, eval e1 X.env) :: starEach [e2, .Lambda params body scope lpos] X.env := by rfl) (hpl : (backTo pos (starEach [e2, .Lambda params body scope lpos] X.env)).any (·.1) = false := by rfl) :
    PE X (.Call (.Name "Graph" p) [e1, e2, .Lambda params body scope lpos] [] pos) (tGraphL X N ps js t1 t2 tb) := by
  refine ⟨fun pins s σ H Q I h => ?_⟩
  refine wpAny_Call_Name_kw (ld_glob I hg (B.glo 56) ?_ (by decide))
  refine PySem.W.callWith_K (h₀ := X.base) I.ok.mod.kin B.mkG.kp ?_ hs0 hpl
  rw [hs]
  show wpAny _ _ (spliced [(false, eval e1 X.env), (false, eval e2 X.env), (false, eval (.Lambda params body scope lpos) X.env)]) _ _ s
  refine Calls.spliced_cons (thn (h1.run pins s σ H _ I h) fun u1 s1 ⟨v1, H1, I1, r1, q1⟩ => ?_)
  refine Calls.spliced_cons (thn (h2.run pins s1 σ H1 _ I1 q1) fun u2 s2 ⟨v2, H2, I2, r2, hT, α, τ, inst, G, e2, hG, hspec, q⟩ => ?_)
  subst e2
  have hfr' : ∀ y ∈ scope.names, y.2 = .free → ∃ c, X.env.cells.lookup y.1 = some c := fun y hy e => (hfree y hy e).elim (fun z => I.ok.has _ (.inl z)) fun z => I.ok.has _ (.inr z)
  refine Calls.spliced_cons (lam_make2 I2 TB hcode hmT hu hT hdef hfr' fun f c' pm ctv H3 s3 I3 eN T3 hf hfn3 hfr3 hc3 => Calls.spliced_nil ⟨I3.kIn, ?_⟩)
  show wpAny _ _ (call (.ref (He.ga X.K "Graph")) [u1, u2, .ref f]) _ _ _
  have cap : Caps X (cloFrom X.env.cells scope.names []) fr js := Caps.made I.ok hfree hfr hjs
  have CA : CellsAt (cloFrom X.env.cells scope.names []) fr (js.map (slotAt σ)) s3.heap H3 := cells_of I3 cap
  have hC := clo_lam (P := X.prog) (w := X.w) (K := X.K) (mg := X.mg) (base := X.base) (k := k) (f := f) (F := ⟨"<lambda>", X.env.qual ++ "<lambda>", params, [], scope, cloFrom X.env.cells scope.names [], c'⟩) (e := body) (pm := pm) (ctv := ctv) S CA (hbind _ _ _ _ _)
    (sp := spGo G) (fun vs H Q E ⟨x, n, v, e, _⟩ => by rw [e, hps]; rfl) (fun A outer s H vs Q hr htm hsp => ⟨tb, hbody _ _ _ _ _ _ _ _ hr, hspec vs H Q (Tm.trans (fun b xs h => eN _ _ h (fun ps z => by cases z)) htm) hsp⟩)
  refine run_graph B G I3 hC (fun p hp => ?_) (fun p hp => ?_) ⟨hc3, Tm.refl _⟩ hr hjk (.cons r1 (.cons r2 (.cons rfl .nil))) (hG.mono fun b xs h => eN _ _ h (fun ps z => by cases z)) (fun H' g n H0 hg0 ex hgr => q H3 H' g n H0 eN T3 hg0 ex hgr)
  · rcases List.mem_cons.mp hp with rfl | hp
    · exact ⟨hf, hfn3⟩
    · exact pinsOf_at CA p hp
  · rcases List.mem_cons.mp hp with rfl | hp
    · exact hfr3
    · obtain ⟨y, e, _⟩ := mem_pinsOf hp
      exact cell_nofr I3 hfn (cap.sub y _ e)
end
end K46
/-! part W13 -/
set_option maxHeartbeats 600000
namespace K46
open PySem PySem.Spec PyProof.Rows L2 Evl LamX NdefX
/-! ### states as keys -/
theorem keys_map {α : Type} (f : α → Da) (l : List α) : keys (l.map f) = l.map fun x => key (f x) := by
  induction l with
  | nil => rfl
  | cons x r ih => rw [List.map_cons, keys, ih, List.map_cons]
theorem map_inj {α β : Type} {f : α → β} (h : ∀ x y, f x = f y → x = y) : ∀ {l m : List α}, l.map f = m.map f → l = m
  | [], [], _ => rfl
  | [], _ :: _, e => by simp at e
  | _ :: _, [], e => by simp at e
  | x :: l, y :: m, e => by
    simp at e
    rw [h x y e.1, map_inj h (l := l) (m := m) (by simpa using e.2)]
theorem prK_inj (p q : Nat × Nat) (h : key (prD p) = key (prD q)) : p = q := by
  simp [prD, key, keys] at h
  exact Prod.ext (by omega) (by omega)
theorem dnK_inj (m n : Nat) (h : key (dn m) = key (dn n)) : m = n := by
  simp [key] at h; omega
theorem staK_inj (x y : Sta) (h : key x.da = key y.da) : x = y := by
  unfold Sta.da Sta.qD Sta.lD at h
  simp only [key, keys, NestedKey.tup.injEq, List.cons.injEq, NestedKey.num.injEq, and_true] at h
  obtain ⟨h1, h2, h3, h4, h5⟩ := h
  rw [keys_map, keys_map] at h2 h3
  have e1 := map_inj prK_inj h2
  have e2 := map_inj dnK_inj h3
  obtain ⟨a, b, c, d, e⟩ := x
  obtain ⟨a', b', c', d', e'⟩ := y
  simp at h1 h4 h5 e1 e2
  subst e1 e2
  rw [show a = a' by omega, show d = d' by omega, show e = e' by omega]
theorem depthAll_map {α : Type} {f : α → Da} {n : Nat} : ∀ {l : List α}, (∀ x ∈ l, (key (f x)).depth ≤ n) → NestedKey.depthAll (keys (l.map f)) ≤ n
  | [], _ => Nat.zero_le _
  | x :: l, h => Nat.max_le.mpr ⟨h x (List.mem_cons_self ..), depthAll_map fun y hy => h y (List.mem_cons_of_mem _ hy)⟩
theorem sta_depth (x : Sta) : (key x.da).depth ≤ 3 := by
  have h1 : NestedKey.depthAll (keys (x.q.map prD)) ≤ 1 := depthAll_map fun p _ => by simp [prD, key, keys, NestedKey.depth, NestedKey.depthAll]
  have h2 : NestedKey.depthAll (keys (x.l.map dn)) ≤ 0 := depthAll_map fun p _ => by simp [key, NestedKey.depth]
  simp only [Sta.da, Sta.qD, Sta.lD, key, keys, NestedKey.depth, NestedKey.depthAll]
  omega
/-! ### the pairs of states -/
abbrev Pr := Sta × Sta
def Pr.da (p : Pr) : Da := .tup [p.1.da, p.2.da]
def goP (s t : Setg) (p : Pr) (n : Nat) : Bool × Pr := (decide ((stp s p.1 n).ans = (stp t p.2 n).ans), ((stp s p.1 n).st, (stp t p.2 n).st))
/-- a list of pairs that holds all that comes -/
structure PairCl (s t : Setg) (m : Nat) (S : List Pr) : Prop where
  f0 : (fst0 s, fst0 t) ∈ S
  cl : ∀ p ∈ S, ∀ n, n ≤ m → (goP s t p n).2 ∈ S
  sz : S.length ≤ 2000
  ok : ∀ p ∈ S, StOk s p.1 ∧ StOk t p.2
  m9 : m ≤ 9
def gpP {s t : Setg} {m : Nat} {S : List Pr} (h : PairCl s t m S) : GP Pr Bool where
  da := Pr.da
  ta := .bl
  go := goP s t
  m := m
  S := S
  first := (fst0 s, fst0 t)
  f0 := h.f0
  tup := fun x => ⟨_, rfl⟩
  dep := fun x _ => by
    have h1 := sta_depth x.1
    have h2 := sta_depth x.2
    simp only [Pr.da, key, keys, NestedKey.depth, NestedKey.depthAll]
    omega
  inj := fun x y e => by
    simp only [Pr.da, key, keys, NestedKey.tup.injEq, List.cons.injEq, and_true] at e
    exact Prod.ext (staK_inj _ _ e.1) (staK_inj _ _ e.2)
  cl := h.cl
  sz := h.sz
  m9 := h.m9
/-! ### they compare -/
theorem cmp_nums : ∀ (l m : List Nat), cmpL (l.map dn) (m.map dn)
  | [], _ => by cases ‹List Nat› <;> trivial
  | _ :: _, [] => trivial
  | _ :: l, _ :: m => ⟨trivial, cmp_nums l m⟩
theorem cmp_prs : ∀ (l m : List (Nat × Nat)), cmpL (l.map prD) (m.map prD)
  | [], _ => by cases ‹List (Nat × Nat)› <;> trivial
  | _ :: _, [] => trivial
  | _ :: l, _ :: m => ⟨⟨trivial, trivial, trivial⟩, cmp_prs l m⟩
theorem cmp_sta (x y : Sta) : cmpD x.da y.da := ⟨trivial, cmp_prs _ _, ⟨cmp_nums _ _, trivial⟩, trivial, trivial, trivial⟩
theorem cmp_pr (x y : Pr) : cmpD x.da y.da := ⟨cmp_sta _ _, cmp_sta _ _, trivial⟩
/-! ### rows that agree -/
def RowsT (es : List (List (Bool × Nat))) (a : Nat) : Prop := ∀ (i : Nat) (row : List (Bool × Nat)), i < a → es[i]? = some row → ∀ e ∈ row, e.1 = true
/-- the first edge that differs -/
structure Apart (es : List (List (Bool × Nat))) (a n : Nat) : Prop where
  at_ : ∃ row e, es[a]? = some row ∧ row[n]? = some e ∧ e.1 = false ∧ ∀ (k : Nat) (e' : Bool × Nat), k < n → row[k]? = some e' → e'.1 = true
  be : RowsT es a
theorem par_of {go : Pr → Nat → Bool × Pr} {m : Nat} {first : Pr} {l : List Pr} {bs : List (Option (Nat × Nat))} (h : BSnd go m first l bs) : Par bs := fun j p e => by
  by_cases hj : 0 < j
  · have hl : j < l.length := by rw [← h.len]; exact (List.getElem?_eq_some_iff.mp e).1
    obtain ⟨q, x, h1, h2, _⟩ := h.s j hj hl
    rw [e] at h1; cases h1
    exact h2
  · have : j = 0 := by omega
    subst this
    rw [h.z] at e; cases e
theorem Bat.hu_a {K : PySem.W.Frag} {mg : Str → Option Value} {base : Heap} (T : Bat K mg base) : ∀ p ∈ Tq K, p.1 = tA K → p.2 = "alike.<locals>.<lambda>" := fun p hp e => by
  unfold Tq at hp
  rcases List.mem_cons.mp hp with rfl | hp
  · rfl
  rcases List.mem_cons.mp hp with rfl | hp
  · exact absurd e.symm T.n1
  rcases List.mem_cons.mp hp with rfl | hp
  · exact absurd e.symm T.n2
  · cases hp
theorem en_ex {H H' : Hp} (e : Ex H H') : ExtN H H' := fun b o h _ => e b o h
theorem tm_en {H H' : Hp} (e : ExtN H H') : Tm H H' := fun b xs h => e b _ h (fun ps z => by cases z)
section
variable {P : Program} {w : World} {K : PySem.W.Frag} {mg : Str → Option Value} {base : Heap}
def spAlike (K : PySem.W.Frag) : Sp := fun vs H Q _ => ∃ (s t : Setg) (m : Nat) (S : List Pr) (v1 v2 : V) (h : PairCl s t m S), vs = [v1, v2, vn m] ∧ Rp H s.da v1 ∧ Rp H t.da v2 ∧ SetOk s ∧ SetOk t ∧ 1 ≤ m ∧ Tabs (Tq K) H ∧
  (∀ N a n H' v, ((gpP h).b N).nodes.length = N → BAll (goP s t) m (fst0 s, fst0 t) N → Apart ((gpP h).b N).edges a n → ExtN H H' → Tabs (Tq K) H' → Rp H' (.tup [.str "apart", .tup ((pathTo ((gpP h).b N).before a ++ [n]).map dn)]) v → Q v H') ∧
  (∀ N H' a w, ((gpP h).b N).nodes.length = N → BAll (goP s t) m (fst0 s, fst0 t) N → RowsT ((gpP h).b N).edges N → ExtN H H' → Tabs (Tq K) H' → H' a = some (.tup [.str "alike", w]) → Q (.ref a) H')
/-! alike: 0 one, 1 other, 2 most, 3 graph, 4 at, 5 row, 6 number, 7 are_same, 8 then -/
theorem sc_alike : FnScope ["one", "other", "most", "graph", "at", "row", "number", "are_same", "then"] ["one", "other", "most"] (d_alike.scope) := ⟨rfl, rfl, rfl, by decide +kernel, rfl, by decide +kernel, by decide +kernel⟩
theorem c_alike (B : Bas w K mg) (BT : Bat K mg base) : Cal P w K mg base 8 "alike" ["one", "other", "most"] (spAlike K) := by
  have C_need_setting := c_need_setting (P := P) (base := base) B
  have C_need_most := c_need_most (P := P) (base := base) B
  have C_both := c_both (P := P) (base := base) B
  have C_first_of := c_first_of (P := P) (base := base) B
  refine B.calC "alike" 27 25 (d := d_alike) rfl rfl rfl rfl rfl sc_alike (fun vs H Q E h => ?_) (fun _ _ _ _ _ _ us hl => match us, hl with | [_, _, _], _ => rfl) (fun f A outer s₀ H vs Q E hr h => ?_)
  · obtain ⟨s, t, m, S, v1, v2, h, rfl, _⟩ := h
    rfl
  · obtain ⟨s, t, m, S, v1, v2, h, rfl, r1, r2, O1, O2, hm, hT, kap, kal⟩ := h
    have C_row_to := m_row_to (P := P) (base := base) B
    have C_both := c_both (P := P) (base := base) B
    refine ⟨_, (pss_cons (ps_expr (pe_cal C_need_setting hr (by first | decide | omega) (by rfl) (pa_cons (pv 0) pa_nil)))
    (pss_cons (ps_expr (pe_cal C_need_setting hr (by first | decide | omega) (by rfl) (pa_cons (pv 1) pa_nil)))
    (pss_cons (ps_expr (pe_calD C_need_most hr (by decide) (by rfl) (pa_cons (pv 2) pa_nil)))
    (pss_cons (ps_set (i := 3) sc_alike.nd rfl (Or.inl rfl) (pe_graphL (k := 4) (N := ["pair", "fresh", "one", "other"]) (ps := ["pair", "fresh"]) (fr := ["one", "other"]) (js := [0, 1]) B (by rfl) BT.a rfl (List.mem_of_getElem? (i := 0) rfl) (BT.hu_a) hr (by decide) rfl (fun _ => rfl) (nscope_by (by decide +kernel)) (ndef_free (sc := d_alike.scope) (fr := ["one", "other"]) (by decide +kernel)) (ndef_fr (sc := d_alike.scope) (fr := ["one", "other"]) (by decide +kernel)) rfl rfl (fun q cl pm cv ctv us hl => match us, hl with | [_, _], _ => rfl) (fun q cl c2 f2 A2 outer2 s2 H2 hr => (pe_cal C_both hr (by first | decide | omega) (by rfl) (pa_cons (pv 2) (pa_cons (pv 3) (pa_cons (pv 0) (pa_cons (pv 1) pa_nil)))))) (pe_tupA (pa_cons (pe_cal C_first_of hr (by first | decide | omega) (by rfl) (pa_cons (pv 0) pa_nil)) (pa_cons (pe_cal C_first_of hr (by first | decide | omega) (by rfl) (pa_cons (pv 1) pa_nil)) pa_nil))) (pv 2)))
    (pss_cons (ps_for PassesOwn.never rfl (pi_enum (by rfl) (B.free 80) (pa_cons (pe_fld (pv 3) (by rfl)) pa_nil)) (pg_tup rfl (pgs_cons (pg_name (i := 4) sc_alike.nd rfl (Or.inl rfl)) (pgs_cons (pg_name (i := 5) sc_alike.nd rfl (Or.inl rfl)) pgs_nil)))
      (pss_one (ps_for PassesOwn.never rfl (pi_enum (by rfl) (B.free 80) (pa_cons (pv 5) pa_nil)) (pg_tup rfl (pgs_cons (pg_name (i := 6) sc_alike.nd rfl (Or.inl rfl)) (pgs_cons (pg_tup rfl (pgs_cons (pg_name (i := 7) sc_alike.nd rfl (Or.inl rfl)) (pgs_cons (pg_name (i := 8) sc_alike.nd rfl (Or.inl rfl)) pgs_nil))) pgs_nil)))
        (pss_one (ps_if (pt_not (pt_val (pv 7)))
          (pss_one (ps_ret (pe_tupA (pa_cons pe_str (pa_cons (pe_op op_catB (pe_mtd C_row_to (pv 3) B.cls B.mrow hr (by decide) (pa_cons (pv 4) pa_nil)) (pe_tupA (pa_cons (pv 6) pa_nil))) pa_nil)))))
          pss_nil)))))
    (pss_one (ps_ret (pe_tupA (pa_cons pe_str (pa_cons (pe_callTy call_tupOf (by rfl) (B.free 73) boot_tuple (pa_cons (pe_callB (cr_sortN hr.units) (by rfl) (B.free 83) boot_sorted (pa_cons (pe_fld (pv 3) (by rfl)) pa_nil)) pa_nil)) pa_nil)))))))))), ?_⟩
    refine ⟨_, rfl, s, v1, rfl, r1, O1, ?_⟩
    refine ⟨_, rfl, t, v2, rfl, r2, O2, ?_⟩
    refine ⟨_, rfl, m, rfl, hm, h.m9, ?_⟩
    -- graph
    refine ⟨_, rfl, s, v1, rfl, r1, O1, fun H1 z1 e1 hz1 => ?_⟩
    refine ⟨_, rfl, t, v2, rfl, r2.mono (tm_ex e1), O2, fun H2 z2 e2 hz2 => ⟨sz2, fun p3 H3 e3 h3 => ?_⟩⟩
    have e03 := (e1.trans e2).trans e3
    refine ⟨_, rfl, hT.ext e03, Pr, Bool, inferInstance, gpP h, rfl, ⟨p3, _, rfl, h3, _, _, rfl, hz1.mono (tm_ex (e2.trans e3)), _, _, rfl, hz2.mono (tm_ex e3), rfl⟩, ?_, ?_⟩
    · rintro vs H' Q' tm ⟨x, n, v, rfl, hx, hn, rv, q⟩
      have tm0 := (tm_ex e03).trans tm
      obtain ⟨ok1, ok2⟩ := h.ok x hx
      exact ⟨_, rfl, _, rfl, _, rfl, _, rfl, s, t, x.1, x.2, n, v1, v2, v, rfl, r1.mono tm0, r2.mono tm0, rv, O1, O2, ok1, ok2, fun H'' v' e r => q H'' v' e r⟩
    intro H4 H5 g N H0 eN T4 hg0 e45 gr
    have hall : BAll (goP s t) m (fst0 s, fst0 t) N := bf_all N gr.lt
    obtain ⟨dx, ln, le, lb, d, rs, gh⟩ := gr.at_
    have eN5 : ExtN H H5 := ((en_ex e03).trans eN).trans (en_ex e45)
    have T5 : Tabs (Tq K) H5 := T4.ext e45
    have hpar : Par ((gpP h).b N).before := par_of hall.snd
    have hbl : ((gpP h).b N).before.length = N := hall.snd.len.trans gr.all
    have hS : ((gpP h).b N).nodes.length ≤ S.length := ((gpP h).bin N).le
    have hsz := h.sz
    have hel : ((gpP h).b N).edges.length = N := hall.el
    have rows : ∀ {rs : List Addr} {es : List (List (Bool × Nat))}, Paired (RowAt (gpP h) H5) rs es → rs.length = es.length ∧ ∀ (i : Nat) (r : Addr), rs[i]? = some r → ∃ row, es[i]? = some row ∧ RowAt (gpP h) H5 r row := by
      intro rs es hp
      induction hp with
      | nil => exact ⟨rfl, fun i r hr => by simp at hr⟩
      | @cons a b l1 l2 q _ ih =>
        refine ⟨by simp [ih.1], fun i r hr => ?_⟩
        cases i with
        | zero => simp at hr; subst hr; exact ⟨b, rfl, q⟩
        | succ i => exact ih.2 i r (by simpa using hr)
    obtain ⟨rl, rows⟩ := rows gh.r
    -- for at, row in enumerate(graph.edges)
    refine ⟨_, rfl, g, _, dx, _, _, rfl, gh.ins, B.cls, B.noat "edges" 89, rfl, _, _, rfl, SqL.of gh.e, for_enum (xs := rs.map V.ref)
      (fun i σ H' => ∃ u4 u5 u6 u7 u8, σ = [some v1, some v2, some (vn m), some (.ref g), u4, u5, u6, u7, u8] ∧ Ex H5 H' ∧ RowsT ((gpP h).b N).edges i)
      ⟨none, none, none, none, none, rfl, Ex.refl _, fun i row hi => absurd hi (Nat.not_lt_zero _)⟩ (fun i σ H' _ ⟨_, _, _, _, _, _, e, _⟩ => e _ _ gh.e) ?_ ?_⟩
    · rintro a x σ H6 T H7 hx ⟨u4, u5, u6, u7, u8, rfl, e6, hrt⟩ nT e7 hTt
      obtain ⟨r, hr, rfl⟩ := map_at hx
      obtain ⟨row, hrow, ys, hys, rys⟩ := rows a r hr
      have haN : a < N := by rw [← hel]; exact (List.getElem?_eq_some_iff.mp hrow).1
      have e57 := e6.trans e7
      refine ⟨_, _, rfl, SqT.of hTt, rfl, _, _, rfl, _, _, rfl, rfl, ?_⟩
      have hrl := (hall.e a row hrow).1
      -- for number, (are_same, then) in enumerate(row)
      refine ⟨_, rfl, _, _, rfl, SqL.of (e57 _ _ hys), for_enum (xs := ys)
        (fun i σ H' => ∃ u6 u7 u8, σ = [some v1, some v2, some (vn m), some (.ref g), some (vn a), some (.ref r), u6, u7, u8] ∧ Ex H5 H' ∧ ∀ (k : Nat) (e' : Bool × Nat), k < i → row[k]? = some e' → e'.1 = true)
        ⟨u6, u7, u8, rfl, e57, fun k e' hk => absurd hk (Nat.not_lt_zero _)⟩ (fun i σ H' _ ⟨_, _, _, _, e, _⟩ => e _ _ hys) ?_ ?_⟩
      · rintro n x σ H8 T2 H9 hx2 ⟨u6, u7, u8, rfl, e8, hk⟩ nT2 e9 hT2
        obtain ⟨e0, he0, rx⟩ := rys.mapAt hx2
        have e59 := e8.trans e9
        obtain ⟨q, xs, rfl, hq, xb, xr, rfl, rb, xn, xr2, rfl, rn, e3'⟩ := rx.mono (tm_ex e59)
        cases (show xr2 = [] from e3')
        cases (show xb = V.bl e0.1 from rb)
        cases (show xn = vn e0.2 from rn)
        refine ⟨_, _, rfl, SqT.of hT2, rfl, _, _, rfl, _, _, rfl, ⟨_, _, rfl, SqT.of hq, rfl, _, _, rfl, _, _, rfl, rfl, rfl, ?_⟩⟩
        refine ⟨_, rfl, _, rfl, ?_⟩
        cases hb : e0.1 with
        | true =>
          refine iF rfl ?_
          refine ⟨_, _, _, rfl, e59, fun k e' hk' he' => ?_⟩
          by_cases hkn : k < n
          · exact hk k e' hkn he'
          · have : k = n := by omega
            subst this
            rw [he0] at he'; cases he'
            exact hb
        | false =>
          refine iT rfl ?_
          obtain ⟨bv, hbv, rbv⟩ := gh.b
          have hpl : (pathTo ((gpP h).b N).before a).length ≤ a + 1 := pth_len _ _ _
          refine ⟨_, rfl, g, dx, _, rfl, e59 _ _ gh.ins, rfl, _, rfl, g, a, dx, lb, _, bv, _, rfl, e59 _ _ gh.ins, rfl, e59 _ _ hbv, rbv.mono (tm_ex e59), hpar, by rw [hbl]; exact haN, by rw [hbl, ← gr.all]; exact Nat.le_trans hS hsz, fun H10 p10 e10 h10 => ?_⟩
          refine ⟨_, rfl, sz1, fun p11 H11 e11 h11 => ?_⟩
          refine ⟨_, _, _, _, rfl, rfl, e11 _ _ h10, h11, ?_, fun p12 H12 e12 h12 => ?_⟩
          · rw [List.length_map, sizeLine_eq]
            have := gr.all
            show _ + 1 ≤ _
            omega
          · refine ⟨sz2, fun p13 H13 e13 h13 => ?_⟩
            have e513 := (((e59.trans e10).trans e11).trans e12).trans e13
            refine kap N a n H13 _ gr.all hall ⟨⟨row, e0, hrow, he0, hb, hk⟩, hrt⟩ (eN5.trans (en_ex e513)) (T5.ext e513) ⟨p13, _, rfl, h13, _, _, rfl, rfl, _, _, rfl, ⟨p12, _, rfl, e13 _ _ h12, ?_⟩, rfl⟩
            rw [show (pathTo ((gpP h).b N).before a).map vn ++ [vn n] = (pathTo ((gpP h).b N).before a ++ [n]).map vn by rw [List.map_append]; rfl]
            exact rpl_nats _
      · rintro σ H8 ⟨u6, u7, u8, rfl, e8, hk⟩
        refine ⟨_, _, _, _, _, rfl, e8, fun i row' hi hr' e he => ?_⟩
        by_cases hia : i < a
        · exact hrt i row' hia hr' e he
        · have : i = a := by omega
          subst this
          rw [hrow] at hr'; cases hr'
          obtain ⟨k, hk2⟩ := List.mem_iff_getElem?.mp he
          refine hk k e ?_ hk2
          have := (List.getElem?_eq_some_iff.mp hk2).1
          have h2 := rys.length
          rw [List.length_map] at h2
          omega
    · -- return ('alike', tuple(sorted(graph.nodes)))
      rintro σ H6 ⟨u4, u5, u6, u7, u8, rfl, e6, hrt⟩
      rw [List.length_map, rl, hel] at hrt
      obtain ⟨nv, hnv, rnv⟩ := gh.n
      refine ⟨_, rfl, g, _, dx, _, _, rfl, e6 _ _ gh.ins, B.cls, B.noat "nodes" 88, rfl, _, nv, _, rfl, e6 _ _ hnv, rnv.mono (tm_ex e6), ?_, ?_, ?_, fun p7 H7 ys e7 h7 => ?_⟩
      · intro d hd
        obtain ⟨p, _, rfl⟩ := List.mem_map.mp hd
        exact ⟨_, _, rfl⟩
      · intro d hd e he
        obtain ⟨p, _, rfl⟩ := List.mem_map.mp hd
        obtain ⟨q, _, rfl⟩ := List.mem_map.mp he
        exact cmp_pr p q
      · intro d hd
        obtain ⟨p, hp, rfl⟩ := List.mem_map.mp hd
        exact (gpP h).dep p (((gpP h).bin N).sub p hp)
      refine ⟨_, _, rfl, h7, fun p8 H8 e8 h8 => ?_⟩
      refine ⟨sz2, fun p9 H9 e9 h9 => ?_⟩
      have e59 := ((e6.trans e7).trans e8).trans e9
      exact kal N H9 p9 _ gr.all hall hrt (eN5.trans (en_ex e59)) (T5.ext e59) h9
end
end K46
/-! part W14 -/
set_option maxHeartbeats 600000
namespace K46
open PySem PySem.Spec PyProof.Rows L2 Evl LamX
theorem _root_.L2.Room.u1 {k : Nat} {A : Around} (r : L2.Room k A) : A.units + 1 < cLine := by have := r.units; omega
section
variable {X : Cx}
def rModN : R2 := fun x y H Q => ∃ m n : Nat, x = vn m ∧ y = vn n ∧ 0 < n ∧ Q (vn (m % n)) H
def rDivN : R2 := fun x y H Q => ∃ m n : Nat, x = vn m ∧ y = vn n ∧ 0 < n ∧ n < 1073741824 ∧ Q (vn (m / n)) H
def rMulN : R2 := fun x y H Q => ∃ m n : Nat, x = vn m ∧ y = vn n ∧ (m < 2 ^ 63 ∨ n < 2 ^ 63) ∧ Q (vn (m * n)) H
theorem op_modNat : OpR X (binaryOp .Mod) rModN := by
  intro pins s σ H x y v u Q I rx ry h
  obtain ⟨m, n, e1, e2, hn, q⟩ := h
  exact op_mod pins s σ H x y v u Q I rx ry ⟨m, n, e1, e2, by show (0 : Int) < (n : Int); omega, by dsimp only; rw [← Int.natCast_emod]; exact q⟩
theorem op_divNat : OpR X (binaryOp .FloorDiv) rDivN := by
  intro pins s σ H x y v u Q I rx ry h
  obtain ⟨m, n, e1, e2, hn, hb, q⟩ := h
  exact op_fdiv pins s σ H x y v u Q I rx ry ⟨m, n, e1, e2, ⟨by show (0 : Int) < (n : Int); omega, by show (n : Int) < 1073741824; omega⟩, by dsimp only; rw [← Int.natCast_ediv]; exact q⟩
theorem op_mulNat : OpR X (binaryOp .Mult) rMulN := by
  intro pins s σ H x y v u Q I rx ry h
  obtain ⟨m, n, e1, e2, hb, q⟩ := h
  refine op_mul pins s σ H x y v u Q I rx ry ⟨m, n, e1, e2, ?_, by dsimp only; rw [← Int.natCast_mul]; exact q⟩
  rcases hb with hb | hb
  · left; constructor
    · show -(2 ^ 64) < (m : Int); omega
    · show (m : Int) < 2 ^ 64
      have : (m : Int) < 2 ^ 63 := by exact_mod_cast hb
      omega
  · right; constructor
    · show -(2 ^ 64) < (n : Int); omega
    · show (n : Int) < 2 ^ 64
      have : (n : Int) < 2 ^ 63 := by exact_mod_cast hb
      omega
/-- sum of a tuple -/
def rSumTN : List V → Hp → VK → Prop := fun vs H Q => ∃ (a : Addr) (ns : List Nat), vs = [V.ref a] ∧ H a = some (.tup (ns.map vn)) ∧ Q (vn ns.sum) H
theorem cr_sumTN (hc : X.calm = true) : CallR X (.builtin "sum") rSumTN := by
  intro pins s σ H vs us Q I r h
  obtain ⟨a, ns, rfl, ha, q⟩ := h
  obtain ⟨its, rv, hl, _⟩ := I.tuple (SqT.of ha)
  rw [Vals.ref1 r]
  rw [map_vn] at rv
  have hi := rv.ints
  obtain ⟨xs, e⟩ := hi.allInts.items
  have hn : numsOf (intItems xs).toList = ns.map (fun n : Nat => (n : Int)) := by rw [← e]; exact hi.numsOf
  rw [nums_intItems] at hn
  obtain ⟨o, o1, o2, n0, o3⟩ := hl
  rw [e] at o3
  refine PySem.W.ktm_sumG (I.ok.hd hc) ⟨o, o1, o2, n0, o3⟩ fun h' tk t' hk => ⟨vn ns.sum, H, I.kept hk, ⟨t', ?_⟩, q⟩
  rw [preSum_eq, List.take_of_length_le (by simp), hn, sum_nat]
end
section
variable {P : Program} {w : World} {K : PySem.W.Frag} {mg : Str → Option Value} {base : Heap}
def spDiv : Sp := fun vs H Q _ => ∃ a b : Nat, vs = [vn a, vn b] ∧ Q (vn (Nat.gcd a b)) H
/-! divisor: 0 one, 1 other -/
theorem sc_divisor : FnScope ["one", "other"] ["one", "other"] (d_divisor.scope) := ⟨rfl, rfl, rfl, by decide +kernel, rfl, by decide +kernel, by decide +kernel⟩
theorem c_divisor (B : Bas w K mg) : Cal P w K mg base 1 "divisor" ["one", "other"] spDiv := by
  refine B.cal "divisor" 28 26 (d := d_divisor) rfl rfl rfl rfl rfl sc_divisor (fun vs H Q E h => ?_) (fun _ _ _ _ _ _ us hl => match us, hl with | [_, _], _ => rfl) (fun f cdv A outer s₀ H vs Q E hr h => ?_)
  · obtain ⟨a, b, rfl, _⟩ := h
    rfl
  · obtain ⟨a, b, rfl, k⟩ := h
    refine ⟨_, (pss_cons (ps_while PassesOwn.never (pt_cmpR op_neN (pv 1) pe_int (nomark _))
      (pss_one (ps_par (i := 0) (j := 1) rfl sc_divisor.nd rfl rfl (by decide) rfl rfl (pa_cons (pv 1) (pa_cons (pe_op op_modNat (pv 0) (pv 1)) pa_nil)) (by rfl))))
    (pss_one (ps_ret (pv 0)))), ?_⟩
    refine ⟨fun M σ H' => ∃ x, σ = [some (vn x), some (vn M)] ∧ H' = H ∧ Nat.gcd x M = Nat.gcd a b, ⟨b, a, rfl, rfl, rfl⟩, ?_⟩
    rintro M σ H' ⟨x, rfl, rfl, hg⟩
    refine ⟨_, rfl, _, 0, rfl, rfl, _, rfl, ?_⟩
    by_cases hM : M = 0
    · subst hM
      refine iF (by simp) ?_
      rw [Nat.gcd_zero_right] at hg
      rw [hg]
      exact ⟨_, rfl, k⟩
    · refine iT (by simp [hM]) ?_
      refine ⟨fun σ' H'' => σ' = [some (vn M), some (vn (x % M))] ∧ H'' = H', ?_, ?_⟩
      · rintro σ' H'' ⟨rfl, rfl⟩
        refine ⟨x % M, Nat.mod_lt _ (Nat.pos_of_ne_zero hM), M, rfl, rfl, ?_⟩
        rw [← hg, Nat.gcd_comm x M, Nat.gcd_rec M x, Nat.gcd_comm]
      · refine ⟨_, rfl, _, rfl, _, rfl, _, _, rfl, rfl, Nat.pos_of_ne_zero hM, ?_⟩
        exact ⟨_, _, rfl, rfl, rfl⟩
end
/-! ### a graph as it stands -/
section
variable {α τ : Type} [DecidableEq α]
structure GR (K : PySem.W.Frag) (G : GP α τ) (H : Hp) (g : Addr) (N : Nat) : Prop where
  at_ : ∃ dx ln le lb nv bv rs, H g = some (.ins (He.ga K "Graph") dx [("nodes", .ref ln), ("edges", .ref le), ("before", .ref lb)]) ∧ H ln = some (.lst nv) ∧ RpL H ((G.b N).nodes.map G.da) nv ∧ H lb = some (.lst bv) ∧ RpL H ((G.b N).before.map fuseD) bv ∧
    H le = some (.lst (rs.map V.ref)) ∧ Paired (RowAt G H) rs (G.b N).edges
theorem GR.mono {K : PySem.W.Frag} {G : GP α τ} {H H' : Hp} {g : Addr} {N : Nat} (h : GR K G H g N) (e : Ex H H') : GR K G H' g N := by
  obtain ⟨dx, ln, le, lb, nv, bv, rs, h1, h2, h3, h4, h5, h6, h7⟩ := h
  exact ⟨dx, ln, le, lb, nv, bv, rs, e _ _ h1, e _ _ h2, h3.mono (tm_ex e), e _ _ h4, h5.mono (tm_ex e), e _ _ h6, rows_mono (tm_ex e) h7 fun r _ o => e r o⟩
/-- all but tables stay: so does a graph -/
theorem GR.monoN {K : PySem.W.Frag} {G : GP α τ} {H H' : Hp} {g : Addr} {N : Nat} (h : GR K G H g N) (e : ExtN H H') : GR K G H' g N := by
  have f : ∀ {b o}, H b = some o → (∀ ps, o ≠ .tbl ps) → H' b = some o := fun {b o} => e b o
  have tm := tm_en e
  obtain ⟨dx, ln, le, lb, nv, bv, rs, h1, h2, h3, h4, h5, h6, h7⟩ := h
  refine ⟨dx, ln, le, lb, nv, bv, rs, f h1 (fun _ z => by cases z), f h2 (fun _ z => by cases z), h3.mono tm, f h4 (fun _ z => by cases z), h5.mono tm, f h6 (fun _ z => by cases z), ?_⟩
  clear h3 h5 h6
  generalize (G.b N).edges = es at h7
  induction h7 with
  | nil => exact .nil
  | @cons a b l1 l2 q _ ih =>
    obtain ⟨ys, q1, q2⟩ := q
    exact .cons ⟨ys, f q1 (fun _ z => by cases z), q2.mono tm⟩ ih
theorem GrA.gr {P : Program} {w : World} {K : PySem.W.Frag} {G : GP α τ} {H0 H : Hp} {x : Addr} {N : Nat} (h : GrA P w K G H0 H x N) : GR K G H x N := by
  obtain ⟨dx, ln, le, lb, d, rs, g⟩ := h.at_
  obtain ⟨nv, n1, n2⟩ := g.n
  obtain ⟨bv, b1, b2⟩ := g.b
  exact ⟨dx, ln, le, lb, nv, bv, rs, g.ins, n1, n2, b1, b2, g.e, g.r⟩
theorem rows_at {G : GP α τ} {H : Hp} {rs : List Addr} {es : List (List (τ × Nat))} (hp : Paired (RowAt G H) rs es) : rs.length = es.length ∧ (∀ (i : Nat) (r : Addr), rs[i]? = some r → ∃ row, es[i]? = some row ∧ RowAt G H r row) ∧ ∀ (i : Nat) row, es[i]? = some row → ∃ r, rs[i]? = some r ∧ RowAt G H r row := by
  induction hp with
  | nil => exact ⟨rfl, fun i r hr => by simp at hr, fun i r hr => by simp at hr⟩
  | @cons a b l1 l2 q _ ih =>
    refine ⟨by simp [ih.1], fun i r hr => ?_, fun i row hr => ?_⟩
    · cases i with
      | zero => simp at hr; subst hr; exact ⟨b, rfl, q⟩
      | succ i => exact ih.2.1 i r (by simpa using hr)
    · cases i with
      | zero => simp at hr; subst hr; exact ⟨a, rfl, q⟩
      | succ i => exact ih.2.2 i row (by simpa using hr)
end
/-! ### along the edges -/
abbrev Es := EsT
/-- N rows, each m + 1 long, to nodes below N -/
structure EsOk (es : Es) (N m : Nat) : Prop where
  len : es.length = N
  row : ∀ (i : Nat) row, es[i]? = some row → row.length = m + 1 ∧ ∀ e ∈ row, e.2 < N ∧ e.1 ≤ 3
theorem EsOk.at {es : Es} {N m a n : Nat} (h : EsOk es N m) (ha : a < N) (hn : n ≤ m) : ∃ row e, es[a]? = some row ∧ row[n]? = some e ∧ e.2 < N ∧ e.1 ≤ 3 ∧ ∀ t, stE es (t, a) n = (t + e.1, e.2) := by
  have hal : a < es.length := by rw [h.len]; exact ha
  have h1 : es[a]? = some es[a] := List.getElem?_eq_getElem hal
  obtain ⟨r1, r2⟩ := h.row a _ h1
  have hnl : n < (es[a]).length := by rw [r1]; omega
  have h2 : (es[a])[n]? = some (es[a])[n] := List.getElem?_eq_getElem hnl
  refine ⟨_, _, h1, h2, (r2 _ (List.mem_of_getElem? h2)).1, (r2 _ (List.mem_of_getElem? h2)).2, fun t => ?_⟩
  unfold stE
  simp only [h1, h2]
theorem EsOk.fold {es : Es} {N m : Nat} (h : EsOk es N m) : ∀ (l : List Nat) (t a : Nat), a < N → (∀ x ∈ l, x ≤ m) → (l.foldl (stE es) (t, a)).2 < N ∧ (l.foldl (stE es) (t, a)).1 ≤ t + 3 * l.length
  | [], t, a, ha, _ => ⟨ha, Nat.le_refl _⟩
  | n :: l, t, a, ha, hl => by
    obtain ⟨row, e, h1, h2, h3, h4, h5⟩ := h.at ha (hl n (List.mem_cons_self ..))
    rw [List.foldl_cons, h5]
    have := h.fold l (t + e.1) e.2 h3 fun x hx => hl x (List.mem_cons_of_mem _ hx)
    exact ⟨this.1, by rw [List.length_cons]; omega⟩
section
variable {P : Program} {w : World} {K : PySem.W.Frag} {mg : Str → Option Value} {base : Heap}
def spQuot (K : PySem.W.Frag) : Sp := fun vs H Q _ => ∃ (G : GP Sta Nat) (g a r : Addr) (N : Nat) (l : List Nat), vs = [.ref g, vn a, .ref r] ∧ G.ta = dn ∧ GR K G H g N ∧ EsOk (G.b N).edges N G.m ∧ a < N ∧ N ≤ 1000 ∧ H r = some (.tup (l.map vn)) ∧ (∀ x ∈ l, x ≤ G.m) ∧ 0 < l.sum ∧ l.sum < 1000000 ∧
  ∀ H' p, Ex H H' → H' p = some (.tup [vn ((l.foldl (stE (G.b N).edges) (0, a)).1 / Nat.gcd (l.foldl (stE (G.b N).edges) (0, a)).1 l.sum), vn (l.sum / Nat.gcd (l.foldl (stE (G.b N).edges) (0, a)).1 l.sum)]) → Q (.ref p) H'
/-! quotient: 0 graph, 1 at, 2 around, 3 told, 4 number, 5 by -/
theorem sc_quotient : FnScope ["graph", "at", "around", "told", "number", "by"] ["graph", "at", "around"] (d_quotient.scope) := ⟨rfl, rfl, rfl, by decide +kernel, rfl, by decide +kernel, by decide +kernel⟩
theorem c_quotient (B : Bas w K mg) : Cal P w K mg base 2 "quotient" ["graph", "at", "around"] (spQuot K) := by
  have C_divisor := c_divisor (P := P) (base := base) B
  refine B.cal "quotient" 32 30 (d := d_quotient) rfl rfl rfl rfl rfl sc_quotient (fun vs H Q E h => ?_) (fun _ _ _ _ _ _ us hl => match us, hl with | [_, _, _], _ => rfl) (fun f cdv A outer s₀ H vs Q E hr h => ?_)
  · obtain ⟨G, g, a, r, N, l, rfl, _⟩ := h
    rfl
  · obtain ⟨G, g, a, r, N, l, rfl, hta, gr, ok, ha, hN, hr0, hlm, hl0, hl1, k⟩ := h
    refine ⟨_, (pss_cons (ps_set (i := 3) sc_quotient.nd rfl (Or.inl rfl) pe_int)
    (pss_cons (ps_for PassesOwn.never rfl (pi_tup (pv 2)) (pg_name (i := 4) sc_quotient.nd rfl (Or.inl rfl))
      (pss_one (ps_par (i := 3) (j := 1) rfl sc_quotient.nd rfl rfl (by decide) rfl rfl (pa_cons (pe_op op_addN (pv 3) (pe_ixk (pe_ix ix_listN (pe_ix ix_listN (pe_fld (pv 0) (by rfl)) (pv 1) (fun _ _ => rfl)) (pv 4) (fun _ _ => rfl)))) (pa_cons (pe_ixk (pe_ix ix_listN (pe_ix ix_listN (pe_fld (pv 0) (by rfl)) (pv 1) (fun _ _ => rfl)) (pv 4) (fun _ _ => rfl))) pa_nil)) (by rfl))))
    (pss_cons (ps_set (i := 5) sc_quotient.nd rfl (Or.inl rfl) (pe_cal C_divisor hr (by first | decide | omega) (by rfl) (pa_cons (pv 3) (pa_cons (pe_callB (cr_sumTN rfl) (by rfl) (B.free 82) boot_sum (pa_cons (pv 2) pa_nil)) pa_nil))))
    (pss_one (ps_ret (pe_tupA (pa_cons (pe_op op_divNat (pv 3) (pv 5)) (pa_cons (pe_op op_divNat (pe_callB (cr_sumTN rfl) (by rfl) (B.free 82) boot_sum (pa_cons (pv 2) pa_nil)) (pv 5)) pa_nil)))))))), ?_⟩
    have gr0 := gr
    obtain ⟨dx, ln, le, lb, nv, bv, rs, g1, g2, g3, g4, g5, g6, g7⟩ := gr
    refine ⟨_, rfl, _, rfl, ⟨_, SqT.of hr0⟩, for_tup (xs := l.map vn)
      (fun i σ H' => ∃ v4 v5, σ = [some (.ref g), some (vn ((l.take i).foldl (stE (G.b N).edges) (0, a)).2), some (.ref r), some (vn ((l.take i).foldl (stE (G.b N).edges) (0, a)).1), v4, v5] ∧ H' = H)
      ⟨none, none, rfl, rfl⟩ (fun i σ H' _ ⟨_, _, _, e⟩ => by rw [e]; exact SqT.of hr0) ?_ ?_⟩
    · rintro i x σ H' hx ⟨v4, v5, rfl, rfl⟩
      obtain ⟨n, hn, rfl⟩ := map_at hx
      have hnm := hlm n (List.mem_of_getElem? hn)
      have hf := ok.fold (l.take i) 0 a ha fun x hx => hlm x (List.mem_of_mem_take hx)
      rw [foldl_take _ _ hn]
      generalize (l.take i).foldl (stE (G.b N).edges) (0, a) = st at *
      obtain ⟨t, b⟩ := st
      obtain ⟨row, e, h1, h2, h3, h4, h5⟩ := ok.at hf.1 hnm
      rw [h5]
      obtain ⟨ra, hra, ys, hys, rys⟩ := (rows_at g7).2.2 b row h1
      obtain ⟨vy, hvy, rvy⟩ := rys.get (i := n) (d := G.rowD e) (by rw [List.getElem?_map, h2]; rfl)
      unfold GP.rowD at rvy
      rw [hta] at rvy
      obtain ⟨tp, rfl, htp⟩ := rp_pr (p := e) rvy
      refine ⟨_, rfl, _, rfl, g, _, dx, _, _, rfl, g1, B.cls, B.noat "edges" 89, rfl, _, rfl, _, _, b, _, rfl, rfl, g6, by rw [List.getElem?_map, hra]; rfl, _, rfl, _, _, n, _, rfl, rfl, hys, hvy, _, _, _, rfl, htp, rfl, _, _, rfl, rfl, ?_⟩
      refine ⟨_, rfl, g, _, dx, _, _, rfl, g1, B.cls, B.noat "edges" 89, rfl, _, rfl, _, _, b, _, rfl, rfl, g6, by rw [List.getElem?_map, hra]; rfl, _, rfl, _, _, n, _, rfl, rfl, hys, hvy, _, _, _, rfl, htp, rfl, ?_⟩
      exact ⟨_, _, rfl, _, _, rfl, rfl⟩
    · rintro σ H' ⟨v4, v5, rfl, rfl⟩
      rw [List.length_map, List.take_length]
      have hf := ok.fold l 0 a ha hlm
      generalize hst : l.foldl (stE (G.b N).edges) (0, a) = st at *
      have hg0 : 0 < Nat.gcd st.1 l.sum := Nat.gcd_pos_of_pos_right _ hl0
      have hg1 : Nat.gcd st.1 l.sum ≤ l.sum := Nat.le_of_dvd hl0 (Nat.gcd_dvd_right _ _)
      refine ⟨_, rfl, _, rfl, _, _, rfl, hr0, _, _, rfl, ?_⟩
      refine ⟨_, rfl, _, rfl, _, _, rfl, rfl, hg0, by omega, ?_⟩
      refine ⟨_, rfl, _, _, rfl, hr0, _, rfl, _, _, rfl, rfl, hg0, by omega, sz2, fun p H1 e1 h1 => ?_⟩
      exact k H1 p e1 h1
/-! full_round -/
def nxM (es : Es) (m a : Nat) : Nat := (stE es (0, a) m).2
def itM (es : Es) (m : Nat) : Nat → Nat
  | 0 => 0
  | k + 1 => nxM es m (itM es m k)
theorem itM_lt {es : Es} {N m : Nat} (h : EsOk es N m) (h0 : 0 < N) : ∀ k, itM es m k < N
  | 0 => h0
  | k + 1 => by
    obtain ⟨row, e, h1, h2, h3, h4, h5⟩ := h.at (itM_lt h h0 k) (Nat.le_refl m)
    show (stE es (0, itM es m k) m).2 < N
    rw [h5]; exact h3
theorem fold_rep {es : Es} {N m : Nat} (h : EsOk es N m) (h0 : 0 < N) : ∀ (L k t : Nat), ((List.replicate L m).foldl (stE es) (t, itM es m k)).2 = itM es m (k + L)
  | 0, k, t => rfl
  | L + 1, k, t => by
    obtain ⟨row, e, h1, h2, h3, h4, h5⟩ := h.at (itM_lt h h0 k) (Nat.le_refl m)
    rw [List.replicate_succ, List.foldl_cons, h5]
    have e2 : e.2 = itM es m (k + 1) := by
      show e.2 = (stE es (0, itM es m k) m).2
      rw [h5]
    rw [e2, fold_rep h h0 L (k + 1)]
    rw [show k + 1 + L = k + (L + 1) by omega]
abbrev kvM (es : Es) (m n : Nat) : List (Key × V) := (List.range n).map fun i => ((.inl ((itM es m i : Nat) : Int) : Key), vn i)
theorem kvM_none {es : Es} {m x : Nat} : ∀ {n : Nat}, (∀ i, i < n → itM es m i ≠ x) → L2.valV (kvM es m n) (.inl (x : Int)) = none ∧ ((kvM es m n).any fun kv => decide (kv.1 = .inl (x : Int))) = false := by
  intro n h
  have : ∀ kv ∈ kvM es m n, kv.1 ≠ .inl (x : Int) := fun kv hk e => by
    obtain ⟨i, hi, rfl⟩ := List.mem_map.mp hk
    have e' : ((itM es m i : Nat) : Int) = (x : Int) := Sum.inl.inj e
    exact h i (List.mem_range.mp hi) (by omega)
  constructor
  · unfold L2.valV
    rw [List.find?_eq_none.mpr (fun kv hk => by simp [this kv hk])]; rfl
  · rw [List.any_eq_false]
    intro kv hk
    simp [this kv hk]
theorem kvM_some {es : Es} {m x i : Nat} : ∀ {n : Nat}, ((List.range n).map (itM es m)).Nodup → i < n → itM es m i = x → L2.valV (kvM es m n) (.inl (x : Int)) = some (vn i) := by
  intro n
  induction n with
  | zero => intro _ h; omega
  | succ n ih =>
    intro nd hi hx
    have e1 : kvM es m (n + 1) = kvM es m n ++ [((.inl ((itM es m n : Nat) : Int) : Key), vn n)] := by unfold kvM; rw [List.range_succ, List.map_append]; rfl
    rw [List.range_succ, List.map_append] at nd
    have nd' := List.nodup_append.mp nd
    rw [e1]
    by_cases hin : i < n
    · have := ih nd'.1 hin hx
      unfold L2.valV at this ⊢
      rw [List.find?_append]
      cases q : (kvM es m n).find? fun kv => decide (kv.1 = .inl (x : Int)) with
      | none => rw [q] at this; cases this
      | some p => rw [q] at this; exact this
    · have : i = n := by omega
      subst this
      have hno : ∀ j, j < i → itM es m j ≠ x := fun j hj e => nd'.2.2 (itM es m j) (List.mem_map.mpr ⟨j, List.mem_range.mpr hj, rfl⟩) (itM es m i) (by simp) (by rw [e, hx])
      have h1 := (kvM_none (es := es) (m := m) (x := x) hno).1
      unfold L2.valV at h1 ⊢
      rw [List.find?_append]
      cases q : (kvM es m i).find? fun kv => decide (kv.1 = .inl (x : Int)) with
      | some p => rw [q] at h1; cases h1
      | none => simp [hx]
def spFull (K : PySem.W.Frag) : Sp := fun vs H Q _ => ∃ (G : GP Sta Nat) (g : Addr) (N : Nat), vs = [.ref g, vn G.m] ∧ G.ta = dn ∧ GR K G H g N ∧ EsOk (G.b N).edges N G.m ∧ 0 < N ∧ N ≤ 1000 ∧
  ∀ H' p r a L, Ex H H' → H' p = some (.tup [vn a, .ref r]) → H' r = some (.tup ((List.replicate L G.m).map vn)) → 0 < L → L ≤ N → a < N → (∃ pre, a = itM (G.b N).edges G.m pre) → ((List.replicate L G.m).foldl (stE (G.b N).edges) (0, a)).2 = a → Q (.ref p) H'
/-! full_round: 0 graph, 1 most, 2 at, 3 seen -/
theorem sc_full_round : FnScope ["graph", "most", "at", "seen"] ["graph", "most"] (d_full_round.scope) := ⟨rfl, rfl, rfl, by decide +kernel, rfl, by decide +kernel, by decide +kernel⟩
theorem c_full_round (B : Bas w K mg) : Cal P w K mg base 1 "full_round" ["graph", "most"] (spFull K) := by
  refine B.cal "full_round" 33 31 (d := d_full_round) rfl rfl rfl rfl rfl sc_full_round (fun vs H Q E h => ?_) (fun _ _ _ _ _ _ us hl => match us, hl with | [_, _], _ => rfl) (fun f cdv A outer s₀ H vs Q E hr h => ?_)
  · obtain ⟨G, g, N, rfl, _⟩ := h
    rfl
  · obtain ⟨G, g, N, rfl, hta, gr, ok, h0, hN, k⟩ := h
    refine ⟨_, (pss_cons (ps_par (i := 2) (j := 3) rfl sc_full_round.nd rfl rfl (by decide) rfl rfl (pa_cons pe_int (pa_cons pe_dnewK pa_nil)) (by rfl))
    (pss_cons (ps_while PassesOwn.never (pt_cmp (pc_dnotin hr.u1 (pv 2) (pv 3)))
      (pss_cons (ps_dput hr.u1 (pv 3) (pv 2) (pe_callB call_lenD (by rfl) (B.free 74) boot_len (pa_cons (pv 3) pa_nil)) rfl)
      (pss_one (ps_set (i := 2) sc_full_round.nd rfl (Or.inl rfl) (pe_ixk (pe_ix ix_listN (pe_ix ix_listN (pe_fld (pv 0) (by rfl)) (pv 2) (fun _ _ => rfl)) (pv 1) (fun _ _ => rfl)))))))
    (pss_one (ps_ret (pe_tupA (pa_cons (pv 2) (pa_cons (pe_op op_repX (pe_tupA (pa_cons (pv 1) pa_nil)) (pe_op op_subN (pe_callB call_lenD (by rfl) (B.free 74) boot_len (pa_cons (pv 3) pa_nil)) (pe_dget hr.u1 (pv 3) (pv 2) (fun _ _ => rfl)))) pa_nil))))))), ?_⟩
    obtain ⟨dx, ln, le, lb, nv, bv, rs, g1, g2, g3, g4, g5, g6, g7⟩ := gr
    refine fun d nd => ?_
    refine ⟨_, _, rfl, ?_⟩
    refine ⟨fun M σ H' => ∃ n, σ = [some (.ref g), some (vn G.m), some (vn (itM (G.b N).edges G.m n)), some (.ref d)] ∧ M = N - n ∧ Ex H H' ∧ H' d = some (.dK (kvM (G.b N).edges G.m n)) ∧ ((List.range n).map (itM (G.b N).edges G.m)).Nodup,
      ⟨N, 0, rfl, rfl, Ex.new nd, upd_same, List.nodup_nil⟩, ?_⟩
    rintro M σ H1 ⟨n, rfl, rfl, e1, h1, hnd⟩
    have hkl : (kvM (G.b N).edges G.m n).length = n := by unfold kvM; simp
    have hlt := itM_lt ok h0
    refine ⟨_, rfl, _, rfl, d, _, rfl, DGet.k (k := .inl _) h1, _, rfl, ?_⟩
    by_cases hx : ∃ i, i < n ∧ itM (G.b N).edges G.m i = itM (G.b N).edges G.m n
    · obtain ⟨i, hi, hie⟩ := hx
      have hv := kvM_some hnd hi hie
      refine iF (by rw [hv]; rfl) ?_
      refine ⟨_, rfl, _, rfl, sz1, fun p2 H2 e2 h2 => ?_⟩
      have hnN : n ≤ N := by
        have := nodup_len (S := List.range N) hnd fun x hx => by
          obtain ⟨j, _, rfl⟩ := List.mem_map.mp hx
          exact List.mem_range.mpr (hlt j)
        simpa using this
      refine ⟨_, rfl, d, _, rfl, e2 _ _ h1, _, rfl, _, rfl, d, vn i, rfl, by rw [← hv]; exact DGet.k (k := .inl _) (e2 _ _ h1), (kvM (G.b N).edges G.m n).length, i, rfl, rfl, by omega, ?_⟩
      rw [hkl]
      refine ⟨_, _, n - i, rfl, rfl, h2, by omega, (by show 1 ≤ 1000; decide), fun p3 H3 e3 h3 => ⟨sz2, fun p4 H4 e4 h4 => ?_⟩⟩
      rw [flat_one] at h3
      refine k H4 p4 p3 _ (n - i) (((e1.trans e2).trans e3).trans e4) h4 (by rw [List.map_replicate]; exact e4 _ _ h3) (by omega) (by omega) (hlt n) ⟨n, rfl⟩ ?_
      rw [fold_rep ok h0]
      have per : ∀ t, itM (G.b N).edges G.m (i + t) = itM (G.b N).edges G.m (n + t) := by
        intro t
        induction t with
        | zero => exact hie
        | succ t ih => show nxM _ _ (itM _ _ (i + t)) = nxM _ _ (itM _ _ (n + t)); rw [ih]
      have := per (n - i)
      rw [show i + (n - i) = n by omega] at this
      exact this.symm
    · have hno : ∀ i, i < n → itM (G.b N).edges G.m i ≠ itM (G.b N).edges G.m n := fun i hi e => hx ⟨i, hi, e⟩
      obtain ⟨hv, hany⟩ := kvM_none hno
      refine iT (by rw [hv]; rfl) ?_
      have hnd' : ((List.range (n + 1)).map (itM (G.b N).edges G.m)).Nodup := by
        rw [List.range_succ, List.map_append]
        refine List.nodup_append.mpr ⟨hnd, by simp, fun a ha b hb => ?_⟩
        obtain ⟨j, hj, rfl⟩ := List.mem_map.mp ha
        simp at hb
        subst hb
        exact hno j (List.mem_range.mp hj)
      have hnN : n + 1 ≤ N := by
        have := nodup_len (S := List.range N) hnd' fun x hx => by
          obtain ⟨j, _, rfl⟩ := List.mem_map.mp hx
          exact List.mem_range.mpr (hlt j)
        simpa using this
      refine ⟨fun σ' H' => σ' = [some (.ref g), some (vn G.m), some (vn (itM (G.b N).edges G.m (n + 1))), some (.ref d)] ∧ Ex H H' ∧ H' d = some (.dK (kvM (G.b N).edges G.m (n + 1))), ?_, ?_⟩
      · rintro σ' H' ⟨rfl, e, h⟩
        exact ⟨N - (n + 1), by omega, n + 1, rfl, rfl, e, h, hnd'⟩
      · refine ⟨_, rfl, d, _, rfl, h1, _, rfl, _, rfl, d, _, rfl, DPut.k (k := .inl _) h1 (by rw [hkl, sizeLine_eq]; omega), ?_⟩
        rw [hkl]
        have hput : putK (kvM (G.b N).edges G.m n) (.inl ((itM (G.b N).edges G.m n : Nat) : Int)) (V.int (n : Int)) = kvM (G.b N).edges G.m (n + 1) := by
          unfold putK
          rw [if_neg (by rw [hany]; exact Bool.false_ne_true)]
          unfold kvM; rw [List.range_succ, List.map_append]; rfl
        rw [hput]
        have e1' : Ex H (upd H1 d (.dK (kvM (G.b N).edges G.m (n + 1)))) := e1.mut nd
        obtain ⟨row, e, q1, q2, q3, q4, q5⟩ := ok.at (hlt n) (Nat.le_refl G.m)
        obtain ⟨ra, hra, ys, hys, rys⟩ := (rows_at g7).2.2 _ row q1
        obtain ⟨vy, hvy, rvy⟩ := rys.get (i := G.m) (d := G.rowD e) (by rw [List.getElem?_map, q2]; rfl)
        unfold GP.rowD at rvy
        rw [hta] at rvy
        obtain ⟨tp, rfl, htp⟩ := rp_pr (p := e) rvy
        refine ⟨_, rfl, g, _, dx, _, _, rfl, e1' _ _ g1, B.cls, B.noat "edges" 89, rfl, _, rfl, _, _, itM (G.b N).edges G.m n, _, rfl, rfl, e1' _ _ g6, by rw [List.getElem?_map, hra]; rfl, _, rfl, _, _, G.m, _, rfl, rfl, e1' _ _ hys, hvy, _, _, _, rfl, e1' _ _ htp, rfl, ?_⟩
        refine ⟨?_, e1', upd_same⟩
        have : e.2 = itM (G.b N).edges G.m (n + 1) := by
          show e.2 = (stE _ (0, itM _ _ n) G.m).2
          rw [q5]
        rw [← this]; rfl
end
end K46
/-! part W15 -/
set_option maxHeartbeats 600000
namespace K46
open PySem PySem.Spec PyProof.Rows L2 Evl
section
variable {P : Program} {w : World} {K : PySem.W.Frag} {mg : Str → Option Value} {base : Heap}
def spRound : Sp := fun vs H Q _ => ∃ (st : Addr) (sv : List V) (ss : Ss), vs = [.ref st] ∧ H st = some (.lst sv) ∧ RpL H (ss.map fuseD) sv ∧ ss.length ≤ 1000 ∧ (∀ (x : Nat) (p : Nat × Nat), ss[x]? = some (some p) → p.1 < ss.length) ∧
  (∀ H', Ex H H' → (∀ v, v < ss.length → Ends ss v) → Q .non H') ∧
  (∀ H' p r a l, Ex H H' → H' p = some (.tup [vn a, .ref r]) → H' r = some (.tup ((l : List Nat).reverse.map vn)) → a < ss.length → Chn ss a l a → l ≠ [] → l.length ≤ ss.length → Q (.ref p) H')
/-! round_among: 0 steps, 1 seen, 2 begin, 3 at, 4 numbers, 5 here, 6 number, 7 row -/
theorem sc_round_among : FnScope ["steps", "seen", "begin", "at", "numbers", "here", "number", "row"] ["steps"] (d_round_among.scope) := ⟨rfl, rfl, rfl, by decide +kernel, rfl, by decide +kernel, by decide +kernel⟩
theorem c_round_among (B : Bas w K mg) : Cal P w K mg base 1 "round_among" ["steps"] spRound := by
  refine B.cal "round_among" 29 27 (d := d_round_among) rfl rfl rfl rfl rfl sc_round_among (fun vs H Q E h => ?_) (fun _ _ _ _ _ _ us hl => match us, hl with | [_], _ => rfl) (fun f cdv A outer s₀ H vs Q E hr h => ?_)
  · obtain ⟨st, sv, ss, rfl, _⟩ := h
    rfl
  · obtain ⟨st, sv, ss, rfl, hst, hsv, hN, hpar, kno, kyes⟩ := h
    have hvl : sv.length = ss.length := by rw [hsv.length, List.length_map]
    refine ⟨_, (pss_cons (ps_setLc (i := 1) (own := [("row", 7)]) (g := gName 7) (by rfl) sc_round_among.nd rfl rfl (sw_true rfl rfl rfl (by decide +kernel)) (pi_list (pv 0)) (blkOk_by (own := [("row", 7)]) (N := ["steps", "seen", "begin", "at", "numbers", "here", "number", "row"]) (sc := d_round_among.scope) (by decide +kernel)) (fun _ _ _ _ _ => (pg_name (i := 7) sc_round_among.nd rfl (Or.inl rfl))) (fun _ _ _ _ _ => pts_nil) (fun _ _ _ _ _ => pe_non))
    (pss_cons (ps_for PassesOwn.never rfl (pi_range1 (by rfl) (B.free 81) (pa_cons (pe_callB call_lenB (by rfl) (B.free 74) boot_len (pa_cons (pv 0) pa_nil)) pa_nil)) (pg_name (i := 2) sc_round_among.nd rfl (Or.inl rfl))
      (pss_cons (ps_set (i := 3) sc_round_among.nd rfl (Or.inl rfl) (pv 2))
      (pss_cons (ps_while PassesOwn.never (PW.pt (pw_and (pt_cmpR op_isN (pe_ix ix_listN (pv 1) (pv 3) (fun _ _ => rfl)) pe_non (nomark _)) (pw_and1 (pt_cmpR op_notN (pe_ix ix_listN (pv 0) (pv 3) (fun _ _ => rfl)) pe_non (nomark _)))))
        (pss_cons (ps_asg (pv 2) (pg_sub (pv 1) (pv 3) set_listB))
        (pss_one (ps_set (i := 3) sc_round_among.nd rfl (Or.inl rfl) (pe_ixk (pe_ix ix_listN (pv 0) (pv 3) (fun _ _ => rfl)))))))
      (pss_one (ps_if (PW.pt (pw_and (pt_cmpR op_eq (pe_ix ix_listN (pv 1) (pv 3) (fun _ _ => rfl)) (pv 2) (nomark _)) (pw_and1 (pt_cmpR op_notN (pe_ix ix_listN (pv 0) (pv 3) (fun _ _ => rfl)) pe_non (nomark _)))))
        (pss_cons (ps_par (i := 4) (j := 5) rfl sc_round_among.nd rfl rfl (by decide) rfl rfl (pa_cons (pe_lstA pa_nil) (pa_cons (pv 3) pa_nil)) (by rfl))
        (pss_cons (ps_while PassesOwn.never (PW.pt (pw_or (pt_cmpR (op_eqLN hr.units) (pv 4) (pe_lstA pa_nil) (nomark _)) (pw_or1 (pt_cmpR op_neN (pv 5) (pv 3) (nomark _)))))
          (pss_cons (ps_asg (pe_ix ix_listN (pv 0) (pv 5) (fun _ _ => rfl)) (pg_tup rfl (pgs_cons (pg_name (i := 5) sc_round_among.nd rfl (Or.inl rfl)) (pgs_cons (pg_name (i := 6) sc_round_among.nd rfl (Or.inl rfl)) pgs_nil))))
          (pss_one (ps_expr (pe_bm PySem.F.plainAttrs_list PySem.F.slot_list_append PySem.F.type_list_append mt_appB (pv 4) (pa_cons (pv 6) pa_nil))))))
        (pss_one (ps_ret (pe_tupA (pa_cons (pv 3) (pa_cons (pe_callTy call_tupOf (by rfl) (B.free 73) boot_tuple (pa_cons (pe_revL (pv 4)) pa_nil)) pa_nil)))))))
        pss_nil)))))
    (pss_one (ps_ret pe_non)))), ?_⟩
    -- seen = [None for row in steps]
    refine ⟨_, rfl, _, rfl, ⟨_, SqL.of hst⟩, fun sn n1 => lcL (fun i => (List.replicate i (none : Option Nat)).map tokV) hst rfl (fun i hi => by rw [List.length_map, List.length_replicate, sizeLine_eq]; omega) (fun i x H3 hx e3 R N hR hN => ?_) n1 (fun H1 e1 h1 => ?_)⟩
    · refine ⟨rfl, yesT ?_⟩
      exact hR _ _ (Ex.refl _) (by dsimp only; rw [List.replicate_succ', List.map_append]; rfl)
    rw [hvl] at h1
    have hrep : ∀ (v c : Nat), (List.replicate ss.length (none : Option Nat))[v]? = some (some c) → c < 0 ∧ Ends ss v := fun v c hc => by
      rw [List.getElem?_replicate] at hc
      split at hc
      · cases hc
      · cases hc
    -- for begin in range(len(steps))
    refine ⟨_, rfl, _, _, rfl, Or.inl (e1 _ _ hst), ?_⟩
    refine ⟨_, rfl, by omega, by omega, for_rangeN (n := sv.length)
      (fun b σ H' => ∃ v2 v3 v4 v5 v6 v7 seen, σ = [some (.ref st), some (.ref sn), v2, v3, v4, v5, v6, v7] ∧ Ex H H' ∧ H' sn = some (.lst ((seen : List (Option Nat)).map tokV)) ∧ seen.length = ss.length ∧ (∀ (v c : Nat), seen[v]? = some (some c) → c < b ∧ Ends ss v) ∧ ∀ v, v < b → Ends ss v)
      ⟨none, none, none, none, none, none, _, rfl, e1, h1, by simp, hrep, fun v hv => absurd hv (Nat.not_lt_zero _)⟩ ?_ ?_⟩
    · rintro b σ H2 hb ⟨v2, v3, v4, v5, v6, v7, seen, rfl, e2, h2, hsl, hs1, hs2⟩
      refine ⟨_, rfl, ?_⟩
      have hbN : b < ss.length := by omega
      -- while seen[at] is None and steps[at] is not None
      refine ⟨fun M σ H' => ∃ at_ l v4 v5 v6 v7 seen, σ = [some (.ref st), some (.ref sn), some (vn b), some (vn at_), v4, v5, v6, v7] ∧ Ex H H' ∧ H' sn = some (.lst ((seen : List (Option Nat)).map tokV)) ∧ seen.length = ss.length ∧ at_ < ss.length ∧ M = noneN seen ∧ Chn ss b l at_ ∧ l.length + M ≤ ss.length ∧
          ∀ (v c : Nat), seen[v]? = some (some c) → (c < b ∧ Ends ss v) ∨ (c = b ∧ ∃ l1 l2, l = l1 ++ l2 ∧ Chn ss b l1 v ∧ Chn ss v l2 at_ ∧ l2 ≠ []),
        ⟨noneN seen, b, [], v4, v5, v6, v7, seen, rfl, e2, h2, hsl, hbN, rfl, .nil b, by have := noneN_le seen; simp; omega, fun v c hc => Or.inl (hs1 v c hc)⟩, ?_⟩
      clear h2 e2 hs1 hsl
      rintro M σ H3 ⟨a, l, u4, u5, u6, u7, seen, rfl, e3, h3, hsl, haN, rfl, hch, hlen, hs1⟩
      have hsv2 : (seen.map tokV)[a]? = some (tokV seen[a]) := by rw [List.getElem?_map, List.getElem?_eq_getElem (by omega)]; rfl
      have hsa : seen[a]? = some seen[a] := List.getElem?_eq_getElem (by omega)
      obtain ⟨vs, hvs, rvs⟩ := hsv.get (i := a) (d := fuseD ss[a]) (by rw [List.getElem?_map, List.getElem?_eq_getElem haN]; rfl)
      have hfu := rp_fuse (rvs.mono (tm_ex e3))
      have hse : ss[a]? = some ss[a] := List.getElem?_eq_getElem haN
      generalize ss[a] = so at hfu hse
      generalize seen[a] = sa at hsv2 hsa
      refine ⟨_, rfl, _, rfl, _, _, a, _, rfl, rfl, h3, hsv2, rfl, _, rfl, ?_⟩
      -- what stands behind, where no round is found
      have endOf : ∀ so2, ss[a]? = some so2 → (so2 = none ∨ ∃ c, sa = some c ∧ c < b) → Ends ss a := fun so2 h1 h2 => by
        rcases h2 with rfl | ⟨c, rfl, hc⟩
        · exact ⟨[], a, .nil a, h1⟩
        · rcases hs1 a c hsa with ⟨_, h⟩ | ⟨h, _⟩
          · exact h
          · omega
      have nextP : Ends ss a → (∀ (v c : Nat), seen[v]? = some (some c) → c < b + 1 ∧ Ends ss v) ∧ ∀ v, v < b + 1 → Ends ss v := fun he => by
        refine ⟨fun v c hc => ?_, fun v hv => ?_⟩
        · rcases hs1 v c hc with ⟨h1, h2⟩ | ⟨h1, l1, l2, _, _, h3, _⟩
          · exact ⟨by omega, h2⟩
          · exact ⟨by omega, he.back h3⟩
        · by_cases hvb : v < b
          · exact hs2 v hvb
          · have : v = b := by omega
            subst this
            exact he.back hch
      cases sa with
      | none =>
        refine iT (by rfl) ?_
        refine ⟨_, rfl, _, rfl, _, _, a, _, rfl, rfl, e3 _ _ hst, hvs, rfl, _, rfl, ?_⟩
        cases so with
        | none =>
          have hvn : vs = .non := hfu
          subst hvn
          refine iF (by rfl) ?_
          refine ⟨_, rfl, _, rfl, _, _, a, _, rfl, rfl, h3, hsv2, _, rfl, rfl, _, rfl, ?_⟩
          refine iF (by rfl) ?_
          refine iF rfl ?_
          obtain ⟨q1, q2⟩ := nextP (endOf none hse (Or.inl rfl))
          exact ⟨_, _, _, _, _, _, seen, rfl, e3, h3, hsl, q1, q2⟩
        | some p =>
          obtain ⟨t, rfl, ht⟩ := hfu
          refine iT (by rfl) ?_
          have hpN := hpar a p hse
          have hns := noneN_set (c := b) hsa
          refine ⟨fun σ' H' => ∃ u4 u5 u6 u7, σ' = [some (.ref st), some (.ref sn), some (vn b), some (vn p.1), u4, u5, u6, u7] ∧ Ex H H' ∧ H' sn = some (.lst ((seen.set a (some b)).map tokV)), ?_, ?_⟩
          · rintro σ' H' ⟨u4, u5, u6, u7, rfl, e, h⟩
            refine ⟨noneN (seen.set a (some b)), by omega, p.1, l ++ [p.2], u4, u5, u6, u7, seen.set a (some b), rfl, e, h, by simp [hsl], hpN, rfl, hch.snoc hse, by simp; omega, fun v c hc => ?_⟩
            by_cases hva : v = a
            · subst hva
              rw [List.getElem?_set_self (by omega)] at hc
              cases hc
              exact Or.inr ⟨rfl, l, [p.2], rfl, hch, .cons hse (.nil _), by simp⟩
            · rw [List.getElem?_set_ne (Ne.symm hva)] at hc
              rcases hs1 v c hc with h1 | ⟨h1, l1, l2, h2, h3', h4, h5⟩
              · exact Or.inl h1
              · exact Or.inr ⟨h1, l1, l2 ++ [p.2], by rw [h2]; simp, h3', h4.snoc hse, by simp⟩
          · refine ⟨_, rfl, _, rfl, _, rfl, _, _, a, rfl, rfl, h3, by rw [List.length_map]; omega, fun H4 b4 h4 => ?_⟩
            have e4 : Ex H H4 := e3.bt n1 b4
            have hts : t ≠ sn := ne_of ht h3 (by intro z; cases z)
            have hstn : st ≠ sn := fun z => by rw [z, n1] at hst; cases hst
            refine ⟨_, rfl, _, rfl, _, _, a, _, rfl, rfl, e4 _ _ hst, hvs, _, _, _, rfl, b4 _ _ hts ht, rfl, ?_⟩
            exact ⟨_, _, _, _, rfl, e4, by rw [h4, List.map_set]; rfl⟩
      | some c =>
        refine iF (by rfl) ?_
        refine iF rfl ?_
        refine ⟨_, rfl, _, rfl, _, _, a, _, rfl, rfl, h3, hsv2, _, rfl, rfl, _, rfl, ?_⟩
        by_cases hcb : c = b
        · subst hcb
          refine iT (by exact decide_eq_true rfl) ?_
          refine ⟨_, rfl, _, rfl, _, _, a, _, rfl, rfl, e3 _ _ hst, hvs, rfl, _, rfl, ?_⟩
          cases so with
          | none =>
            have hvn : vs = .non := hfu
            subst hvn
            refine iF (by rfl) ?_
            obtain ⟨q1, q2⟩ := nextP (endOf none hse (Or.inl rfl))
            exact ⟨_, _, _, _, _, _, seen, rfl, e3, h3, hsl, q1, q2⟩
          | some p =>
            obtain ⟨t, rfl, ht⟩ := hfu
            refine iT (by rfl) ?_
            obtain ⟨l1, l2, hl12, hc1, hc2, hne⟩ : ∃ l1 l2, l = l1 ++ l2 ∧ Chn ss c l1 a ∧ Chn ss a l2 a ∧ l2 ≠ [] := by
              rcases hs1 a c hsa with ⟨h1, _⟩ | ⟨_, h⟩
              · omega
              · exact h
            have hl2 : l2.length ≤ ss.length := by
              have : l.length = l1.length + l2.length := by rw [hl12]; simp
              omega
            refine ⟨sz0, fun nb H4 n4 e4 h4 => ⟨_, rfl, ⟨_, _, rfl, ?_⟩⟩⟩
            have f4 := fresh_back e3 n4
            refine ⟨fun M σ H' => ∃ here j u6 u7, σ = [some (.ref st), some (.ref sn), some (vn c), some (vn a), some (.ref nb), some (vn here), u6, u7] ∧ M = l2.length - j ∧ j ≤ l2.length ∧ here < ss.length ∧ Chn ss a (l2.take j) here ∧ Chn ss here (l2.drop j) a ∧ Ex H H' ∧ H' nb = some (.lst ((l2.take j).map vn)),
              ⟨l2.length, a, 0, u6, u7, rfl, rfl, Nat.zero_le _, haN, .nil a, hc2, e3.trans e4, h4⟩, ?_⟩
            rintro M σ H5 ⟨here, j, w6, w7, rfl, rfl, hj, hhN, hk1, hk2, e5, h5⟩
            -- one turn
            have turn : l2.drop j ≠ [] → ∃ q n, ss[here]? = some (some (q, n)) ∧ q < ss.length ∧ j + 1 ≤ l2.length ∧ Chn ss a (l2.take (j + 1)) q ∧ Chn ss q (l2.drop (j + 1)) a ∧ l2.take (j + 1) = l2.take j ++ [n] := fun hd => by
              have hjl : j < l2.length := by
                by_cases z : j < l2.length
                · exact z
                · exact absurd (List.drop_eq_nil_of_le (by omega)) hd
              have hd2 : l2.drop j = l2[j] :: l2.drop (j + 1) := List.drop_eq_getElem_cons hjl
              rw [hd2] at hk2
              cases hk2 with
              | @cons _ q n _ _ hq hr =>
                have ht2 : l2.take (j + 1) = l2.take j ++ [l2[j]] := by rw [List.take_add_one, List.getElem?_eq_getElem hjl]; rfl
                exact ⟨q, _, hq, hpar here _ hq, hjl, by rw [ht2]; exact hk1.snoc hq, hr, ht2⟩
            -- numbers == []
            refine ⟨_, rfl, sz0, fun z6 H6 n6 e6 h6 => ⟨_, _, l2.take j, [], rfl, rfl, e6 _ _ h5, h6, _, rfl, ?_⟩⟩
            by_cases hte : l2.take j = []
            · have hj0 : j = 0 := by
                cases j with
                | zero => rfl
                | succ j =>
                  cases l2 with
                  | nil => exact absurd rfl hne
                  | cons x r => simp at hte
              have hdn : l2.drop j ≠ [] := by rw [hj0]; exact hne
              obtain ⟨q, n, hq, hqN, hj1, hq1, hq2, hq3⟩ := turn hdn
              refine iT (decide_eq_true hte) ?_
              refine iT rfl ?_
              refine ⟨fun σ' H' => ∃ u6 u7, σ' = [some (.ref st), some (.ref sn), some (vn c), some (vn a), some (.ref nb), some (vn q), u6, u7] ∧ Ex H H' ∧ H' nb = some (.lst ((l2.take (j + 1)).map vn)), ?_, ?_⟩
              · rintro σ' H' ⟨u6, u7, rfl, e, h⟩
                exact ⟨l2.length - (j + 1), by omega, q, j + 1, u6, u7, rfl, rfl, hj1, hqN, hq1, hq2, e, h⟩
              · obtain ⟨vh, hvh, rvh⟩ := hsv.get (i := here) (d := fuseD (some (q, n))) (by rw [List.getElem?_map, hq]; rfl)
                have e06 := e5.trans e6
                obtain ⟨th, rfl, hth⟩ := rp_fuse (rvh.mono (tm_ex e06))
                refine ⟨_, rfl, _, rfl, _, _, here, _, rfl, rfl, e06 _ _ hst, hvh, ?_⟩
                refine ⟨_, _, rfl, SqT.of hth, rfl, _, _, rfl, _, _, rfl, rfl, ?_⟩
                refine ⟨_, rfl, Or.inl ⟨rfl, _, SqL.of (e6 _ _ h5)⟩, _, rfl, _, _, _, rfl, rfl, e6 _ _ h5, by rw [List.length_map, List.length_take, sizeLine_eq]; omega, fun H7 b7 h7 => ?_⟩
                exact ⟨_, _, rfl, e06.bt f4 b7, by rw [h7, hq3, List.map_append]; rfl⟩
            · refine iF (decide_eq_false hte) ?_
              refine ⟨_, rfl, _, rfl, _, _, rfl, rfl, _, rfl, ?_⟩
              by_cases hha : here = a
              · subst hha
                refine iF (by simp) ?_
                refine ⟨_, rfl, _, rfl, _, _, rfl, SqL.of (e6 _ _ h5), fun p7 n7 => ?_⟩
                refine ⟨_, _, rfl, upd_same, fun p8 H8 e8 h8 => ?_⟩
                refine ⟨sz2, fun p9 H9 e9 h9 => ?_⟩
                refine kyes H9 p9 p8 here (l2.take j) (((e5.trans e6).trans (Ex.new n7)).trans (e8.trans e9)) h9 ?_ haN hk1 hte (by rw [List.length_take]; omega)
                rw [List.map_reverse]
                exact e9 _ _ h8
              · have hdn : l2.drop j ≠ [] := fun z => by
                  rw [z] at hk2
                  cases hk2
                  exact hha rfl
                obtain ⟨q, n, hq, hqN, hj1, hq1, hq2, hq3⟩ := turn hdn
                refine iT (by simp [hha]) ?_
                refine ⟨fun σ' H' => ∃ u6 u7, σ' = [some (.ref st), some (.ref sn), some (vn c), some (vn a), some (.ref nb), some (vn q), u6, u7] ∧ Ex H H' ∧ H' nb = some (.lst ((l2.take (j + 1)).map vn)), ?_, ?_⟩
                · rintro σ' H' ⟨u6, u7, rfl, e, h⟩
                  exact ⟨l2.length - (j + 1), by omega, q, j + 1, u6, u7, rfl, rfl, hj1, hqN, hq1, hq2, e, h⟩
                · obtain ⟨vh, hvh, rvh⟩ := hsv.get (i := here) (d := fuseD (some (q, n))) (by rw [List.getElem?_map, hq]; rfl)
                  have e06 := e5.trans e6
                  obtain ⟨th, rfl, hth⟩ := rp_fuse (rvh.mono (tm_ex e06))
                  refine ⟨_, rfl, _, rfl, _, _, here, _, rfl, rfl, e06 _ _ hst, hvh, ?_⟩
                  refine ⟨_, _, rfl, SqT.of hth, rfl, _, _, rfl, _, _, rfl, rfl, ?_⟩
                  refine ⟨_, rfl, Or.inl ⟨rfl, _, SqL.of (e6 _ _ h5)⟩, _, rfl, _, _, _, rfl, rfl, e6 _ _ h5, by rw [List.length_map, List.length_take, sizeLine_eq]; omega, fun H7 b7 h7 => ?_⟩
                  exact ⟨_, _, rfl, e06.bt f4 b7, by rw [h7, hq3, List.map_append]; rfl⟩
        · refine iF (decide_eq_false (fun z => hcb (by have := V.int.inj z; omega))) ?_
          refine iF rfl ?_
          have hcl : c < b := by
            rcases hs1 a c hsa with ⟨h1, _⟩ | ⟨h1, _⟩
            · exact h1
            · exact absurd h1 hcb
          obtain ⟨q1, q2⟩ := nextP (endOf so hse (Or.inr ⟨c, rfl, hcl⟩))
          exact ⟨_, _, _, _, _, _, seen, rfl, e3, h3, hsl, q1, q2⟩
    · rintro σ H2 ⟨v2, v3, v4, v5, v6, v7, seen, rfl, e2, h2, hsl, hs1, hs2⟩
      exact kno H2 e2 fun v hv => hs2 v (by omega)
end
end K46
/-! part W16 -/
set_option maxHeartbeats 600000
namespace K46
open PySem PySem.Spec PyProof.Rows L2 Evl LamX NdefX
def optV : Option Int → V
  | none => .non
  | some i => .int i
def spWo (p q : Nat) : Sp := fun vs H Q _ => ∃ t n : Nat, vs = [vn t, vn n] ∧ t ≤ 3 ∧ n ≤ 9 ∧ Q (.int (wfn p q t n)) H
/-- no price is to be raised -/
def Still (es : EsT) (p q : Nat) (pr : Prs) : Prop := ∀ (a n : Nat) (row : List (Nat × Nat)) (e : Nat × Nat) (pa : Int), es[a]? = some row → row[n]? = some e → pr[a]? = some (some pa) → ∃ pt : Int, pr[e.2]? = some (some pt) ∧ pa + wfn p q e.1 n ≤ pt
theorem wfn_le {p q t n : Nat} (ht : t ≤ 3) (hn : n ≤ 9) : wfn p q t n ≤ ((9 * p + 3 * q : Nat) : Int) ∧ -((9 * p + 3 * q : Nat) : Int) ≤ wfn p q t n := by
  unfold wfn
  have h1 : (p : Int) * n ≤ (p : Int) * 9 := Int.mul_le_mul_of_nonneg_left (by omega) (by omega)
  have h2 : (q : Int) * t ≤ (q : Int) * 3 := Int.mul_le_mul_of_nonneg_left (by omega) (by omega)
  have h3 : (0 : Int) ≤ (p : Int) * n := Int.mul_nonneg (by omega) (by omega)
  have h4 : (0 : Int) ≤ (q : Int) * t := Int.mul_nonneg (by omega) (by omega)
  omega
theorem RpL.set {H : Hp} : ∀ {ds : List Da} {xs : List V} {i : Nat} {d : Da} {x : V}, RpL H ds xs → Rp H d x → RpL H (ds.set i d) (xs.set i x)
  | [], _, i, d, x, h, _ => by cases (show _ = [] from h); exact rfl
  | e :: ds, _, 0, d, x, h, k => by
    obtain ⟨y, r, rfl, _, h2⟩ := h
    exact ⟨x, r, rfl, k, h2⟩
  | e :: ds, _, i + 1, d, x, h, k => by
    obtain ⟨y, r, rfl, h1, h2⟩ := h
    exact ⟨y, r.set i x, rfl, h1, RpL.set h2 k⟩
structure CH (es : EsT) (p q N : Nat) (H H' : Hp) (pl sl : Addr) (pr : Prs) (ss : Ss) : Prop where
  ci : CI es p q (9 * p + 3 * q) N pr ss
  ex : Ex H H'
  hp : H' pl = some (.lst (pr.map optV))
  hs : ∃ sv, H' sl = some (.lst sv) ∧ RpL H' (ss.map fuseD) sv
theorem CH.mono {es : EsT} {p q N : Nat} {H H' H'' : Hp} {pl sl : Addr} {pr : Prs} {ss : Ss} (h : CH es p q N H H' pl sl pr ss) (e : Ex H' H'') : CH es p q N H H'' pl sl pr ss := by
  obtain ⟨sv, s1, s2⟩ := h.hs
  exact ⟨h.ci, h.ex.trans e, e _ _ h.hp, sv, e _ _ s1, s2.mono (tm_ex e)⟩
def StillTo (es : EsT) (p q : Nat) (pr : Prs) (a k : Nat) : Prop := ∀ (a' n : Nat) (row : List (Nat × Nat)) (e : Nat × Nat) (pa : Int), (a' < a ∨ (a' = a ∧ n < k)) → es[a']? = some row → row[n]? = some e → pr[a']? = some (some pa) → ∃ pt : Int, pr[e.2]? = some (some pt) ∧ pa + wfn p q e.1 n ≤ pt
theorem chn_nums {es : EsT} {ss : Ss} {m N : Nat} (ok : EsOk es N m) (hs : ∀ (x v n : Nat), ss[x]? = some (some (v, n)) → ∃ row e, es[v]? = some row ∧ row[n]? = some (e : Nat × Nat)) {a c : Nat} {l : List Nat} (h : Chn ss a l c) : ∀ x ∈ l, x ≤ m := by
  induction h with
  | nil => intro x hx; cases hx
  | @cons a b n c l h1 _ ih =>
    intro x hx
    rcases List.mem_cons.mp hx with rfl | hx
    · obtain ⟨row, e, h2, h3⟩ := hs a b x h1
      have := (ok.row b row h2).1
      have := (List.getElem?_eq_some_iff.mp h3).1
      omega
    · exact ih x hx
section
variable {P : Program} {w : World} {K : PySem.W.Frag} {mg : Str → Option Value} {base : Heap}
/-! climbed: 0 graph, 1 worth, 2 prices, 3 steps, 4 changed, 5 at, 6 row, 7 number, 8 told, 9 then, 10 price, 11 found -/
theorem sc_climbed : FnScope ["graph", "worth", "prices", "steps", "changed", "at", "row", "number", "told", "then", "price", "found"] ["graph", "worth"] (d_climbed.scope) := ⟨rfl, rfl, rfl, by decide +kernel, rfl, by decide +kernel, by decide +kernel⟩
theorem g_climbed (B : Bas w K mg) (G : GP Sta Nat) {k j N p q : Nat} {A : Around} {outer : List Env} {s : Shared} {H : Hp} {us : List Value} {g f : Addr} {pn : Pins} {tr : Hp → Prop} {Q : VK}
    (hC : Clo P w K mg base k f pn tr (spWo p q)) (hP : PinAt pn s H) (hnf : ∀ p ∈ pn, p.1 ∉ frs outer) (htr : tr H) (hjk : k ≤ j) (hj : 1 ≤ j) (hr : Room (j + 1) A) (e0 : Env0 P w K mg base A outer s H) (r : Vals [.ref g, .ref f] us)
    (hta : G.ta = dn) (gr : GR K G H g N) (ok : EsOk (G.b N).edges N G.m) (hnodes : (G.b N).nodes.length = N) (h0 : 0 < N) (hN : N ≤ 1000)
    (k1 : ∀ H' pp rr vv a l t, Ex H H' → H' pp = some (.tup [.non, .ref vv]) → H' vv = some (.tup [vn a, .ref rr]) → H' rr = some (.tup ((l : List Nat).map vn)) → a < N → l ≠ [] → l.length ≤ N → (∀ x ∈ l, x ≤ G.m) → l.foldl (stE (G.b N).edges) (0, a) = (t, a) → q * t < p * l.sum → Q (.ref pp) H')
    (k2 : ∀ H' pp rr pr, Ex H H' → H' pp = some (.tup [.ref rr, .non]) → H' rr = some (.lst ((pr : Prs).map optV)) → pr.length = N → (∃ p0, pr[0]? = some (some p0)) → Still (G.b N).edges p q pr → Q (.ref pp) H') :
    codeAny (model P w) A (.call (.ref (He.ga K "climbed")) ⟨us, []⟩) (CR CX0 outer P w H s Q E0) s := by
  have C_round_among := c_round_among (P := P) (base := base) B
  obtain ⟨fd, F⟩ := B.def_ d_climbed (mem_at (i := 30) rfl)
  have F : FunD K d_climbed.name d_climbed.qual d_climbed.params d_climbed.body d_climbed.scope [] [] (He.ga K "climbed") fd := F
  have hb := F.bindsN (ps := ["graph", "worth"]) (fun _ _ _ _ _ _ us hl => match us, hl with | [_, _], _ => rfl)
  obtain ⟨oc, od, dV, kV, doc, pm, an, cdv, ct, osl, rfl, lk, hcd, _, _⟩ := F.ex
  have KX : K.In s.heap := e0.mod.kin.keeps fun b o e => (e0.bs b o e).1
  have hul : us.length = 2 := r.length.symm
  refine run_ofS (N := ["graph", "worth", "prices", "steps", "changed", "at", "row", "number", "told", "then", "price", "found"]) (ps := ["graph", "worth"]) (us := us) (vs := [.ref g, .ref f]) lk hcd sc_climbed hr e0 (by have := hb s us KX (by rw [List.append_nil]; exact hul); rw [List.append_nil] at this; exact this) r rfl fun hr => ?_
  suffices hh : ∃ t, PSs (cxOf CX0 P w K mg base ["graph", "worth", "prices", "steps", "changed", "at", "row", "number", "told", "then", "price", "found"] d_climbed.qual d_climbed.scope (He.ga K "climbed") cdv A outer s H E0).nox d_climbed.body t ∧ t { nx := fun _ H' => Q .non H', rt := Q } (L2.start ["graph", "worth", "prices", "steps", "changed", "at", "row", "number", "told", "then", "price", "found"] [.ref g, .ref f]) H from
    let ⟨t, a, b⟩ := hh; ⟨t, a.nox, b⟩
  have hr1 : Room 1 _ := hr.mono hj
  refine ⟨_, (pss_cons (ps_set (i := 2) sc_climbed.nd rfl (Or.inl rfl) (pe_op op_catL (pe_lstA (pa_cons pe_int pa_nil)) (pe_op op_repL (pe_lstA (pa_cons pe_non pa_nil)) (pe_op op_subN (pe_callB call_lenB (by rfl) (B.free 74) boot_len (pa_cons (pe_fld (pv 0) (by rfl)) pa_nil)) pe_int))))
    (pss_cons (ps_set (i := 3) sc_climbed.nd rfl (Or.inl rfl) (pe_op op_repL (pe_lstA (pa_cons pe_non pa_nil)) (pe_callB call_lenB (by rfl) (B.free 74) boot_len (pa_cons (pe_fld (pv 0) (by rfl)) pa_nil))))
    (pss_cons (ps_set (i := 4) sc_climbed.nd rfl (Or.inl rfl) pe_bl)
    (pss_cons (ps_while PassesOwn.never (pt_val (pv 4))
      (pss_cons (ps_set (i := 4) sc_climbed.nd rfl (Or.inl rfl) pe_bl)
      (pss_cons (ps_for PassesOwn.never rfl (pi_enum (by rfl) (B.free 80) (pa_cons (pe_fld (pv 0) (by rfl)) pa_nil)) (pg_tup rfl (pgs_cons (pg_name (i := 5) sc_climbed.nd rfl (Or.inl rfl)) (pgs_cons (pg_name (i := 6) sc_climbed.nd rfl (Or.inl rfl)) pgs_nil)))
        (pss_one (ps_if (pt_cmpR op_notN (pe_ix ix_listN (pv 2) (pv 5) (fun _ _ => rfl)) pe_non (nomark _))
          (pss_one (ps_for PassesOwn.never rfl (pi_enum (by rfl) (B.free 80) (pa_cons (pv 6) pa_nil)) (pg_tup rfl (pgs_cons (pg_name (i := 7) sc_climbed.nd rfl (Or.inl rfl)) (pgs_cons (pg_tup rfl (pgs_cons (pg_name (i := 8) sc_climbed.nd rfl (Or.inl rfl)) (pgs_cons (pg_name (i := 9) sc_climbed.nd rfl (Or.inl rfl)) pgs_nil))) pgs_nil)))
            (pss_cons (ps_set (i := 10) sc_climbed.nd rfl (Or.inl rfl) (pe_op op_add (pe_ix ix_listN (pv 2) (pv 5) (fun _ _ => rfl)) (pe_clo (i := 1) hC hP hnf rfl hr hjk (pa_cons (pv 8) (pa_cons (pv 7) pa_nil)))))
            (pss_one (ps_if (PW.pt (pw_or (pt_cmpR op_isN (pe_ix ix_listN (pv 2) (pv 9) (fun _ _ => rfl)) pe_non (nomark _)) (pw_or1 (pt_cmpR op_gt (pv 10) (pe_ix ix_listN (pv 2) (pv 9) (fun _ _ => rfl)) (nomark _)))))
              (pss_one (ps_asg (pe_tupA (pa_cons (pv 10) (pa_cons (pe_tupA (pa_cons (pv 5) (pa_cons (pv 7) pa_nil))) (pa_cons pe_bl pa_nil)))) (pg_tup rfl (pgs_cons (pg_sub (pv 2) (pv 9) set_listB) (pgs_cons (pg_sub (pv 3) (pv 9) set_listB) (pgs_cons (pg_name (i := 4) sc_climbed.nd rfl (Or.inl rfl)) pgs_nil))))))
              pss_nil)))))
          pss_nil)))
      (pss_cons (ps_set (i := 11) sc_climbed.nd rfl (Or.inl rfl) (pe_cal C_round_among hr (by first | decide | omega) (by rfl) (pa_cons (pv 3) pa_nil)))
      (pss_one (ps_if (pt_cmpR op_notN (pv 11) pe_non (nomark _))
        (pss_one (ps_ret (pe_tupA (pa_cons pe_non (pa_cons (pv 11) pa_nil)))))
        pss_nil))))))
    (pss_one (ps_ret (pe_tupA (pa_cons (pv 2) (pa_cons pe_non pa_nil))))))))), ?_⟩
  have gr0 := gr
  obtain ⟨dx, ln, le, lb, nv, bv, rs, g1, g2, g3, g4, g5, g6, g7⟩ := gr
  have hnl : nv.length = N := by rw [g3.length, List.length_map, hnodes]
  have hm9 := G.m9
  -- prices
  refine ⟨sz1, fun a1 H1 n1 e1 h1 => ⟨sz1, fun a2 H2 n2 e2 h2 => ?_⟩⟩
  have e02 := e1.trans e2
  refine ⟨_, rfl, g, _, dx, _, _, rfl, e02 _ _ g1, B.cls, B.noat "nodes" 88, rfl, _, _, rfl, Or.inl (e02 _ _ g2), _, 1, rfl, rfl, by rw [hnl]; exact h0, ?_⟩
  rw [hnl]
  refine ⟨_, _, N - 1, rfl, rfl, h2, by omega, by rw [sizeLine_eq]; simp; omega, fun a3 H3 n3 e3 h3 => ?_⟩
  rw [flat_one] at h3
  refine ⟨_, _, _, _, rfl, rfl, (e2.trans e3) _ _ h1, h3, by rw [sizeLine_eq]; simp; omega, fun pl H4 n4 e4 h4 => ?_⟩
  have e04 := (e02.trans e3).trans e4
  have npl : H pl = none := fresh_back (e02.trans e3) n4
  -- steps
  refine ⟨sz1, fun a5 H5 n5 e5 h5 => ?_⟩
  have e05 := e04.trans e5
  refine ⟨_, rfl, g, _, dx, _, _, rfl, e05 _ _ g1, B.cls, B.noat "nodes" 88, rfl, _, _, rfl, Or.inl (e05 _ _ g2), ?_⟩
  rw [hnl]
  refine ⟨_, _, N, rfl, rfl, h5, by omega, by rw [sizeLine_eq]; simp; omega, fun sl H6 n6 e6 h6 => ?_⟩
  rw [flat_one] at h6
  have e06 := e05.trans e6
  have nsl : H sl = none := fresh_back e05 n6
  have hps : pl ≠ sl := ne_of_none (e5 _ _ h4) n6
  have ci0 : CI (G.b N).edges p q (9 * p + 3 * q) N (some 0 :: List.replicate (N - 1) none) (List.replicate N none) := by
    refine ⟨by simp; omega, by simp, ⟨0, rfl⟩, fun _ => rfl, ⟨fun _ => 0, 0, fun x v n hx => ?_, fun x => Nat.le_refl _⟩, fun x px hx0 hx => ?_, fun x px hx => ?_⟩
    · rw [List.getElem?_replicate] at hx
      split at hx <;> cases hx
    · cases x with
      | zero => exact absurd rfl hx0
      | succ x =>
        rw [List.getElem?_cons_succ, List.getElem?_replicate] at hx
        split at hx <;> cases hx
    · cases x with
      | zero => simp at hx; subst hx; omega
      | succ x =>
        rw [List.getElem?_cons_succ, List.getElem?_replicate] at hx
        split at hx <;> cases hx
  have ch0 : CH (G.b N).edges p q N H H6 pl sl (some 0 :: List.replicate (N - 1) none) (List.replicate N none) := by
    refine ⟨ci0, e06, ?_, _, h6, ?_⟩
    · rw [(e5.trans e6) _ _ h4, List.map_cons, List.map_replicate]; rfl
    · rw [List.map_replicate]
      clear h6 n6
      have : ∀ n, RpL H6 (List.replicate n (fuseD none)) (List.replicate n V.non) := by
        intro n
        induction n with
        | zero => rfl
        | succ n ih => exact ⟨_, _, rfl, rfl, ih⟩
      exact this N
  have hup0 : ∀ (x : Nat) (px : Int), (some 0 :: List.replicate (N - 1) none : Prs)[x]? = some (some px) → px ≤ (((9 * p + 3 * q) * N : Nat) : Int) := fun x px hx => by
    cases x with
    | zero => simp at hx; subst hx; omega
    | succ x =>
      rw [List.getElem?_cons_succ, List.getElem?_replicate] at hx
      split at hx <;> cases hx
  -- while changed
  refine ⟨fun M σ H' => ∃ pr ss ch v5 v6 v7 v8 v9 v10 v11, σ = [some (.ref g), some (.ref f), some (.ref pl), some (.ref sl), some (.bl ch), v5, v6, v7, v8, v9, v10, v11] ∧ CH (G.b N).edges p q N H H' pl sl pr ss ∧
      (ch = true → (∀ (x : Nat) (px : Int), pr[x]? = some (some px) → px ≤ (((9 * p + 3 * q) * N : Nat) : Int)) ∧ M = Phi ((9 * p + 3 * q) * N) pr + 1) ∧ (ch = false → Still (G.b N).edges p q pr ∧ M = 0),
    ⟨_, _, _, true, none, none, none, none, none, none, none, rfl, ch0, fun _ => ⟨hup0, rfl⟩, fun z => nomatch z⟩, ?_⟩
  rintro M σ H7 ⟨pr, ss, ch, v5, v6, v7, v8, v9, v10, v11, rfl, c7, hct, hcf⟩
  refine ⟨_, rfl, _, rfl, ?_⟩
  cases ch with
  | false =>
    obtain ⟨hst, rfl⟩ := hcf rfl
    refine iF rfl ?_
    refine ⟨_, rfl, sz2, fun p8 H8 e8 h8 => ?_⟩
    exact k2 H8 p8 pl pr (c7.ex.trans e8) h8 (e8 _ _ c7.hp) c7.ci.l1 c7.ci.z hst
  | true =>
    obtain ⟨hup, rfl⟩ := hct rfl
    clear hct hcf
    refine iT rfl ?_
    refine ⟨fun σ' H' => ∃ pr' ss' ch v5 v6 v7 v8 v9 v10 v11, σ' = [some (.ref g), some (.ref f), some (.ref pl), some (.ref sl), some (.bl ch), v5, v6, v7, v8, v9, v10, v11] ∧ CH (G.b N).edges p q N H H' pl sl pr' ss' ∧
      (ch = true → (∀ (x : Nat) (px : Int), pr'[x]? = some (some px) → px ≤ (((9 * p + 3 * q) * N : Nat) : Int)) ∧ Phi ((9 * p + 3 * q) * N) pr' < Phi ((9 * p + 3 * q) * N) pr) ∧ (ch = false → Still (G.b N).edges p q pr'), ?_, ?_⟩
    · rintro σ' H' ⟨pr', ss', ch, v5, v6, v7, v8, v9, v10, v11, rfl, c, h1, h2⟩
      cases ch with
      | true =>
        obtain ⟨q1, q2⟩ := h1 rfl
        exact ⟨_, Nat.succ_lt_succ q2, pr', ss', true, v5, v6, v7, v8, v9, v10, v11, rfl, c, fun _ => ⟨q1, rfl⟩, fun z => nomatch z⟩
      | false => exact ⟨0, Nat.succ_pos _, pr', ss', false, v5, v6, v7, v8, v9, v10, v11, rfl, c, (fun z => nomatch z), fun _ => ⟨h2 rfl, rfl⟩⟩
    -- changed = False; for at, row in enumerate(graph.edges)
    refine ⟨_, rfl, g, _, dx, _, _, rfl, c7.ex _ _ g1, B.cls, B.noat "edges" 89, rfl, _, _, rfl, SqL.of (c7.ex _ _ g6), for_enum (xs := rs.map V.ref)
      (fun a σ H' => ∃ pr' ss' ch v5 v6 v7 v8 v9 v10, σ = [some (.ref g), some (.ref f), some (.ref pl), some (.ref sl), some (.bl ch), v5, v6, v7, v8, v9, v10, v11] ∧ CH (G.b N).edges p q N H H' pl sl pr' ss' ∧ PLe pr pr' ∧ (ch = true → PLt pr pr') ∧ (ch = false → pr' = pr ∧ StillTo (G.b N).edges p q pr' a 0))
      ⟨pr, ss, false, v5, v6, v7, v8, v9, v10, rfl, c7, PLe.refl _, (fun z => nomatch z), fun _ => ⟨rfl, fun a' n row e pa h => by omega⟩⟩ (fun a σ H' _ ⟨_, _, _, _, _, _, _, _, _, _, c, _⟩ => c.ex _ _ g6) ?_ ?_⟩
    · rintro a x σ H8 T H9 hx ⟨pr1, ss1, ch, u5, u6, u7, u8, u9, u10, rfl, c8, hle, hlt, hst⟩ nT e9 hT
      obtain ⟨ra, hra, rfl⟩ := map_at hx
      obtain ⟨row, hrow, ys, hys, rys⟩ := (rows_at g7).2.1 a ra hra
      have haN : a < N := by rw [← ok.len]; exact (List.getElem?_eq_some_iff.mp hrow).1
      obtain ⟨rl1, rl2⟩ := ok.row a row hrow
      have hyl : ys.length = row.length := by rw [rys.length, List.length_map]
      have c9 := c8.mono e9
      obtain ⟨oa, hpa'⟩ : ∃ o, pr1[a]? = some o := ⟨_, List.getElem?_eq_getElem (by rw [c9.ci.l1]; exact haN)⟩
      have hpa : (pr1.map optV)[a]? = some (optV oa) := by rw [List.getElem?_map, hpa']; rfl
      refine ⟨_, _, rfl, SqT.of hT, rfl, _, _, rfl, _, _, rfl, rfl, ?_⟩
      refine ⟨_, rfl, _, rfl, _, _, a, _, rfl, rfl, c9.hp, hpa, rfl, _, rfl, ?_⟩
      cases oa with
      | none =>
        refine iF (by rfl) ?_
        refine ⟨pr1, ss1, ch, _, _, u7, u8, u9, u10, rfl, c9, hle, hlt, fun hc => ⟨(hst hc).1, fun a' n row' e pa hh q1 q2 q3 => ?_⟩⟩
        by_cases haa : a' < a
        · exact (hst hc).2 a' n row' e pa (Or.inl haa) q1 q2 q3
        · have : a' = a := by omega
          subst this
          rw [hpa'] at q3; cases q3
      | some pa0 =>
        refine iT (by rfl) ?_
        refine ⟨_, rfl, _, _, rfl, SqL.of (c9.ex _ _ hys), for_enum (xs := ys)
          (fun i σ H' => ∃ pr' ss' ch v7 v8 v9 v10, σ = [some (.ref g), some (.ref f), some (.ref pl), some (.ref sl), some (.bl ch), some (vn a), some (.ref ra), v7, v8, v9, v10, v11] ∧ CH (G.b N).edges p q N H H' pl sl pr' ss' ∧ PLe pr pr' ∧ (∃ pa : Int, pr'[a]? = some (some pa)) ∧ (ch = true → PLt pr pr') ∧ (ch = false → pr' = pr ∧ StillTo (G.b N).edges p q pr' a i))
          ⟨pr1, ss1, ch, u7, u8, u9, u10, rfl, c9, hle, ⟨pa0, hpa'⟩, hlt, hst⟩ (fun i σ H' _ ⟨_, _, _, _, _, _, _, _, c, _⟩ => c.ex _ _ hys) ?_ ?_⟩
        · rintro n x σ H10 T2 H11 hx2 ⟨pr2, ss2, ch2, w7, w8, w9, w10, rfl, c10, hle2, ⟨pa, hpa2⟩, hlt2, hst2⟩ nT2 e11 hT2
          have hnr : n < row.length := by rw [← hyl]; exact (List.getElem?_eq_some_iff.mp hx2).1
          obtain ⟨e, he, rx⟩ := rys.mapAt hx2
          have c11 := c10.mono e11
          have rx' := rx.mono (tm_ex c11.ex)
          unfold GP.rowD at rx'
          rw [hta] at rx'
          obtain ⟨tp, rfl, htp⟩ := rp_pr (p := e) rx'
          obtain ⟨heN, he3⟩ := rl2 e (List.mem_of_getElem? he)
          refine ⟨_, _, rfl, SqT.of hT2, rfl, _, _, rfl, _, _, rfl, ⟨_, _, rfl, SqT.of htp, rfl, _, _, rfl, _, _, rfl, rfl, rfl, ?_⟩⟩
          -- price = prices[at] + worth(told, number)
          have tr11 : tr H11 := hC.st _ _ (sty_ex c11.ex) htr
          refine ⟨_, rfl, _, rfl, _, _, a, optV (some pa), rfl, rfl, c11.hp, by rw [List.getElem?_map, hpa2]; rfl, ?_⟩
          refine ⟨rfl, tr11, _, rfl, _, rfl, tr11, e.1, n, rfl, he3, by omega, ?_⟩
          refine ⟨_, _, rfl, rfl, ?_⟩
          obtain ⟨ot, hpt'⟩ : ∃ o, pr2[e.2]? = some o := ⟨_, List.getElem?_eq_getElem (by rw [c11.ci.l1]; exact heN)⟩
          have hpt : (pr2.map optV)[e.2]? = some (optV ot) := by rw [List.getElem?_map, hpt']; rfl
          refine ⟨_, rfl, _, rfl, _, _, e.2, _, rfl, rfl, c11.hp, hpt, rfl, _, rfl, ?_⟩
          have hwb := wfn_le (p := p) (q := q) (n := n) he3 (by omega)
          cases ot with
          | none =>
            refine iT (by rfl) ?_
            refine iT rfl ?_
            have hup2 : pr2[e.2]? = some none ∨ ∃ pt : Int, pr2[e.2]? = some (some pt) ∧ pt < pa + wfn p q e.1 n := Or.inl hpt'
            refine ⟨_, rfl, _, rfl, _, rfl, sz2, fun t1 Ha ea ha => ⟨sz3, fun t2 Hb eb hb => ?_⟩⟩
            have c12 := c11.mono (ea.trans eb)
            obtain ⟨sv, s1, s2⟩ := c12.hs
            refine ⟨_, _, rfl, SqT.of hb, rfl, _, _, rfl, _, rfl, _, rfl, pl, _, e.2, rfl, rfl, c12.hp, by rw [List.length_map, c12.ci.l1]; exact heN, fun Hc bc hc => ?_⟩
            have s1c := bc _ _ (Ne.symm hps) s1
            refine ⟨_, _, rfl, _, rfl, _, rfl, sl, _, e.2, rfl, rfl, s1c, by rw [s2.length, List.length_map, c12.ci.l2]; exact heN, fun Hd bd hd => ?_⟩
            refine ⟨_, _, rfl, rfl, ?_⟩
            have hra2 := c12.ci.raise hrow he rfl heN hpa2 hwb.2 hup2
            have tbc : Tm Hb Hc := bc.tm c12.hp
            have tcd : Tm Hc Hd := bd.tm s1c
            obtain ⟨pa', hpa', _⟩ := hra2.2.1.2 a pa hpa2
            refine ⟨_, _, true, _, _, _, _, rfl, ⟨hra2.1, (c12.ex.bt npl bc).bt nsl bd, by rw [bd _ _ hps hc, List.map_set]; rfl, _, hd, ?_⟩, hle2.trans hra2.2.1, ⟨pa', hpa'⟩, fun _ => PLt.of hle2 hra2.2.2, fun z => nomatch z⟩
            rw [List.map_set]
            exact ((s2.mono tbc).mono tcd).set ⟨t1, _, rfl, tcd _ _ (tbc _ _ (eb _ _ ha)), _, _, rfl, rfl, _, _, rfl, rfl, rfl⟩
          | some pt =>
            refine iF (by rfl) ?_
            refine ⟨_, rfl, _, rfl, _, rfl, _, _, e.2, _, rfl, rfl, c11.hp, hpt, _, _, rfl, rfl, _, rfl, ?_⟩
            by_cases hgt : pt < pa + wfn p q e.1 n
            · refine iT (decide_eq_true hgt) ?_
              have hup2 : pr2[e.2]? = some none ∨ ∃ pt : Int, pr2[e.2]? = some (some pt) ∧ pt < pa + wfn p q e.1 n := Or.inr ⟨pt, hpt', hgt⟩
              refine ⟨_, rfl, _, rfl, _, rfl, sz2, fun t1 Ha ea ha => ⟨sz3, fun t2 Hb eb hb => ?_⟩⟩
              have c12 := c11.mono (ea.trans eb)
              obtain ⟨sv, s1, s2⟩ := c12.hs
              refine ⟨_, _, rfl, SqT.of hb, rfl, _, _, rfl, _, rfl, _, rfl, pl, _, e.2, rfl, rfl, c12.hp, by rw [List.length_map, c12.ci.l1]; exact heN, fun Hc bc hc => ?_⟩
              have s1c := bc _ _ (Ne.symm hps) s1
              refine ⟨_, _, rfl, _, rfl, _, rfl, sl, _, e.2, rfl, rfl, s1c, by rw [s2.length, List.length_map, c12.ci.l2]; exact heN, fun Hd bd hd => ?_⟩
              refine ⟨_, _, rfl, rfl, ?_⟩
              have hra2 := c12.ci.raise hrow he rfl heN hpa2 hwb.2 hup2
              have tbc : Tm Hb Hc := bc.tm c12.hp
              have tcd : Tm Hc Hd := bd.tm s1c
              obtain ⟨pa', hpa', _⟩ := hra2.2.1.2 a pa hpa2
              refine ⟨_, _, true, _, _, _, _, rfl, ⟨hra2.1, (c12.ex.bt npl bc).bt nsl bd, by rw [bd _ _ hps hc, List.map_set]; rfl, _, hd, ?_⟩, hle2.trans hra2.2.1, ⟨pa', hpa'⟩, fun _ => PLt.of hle2 hra2.2.2, fun z => nomatch z⟩
              rw [List.map_set]
              exact ((s2.mono tbc).mono tcd).set ⟨t1, _, rfl, tcd _ _ (tbc _ _ (eb _ _ ha)), _, _, rfl, rfl, _, _, rfl, rfl, rfl⟩
            · refine iF (decide_eq_false hgt) ?_
              refine ⟨pr2, ss2, ch2, _, _, _, _, rfl, c11, hle2, ⟨pa, hpa2⟩, hlt2, fun hc => ⟨(hst2 hc).1, fun a' n' row' e' pa' hh q1 q2 q3 => ?_⟩⟩
              by_cases hold : a' < a ∨ (a' = a ∧ n' < n)
              · exact (hst2 hc).2 a' n' row' e' pa' hold q1 q2 q3
              · have h1 : a' = a := by omega
                have h2 : n' = n := by omega
                subst h1 h2
                rw [hrow] at q1; cases q1
                rw [he] at q2; cases q2
                rw [hpa2] at q3; cases q3
                exact ⟨pt, hpt', by omega⟩
        · rintro σ H10 ⟨pr2, ss2, ch2, w7, w8, w9, w10, rfl, c10, hle2, hpa2, hlt2, hst2⟩
          refine ⟨pr2, ss2, ch2, _, _, w7, w8, w9, w10, rfl, c10, hle2, hlt2, fun hc => ⟨(hst2 hc).1, fun a' n' row' e' pa' hh q1 q2 q3 => ?_⟩⟩
          refine (hst2 hc).2 a' n' row' e' pa' ?_ q1 q2 q3
          by_cases haa : a' < a
          · exact Or.inl haa
          · have h1 : a' = a := by omega
            subst h1
            rw [hrow] at q1; cases q1
            exact Or.inr ⟨rfl, by rw [hyl]; exact (List.getElem?_eq_some_iff.mp q2).1⟩
    · rintro σ H8 ⟨pr1, ss1, ch, u5, u6, u7, u8, u9, u10, rfl, c8, hle, hlt, hst⟩
      obtain ⟨sv, s1, s2⟩ := c8.hs
      obtain ⟨Tt, cl, hTs, _⟩ := c8.ci.s
      have hstep : ∀ (x v n : Nat), ss1[x]? = some (some (v, n)) → ∃ row e, (G.b N).edges[v]? = some row ∧ row[n]? = some (e : Nat × Nat) := fun x v n hx => by
        obtain ⟨row, e, _, _, q1, q2, _⟩ := hTs x v n hx
        exact ⟨row, e, q1, q2⟩
      have hwall : ∀ (a n : Nat) (row : List (Nat × Nat)) (e : Nat × Nat), (G.b N).edges[a]? = some row → row[n]? = some e → wfn p q e.1 n ≤ ((9 * p + 3 * q : Nat) : Int) := fun a n row e q1 q2 => by
        obtain ⟨r1, r2⟩ := ok.row a row q1
        have := (List.getElem?_eq_some_iff.mp q2).1
        exact (wfn_le (r2 e (List.mem_of_getElem? q2)).2 (by omega)).1
      refine ⟨_, rfl, sl, sv, ss1, rfl, s1, s2, by rw [c8.ci.l2]; exact hN, fun x pp hx => ?_, fun H9 e9 hE => ?_, fun H9 pp rr a l e9 q1 q2 haN hch hl hll => ?_⟩
      · obtain ⟨row, e, q1, _⟩ := hstep x pp.1 pp.2 hx
        rw [c8.ci.l2, ← ok.len]
        exact (List.getElem?_eq_some_iff.mp q1).1
      · refine ⟨_, rfl, rfl, _, rfl, ?_⟩
        refine iF (by rfl) ?_
        refine ⟨pr1, ss1, ch, _, _, _, _, _, _, _, rfl, c8.mono e9, fun hc => ?_, fun hc => ?_⟩
        · have hb := c8.ci.bound hwall hE
          exact ⟨hb, Phi_lt c8.ci hle (hlt hc) hb⟩
        · intro a n row e pa q1 q2 q3
          refine (hst hc).2 a n row e pa (Or.inl ?_) q1 q2 q3
          rw [List.length_map, (rows_at g7).1]
          exact (List.getElem?_eq_some_iff.mp q1).1
      · refine ⟨_, rfl, rfl, _, rfl, ?_⟩
        refine iT (by rfl) ?_
        refine ⟨_, rfl, sz2, fun p10 H10 e10 h10 => ?_⟩
        obtain ⟨t, ht1, ht2⟩ := c8.ci.round hch hl
        rw [c8.ci.l2] at haN hll
        refine k1 H10 p10 rr pp a l.reverse t ((c8.ex.trans e9).trans e10) h10 (e10 _ _ q1) (e10 _ _ q2) haN (by simpa using hl) (by simpa using hll) (fun x hx => chn_nums ok hstep hch x (by simpa using hx)) ?_ ?_
        · have := ht1 0
          rw [Nat.zero_add] at this
          exact this
        · rw [List.sum_reverse]; exact ht2
end
end K46
/-! part W17 -/
set_option maxHeartbeats 600000
namespace K46
open PySem PySem.Spec PyProof.Rows L2 Evl LamX NdefX
theorem Bat.hu_w {K : PySem.W.Frag} {mg : Str → Option Value} {base : Heap} (T : Bat K mg base) : ∀ p ∈ Tq K, p.1 = tW K → p.2 = "worth_of.<locals>.<lambda>" := fun p hp e => by
  unfold Tq at hp
  rcases List.mem_cons.mp hp with rfl | hp
  · exact absurd e T.n1
  rcases List.mem_cons.mp hp with rfl | hp
  · rfl
  rcases List.mem_cons.mp hp with rfl | hp
  · exact absurd e.symm T.n3
  · cases hp
/-- a lambda just made, as others may call it -/
theorem lam_fin {X : Cx} {pins : List (Addr × Obj)} {σ : L2.St} {H1 : Hp} {s3 : Shared} {scope : Scope} {params : Arguments} {body : Expr} {c' f : Addr} {pm ctv : Value} {N ps fr : List Str} {js : List Nat} {k : Nat} {sp : Sp} (I3 : Inv X pins σ H1 s3) (hfnall : ∀ x, X.fn x = true)
    (hf : s3.heap.get? f = some (PySem.W.kla_obj "<lambda>" (X.env.qual ++ "<lambda>") params body scope (cloFrom X.env.cells scope.names []) pm c' ctv)) (hfn : H1 f = none) (hfr : f ∉ frs X.stack) (hc : H1 c' = some (CodeO c' (X.env.qual ++ "<lambda>")))
    (S : NScope N ps fr scope) (hfree : ∀ y ∈ scope.names, y.2 = .free → X.env.scope.names.lookup y.1 = some .cell ∨ X.env.scope.names.lookup y.1 = some .free) (hfrr : ∀ y ∈ fr, (y, NameKind.free) ∈ scope.names) (hjs : js.map (fun j => X.N[j]?) = fr.map some)
    (hbind : ∀ (q : Str) (cl : List (Str × Addr)) (pm cv ctv : Value) (us : List Value), us.length = ps.length → bindArgs (PySem.W.kla_fn "<lambda>" q params body scope cl pm cv ctv) ⟨us, []⟩ = pure (ps.zip us))
    (len : ∀ vs H Q E, sp vs H Q E → vs.length = ps.length)
    (hbody : ∀ (q : Str) (cl : List (Str × Addr)) (c' f : Addr) (A : Around) (outer : List Env) (s : Shared) (H : Hp) (vs : List V) (Q : VK), Room k (A.deeper (envF ⟨"<lambda>", q, params, [], scope, cl, c'⟩ f s.heap.objs.size)) → Tm H1 H → sp vs H Q E0 → ∃ te, PE (ncx CX0 X.prog X.w X.K X.mg X.base N ⟨"<lambda>", q, params, [], scope, cl, c'⟩ f A outer s H E0) body te ∧ te (startF N vs (js.map (slotAt σ))) H Q) :
    ∃ (pn : Pins) (tr : Hp → Prop), Clo X.prog X.w X.K X.mg X.base (k + 1) f pn tr sp ∧ PinAt pn s3 H1 ∧ (∀ p ∈ pn, p.1 ∉ frs X.stack) ∧ tr H1 := by
  have cap : Caps X (cloFrom X.env.cells scope.names []) fr js := Caps.made I3.ok hfree hfrr hjs
  have CA : CellsAt (cloFrom X.env.cells scope.names []) fr (js.map (slotAt σ)) s3.heap H1 := cells_of I3 cap
  have hC := clo_lam (P := X.prog) (w := X.w) (K := X.K) (mg := X.mg) (base := X.base) (k := k) (f := f) (F := ⟨"<lambda>", X.env.qual ++ "<lambda>", params, [], scope, cloFrom X.env.cells scope.names [], c'⟩) (e := body) (pm := pm) (ctv := ctv) S CA (hbind _ _ _ _ _) (sp := sp) len (fun A outer s H vs Q hr htm hsp => hbody _ _ _ _ _ _ _ _ _ _ hr htm hsp)
  refine ⟨_, _, hC, fun p hp => ?_, fun p hp => ?_, ⟨hc, Tm.refl _⟩⟩
  · rcases List.mem_cons.mp hp with rfl | hp
    · exact ⟨hf, hfn⟩
    · exact pinsOf_at CA p hp
  · rcases List.mem_cons.mp hp with rfl | hp
    · exact hfr
    · obtain ⟨y, e, _⟩ := mem_pinsOf hp
      exact cell_nofr I3 hfnall (cap.sub y _ e)
theorem frs_tail {env : Env} {l : List Env} {a : Addr} (h : a ∉ frs (env :: l)) : a ∉ frs l := fun z => h (by
  unfold frs at z ⊢
  rw [List.filterMap_cons]
  cases env.frame with
  | none => exact z
  | some b => exact List.mem_cons_of_mem _ z)
section
variable {P : Program} {w : World} {K : PySem.W.Frag} {mg : Str → Option Value} {base : Heap}
/-! worth_of: 0 fraction, 1 sign, 2 p, 3 q -/
theorem sc_worth_of : FnScope ["fraction", "sign", "p", "q"] ["fraction", "sign"] (d_worth_of.scope) := ⟨rfl, rfl, rfl, by decide +kernel, rfl, by decide +kernel, by decide +kernel⟩
/-- what worth_of leaves -/
def WorthPost (P : Program) (w : World) (K : PySem.W.Frag) (mg : Str → Option Value) (base : Heap) (outer : List Env) (s : Shared) (H : Hp) (p q : Nat) (r : Result) (s' : Shared) : Prop :=
  match r with
  | .ok (.ret u) => ∃ (f : Addr) (H' : Hp) (pn : Pins) (tr : Hp → Prop), u = .ref f ∧ s'.os = s.os ∧ AllBare s'.gens ∧ Un (frs outer) [] H H' s.heap s'.heap ∧ HOk P w H' s'.heap ∧ ExtN H H' ∧ Tabs (Tq K) H' ∧ Clo P w K mg base 1 f pn tr (spWo p q) ∧ PinAt pn s' H' ∧ (∀ p ∈ pn, p.1 ∉ frs outer) ∧ tr H'
  | .ok _ => False
  | .error e => L2.CX0 outer H s E0 e s'
theorem g_worth (B : Bas w K mg) (BT : Bat K mg base) {A : Around} {outer : List Env} {s : Shared} {H : Hp} {us : List Value} {fr : Addr} {p q : Nat} (hr : Room 3 A) (e0 : Env0 P w K mg base A outer s H) (r : Vals [.ref fr, .int (-1)] us) (hf0 : H fr = some (.tup [vn p, vn q])) (hT : Tabs (Tq K) H) :
    codeAny (model P w) A (.call (.ref (He.ga K "worth_of")) ⟨us, []⟩) (WorthPost P w K mg base outer s H p q) s := by
  obtain ⟨fd, F⟩ := B.def_ d_worth_of (mem_at (i := 31) rfl)
  have F : FunD K d_worth_of.name d_worth_of.qual d_worth_of.params d_worth_of.body d_worth_of.scope [] [] (He.ga K "worth_of") fd := F
  have hb := F.bindsN (ps := ["fraction", "sign"]) (fun _ _ _ _ _ _ us hl => match us, hl with | [_, _], _ => rfl)
  obtain ⟨oc, od, dV, kV, doc, pm, an, cdv, ct, osl, rfl, lk, hcd, _, _⟩ := F.ex
  obtain ⟨c, rfl⟩ := He.codeIn_ref hcd
  have hc : He.codeOf K ("worth_of", none) = c := He.codeOf_eq (p := ("worth_of", none)) lk rfl
  have KX : K.In s.heap := e0.mod.kin.keeps fun b o e => (e0.bs b o e).1
  have lim : s.heap.NoLimit := e0.mod.nolimit.keeps fun b o e => (e0.bs b o e).1
  have S := sc_worth_of
  have hul : us.length = 2 := r.length.symm
  have hkind : ∀ y ∈ (["fraction", "sign"] : List Str).zip us, d_worth_of.scope.names.lookup y.1 = some .local ∨ (d_worth_of.scope.names.lookup y.1 = some .cell ∧ ((cellsFrom (s.heap.objs.size + 1) d_worth_of.scope.names []).lookup y.1).isSome = true) := fun ⟨n, v⟩ hy => by
    rcases S.par n (List.of_mem_zip hy).1 with q | q
    · exact .inl q
    · exact .inr ⟨q, PySem.W.cellsFrom_some _ _ _ (.inl q)⟩
  refine codeAny_call_function hr.depth (KX _ _ lk) rfl S.co S.gen rfl (PySem.W.codeRec_of KX hcd) (by
    have hbb := hb s us KX (by rw [List.append_nil]; exact hul)
    rw [List.append_nil] at hbb
    refine hbb _ _ _ _ ?_
    refine wpAny_newFunctionEnv_cells S.kind hkind fun env he s1 x => ?_
    subst he
    refine ⟨lim.keeps x.toInCall.keep, codeAny_func ?_⟩
    have I : Inv (cxOf CX0 P w K mg base ["fraction", "sign", "p", "q"] d_worth_of.qual d_worth_of.scope (He.ga K "worth_of") (.ref c) A outer s H E0) [] (L2.start ["fraction", "sign", "p", "q"] [.ref fr, .int (-1)]) H s1 := inv_start S hr.hd e0 rfl r x
    refine wpAny_execs_cons ?_
    refine thn ((ps_asg (X := cxOf CX0 P w K mg base ["fraction", "sign", "p", "q"] d_worth_of.qual d_worth_of.scope (He.ga K "worth_of") (.ref c) A outer s H E0) (pv 0) (pg_tup rfl (pgs_cons (pg_name (i := 2) S.nd rfl (Or.inr rfl)) (pgs_cons (pg_name (i := 3) S.nd rfl (Or.inr rfl)) pgs_nil)))).run [] s1 _ H
      { nx := fun σ' H' => σ' = [some (.ref fr), some (.int (-1)), some (vn p), some (vn q)] ∧ H' = H, rt := fun _ _ => False } I ⟨_, rfl, _, _, rfl, SqT.of hf0, rfl, _, _, rfl, _, _, rfl, rfl, rfl, rfl⟩) fun fl s2 q2 => ?_
    cases fl with
    | ret v => obtain ⟨_, _, _, _, _, z⟩ := q2; exact z.elim
    | brk => obtain ⟨_, _, _, z⟩ := q2; exact z.elim
    | cont => obtain ⟨_, _, _, z⟩ := q2; exact z.elim
    | next =>
      obtain ⟨σ', H', I2, rfl, rfl⟩ := q2
      refine wpAny_execs_cons (wpAny_Return_some ?_)
      rw [hc.symm] at I2 ⊢
      refine lam_make2 I2 BT.w rfl (List.mem_of_getElem? (i := 1) rfl) BT.hu_w hT rfl (fun y hy e => (ndef_free (sc := d_worth_of.scope) (fr := ["p", "q", "sign"]) (by decide +kernel) y hy e).elim (fun z => I2.ok.has _ (.inl z)) fun z => I2.ok.has _ (.inr z)) fun f c' pm' ctv H1 s3 I3 eN T1 hf hfn hfr hc' => ?_
      obtain ⟨pn, tr, hC, hP, hnf, htr⟩ := lam_fin (k := 0) (N := ["told", "fresh", "p", "q", "sign"]) (ps := ["told", "fresh"]) (fr := ["p", "q", "sign"]) (js := [2, 3, 1]) (sp := spWo p q) I3 (fun _ => rfl) hf hfn hfr hc' (nscope_by (by decide +kernel)) (ndef_free (sc := d_worth_of.scope) (fr := ["p", "q", "sign"]) (by decide +kernel)) (ndef_fr (sc := d_worth_of.scope) (fr := ["p", "q", "sign"]) (by decide +kernel)) rfl
        (fun q cl pm cv ctv us hl => match us, hl with | [_, _], _ => rfl) (fun vs H Q E ⟨t, n, e, _⟩ => by rw [e]; rfl) (fun qq cl c2 f2 A2 outer2 s2 H2 vs Q hr2 htm hsp => by
          obtain ⟨t, n, rfl, ht, hn, k⟩ := hsp
          refine ⟨_, (pe_op op_mul (pv 4) (pe_op op_sub (pe_op op_mul (pv 3) (pv 0)) (pe_op op_mul (pv 2) (pv 1)))), ?_⟩
          refine ⟨_, rfl, _, rfl, _, rfl, _, _, rfl, rfl, Or.inr ⟨by omega, by omega⟩, _, rfl, _, rfl, _, _, rfl, rfl, Or.inr ⟨by omega, by omega⟩, _, _, rfl, rfl, _, _, rfl, rfl, Or.inl ⟨by decide, by decide⟩, ?_⟩
          have : wfn p q t n = -1 * ((q : Int) * (t : Int) - (p : Int) * (n : Int)) := by unfold wfn; omega
          rw [this] at k
          exact k)
      exact ⟨f, H1, pn, tr, rfl, I3.os, I3.bare, I3.base, I3.hok, eN, T1, hC, hP, fun p hp => frs_tail (hnf p hp), htr⟩)
end
end K46
/-! part W18 -/
set_option maxHeartbeats 600000
namespace K46
open PySem PySem.Spec PyProof.Rows L2 Evl LamX NdefX
section
variable {P : Program} {w : World} {K : PySem.W.Frag} {mg : Str → Option Value} {base : Heap}
theorem Bas.kp (B : Bas w K mg) {i : Nat} {d : He.DefD} (h : fn[i]? = some d) : PySem.W.keepIn K (.ref (He.fAd K d.at_)) = true := by
  obtain ⟨fd, F⟩ := B.def_ d (mem_at h)
  exact F.kp
end
/-! ### climbed(graph, worth_of(fraction, sign)) -/
section
variable {X : Cx} {eg ef es : Expr} {tg tf ts : TE} {p1 p2 pos pos2 : Pos} {j : Nat}
def tClimb (X : Cx) (tg tf ts : TE) : TE := fun σ H Q => tg σ H fun vg H1 => tf σ H1 fun vf H2 => ts σ H2 fun vs H3 => Tabs (Tq X.K) H3 ∧ ∃ (p q : Nat) (G : GP Sta Nat) (g : Addr) (N : Nat) (fr : Addr), vg = .ref g ∧ vf = .ref fr ∧ vs = .int (-1) ∧ H3 fr = some (.tup [vn p, vn q]) ∧
  G.ta = dn ∧ GR X.K G H3 g N ∧ EsOk (G.b N).edges N G.m ∧ (G.b N).nodes.length = N ∧ 0 < N ∧ N ≤ 1000 ∧
  (∀ H' pp rr vv a l t, ExtN H3 H' → Tabs (Tq X.K) H' → H' pp = some (.tup [.non, .ref vv]) → H' vv = some (.tup [vn a, .ref rr]) → H' rr = some (.tup ((l : List Nat).map vn)) → a < N → l ≠ [] → l.length ≤ N → (∀ x ∈ l, x ≤ G.m) → l.foldl (stE (G.b N).edges) (0, a) = (t, a) → q * t < p * l.sum → Q (.ref pp) H') ∧
  (∀ H' pp rr pr, ExtN H3 H' → Tabs (Tq X.K) H' → H' pp = some (.tup [.ref rr, .non]) → H' rr = some (.lst ((pr : Prs).map optV)) → pr.length = N → (∃ p0, pr[0]? = some (some p0)) → Still (G.b N).edges p q pr → Q (.ref pp) H')
theorem pe_climb (B : Bas X.w X.K X.mg) (BT : Bat X.K X.mg X.base) (hr : Room (j + 3) X.A) (hg1 : Gl X "climbed") (hg2 : Gl X "worth_of") (h1 : PE X eg tg) (hf : PE X ef tf) (hs : PE X es ts)
    (s0 : starEach [eg, .Call (.Name "worth_of" p2) [ef, es] [] pos2] X.env = [(false, eval eg X.env), (false, eval (.Call (.Name "worth_of" p2) [ef, es] [] pos2) X.env)] := by rfl) (s1 : starEach [ef, es] X.env = [(false, eval ef X.env), (false, eval es X.env)] := by rfl)
    (s2 : starEach [eg, .Call (.Name "worth_of" p2) [ef, es] [] pos2] X.env = (false, eval eg X.env) :: starEach [.Call (.Name "worth_of" p2) [ef, es] [] pos2] X.env := by rfl) (hpl : (backTo pos (starEach [.Call (.Name "worth_of" p2) [ef, es] [] pos2] X.env)).any (·.1) = false := by rfl)
    (s3 : starEach [ef, es] X.env = (false, eval ef X.env) :: starEach [es] X.env := by rfl) (hpl2 : (backTo pos2 (starEach [es] X.env)).any (·.1) = false := by rfl) :
    PE X (.Call (.Name "climbed" p1) [eg, .Call (.Name "worth_of" p2) [ef, es] [] pos2] [] pos) (tClimb X tg tf ts) := by
  refine ⟨fun pins s σ H Q I h => ?_⟩
  refine wpAny_Call_Name_kw (ld_glob I hg1 (B.glo 28) ?_ (by decide))
  refine PySem.W.callWith_K (h₀ := X.base) I.ok.mod.kin (B.kp (i := 30) (d := d_climbed) rfl) ?_ s2 hpl
  rw [s0]
  show wpAny _ _ (spliced [(false, eval eg X.env), (false, eval (.Call (.Name "worth_of" p2) [ef, es] [] pos2) X.env)]) _ _ s
  refine Calls.spliced_cons (thn (h1.run pins s σ H _ I h) fun u1 sa ⟨vg, H1, I1, r1, q1⟩ => ?_)
  refine Calls.spliced_cons (wpAny_Call_Name_kw (ld_glob I1 hg2 (B.glo 29) ?_ (by decide)))
  refine PySem.W.callWith_K (h₀ := X.base) I1.ok.mod.kin (B.kp (i := 31) (d := d_worth_of) rfl) ?_ s3 hpl2
  rw [s1]
  show wpAny _ _ (spliced [(false, eval ef X.env), (false, eval es X.env)]) _ _ sa
  refine Calls.spliced_cons (thn (hf.run pins sa σ H1 _ I1 q1) fun u2 sb ⟨vf, H2, I2, r2, q2⟩ => ?_)
  refine Calls.spliced_cons (thn (hs.run pins sb σ H2 _ I2 q2) fun u3 sc ⟨vs, H3, I3, r3, hT, p, q, G, g, N, fr, e1, e2, e3, hfr, hta, gr, ok, hno, h0, hN, k1, k2⟩ => ?_)
  subst e1 e2 e3
  refine Calls.spliced_nil ⟨I3.kIn, ?_⟩
  show wpAny _ _ (call (.ref (He.ga X.K "worth_of")) [u2, u3]) _ _ _
  refine wpAny_call (codeAny_mono (g_worth (P := X.prog) (base := X.base) B BT (hr.mono (by omega)) I3.env0 (.cons r2 (.cons r3 .nil)) hfr hT) fun r s' hq => ?_)
  cases r with
  | error e => exact (show False from hq).elim
  | ok fl =>
    cases fl with
    | next => exact False.elim hq
    | brk => exact False.elim hq
    | cont => exact False.elim hq
    | ret u =>
      obtain ⟨f, H4, pn, tr, rfl, os, bare, un, hok, eN, T4, hC, hP, hnf, htr⟩ := hq
      obtain ⟨v4, H4', I4, rv4, ev, eh⟩ := I3.after (Q := fun v H'' => v = .ref f ∧ H'' = H4) ⟨.ref f, H4, os, bare, un, hok, rfl, rfl, rfl⟩
      subst eh ev
      refine Calls.spliced_nil ⟨I4.kIn, ?_⟩
      show wpAny _ _ (call (.ref (He.ga X.K "climbed")) [u1, .ref f]) _ _ _
      refine wpAny_call (codeAny_mono (g_climbed (P := X.prog) (base := X.base) (k := 1) (j := j + 1) (Q := Q) B G hC hP hnf htr (by omega) (by omega) (hr.mono (by omega)) I4.env0 (.cons r1 (.cons rfl .nil)) hta (gr.monoN eN) ok hno h0 hN
        (fun H' pp rr vv a l t e => k1 H' pp rr vv a l t (eN.trans (en_ex e)) (T4.ext e)) (fun H' pp rr pr e => k2 H' pp rr pr (eN.trans (en_ex e)) (T4.ext e))) fun r s'' hq => ?_)
      cases r with
      | error e => exact (show False from hq).elim
      | ok fl =>
        cases fl with
        | ret u => exact I4.after hq
        | next => exact False.elim hq
        | brk => exact False.elim hq
        | cont => exact False.elim hq
end
/-! ### Graph(first, most, go), go a def made here -/
section
variable {X : Cx} {k j : Nat} {ps fr : List Str} {js : List Nat} {mk : Addr → NF} {cl : List (Str × Addr)} {sp : List (Option V) → Sp} {e1 e2 e3 : Expr} {t1 t2 t3 : TE} {p pos : Pos}
def tGraphD (X : Cx) (mk : Addr → NF) (js : List Nat) (sp : List (Option V) → Sp) (t1 t2 t3 : TE) : TE := fun σ H Q => t1 σ H fun v1 H1 => t2 σ H1 fun v2 H2 => t3 σ H2 fun v3 H3 => ∃ (α τ : Type) (i : DecidableEq α) (G : GP α τ) (f c' : Addr), v2 = vn G.m ∧ v3 = .ref f ∧ H3 f = some (FnO f (mk c')) ∧ H3 (mk c').c = some (CodeO (mk c').c (mk c').qual) ∧ Rp H3 (G.da G.first) v1 ∧
  (∀ vs H' Q', Tm H3 H' → spGo G vs H' Q' E0 → sp (js.map (slotAt σ)) vs H' Q' E0) ∧ ∀ H' g n H0, H3 g = none → Ex H3 H' → GrA X.prog X.w X.K G H0 H' g n → Q (.ref g) H'
theorem pe_graphD (B : Bas X.w X.K X.mg) (hg : Gl X "Graph") (Fn : ∀ f c', NOk X.prog X.w X.K X.mg X.base CX0 k f (mk c') ps fr sp) (hcl : ∀ c', (mk c').cl = cl) (cp : X.Ok → Caps X cl fr js) (hfn : ∀ x, X.fn x = true) (hr : Room (j + 2) X.A) (hjk : k ≤ j)
    (h1 : PE X e1 t1) (h2 : PE X e2 t2) (h3 : PE X e3 t3) (hs : starEach [e1, e2, e3] X.env = [(false, eval e1 X.env), (false, eval e2 X.env), (false, eval e3 X.env)] := by rfl)
    (hs0 : starEach [e1, e2, e3] X.env = (false, eval e1 X.env) :: starEach [e2, e3] X.env := by rfl) (hpl : (backTo pos (starEach [e2, e3] X.env)).any (·.1) = false := by rfl) :
    PE X (.Call (.Name "Graph" p) [e1, e2, e3] [] pos) (tGraphD X mk js sp t1 t2 t3) := by
  refine ⟨fun pins s σ H Q I h => ?_⟩
  refine wpAny_Call_Name_kw (ld_glob I hg (B.glo 56) ?_ (by decide))
  refine PySem.W.callWith_K (h₀ := X.base) I.ok.mod.kin B.mkG.kp ?_ hs0 hpl
  rw [hs]
  show wpAny _ _ (spliced [(false, eval e1 X.env), (false, eval e2 X.env), (false, eval e3 X.env)]) _ _ s
  refine Calls.spliced_cons (thn (h1.run pins s σ H _ I h) fun u1 s1 ⟨v1, H1, I1, r1, q1⟩ => ?_)
  refine Calls.spliced_cons (thn (h2.run pins s1 σ H1 _ I1 q1) fun u2 s2 ⟨v2, H2, I2, r2, q2⟩ => ?_)
  refine Calls.spliced_cons (thn (h3.run pins s2 σ H2 _ I2 q2) fun u3 s3 ⟨v3, H3, I3, r3, α, τ, inst, G, f, c', e2, e3, hf, hc, hG, hspec, q⟩ => ?_)
  subst e2 e3
  refine Calls.spliced_nil ⟨I3.kIn, ?_⟩
  show wpAny _ _ (call (.ref (He.ga X.K "Graph")) [u1, u2, u3]) _ _ _
  have cap := cp I3.ok
  have CA : CellsAt (mk c').cl fr (js.map (slotAt σ)) s3.heap H3 := by rw [hcl c']; exact cells_of I3 cap
  have hC := clo_def (sp' := spGo G) (Fn f c') CA hspec
  refine run_graph B G I3 hC (pinsOf_at CA) (fun p hp => ?_) ⟨⟨hf, hc⟩, Tm.refl _⟩ hr hjk (.cons r1 (.cons r2 (.cons r3 .nil))) hG (fun H' g n H0 hg0 ex hgr => q H' g n H0 hg0 ex hgr)
  obtain ⟨y, e, _⟩ := mem_pinsOf hp
  rw [hcl c'] at e
  exact cell_nofr I3 hfn (cap.sub y _ e)
end
end K46
/-! part W19 -/
set_option maxHeartbeats 600000
namespace K46
open PySem PySem.Spec PyProof.Rows L2 Evl LamX NdefX
/-! ### the graph of one setting -/
theorem serR_ans (s : Setg) (d : Nat) (q : List (Nat × Nat)) : (serR s d q).1 ≤ s.work := by
  unfold serR; split
  · show min _ _ ≤ _; omega
  · show min _ _ ≤ _; omega
theorem stp_ans (s : Setg) (st : Sta) (f : Nat) : (stp s st f).ans ≤ s.work := serR_ans _ _ _
def goS (s : Setg) (x : Sta) (n : Nat) : Nat × Sta := ((stp s x n).ans, (stp s x n).st)
structure OneCl (s : Setg) (m : Nat) (S : List Sta) : Prop where
  f0 : fst0 s ∈ S
  cl : ∀ x ∈ S, ∀ n, n ≤ m → (stp s x n).st ∈ S
  sz : S.length ≤ 1000
  ok : ∀ x ∈ S, StOk s x
  m9 : m ≤ 9
def gpS {s : Setg} {m : Nat} {S : List Sta} (h : OneCl s m S) : GP Sta Nat where
  da := Sta.da
  ta := dn
  go := goS s
  m := m
  S := S
  first := fst0 s
  f0 := h.f0
  tup := fun x => ⟨_, rfl⟩
  dep := fun x _ => Nat.le_trans (sta_depth x) (by decide)
  inj := staK_inj
  cl := h.cl
  sz := Nat.le_trans h.sz (by decide)
  m9 := h.m9
theorem es_ok {s : Setg} {m N : Nat} (O : SetOk s) (all : BAll (goS s) m (fst0 s) N) (hN : (bf (goS s) m (fst0 s) N).nodes.length = N) : EsOk (bf (goS s) m (fst0 s) N).edges N m := by
  refine ⟨all.el, fun i row hi => ?_⟩
  obtain ⟨h1, x, h2, h3⟩ := all.e i row hi
  refine ⟨h1, fun e he => ?_⟩
  obtain ⟨k, hk⟩ := List.mem_iff_getElem?.mp he
  obtain ⟨a, b⟩ := h3 k e hk
  refine ⟨?_, ?_⟩
  · have := (List.getElem?_eq_some_iff.mp b).1
    omega
  · rw [a]
    exact Nat.le_trans (stp_ans s x k) O.w3
theorem get_inj {α : Type} {l : List α} (nd : l.Nodup) {i j : Nat} {x : α} (h1 : l[i]? = some x) (h2 : l[j]? = some x) : i = j := by
  obtain ⟨a, b⟩ := List.getElem?_eq_some_iff.mp h1
  exact (List.getElem?_inj a nd).mp (h1.trans h2.symm)
/-- what is reached is priced -/
theorem all_priced {s : Setg} {m N p q : Nat} {pr : Prs} (all : BAll (goS s) m (fst0 s) N) (hN : (bf (goS s) m (fst0 s) N).nodes.length = N) (nd : (bf (goS s) m (fst0 s) N).nodes.Nodup) (h0 : ∃ p0, pr[0]? = some (some p0)) (st : Still (bf (goS s) m (fst0 s) N).edges p q pr) :
    ∀ j, j < N → ∃ v : Int, pr[j]? = some (some v) := by
  intro j
  induction j using Nat.strongRecOn with
  | ind j ih =>
    intro hj
    by_cases h : j = 0
    · subst h; exact h0
    · obtain ⟨p', x, h1, h2, h3, h4, h5⟩ := all.snd.s j (by omega) (by omega)
      obtain ⟨v, hv⟩ := ih p'.1 h2 (by omega)
      have hel : p'.1 < (bf (goS s) m (fst0 s) N).edges.length := by rw [all.el]; omega
      have hrow : (bf (goS s) m (fst0 s) N).edges[p'.1]? = some _ := List.getElem?_eq_getElem hel
      obtain ⟨r1, y, r2, r3⟩ := all.e p'.1 _ hrow
      rw [h4] at r2; cases r2
      have hn : p'.2 < ((bf (goS s) m (fst0 s) N).edges[p'.1]).length := by omega
      have he : ((bf (goS s) m (fst0 s) N).edges[p'.1])[p'.2]? = some _ := List.getElem?_eq_getElem hn
      obtain ⟨_, b⟩ := r3 p'.2 _ he
      obtain ⟨pt, e1, _⟩ := st p'.1 p'.2 _ _ v hrow he hv
      rw [get_inj nd b h5] at e1
      exact ⟨pt, e1⟩
/-! ### the def within long_run -/
def TqN (K : PySem.W.Frag) : List NTab := (Tq K).map fun p => (p.1, fun _ _ => p.2)
theorem tabs_n {K : PySem.W.Frag} {H : Hp} (t : Tabs (Tq K) H) : TabsN (TqN K) H := fun p hp => by
  obtain ⟨r, hr, rfl⟩ := List.mem_map.mp hp
  exact t r hr
theorem tabs_of_n {K : PySem.W.Frag} {H : Hp} (t : TabsN (TqN K) H) : Tabs (Tq K) H := fun p hp => t (p.1, fun _ _ => p.2) (List.mem_map.mpr ⟨p, hp, rfl⟩)
theorem Bat.hu_l {K : PySem.W.Frag} {mg : Str → Option Value} {base : Heap} (T : Bat K mg base) : ∀ p ∈ TqN K, p.1 = tL K → p.2 = (fun (_ _ : Nat) => ("long_run.<locals>.go" : Str)) := fun p hp e => by
  obtain ⟨r, hr, rfl⟩ := List.mem_map.mp hp
  unfold Tq at hr
  rcases List.mem_cons.mp hr with rfl | hr
  · exact absurd e T.n2
  rcases List.mem_cons.mp hr with rfl | hr
  · exact absurd e T.n3
  rcases List.mem_cons.mp hr with rfl | hr
  · rfl
  · cases hr
def s_go : Stmt := d_long_run.body.headD (.Pass ⟨0, 0, 0, 0⟩)
def spGoN : List (Option V) → Sp := fun ws vs H Q _ => ∃ (s : Setg) (x : Sta) (n : Nat) (v1 v2 : V), ws = [some v1, some (.int 1)] ∧ vs = [v2, vn n] ∧ Rp H s.da v1 ∧ Rp H x.da v2 ∧ SetOk s ∧ StOk s x ∧
  ∀ H' v', Ex H H' → Rp H' (.tup [dn (stp s x n).ans, (stp s x n).st.da]) v' → Q v' H'
section
variable {P : Program} {w : World} {K : PySem.W.Frag} {mg : Str → Option Value} {base : Heap}
theorem n_go (B : Bas w K mg) (f : Addr) (q : Str) (cl : List (Str × Addr)) (c' : Addr) : NOk P w K mg base CX0 4 f (NF.of s_go "go" q cl c') ["state", "fresh"] ["setting", "place"] spGoN := by
  have C_step := c_step (P := P) (base := base) B
  have sc : NScope ["state", "fresh", "setting", "place", "told"] ["state", "fresh"] ["setting", "place"] (C8.fnScope s_go) := nscope_by (by decide +kernel)
  refine nok_of (k := 3) sc (fun doc pm ctv us hl => match us, hl with | [_, _], _ => rfl) (fun ws vs H Q E h => ?_) (fun A outer s₀ H vs ws Q E hr hf hc hl h => ?_)
  · obtain ⟨s, x, n, v1, v2, _, rfl, _⟩ := h
    rfl
  · obtain ⟨s, x, n, v1, v2, rfl, rfl, r1, r2, O, ok, k⟩ := h
    refine ⟨_, (pss_cons (ps_set (i := 4) sc.nd rfl (Or.inl rfl) (pe_cal C_step hr (by first | decide | omega) (by rfl) (pa_cons (pv 2) (pa_cons (pv 0) (pa_cons (pv 1) pa_nil)))))
    (pss_one (ps_ret (pe_tupA (pa_cons (pe_ix ix_tupN (pv 4) (pv 3) (fun _ _ => rfl)) (pa_cons (pe_ix ix_tupLast (pv 4) (pe_un un_neg pe_int) (fun _ _ => rfl)) pa_nil)))))), ?_⟩
    have o5 := O.r5
    have ot := O.t3
    have ol := ok.ll
    refine ⟨_, rfl, _, rfl, _, rfl, s, x, n, v1, v2, rfl, r1, r2, ok.room, by omega, by omega, fun H1 v e1 h1 => ?_⟩
    obtain ⟨a, xs, rfl, ha, rl⟩ := h1
    obtain ⟨x1, xs1, rfl, g1, x2, xs2, rfl, g2, x3, xs3, rfl, g3, x4, xs4, rfl, g4, x5, xs5, rfl, g5, x6, xs6, rfl, g6, x7, xs7, rfl, g7, g8⟩ := rl
    cases (show xs7 = [] from g8)
    refine ⟨_, rfl, _, rfl, a, _, 1, _, rfl, rfl, ha, rfl, _, rfl, _, rfl, a, [x1, x2, x3, x4, x5, x6], x7, rfl, rfl, ha, sz2, fun p2 H2 e2 h2 => ?_⟩
    exact k H2 _ (e1.trans e2) ⟨p2, _, rfl, h2, x2, [x7], rfl, g2, x7, [], rfl, g7.mono (tm_ex e2), rfl⟩
end
end K46
/-! part W20 -/
set_option maxHeartbeats 600000
namespace K46
open PySem PySem.Spec PyProof.Rows L2 Evl LamX NdefX
/-! ### long_run -/
theorem fr_dec {p q p2 q2 B : Nat} (hq : 0 < q) (hq2 : 0 < q2) (hB : q ≤ B) (hB2 : q2 ≤ B) (h : p2 * q < p * q2) : (B * B * p2) / q2 < (B * B * p) / q := by
  have h1 : (B * B * p2) / q2 * q2 ≤ B * B * p2 := Nat.div_mul_le_self _ _
  generalize (B * B * p2) / q2 = M at h1 ⊢
  refine (Nat.le_div_iff_mul_le hq).mpr ?_
  have h2 : (M + 1) * q * q2 ≤ B * B * p * q2 := by
    have a1 : (M + 1) * q * q2 = M * q2 * q + q * q2 := by rw [Nat.add_mul, Nat.add_mul, Nat.one_mul, Nat.mul_right_comm]
    have a2 : M * q2 * q ≤ B * B * p2 * q := Nat.mul_le_mul_right q h1
    have a3 : q * q2 ≤ B * B := Nat.mul_le_mul hB hB2
    have a4 : B * B * (p2 * q + 1) ≤ B * B * (p * q2) := Nat.mul_le_mul_left _ h
    rw [Nat.mul_add, Nat.mul_one, ← Nat.mul_assoc, ← Nat.mul_assoc] at a4
    omega
  exact Nat.le_of_mul_le_mul_right h2 hq2
theorem sum_leM {m : Nat} : ∀ {l : List Nat}, (∀ x ∈ l, x ≤ m) → l.sum ≤ l.length * m
  | [], _ => Nat.zero_le _
  | x :: l, h => by
    have := sum_leM (l := l) fun y hy => h y (List.mem_cons_of_mem _ hy)
    have hx := h x (List.mem_cons_self ..)
    rw [List.sum_cons, List.length_cons, Nat.add_mul, Nat.one_mul]; omega
theorem sum_rep (m : Nat) : ∀ L : Nat, (List.replicate L m).sum = L * m
  | 0 => by simp
  | L + 1 => by rw [List.replicate_succ, List.sum_cons, sum_rep m L, Nat.add_mul, Nat.one_mul, Nat.add_comm]
/-- a round that has the quotient p : q -/
def Att (es : Es) (N m p q : Nat) : Prop := ∃ (a : Nat) (l : List Nat) (t : Nat), a < N ∧ l ≠ [] ∧ (∀ x ∈ l, x ≤ m) ∧ l.foldl (stE es) (0, a) = (t, a) ∧ q * t = p * l.sum ∧ 0 < l.sum
theorem low (t S : Nat) (hS : 0 < S) : 0 < S / Nat.gcd t S ∧ Nat.gcd (t / Nat.gcd t S) (S / Nat.gcd t S) = 1 ∧ (S / Nat.gcd t S) * t = (t / Nat.gcd t S) * S ∧ S / Nat.gcd t S ≤ S := by
  have hg : 0 < Nat.gcd t S := Nat.gcd_pos_of_pos_right _ hS
  have e1 : Nat.gcd t S * (t / Nat.gcd t S) = t := Nat.mul_div_cancel' (Nat.gcd_dvd_left t S)
  have e2 : Nat.gcd t S * (S / Nat.gcd t S) = S := Nat.mul_div_cancel' (Nat.gcd_dvd_right t S)
  refine ⟨Nat.div_pos (Nat.le_of_dvd hS (Nat.gcd_dvd_right t S)) hg, Nat.coprime_div_gcd_div_gcd hg, ?_, Nat.div_le_self _ _⟩
  generalize Nat.gcd t S = g at *
  generalize t / g = p at *
  generalize S / g = q at *
  rw [← e1, ← e2, Nat.mul_left_comm, Nat.mul_left_comm p, Nat.mul_comm q p]
theorem low_lt {p q t S : Nat} (hS : 0 < S) (h : q * t < p * S) : (t / Nat.gcd t S) * q < p * (S / Nat.gcd t S) := by
  have hg : 0 < Nat.gcd t S := Nat.gcd_pos_of_pos_right _ hS
  have e1 : Nat.gcd t S * (t / Nat.gcd t S) = t := Nat.mul_div_cancel' (Nat.gcd_dvd_left t S)
  have e2 : Nat.gcd t S * (S / Nat.gcd t S) = S := Nat.mul_div_cancel' (Nat.gcd_dvd_right t S)
  generalize Nat.gcd t S = g at *
  generalize t / g = a at *
  generalize S / g = b at *
  subst e1 e2
  refine Nat.lt_of_mul_lt_mul_left (a := g) ?_
  rw [Nat.mul_left_comm q, Nat.mul_left_comm p] at h
  rw [Nat.mul_comm a q]; exact h
section
variable {X : Cx} {k j : Nat} {ps fr : List Str} {js : List Nat} {st : Stmt} {name qual : Str} {sp : List (Option V) → Sp} {e1 e2 e3 : Expr} {t1 t2 t3 : TE} {p pos : Pos}
theorem pe_graphN (B : Bas X.w X.K X.mg) (hg : Gl X "Graph") (Fn : ∀ f c', NOk X.prog X.w X.K X.mg X.base CX0 k f (NF.of st name qual (cloFrom X.env.cells (C8.fnScope st).names []) c') ps fr sp)
    (hfree : ∀ y ∈ (C8.fnScope st).names, y.2 = .free → X.env.scope.names.lookup y.1 = some .cell ∨ X.env.scope.names.lookup y.1 = some .free) (hfr : ∀ y ∈ fr, (y, NameKind.free) ∈ (C8.fnScope st).names) (hjs : js.map (fun j => X.N[j]?) = fr.map some) (hfn : ∀ x, X.fn x = true) (hr : Room (j + 2) X.A) (hjk : k ≤ j)
    (h1 : PE X e1 t1) (h2 : PE X e2 t2) (h3 : PE X e3 t3) (hs : starEach [e1, e2, e3] X.env = [(false, eval e1 X.env), (false, eval e2 X.env), (false, eval e3 X.env)] := by rfl)
    (hs0 : starEach [e1, e2, e3] X.env = (false, eval e1 X.env) :: starEach [e2, e3] X.env := by rfl) (hpl : (backTo pos (starEach [e2, e3] X.env)).any (·.1) = false := by rfl) :
    PE X (.Call (.Name "Graph" p) [e1, e2, e3] [] pos) (tGraphD X (NF.of st name qual (cloFrom X.env.cells (C8.fnScope st).names [])) js sp t1 t2 t3) :=
  pe_graphD B hg Fn (fun _ => rfl) (fun ok => Caps.made ok hfree hfr hjs) hfn hr hjk h1 h2 h3 hs hs0 hpl
end
section
variable {P : Program} {w : World} {K : PySem.W.Frag} {mg : Str → Option Value} {base : Heap}
def spLong (P : Program) (w : World) (K : PySem.W.Frag) : Sp := fun vs H Q _ => ∃ (s : Setg) (m : Nat) (S : List Sta) (v : V) (h : OneCl s m S), vs = [v, vn m, .int 1, .int (-1)] ∧ Rp H s.da v ∧ SetOk s ∧ 1 ≤ m ∧ Tabs (Tq K) H ∧
  ∀ N p q pr H' a fr x2 x3 x4, ((gpS h).b N).nodes.length = N → BAll (goS s) m (fst0 s) N → 0 < q → Nat.gcd p q = 1 → Att ((gpS h).b N).edges N m p q → (∀ j, j < N → ∃ v : Int, (pr : Prs)[j]? = some (some v)) → Still ((gpS h).b N).edges p q pr →
    ExtN H H' → Tabs (Tq K) H' → H' a = some (.tup [.ref fr, x2, x3, x4]) → H' fr = some (.tup [vn p, vn q]) → Q (.ref a) H'
theorem rpl_optI {H : Hp} : ∀ ps : List Int, RpL H (ps.map Da.int) ((ps.map some).map optV)
  | [] => rfl
  | i :: r => ⟨_, _, rfl, rfl, rpl_optI r⟩
theorem par_ofS {α τ : Type} [DecidableEq α] {go : α → Nat → τ × α} {m : Nat} {first : α} {l : List α} {bs : List (Option (Nat × Nat))} (h : BSnd go m first l bs) : Par bs := fun j p e => by
  by_cases hj : 0 < j
  · have hl : j < l.length := by rw [← h.len]; exact (List.getElem?_eq_some_iff.mp e).1
    obtain ⟨q, x, h1, h2, _⟩ := h.s j hj hl
    rw [e] at h1; cases h1
    exact h2
  · have : j = 0 := by omega
    subst this
    rw [h.z] at e; cases e
/-- what stands ahead of a climb -/
def CF (K : PySem.W.Frag) (es : Es) (N m : Nat) (Hb : Hp) (p q a : Nat) (fr : Addr) (H : Hp) : Prop := ExtN Hb H ∧ Tabs (Tq K) H ∧ H fr = some (.tup [vn p, vn q]) ∧ a < N ∧ 0 < q ∧ q ≤ 9000 ∧ Nat.gcd p q = 1 ∧ Att es N m p q
/-- what a climb gives -/
def CE (es : Es) (N m p q : Nat) (u9 u10 : V) (H : Hp) : Prop :=
  (∃ rr pr, u9 = .ref rr ∧ u10 = .non ∧ H rr = some (.lst ((pr : Prs).map optV)) ∧ pr.length = N ∧ (∃ p0, pr[0]? = some (some p0)) ∧ Still es p q pr) ∨
  ∃ vv a' rr l t, u9 = .non ∧ u10 = .ref vv ∧ H vv = some (.tup [vn a', .ref rr]) ∧ H rr = some (.tup ((l : List Nat).map vn)) ∧ a' < N ∧ l ≠ [] ∧ l.length ≤ N ∧ (∀ x ∈ l, x ≤ m) ∧ l.foldl (stE es) (0, a') = (t, a') ∧ q * t < p * l.sum
theorem CF.ext {K : PySem.W.Frag} {es : Es} {N m : Nat} {Hb H H' : Hp} {p q a : Nat} {fr : Addr} (c : CF K es N m Hb p q a fr H) (e : ExtN H H') (T : Tabs (Tq K) H') : CF K es N m Hb p q a fr H' :=
  ⟨c.1.trans e, T, e _ _ c.2.2.1 (fun _ z => by cases z), c.2.2.2⟩
theorem climb_to {X : Cx} {s : Setg} {m N g : Nat} {S : List Sta} {h : OneCl s m S} {Hb H : Hp} {p q a fr : Nat} {w0 w1 w2 w4 w6 w7 w9 w10 : Option V} {D : L2.Ends} (c : CF X.K ((gpS h).b N).edges N m Hb p q a fr H) (gr : GR X.K (gpS h) Hb g N) (ok : EsOk ((gpS h).b N).edges N m) (hl : ((gpS h).b N).nodes.length = N) (h0 : 0 < N) (hN : N ≤ 1000)
    (k : ∀ H' u9 u10, CF X.K ((gpS h).b N).edges N m Hb p q a fr H' → CE ((gpS h).b N).edges N m p q u9 u10 H' → D.nx [w0, w1, w2, some (.int (-1)), w4, some (.ref g), w6, w7, some (.ref fr), some u9, some u10] H') :
    tAsg (tClimb X (tVar 5) (tVar 8) (tVar 3)) (gTup X.K 2 (gCons (gName 9) (gCons (gName 10) gNil))) D [w0, w1, w2, some (.int (-1)), w4, some (.ref g), w6, w7, some (.ref fr), w9, w10] H := by
  refine ⟨_, rfl, _, rfl, _, rfl, c.2.1, p, q, gpS h, g, N, fr, rfl, rfl, rfl, c.2.2.1, rfl, gr.monoN c.1, ok, hl, h0, hN, fun H' pp rr vv a' l t eN T1 q1 q2 q3 hal hlne hll hlm hfo hlt => ?_, fun H' pp rr pr eN T1 q1 q2 hpl hp0 hst => ?_⟩
  · refine ⟨_, _, rfl, SqT.of q1, rfl, _, _, rfl, _, _, rfl, rfl, ?_⟩
    exact k H' _ _ (c.ext eN T1) (.inr ⟨vv, a', rr, l, t, rfl, rfl, q2, q3, hal, hlne, hll, hlm, hfo, hlt⟩)
  · refine ⟨_, _, rfl, SqT.of q1, rfl, _, _, rfl, _, _, rfl, rfl, ?_⟩
    exact k H' _ _ (c.ext eN T1) (.inl ⟨rr, pr, rfl, rfl, q2, hpl, hp0, hst⟩)
/-! long_run: 0 setting, 1 most, 2 place, 3 sign, 4 go, 5 graph, 6 at, 7 around, 8 fraction, 9 prices, 10 found -/
theorem sc_long_run : FnScope ["setting", "most", "place", "sign", "go", "graph", "at", "around", "fraction", "prices", "found"] ["setting", "most", "place", "sign"] (d_long_run.scope) := ⟨rfl, rfl, rfl, by decide +kernel, rfl, by decide +kernel, by decide +kernel⟩
theorem c_long_run (B : Bas w K mg) (BT : Bat K mg base) : Cal P w K mg base 8 "long_run" ["setting", "most", "place", "sign"] (spLong P w K) := by
  have C_first_of := c_first_of (P := P) (base := base) B
  have C_full_round := c_full_round (P := P) (base := base) B
  have C_quotient := c_quotient (P := P) (base := base) B
  refine B.calC "long_run" 34 32 (d := d_long_run) rfl rfl rfl rfl rfl sc_long_run (fun vs H Q E h => ?_) (fun _ _ _ _ _ _ us hl => match us, hl with | [_, _, _, _], _ => rfl) (fun f A outer s₀ H vs Q E hr h => ?_)
  · obtain ⟨s, m, S, v, h, rfl, _⟩ := h
    rfl
  · obtain ⟨s, m, S, v, h, rfl, r1, O, hm, hT, k⟩ := h
    have C_row_to := m_row_to (P := P) (base := base) B
    refine ⟨_, (pss_cons (ps_ndefMS (st := s_go) (T := TqN K) (nm := fun (_ _ : Nat) => ("long_run.<locals>.go" : Str)) (i := 4) rfl BT.l rfl (List.mem_of_getElem? (i := 2) rfl) rfl BT.hu_l (ndef_free (sc := d_long_run.scope) (fr := ["setting", "place"]) (by decide +kernel)) rfl rfl rfl sc_long_run.nd rfl (Or.inl rfl) (Or.inl rfl))
    (pss_cons (ps_set (i := 5) sc_long_run.nd rfl (Or.inl rfl) (pe_graphN (k := 4) (j := 5) (st := s_go) (name := "go") (qual := "long_run.<locals>.go") (js := [0, 2]) B (by rfl) (fun f c2 => n_go B f _ _ c2) (ndef_free (sc := d_long_run.scope) (fr := ["setting", "place"]) (by decide +kernel)) (ndef_fr (sc := d_long_run.scope) (fr := ["setting", "place"]) (by decide +kernel)) rfl (fun _ => rfl) hr (by decide) (pe_cal C_first_of hr (by first | decide | omega) (by rfl) (pa_cons (pv 0) pa_nil)) (pv 1) (pv 4)))
    (pss_cons (ps_asg (pe_cal C_full_round hr (by first | decide | omega) (by rfl) (pa_cons (pv 5) (pa_cons (pv 1) pa_nil))) (pg_tup rfl (pgs_cons (pg_name (i := 6) sc_long_run.nd rfl (Or.inl rfl)) (pgs_cons (pg_name (i := 7) sc_long_run.nd rfl (Or.inl rfl)) pgs_nil))))
    (pss_cons (ps_set (i := 8) sc_long_run.nd rfl (Or.inl rfl) (pe_cal C_quotient hr (by first | decide | omega) (by rfl) (pa_cons (pv 5) (pa_cons (pv 6) (pa_cons (pv 7) pa_nil)))))
    (pss_cons (ps_asg (pe_climb (j := 4) B BT hr (by rfl) (by rfl) (pv 5) (pv 8) (pv 3)) (pg_tup rfl (pgs_cons (pg_name (i := 9) sc_long_run.nd rfl (Or.inl rfl)) (pgs_cons (pg_name (i := 10) sc_long_run.nd rfl (Or.inl rfl)) pgs_nil))))
    (pss_cons (ps_while PassesOwn.never (pt_cmpR op_isN (pv 9) pe_non (nomark _))
      (pss_cons (ps_asg (pv 10) (pg_tup rfl (pgs_cons (pg_name (i := 6) sc_long_run.nd rfl (Or.inl rfl)) (pgs_cons (pg_name (i := 7) sc_long_run.nd rfl (Or.inl rfl)) pgs_nil))))
      (pss_cons (ps_set (i := 8) sc_long_run.nd rfl (Or.inl rfl) (pe_cal C_quotient hr (by first | decide | omega) (by rfl) (pa_cons (pv 5) (pa_cons (pv 6) (pa_cons (pv 7) pa_nil)))))
      (pss_one (ps_asg (pe_climb (j := 4) B BT hr (by rfl) (by rfl) (pv 5) (pv 8) (pv 3)) (pg_tup rfl (pgs_cons (pg_name (i := 9) sc_long_run.nd rfl (Or.inl rfl)) (pgs_cons (pg_name (i := 10) sc_long_run.nd rfl (Or.inl rfl)) pgs_nil))))))))
    (pss_one (ps_ret (pe_tupA (pa_cons (pv 8) (pa_cons (pe_mtd C_row_to (pv 5) B.cls B.mrow hr (by decide) (pa_cons (pv 6) pa_nil)) (pa_cons (pv 7) (pa_cons (pe_callTy call_tupOf (by rfl) (B.free 73) boot_tuple (pa_cons (pe_sortZ hr.units rfl (by rfl) (B.free 83) (by rfl) (B.free 77) (pa_cons (pe_fld (pv 5) (by rfl)) (pa_cons (pv 9) pa_nil))) pa_nil)) pa_nil))))))))))))), ?_⟩
    refine ⟨tabs_n hT, fun f c' H1 eN nn T1 f0 f1 c1 => ?_⟩
    -- graph
    refine ⟨_, rfl, s, v, rfl, r1.mono (tm_en eN), O, fun H2 z e2 hz => ?_⟩
    refine ⟨_, rfl, _, rfl, Sta, Nat, inferInstance, gpS h, f, c', rfl, rfl, e2 _ _ f1, e2 _ _ c1, hz, ?_, ?_⟩
    · rintro vs H' Q' tm ⟨x, n, v2, rfl, hx, hn, rv, q⟩
      exact ⟨s, x, n, v, v2, rfl, rfl, (r1.mono (tm_en eN)).mono ((tm_ex e2).trans tm), rv, O, h.ok x hx, q⟩
    intro H4 g N H0 hg0 e24 gr
    have all : BAll (goS s) m (fst0 s) N := bf_all N gr.lt
    have hl : ((gpS h).b N).nodes.length = N := gr.all
    have ok : EsOk ((gpS h).b N).edges N m := es_ok O all hl
    have h0 : 0 < N := by
      have := (List.getElem?_eq_some_iff.mp all.snd.f).1
      exact hl ▸ this
    have hN : N ≤ 1000 := by
      have := ((gpS h).bin N).le
      have h2 := h.sz
      have h3 : ((gpS h).b N).nodes.length ≤ S.length := this
      omega
    have m9 := h.m9
    have gr4 : GR K (gpS h) H4 g N := gr.gr
    have eN4 : ExtN H H4 := eN.trans ((en_ex e2).trans (en_ex e24))
    have T4 : Tabs (Tq K) H4 := ((tabs_of_n T1).ext e2).ext e24
    -- full_round
    refine ⟨_, rfl, _, rfl, gpS h, g, N, rfl, rfl, gr4, ok, h0, hN, fun H5 p5 r5 a5 L5 e5 h5 hr5 hL0 hLN ha5 _ hround0 => ?_⟩
    refine ⟨_, _, rfl, SqT.of h5, rfl, _, _, rfl, _, _, rfl, rfl, ?_⟩
    have hround : ((List.replicate L5 m).foldl (stE ((gpS h).b N).edges) (0, a5)).2 = a5 := hround0
    clear hround0
    have hrep : ∀ x ∈ List.replicate L5 m, x ≤ m := fun x hx => by rw [List.eq_of_mem_replicate hx]; exact Nat.le_refl _
    have hsr : (List.replicate L5 m).sum = L5 * m := sum_rep m L5
    have hs0 : 0 < (List.replicate L5 m).sum := by rw [hsr]; exact Nat.mul_pos hL0 hm
    have hs9 : (List.replicate L5 m).sum ≤ 9000 := by rw [hsr]; exact Nat.mul_le_mul (Nat.le_trans hLN hN) m9
    -- quotient
    refine ⟨_, rfl, _, rfl, _, rfl, gpS h, g, a5, r5, N, List.replicate L5 m, rfl, rfl, gr4.mono e5, ok, ha5, hN, hr5, hrep, hs0, by omega, fun H6 p6 e6 h6 => ?_⟩
    generalize hst : (List.replicate L5 m).foldl (stE ((gpS h).b N).edges) (0, a5) = st at *
    obtain ⟨t5, b5⟩ := st
    obtain rfl : b5 = a5 := hround
    generalize hS : (List.replicate L5 m).sum = S5 at *
    obtain ⟨lo1, lo2, lo3, lo4⟩ := low t5 S5 hs0
    have cf6 : CF K ((gpS h).b N).edges N m H4 (t5 / Nat.gcd t5 S5) (S5 / Nat.gcd t5 S5) b5 p6 H6 :=
      ⟨en_ex (e5.trans e6), (T4.ext e5).ext e6, h6, ha5, lo1, Nat.le_trans lo4 hs9, lo2, b5, List.replicate L5 m, t5, ha5, by intro z; have := congrArg List.length z; simp at this; omega, hrep, hst, by rw [hS]; exact lo3, by rw [hS]; exact hs0⟩
    generalize t5 / Nat.gcd t5 S5 = p0 at *
    generalize S5 / Nat.gcd t5 S5 = q0 at *
    refine climb_to (h := h) cf6 gr4 ok hl h0 hN fun H7 u9 u10 cf7 ce7 => ?_
    -- while prices is None
    refine ⟨fun M σ H' => ∃ p q a fr u7 u9 u10, σ = [some v, some (vn m), some (.int 1), some (.int (-1)), some (.ref f), some (.ref g), some (vn a), some (.ref u7), some (.ref fr), some u9, some u10] ∧ CF K ((gpS h).b N).edges N m H4 p q a fr H' ∧ CE ((gpS h).b N).edges N m p q u9 u10 H' ∧ M = (9000 * 9000 * p) / q,
      ⟨_, p0, q0, b5, p6, r5, u9, u10, rfl, cf7, ce7, rfl⟩, ?_⟩
    rintro M σ H8 ⟨p, q, a, fr, u7, u9, u10, rfl, cf, ce, rfl⟩
    rcases ce with ⟨rr, pr, rfl, rfl, hpr, hpl, hp0, hst2⟩ | ⟨vv, a', rr, l, t, rfl, rfl, hvv, hrr, hal, hlne, hll, hlm, hfo, hlt⟩
    · -- the prices
      refine ⟨_, rfl, rfl, _, rfl, ?_⟩
      refine iF (by rfl) ?_
      have gr8 : GR K (gpS h) H8 g N := gr4.monoN cf.1
      obtain ⟨dx, ln, le, lb, nv, bv, rs, g1, g2, g3, g4, g5, g6, g7⟩ := gr8
      have hap := all_priced all hl ((gpS h).bin N).nd hp0 hst2
      obtain ⟨ps, hps⟩ : ∃ ps : List Int, pr = ps.map some := ⟨pr.map fun o => o.getD 0, by
        rw [List.map_map]
        refine (List.ext_getElem? fun j => ?_).symm
        rw [List.getElem?_map]
        by_cases hj : j < N
        · obtain ⟨x, hx⟩ := hap j hj
          rw [hx]; rfl
        · rw [List.getElem?_eq_none (by omega)]; rfl⟩
      have hbl : ((gpS h).b N).before.length = N := all.snd.len.trans hl
      refine ⟨_, rfl, ?_⟩
      refine ⟨_, rfl, g, dx, _, rfl, g1, rfl, _, rfl, g, a, dx, lb, _, bv, _, rfl, g1, rfl, g4, g5, par_ofS all.snd, by rw [hbl]; exact cf.2.2.2.1, by rw [hbl]; omega, fun H10 p10 e10 h10 => ?_⟩
      refine ⟨_, rfl, ?_⟩
      refine ⟨_, rfl, g, _, dx, _, _, rfl, e10 _ _ g1, B.cls, B.noat "nodes" 88, rfl, _, rfl, ln, rr, nv, _, ((gpS h).b N).nodes.map (gpS h).da, ps.map Da.int, rfl, e10 _ _ g2, e10 _ _ hpr, g3.mono (tm_ex e10), by rw [hps]; exact rpl_optI ps, ?_, ?_, ?_, ?_, ?_, fun p11 H11 zs e11 h11 => ?_⟩
      · have := g3.length
        rw [List.length_map] at this ⊢
        rw [this, hl, hpl]
      · intro d hd
        obtain ⟨p, _, rfl⟩ := List.mem_map.mp hd
        exact ⟨_, rfl⟩
      · intro d hd e he
        obtain ⟨p, _, rfl⟩ := List.mem_map.mp hd
        obtain ⟨q, _, rfl⟩ := List.mem_map.mp he
        exact cmp_sta p q
      · intro d hd
        obtain ⟨p, _, rfl⟩ := List.mem_map.mp hd
        exact Nat.le_trans (sta_depth p) (by decide)
      · intro d hd
        obtain ⟨i, _, rfl⟩ := List.mem_map.mp hd
        exact ⟨i, rfl⟩
      refine ⟨_, _, rfl, h11, fun p12 H12 e12 h12 => ?_⟩
      refine ⟨sz4, fun p13 H13 e13 h13 => ?_⟩
      have e813 := ((e10.trans e11).trans e12).trans e13
      exact k N p q pr H13 p13 fr _ _ _ hl all cf.2.2.2.2.1 cf.2.2.2.2.2.2.1 cf.2.2.2.2.2.2.2 hap hst2 (eN4.trans (cf.1.trans (en_ex e813))) (cf.2.1.ext e813) h13 (e813 _ _ cf.2.2.1)
    · -- a round worth more
      refine ⟨_, rfl, rfl, _, rfl, ?_⟩
      refine iT (by rfl) ?_
      have hs0 : 0 < l.sum := by
        rcases Nat.eq_zero_or_pos l.sum with z | z
        · rw [z] at hlt; omega
        · exact z
      have hs9 : l.sum ≤ 9000 := Nat.le_trans (sum_leM hlm) (Nat.mul_le_mul (Nat.le_trans hll hN) m9)
      obtain ⟨lo1, lo2, lo3, lo4⟩ := low t l.sum hs0
      have lo5 := low_lt (q := q) hs0 hlt
      refine ⟨fun σ' H' => ∃ m', m' < 9000 * 9000 * p / q ∧ ∃ p q a fr u7 u9 u10, σ' = [some v, some (vn m), some (.int 1), some (.int (-1)), some (.ref f), some (.ref g), some (vn a), some (.ref u7), some (.ref fr), some u9, some u10] ∧ CF K ((gpS h).b N).edges N m H4 p q a fr H' ∧ CE ((gpS h).b N).edges N m p q u9 u10 H' ∧ m' = (9000 * 9000 * p) / q,
        fun σ' H' hh => hh, ?_⟩
      refine ⟨_, rfl, _, _, rfl, SqT.of hvv, rfl, _, _, rfl, _, _, rfl, rfl, ?_⟩
      refine ⟨_, rfl, _, rfl, _, rfl, gpS h, g, a', rr, N, l, rfl, rfl, gr4.monoN cf.1, ok, hal, hN, hrr, hlm, hs0, by omega, fun H9 p9 e9 h9 => ?_⟩
      rw [hfo] at h9
      have cf9 : CF K ((gpS h).b N).edges N m H4 (t / Nat.gcd t l.sum) (l.sum / Nat.gcd t l.sum) a' p9 H9 :=
        ⟨cf.1.trans (en_ex e9), cf.2.1.ext e9, h9, hal, lo1, Nat.le_trans lo4 hs9, lo2, a', l, t, hal, hlne, hlm, hfo, lo3, hs0⟩
      refine climb_to (h := h) cf9 gr4 ok hl h0 hN fun H10 u9 u10 cf10 ce10 => ?_
      exact ⟨_, fr_dec cf.2.2.2.2.1 lo1 cf.2.2.2.2.2.1 (Nat.le_trans lo4 hs9) lo5, _, _, a', p9, rr, u9, u10, rfl, cf10, ce10, rfl⟩
end
end K46
/-! part W21 -/
set_option maxHeartbeats 600000
namespace K46
open PySem PySem.Spec PyProof.Rows L2 Evl LamX NdefX
section
variable {P : Program} {w : World} {K : PySem.W.Frag} {mg : Str → Option Value} {base : Heap}
def spWorst (P : Program) (w : World) (K : PySem.W.Frag) : Sp := fun vs H Q _ => ∃ (s : Setg) (m : Nat) (S : List Sta) (v : V) (h : OneCl s m S), vs = [v, vn m] ∧ Rp H s.da v ∧ SetOk s ∧ 1 ≤ m ∧ Tabs (Tq K) H ∧
  ∀ N p q pr H' a fr x2 x3 x4, ((gpS h).b N).nodes.length = N → BAll (goS s) m (fst0 s) N → 0 < q → Nat.gcd p q = 1 → Att ((gpS h).b N).edges N m p q → (∀ j, j < N → ∃ v : Int, (pr : Prs)[j]? = some (some v)) → Still ((gpS h).b N).edges p q pr →
    ExtN H H' → Tabs (Tq K) H' → H' a = some (.tup [.ref fr, x2, x3, x4]) → H' fr = some (.tup [vn p, vn q]) → Q (.ref a) H'
/-! worst: 0 setting, 1 most -/
theorem sc_worst : FnScope ["setting", "most"] ["setting", "most"] (d_worst.scope) := ⟨rfl, rfl, rfl, by decide +kernel, rfl, by decide +kernel, by decide +kernel⟩
theorem c_worst (B : Bas w K mg) (BT : Bat K mg base) : Cal P w K mg base 9 "worst" ["setting", "most"] (spWorst P w K) := by
  have C_need_setting := c_need_setting (P := P) (base := base) B
  have C_need_most := c_need_most (P := P) (base := base) B
  have C_long_run := c_long_run (P := P) (base := base) B BT
  refine B.calC "worst" 35 33 (d := d_worst) rfl rfl rfl rfl rfl sc_worst (fun vs H Q E h => ?_) (fun _ _ _ _ _ _ us hl => match us, hl with | [_, _], _ => rfl) (fun f A outer s₀ H vs Q E hr h => ?_)
  · obtain ⟨s, m, S, v, h, rfl, _⟩ := h
    rfl
  · obtain ⟨s, m, S, v, h, rfl, r1, O, hm, hT, k⟩ := h
    refine ⟨_, (pss_cons (ps_expr (pe_cal C_need_setting hr (by first | decide | omega) (by rfl) (pa_cons (pv 0) pa_nil)))
    (pss_cons (ps_expr (pe_calD C_need_most hr (by decide) (by rfl) (pa_cons (pv 1) pa_nil)))
    (pss_one (ps_ret (pe_cal C_long_run hr (by first | decide | omega) (by rfl) (pa_cons (pv 0) (pa_cons (pv 1) (pa_cons (pe_glob (v := .int 1) (by rfl) (B.int 69).choose_spec ⟨_, rfl⟩) (pa_cons (pe_un un_neg pe_int) pa_nil))))))))), ?_⟩
    refine ⟨_, rfl, s, v, rfl, r1, O, ?_⟩
    refine ⟨_, rfl, m, rfl, hm, h.m9, ?_⟩
    refine ⟨_, rfl, _, rfl, _, rfl, ?_⟩
    exact ⟨s, m, S, v, h, rfl, r1, O, hm, hT, k⟩
end
end K46
/-! part W22 -/
set_option maxHeartbeats 600000
namespace K46
open PySem PySem.Spec PyProof.Rows L2 Evl
section
variable {P : Program} {w : World} {K : PySem.W.Frag} {mg : Str → Option Value} {base : Heap}
/-! the law's own first state -/
/-! _law_first: 0 _law_setting, 1 _law_tries, 2 _law_wait, 3 _law_tokens -/
theorem sc_law_first : FnScope ["_law_setting", "_law_tries", "_law_wait", "_law_tokens"] ["_law_setting"] (d_law_first.scope) := ⟨rfl, rfl, rfl, by decide +kernel, rfl, by decide +kernel, by decide +kernel⟩
theorem c_law_first (B : Bas w K mg) : Cal P w K mg base 1 "_law_first" ["_law_setting"] spFirst := by
  refine B.cal "_law_first" 36 34 (d := d_law_first) rfl rfl rfl rfl rfl sc_law_first (fun vs H Q E h => ?_) (fun _ _ _ _ _ _ us hl => match us, hl with | [_], _ => rfl) (fun f cdv A outer s₀ H vs Q E hr h => ?_)
  · obtain ⟨s, v, rfl, _⟩ := h
    rfl
  · obtain ⟨s, v, rfl, r1, O, k⟩ := h
    have r1' := r1
    obtain ⟨a, fv, rfl, S⟩ := rp_set r1
    have ot := O.t1
    have ot3 := O.t3
    refine ⟨_, (pss_cons (ps_par3 (i := 1) (j := 2) (l := 3) rfl sc_law_first.nd rfl rfl rfl (by decide) (by decide) (by decide) rfl rfl rfl (pa_cons (pe_ixk (pv 0)) (pa_cons (pe_ixk (pv 0)) (pa_cons (pe_ixk (pv 0)) pa_nil))) (by rfl))
    (pss_one (ps_ret (pe_tupA (pa_cons pe_int (pa_cons (pe_tupA pa_nil) (pa_cons (pe_op op_repX (pe_tupA (pa_cons (pe_op op_repX (pe_tupA (pa_cons pe_int pa_nil)) (pe_op op_subN (pv 1) pe_int)) pa_nil)) (pv 2)) (pa_cons (pe_ifExp (pt_cmpR op_isN (pv 3) pe_non (nomark _)) pe_int (pv 3)) (pa_cons pe_int pa_nil))))))))), ?_⟩
    refine ⟨_, rfl, _, _, _, rfl, S.at_, rfl, _, rfl, _, _, _, rfl, S.at_, rfl, _, rfl, _, _, _, rfl, S.at_, rfl, _, _, _, rfl, ?_⟩
    refine ⟨sz0, fun p2 H2 e2 h2 => ?_⟩
    refine ⟨sz1, fun p3 H3 e3 h3 => ?_⟩
    refine ⟨_, rfl, _, 1, rfl, rfl, ot, _, _, _, rfl, rfl, h3, by omega, by decide, fun p4 H4 e4 h4 => ?_⟩
    refine ⟨sz1, fun p5 H5 e5 h5 => ?_⟩
    refine ⟨_, rfl, _, _, 1, rfl, rfl, h5, by decide, (by show 1 ≤ 1000; decide), fun p6 H6 e6 h6 => ?_⟩
    have e06 := ((((e2.trans e3).trans e4).trans e5).trans e6)
    refine ⟨_, rfl, rfl, _, rfl, ?_⟩
    refine joinIf (vn (mtok s)) (fun hb Q' q => ?_) (fun hb Q' q => ?_) ?_
    · have : s.tok = none := by
        cases ht : s.tok with
        | none => rfl
        | some n => rw [ht] at hb; exact absurd hb (by simp [tokV])
      unfold mtok at q
      rw [this] at q
      exact q
    · cases ht : s.tok with
      | none => rw [ht] at hb; exact absurd hb (by simp [tokV])
      | some n =>
        unfold mtok at q
        rw [ht] at q
        exact ⟨_, rfl, q⟩
    refine ⟨sz5, fun p7 H7 e7 h7 => ?_⟩
    refine k H7 _ (e06.trans e7) ?_
    rw [flat_one] at h4
    refine StA.rp (b := p2) (c := p6) (e := p4) (qs := []) ⟨h7, ((((e3.trans e4).trans e5).trans e6).trans e7) _ _ h2, rfl, e7 _ _ h6, ?_⟩
    rw [show (fst0 s).l.map vn = List.replicate (s.tries - 1) (V.int 0) from by unfold fst0; rw [List.map_replicate]; rfl]
    exact ((e5.trans e6).trans e7) _ _ h4
/-- what the law's step keeps -/
structure StL (s : Setg) (x : Sta) : Prop where
  room : x.d + x.q.length ≤ s.room
  ll : x.l.length = s.tries - 1
  sm : ∀ (i v : Nat), x.l[i]? = some v → v ≤ 20 + 5 * (s.tries - i)
  qs : ∀ p ∈ x.q, p.1 < s.tries
theorem StL.sum {s : Setg} {x : Sta} (ok : StL s x) (O : SetOk s) : x.l.sum ≤ 70 := by
  have h1 := ok.ll
  have h2 := O.t3
  have h3 := ok.sm
  match hl : x.l with
  | [] => simp
  | [u] =>
    have := h3 0 u (by rw [hl]; rfl)
    simp; omega
  | [u, v] =>
    have a := h3 0 u (by rw [hl]; rfl)
    have b := h3 1 v (by rw [hl]; rfl)
    simp; omega
  | u :: v :: y :: r => rw [hl] at h1; simp at h1; omega
theorem sum_take_le : ∀ (l : List Nat) (i : Nat), (l.take i).sum ≤ l.sum
  | [], i => by simp
  | x :: l, 0 => by simp
  | x :: l, i + 1 => by
    have := sum_take_le l i
    simp; omega
/-- who stands at the door behind i kinds and k turns of the next -/
structure DoO (l : List Nat) (i k : Nat) (D : List Nat) : Prop where
  c : ∀ j, D.count j ≤ (if j < i then (l[j]?).getD 0 else if j = i then k else 0)
  n : D.length ≤ (l.take i).sum + k
theorem DoO.snoc {l : List Nat} {i k : Nat} {D : List Nat} (h : DoO l i k D) : DoO l i (k + 1) (D ++ [i]) := by
  refine ⟨fun j => ?_, by have := h.n; simp; omega⟩
  have := h.c j
  rw [List.count_append]
  by_cases hj : j = i
  · subst hj
    simp at this ⊢
    omega
  · rw [List.count_singleton, if_neg (by simp; exact fun e => hj e.symm), if_neg hj]
    rw [if_neg hj] at this
    exact this
theorem DoO.next {l : List Nat} {i m : Nat} {D : List Nat} (h : DoO l i m D) (hm : l[i]? = some m) : DoO l (i + 1) 0 D := by
  refine ⟨fun j => ?_, ?_⟩
  · have := h.c j
    by_cases h1 : j < i
    · rw [if_pos h1] at this
      rw [if_pos (by omega)]; exact this
    · by_cases h2 : j = i
      · subst h2
        rw [if_neg h1, if_pos rfl] at this
        rw [if_pos (by omega), hm]; exact this
      · rw [if_neg h1, if_neg h2] at this
        omega
  · have := h.n
    rw [List.take_add_one, hm]
    simpa using this
theorem DoO.more {l : List Nat} {i k : Nat} {D : List Nat} (h : DoO l i k D) : DoO l i (k + 1) D :=
  ⟨fun j => Nat.le_trans (h.c j) (by split; · exact Nat.le_refl _
                                     · split; · omega
                                       · exact Nat.le_refl _), by have := h.n; omega⟩
def spComers : Sp := fun vs H Q _ => ∃ (s : Setg) (x : Sta) (f : Nat) (v1 v2 : V), vs = [v1, v2, vn f] ∧ Rp H s.da v1 ∧ Rp H x.da v2 ∧ SetOk s ∧ StL s x ∧ f ≤ 9 ∧
  ∀ H' p c (door : List Nat) (lost here : Nat), Ex H H' → H c = none → H' p = some (.tup [.ref c, vn lost, vn here]) → H' c = some (.lst (door.map vn)) → (∀ i, i + 1 < s.tries → door.count i ≤ 20 + 5 * (s.tries - i)) → door.count (s.tries - 1) ≤ 9 → (∀ i ∈ door, i < s.tries) → door.length ≤ 1000 → Q (.ref p) H'
/-! _law_comers: 0 _law_setting, 1 _law_state, 2 _law_fresh, 3 _law_at_door, 4 _law_lost, 5 _law_here, 6 _law_left, 7 _law_many, 8 _law_turn -/
theorem sc_law_comers : FnScope ["_law_setting", "_law_state", "_law_fresh", "_law_at_door", "_law_lost", "_law_here", "_law_left", "_law_many", "_law_turn"] ["_law_setting", "_law_state", "_law_fresh"] (d_law_comers.scope) := ⟨rfl, rfl, rfl, by decide +kernel, rfl, by decide +kernel, by decide +kernel⟩
theorem c_law_comers (B : Bas w K mg) : Cal P w K mg base 1 "_law_comers" ["_law_setting", "_law_state", "_law_fresh"] spComers := by
  refine B.cal "_law_comers" 37 35 (d := d_law_comers) rfl rfl rfl rfl rfl sc_law_comers (fun vs H Q E h => ?_) (fun _ _ _ _ _ _ us hl => match us, hl with | [_, _, _], _ => rfl) (fun f cdv A outer s₀ H vs Q E hr h => ?_)
  · obtain ⟨s, x, f, v1, v2, rfl, _⟩ := h
    rfl
  · obtain ⟨s, x, f, v1, v2, rfl, r1, r2, O, ok, hf, k⟩ := h
    obtain ⟨a, fv, rfl, S⟩ := rp_set r1
    obtain ⟨b, b1, b2, b3, qs, rfl, T⟩ := rp_sta r2
    refine ⟨_, (pss_cons (ps_par3 (i := 3) (j := 4) (l := 5) rfl sc_law_comers.nd rfl rfl rfl (by decide) (by decide) (by decide) rfl rfl rfl (pa_cons (pe_lstA pa_nil) (pa_cons pe_int (pa_cons (pe_ixk (pv 1)) pa_nil))) (by rfl))
    (pss_cons (ps_for PassesOwn.never rfl (pi_enumT (by rfl) (B.free 80) (pa_cons (pe_ixk (pe_ixk (pv 1))) pa_nil)) (pg_tup rfl (pgs_cons (pg_name (i := 6) sc_law_comers.nd rfl (Or.inl rfl)) (pgs_cons (pg_name (i := 7) sc_law_comers.nd rfl (Or.inl rfl)) pgs_nil)))
      (pss_one (ps_for PassesOwn.never rfl (pi_range1 (by rfl) (B.free 81) (pa_cons (pv 7) pa_nil)) (pg_name (i := 8) sc_law_comers.nd rfl (Or.inl rfl))
        (pss_one (ps_if (pt_cmpR op_isN (pe_ixk (pv 0)) pe_non (nomark _))
          (pss_one (ps_expr (pe_bm PySem.F.plainAttrs_list PySem.F.slot_list_append PySem.F.type_list_append mt_appB (pv 3) (pa_cons (pv 6) pa_nil))))
          (pss_one (ps_if (pt_cmpR op_gtN (pv 5) pe_int (nomark _))
            (pss_cons (ps_expr (pe_bm PySem.F.plainAttrs_list PySem.F.slot_list_append PySem.F.type_list_append mt_appB (pv 3) (pa_cons (pv 6) pa_nil)))
            (pss_one (ps_set (i := 5) sc_law_comers.nd rfl (Or.inl rfl) (pe_op op_subN (pv 5) pe_int))))
            (pss_one (ps_set (i := 4) sc_law_comers.nd rfl (Or.inl rfl) (pe_op op_addN (pv 4) pe_int))))))))))
    (pss_one (ps_ret (pe_tupA (pa_cons (pe_op op_catL (pv 3) (pe_op op_repL (pe_lstA (pa_cons (pe_op op_subN (pe_ixk (pv 0)) pe_int) pa_nil)) (pv 2))) (pa_cons (pv 4) (pa_cons (pv 5) pa_nil)))))))), ?_⟩
    have hsum := ok.sum O
    have ot := O.t1
    have ot3 := O.t3
    -- at_door, lost, here = [], 0, state[3]
    refine ⟨sz0, fun c H1 n1 e1 h1 => ?_⟩
    refine ⟨_, rfl, _, _, _, rfl, e1 _ _ T.at_, rfl, _, _, _, rfl, ?_⟩
    -- for left, many in enumerate(state[2][0])
    refine ⟨_, rfl, _, _, _, rfl, e1 _ _ T.at_, rfl, _, _, _, rfl, e1 _ _ T.l, rfl, _, _, rfl, SqT.of (e1 _ _ T.l0), for_enumT (xs := x.l.map vn)
      (fun i σ H2 => ∃ D lo he u6 u7 u8, σ = [some (.ref a), some (.ref b), some (vn f), some (.ref c), some (vn lo), some (vn he), u6, u7, u8] ∧ Ex H H2 ∧ H2 c = some (.lst ((D : List Nat).map vn)) ∧ DoO x.l i 0 D)
      ⟨[], 0, x.t, none, none, none, rfl, e1, h1, ⟨fun j => by simp, by simp⟩⟩ (fun i σ H2 _ ⟨_, _, _, _, _, _, _, e2, _⟩ => e2 _ _ T.l0) ?_ ?_⟩
    · rintro i y σ H2 Tt H3 hy ⟨D, lo, he, u6, u7, u8, rfl, e2, h2, dO⟩ nT e3 hT
      obtain ⟨m, hm, rfl⟩ := map_at hy
      have h3 := e3 _ _ h2
      have e23 := e2.trans e3
      refine ⟨_, _, rfl, SqT.of hT, rfl, _, _, rfl, _, _, rfl, rfl, ?_⟩
      have hmx : (x.l.take i).sum + m ≤ 70 := by
        have := sum_take_le x.l (i + 1)
        rw [List.take_add_one, hm] at this
        simp at this; omega
      refine ⟨_, rfl, _, rfl, by omega, by omega, for_rangeN (n := m)
        (fun k σ H4 => ∃ D lo he u8, σ = [some (.ref a), some (.ref b), some (vn f), some (.ref c), some (vn lo), some (vn he), some (vn i), some (vn m), u8] ∧ Ex H H4 ∧ H4 c = some (.lst ((D : List Nat).map vn)) ∧ DoO x.l i k D)
        ⟨D, lo, he, u8, rfl, e23, h3, dO⟩ ?_ ?_⟩
      · rintro k σ H4 hk ⟨D, lo, he, u8, rfl, e4, h4, dO⟩
        have hln : (D.map vn).length < sizeLine := by
          have := dO.n
          rw [List.length_map, sizeLine_eq]; omega
        refine ⟨_, rfl, _, _, _, rfl, e4 _ _ S.at_, rfl, rfl, _, rfl, ?_⟩
        cases ht : decide (tokV s.tok = V.non) with
        | true =>
          refine iT rfl ?_
          refine ⟨_, rfl, Or.inl ⟨rfl, _, SqL.of h4⟩, _, rfl, _, _, _, rfl, rfl, h4, hln, fun H5 b5 h5 => ?_⟩
          exact ⟨_, _, _, _, rfl, e4.bt n1 b5, by rw [h5, List.map_append]; rfl, dO.snoc⟩
        | false =>
          refine iF rfl ?_
          refine ⟨_, rfl, _, _, rfl, rfl, ?_⟩
          refine ⟨_, rfl, ?_⟩
          by_cases h0 : he > 0
          · refine iT (decide_eq_true h0) ?_
            refine ⟨_, rfl, Or.inl ⟨rfl, _, SqL.of h4⟩, _, rfl, _, _, _, rfl, rfl, h4, hln, fun H5 b5 h5 => ?_⟩
            refine ⟨_, rfl, _, _, rfl, rfl, h0, ?_⟩
            exact ⟨_, _, _, _, rfl, e4.bt n1 b5, by rw [h5, List.map_append]; rfl, dO.snoc⟩
          · refine iF (decide_eq_false h0) ?_
            refine ⟨_, rfl, _, _, rfl, rfl, ?_⟩
            exact ⟨_, _, _, _, rfl, e4, h4, dO.more⟩
      · rintro σ H4 ⟨D, lo, he, u8, rfl, e4, h4, dO⟩
        exact ⟨_, _, _, _, _, _, rfl, e4, h4, dO.next hm⟩
    · -- return
      rintro σ H2 ⟨D, lo, he, u6, u7, u8, rfl, e2, h2, dO⟩
      rw [List.length_map] at dO
      have hDl : D.length ≤ 70 := by
        have := dO.n
        rw [List.take_length] at this
        omega
      have hf9 : (List.replicate f (s.tries - 1)).length = f := List.length_replicate
      refine ⟨_, rfl, ?_⟩
      refine ⟨_, rfl, _, _, _, rfl, e2 _ _ S.at_, rfl, _, _, rfl, rfl, ot, sz1, fun p3 H3 n3 e3 h3 => ?_⟩
      refine ⟨_, rfl, _, _, _, rfl, rfl, h3, by omega, by rw [sizeLine_eq]; simp; omega, fun p4 H4 n4 e4 h4 => ?_⟩
      rw [flat_one] at h4
      refine ⟨_, _, _, _, rfl, rfl, (e3.trans e4) _ _ h2, h4, by rw [sizeLine_eq]; simp; omega, fun p5 H5 n5 e5 h5 => ?_⟩
      refine ⟨_, rfl, _, rfl, sz3, fun p6 H6 e6 h6 => ?_⟩
      refine k H6 p6 p5 (D ++ List.replicate f (s.tries - 1)) lo he (((e2.trans e3).trans e4).trans (e5.trans e6)) (fresh_back ((e2.trans e3).trans e4) n5) h6 ?_ ?_ ?_ ?_ (by simp; omega)
      · rw [e6 _ _ h5, List.map_append, List.map_replicate]
      · intro i hi
        rw [List.count_append, List.count_replicate, if_neg (by simp; omega)]
        have := dO.c i
        have hll := ok.ll
        rw [if_pos (by omega)] at this
        have h1 : x.l[i]? = some x.l[i] := List.getElem?_eq_getElem (by omega)
        have h2 := ok.sm i _ h1
        rw [h1] at this
        simp at this
        omega
      · rw [List.count_append, List.count_replicate]
        have := dO.c (s.tries - 1)
        have hll := ok.ll
        rw [if_neg (by omega)] at this
        have h0 : D.count (s.tries - 1) = 0 := by
          split at this <;> omega
        rw [h0]; split <;> omega
      · intro i hi
        rcases List.mem_append.mp hi with hi | hi
        · have := dO.c i
          have hpos : 0 < D.count i := List.count_pos_iff.mpr hi
          have hll := ok.ll
          by_cases h1 : i < x.l.length
          · omega
          · rw [if_neg h1] at this
            split at this <;> omega
        · rw [List.eq_of_mem_replicate hi]; omega
end
end K46
/-! part W23 -/
set_option maxHeartbeats 600000
namespace K46
open PySem PySem.Spec PyProof.Rows L2 Evl
section
variable {P : Program} {w : World} {K : PySem.W.Frag} {mg : Str → Option Value} {base : Heap}
theorem bt_new {l p : Addr} {H H1 H2 : Hp} (a : Bt l H H1) (n : H p = none) (b : Bt p H1 H2) : Bt l H H2 := fun c o hc h => b c o (fun e => by rw [e, n] at h; cases h) (a c o hc h)
abbrev OE := Option (Nat × Nat)
def spWaited : Sp := fun vs H Q _ => ∃ (s : Setg) (v1 : V) (ll lf : Addr) (L : List OE) (lv : List V) (F : List Nat), vs = [v1, .ref ll, .ref lf] ∧ Rp H s.da v1 ∧ H ll = some (.lst lv) ∧ RpL H (L.map fuseD) lv ∧ H lf = some (.lst (F.map vn)) ∧ ll ≠ lf ∧ L.length ≤ 5 ∧ F.length ≤ 1000 ∧ (∀ p, some p ∈ L → p.1 < s.tries) ∧
  ∀ H' p ov (O : List OE) G, Bt lf H H' → H p = none → H' p = some (.lst ov) → RpL H' (O.map fuseD) ov → O.length ≤ L.length → (∀ p, some p ∈ O → p.1 < s.tries) → (∀ g ∈ G, g < s.tries) → G.length ≤ L.length → H' lf = some (.lst ((F ++ G).map vn)) → Q (.ref p) H'
/-! _law_waited: 0 _law_setting, 1 _law_line, 2 _law_failed, 3 _law_found, 4 _law_entry -/
theorem sc_law_waited : FnScope ["_law_setting", "_law_line", "_law_failed", "_law_found", "_law_entry"] ["_law_setting", "_law_line", "_law_failed"] (d_law_waited.scope) := ⟨rfl, rfl, rfl, by decide +kernel, rfl, by decide +kernel, by decide +kernel⟩
theorem c_law_waited (B : Bas w K mg) : Cal P w K mg base 1 "_law_waited" ["_law_setting", "_law_line", "_law_failed"] spWaited := by
  refine B.cal "_law_waited" 38 36 (d := d_law_waited) rfl rfl rfl rfl rfl sc_law_waited (fun vs H Q E h => ?_) (fun _ _ _ _ _ _ us hl => match us, hl with | [_, _, _], _ => rfl) (fun f cdv A outer s₀ H vs Q E hr h => ?_)
  · obtain ⟨s, v1, ll, lf, L, lv, F, rfl, _⟩ := h
    rfl
  · obtain ⟨s, v1, ll, lf, L, lv, F, rfl, r1, hll, rL, hlf, hne, hL5, hF, hLt, k⟩ := h
    obtain ⟨a, fv, rfl, S⟩ := rp_set r1
    have hlen : lv.length = L.length := by rw [rL.length, List.length_map]
    refine ⟨_, (pss_cons (ps_set (i := 3) sc_law_waited.nd rfl (Or.inl rfl) (pe_lstA pa_nil))
    (pss_cons (ps_for PassesOwn.never rfl (pi_list (pv 1)) (pg_name (i := 4) sc_law_waited.nd rfl (Or.inl rfl))
      (pss_one (ps_if (pt_cmpR op_isN (pv 4) pe_non (nomark _))
        (pss_one (ps_expr (pe_bm PySem.F.plainAttrs_list PySem.F.slot_list_append PySem.F.type_list_append mt_appB (pv 3) (pa_cons pe_non pa_nil))))
        (pss_one (ps_if (pt_cmpR op_ltN (pe_op op_addN (pe_ixk (pv 4)) pe_int) (pe_ixk (pv 0)) (nomark _))
          (pss_one (ps_expr (pe_bm PySem.F.plainAttrs_list PySem.F.slot_list_append PySem.F.type_list_append mt_appB (pv 3) (pa_cons (pe_tupA (pa_cons (pe_ixk (pv 4)) (pa_cons (pe_op op_addN (pe_ixk (pv 4)) pe_int) pa_nil))) pa_nil))))
          (pss_cons (ps_expr (pe_bm PySem.F.plainAttrs_list PySem.F.slot_list_append PySem.F.type_list_append mt_appB (pv 2) (pa_cons (pe_ixk (pv 4)) pa_nil)))
          (pss_one (ps_if (pt_val (pe_ixk (pv 0)))
            (pss_one (ps_expr (pe_bm PySem.F.plainAttrs_list PySem.F.slot_list_append PySem.F.type_list_append mt_appB (pv 3) (pa_cons pe_non pa_nil))))
            pss_nil))))))))
    (pss_one (ps_ret (pv 3))))), ?_⟩
    refine ⟨sz0, fun pf H1 n1 e1 h1 => ?_⟩
    have nfl : pf ≠ lf := fun e => by rw [e, hlf] at n1; cases n1
    have nfll : pf ≠ ll := fun e => by rw [e, hll] at n1; cases n1
    refine ⟨_, rfl, _, rfl, ⟨_, SqL.of (e1 _ _ hll)⟩, for_list (xs := lv)
      (fun i σ H2 => ∃ (O : List OE) (ov : List V) (G : List Nat) (u4 : Option V), σ = [some (.ref a), some (.ref ll), some (.ref lf), some (.ref pf), u4] ∧ Bt lf H H2 ∧ H2 pf = some (.lst ov) ∧ RpL H2 (O.map fuseD) ov ∧ H2 lf = some (.lst ((F ++ G).map vn)) ∧ O.length ≤ i ∧ G.length ≤ i ∧ (∀ p, some p ∈ O → p.1 < s.tries) ∧ (∀ g ∈ G, g < s.tries))
      ⟨[], [], [], none, rfl, Bt.ofEx e1, h1, rfl, by rw [List.append_nil]; exact e1 _ _ hlf, Nat.zero_le _, Nat.zero_le _, by simp, by simp⟩ (fun i σ H2 _ ⟨_, _, _, _, _, b2, _⟩ => SqL.of (b2 _ _ hne hll)) ?_ ?_⟩
    · rintro i x σ H2 hx ⟨O, ov, G, u4, rfl, b2, h2, rO, h2f, hO, hG, hOt, hGt⟩
      obtain ⟨de, hde, rx0⟩ := rL.get' hx
      rw [List.getElem?_map] at hde
      obtain ⟨e0, he0, rfl⟩ := Option.map_eq_some_iff.mp hde
      have hi : i < L.length := (List.getElem?_eq_some_iff.mp he0).1
      have tm2 : Tm H H2 := b2.tm hlf
      have rx := rx0.mono tm2
      have hovl : ov.length = O.length := by rw [rO.length, List.length_map]
      have hov : ov.length < sizeLine := by rw [sizeLine_eq]; omega
      have addN : ∀ (H3 : Hp) (b3 : Bt pf H2 H3) (h3 : H3 pf = some (.lst (ov ++ [V.non]))), ∃ (O : List OE) (ov : List V) (G : List Nat) (u4 : Option V), [some (V.ref a), some (.ref ll), some (.ref lf), some (.ref pf), some x] = [some (V.ref a), some (.ref ll), some (.ref lf), some (.ref pf), u4] ∧ Bt lf H H3 ∧ H3 pf = some (.lst ov) ∧ RpL H3 (O.map fuseD) ov ∧ H3 lf = some (.lst ((F ++ G).map vn)) ∧ O.length ≤ i + 1 ∧ G.length ≤ i + 1 ∧ (∀ p, some p ∈ O → p.1 < s.tries) ∧ (∀ g ∈ G, g < s.tries) := fun H3 b3 h3 =>
        ⟨O ++ [none], _, G, _, rfl, bt_new b2 n1 b3, h3, by rw [List.map_append]; exact (rO.mono (b3.tm h2)).append ⟨_, [], rfl, rfl, rfl⟩, b3 _ _ (Ne.symm nfl) h2f, by simp; exact hO, by omega, fun p hp => by
          rcases List.mem_append.mp hp with z | z
          · exact hOt p z
          · simp at z, hGt⟩
      refine ⟨_, rfl, rfl, _, rfl, ?_⟩
      cases e0 with
      | none =>
        obtain rfl : x = .non := rx
        refine iT (by rfl) ?_
        refine ⟨_, rfl, Or.inl ⟨rfl, _, SqL.of h2⟩, _, _, _, rfl, rfl, h2, hov, fun H3 b3 h3 => ?_⟩
        exact addN H3 b3 h3
      | some pq =>
        obtain ⟨pt, rfl, hpt⟩ := rp_fuse rx
        have hpq := hLt pq (List.mem_of_getElem? he0)
        refine iF (by rfl) ?_
        have S2 := b2 _ _ (fun e => by rw [← e, S.at_] at hlf; cases hlf) S.at_
        refine ⟨_, rfl, _, _, _, rfl, hpt, rfl, _, _, rfl, rfl, _, rfl, _, _, _, rfl, S2, rfl, _, _, rfl, rfl, _, rfl, ?_⟩
        by_cases hlt : pq.2 + 1 < s.pat
        · refine iT (decide_eq_true hlt) ?_
          refine ⟨_, rfl, Or.inl ⟨rfl, _, SqL.of h2⟩, _, rfl, _, _, _, rfl, hpt, rfl, ?_⟩
          refine ⟨_, rfl, _, _, _, rfl, hpt, rfl, _, _, rfl, rfl, sz2, fun p3 H3 e3 h3 => ?_⟩
          refine ⟨_, _, _, rfl, rfl, e3 _ _ h2, hov, fun H4 b4 h4 => ?_⟩
          have b24 := bt_new (b2.trans (Bt.ofEx e3)) n1 b4
          have tm34 := b4.tm (e3 _ _ h2)
          refine ⟨O ++ [some (pq.1, pq.2 + 1)], _, G, _, rfl, b24, h4, ?_, b4 _ _ (Ne.symm nfl) (e3 _ _ h2f), by simp; exact hO, by omega, fun p hp => ?_, hGt⟩
          · rw [List.map_append]
            exact ((rO.mono (tm_ex e3)).mono tm34).append ⟨_, [], rfl, ⟨p3, _, rfl, tm34 _ _ h3, _, _, rfl, rfl, _, _, rfl, rfl, rfl⟩, rfl⟩
          · rcases List.mem_append.mp hp with z | z
            · exact hOt p z
            · simp at z; rw [z]; exact hpq
        · refine iF (decide_eq_false hlt) ?_
          refine ⟨_, rfl, Or.inl ⟨rfl, _, SqL.of h2f⟩, _, rfl, _, _, _, rfl, hpt, rfl, ?_⟩
          refine ⟨_, _, _, rfl, rfl, h2f, by rw [sizeLine_eq, List.length_map, List.length_append]; omega, fun H4 b4 h4 => ?_⟩
          have b24 := b2.trans b4
          have tm4 := b4.tm h2f
          have h4' : H4 pf = some (.lst ov) := b4 _ _ nfl h2
          have h4f : H4 lf = some (.lst ((F ++ (G ++ [pq.1])).map vn)) := by rw [h4, ← List.append_assoc, List.map_append (l₂ := [pq.1])]; rfl
          have hG' : ∀ g ∈ G ++ [pq.1], g < s.tries := fun g hg => by
            rcases List.mem_append.mp hg with z | z
            · exact hGt g z
            · rw [List.mem_singleton.mp z]; exact hpq
          have S4 := b24 _ _ (fun e => by rw [← e, S.at_] at hlf; cases hlf) S.at_
          refine ⟨_, rfl, _, _, _, rfl, S4, rfl, _, rfl, ?_⟩
          cases hd : s.dead with
          | true =>
            refine iT (by first | rfl | exact hd) ?_
            refine ⟨_, rfl, Or.inl ⟨rfl, _, SqL.of h4'⟩, _, _, _, rfl, rfl, h4', hov, fun H5 b5 h5 => ?_⟩
            exact ⟨O ++ [none], _, G ++ [pq.1], _, rfl, bt_new b24 n1 b5, h5, by rw [List.map_append]; exact ((rO.mono tm4).mono (b5.tm h4')).append ⟨_, [], rfl, rfl, rfl⟩, b5 _ _ (Ne.symm nfl) h4f, by simp; exact hO, by simp; exact hG, fun p hp => by
              rcases List.mem_append.mp hp with z | z
              · exact hOt p z
              · simp at z, hG'⟩
          | false =>
            refine iF (by first | rfl | exact hd) ?_
            exact ⟨O, ov, G ++ [pq.1], _, rfl, b24, h4', rO.mono tm4, h4f, by omega, by simp; exact hG, hOt, hG'⟩
    · rintro σ H2 ⟨O, ov, G, u4, rfl, b2, h2, rO, h2f, hO, hG, hOt, hGt⟩
      rw [hlen] at hO hG
      exact ⟨_, rfl, k H2 pf ov O G b2 n1 h2 rO hO hOt hGt hG h2f⟩
end
end K46
/-! part W24 -/
set_option maxHeartbeats 600000
namespace K46
open PySem PySem.Spec PyProof.Rows L2 Evl
section
variable {X : Cx}
/-- count(None) -/
def rCntO : V → List V → Hp → VK → Prop := fun x xs H Q => ∃ (p : Addr) (L : List OE) (vs : List V), x = .ref p ∧ xs = [.non] ∧ H p = some (.lst vs) ∧ RpL H (L.map fuseD) vs ∧ ∀ n, n ≤ vs.length → Q (vn n) H
theorem mt_cntO (hu : X.A.units + 64 < cLine) : MtR X "list.count" rCntO := by
  intro pins s σ H x xs v us Q I rx rxs h
  obtain ⟨p, L, vs, rfl, rfl, hp, rL, q⟩ := h
  cases rx
  obtain ⟨u, rfl, ru⟩ := rxs.one
  obtain rfl : u = Value.none := ru
  obtain ⟨its, rv, ⟨⟨cls, dd, data, sl⟩, n, ho, hc, hdn, hd⟩, hlen⟩ := I.list (SqL.of hp)
  simp only at hc hd
  subst hc hd
  have hu1 : X.A.units + 1 + 1 + 1 < cLine := by omega
  refine call_meets PySem.F.slot_list_count ⟨_, ho, rfl⟩ PySem.F.entry_list_count (PySem.F.args_list_count_2 _ _)
    (SeqAt.list_countAt p its.toArray n dd sl .none (fun y => match y with | .none => true | _ => false)) ⟨ho, fun y hy => ?_, ?_⟩
  · obtain ⟨i, hi⟩ := List.mem_iff_getElem?.mp (show y ∈ its by simpa using hy)
    have hx : i < vs.length := by rw [rv.length]; exact (List.getElem?_eq_some_iff.mp hi).1
    obtain ⟨u, q1, q2⟩ := rv.get (List.getElem?_eq_getElem hx)
    rw [hi] at q1; cases q1
    obtain ⟨d, q3, q4⟩ := rL.get' (List.getElem?_eq_getElem hx)
    rw [List.getElem?_map] at q3
    obtain ⟨e0, _, rfl⟩ := Option.map_eq_some_iff.mp q3
    cases e0 with
    | none =>
      have q4 : vs[i] = V.non := q4
      rw [q4] at q2
      obtain rfl : y = Value.none := q2
      exact SeqAt.EqAt.same _
    | some pq =>
      obtain ⟨r, e1, hr⟩ := rp_fuse q4
      rw [e1] at q2
      obtain rfl : y = Value.ref r := q2
      obtain ⟨_, its2, _, o, g1, g2, n2, g3⟩ := I.hok r _ hr
      exact SeqAt.EqAt.tuple_none (items := its2.toArray) ⟨o, g1, g2, n2, g3⟩ (by show X.A.units + 1 < cLine; omega)
  · exact ⟨vn _, H, I.tok _, ⟨s.toks, rfl⟩, q _ (by rw [rv.length]; exact List.countP_le_length ..)⟩
/-- pop(i) -/
def rPopN : V → List V → Hp → VK → Prop := fun x vs H Q => ∃ (l : Addr) (xs : List V) (k : Nat) (y : V), x = .ref l ∧ vs = [vn k] ∧ H l = some (.lst xs) ∧ k ≤ 100000 ∧ xs[k]? = some y ∧ ∀ H', Bt l H H' → H' l = some (.lst (xs.eraseIdx k)) → Q y H'
theorem mt_popN : MtR X "list.pop" rPopN := by
  intro pins s σ H x xs v us Q I rx r h
  obtain ⟨l, ys, k, y, e1, e2, hl, hk, hy, q⟩ := h
  have hlt := (List.getElem?_eq_some_iff.mp hy).1
  refine mt_popAt pins s σ H x xs v us Q I rx r ⟨l, ys, k, k, y, e1, e2, hl, by omega, by omega, ?_, hy, q _ bt_upd upd_same⟩
  unfold seqIndex?
  simp
  omega
end
end K46
/-! part W25 -/
set_option maxHeartbeats 600000
namespace K46
open PySem PySem.Spec PyProof.Rows L2 Evl
section
variable {P : Program} {w : World} {K : PySem.W.Frag} {mg : Str → Option Value} {base : Heap}
/-- the line, as the law keeps it -/
structure LnO (s : Setg) (L : List OE) : Prop where
  len : L.length ≤ s.room
  left : ∀ p, some p ∈ L → p.1 < s.tries
theorem none_back {H H' : Hp} {p : Addr} (e : Ex H H') (n : H' p = none) : H p = none := by
  cases h : H p with
  | none => rfl
  | some o => rw [e _ _ h] at n; cases n
theorem rpl_rep {H : Hp} : ∀ n : Nat, RpL H (List.replicate n (fuseD none)) (List.replicate n V.non)
  | 0 => rfl
  | n + 1 => ⟨_, _, rfl, rfl, rpl_rep n⟩
theorem map_eraseIdx {α β : Type} (f : α → β) : ∀ (l : List α) (j : Nat), (l.eraseIdx j).map f = (l.map f).eraseIdx j
  | [], _ => rfl
  | _ :: _, 0 => rfl
  | _ :: l, j + 1 => by simp [List.eraseIdx, map_eraseIdx f l j]
theorem RpL.eraseIdx {H : Hp} : ∀ {ds : List Da} {xs : List V} (j : Nat), RpL H ds xs → RpL H (ds.eraseIdx j) (xs.eraseIdx j)
  | [], _, _, h => by cases (show _ = [] from h); exact rfl
  | d :: ds, _, 0, h => by obtain ⟨x, r, rfl, _, h2⟩ := h; exact h2
  | d :: ds, _, j + 1, h => by obtain ⟨x, r, rfl, h1, h2⟩ := h; exact ⟨x, _, rfl, h1, RpL.eraseIdx j h2⟩
theorem filt_rp {H : Hp} : ∀ {O : List OE} {ov : List V}, RpL H (O.map fuseD) ov → RpL H ((O.filterMap id).map prD) (ov.filter fun v => !decide (v = V.non))
  | [], _, h => by cases (show _ = [] from h); rfl
  | none :: O, _, h => by
    obtain ⟨x, r, rfl, h1, h2⟩ := h
    cases (show x = V.non from h1)
    have h3 := filt_rp (O := O) h2
    have e1 : (V.non :: r).filter (fun v => !decide (v = V.non)) = r.filter fun v => !decide (v = V.non) := by simp
    rw [e1]; exact h3
  | some p :: O, _, h => by
    obtain ⟨x, r, rfl, h1, h2⟩ := h
    obtain ⟨a, rfl, ha⟩ := rp_fuse h1
    have h3 := filt_rp (O := O) h2
    have e1 : (V.ref a :: r).filter (fun v => !decide (v = V.non)) = V.ref a :: r.filter fun v => !decide (v = V.non) := by simp
    rw [e1]; exact ⟨_, _, rfl, h1, h3⟩
theorem filt_len {H : Hp} {O : List OE} {ov : List V} (h : RpL H (O.map fuseD) ov) : (ov.filter fun v => !decide (v = V.non)).length = (O.filterMap id).length ∧ (O.filterMap id).length ≤ O.length := by
  have := (filt_rp h).length
  rw [List.length_map] at this
  exact ⟨this, List.length_filterMap_le _ _⟩
def spLStep : Sp := fun vs H Q _ => ∃ (s : Setg) (x : Sta) (f : Nat) (v1 v2 : V), vs = [v1, v2, vn f] ∧ Rp H s.da v1 ∧ Rp H x.da v2 ∧ SetOk s ∧ StL s x ∧ f ≤ 9 ∧
  ∀ H' p (n1 n2 n3 n4 n5 n6 : Nat) u y, Ex H H' → H' p = some (.tup [vn n1, vn n2, vn n3, vn n4, vn n5, vn n6, u]) → Rp H' (Sta.da y) u → StL s y → Q (.ref p) H'
/-! _law_step: 0 _law_setting, 1 _law_state, 2 _law_fresh, 3 _law_at_door, 4 _law_lost, 5 _law_here, 6 _law_line, 7 _law_failed, 8 _law_taken, 9 _law_left, 10 _law_refused, 11 _law_turn, 12 _law_wasted, 13 _law_answered, 14 _law_again, 15 _law_door, 16 _law_queue, 17 _law_then, 18 _law_told, 19 _law_entry -/
theorem sc_law_step : FnScope ["_law_setting", "_law_state", "_law_fresh", "_law_at_door", "_law_lost", "_law_here", "_law_line", "_law_failed", "_law_taken", "_law_left", "_law_refused", "_law_turn", "_law_wasted", "_law_answered", "_law_again", "_law_door", "_law_queue", "_law_then", "_law_told", "_law_entry"] ["_law_setting", "_law_state", "_law_fresh"] (d_law_step.scope) := ⟨rfl, rfl, rfl, by decide +kernel, rfl, by decide +kernel, by decide +kernel⟩
theorem c_law_step (B : Bas w K mg) : Cal P w K mg base 2 "_law_step" ["_law_setting", "_law_state", "_law_fresh"] spLStep := by
  have C_law_comers := c_law_comers (P := P) (base := base) B
  have C_law_waited := c_law_waited (P := P) (base := base) B
  refine B.cal "_law_step" 39 37 (d := d_law_step) rfl rfl rfl rfl rfl sc_law_step (fun vs H Q E h => ?_) (fun _ _ _ _ _ _ us hl => match us, hl with | [_, _, _], _ => rfl) (fun f cdv A outer s₀ H vs Q E hr h => ?_)
  · obtain ⟨s, x, f, v1, v2, rfl, _⟩ := h
    rfl
  · obtain ⟨s, x, fr, v1, v2, rfl, r1, r2, O, ok, hf, k⟩ := h
    have r1' := r1
    have r2' := r2
    obtain ⟨a, fv, rfl, S⟩ := rp_set r1
    obtain ⟨b, b1, b2, b3, qs, rfl, T⟩ := rp_sta r2
    have hroom := ok.room
    have r5 := O.r5
    have ot := O.t1
    have ot3 := O.t3
    have w3 := O.w3
    refine ⟨_, (pss_cons (ps_asg (pe_cal C_law_comers hr (by first | decide | omega) (by rfl) (pa_cons (pv 0) (pa_cons (pv 1) (pa_cons (pv 2) pa_nil)))) (pg_tup rfl (pgs_cons (pg_name (i := 3) sc_law_step.nd rfl (Or.inl rfl)) (pgs_cons (pg_name (i := 4) sc_law_step.nd rfl (Or.inl rfl)) (pgs_cons (pg_name (i := 5) sc_law_step.nd rfl (Or.inl rfl)) pgs_nil)))))
    (pss_cons (ps_asg (pe_tupA (pa_cons (pe_op op_catL (pe_op op_repL (pe_lstA (pa_cons pe_non pa_nil)) (pe_ixk (pv 1))) (pe_callTy call_lstOf (by rfl) (B.free 84) boot_list (pa_cons (pe_ixk (pv 1)) pa_nil))) (pa_cons (pe_lstA pa_nil) (pa_cons (pe_lstA pa_nil) pa_nil)))) (pg_tup rfl (pgs_cons (pg_name (i := 6) sc_law_step.nd rfl (Or.inl rfl)) (pgs_cons (pg_name (i := 7) sc_law_step.nd rfl (Or.inr rfl)) (pgs_cons (pg_name (i := 8) sc_law_step.nd rfl (Or.inl rfl)) pgs_nil)))))
    (pss_cons (ps_for PassesOwn.never rfl (pi_list (pv 3)) (pg_name (i := 9) sc_law_step.nd rfl (Or.inl rfl))
      (pss_one (ps_if (PW.pt (pw_and (pt_cmpR op_eqN (pe_ixk (pv 1)) pe_int (nomark _)) (pw_and1 (pt_cmpR op_ltN (pe_callB call_lenB (by rfl) (B.free 74) boot_len (pa_cons (pv 6) pa_nil)) (pe_ixk (pv 0)) (nomark _)))))
        (pss_one (ps_expr (pe_bm PySem.F.plainAttrs_list PySem.F.slot_list_append PySem.F.type_list_append mt_appB (pv 6) (pa_cons (pe_tupA (pa_cons (pv 9) (pa_cons pe_int pa_nil))) pa_nil))))
        (pss_one (ps_expr (pe_bm PySem.F.plainAttrs_list PySem.F.slot_list_append PySem.F.type_list_append mt_appB (pv 7) (pa_cons (pv 9) pa_nil)))))))
    (pss_cons (ps_set (i := 10) sc_law_step.nd rfl (Or.inl rfl) (pe_callB call_lenB (by rfl) (B.free 74) boot_len (pa_cons (pv 7) pa_nil)))
    (pss_cons (ps_for PassesOwn.never rfl (pi_range1 (by rfl) (B.free 81) (pa_cons (pe_callB (call_minN rfl) (by rfl) (B.free 78) boot_min (pa_cons (pe_ixk (pv 0)) (pa_cons (pe_callB call_lenB (by rfl) (B.free 74) boot_len (pa_cons (pv 6) pa_nil)) pa_nil))) pa_nil)) (pg_name (i := 11) sc_law_step.nd rfl (Or.inl rfl))
      (pss_one (ps_expr (pe_bm PySem.F.plainAttrs_list PySem.F.slot_list_append PySem.F.type_list_append mt_appB (pv 8) (pa_cons (pe_bm PySem.F.plainAttrs_list PySem.F.slot_list_pop PySem.F.type_list_pop mt_popN (pv 6) (pa_cons (pe_ifExp (pt_cmpR op_eq (pe_ixk (pv 0)) pe_str (nomark _)) pe_int (pe_op op_subN (pe_callB call_lenB (by rfl) (B.free 74) boot_len (pa_cons (pv 6) pa_nil)) pe_int)) pa_nil)) pa_nil)))))
    (pss_cons (ps_set (i := 12) sc_law_step.nd rfl (Or.inl rfl) (pe_bm PySem.F.plainAttrs_list PySem.F.slot_list_count PySem.F.type_list_count (mt_cntO hr.units) (pv 8) (pa_cons pe_non pa_nil)))
    (pss_cons (ps_set (i := 13) sc_law_step.nd rfl (Or.inl rfl) (pe_op op_subN (pe_callB call_lenB (by rfl) (B.free 74) boot_len (pa_cons (pv 8) pa_nil)) (pv 12)))
    (pss_cons (ps_set (i := 6) sc_law_step.nd rfl (Or.inl rfl) (pe_cal C_law_waited hr (by first | decide | omega) (by rfl) (pa_cons (pv 0) (pa_cons (pv 6) (pa_cons (pv 7) pa_nil)))))
    (pss_cons (ps_set (i := 14) sc_law_step.nd rfl (Or.inl rfl) (pe_callTy call_tupOf (by rfl) (B.free 73) boot_tuple (pa_cons (pe_lc (own := [("_law_left", 9)]) (g := gName 9) (te := tBM K "list" rCntN (tVar 7) (tCons (tOp rAN (tVar 9) (tC (V.int 1))) tNil)) (by rfl) sc_law_step.nd (pi_range1 (by rfl) (B.free 81) (pa_cons (pe_op op_subN (pe_ixk (pv 0)) pe_int) pa_nil)) (blkOk_by (own := [("_law_left", 9)]) (N := ["_law_setting", "_law_state", "_law_fresh", "_law_at_door", "_law_lost", "_law_here", "_law_line", "_law_failed", "_law_taken", "_law_left", "_law_refused", "_law_turn", "_law_wasted", "_law_answered", "_law_again", "_law_door", "_law_queue", "_law_then", "_law_told", "_law_entry"]) (sc := d_law_step.scope) (by decide +kernel)) (fun _ _ _ _ _ => (pg_name (i := 9) sc_law_step.nd rfl (Or.inl rfl))) (fun _ _ _ _ _ => pts_nil) (fun _ _ _ _ _ => (pe_bm PySem.F.plainAttrs_list PySem.F.slot_list_count PySem.F.type_list_count mt_cntN (pv 7) (pa_cons (pe_op op_addN (pv 9) pe_int) pa_nil)))) pa_nil)))
    (pss_cut (ps_if (pt_cmpR op_notN (pe_ixk (pv 0)) pe_non (nomark _))
      (pss_one (ps_set (i := 5) sc_law_step.nd rfl (Or.inl rfl) (pe_callB (call_minN rfl) (by rfl) (B.free 78) boot_min (pa_cons (pe_ixk (pv 0)) (pa_cons (pe_op op_addN (pv 5) (pv 13)) pa_nil)))))
      pss_nil)
    (pss_cons (ps_set (i := 15) sc_law_step.nd rfl (Or.inl rfl) (pe_callB (call_max2 rfl) (by rfl) (B.free 79) boot_max (pa_cons pe_int (pa_cons (pe_op op_sub (pe_ixk (pv 1)) pe_int) pa_nil))))
    (pss_cut (ps_if (PW.pt (pw_and (pt_cmpR op_notN (pe_ixk (pv 0)) pe_non (nomark _)) (pw_and (pt_cmpR op_eqN (pe_ixk (pv 1)) pe_int (nomark _)) (pw_and1 (pt_cmpR op_geN (pe_callB call_lenB (by rfl) (B.free 74) boot_len (pa_cons (pv 7) pa_nil)) (pe_ixk (pe_ixk (pv 0))) (nomark _))))))
      (pss_one (ps_set (i := 15) sc_law_step.nd rfl (Or.inl rfl) (pe_ixk (pe_ixk (pv 0)))))
      pss_nil)
    (pss_cons (ps_set (i := 16) sc_law_step.nd rfl (Or.inl rfl) (pe_callTy call_tupOf (by rfl) (B.free 73) boot_tuple (pa_cons (pe_lc (own := [("_law_entry", 19)]) (g := gName 19) (by rfl) sc_law_step.nd (pi_list (pv 6)) (blkOk_by (own := [("_law_entry", 19)]) (N := ["_law_setting", "_law_state", "_law_fresh", "_law_at_door", "_law_lost", "_law_here", "_law_line", "_law_failed", "_law_taken", "_law_left", "_law_refused", "_law_turn", "_law_wasted", "_law_answered", "_law_again", "_law_door", "_law_queue", "_law_then", "_law_told", "_law_entry"]) (sc := d_law_step.scope) (by decide +kernel)) (fun _ _ _ _ _ => (pg_name (i := 19) sc_law_step.nd rfl (Or.inl rfl))) (fun _ _ _ _ _ => pts_one (pt_cmpR op_notN (pv 19) pe_non (nomark _))) (fun _ _ _ _ _ => (pv 19))) pa_nil)))
    (pss_cons (ps_set (i := 17) sc_law_step.nd rfl (Or.inl rfl) (pe_tupA (pa_cons (pe_op op_subN (pe_callB call_lenB (by rfl) (B.free 74) boot_len (pa_cons (pv 6) pa_nil)) (pe_callB call_lenB (by rfl) (B.free 74) boot_len (pa_cons (pv 16) pa_nil))) (pa_cons (pv 16) (pa_cons (pe_op op_catB (pe_slice sl_tupB (pe_ixk (pv 1)) (po_some pe_int) po_none) (pe_tupA (pa_cons (pv 14) pa_nil))) (pa_cons (pv 5) (pa_cons (pv 15) pa_nil)))))))
    (pss_cons (ps_set (i := 18) sc_law_step.nd rfl (Or.inl rfl) (pe_tupA (pa_cons (pe_callB call_lenB (by rfl) (B.free 74) boot_len (pa_cons (pv 3) pa_nil)) (pa_cons (pv 13) (pa_cons (pv 12) (pa_cons (pv 10) pa_nil))))))
    (pss_one (ps_ret (pe_op op_catB (pv 18) (pe_tupA (pa_cons (pe_op op_subN (pe_callB call_lenB (by rfl) (B.free 74) boot_len (pa_cons (pv 7) pa_nil)) (pv 10)) (pa_cons (pe_op op_addN (pv 4) (pe_bm PySem.F.plainAttrs_list PySem.F.slot_list_count PySem.F.type_list_count mt_cntN (pv 7) (pa_cons pe_int pa_nil))) (pa_cons (pv 17) pa_nil)))))))))))))))))))))), ?_⟩
    -- at_door, lost, here
    refine ⟨_, rfl, _, rfl, _, rfl, s, x, fr, _, _, rfl, r1', r2', O, ok, hf, fun H1 p1 c door lost here e1 nc h1 hc hd1 hd2 hd3 hdlen => ?_⟩
    refine ⟨_, _, rfl, SqT.of h1, rfl, _, _, rfl, _, _, rfl, _, _, rfl, rfl, ?_⟩
    -- line, failed, taken
    refine ⟨sz1, fun p2 H2 n2 e2 h2 => ?_⟩
    refine ⟨_, rfl, _, _, _, rfl, (e1.trans e2) _ _ T.at_, rfl, _, _, _, rfl, rfl, h2, by omega, by rw [sizeLine_eq]; simp; omega, fun p3 H3 n3 e3 h3 => ?_⟩
    rw [flat_one] at h3
    have e13 := (e1.trans e2).trans e3
    refine ⟨_, rfl, _, _, _, rfl, e13 _ _ T.at_, rfl, _, _, rfl, e13 _ _ T.q, fun p4 H4 n4 e4 h4 => ?_⟩
    have hql : qs.length = x.q.length := by rw [T.qr.length, List.length_map]
    refine ⟨_, _, _, _, rfl, rfl, e4 _ _ h3, h4, by rw [sizeLine_eq, List.length_replicate]; omega, fun pl H5 nl e5 hl => ?_⟩
    refine ⟨sz0, fun pf H6 nf e6 hf6 => ?_⟩
    refine ⟨sz0, fun pt H7 nt e7 ht7 => ?_⟩
    refine ⟨sz3, fun p8 H8 e8 h8 => ?_⟩
    refine ⟨_, _, rfl, SqT.of h8, rfl, _, _, rfl, _, _, rfl, _, _, rfl, rfl, ?_⟩
    have e58 := (e6.trans e7).trans e8
    have e18 := (((e13.trans e4).trans e5).trans e58)
    have hl8 := e58 _ _ hl
    have hf8 := (e7.trans e8) _ _ hf6
    have ht8 := e8 _ _ ht7
    have hc8 := (((((e2.trans e3).trans e4).trans e5).trans e58)) _ _ hc
    -- they lie apart
    have hpl_c : pl ≠ c := fun e => by rw [e, (((e2.trans e3).trans e4)) _ _ hc] at nl; cases nl
    have hpf_c : pf ≠ c := fun e => by rw [e, ((((e2.trans e3).trans e4).trans e5)) _ _ hc] at nf; cases nf
    have hpt_c : pt ≠ c := fun e => by rw [e, (((((e2.trans e3).trans e4).trans e5).trans e6)) _ _ hc] at nt; cases nt
    have hpf_l : pf ≠ pl := fun e => by rw [e, hl] at nf; cases nf
    have hpt_l : pt ≠ pl := fun e => by rw [e, e6 _ _ hl] at nt; cases nt
    have hpt_f : pt ≠ pf := fun e => by rw [e, hf6] at nt; cases nt
    have ml : H pl = none := none_back (((e13.trans e4))) nl
    have mf : H pf = none := none_back (((e13.trans e4).trans e5)) nf
    have mt : H pt = none := none_back ((((e13.trans e4).trans e5).trans e6)) nt
    -- the line
    have rl8 : RpL H8 (((List.replicate x.d (none : OE)) ++ x.q.map some).map fuseD) (List.replicate x.d V.non ++ qs) := by
      rw [List.map_append, List.map_map, List.map_replicate]
      refine RpL.append (rpl_rep x.d) ?_
      exact T.qr.mono (tm_ex e18)
    have lo8 : LnO s ((List.replicate x.d (none : OE)) ++ x.q.map some) := ⟨by simp; omega, fun p hp => by
      rcases List.mem_append.mp hp with z | z
      · exact absurd (List.eq_of_mem_replicate z) (by simp)
      · obtain ⟨q, hq, e⟩ := List.mem_map.mp z
        cases e
        exact ok.qs _ hq⟩
    generalize (List.replicate x.d (none : OE)) ++ x.q.map some = L8 at rl8 lo8
    generalize List.replicate x.d V.non ++ qs = lv8 at *
    -- for left in at_door
    have hdl : door.length ≤ 1000 := hdlen
    refine ⟨_, rfl, _, rfl, ⟨_, SqL.of hc8⟩, for_list (xs := door.map vn)
      (fun i σ H' => ∃ (L : List OE) (lv : List V) (F : List Nat) (u9 : Option V), σ = [some (.ref a), some (.ref b), some (vn fr), some (.ref c), some (vn lost), some (vn here), some (.ref pl), some (.ref pf), some (.ref pt), u9, none, none, none, none, none, none, none, none, none, none] ∧
        Ex H H' ∧ H' c = some (.lst (door.map vn)) ∧ H' pt = some (.lst []) ∧ H' pl = some (.lst lv) ∧ RpL H' (L.map fuseD) lv ∧ LnO s L ∧ H' pf = some (.lst (F.map vn)) ∧ F.Sublist (door.take i))
      ⟨L8, lv8, [], none, rfl, e18, hc8, ht8, hl8, rl8, lo8, hf8, List.nil_sublist _⟩ (fun i σ H' _ ⟨_, _, _, _, _, _, h, _⟩ => SqL.of h) ?_ ?_⟩
    · rintro i y σ H9 hy ⟨L, lv, F, u9, rfl, e9, hc9, ht9, hl9, rl9, lo9, hf9, sub9⟩
      obtain ⟨left, hleft, rfl⟩ := map_at hy
      have hlv : lv.length = L.length := by rw [rl9.length, List.length_map]
      have hFl : F.length ≤ door.length := Nat.le_trans sub9.length_le (by rw [List.length_take]; omega)
      have addF : ∀ H10, Bt pf H9 H10 → H10 pf = some (.lst (F.map vn ++ [vn left])) → ∃ (L : List OE) (lv : List V) (F : List Nat) (u9 : Option V), [some (V.ref a), some (.ref b), some (vn fr), some (.ref c), some (vn lost), some (vn here), some (.ref pl), some (.ref pf), some (.ref pt), some (vn left), none, none, none, none, none, none, none, none, none, none] = [some (V.ref a), some (.ref b), some (vn fr), some (.ref c), some (vn lost), some (vn here), some (.ref pl), some (.ref pf), some (.ref pt), u9, none, none, none, none, none, none, none, none, none, none] ∧
          Ex H H10 ∧ H10 c = some (.lst (door.map vn)) ∧ H10 pt = some (.lst []) ∧ H10 pl = some (.lst lv) ∧ RpL H10 (L.map fuseD) lv ∧ LnO s L ∧ H10 pf = some (.lst (F.map vn)) ∧ F.Sublist (door.take (i + 1)) := fun H10 b10 h10 =>
        ⟨L, lv, F ++ [left], _, rfl, e9.bt mf b10, b10 _ _ (Ne.symm hpf_c) hc9, b10 _ _ hpt_f ht9, b10 _ _ (Ne.symm hpf_l) hl9, rl9.mono (b10.tm hf9), lo9, by rw [h10, List.map_append]; rfl, by
          rw [List.take_add_one, hleft]; exact sub9.append (List.Sublist.refl _)⟩
      refine ⟨_, rfl, _, _, _, rfl, e9 _ _ T.at_, rfl, _, _, rfl, rfl, _, rfl, ?_⟩
      by_cases h0 : x.o = 0
      · refine iT (decide_eq_true h0) ?_
        refine ⟨_, rfl, _, _, rfl, Or.inl hl9, ?_⟩
        refine ⟨_, rfl, _, _, _, rfl, e9 _ _ S.at_, rfl, _, _, rfl, rfl, _, rfl, ?_⟩
        by_cases hlt : lv.length < s.room
        · refine iT (decide_eq_true hlt) ?_
          refine ⟨_, rfl, Or.inl ⟨rfl, _, SqL.of hl9⟩, _, rfl, sz2, fun p10 H10 e10 h10 => ?_⟩
          refine ⟨_, _, _, rfl, rfl, e10 _ _ hl9, by rw [sizeLine_eq]; omega, fun H11 b11 h11 => ?_⟩
          have tm := b11.tm (e10 _ _ hl9)
          refine ⟨L ++ [some (left, 0)], _, F, _, rfl, (e9.trans e10).bt ml b11, b11 _ _ (Ne.symm hpl_c) (e10 _ _ hc9), b11 _ _ hpt_l (e10 _ _ ht9), h11, ?_, ⟨by simp; omega, fun p hp => ?_⟩, b11 _ _ hpf_l (e10 _ _ hf9), ?_⟩
          · rw [List.map_append]
            exact ((rl9.mono (tm_ex e10)).mono tm).append ⟨_, [], rfl, ⟨p10, _, rfl, tm _ _ h10, _, _, rfl, rfl, _, _, rfl, rfl, rfl⟩, rfl⟩
          · rcases List.mem_append.mp hp with z | z
            · exact lo9.left p z
            · simp at z; rw [z]; exact hd3 _ (List.mem_of_getElem? hleft)
          · rw [List.take_add_one]; exact sub9.trans (List.sublist_append_left _ _)
        · refine iF (decide_eq_false hlt) ?_
          refine ⟨_, rfl, Or.inl ⟨rfl, _, SqL.of hf9⟩, _, rfl, ?_⟩
          refine ⟨_, _, _, rfl, rfl, hf9, by rw [sizeLine_eq, List.length_map]; omega, fun H11 b11 h11 => ?_⟩
          exact addF H11 b11 h11
      · refine iF (decide_eq_false h0) ?_
        refine ⟨_, rfl, Or.inl ⟨rfl, _, SqL.of hf9⟩, _, rfl, ?_⟩
        refine ⟨_, _, _, rfl, rfl, hf9, by rw [sizeLine_eq, List.length_map]; omega, fun H11 b11 h11 => ?_⟩
        exact addF H11 b11 h11
    rintro σ H9 ⟨L, lv, F, u9, rfl, e9, hc9, ht9, hl9, rl9, lo9, hf9, sub9⟩
    rw [List.length_map, List.take_length] at sub9
    have hlv : lv.length = L.length := by rw [rl9.length, List.length_map]
    have hFl : F.length ≤ door.length := sub9.length_le
    have hLr := lo9.len
    -- refused
    refine ⟨_, rfl, _, _, rfl, Or.inl hf9, ?_⟩
    -- for turn in range(min(work, len(line)))
    refine ⟨_, rfl, _, _, _, rfl, e9 _ _ S.at_, rfl, _, rfl, _, _, rfl, Or.inl hl9, _, _, rfl, _, rfl, by omega, by omega, for_rangeN (n := min s.work lv.length)
      (fun k σ H' => ∃ (L' : List OE) (lv' : List V) (Tk : List OE) (tv : List V) (u11 : Option V), σ = [some (.ref a), some (.ref b), some (vn fr), some (.ref c), some (vn lost), some (vn here), some (.ref pl), some (.ref pf), some (.ref pt), u9, some (vn (F.map vn).length), u11, none, none, none, none, none, none, none, none] ∧
        Ex H H' ∧ H' c = some (.lst (door.map vn)) ∧ H' pf = some (.lst (F.map vn)) ∧ H' pl = some (.lst lv') ∧ RpL H' (L'.map fuseD) lv' ∧ L'.length + k = L.length ∧ (∀ p, some p ∈ L' → some p ∈ L) ∧ H' pt = some (.lst tv) ∧ RpL H' (Tk.map fuseD) tv ∧ Tk.length = k)
      ⟨L, lv, [], [], none, rfl, e9, hc9, hf9, hl9, rl9, rfl, fun p h => h, ht9, rfl, rfl⟩ ?_ ?_⟩
    · rintro k σ H10 hk ⟨L', lv', Tk, tv, u11, rfl, e10, hc10, hf10, hl10, rl10, hlk, hsub, ht10, rt10, htk⟩
      have hlv' : lv'.length = L'.length := by rw [rl10.length, List.length_map]
      have htv' : tv.length = Tk.length := by rw [rt10.length, List.length_map]
      have hpos : 0 < lv'.length := by omega
      have pop : ∀ (j : Nat) (hj : j < lv'.length) (H11 : Hp) (b11 : Bt pl H10 H11) (h11 : H11 pl = some (.lst (lv'.eraseIdx j))) (H12 : Hp) (b12 : Bt pt H11 H12) (h12 : H12 pt = some (.lst (tv ++ [lv'[j]]))),
          ∃ (L' : List OE) (lv' : List V) (Tk : List OE) (tv : List V) (u11 : Option V), [some (V.ref a), some (.ref b), some (vn fr), some (.ref c), some (vn lost), some (vn here), some (.ref pl), some (.ref pf), some (.ref pt), u9, some (vn (F.map vn).length), some (vn k), none, none, none, none, none, none, none, none] = [some (V.ref a), some (.ref b), some (vn fr), some (.ref c), some (vn lost), some (vn here), some (.ref pl), some (.ref pf), some (.ref pt), u9, some (vn (F.map vn).length), u11, none, none, none, none, none, none, none, none] ∧
            Ex H H12 ∧ H12 c = some (.lst (door.map vn)) ∧ H12 pf = some (.lst (F.map vn)) ∧ H12 pl = some (.lst lv') ∧ RpL H12 (L'.map fuseD) lv' ∧ L'.length + (k + 1) = L.length ∧ (∀ p, some p ∈ L' → some p ∈ L) ∧ H12 pt = some (.lst tv) ∧ RpL H12 (Tk.map fuseD) tv ∧ Tk.length = k + 1 := fun j hj H11 b11 h11 H12 b12 h12 => by
        have tm1 := b11.tm hl10
        have ht11 := b11 _ _ hpt_l ht10
        have tm2 := b12.tm ht11
        have hjL : j < L'.length := by omega
        obtain ⟨d, q1, q2⟩ := rl10.get' (List.getElem?_eq_getElem hj)
        rw [List.getElem?_map, List.getElem?_eq_getElem hjL] at q1
        cases q1
        refine ⟨L'.eraseIdx j, lv'.eraseIdx j, Tk ++ [L'[j]], tv ++ [lv'[j]], _, rfl, (e10.bt ml b11).bt mt b12, b12 _ _ (Ne.symm hpt_c) (b11 _ _ (Ne.symm hpl_c) hc10), b12 _ _ (Ne.symm hpt_f) (b11 _ _ hpf_l hf10), b12 _ _ (Ne.symm hpt_l) h11, ?_, ?_, fun p hp => hsub p (List.mem_of_mem_eraseIdx hp), h12, ?_, by simp [htk]⟩
        · rw [map_eraseIdx]
          exact ((rl10.mono tm1).mono tm2).eraseIdx j
        · rw [List.length_eraseIdx, if_pos hjL]; omega
        · rw [List.map_append]
          exact ((rt10.mono tm1).mono tm2).append ⟨_, [], rfl, (q2.mono tm1).mono tm2, rfl⟩
      refine ⟨_, rfl, Or.inl ⟨rfl, _, SqL.of ht10⟩, _, rfl, Or.inl ⟨rfl, _, SqL.of hl10⟩, _, rfl, _, _, _, rfl, e10 _ _ S.at_, rfl, ?_⟩
      refine ⟨rfl, _, rfl, ?_⟩
      by_cases hw : s.newest = true
      · refine iF (by unfold Setg.wayS; rw [if_pos hw]; decide) ?_
        refine ⟨_, rfl, _, _, rfl, Or.inl hl10, _, _, rfl, rfl, hpos, ?_⟩
        refine ⟨_, _, lv'.length - 1, lv'[lv'.length - 1], rfl, rfl, hl10, by omega, List.getElem?_eq_getElem (by omega), fun H11 b11 h11 => ?_⟩
        refine ⟨_, _, _, rfl, rfl, b11 _ _ hpt_l ht10, by rw [sizeLine_eq]; omega, fun H12 b12 h12 => ?_⟩
        exact pop (lv'.length - 1) (by omega) H11 b11 h11 H12 b12 h12
      · refine iT (by unfold Setg.wayS; rw [if_neg hw]; decide) ?_
        refine ⟨_, _, 0, lv'[0], rfl, rfl, hl10, by omega, List.getElem?_eq_getElem (by omega), fun H11 b11 h11 => ?_⟩
        refine ⟨_, _, _, rfl, rfl, b11 _ _ hpt_l ht10, by rw [sizeLine_eq]; omega, fun H12 b12 h12 => ?_⟩
        exact pop 0 hpos H11 b11 h11 H12 b12 h12
    rintro σ H10 ⟨L', lv', Tk, tv, u11, rfl, e10, hc10, hf10, hl10, rl10, hlk, hsub, ht10, rt10, htk⟩
    have hlv' : lv'.length = L'.length := by rw [rl10.length, List.length_map]
    have htv' : tv.length = Tk.length := by rw [rt10.length, List.length_map]
    -- wasted, answered
    refine ⟨_, rfl, Or.inl ⟨rfl, _, SqL.of ht10⟩, _, Tk, tv, rfl, rfl, ht10, rt10, fun wa hwa => ?_⟩
    refine ⟨_, rfl, _, _, rfl, Or.inl ht10, _, rfl, _, _, rfl, rfl, hwa, ?_⟩
    -- line = waited(..)
    refine ⟨_, rfl, _, rfl, _, rfl, s, _, pl, pf, L', lv', F, rfl, r1'.mono (tm_ex e10), hl10, rl10, hf10, Ne.symm hpf_l, by omega, by omega, fun p hp => lo9.left p (hsub p hp), fun H11 po ov Oo G b11 no ho rO hOl hOt hGt hGl hf11 => ?_⟩
    have e11 : Ex H H11 := e10.bt mf b11
    have mo : H po = none := none_back e10 no
    have hov : ov.length = Oo.length := by rw [rO.length, List.length_map]
    have hFG : (F ++ G).length ≤ 1100 := by rw [List.length_append]; omega
    -- again
    refine ⟨_, rfl, _, _, _, rfl, e11 _ _ S.at_, rfl, _, _, rfl, rfl, ot, _, rfl, by omega, by omega, fun Da nDa => lcR (n := s.tries - 1) (fun i => (List.range i).map fun l => vn ((F ++ G).count (l + 1))) rfl (fun i hi => by simp [sizeLine_eq]; omega) (fun i H12 hi e12 R N hR hN => ?_) nDa (fun H12 e12 h12 => ?_)⟩
    · refine ⟨rfl, yesT ?_⟩
      refine ⟨_, rfl, Or.inl ⟨rfl, _, SqL.of (e12 _ _ hf11)⟩, _, rfl, _, _, rfl, rfl, _, _, (i + 1), rfl, rfl, e12 _ _ hf11, ?_⟩
      exact hR _ _ (Ex.refl _) (by dsimp only; rw [List.range_succ, List.map_append]; rfl)
    refine ⟨_, _, rfl, h12, fun p13 H13 e13 h13 => ?_⟩
    have e23 := e12.trans e13
    have e013 := e11.trans e23
    have ho13 := e23 _ _ ho
    have hf13 := e23 _ _ hf11
    have hc13 := e23 _ _ (b11 _ _ (Ne.symm hpf_c) hc10)
    have S13 := e013 _ _ S.at_
    have T13 := e013 _ _ T.at_
    have rO13 := rO.mono (tm_ex e23)
    -- if setting[7] is not None
    refine ⟨fun σ' H' => ∃ here' : Nat, H13 = H' ∧ σ' = [some (.ref a), some (.ref b), some (vn fr), some (.ref c), some (vn lost), some (vn here'), some (.ref po), some (.ref pf), some (.ref pt), u9, some (vn (F.map vn).length), u11, some (vn wa), some (vn (tv.length - wa)), some (.ref p13), none, none, none, none, none], ?_, ?_⟩
    · refine ⟨_, rfl, _, _, _, rfl, S13, rfl, rfl, _, rfl, ?_⟩
      cases ht : s.tok with
      | none =>
        refine iF (by rfl) ?_
        exact ⟨_, rfl, rfl⟩
      | some n =>
        refine iT (by rfl) ?_
        refine ⟨_, rfl, _, _, _, rfl, S13, by rw [ht]; rfl, _, rfl, _, rfl, _, _, rfl, rfl, _, _, rfl, ?_⟩
        exact ⟨_, rfl, rfl⟩
    rintro σ' H' ⟨here', rfl, rfl⟩
    -- door
    refine ⟨_, rfl, _, _, _, rfl, T13, rfl, _, _, rfl, rfl, _, _, rfl, ?_⟩
    have hmx : (if ((x.o : Nat) : Int) - 1 > 0 then ((x.o : Nat) : Int) - 1 else 0) = ((x.o - 1 : Nat) : Int) := by split <;> omega
    rw [hmx]
    refine ⟨fun σ' H' => ∃ do' : Nat, H13 = H' ∧ σ' = [some (.ref a), some (.ref b), some (vn fr), some (.ref c), some (vn lost), some (vn here'), some (.ref po), some (.ref pf), some (.ref pt), u9, some (vn (F.map vn).length), u11, some (vn wa), some (vn (tv.length - wa)), some (.ref p13), some (vn do'), none, none, none, none], ?_, ?_⟩
    · have hfu := S.fu
      refine ⟨_, rfl, _, _, _, rfl, S13, rfl, rfl, _, rfl, ?_⟩
      cases hf0 : s.fuse with
      | none =>
        rw [hf0] at hfu
        obtain rfl : fv = V.non := hfu
        refine iF (by rfl) ?_
        exact ⟨_, rfl, rfl⟩
      | some pq =>
        rw [hf0] at hfu
        obtain ⟨rf, rfl, hrf⟩ := hfu
        have hrf13 := e013 _ _ hrf
        refine iT (by rfl) ?_
        refine ⟨_, rfl, _, _, _, rfl, T13, rfl, _, _, rfl, rfl, _, rfl, ?_⟩
        by_cases h0 : x.o = 0
        · refine iT (decide_eq_true h0) ?_
          refine ⟨_, rfl, _, _, rfl, Or.inl hf13, ?_⟩
          refine ⟨_, rfl, _, _, _, rfl, S13, rfl, _, _, _, rfl, hrf13, rfl, _, _, rfl, rfl, _, rfl, ?_⟩
          by_cases hge : ((F ++ G).map vn).length ≥ pq.1
          · refine iT (decide_eq_true hge) ?_
            refine ⟨_, rfl, _, _, _, rfl, S13, rfl, _, _, _, rfl, hrf13, rfl, ?_⟩
            exact ⟨_, rfl, rfl⟩
          · refine iF (decide_eq_false hge) ?_
            exact ⟨_, rfl, rfl⟩
        · refine iF (decide_eq_false h0) ?_
          exact ⟨_, rfl, rfl⟩
    rintro σ' H' ⟨do', rfl, rfl⟩
    -- queue
    refine ⟨_, rfl, _, rfl, ⟨_, SqL.of ho13⟩, fun Dq nDq => lcL (fun i => (ov.take i).filter fun v => !decide (v = V.non)) ho13 rfl (fun i hi => Nat.lt_of_le_of_lt (List.length_filter_le ..) (by rw [List.length_take, sizeLine_eq]; omega)) (fun i y H14 hy e14 R N hR hN => ?_) nDq (fun H14 e14 h14 => ?_)⟩
    · refine ⟨rfl, ?_⟩
      refine ⟨_, rfl, rfl, _, rfl, ?_⟩
      dsimp only at hR hN
      rw [take_snoc hy, List.filter_append] at hR hN
      by_cases hyn : y = V.non
      · refine iF (by rw [hyn]; rfl) ?_
        exact hN _ (Ex.refl _) (by rw [hyn]; simp)
      · refine iT (by simp [hyn]) ?_
        exact ⟨_, rfl, hR _ _ (Ex.refl _) (by simp [hyn])⟩
    rw [List.take_length] at h14
    refine ⟨_, _, rfl, h14, fun p15 H15 e15 h15 => ?_⟩
    have e35 := e14.trans e15
    have hql' := filt_len (rO13 : RpL H13 (Oo.map fuseD) ov)
    have hqr := filt_rp (rO13 : RpL H13 (Oo.map fuseD) ov)
    generalize hqv : ov.filter (fun v => !decide (v = V.non)) = qv at *
    have ho15 := e35 _ _ ho13
    -- then
    refine ⟨_, rfl, _, _, rfl, Or.inl ho15, _, rfl, _, _, rfl, Or.inr h15, _, _, rfl, rfl, by omega, ?_⟩
    refine ⟨_, rfl, ?_⟩
    refine ⟨_, rfl, _, _, _, rfl, e35 _ _ T13, rfl, _, rfl, _, _, rfl, e35 _ _ (e013 _ _ T.l), fun p16 H16 e16 h16 => ?_⟩
    rw [show cutV [V.ref b3] (some 1) none = [] from cut_tail _] at h16
    refine ⟨_, rfl, sz1, fun p17 H17 e17 h17 => ⟨_, _, _, _, rfl, rfl, e17 _ _ h16, h17, sz1, fun p18 H18 e18' h18 => ⟨_, rfl, _, rfl, sz5, fun p19 H19 e19 h19 => ?_⟩⟩⟩
    have e5_19 := ((e16.trans e17).trans e18').trans e19
    have e3_19 := e35.trans e5_19
    -- told
    refine ⟨_, rfl, _, _, rfl, Or.inl (e3_19 _ _ hc13), _, rfl, _, rfl, _, rfl, sz4, fun p20 H20 e20 h20 => ?_⟩
    have hf20 := (e3_19.trans e20) _ _ hf13
    refine ⟨_, rfl, ?_⟩
    refine ⟨_, rfl, _, _, rfl, Or.inl hf20, _, rfl, _, _, rfl, rfl, by simp, ?_⟩
    refine ⟨_, rfl, _, rfl, Or.inl ⟨rfl, _, SqL.of hf20⟩, _, _, 0, rfl, rfl, hf20, _, _, rfl, rfl, _, rfl, sz3, fun p21 H21 e21 h21 => ?_⟩
    refine ⟨_, _, _, _, rfl, rfl, e21 _ _ h20, h21, sz7, fun p22 H22 e22 h22 => ?_⟩
    have e3_22 := ((e3_19.trans e20).trans e21).trans e22
    refine k H22 p22 _ _ _ _ _ _ _ { d := ov.length - qv.length, q := Oo.filterMap id, l := (List.range (s.tries - 1)).map fun l => (F ++ G).count (l + 1), t := here', o := do' } (e013.trans e3_22) h22 ?_ ?_
    · refine ⟨p19, _, rfl, ((e20.trans e21).trans e22) _ _ h19, _, _, rfl, rfl, _, _, rfl, ⟨p15, _, rfl, (((e5_19.trans e20).trans e21).trans e22) _ _ h15, hqr.mono (tm_ex e3_22)⟩, _, _, rfl, ?_, _, _, rfl, rfl, _, _, rfl, rfl, rfl⟩
      refine ⟨p18, _, rfl, (((e19.trans e20).trans e21).trans e22) _ _ h18, _, _, rfl, ⟨p13, _, rfl, e3_22 _ _ h13, ?_⟩, rfl⟩
      rw [show ((List.range (s.tries - 1)).map fun l => vn ((F ++ G).count (l + 1))) = ((List.range (s.tries - 1)).map fun l => (F ++ G).count (l + 1)).map vn by rw [List.map_map]; rfl]
      exact rpl_nats _
    · refine ⟨?_, by simp, fun i v hi => ?_, fun p hp => ?_⟩
      · show ov.length - qv.length + (Oo.filterMap id).length ≤ s.room
        omega
      · rw [List.getElem?_map] at hi
        obtain ⟨j, hj, rfl⟩ := Option.map_eq_some_iff.mp hi
        obtain ⟨hj1, hj2⟩ := List.getElem?_eq_some_iff.mp hj
        rw [List.length_range] at hj1
        rw [List.getElem_range] at hj2
        subst hj2
        have c1 : F.count (i + 1) ≤ door.count (i + 1) := sub9.count_le _
        have c2 : G.count (i + 1) ≤ G.length := List.count_le_length
        rw [List.count_append]
        by_cases hi2 : i + 1 + 1 < s.tries
        · have := hd1 (i + 1) hi2
          omega
        · have : i + 1 = s.tries - 1 := by omega
          rw [this] at c1 c2 ⊢
          omega
      · exact hOt p (by
          obtain ⟨e, he, hee⟩ := List.mem_filterMap.mp hp
          cases (show e = some p from hee)
          exact he)
end
end K46
/-! part W26 -/
set_option maxHeartbeats 600000
namespace K46
open PySem PySem.Spec PyProof.Rows L2 Evl
section
variable {P : Program} {w : World} {K : PySem.W.Frag} {mg : Str → Option Value} {base : Heap}
theorem stl_fst0 {s : Setg} (O : SetOk s) : StL s (fst0 s) := by
  refine ⟨Nat.zero_le _, by unfold fst0; simp, fun i v h => ?_, fun p h => by cases h⟩
  unfold fst0 at h
  rw [List.getElem?_replicate] at h
  split at h
  · cases h; exact Nat.zero_le _
  · cases h
theorem pr_depth (p : Pr) : (key p.da).depth ≤ 8 := by
  have h1 := sta_depth p.1
  have h2 := sta_depth p.2
  simp only [Pr.da, key, keys, NestedKey.depth, NestedKey.depthAll]
  omega
theorem rp_ref {H : Hp} {p : Pr} {v : V} (h : Rp H p.da v) : ∃ a u1 u2, v = .ref a ∧ H a = some (.tup [u1, u2]) ∧ Rp H p.1.da u1 ∧ Rp H p.2.da u2 := by
  obtain ⟨a, xs, rfl, h1, x1, r1, rfl, e1, x2, r2, rfl, e2, e3⟩ := h
  cases (show r2 = [] from e3)
  exact ⟨a, x1, x2, rfl, h1, e1, e2⟩
/-- the line and the ways, as they stand -/
structure LB (P : Program) (w : World) (s t : Setg) (H0 H : Hp) (pl pw : Addr) (nodes : List Pr) (kvs : List (Da × V)) : Prop where
  ex : Ex H0 H
  nl : H0 pl = none
  nw : H0 pw = none
  line : ∃ lv, H pl = some (.lst lv) ∧ RpL H (nodes.map Pr.da) lv
  ways : NDict P w H pw kvs
  ks : kvs.map (·.1) = nodes.map Pr.da
  vals : ∀ (j : Nat) q, kvs[j]? = some q → ∃ (r : Addr) (ns : List Nat), q.2 = .ref r ∧ H r = some (.tup (ns.map vn)) ∧ ns.length ≤ j
  ok : ∀ p ∈ nodes, StL s p.1 ∧ StL t p.2
theorem LB.mono {s t : Setg} {H0 H H' : Hp} {pl pw : Addr} {nodes : List Pr} {kvs : List (Da × V)} (b : LB P w s t H0 H pl pw nodes kvs) (e : Ex H H') : LB P w s t H0 H' pl pw nodes kvs := by
  obtain ⟨lv, h1, h2⟩ := b.line
  exact ⟨b.ex.trans e, b.nl, b.nw, ⟨lv, e _ _ h1, h2.mono (tm_ex e)⟩, b.ways.ex e, b.ks, fun j q hq => let ⟨r, ns, a, c, d⟩ := b.vals j q hq; ⟨r, ns, a, e _ _ c, d⟩, b.ok⟩
/-- the way to a node -/
theorem LB.way {s t : Setg} {H0 H : Hp} {pl pw : Addr} {nodes : List Pr} {kvs : List (Da × V)} {j : Nat} {p : Pr} (b : LB P w s t H0 H pl pw nodes kvs) (hp : nodes[j]? = some p) : ∃ (q : Da × V) (r : Addr) (ns : List Nat), q ∈ kvs ∧ q.1 = p.da ∧ q.2 = .ref r ∧ H r = some (.tup (ns.map vn)) ∧ ns.length ≤ j := by
  have h1 : (kvs.map (·.1))[j]? = some p.da := by rw [b.ks, List.getElem?_map, hp]; rfl
  rw [List.getElem?_map] at h1
  obtain ⟨q, hq, e⟩ := Option.map_eq_some_iff.mp h1
  obtain ⟨r, ns, a, c, d⟩ := b.vals j q hq
  exact ⟨q, r, ns, List.mem_of_getElem? hq, e, a, c, d⟩
def spLBoth : Sp := fun vs H Q _ => ∃ (s t : Setg) (m : Nat) (v1 v2 : V), vs = [v1, v2, vn m] ∧ Rp H s.da v1 ∧ Rp H t.da v2 ∧ SetOk s ∧ SetOk t ∧ m ≤ 9 ∧ ∀ H' v, Ex H H' → (v = .non ∨ ∃ p, v = .ref p) → Q v H'
/-! _law_both: 0 _law_one, 1 _law_other, 2 _law_most, 3 _law_first_here, 4 _law_line, 5 _law_ways, 6 _law_apart, 7 _law_at, 8 _law_fresh, 9 _law_mine, 10 _law_its -/
theorem sc_law_both : FnScope ["_law_one", "_law_other", "_law_most", "_law_first_here", "_law_line", "_law_ways", "_law_apart", "_law_at", "_law_fresh", "_law_mine", "_law_its"] ["_law_one", "_law_other", "_law_most"] (d_law_both.scope) := ⟨rfl, rfl, rfl, by decide +kernel, rfl, by decide +kernel, by decide +kernel⟩
theorem c_law_both (B : Bas w K mg) : Cal P w K mg base 3 "_law_both" ["_law_one", "_law_other", "_law_most"] spLBoth := by
  have C_law_first := c_law_first (P := P) (base := base) B
  have C_law_step := c_law_step (P := P) (base := base) B
  refine B.cal "_law_both" 40 38 (d := d_law_both) rfl rfl rfl rfl rfl sc_law_both (fun vs H Q E h => ?_) (fun _ _ _ _ _ _ us hl => match us, hl with | [_, _, _], _ => rfl) (fun f cdv A outer s₀ H vs Q E hr h => ?_)
  · obtain ⟨s, t, m, v1, v2, rfl, _⟩ := h
    rfl
  · obtain ⟨s, t, m, v1, v2, rfl, r1, r2, O1, O2, hm, k⟩ := h
    refine ⟨_, (pss_cons (ps_set (i := 3) sc_law_both.nd rfl (Or.inl rfl) (pe_tupA (pa_cons (pe_cal C_law_first hr (by first | decide | omega) (by rfl) (pa_cons (pv 0) pa_nil)) (pa_cons (pe_cal C_law_first hr (by first | decide | omega) (by rfl) (pa_cons (pv 1) pa_nil)) pa_nil))))
    (pss_cons (ps_asg (pe_tupA (pa_cons (pe_lstA (pa_cons (pv 3) pa_nil)) (pa_cons (pe_dict1 hr.units (pv 3) (pe_tupA pa_nil)) (pa_cons pe_non (pa_cons pe_int pa_nil))))) (pg_tup rfl (pgs_cons (pg_name (i := 4) sc_law_both.nd rfl (Or.inl rfl)) (pgs_cons (pg_name (i := 5) sc_law_both.nd rfl (Or.inl rfl)) (pgs_cons (pg_name (i := 6) sc_law_both.nd rfl (Or.inl rfl)) (pgs_cons (pg_name (i := 7) sc_law_both.nd rfl (Or.inl rfl)) pgs_nil))))))
    (pss_cons (ps_while PassesOwn.never (pt_cmpR op_ltN (pv 7) (pe_callB call_lenB (by rfl) (B.free 74) boot_len (pa_cons (pv 4) pa_nil)) (nomark _))
      (pss_cons (ps_for PassesOwn.never rfl (pi_range1 (by rfl) (B.free 81) (pa_cons (pe_op op_addN (pv 2) pe_int) pa_nil)) (pg_name (i := 8) sc_law_both.nd rfl (Or.inl rfl))
        (pss_cons (ps_par (i := 9) (j := 10) rfl sc_law_both.nd rfl rfl (by decide) rfl rfl (pa_cons (pe_cal C_law_step hr (by first | decide | omega) (by rfl) (pa_cons (pv 0) (pa_cons (pe_ixk (pe_ix ix_listN (pv 4) (pv 7) (fun _ _ => rfl))) (pa_cons (pv 8) pa_nil)))) (pa_cons (pe_cal C_law_step hr (by first | decide | omega) (by rfl) (pa_cons (pv 1) (pa_cons (pe_ixk (pe_ix ix_listN (pv 4) (pv 7) (fun _ _ => rfl))) (pa_cons (pv 8) pa_nil)))) pa_nil)) (by rfl))
        (pss_cut (ps_if (PW.pt (pw_and (pt_cmpR op_neN (pe_ixk (pv 9)) (pe_ixk (pv 10)) (nomark _)) (pw_and1 (pt_cmpR op_isN (pv 6) pe_non (nomark _)))))
          (pss_one (ps_set (i := 6) sc_law_both.nd rfl (Or.inl rfl) (pe_op op_catB (pe_dgetN hr.units (pv 5) (pe_ix ix_listN (pv 4) (pv 7) (fun _ _ => rfl))) (pe_tupA (pa_cons (pv 8) pa_nil)))))
          pss_nil)
        (pss_one (ps_if (pt_cmpR (op_notInN hr.units) (pe_tupA (pa_cons (pe_ixk (pv 9)) (pa_cons (pe_ixk (pv 10)) pa_nil))) (pv 5) (by rfl))
          (pss_cons (ps_asg (pe_op op_catB (pe_dgetN hr.units (pv 5) (pe_ix ix_listN (pv 4) (pv 7) (fun _ _ => rfl))) (pe_tupA (pa_cons (pv 8) pa_nil))) (pg_sub (pv 5) (pe_tupA (pa_cons (pe_ixk (pv 9)) (pa_cons (pe_ixk (pv 10)) pa_nil))) (put_N hr.units)))
          (pss_one (ps_expr (pe_bm PySem.F.plainAttrs_list PySem.F.slot_list_append PySem.F.type_list_append mt_appB (pv 4) (pa_cons (pe_tupA (pa_cons (pe_ixk (pv 9)) (pa_cons (pe_ixk (pv 10)) pa_nil))) pa_nil)))))
          pss_nil)))))
      (pss_cut (ps_if (pt_cmpR op_gtN (pe_callB call_lenB (by rfl) (B.free 74) boot_len (pa_cons (pv 4) pa_nil)) pe_int (nomark _))
        (pss_one (ps_ret pe_non))
        pss_nil)
      (pss_one (ps_set (i := 7) sc_law_both.nd rfl (Or.inl rfl) (pe_op op_addN (pv 7) pe_int))))))
    (pss_one (ps_ret (pe_tupA (pa_cons (pv 4) (pa_cons (pv 6) pa_nil)))))))), ?_⟩
    refine ⟨_, rfl, s, v1, rfl, r1, O1, fun H1 z1 e1 hz1 => ?_⟩
    refine ⟨_, rfl, t, v2, rfl, r2.mono (tm_ex e1), O2, fun H2 z2 e2 hz2 => ?_⟩
    refine ⟨sz2, fun p3 H3 e3 h3 => ?_⟩
    have e03 := (e1.trans e2).trans e3
    have rk3 : Rp H3 (Pr.da (fst0 s, fst0 t)) (.ref p3) := ⟨p3, _, rfl, h3, _, _, rfl, hz1.mono (tm_ex (e2.trans e3)), _, _, rfl, hz2.mono (tm_ex e3), rfl⟩
    -- line, ways, apart, at
    refine ⟨_, rfl, sz1, fun pl H4 nl e4 h4 => ?_⟩
    refine fun pw H5 nw e5 hd5 => ?_
    refine ⟨_, rfl, sz0, fun p6 H6 e6 h6 => ⟨hd5.ex e6, Pr.da (fst0 s, fst0 t), ⟨rk3.mono (tm_ex ((e4.trans e5).trans e6)), pr_depth _, p3, rfl⟩, fun H7 b7 hd7 => ?_⟩⟩
    refine ⟨sz4, fun p8 H8 e8 h8 => ?_⟩
    refine ⟨_, _, rfl, SqT.of h8, rfl, _, _, rfl, _, _, rfl, _, _, rfl, _, _, rfl, rfl, ?_⟩
    have ml : H pl = none := none_back e03 nl
    have mw : H pw = none := none_back (e03.trans e4) nw
    have npl : pl ≠ pw := fun e => by rw [← e, h4] at nw; cases nw
    have e06 := ((e03.trans e4).trans e5).trans e6
    have h7l : H7 pl = some (.lst [.ref p3]) := b7 _ _ npl ((e5.trans e6) _ _ h4)
    have tm67 : Tm H6 H7 := fun b xs q => b7 b _ (fun z => by
      obtain ⟨xs', hx, _⟩ := (hd5.ex e6).at_
      rw [z, hx] at q; unfold NDat at q; cases q) q
    have h7t : H7 p6 = some (.tup []) := tm67 _ _ h6
    have lb8 : LB P w s t H H8 pl pw [(fst0 s, fst0 t)] [(Pr.da (fst0 s, fst0 t), .ref p6)] := by
      refine ⟨(e06.bt mw b7).trans e8, ml, mw, ⟨_, e8 _ _ h7l, _, [], rfl, (((rk3.mono (tm_ex ((e4.trans e5).trans e6))).mono tm67).mono (tm_ex e8)), rfl⟩, hd7.ex e8, rfl, fun j q hq => ?_, fun p hp => ?_⟩
      · cases j with
        | zero =>
          cases hq
          exact ⟨p6, [], rfl, e8 _ _ h7t, Nat.zero_le _⟩
        | succ j => simp at hq
      · rw [List.mem_singleton.mp hp]
        exact ⟨stl_fst0 O1, stl_fst0 O2⟩
    -- while at < len(line)
    refine ⟨fun M σ H' => ∃ nodes kvs i u6 u8 u9 u10, σ = [some v1, some v2, some (vn m), some (.ref p3), some (.ref pl), some (.ref pw), some u6, some (vn i), u8, u9, u10] ∧ LB P w s t H H' pl pw nodes kvs ∧ nodes.length ≤ 2000 ∧ i ≤ 2000 ∧ M = 2001 - i ∧ (u6 = .non ∨ ∃ p, u6 = .ref p),
      ⟨_, _, _, 0, .non, none, none, none, rfl, lb8, by simp, by omega, rfl, .inl rfl⟩, ?_⟩
    rintro M σ H9 ⟨nodes, kvs, i, u6, u8, u9, u10, rfl, lb, hn, hi2, rfl, hu6⟩
    obtain ⟨lv, hlv, rlv⟩ := lb.line
    have hlvl : lv.length = nodes.length := by rw [rlv.length, List.length_map]
    refine ⟨_, rfl, _, rfl, _, _, rfl, Or.inl hlv, _, _, rfl, rfl, _, rfl, ?_⟩
    by_cases hlt : i < lv.length
    · refine iT (decide_eq_true hlt) ?_
      refine ⟨fun σ' H' => ∃ m', m' < 2001 - i ∧ ∃ nodes kvs i' u6 u8 u9 u10, σ' = [some v1, some v2, some (vn m), some (.ref p3), some (.ref pl), some (.ref pw), some u6, some (vn i'), u8, u9, u10] ∧ LB P w s t H H' pl pw nodes kvs ∧ nodes.length ≤ 2000 ∧ i' ≤ 2000 ∧ m' = 2001 - i' ∧ (u6 = .non ∨ ∃ p, u6 = .ref p), fun σ' H' hh => hh, ?_⟩
      -- for fresh in range(most + 1)
      refine ⟨_, rfl, _, 1, rfl, rfl, _, rfl, by omega, by omega, for_rangeN (n := m + 1)
        (fun f σ H' => ∃ nodes kvs u6 u8 u9 u10, σ = [some v1, some v2, some (vn m), some (.ref p3), some (.ref pl), some (.ref pw), some u6, some (vn i), u8, u9, u10] ∧ LB P w s t H H' pl pw nodes kvs ∧ nodes.length ≤ 2000 + f ∧ i < nodes.length ∧ (u6 = .non ∨ ∃ p, u6 = .ref p))
        ⟨nodes, kvs, u6, u8, u9, u10, rfl, lb, by omega, by omega, hu6⟩ ?_ ?_⟩
      · clear hu6 hlvl hlt rlv hlv lb hn
        rintro f σ H10 hf ⟨nodes, kvs, u6, u8, u9, u10, rfl, lb, hn, hi, hu6⟩
        obtain ⟨lv, hlv, rlv⟩ := lb.line
        have hni : nodes[i]? = some nodes[i] := List.getElem?_eq_getElem hi
        obtain ⟨ok1, ok2⟩ := lb.ok _ (List.mem_of_getElem? hni)
        obtain ⟨vy, hvy, rvy⟩ := rlv.get (i := i) (d := Pr.da nodes[i]) (by rw [List.getElem?_map, hni]; rfl)
        obtain ⟨pa, y1, y2, rfl, hpa, ry1, ry2⟩ := rp_ref rvy
        have r1' := r1.mono (tm_ex lb.ex)
        have r2' := r2.mono (tm_ex lb.ex)
        refine ⟨_, rfl, _, rfl, _, rfl, _, _, i, _, rfl, rfl, hlv, hvy, _, _, _, rfl, hpa, rfl, _, rfl, s, nodes[i].1, f, v1, y1, rfl, r1', ry1, O1, ok1, by omega, fun H11 p11 a1 a2 a3 a4 a5 a6 w1 x1 e11 h11 rw1 st1 => ?_⟩
        refine ⟨_, rfl, _, rfl, _, rfl, _, _, i, _, rfl, rfl, e11 _ _ hlv, hvy, _, _, _, rfl, e11 _ _ hpa, rfl, _, rfl, t, nodes[i].2, f, v2, y2, rfl, r2'.mono (tm_ex e11), ry2.mono (tm_ex e11), O2, ok2, by omega, fun H12 p12 c1 c2 c3 c4 c5 c6 w2 x2 e12 h12 rw2 st2 => ?_⟩
        refine ⟨_, _, rfl, ?_⟩
        have e10_12 := e11.trans e12
        have lb12 := lb.mono e10_12
        have h11' := e12 _ _ h11
        have hlv12 := e10_12 _ _ hlv
        have rvy12 := rvy.mono (tm_ex e10_12)
        obtain ⟨⟨qd, qv⟩, r, ns, hq, hq1, hq2, hr0, hns⟩ := lb12.way hni
        dsimp only at hq1 hq2
        subst hq1 hq2
        -- if mine[1] != its[1] and apart is None
        refine ⟨fun σ' H' => ∃ u6', Ex H12 H' ∧ σ' = [some v1, some v2, some (vn m), some (.ref p3), some (.ref pl), some (.ref pw), some u6', some (vn i), some (vn f), some (.ref p11), some (.ref p12)] ∧ (u6' = .non ∨ ∃ p, u6' = .ref p), ?_, ?_⟩
        · refine ⟨_, rfl, _, _, _, rfl, h11', rfl, _, rfl, _, _, _, rfl, h12, rfl, _, _, rfl, rfl, _, rfl, ?_⟩
          by_cases hne : a2 = c2
          · refine iF (by simp [hne]) ?_
            exact ⟨u6, Ex.refl _, rfl, hu6⟩
          · refine iT (by simp [hne]) ?_
            refine ⟨_, rfl, rfl, _, rfl, ?_⟩
            by_cases hu : u6 = .non
            · refine iT (decide_eq_true hu) ?_
              refine ⟨_, rfl, _, rfl, _, rfl, _, _, i, _, rfl, rfl, hlv12, hvy, pw, kvs, _, _, rfl, lb12.ways, ⟨rvy12, pr_depth _, _, rfl⟩, hq, rfl, ?_⟩
              refine ⟨_, rfl, sz1, fun p13 H13 e13 h13 => ?_⟩
              refine ⟨_, _, _, _, rfl, rfl, e13 _ _ hr0, h13, by rw [sizeLine_eq, List.length_map]; simp; omega, fun p14 H14 e14 h14 => ?_⟩
              exact ⟨_, e13.trans e14, rfl, .inr ⟨_, rfl⟩⟩
            · refine iF (decide_eq_false hu) ?_
              exact ⟨u6, Ex.refl _, rfl, hu6⟩
        rintro σ' H13 ⟨u6', e13, rfl, hu6'⟩
        have lb13 := lb12.mono e13
        have h11'' := e13 _ _ h11'
        have h12'' := e13 _ _ h12
        have rw1' := rw1.mono (tm_ex (e12.trans e13))
        have rw2' := rw2.mono (tm_ex e13)
        -- if (mine[6], its[6]) not in ways
        refine ⟨_, rfl, _, _, _, rfl, h11'', rfl, _, rfl, _, _, _, rfl, h12'', rfl, sz2, fun p14 H14 e14 h14 => ?_⟩
        have rk14 : Rp H14 (Pr.da (x1, x2)) (.ref p14) := ⟨p14, _, rfl, h14, _, _, rfl, rw1'.mono (tm_ex e14), _, _, rfl, rw2'.mono (tm_ex e14), rfl⟩
        have lb14 := lb13.mono e14
        refine ⟨_, rfl, pw, kvs, Pr.da (x1, x2), rfl, lb14.ways, ⟨rk14, pr_depth _, _, rfl⟩, _, rfl, ?_⟩
        by_cases hin : key (Pr.da (x1, x2)) ∈ kvs.map fun q => key q.1
        · refine iF (by simp [hin]) ?_
          exact ⟨nodes, kvs, u6', _, _, _, rfl, lb14, by omega, hi, hu6'⟩
        · refine iT (by simp [hin]) ?_
          have e12_14 := e13.trans e14
          refine ⟨_, rfl, _, rfl, _, rfl, _, _, i, _, rfl, rfl, e12_14 _ _ hlv12, hvy, pw, kvs, _, _, rfl, lb14.ways, ⟨rvy12.mono (tm_ex e12_14), pr_depth _, _, rfl⟩, hq, rfl, ?_⟩
          refine ⟨_, rfl, sz1, fun p15 H15 e15 h15 => ?_⟩
          refine ⟨_, _, _, _, rfl, rfl, (e12_14.trans e15) _ _ hr0, h15, by rw [sizeLine_eq, List.length_map]; simp; omega, fun p16 H16 e16 h16 => ?_⟩
          have e14_16 := e15.trans e16
          refine ⟨_, rfl, _, rfl, _, _, _, rfl, (e14.trans e14_16) _ _ h11'', rfl, _, rfl, _, _, _, rfl, (e14.trans e14_16) _ _ h12'', rfl, sz2, fun p17 H17 e17 h17 => ?_⟩
          have lb17 := lb14.mono (e14_16.trans e17)
          have e13_17 := (e14.trans e14_16).trans e17
          have rk17 : Rp H17 (Pr.da (x1, x2)) (.ref p17) := ⟨p17, _, rfl, h17, _, _, rfl, rw1'.mono (tm_ex e13_17), _, _, rfl, rw2'.mono (tm_ex e13_17), rfl⟩
          have hkl : kvs.length = nodes.length := by
            have := congrArg List.length lb17.ks
            simpa using this
          refine ⟨pw, kvs, Pr.da (x1, x2), rfl, lb17.ways, ⟨rk17, pr_depth _, _, rfl⟩, hin, by rw [hkl, sizeLine_eq]; omega, fun H18 b18 hd18 => ?_⟩
          have tm18 : Tm H17 H18 := fun b xs q => b18 b _ (fun z => by
            obtain ⟨xs', hx, _⟩ := lb17.ways.at_
            rw [z, hx] at q; unfold NDat at q; cases q) q
          have hlv17 := (e12_14.trans (e14_16.trans e17)) _ _ hlv12
          have hlv18 := b18 _ _ npl hlv17
          have s18 : ∀ b xs, H13 b = some (.tup xs) → H18 b = some (.tup xs) := fun b xs q => tm18 _ _ (e13_17 _ _ q)
          refine ⟨_, rfl, Or.inl ⟨rfl, _, SqL.of hlv18⟩, _, rfl, _, _, _, rfl, s18 _ _ h11'', rfl, _, rfl, _, _, _, rfl, s18 _ _ h12'', rfl, sz2, fun p19 H19 e19 h19 => ?_⟩
          have hlv19 := e19 _ _ hlv18
          have hlvl : lv.length = nodes.length := by rw [rlv.length, List.length_map]
          refine ⟨_, _, _, rfl, rfl, hlv19, by rw [hlvl, sizeLine_eq]; omega, fun H20 b20 h20 => ?_⟩
          have tm20 : Tm H19 H20 := b20.tm hlv19
          have tmz : Tm H17 H20 := (tm18.trans (tm_ex e19)).trans tm20
          refine ⟨nodes ++ [(x1, x2)], kvs ++ [(Pr.da (x1, x2), V.ref p16)], u6', _, _, _, rfl, ⟨(((lb17.ex.bt mw b18).trans e19).bt ml b20), ml, mw, ⟨_, h20, ?_⟩, (hd18.ex e19).stay tm20 (b20 _ · (Ne.symm npl)), ?_, fun j q hq => ?_, fun p hp => ?_⟩, by simp; omega, by simp; omega, hu6'⟩
          · rw [List.map_append]
            refine RpL.append ((rlv.mono (tm_ex (e10_12.trans e12_14))).mono ((tm_ex (e14_16.trans e17)).trans tmz)) ⟨_, [], rfl, ⟨p19, _, rfl, tm20 _ _ h19, _, _, rfl, (rw1'.mono (tm_ex e13_17)).mono tmz, _, _, rfl, (rw2'.mono (tm_ex e13_17)).mono tmz, rfl⟩, rfl⟩
          · rw [List.map_append, List.map_append, lb17.ks]; rfl
          · by_cases hj : j < kvs.length
            · rw [List.getElem?_append_left hj] at hq
              obtain ⟨r', ns', a, c, d⟩ := lb17.vals j q hq
              exact ⟨r', ns', a, tmz _ _ c, d⟩
            · have hjl := (List.getElem?_eq_some_iff.mp hq).1
              simp at hjl
              have : j = kvs.length := by omega
              subst this
              rw [List.getElem?_append_right (Nat.le_refl _)] at hq
              simp at hq
              subst hq
              refine ⟨p16, ns ++ [f], rfl, tmz _ _ (e17 _ _ (by rw [h16, List.map_append]; rfl)), ?_⟩
              simp; omega
          · rcases List.mem_append.mp hp with z | z
            · exact lb17.ok p z
            · rw [List.mem_singleton.mp z]; exact ⟨st1, st2⟩
      · rintro σ H10 ⟨nodes, kvs, u6, u8, u9, u10, rfl, lb, hn, hi, hu6⟩
        obtain ⟨lv, hlv, rlv⟩ := lb.line
        have hlvl : lv.length = nodes.length := by rw [rlv.length, List.length_map]
        refine ⟨fun σ' H' => lv.length ≤ 2000 ∧ H10 = H' ∧ σ' = [some v1, some v2, some (vn m), some (.ref p3), some (.ref pl), some (.ref pw), some u6, some (vn i), u8, u9, u10], ?_, ?_⟩
        · refine ⟨_, rfl, _, _, rfl, Or.inl hlv, ?_⟩
          refine ⟨_, _, rfl, rfl, _, rfl, ?_⟩
          by_cases hbig : lv.length > 2000
          · refine iT (decide_eq_true hbig) ?_
            exact k H10 _ lb.ex (.inl rfl)
          · refine iF (decide_eq_false hbig) ?_
            exact ⟨by omega, rfl, rfl⟩
        rintro σ' H' ⟨hle, rfl, rfl⟩
        refine ⟨_, rfl, _, _, rfl, rfl, ?_⟩
        exact ⟨_, by omega, nodes, kvs, i + 1, u6, u8, u9, u10, rfl, lb, by omega, by omega, rfl, hu6⟩
    · refine iF (decide_eq_false hlt) ?_
      refine ⟨_, rfl, _, rfl, sz2, fun p10 H10 e10 h10 => ?_⟩
      exact k H10 _ (lb.ex.trans e10) (.inr ⟨_, rfl⟩)
end
end K46
/-! part W27 -/
set_option maxHeartbeats 600000
namespace K46
open PySem PySem.Spec PyProof.Rows L2 Evl
section
variable {P : Program} {w : World} {K : PySem.W.Frag} {mg : Str → Option Value} {base : Heap}
/-- a pen, of which at most c numbers were drawn by stirring -/
def PenAt (H : Hp) (a : Addr) (c : Nat) : Prop := ∃ b n c' : Nat, H a = some (.lst [vn b, vn n, vn c']) ∧ n < 1000000007 ∧ c' ≤ c
def spDraw : Sp := fun vs H Q _ => ∃ (a : Addr) (m c : Nat), vs = [.ref a, vn m] ∧ PenAt H a c ∧ 0 < m ∧ m ≤ 1000 ∧ c ≤ 100000 ∧ ∀ H' d, Bt a H H' → PenAt H' a (c + 1) → d < m → Q (vn d) H'
/-! _law_draw: 0 _law_pen_here, 1 _law_many, 2 _law_digit, 3 _law_stir -/
theorem sc_law_draw : FnScope ["_law_pen_here", "_law_many", "_law_digit", "_law_stir"] ["_law_pen_here", "_law_many"] (d_law_draw.scope) := ⟨rfl, rfl, rfl, by decide +kernel, rfl, by decide +kernel, by decide +kernel⟩
theorem c_law_draw (B : Bas w K mg) : Cal P w K mg base 1 "_law_draw" ["_law_pen_here", "_law_many"] spDraw := by
  refine B.cal "_law_draw" 41 39 (d := d_law_draw) rfl rfl rfl rfl rfl sc_law_draw (fun vs H Q E h => ?_) (fun _ _ _ _ _ _ us hl => match us, hl with | [_, _], _ => rfl) (fun f cdv A outer s₀ H vs Q E hr h => ?_)
  · obtain ⟨a, m, c, rfl, _⟩ := h
    rfl
  · obtain ⟨a, m, c, rfl, ⟨b, n, c', hp, hn, hc'⟩, hm, hm1, hc, k⟩ := h
    refine ⟨_, (pss_cons (ps_if (pt_cmpR op_gtN (pe_ixkL (pv 0)) pe_int (nomark _))
      (pss_cons (ps_set (i := 2) sc_law_draw.nd rfl (Or.inl rfl) (pe_op op_modNat (pe_ixkL (pv 0)) (pv 1)))
      (pss_cons (ps_asg (pe_op op_divNat (pe_ixkL (pv 0)) (pv 1)) (pg_sub (pv 0) pe_int set_listB))
      (pss_one (ps_ret (pv 2)))))
      pss_nil)
    (pss_cons (ps_asg (pe_op op_addN (pe_ixkL (pv 0)) pe_int) (pg_sub (pv 0) pe_int set_listB))
    (pss_cons (ps_set (i := 3) sc_law_draw.nd rfl (Or.inl rfl) (pe_op op_modNat (pe_op op_mulNat (pe_op op_addN (pe_ixkL (pv 0)) (pe_op op_mulNat pe_int (pe_ixkL (pv 0)))) (pe_op op_addN pe_int (pe_op op_mulNat pe_int (pe_ixkL (pv 0))))) pe_int))
    (pss_cons (ps_set (i := 3) sc_law_draw.nd rfl (Or.inl rfl) (pe_op op_modNat (pe_op op_addN (pe_op op_addN (pe_op op_mulNat (pv 3) (pv 3)) (pe_op op_mulNat pe_int (pe_ixkL (pv 0)))) pe_int) pe_int))
    (pss_one (ps_ret (pe_op op_modNat (pe_op op_divNat (pe_op op_modNat (pe_op op_mulNat (pv 3) pe_int) pe_int) pe_int) (pv 1)))))))), ?_⟩
    refine ⟨_, rfl, _, _, _, rfl, hp, rfl, _, _, rfl, rfl, _, rfl, ?_⟩
    by_cases hb : b > 0
    · refine iT (decide_eq_true hb) ?_
      refine ⟨_, rfl, _, _, _, rfl, hp, rfl, _, rfl, _, _, rfl, rfl, hm, ?_⟩
      refine ⟨_, rfl, _, _, _, rfl, hp, rfl, _, rfl, _, _, rfl, rfl, hm, by omega, ?_⟩
      refine ⟨_, rfl, _, _, 0, rfl, rfl, hp, by simp, fun H1 b1 h1 => ?_⟩
      refine ⟨_, rfl, k H1 _ b1 ⟨b / m, n, c', h1, hn, by omega⟩ (Nat.mod_lt _ hm)⟩
    · refine iF (decide_eq_false hb) ?_
      refine ⟨_, rfl, _, _, _, rfl, hp, rfl, _, _, rfl, rfl, ?_⟩
      refine ⟨_, rfl, _, _, 2, rfl, rfl, hp, by simp, fun H1 b1 h1 => ?_⟩
      have hp1 : H1 a = some (.lst [vn b, vn n, vn (c' + 1)]) := h1
      have hc2 : c' ≤ 100000 := by omega
      refine ⟨_, rfl, _, _, _, rfl, hp1, rfl, _, rfl, _, _, _, rfl, hp1, rfl, _, _, rfl, rfl, Or.inl (by decide), _, _, rfl, rfl, ?_⟩
      refine ⟨_, rfl, _, _, _, rfl, hp1, rfl, _, _, rfl, rfl, Or.inl (by decide), _, _, rfl, rfl, _, _, rfl, rfl, Or.inl (by show n + 17 * (c' + 1) < 2 ^ 63; omega), _, _, rfl, rfl, (by decide), ?_⟩
      have hs1 := Nat.mod_lt ((n + 17 * (c' + 1)) * (69621 + 2 * (c' + 1))) (show 0 < 2147483647 by decide)
      generalize (n + 17 * (c' + 1)) * (69621 + 2 * (c' + 1)) % 2147483647 = st at hs1 ⊢
      refine ⟨_, rfl, _, rfl, _, _, rfl, rfl, Or.inl (by omega), _, rfl, _, _, _, rfl, hp1, rfl, _, _, rfl, rfl, Or.inl (by decide), _, _, rfl, rfl, _, _, rfl, rfl, _, _, rfl, rfl, (by decide), ?_⟩
      have hs2 := Nat.mod_lt (st * st + 40503 * (c' + 1) + 5) (show 0 < 2147483629 by decide)
      generalize (st * st + 40503 * (c' + 1) + 5) % 2147483629 = st2 at hs2 ⊢
      refine ⟨_, rfl, _, _, rfl, rfl, Or.inl (by omega), _, _, rfl, rfl, (by decide), _, _, rfl, rfl, (by decide), (by decide), _, rfl, _, _, rfl, rfl, hm, ?_⟩
      exact k H1 _ b1 ⟨b, n, c' + 1, hp1, hn, by omega⟩ (Nat.mod_lt _ hm)
end
end K46
/-! part W28 -/
set_option maxHeartbeats 600000
namespace K46
open PySem PySem.Spec PyProof.Rows L2 Evl
section
variable {P : Program} {w : World} {K : PySem.W.Frag} {mg : Str → Option Value} {base : Heap}
def spPick : Sp := fun vs H Q _ => ∃ (a l : Addr) (c : Nat) (xs : List V), vs = [.ref a, .ref l] ∧ PenAt H a c ∧ a ≠ l ∧ H l = some (.lst xs) ∧ 0 < xs.length ∧ xs.length ≤ 1000 ∧ c ≤ 100000 ∧ ∀ H' (j : Nat) (v : V), Bt a H H' → PenAt H' a (c + 1) → xs[j]? = some v → Q v H'
/-! _law_pick: 0 _law_pen_here, 1 _law_things -/
theorem sc_law_pick : FnScope ["_law_pen_here", "_law_things"] ["_law_pen_here", "_law_things"] (d_law_pick.scope) := ⟨rfl, rfl, rfl, by decide +kernel, rfl, by decide +kernel, by decide +kernel⟩
theorem c_law_pick (B : Bas w K mg) : Cal P w K mg base 2 "_law_pick" ["_law_pen_here", "_law_things"] spPick := by
  have C_law_draw := c_law_draw (P := P) (base := base) B
  refine B.cal "_law_pick" 42 40 (d := d_law_pick) rfl rfl rfl rfl rfl sc_law_pick (fun vs H Q E h => ?_) (fun _ _ _ _ _ _ us hl => match us, hl with | [_, _], _ => rfl) (fun f cdv A outer s₀ H vs Q E hr h => ?_)
  · obtain ⟨a, l, c, xs, rfl, _⟩ := h
    rfl
  · obtain ⟨a, l, c, xs, rfl, pa, hne, hl, h0, h1, hc, k⟩ := h
    refine ⟨_, (pss_one (ps_ret (pe_ix ix_listN (pv 1) (pe_cal C_law_draw hr (by first | decide | omega) (by rfl) (pa_cons (pv 0) (pa_cons (pe_callB call_lenB (by rfl) (B.free 74) boot_len (pa_cons (pv 1) pa_nil)) pa_nil))) (fun _ _ => rfl)))), ?_⟩
    refine ⟨_, rfl, _, rfl, _, rfl, _, _, rfl, Or.inl hl, a, xs.length, c, rfl, pa, h0, h1, hc, fun H1 d b1 p1 hd => ?_⟩
    exact ⟨l, xs, d, _, rfl, rfl, b1 _ _ (Ne.symm hne) hl, List.getElem?_eq_getElem hd, k H1 d _ b1 p1 (List.getElem?_eq_getElem hd)⟩
def spPen : Sp := fun vs H Q _ => ∃ z : Int, vs = [.int z] ∧ ∀ H' p, H p = none → Ex H H' → PenAt H' p 0 → Q (.ref p) H'
/-! _law_pen: 0 _law_cell -/
theorem sc_law_pen : FnScope ["_law_cell"] ["_law_cell"] (d_law_pen.scope) := ⟨rfl, rfl, rfl, by decide +kernel, rfl, by decide +kernel, by decide +kernel⟩
theorem c_law_pen (B : Bas w K mg) : Cal P w K mg base 1 "_law_pen" ["_law_cell"] spPen := by
  refine B.cal "_law_pen" 43 41 (d := d_law_pen) rfl rfl rfl rfl rfl sc_law_pen (fun vs H Q E h => ?_) (fun _ _ _ _ _ _ us hl => match us, hl with | [_], _ => rfl) (fun f cdv A outer s₀ H vs Q E hr h => ?_)
  · obtain ⟨z, rfl, _⟩ := h
    rfl
  · obtain ⟨z, rfl, k⟩ := h
    refine ⟨_, (pss_one (ps_ret (pe_lstA (pa_cons (pe_callB (call_max2 rfl) (by rfl) (B.free 79) boot_max (pa_cons pe_int (pa_cons (pe_op op_sub (pv 0) (pe_op op_pow pe_int pe_int)) pa_nil))) (pa_cons (pe_op op_mod (pv 0) pe_int) (pa_cons pe_int pa_nil)))))), ?_⟩
    refine ⟨_, rfl, _, _, rfl, rfl, ⟨by decide, by decide, by decide⟩, _, _, rfl, rfl, _, _, rfl, _, rfl, _, _, rfl, rfl, (by show (0 : Int) < 1000000007; decide), sz3, fun p H1 n1 e1 h1 => ?_⟩
    have e2 : z % 1000000007 = ((z % 1000000007).toNat : Int) := (Int.toNat_of_nonneg (Int.emod_nonneg _ (by decide))).symm
    have hlt : z % 1000000007 < 1000000007 := Int.emod_lt_of_pos _ (by decide)
    generalize hz : z - 10 ^ (18 : Int).toNat = y at h1
    have e3 : (if y > 0 then y else 0) = ((if y > 0 then y else 0).toNat : Int) := by split <;> omega
    have h2 : H1 p = some (.lst [.int (if y > 0 then y else 0), .int (z % 1000000007), .int 0]) := h1
    rw [e2, e3] at h2
    exact k H1 p n1 e1 ⟨_, _, 0, h2, by omega, Nat.le_refl _⟩
end
end K46
/-! part W29 -/
set_option maxHeartbeats 600000
namespace K46
open PySem PySem.Spec PyProof.Rows L2 Evl
section
variable {P : Program} {w : World} {K : PySem.W.Frag} {mg : Str → Option Value} {base : Heap}
structure Small (s : Setg) : Prop where
  w1 : 1 ≤ s.work
  w2 : s.work ≤ 2
  p1 : 1 ≤ s.pat
  p2 : s.pat ≤ 2
  r1 : s.work ≤ s.room
  r2 : s.room ≤ s.work + 2
  t1 : 1 ≤ s.tries
  t2 : s.tries ≤ 2
  k : ∀ n, s.tok = some n → n ≤ 2
  f : ∀ p, s.fuse = some p → 1 ≤ p.1 ∧ p.1 ≤ 2 ∧ 1 ≤ p.2 ∧ p.2 ≤ 2
/-- a pen draws a setting of a kind -/
def spMade (ok : Setg → Prop) : Sp := fun vs H Q _ => ∃ (a : Addr) (c : Nat), vs = [.ref a] ∧ PenAt H a c ∧ c ≤ 50000 ∧ ∀ H' v s, Bt a H H' → PenAt H' a (c + 20) → Rp H' (Setg.da s) v → ok s → Q v H'
theorem PenAt.lst {H : Hp} {a : Addr} {c : Nat} (h : PenAt H a c) : ∃ xs, H a = some (.lst xs) := let ⟨_, _, _, h, _⟩ := h; ⟨_, h⟩
theorem PenAt.ex {H H' : Hp} {a : Addr} {c : Nat} (h : PenAt H a c) (e : Ex H H') : PenAt H' a c := let ⟨b, n, c', h, x⟩ := h; ⟨b, n, c', e _ _ h, x⟩
theorem PenAt.ne {H : Hp} {a l : Addr} {c : Nat} (h : PenAt H a c) (n : H l = none) : a ≠ l := fun e => by
  obtain ⟨xs, h⟩ := h.lst
  rw [e, n] at h; cases h
theorem PenAt.up {H : Hp} {a : Addr} {c c2 : Nat} (h : PenAt H a c) (e : c ≤ c2) : PenAt H a c2 := let ⟨b, n, c', h, x, y⟩ := h; ⟨b, n, c', h, x, Nat.le_trans y e⟩
/-! _law_small: 0 _law_pen_here, 1 _law_work, 2 _law_patience, 3 _law_room, 4 _law_tries, 5 _law_way, 6 _law_dead, 7 _law_tokens, 8 _law_trip, 9 _law_found -/
theorem sc_law_small : FnScope ["_law_pen_here", "_law_work", "_law_patience", "_law_room", "_law_tries", "_law_way", "_law_dead", "_law_tokens", "_law_trip", "_law_found"] ["_law_pen_here"] (d_law_small.scope) := ⟨rfl, rfl, rfl, by decide +kernel, rfl, by decide +kernel, by decide +kernel⟩
theorem c_law_small (B : Bas w K mg) : Cal P w K mg base 3 "_law_small" ["_law_pen_here"] (spMade Small) := by
  have C_law_draw := c_law_draw (P := P) (base := base) B
  have C_law_pick := c_law_pick (P := P) (base := base) B
  refine B.cal "_law_small" 45 43 (d := d_law_small) rfl rfl rfl rfl rfl sc_law_small (fun vs H Q E h => ?_) (fun _ _ _ _ _ _ us hl => match us, hl with | [_], _ => rfl) (fun f cdv A outer s₀ H vs Q E hr h => ?_)
  · obtain ⟨a, c, rfl, _⟩ := h
    rfl
  · obtain ⟨a, c, rfl, pa, hc, k⟩ := h
    refine ⟨_, (pss_cons (ps_par (i := 1) (j := 2) rfl sc_law_small.nd rfl rfl (by decide) rfl rfl (pa_cons (pe_op op_addN pe_int (pe_cal C_law_draw hr (by first | decide | omega) (by rfl) (pa_cons (pv 0) (pa_cons pe_int pa_nil)))) (pa_cons (pe_op op_addN pe_int (pe_cal C_law_draw hr (by first | decide | omega) (by rfl) (pa_cons (pv 0) (pa_cons pe_int pa_nil)))) pa_nil)) (by rfl))
    (pss_cons (ps_par (i := 3) (j := 4) rfl sc_law_small.nd rfl rfl (by decide) rfl rfl (pa_cons (pe_op op_addN (pv 1) (pe_cal C_law_draw hr (by first | decide | omega) (by rfl) (pa_cons (pv 0) (pa_cons pe_int pa_nil)))) (pa_cons (pe_cal C_law_pick hr (by first | decide | omega) (by rfl) (pa_cons (pv 0) (pa_cons (pe_lstA (pa_cons pe_int (pa_cons pe_int (pa_cons pe_int (pa_cons pe_int pa_nil))))) pa_nil))) pa_nil)) (by rfl))
    (pss_cons (ps_par (i := 5) (j := 6) rfl sc_law_small.nd rfl rfl (by decide) rfl rfl (pa_cons (pe_cal C_law_pick hr (by first | decide | omega) (by rfl) (pa_cons (pv 0) (pa_cons (pe_lstA (pa_cons pe_str (pa_cons pe_str (pa_cons pe_str pa_nil)))) pa_nil))) (pa_cons (pe_cmpR op_gtN (pe_cal C_law_draw hr (by first | decide | omega) (by rfl) (pa_cons (pv 0) (pa_cons pe_int pa_nil))) pe_int (nomark _)) pa_nil)) (by rfl))
    (pss_cons (ps_set (i := 7) sc_law_small.nd rfl (Or.inl rfl) (pe_cal C_law_pick hr (by first | decide | omega) (by rfl) (pa_cons (pv 0) (pa_cons (pe_lstA (pa_cons pe_non (pa_cons pe_non (pa_cons pe_non (pa_cons pe_int (pa_cons pe_int (pa_cons pe_int pa_nil))))))) pa_nil))))
    (pss_cons (ps_set (i := 8) sc_law_small.nd rfl (Or.inl rfl) (pe_tupA (pa_cons (pe_op op_addN pe_int (pe_cal C_law_draw hr (by first | decide | omega) (by rfl) (pa_cons (pv 0) (pa_cons pe_int pa_nil)))) (pa_cons (pe_op op_addN pe_int (pe_cal C_law_draw hr (by first | decide | omega) (by rfl) (pa_cons (pv 0) (pa_cons pe_int pa_nil)))) pa_nil))))
    (pss_cons (ps_set (i := 9) sc_law_small.nd rfl (Or.inl rfl) (pe_tupA (pa_cons (pv 1) (pa_cons (pv 3) (pa_cons (pv 2) (pa_cons (pv 4) (pa_cons pe_int (pa_cons (pv 5) (pa_cons (pv 6) (pa_cons (pv 7) pa_nil))))))))))
    (pss_one (ps_ret (pe_op op_catB (pv 9) (pe_tupA (pa_cons (pe_cal C_law_pick hr (by first | decide | omega) (by rfl) (pa_cons (pv 0) (pa_cons (pe_lstA (pa_cons pe_non (pa_cons pe_non (pa_cons pe_non (pa_cons (pv 8) pa_nil))))) pa_nil))) pa_nil))))))))))), ?_⟩
    -- work, patience
    refine ⟨_, rfl, a, 2, c, rfl, pa, by decide, by decide, by omega, fun H1 d1 b1 p1 hd1 => ⟨_, _, rfl, rfl, ?_⟩⟩
    refine ⟨_, rfl, a, 2, c + 1, rfl, p1, by decide, by decide, by omega, fun H2 d2 b2 p2 hd2 => ⟨_, _, rfl, rfl, _, _, rfl, ?_⟩⟩
    -- room, tries
    refine ⟨_, rfl, _, rfl, a, 3, c + 2, rfl, p2, by decide, by decide, by omega, fun H3 d3 b3 p3 hd3 => ⟨_, _, rfl, rfl, ?_⟩⟩
    refine ⟨_, rfl, sz4, fun l4 H4 n4 e4 h4 => ?_⟩
    refine ⟨a, l4, c + 3, _, rfl, p3.ex e4, p3.ne n4, h4, by decide, by decide, by omega, fun H5 j5 v5 b5 p5 hv5 => ⟨_, _, rfl, ?_⟩⟩
    -- way, dead
    refine ⟨_, rfl, sz3, fun l6 H6 n6 e6 h6 => ?_⟩
    refine ⟨a, l6, c + 4, _, rfl, p5.ex e6, p5.ne n6, h6, by decide, by decide, by omega, fun H7 j7 v7 b7 p7 hv7 => ?_⟩
    refine ⟨_, rfl, a, 3, c + 5, rfl, p7, by decide, by decide, by omega, fun H8 d8 b8 p8 hd8 => ⟨_, _, rfl, rfl, _, _, rfl, ?_⟩⟩
    -- tokens
    refine ⟨_, rfl, (by rw [sizeLine_eq]; decide), fun l9 H9 n9 e9 h9 => ?_⟩
    refine ⟨a, l9, c + 6, _, rfl, p8.ex e9, p8.ne n9, h9, by decide, by decide, by omega, fun H10 j10 v10 b10 p10 hv10 => ?_⟩
    -- trip
    refine ⟨_, rfl, a, 2, c + 7, rfl, p10, by decide, by decide, by omega, fun H11 d11 b11 p11 hd11 => ⟨_, _, rfl, rfl, ?_⟩⟩
    refine ⟨_, rfl, a, 2, c + 8, rfl, p11, by decide, by decide, by omega, fun H12 d12 b12 p12 hd12 => ⟨_, _, rfl, rfl, sz2, fun p13 H13 e13 h13 => ?_⟩⟩
    -- found
    dsimp only
    refine ⟨_, rfl, _, rfl, _, rfl, _, rfl, _, rfl, _, rfl, _, rfl, sz8, fun p14 H14 e14 h14 => ?_⟩
    have p14p : PenAt H14 a (c + 9) := (p12.ex e13).ex e14
    refine ⟨_, rfl, _, rfl, _, rfl, sz4, fun l15 H15 n15 e15 h15 => ?_⟩
    refine ⟨a, l15, c + 9, _, rfl, p14p.ex e15, p14p.ne n15, h15, by simp, by simp, by omega, fun H16 j16 v16 b16 p16 hv16 => ?_⟩
    have na : ∀ {H : Hp} {b : Addr} {xs : List V} {c : Nat}, PenAt H a c → H b = some (.tup xs) → b ≠ a := fun pa q e => by
      obtain ⟨ys, hy⟩ := pa.lst
      rw [e, hy] at q; cases q
    have h14' := b16 _ _ (na (p14p.ex e15) (e15 _ _ h14)) (e15 _ _ h14)
    have h13' := b16 _ _ (na (p14p.ex e15) ((e14.trans e15) _ _ h13)) ((e14.trans e15) _ _ h13)
    refine ⟨sz1, fun p17 H17 e17 h17 => ⟨_, _, _, _, rfl, rfl, e17 _ _ h14', h17, sz9, fun p18 H18 e18 h18 => ?_⟩⟩
    have h5 : ∃ t : Nat, v5 = vn t ∧ 1 ≤ t ∧ t ≤ 2 := by
      have := List.mem_of_getElem? hv5
      simp at this
      rcases this with rfl | rfl
      · exact ⟨1, rfl, by decide, by decide⟩
      · exact ⟨2, rfl, by decide, by decide⟩
    have h7 : ∃ nb : Bool, v7 = .str (if nb then "newest" else "oldest") := by
      have := List.mem_of_getElem? hv7
      simp at this
      rcases this with rfl | rfl
      · exact ⟨false, rfl⟩
      · exact ⟨true, rfl⟩
    have h10 : ∃ tk : Option Nat, v10 = tokV tk ∧ ∀ n, tk = some n → n ≤ 2 := by
      have := List.mem_of_getElem? hv10
      simp at this
      rcases this with rfl | rfl | rfl | rfl
      · exact ⟨none, rfl, fun n h => by cases h⟩
      · exact ⟨some 0, rfl, fun n h => by cases h; decide⟩
      · exact ⟨some 1, rfl, fun n h => by cases h; decide⟩
      · exact ⟨some 2, rfl, fun n h => by cases h; decide⟩
    have h16 : v16 = .non ∨ v16 = .ref p13 := by
      have := List.mem_of_getElem? hv16
      simpa using this
    obtain ⟨t, rfl, t1, t2⟩ := h5
    obtain ⟨nb, rfl⟩ := h7
    obtain ⟨tk, rfl, htk⟩ := h10
    have bt : Bt a H H18 := ((((((((((((b1.trans b2).trans b3).trans (Bt.ofEx e4)).trans b5).trans (Bt.ofEx e6)).trans b7).trans b8).trans (Bt.ofEx e9)).trans b10).trans b11).trans b12).trans (Bt.ofEx ((e13.trans e14).trans e15))).trans (b16.trans (Bt.ofEx (e17.trans e18)))
    have h13'' := (e17.trans e18) _ _ h13'
    have rf : ∃ fu : Option (Nat × Nat), Rp H18 (fuseD fu) v16 ∧ ∀ p, fu = some p → 1 ≤ p.1 ∧ p.1 ≤ 2 ∧ 1 ≤ p.2 ∧ p.2 ≤ 2 := by
      rcases h16 with rfl | rfl
      · exact ⟨none, rfl, fun p h => by cases h⟩
      · exact ⟨some (1 + d11, 1 + d12), ⟨p13, _, rfl, h13'', _, _, rfl, rfl, _, _, rfl, rfl, rfl⟩, fun p h => by cases h; dsimp only; omega⟩
    obtain ⟨fu, rfu, hfu⟩ := rf
    refine k H18 _ { work := 1 + d1, room := 1 + d1 + d3, pat := 1 + d2, tries := t, newest := nb, dead := decide (d8 > 0), tok := tk, fuse := fu } bt ((p16.ex (e17.trans e18)).up (by omega)) ?_ ⟨by show 1 ≤ 1 + d1; omega, by show 1 + d1 ≤ 2; omega, by show 1 ≤ 1 + d2; omega, by show 1 + d2 ≤ 2; omega, by show 1 + d1 ≤ 1 + d1 + d3; omega, by show 1 + d1 + d3 ≤ 1 + d1 + 2; omega, t1, t2, htk, hfu⟩
    refine ⟨p18, _, rfl, h18, _, _, rfl, rfl, _, _, rfl, rfl, _, _, rfl, rfl, _, _, rfl, rfl, _, _, rfl, rfl, _, _, rfl, rfl, _, _, rfl, rfl, _, _, rfl, ?_, _, _, rfl, rfu, rfl⟩
    cases tk with
    | none => rfl
    | some n => rfl
end
end K46
/-! part W30 -/
set_option maxHeartbeats 600000
namespace K46
open PySem PySem.Spec PyProof.Rows L2 Evl
section
variable {P : Program} {w : World} {K : PySem.W.Frag} {mg : Str → Option Value} {base : Heap}
structure Bare (s : Setg) : Prop where
  w1 : 1 ≤ s.work
  w3 : s.work ≤ 3
  r1 : 1 ≤ s.room
  r5 : s.room ≤ 5
  p1 : s.pat = 1
  t1 : 1 ≤ s.tries
  t2 : s.tries ≤ 2
  k : s.tok = none
  f : s.fuse = none
def wayV (nb : Bool) : V := .str (if nb then "newest" else "oldest")
def spFew : Sp := fun vs H Q _ => ∃ (a : Addr) (c : Nat), vs = [.ref a] ∧ PenAt H a c ∧ c ≤ 50000 ∧ ∀ H' p (wk rm tr : Nat) (nb de : Bool) (x y : V), Bt a H H' → PenAt H' a (c + 20) → H' p = some (.tup [vn wk, vn rm, vn 1, vn tr, .int 1, wayV nb, .bl de, x, y]) → 1 ≤ wk → wk ≤ 3 → 1 ≤ rm → rm ≤ 5 → 1 ≤ tr → tr ≤ 2 → Q (.ref p) H'
/-! _law_few: 0 _law_pen_here, 1 _law_work, 2 _law_room, 3 _law_tries, 4 _law_way, 5 _law_dead, 6 _law_here, 7 _law_trip -/
theorem sc_law_few : FnScope ["_law_pen_here", "_law_work", "_law_room", "_law_tries", "_law_way", "_law_dead", "_law_here", "_law_trip"] ["_law_pen_here"] (d_law_few.scope) := ⟨rfl, rfl, rfl, by decide +kernel, rfl, by decide +kernel, by decide +kernel⟩
theorem c_law_few (B : Bas w K mg) : Cal P w K mg base 3 "_law_few" ["_law_pen_here"] spFew := by
  have C_law_pick := c_law_pick (P := P) (base := base) B
  have C_law_draw := c_law_draw (P := P) (base := base) B
  refine B.cal "_law_few" 46 44 (d := d_law_few) rfl rfl rfl rfl rfl sc_law_few (fun vs H Q E h => ?_) (fun _ _ _ _ _ _ us hl => match us, hl with | [_], _ => rfl) (fun f cdv A outer s₀ H vs Q E hr h => ?_)
  · obtain ⟨a, c, rfl, _⟩ := h
    rfl
  · obtain ⟨a, c, rfl, pa, hc, k⟩ := h
    refine ⟨_, (pss_cons (ps_par3 (i := 1) (j := 2) (l := 3) rfl sc_law_few.nd rfl rfl rfl (by decide) (by decide) (by decide) rfl rfl rfl (pa_cons (pe_op op_addN pe_int (pe_cal C_law_draw hr (by first | decide | omega) (by rfl) (pa_cons (pv 0) (pa_cons pe_int pa_nil)))) (pa_cons (pe_op op_addN pe_int (pe_cal C_law_draw hr (by first | decide | omega) (by rfl) (pa_cons (pv 0) (pa_cons pe_int pa_nil)))) (pa_cons (pe_cal C_law_pick hr (by first | decide | omega) (by rfl) (pa_cons (pv 0) (pa_cons (pe_lstA (pa_cons pe_int (pa_cons pe_int (pa_cons pe_int (pa_cons pe_int pa_nil))))) pa_nil))) pa_nil))) (by rfl))
    (pss_cons (ps_par (i := 4) (j := 5) rfl sc_law_few.nd rfl rfl (by decide) rfl rfl (pa_cons (pe_cal C_law_pick hr (by first | decide | omega) (by rfl) (pa_cons (pv 0) (pa_cons (pe_lstA (pa_cons pe_str (pa_cons pe_str (pa_cons pe_str pa_nil)))) pa_nil))) (pa_cons (pe_cmpR op_gtN (pe_cal C_law_draw hr (by first | decide | omega) (by rfl) (pa_cons (pv 0) (pa_cons pe_int pa_nil))) pe_int (nomark _)) pa_nil)) (by rfl))
    (pss_cons (ps_par (i := 6) (j := 7) rfl sc_law_few.nd rfl rfl (by decide) rfl rfl (pa_cons (pe_cal C_law_pick hr (by first | decide | omega) (by rfl) (pa_cons (pv 0) (pa_cons (pe_lstA (pa_cons pe_non (pa_cons pe_non (pa_cons pe_int (pa_cons pe_int (pa_cons pe_int pa_nil)))))) pa_nil))) (pa_cons (pe_tupA (pa_cons (pe_op op_addN pe_int (pe_cal C_law_draw hr (by first | decide | omega) (by rfl) (pa_cons (pv 0) (pa_cons pe_int pa_nil)))) (pa_cons (pe_op op_addN pe_int (pe_cal C_law_draw hr (by first | decide | omega) (by rfl) (pa_cons (pv 0) (pa_cons pe_int pa_nil)))) pa_nil))) pa_nil)) (by rfl))
    (pss_one (ps_ret (pe_tupA (pa_cons (pv 1) (pa_cons (pv 2) (pa_cons pe_int (pa_cons (pv 3) (pa_cons pe_int (pa_cons (pv 4) (pa_cons (pv 5) (pa_cons (pv 6) (pa_cons (pe_cal C_law_pick hr (by first | decide | omega) (by rfl) (pa_cons (pv 0) (pa_cons (pe_lstA (pa_cons pe_non (pa_cons pe_non (pa_cons (pv 7) pa_nil)))) pa_nil))) pa_nil))))))))))))))), ?_⟩
    -- work, room, tries
    refine ⟨_, rfl, a, 3, c, rfl, pa, by decide, by decide, by omega, fun H1 d1 b1 p1 hd1 => ⟨_, _, rfl, rfl, ?_⟩⟩
    refine ⟨_, rfl, a, 5, c + 1, rfl, p1, by decide, by decide, by omega, fun H2 d2 b2 p2 hd2 => ⟨_, _, rfl, rfl, ?_⟩⟩
    refine ⟨_, rfl, sz4, fun l4 H4 n4 e4 h4 => ?_⟩
    refine ⟨a, l4, c + 2, _, rfl, p2.ex e4, p2.ne n4, h4, by decide, by decide, by omega, fun H5 j5 v5 b5 p5 hv5 => ⟨_, _, _, rfl, ?_⟩⟩
    -- way, dead
    refine ⟨_, rfl, sz3, fun l6 H6 n6 e6 h6 => ?_⟩
    refine ⟨a, l6, c + 4, _, rfl, (p5.up (by omega)).ex e6, p5.ne n6, h6, by decide, by decide, by omega, fun H7 j7 v7 b7 p7 hv7 => ?_⟩
    refine ⟨_, rfl, a, 3, c + 5, rfl, p7, by decide, by decide, by omega, fun H8 d8 b8 p8 hd8 => ⟨_, _, rfl, rfl, _, _, rfl, ?_⟩⟩
    -- here, trip
    refine ⟨_, rfl, sz5, fun l9 H9 n9 e9 h9 => ?_⟩
    refine ⟨a, l9, c + 6, _, rfl, p8.ex e9, p8.ne n9, h9, by decide, by decide, by omega, fun H10 j10 v10 b10 p10 hv10 => ?_⟩
    refine ⟨_, rfl, a, 3, c + 7, rfl, p10, by decide, by decide, by omega, fun H11 d11 b11 p11 hd11 => ⟨_, _, rfl, rfl, ?_⟩⟩
    refine ⟨_, rfl, a, 3, c + 8, rfl, p11, by decide, by decide, by omega, fun H12 d12 b12 p12 hd12 => ⟨_, _, rfl, rfl, sz2, fun p13 H13 e13 h13 => ⟨_, _, rfl, ?_⟩⟩⟩
    -- return
    refine ⟨_, rfl, _, rfl, _, rfl, _, rfl, _, rfl, _, rfl, ?_⟩
    refine ⟨_, rfl, _, rfl, sz3, fun l15 H15 n15 e15 h15 => ?_⟩
    refine ⟨a, l15, c + 9, _, rfl, (p12.ex e13).ex e15, (p12.ex e13).ne n15, h15, by simp, by simp, by omega, fun H16 j16 v16 b16 p16 hv16 => ?_⟩
    refine ⟨sz9, fun p18 H18 e18 h18 => ?_⟩
    have h5 : ∃ t : Nat, v5 = vn t ∧ 1 ≤ t ∧ t ≤ 2 := by
      have := List.mem_of_getElem? hv5
      simp at this
      rcases this with rfl | rfl
      · exact ⟨1, rfl, by decide, by decide⟩
      · exact ⟨2, rfl, by decide, by decide⟩
    have h7 : ∃ nb : Bool, v7 = wayV nb := by
      have := List.mem_of_getElem? hv7
      simp at this
      rcases this with rfl | rfl
      · exact ⟨false, rfl⟩
      · exact ⟨true, rfl⟩
    obtain ⟨t, rfl, t1, t2⟩ := h5
    obtain ⟨nb, rfl⟩ := h7
    have bt : Bt a H H18 := (((((((((((b1.trans b2).trans (Bt.ofEx e4)).trans b5).trans (Bt.ofEx e6)).trans b7).trans b8).trans (Bt.ofEx e9)).trans b10).trans b11).trans b12).trans (Bt.ofEx (e13.trans e15))).trans (b16.trans (Bt.ofEx e18))
    exact k H18 p18 (1 + d1) (1 + d2) t nb (decide (d8 > 0)) v10 v16 bt ((p16.ex e18).up (by omega)) h18 (by omega) (by omega) (by omega) (by omega) t1 t2
end
end K46
/-! part W31 -/
set_option maxHeartbeats 600000
namespace K46
open PySem PySem.Spec PyProof.Rows L2 Evl
section
variable {P : Program} {w : World} {K : PySem.W.Frag} {mg : Str → Option Value} {base : Heap}
/-! _law_bare: 0 _law_pen_here -/
theorem sc_law_bare : FnScope ["_law_pen_here"] ["_law_pen_here"] (d_law_bare.scope) := ⟨rfl, rfl, rfl, by decide +kernel, rfl, by decide +kernel, by decide +kernel⟩
theorem c_law_bare (B : Bas w K mg) : Cal P w K mg base 4 "_law_bare" ["_law_pen_here"] (spMade Bare) := by
  have C_law_few := c_law_few (P := P) (base := base) B
  refine B.cal "_law_bare" 47 45 (d := d_law_bare) rfl rfl rfl rfl rfl sc_law_bare (fun vs H Q E h => ?_) (fun _ _ _ _ _ _ us hl => match us, hl with | [_], _ => rfl) (fun f cdv A outer s₀ H vs Q E hr h => ?_)
  · obtain ⟨a, c, rfl, _⟩ := h
    rfl
  · obtain ⟨a, c, rfl, pa, hc, k⟩ := h
    refine ⟨_, (pss_one (ps_ret (pe_op op_catB (pe_slice sl_tupB (pe_cal C_law_few hr (by first | decide | omega) (by rfl) (pa_cons (pv 0) pa_nil)) po_none (po_some pe_int)) (pe_tupA (pa_cons pe_non (pa_cons pe_non pa_nil)))))), ?_⟩
    refine ⟨_, rfl, a, c, rfl, pa, hc, fun H1 p wk rm tr nb de x y b1 p1 h1 w1 w2 r1 r2 t1 t2 => ?_⟩
    refine ⟨_, rfl, _, _, rfl, h1, fun p2 H2 e2 h2 => ?_⟩
    rw [show cutV [vn wk, vn rm, vn 1, vn tr, V.int 1, wayV nb, V.bl de, x, y] none (some 7) = [vn wk, vn rm, vn 1, vn tr, V.int 1, wayV nb, V.bl de] from cut_take _ 7 (by simp)] at h2
    refine ⟨sz2, fun p3 H3 e3 h3 => ?_⟩
    refine ⟨_, _, _, _, rfl, rfl, e3 _ _ h2, h3, sz9, fun p4 H4 e4 h4 => ?_⟩
    exact k H4 _ { work := wk, room := rm, pat := 1, tries := tr, newest := nb, dead := de, tok := none, fuse := none } (b1.trans (Bt.ofEx ((e2.trans e3).trans e4))) ((p1.ex ((e2.trans e3).trans e4))) ⟨p4, _, rfl, h4, _, _, rfl, rfl, _, _, rfl, rfl, _, _, rfl, rfl, _, _, rfl, rfl, _, _, rfl, rfl, _, _, rfl, rfl, _, _, rfl, rfl, _, _, rfl, rfl, _, _, rfl, rfl, rfl⟩ ⟨w1, w2, r1, r2, rfl, t1, t2, rfl, rfl⟩
end
end K46
/-! part W32 -/
set_option maxHeartbeats 600000
namespace K46
open PySem PySem.Spec PyProof.Rows L2 Evl
section
variable {P : Program} {w : World} {K : PySem.W.Frag} {mg : Str → Option Value} {base : Heap}
/-- what a row of fresh asks is answered -/
def anss (s : Setg) (ns : List Nat) : List Nat := (stps s (fst0 s) ns).map (·.ans)
def spAns : Sp := fun vs H Q _ => ∃ (s : Setg) (v : V) (a : Addr) (ns : List Nat), vs = [v, .ref a] ∧ Rp H s.da v ∧ SetOk s ∧ H a = some (.tup (ns.map vn)) ∧ ns.length ≤ 200 ∧ (∀ n ∈ ns, n ≤ 999) ∧
  ∀ H' p, Ex H H' → H p = none → H' p = some (.lst ((anss s ns).map vn)) → Q (.ref p) H'
/-! _law_answers: 0 _law_setting, 1 _law_row, 2 _law_told -/
theorem sc_law_answers : FnScope ["_law_setting", "_law_row", "_law_told"] ["_law_setting", "_law_row"] (d_law_answers.scope) := ⟨rfl, rfl, rfl, by decide +kernel, rfl, by decide +kernel, by decide +kernel⟩
theorem c_law_answers (B : Bas w K mg) : Cal P w K mg base 7 "_law_answers" ["_law_setting", "_law_row"] spAns := by
  have C_run := c_run (P := P) (base := base) B
  have C_first_state := c_first_state (P := P) (base := base) B
  refine B.cal "_law_answers" 48 46 (d := d_law_answers) rfl rfl rfl rfl rfl sc_law_answers (fun vs H Q E h => ?_) (fun _ _ _ _ _ _ us hl => match us, hl with | [_, _], _ => rfl) (fun f cdv A outer s₀ H vs Q E hr h => ?_)
  · obtain ⟨s, v, a, ns, rfl, _⟩ := h
    rfl
  · obtain ⟨s, v, a, ns, rfl, r1, O, ha, hl, hn, k⟩ := h
    refine ⟨_, (pss_one (ps_ret (pe_lc (own := [("_law_told", 2)]) (g := gName 2) (by rfl) sc_law_answers.nd (pi_tup (pe_cal C_run hr (by first | decide | omega) (by rfl) (pa_cons (pv 0) (pa_cons (pe_cal C_first_state hr (by first | decide | omega) (by rfl) (pa_cons (pv 0) pa_nil)) (pa_cons (pv 1) pa_nil))))) (blkOk_by (own := [("_law_told", 2)]) (N := ["_law_setting", "_law_row", "_law_told"]) (sc := d_law_answers.scope) (by decide +kernel)) (fun _ _ _ _ _ => (pg_name (i := 2) sc_law_answers.nd rfl (Or.inl rfl))) (fun _ _ _ _ _ => pts_nil) (fun _ _ _ _ _ => (pe_ixk (pv 2)))))), ?_⟩
    refine ⟨_, rfl, _, rfl, s, v, rfl, r1, O, fun H1 z e1 hz => ?_⟩
    refine ⟨_, rfl, s, v, z, a, ns, rfl, r1.mono (tm_ex e1), hz, O, e1 _ _ ha, hl, hn, fun H2 p2 ys e2 h2 ry => ?_⟩
    have hyl : ys.length = (stps s (fst0 s) ns).length := by rw [ry.length, List.length_map]
    have hsl := stps_len s ns (fst0 s)
    refine ⟨_, rfl, ⟨_, SqT.of h2⟩, fun D nD => lcT (fun i => (((stps s (fst0 s) ns).take i).map (·.ans)).map vn) h2 rfl (fun i hi => by rw [List.length_map, List.length_map, List.length_take, sizeLine_eq]; omega) (fun i x H3 hx e3 R N hR hN => ?_) nD (fun H3 e3 h3 => ?_)⟩
    · obtain ⟨d, hd, rx⟩ := ry.get' hx
      rw [List.getElem?_map] at hd
      obtain ⟨t, ht, rfl⟩ := Option.map_eq_some_iff.mp hd
      obtain ⟨at_, wv, rfl, hat, _⟩ := rp_told (rx.mono (tm_ex e3))
      refine ⟨rfl, yesT ?_⟩
      refine ⟨_, rfl, _, _, _, rfl, hat, rfl, ?_⟩
      exact hR _ _ (Ex.refl _) (by dsimp only; rw [List.take_add_one, ht, List.map_append, List.map_append]; rfl)
    · rw [hyl, List.take_length] at h3
      have nD0 : H D = none := none_back (e1.trans e2) nD
      exact k H3 D ((e1.trans e2).trans e3) nD0 h3
end
end K46
/-! part W33 -/
set_option maxHeartbeats 600000
namespace K46
open PySem PySem.Spec PyProof.Rows L2 Evl
section
variable {P : Program} {w : World} {K : PySem.W.Frag} {mg : Str → Option Value} {base : Heap}
/-- settings without a queue: what they share -/
structure NoQ (wk : Nat) (tk : Option Nat) (s : Setg) : Prop where
  w : s.work = wk
  r : s.room = min wk 2
  p1 : 1 ≤ s.pat
  p4 : s.pat ≤ 4
  t : s.tries = 2
  k : s.tok = tk
  f : s.fuse = none
def spNoQ : Sp := fun vs H Q _ => ∃ (a : Addr) (c : Nat), vs = [.ref a] ∧ PenAt H a c ∧ c ≤ 50000 ∧ ∀ H' p wk tk v1 v2 s t, Bt a H H' → PenAt H' a (c + 20) → H' p = some (.lst [v1, v2]) → Rp H' (Setg.da s) v1 → Rp H' (Setg.da t) v2 → 1 ≤ wk → wk ≤ 3 → (∀ n, tk = some n → n ≤ 2) → NoQ wk tk s → NoQ wk tk t → Q (.ref p) H'
/-! _law_no_queue: 0 _law_pen_here, 1 _law_work, 2 _law_tries, 3 _law_here, 4 _law_found, 5 _law_turn, 6 _law_way, 7 _law_dead -/
theorem sc_law_no_queue : FnScope ["_law_pen_here", "_law_work", "_law_tries", "_law_here", "_law_found", "_law_turn", "_law_way", "_law_dead"] ["_law_pen_here"] (d_law_no_queue.scope) := ⟨rfl, rfl, rfl, by decide +kernel, rfl, by decide +kernel, by decide +kernel⟩
theorem c_law_no_queue (B : Bas w K mg) : Cal P w K mg base 3 "_law_no_queue" ["_law_pen_here"] spNoQ := by
  have C_law_pick := c_law_pick (P := P) (base := base) B
  have C_law_draw := c_law_draw (P := P) (base := base) B
  refine B.cal "_law_no_queue" 50 48 (d := d_law_no_queue) rfl rfl rfl rfl rfl sc_law_no_queue (fun vs H Q E h => ?_) (fun _ _ _ _ _ _ us hl => match us, hl with | [_], _ => rfl) (fun f cdv A outer s₀ H vs Q E hr h => ?_)
  · obtain ⟨a, c, rfl, _⟩ := h
    rfl
  · obtain ⟨a, c, rfl, pa, hc, k⟩ := h
    refine ⟨_, (pss_cons (ps_par3 (i := 1) (j := 2) (l := 3) rfl sc_law_no_queue.nd rfl rfl rfl (by decide) (by decide) (by decide) rfl rfl rfl (pa_cons (pe_op op_addN pe_int (pe_cal C_law_draw hr (by first | decide | omega) (by rfl) (pa_cons (pv 0) (pa_cons pe_int pa_nil)))) (pa_cons pe_int (pa_cons (pe_cal C_law_pick hr (by first | decide | omega) (by rfl) (pa_cons (pv 0) (pa_cons (pe_lstA (pa_cons pe_non (pa_cons pe_int (pa_cons pe_int (pa_cons pe_int pa_nil))))) pa_nil))) pa_nil))) (by rfl))
    (pss_cons (ps_set (i := 4) sc_law_no_queue.nd rfl (Or.inl rfl) (pe_lstA pa_nil))
    (pss_cons (ps_for PassesOwn.never rfl (pi_range1 (by rfl) (B.free 81) (pa_cons pe_int pa_nil)) (pg_name (i := 5) sc_law_no_queue.nd rfl (Or.inl rfl))
      (pss_cons (ps_par (i := 6) (j := 7) rfl sc_law_no_queue.nd rfl rfl (by decide) rfl rfl (pa_cons (pe_cal C_law_pick hr (by first | decide | omega) (by rfl) (pa_cons (pv 0) (pa_cons (pe_lstA (pa_cons pe_str (pa_cons pe_str pa_nil))) pa_nil))) (pa_cons (pe_cmpR op_eqN (pe_cal C_law_draw hr (by first | decide | omega) (by rfl) (pa_cons (pv 0) (pa_cons pe_int pa_nil))) pe_int (nomark _)) pa_nil)) (by rfl))
      (pss_one (ps_expr (pe_bm PySem.F.plainAttrs_list PySem.F.slot_list_append PySem.F.type_list_append mt_appB (pv 4) (pa_cons (pe_tupA (pa_cons (pv 1) (pa_cons (pe_callB (call_minN rfl) (by rfl) (B.free 78) boot_min (pa_cons (pv 1) (pa_cons pe_int pa_nil))) (pa_cons (pe_op op_addN pe_int (pe_cal C_law_draw hr (by first | decide | omega) (by rfl) (pa_cons (pv 0) (pa_cons pe_int pa_nil)))) (pa_cons (pv 2) (pa_cons pe_int (pa_cons (pv 6) (pa_cons (pv 7) (pa_cons (pv 3) (pa_cons pe_non pa_nil)))))))))) pa_nil))))))
    (pss_one (ps_ret (pv 4)))))), ?_⟩
    refine ⟨_, rfl, a, 3, c, rfl, pa, by decide, by decide, by omega, fun H1 d1 b1 p1 hd1 => ⟨_, _, rfl, rfl, ?_⟩⟩
    refine ⟨_, rfl, sz4, fun l4 H4 n4 e4 h4 => ?_⟩
    refine ⟨a, l4, c + 1, _, rfl, p1.ex e4, p1.ne n4, h4, by decide, by decide, by omega, fun H5 j5 v5 b5 p5 hv5 => ⟨_, _, _, rfl, ?_⟩⟩
    have h5 : ∃ tk : Option Nat, v5 = tokV tk ∧ ∀ n, tk = some n → n ≤ 2 := by
      have := List.mem_of_getElem? hv5
      simp at this
      rcases this with rfl | rfl | rfl | rfl
      · exact ⟨none, rfl, fun n h => by cases h⟩
      · exact ⟨some 0, rfl, fun n h => by cases h; decide⟩
      · exact ⟨some 1, rfl, fun n h => by cases h; decide⟩
      · exact ⟨some 2, rfl, fun n h => by cases h; decide⟩
    obtain ⟨tk, rfl, htk⟩ := h5
    refine ⟨sz0, fun pf H6 n6 e6 h6 => ?_⟩
    have bt6 : Bt a H H6 := ((b1.trans (Bt.ofEx e4)).trans b5).trans (Bt.ofEx e6)
    have hpa : pf ≠ a := Ne.symm (p5.ne n6)
    have mpf : H pf = none := by
      have h5n : H5 pf = none := n6
      cases h : H pf with
      | none => rfl
      | some o =>
        have := (((b1.trans (Bt.ofEx e4)).trans b5)) _ _ hpa h
        rw [this] at h5n; cases h5n
    refine ⟨2, rfl, by decide, by decide, for_rangeN (n := 2)
      (fun i σ H' => ∃ (ss : List Setg) (vs : List V) (u5 u6 u7 : Option V), σ = [some (.ref a), some (vn (1 + d1)), some (vn 2), some (tokV tk), some (.ref pf), u5, u6, u7] ∧ Bt a H H' ∧ PenAt H' a (c + 2 + 3 * i) ∧ H' pf = some (.lst vs) ∧ RpL H' (ss.map Setg.da) vs ∧ ss.length = i ∧ ∀ s ∈ ss, NoQ (1 + d1) tk s)
      ⟨[], [], none, none, none, rfl, bt6, p5.ex e6, h6, rfl, rfl, fun s h => by cases h⟩ ?_ ?_⟩
    · rintro i σ H7 hi ⟨ss, vs, u5, u6, u7, rfl, bt7, pp7, h7, rv7, hl7, hno⟩
      refine ⟨_, rfl, sz2, fun l8 H8 n8 e8 h8 => ?_⟩
      refine ⟨a, l8, c + 2 + 3 * i, _, rfl, pp7.ex e8, pp7.ne n8, h8, by decide, by decide, by omega, fun H9 j9 v9 b9 p9 hv9 => ?_⟩
      refine ⟨_, rfl, a, 2, c + 2 + 3 * i + 1, rfl, p9, by decide, by decide, by omega, fun H10 d10 b10 p10 hd10 => ⟨_, _, rfl, rfl, _, _, rfl, ?_⟩⟩
      have h9 : ∃ nb : Bool, v9 = wayV nb := by
        have := List.mem_of_getElem? hv9
        simp at this
        rcases this with rfl | rfl
        · exact ⟨false, rfl⟩
        · exact ⟨true, rfl⟩
      obtain ⟨nb, rfl⟩ := h9
      have bb : Bt a H7 H10 := ((Bt.ofEx e8).trans b9).trans b10
      have h10 := bb _ _ hpa h7
      have tm10 : Tm H7 H10 := by
        obtain ⟨xs, hx⟩ := pp7.lst
        exact bb.tm hx
      refine ⟨_, rfl, Or.inl ⟨rfl, _, SqL.of h10⟩, ?_⟩
      refine ⟨_, rfl, _, rfl, _, _, rfl, _, rfl, a, 4, c + 2 + 3 * i + 2, rfl, p10, by decide, by decide, by omega, fun H11 d11 b11 p11 hd11 => ⟨_, _, rfl, rfl, _, rfl, _, rfl, _, rfl, _, rfl, sz9, fun p12 H12 e12 h12 => ?_⟩⟩
      have h12f := e12 _ _ (b11 _ _ hpa h10)
      have hvl : vs.length < sizeLine := by rw [rv7.length, List.length_map, hl7, sizeLine_eq]; omega
      refine ⟨_, _, _, rfl, rfl, h12f, hvl, fun H13 b13 h13 => ?_⟩
      have tm13 : Tm H12 H13 := b13.tm h12f
      have tm1012 : Tm H10 H12 := by
        obtain ⟨xs, hx⟩ := p10.lst
        exact (b11.tm hx).trans (tm_ex e12)
      have bt13 : Bt a H H13 := bt_new ((((bt7.trans bb).trans b11).trans (Bt.ofEx e12))) mpf b13
      have p13 : PenAt H13 a (c + 2 + 3 * (i + 1)) := by
        obtain ⟨b', n', c', q1, q2, q3⟩ := p11.ex e12
        exact ⟨b', n', c', b13 _ _ (Ne.symm hpa) q1, q2, by omega⟩
      refine ⟨ss ++ [{ work := 1 + d1, room := min (1 + d1) 2, pat := 1 + d11, tries := 2, newest := nb, dead := decide (d10 = 0), tok := tk, fuse := none }], _, _, _, _, rfl, bt13, p13, h13, ?_, by simp [hl7], fun s hs => ?_⟩
      · rw [List.map_append]
        refine (rv7.mono ((tm10.trans tm1012).trans tm13)).append ⟨_, [], rfl, ⟨p12, _, rfl, tm13 _ _ h12, _, _, rfl, rfl, _, _, rfl, rfl, _, _, rfl, rfl, _, _, rfl, rfl, _, _, rfl, rfl, _, _, rfl, rfl, _, _, rfl, rfl, _, _, rfl, ?_, _, _, rfl, rfl, rfl⟩, rfl⟩
        cases tk with
        | none => rfl
        | some n => rfl
      · rcases List.mem_append.mp hs with z | z
        · exact hno s z
        · rw [List.mem_singleton.mp z]
          exact ⟨rfl, rfl, by show 1 ≤ 1 + d11; omega, by show 1 + d11 ≤ 4; omega, rfl, rfl, rfl⟩
    · rintro σ H7 ⟨ss, vs, u5, u6, u7, rfl, bt7, pp7, h7, rv7, hl7, hno⟩
      match ss, hl7 with
      | [s, t], _ =>
        obtain ⟨v1, r, rfl, q1, v2, r2, rfl, q2, q3⟩ := rv7
        cases (show r2 = [] from q3)
        exact ⟨_, rfl, k H7 pf (1 + d1) tk v1 v2 s t bt7 (pp7.up (by omega)) h7 q1 q2 (by omega) (by omega) htk (hno s (by simp)) (hno t (by simp))⟩
end
end K46
/-! part W34 -/
set_option maxHeartbeats 600000
namespace K46
open PySem PySem.Spec PyProof.Rows L2 Evl
section
variable {P : Program} {w : World} {K : PySem.W.Frag} {mg : Str → Option Value} {base : Heap}
def spCell (K : PySem.W.Frag) : Sp := fun vs H Q _ => ∃ (a : Addr) (k : Nat) (ns : List Int), vs = [.ref a, vn k] ∧ SqL K H a (ns.map V.int) ∧ ns.length ≤ 63 ∧ ∀ z : Int, Q (.int z) H
/-! _law_cell_at: 0 _law_script, 1 _law_k -/
theorem sc_law_cell_at : FnScope ["_law_script", "_law_k"] ["_law_script", "_law_k"] (d_law_cell_at.scope) := ⟨rfl, rfl, rfl, by decide +kernel, rfl, by decide +kernel, by decide +kernel⟩
theorem c_law_cell_at (B : Bas w K mg) : Cal P w K mg base 1 "_law_cell_at" ["_law_script", "_law_k"] (spCell K) := by
  refine B.cal "_law_cell_at" 44 42 (d := d_law_cell_at) rfl rfl rfl rfl rfl sc_law_cell_at (fun vs H Q E h => ?_) (fun _ _ _ _ _ _ us hl => match us, hl with | [_, _], _ => rfl) (fun f cdv A outer s₀ H vs Q E hr h => ?_)
  · obtain ⟨a, k, ns, rfl, _⟩ := h
    rfl
  · obtain ⟨a, k, ns, rfl, hs, hl, q⟩ := h
    refine ⟨_, (pss_cons (ps_if (pt_cmpR op_lt (pv 1) (pe_callB call_len (by rfl) (B.free 74) boot_len (pa_cons (pv 0) pa_nil)) (nomark _))
      (pss_one (ps_ret (pe_ix ix_list (pv 0) (pv 1) (fun _ _ => rfl))))
      pss_nil)
    (pss_one (ps_ret pe_int))), ?_⟩
    refine ⟨_, rfl, _, rfl, _, _, rfl, Or.inl ⟨_, hs, rfl⟩, _, _, rfl, rfl, _, rfl, ?_⟩
    by_cases hk : (k : Int) < ((ns.map V.int).length : Nat)
    · refine iT (decide_eq_true hk) ?_
      have hk2 : k < ns.length := by rw [List.length_map] at hk; omega
      refine ⟨_, rfl, _, rfl, a, _, k, .int ns[k], rfl, rfl, hs, atI_nat (by rw [List.getElem?_map, List.getElem?_eq_getElem hk2]; rfl), q _⟩
    · refine iF (decide_eq_false hk) ?_
      exact q 0
end
end K46
/-! part W35 -/
set_option maxHeartbeats 600000
namespace K46
open PySem PySem.Spec PyProof.Rows L2 Evl
/-! ### breadth first: how deep -/
section
variable {α τ : Type} [DecidableEq α]
/-- what a row leads to lies not behind the row's own children -/
def EdOk (bs : List (Option (Nat × Nat))) (i : Nat) (row : List (τ × Nat)) : Prop := ∀ r ∈ row, r.2 < bs.length ∧ ∀ p, bs[r.2]? = some (some p) → p.1 ≤ i
theorem EdOk.app {bs : List (Option (Nat × Nat))} {i : Nat} {row : List (τ × Nat)} (h : EdOk bs i row) (c : Option (Nat × Nat)) : EdOk (bs ++ [c]) i row := fun r hr => by
  obtain ⟨h1, h2⟩ := h r hr
  refine ⟨by simp; omega, fun p hp => h2 p ?_⟩
  rw [List.getElem?_append_left h1] at hp
  exact hp
structure BMon (bs : List (Option (Nat × Nat))) (n : Nat) : Prop where
  mono : ∀ (i j : Nat) p q, i ≤ j → bs[i]? = some (some p) → bs[j]? = some (some q) → p.1 ≤ q.1
  top : ∀ (j : Nat) p, bs[j]? = some (some p) → p.1 ≤ n
theorem BMon.app {bs : List (Option (Nat × Nat))} {n k : Nat} (h : BMon bs n) : BMon (bs ++ [some (n, k)]) n := by
  have key : ∀ (j : Nat) q, (bs ++ [some (n, k)])[j]? = some (some q) → (j < bs.length ∧ bs[j]? = some (some q)) ∨ (j = bs.length ∧ q = (n, k)) := fun j q hq => by
    by_cases hj : j < bs.length
    · rw [List.getElem?_append_left hj] at hq; exact .inl ⟨hj, hq⟩
    · have hl := (List.getElem?_eq_some_iff.mp hq).1
      simp at hl
      have e : j = bs.length := by omega
      subst e
      rw [List.getElem?_append_right (Nat.le_refl _)] at hq
      simp at hq
      exact .inr ⟨rfl, hq.symm⟩
  refine ⟨fun i j p q hij hi hj => ?_, fun j p hj => ?_⟩
  · rcases key i p hi with ⟨a, b⟩ | ⟨a, b⟩
    · rcases key j q hj with ⟨c, d⟩ | ⟨c, d⟩
      · exact h.mono i j p q hij b d
      · rw [d]; exact h.top i p b
    · rcases key j q hj with ⟨c, d⟩ | ⟨c, d⟩
      · omega
      · rw [b, d]; exact Nat.le_refl _
  · rcases key j p hj with ⟨a, b⟩ | ⟨a, b⟩
    · exact h.top j p b
    · rw [b]; exact Nat.le_refl _
structure BDep (b : BF α τ) (n : Nat) : Prop where
  len : b.before.length = b.nodes.length
  mon : BMon b.before n
  ed : ∀ (i : Nat) row, b.edges[i]? = some row → EdOk b.before i row
theorem bfIn_dep {go : α → Nat → τ × α} {n : Nat} {x : α} {acc : BA α τ} {k : Nat} (hl : acc.1.2.length = acc.1.1.length) (hm : BMon acc.1.2 n) (he : EdOk acc.1.2 n acc.2) :
    (bfIn go n x acc k).1.2.length = (bfIn go n x acc k).1.1.length ∧ BMon (bfIn go n x acc k).1.2 n ∧ EdOk (bfIn go n x acc k).1.2 n (bfIn go n x acc k).2 ∧ ∀ i (row : List (τ × Nat)), EdOk acc.1.2 i row → EdOk (bfIn go n x acc k).1.2 i row := by
  unfold bfIn
  by_cases h : (go x k).2 ∈ acc.1.1
  · rw [if_pos h]
    refine ⟨hl, hm, fun r hr => ?_, fun i row h => h⟩
    rcases List.mem_append.mp hr with hr | hr
    · exact he r hr
    · rw [List.mem_singleton.mp hr]
      exact ⟨by rw [hl]; exact List.idxOf_lt_length_iff.mpr h, fun p hp => hm.top _ p hp⟩
  · rw [if_neg h]
    refine ⟨by simp [hl], hm.app, fun r hr => ?_, fun i row h => h.app _⟩
    rcases List.mem_append.mp hr with hr | hr
    · exact he.app _ r hr
    · rw [List.mem_singleton.mp hr]
      exact ⟨by simp [hl], fun p hp => hm.app.top _ p hp⟩
theorem bfFold_dep {go : α → Nat → τ × α} {n : Nat} {x : α} {b : BF α τ} (hl : b.before.length = b.nodes.length) (hm : BMon b.before n) : ∀ k,
    (bfFold go n x b k).1.2.length = (bfFold go n x b k).1.1.length ∧ BMon (bfFold go n x b k).1.2 n ∧ EdOk (bfFold go n x b k).1.2 n (bfFold go n x b k).2 ∧ ∀ i (row : List (τ × Nat)), EdOk b.before i row → EdOk (bfFold go n x b k).1.2 i row
  | 0 => ⟨hl, hm, fun r hr => (by cases hr), fun i row h => h⟩
  | k + 1 => by
    obtain ⟨h1, h2, h3, h4⟩ := bfFold_dep (go := go) (x := x) hl hm k
    rw [bfFold_succ]
    obtain ⟨g1, g2, g3, g4⟩ := bfIn_dep (go := go) (x := x) (k := k) h1 h2 h3
    exact ⟨g1, g2, g3, fun i row h => g4 i row (h4 i row h)⟩
theorem bf_dep (go : α → Nat → τ × α) (m : Nat) (first : α) : ∀ n, (∀ i, i < n → i < (bf go m first i).nodes.length) → BDep (bf go m first n) n
  | 0, _ => ⟨rfl, ⟨fun i j p q _ hi _ => by cases i <;> simp [bf] at hi, fun j p hj => by cases j <;> simp [bf] at hj⟩, fun i row h => by simp [bf] at h⟩
  | n + 1, hl => by
    have ih := bf_dep go m first n fun i hi => hl i (by omega)
    have hel := (bf_all (go := go) (m := m) (first := first) n fun i hi => hl i (by omega)).el
    obtain ⟨x, hx⟩ : ∃ x, (bf go m first n).nodes[n]? = some x := ⟨_, List.getElem?_eq_getElem (hl n (Nat.lt_succ_self n))⟩
    obtain ⟨h1, h2, h3, h4⟩ := bfFold_dep (go := go) (x := x) ih.len ih.mon (m + 1)
    rw [bf_succ hx]
    refine ⟨h1, ⟨h2.mono, fun j p hj => Nat.le_succ_of_le (h2.top j p hj)⟩, fun i row hi => ?_⟩
    dsimp only at hi ⊢
    by_cases hin : i < n
    · rw [List.getElem?_append_left (by rw [hel]; exact hin)] at hi
      exact h4 i row (ih.ed i row hi)
    · have hle := (List.getElem?_eq_some_iff.mp hi).1
      simp [hel] at hle
      have : i = n := by omega
      subst this
      rw [List.getElem?_append_right (by rw [hel]; exact Nat.le_refl _), hel] at hi
      simp at hi
      subst hi
      exact h3
/-- a whole graph -/
structure Whole (go : α → Nat → τ × α) (m : Nat) (first : α) (N : Nat) : Prop where
  all : BAll go m first N
  len : (bf go m first N).nodes.length = N
  dep : BDep (bf go m first N) N
  nd : (bf go m first N).nodes.Nodup
theorem bf_stay (go : α → Nat → τ × α) (m : Nat) (first : α) {n : Nat} (h : (bf go m first n).nodes.length ≤ n) : ∀ k, bf go m first (n + k) = bf go m first n
  | 0 => rfl
  | k + 1 => by
    have ih := bf_stay go m first h k
    show bfRow go m (n + k) (bf go m first (n + k)) = _
    rw [ih]
    unfold bfRow
    rw [List.getElem?_eq_none (by omega)]
theorem bf_one (go : α → Nat → τ × α) (m : Nat) (first : α) {n n' : Nat} (h : (bf go m first n).nodes.length = n) (h' : (bf go m first n').nodes.length = n') : n = n' := by
  rcases Nat.le_total n n' with l | l
  · have e := bf_stay go m first (Nat.le_of_eq h) (n' - n)
    rw [Nat.add_sub_cancel' l] at e
    rw [e] at h'; omega
  · have e := bf_stay go m first (Nat.le_of_eq h') (n - n')
    rw [Nat.add_sub_cancel' l] at e
    rw [e] at h; omega
/-- all that was turned was there -/
theorem bf_lt (go : α → Nat → τ × α) (m : Nat) (first : α) {n : Nat} (h : (bf go m first n).nodes.length = n) (i : Nat) (hi : i < n) : i < (bf go m first i).nodes.length := by
  refine Nat.lt_of_not_le fun z => ?_
  have e := bf_stay go m first z (n - i)
  rw [Nat.add_sub_cancel' (Nat.le_of_lt hi)] at e
  rw [e] at h
  omega
section
variable {go : α → Nat → τ × α} {m : Nat} {first : α} {N : Nat}
theorem Whole.of {S : List α} (h0 : first ∈ S) (hc : ∀ x ∈ S, ∀ n, n ≤ m → (go x n).2 ∈ S) (h : (bf go m first N).nodes.length = N) : Whole go m first N :=
  ⟨bf_all N (bf_lt go m first h), h, bf_dep go m first N (bf_lt go m first h), (bf_in h0 hc N).nd⟩
theorem Whole.par (h : Whole go m first N) : Par (bf go m first N).before := par_ofS h.all.snd
abbrev depth (b : BF α τ) (a : Nat) : Nat := (pathTo b.before a).length
theorem Whole.d0 (h : Whole go m first N) : pathTo (bf go m first N).before 0 = [] := pathTo_none h.all.snd.z
theorem Whole.N0 (h : Whole go m first N) : 0 < N := by
  have := (List.getElem?_eq_some_iff.mp h.all.snd.f).1
  have := h.len
  omega
theorem Whole.dmono (h : Whole go m first N) : ∀ (j : Nat), j < N → ∀ i, i ≤ j → depth (bf go m first N) i ≤ depth (bf go m first N) j := by
  intro j
  induction j using Nat.strongRecOn with
  | ind j ih =>
    intro hj i hij
    by_cases hi : i = 0
    · subst hi
      unfold depth
      rw [h.d0]
      exact Nat.zero_le _
    · have hl := h.len
      obtain ⟨p, x, p1, p2, p3, p4, p5⟩ := h.all.snd.s i (by omega) (by omega)
      obtain ⟨q, y, q1, q2, q3, q4, q5⟩ := h.all.snd.s j (by omega) (by omega)
      have := ih q.1 q2 (by omega) p.1 (h.dep.mon.mono i j p q hij p1 q1)
      unfold depth at this ⊢
      rw [pathTo_some h.par p1, pathTo_some h.par q1, List.length_append, List.length_append]
      simp only [List.length_cons, List.length_nil]
      omega
/-- a step leads at most one deeper -/
theorem Whole.step (h : Whole go m first N) {i : Nat} {x : α} (hx : (bf go m first N).nodes[i]? = some x) {n : Nat} (hn : n ≤ m) :
    ∃ row e, (bf go m first N).edges[i]? = some row ∧ row[n]? = some e ∧ e.1 = (go x n).1 ∧ (bf go m first N).nodes[e.2]? = some (go x n).2 ∧ depth (bf go m first N) e.2 ≤ depth (bf go m first N) i + 1 := by
  have hi : i < N := by rw [← h.len]; exact (List.getElem?_eq_some_iff.mp hx).1
  obtain ⟨row, hrow⟩ : ∃ row, (bf go m first N).edges[i]? = some row := ⟨_, List.getElem?_eq_getElem (by rw [h.all.el]; exact hi)⟩
  obtain ⟨hl, x', hx', ok⟩ := h.all.e i row hrow
  rw [hx] at hx'; cases hx'
  obtain ⟨e, he⟩ : ∃ e, row[n]? = some e := ⟨_, List.getElem?_eq_getElem (by omega)⟩
  obtain ⟨e1, e2⟩ := ok n e he
  refine ⟨row, e, hrow, he, e1, e2, ?_⟩
  obtain ⟨d1, d2⟩ := h.dep.ed i row hrow e (List.mem_of_getElem? he)
  by_cases h0 : e.2 = 0
  · rw [h0]
    unfold depth
    rw [h.d0]
    exact Nat.zero_le _
  · have hl := h.len
    have hd := h.dep.len
    obtain ⟨p, y, p1, p2, p3, p4, p5⟩ := h.all.snd.s e.2 (by omega) (by omega)
    have hp := d2 p p1
    have := h.dmono i hi p.1 hp
    unfold depth at this ⊢
    rw [pathTo_some h.par p1, List.length_append]
    simp only [List.length_cons, List.length_nil]
    omega
end
end
/-! ### what a row tells -/
section
variable {α τ : Type}
def outs (go : α → Nat → τ × α) : α → List Nat → List τ
  | _, [] => []
  | x, n :: r => (go x n).1 :: outs go (go x n).2 r
def ends (go : α → Nat → τ × α) : α → List Nat → α
  | x, [] => x
  | x, n :: r => ends go (go x n).2 r
theorem outs_len (go : α → Nat → τ × α) : ∀ (r : List Nat) (x : α), (outs go x r).length = r.length
  | [], _ => rfl
  | n :: r, x => by rw [outs, List.length_cons, outs_len go r, List.length_cons]
theorem outs_app (go : α → Nat → τ × α) : ∀ (r q : List Nat) (x : α), outs go x (r ++ q) = outs go x r ++ outs go (ends go x r) q
  | [], _, _ => rfl
  | n :: r, q, x => by rw [List.cons_append, outs, outs_app go r, outs, ends, List.cons_append]
theorem ends_app (go : α → Nat → τ × α) : ∀ (r q : List Nat) (x : α), ends go x (r ++ q) = ends go (ends go x r) q
  | [], _, _ => rfl
  | n :: r, q, x => by rw [List.cons_append, ends, ends_app go r, ends]
variable [DecidableEq α] {go : α → Nat → τ × α} {m : Nat} {first : α} {N : Nat}
/-- the way to a node leads there, by nodes ahead of it -/
theorem Whole.path (h : Whole go m first N) : ∀ (j : Nat) (x : α), (bf go m first N).nodes[j]? = some x → ends go first (pathTo (bf go m first N).before j) = x ∧ (∀ n ∈ pathTo (bf go m first N).before j, n ≤ m) ∧
    ∀ o ∈ outs go first (pathTo (bf go m first N).before j), ∃ (i : Nat) (row : List (τ × Nat)) (e : τ × Nat), i < j ∧ (bf go m first N).edges[i]? = some row ∧ e ∈ row ∧ e.1 = o := by
  intro j
  induction j using Nat.strongRecOn with
  | ind j ih =>
    intro x hx
    have hjN := (List.getElem?_eq_some_iff.mp hx).1
    by_cases hj : j = 0
    · subst hj
      rw [h.d0]
      have := h.all.snd.f
      rw [hx] at this; cases this
      exact ⟨rfl, fun n hn => by simp at hn, fun o ho => by simp [outs] at ho⟩
    · obtain ⟨p, y, p1, p2, p3, p4, p5⟩ := h.all.snd.s j (by omega) hjN
      obtain ⟨i1, i2, i3⟩ := ih p.1 p2 y p4
      rw [hx] at p5; cases p5
      rw [pathTo_some h.par p1]
      refine ⟨by rw [ends_app, i1]; rfl, fun n hn => ?_, fun o ho => ?_⟩
      · rcases List.mem_append.mp hn with hn | hn
        · exact i2 n hn
        · rw [List.mem_singleton.mp hn]; exact p3
      · rw [outs_app, i1] at ho
        rcases List.mem_append.mp ho with ho | ho
        · obtain ⟨i, row, e, a, b, c, d⟩ := i3 o ho
          exact ⟨i, row, e, by omega, b, c, d⟩
        · obtain ⟨row, e, a, b, c, d, _⟩ := h.step p4 p3
          rw [show outs go y [p.2] = [(go y p.2).1] from rfl] at ho
          rw [List.mem_singleton.mp ho]
          exact ⟨p.1, row, e, p2, a, List.mem_of_getElem? b, c⟩
/-- a row leads not deeper than it is long -/
theorem Whole.walk (h : Whole go m first N) : ∀ (r : List Nat) (i : Nat) (x : α), (bf go m first N).nodes[i]? = some x → (∀ n ∈ r, n ≤ m) → ∃ j : Nat, (bf go m first N).nodes[j]? = some (ends go x r) ∧ depth (bf go m first N) j ≤ depth (bf go m first N) i + r.length
  | [], i, x, hx, _ => ⟨i, hx, Nat.le_refl _⟩
  | n :: r, i, x, hx, hr => by
    obtain ⟨row, e, a, b, c, d, f⟩ := h.step hx (hr n (List.mem_cons_self ..))
    obtain ⟨j, j1, j2⟩ := h.walk r e.2 _ d fun k hk => hr k (List.mem_cons_of_mem _ hk)
    exact ⟨j, j1, by rw [List.length_cons]; omega⟩
end
end K46
/-! part W36 -/
set_option maxHeartbeats 600000
namespace K46
open PySem PySem.Spec PyProof.Rows L2 Evl
/-! ### rows that tell states apart are short (Moore) -/
section
variable {γ τ : Type} [DecidableEq γ]
def Agr (go : γ → Nat → τ × γ) (m k : Nat) (x y : γ) : Prop := ∀ r : List Nat, r.length ≤ k → (∀ n ∈ r, n ≤ m) → outs go x r = outs go y r
variable {go : γ → Nat → τ × γ} {m : Nat}
theorem Agr.refl (k : Nat) (x : γ) : Agr go m k x x := fun _ _ _ => rfl
theorem Agr.symm {k : Nat} {x y : γ} (h : Agr go m k x y) : Agr go m k y x := fun r a b => (h r a b).symm
theorem Agr.trans {k : Nat} {x y z : γ} (h : Agr go m k x y) (h' : Agr go m k y z) : Agr go m k x z := fun r a b => (h r a b).trans (h' r a b)
theorem Agr.less {k j : Nat} {x y : γ} (h : Agr go m k x y) (hj : j ≤ k) : Agr go m j x y := fun r a b => h r (by omega) b
theorem agr_zero (x y : γ) : Agr go m 0 x y := fun r a _ => by
  cases r with
  | nil => rfl
  | cons n r => simp at a
theorem agr_succ {k : Nat} {x y : γ} : Agr go m (k + 1) x y ↔ ∀ n, n ≤ m → (go x n).1 = (go y n).1 ∧ Agr go m k (go x n).2 (go y n).2 := by
  constructor
  · intro h n hn
    refine ⟨?_, fun r a b => ?_⟩
    · have := h [n] (by simp) (fun i hi => by rw [List.mem_singleton.mp hi]; exact hn)
      simpa [outs] using this
    · have := h (n :: r) (by simp; omega) (fun i hi => by
        rcases List.mem_cons.mp hi with rfl | hi
        · exact hn
        · exact b i hi)
      simp only [outs, List.cons.injEq] at this
      exact this.2
  · intro h r a b
    cases r with
    | nil => rfl
    | cons n r =>
      obtain ⟨h1, h2⟩ := h n (b n (List.mem_cons_self ..))
      rw [outs, outs, h1, h2 r (by simp at a; omega) fun i hi => b i (List.mem_cons_of_mem _ hi)]
def Stab (go : γ → Nat → τ × γ) (m : Nat) (U : List γ) (k : Nat) : Prop := ∀ x ∈ U, ∀ y ∈ U, Agr go m k x y → Agr go m (k + 1) x y
theorem Stab.up {U : List γ} (hc : ∀ x ∈ U, ∀ n, n ≤ m → (go x n).2 ∈ U) {k : Nat} (h : Stab go m U k) : Stab go m U (k + 1) := fun x hx y hy ha => by
  rw [agr_succ] at ha ⊢
  intro n hn
  obtain ⟨a, b⟩ := ha n hn
  exact ⟨a, h _ (hc x hx n hn) _ (hc y hy n hn) b⟩
theorem Stab.all {U : List γ} (hc : ∀ x ∈ U, ∀ n, n ≤ m → (go x n).2 ∈ U) : ∀ (j : Nat) {k : Nat}, Stab go m U k → ∀ x ∈ U, ∀ y ∈ U, Agr go m k x y → Agr go m (k + j) x y
  | 0, k, h, x, hx, y, hy, ha => ha
  | j + 1, k, h, x, hx, y, hy, ha => by
    have := Stab.all hc j (h.up hc) x hx y hy (h x hx y hy ha)
    rw [Nat.add_right_comm] at this
    exact this
theorem moore_list {U : List γ} (hc : ∀ x ∈ U, ∀ n, n ≤ m → (go x n).2 ∈ U) : ∀ k : Nat, Stab go m U k ∨ ∃ l : List γ, l.length = k + 2 ∧ (∀ x ∈ l, x ∈ U) ∧ l.Pairwise fun x y => ¬ Agr go m (k + 1) x y := by
  intro k
  induction k with
  | zero =>
    by_cases h : Stab go m U 0
    · exact .inl h
    · right
      unfold Stab at h
      simp only [Classical.not_forall] at h
      obtain ⟨x, hx, y, hy, h1, h2⟩ := h
      refine ⟨[x, y], rfl, fun z hz => ?_, ?_⟩
      · rcases List.mem_cons.mp hz with rfl | hz
        · exact hx
        · rw [List.mem_singleton.mp hz]; exact hy
      · simpa using h2
  | succ k ih =>
    rcases ih with h | ⟨l, l1, l2, l3⟩
    · exact .inl (h.up hc)
    by_cases h : Stab go m U (k + 1)
    · exact .inl h
    · right
      unfold Stab at h
      simp only [Classical.not_forall] at h
      obtain ⟨x, hx, y, hy, h1, h2⟩ := h
      have weak : ∀ {a b : γ}, ¬ Agr go m (k + 1) a b → ¬ Agr go m (k + 1 + 1) a b := fun h z => h (z.less (Nat.le_succ _))
      by_cases hz : ∃ z ∈ l, Agr go m (k + 1) x z
      · obtain ⟨z, hz, ha⟩ := hz
        obtain ⟨s, t, rfl⟩ := List.append_of_mem hz
        have hp : (z :: (s ++ t)).Pairwise fun x y => ¬ Agr go m (k + 1) x y :=
          (List.perm_middle.pairwise_iff (fun {a b} h z => h z.symm)).mp l3
        obtain ⟨p1, p2⟩ := List.pairwise_cons.mp hp
        refine ⟨x :: y :: (s ++ t), by simp at l1 ⊢; omega, fun w hw => ?_, List.pairwise_cons.mpr ⟨fun w hw hxw => ?_, List.pairwise_cons.mpr ⟨fun w hw hyw => ?_, p2.imp weak⟩⟩⟩
        · rcases List.mem_cons.mp hw with rfl | hw
          · exact hx
          rcases List.mem_cons.mp hw with rfl | hw
          · exact hy
          · exact l2 w (by rcases List.mem_append.mp hw with h | h <;> simp [h])
        · rcases List.mem_cons.mp hw with rfl | hw
          · exact h2 hxw
          · exact p1 w hw (ha.symm.trans (hxw.less (Nat.le_succ _)))
        · exact p1 w hw ((ha.symm.trans h1).trans (hyw.less (Nat.le_succ _)))
      · refine ⟨x :: l, by simp [l1], fun w hw => ?_, List.pairwise_cons.mpr ⟨fun w hw hxw => hz ⟨w, hw, hxw.less (Nat.le_succ _)⟩, l3.imp weak⟩⟩
        rcases List.mem_cons.mp hw with rfl | hw
        · exact hx
        · exact l2 w hw
/-- states that some row tells apart are told apart by a row no longer than there are states -/
theorem moore {U : List γ} (hc : ∀ x ∈ U, ∀ n, n ≤ m → (go x n).2 ∈ U) {x y : γ} (hx : x ∈ U) (hy : y ∈ U) {r : List Nat} (hr : ∀ n ∈ r, n ≤ m) (hne : outs go x r ≠ outs go y r) :
    ∃ r' : List Nat, r'.length ≤ U.length ∧ (∀ n ∈ r', n ≤ m) ∧ outs go x r' ≠ outs go y r' := by
  have st : Stab go m U U.length := by
    rcases moore_list hc U.length with h | ⟨l, l1, l2, l3⟩
    · exact h
    · have nd : l.Nodup := l3.imp (S := fun a b => a ≠ b) fun {a b} h e => h (by rw [e]; exact Agr.refl _ _)
      have := nodup_len nd l2
      omega
  refine Classical.byContradiction fun h => hne ?_
  have ha : Agr go m U.length x y := fun r' a b => Classical.byContradiction fun z => h ⟨r', a, b, z⟩
  exact Stab.all hc r.length st x hx y hy ha r (by omega) hr
end
end K46
/-! part W37 -/
set_option maxHeartbeats 600000
namespace K46
open PySem PySem.Spec PyProof.Rows L2 Evl
/-! ### what the graph of pairs tells -/
theorem anss_outs (s : Setg) : ∀ (r : List Nat) (x : Sta), (stps s x r).map (·.ans) = outs (goS s) x r
  | [], _ => rfl
  | n :: r, x => by rw [stps, List.map_cons, anss_outs s r]; rfl
theorem anss_eq (s : Setg) (r : List Nat) : anss s r = outs (goS s) (fst0 s) r := anss_outs s r _
theorem endsP (s t : Setg) : ∀ (r : List Nat) (p : Pr), ends (goP s t) p r = (ends (goS s) p.1 r, ends (goS t) p.2 r)
  | [], _ => rfl
  | n :: r, p => by rw [ends, endsP s t r]; rfl
theorem outsP (s t : Setg) : ∀ (r : List Nat) (p : Pr), (∀ o ∈ outs (goP s t) p r, o = true) ↔ outs (goS s) p.1 r = outs (goS t) p.2 r
  | [], _ => ⟨fun _ => rfl, fun _ o h => by cases h⟩
  | n :: r, p => by
    have ih := outsP s t r (goP s t p n).2
    simp only [outs, List.mem_cons, forall_eq_or_imp, List.cons.injEq]
    rw [ih]
    have e : (goP s t p n).1 = true ↔ (goS s p.1 n).1 = (goS t p.2 n).1 := decide_eq_true_iff
    rw [e]
    rfl
def swp (p : Pr) : Pr := (p.2, p.1)
theorem swp_inj {p q : Pr} (h : swp p = swp q) : p = q := by
  have h1 := congrArg Prod.fst h
  have h2 := congrArg Prod.snd h
  exact Prod.ext h2 h1
theorem goP_swp (s t : Setg) (p : Pr) (n : Nat) : goP t s (swp p) n = ((goP s t p n).1, swp (goP s t p n).2) := by
  unfold goP swp
  simp only [Prod.mk.injEq, and_true, decide_eq_decide]
  exact eq_comm
theorem idxOf_map_inj {α β : Type} [DecidableEq α] [DecidableEq β] {f : α → β} (hf : ∀ {x y}, f x = f y → x = y) (y : α) : ∀ l : List α, (l.map f).idxOf (f y) = l.idxOf y
  | [] => rfl
  | x :: l => by
    rw [List.map_cons, List.idxOf_cons, List.idxOf_cons, idxOf_map_inj hf y l]
    by_cases e : x = y
    · subst e; simp
    · have e2 : ¬ f x = f y := fun z => e (hf z)
      rw [beq_false_of_ne e, beq_false_of_ne e2]
theorem mem_map_inj {α β : Type} {f : α → β} (hf : ∀ {x y}, f x = f y → x = y) {y : α} {l : List α} : f y ∈ l.map f ↔ y ∈ l := by
  constructor
  · intro h
    obtain ⟨x, hx, e⟩ := List.mem_map.mp h
    rw [← hf e]; exact hx
  · exact List.mem_map_of_mem
section
variable {s t : Setg}
def swA (a : BA Pr Bool) : BA Pr Bool := ((a.1.1.map swp, a.1.2), a.2)
theorem bfIn_swp (at_ : Nat) (p : Pr) (acc : BA Pr Bool) (n : Nat) : bfIn (goP t s) at_ (swp p) (swA acc) n = swA (bfIn (goP s t) at_ p acc n) := by
  unfold bfIn
  rw [goP_swp]
  unfold swA
  dsimp only
  by_cases h : (goP s t p n).2 ∈ acc.1.1
  · rw [if_pos h, if_pos ((mem_map_inj (f := swp) swp_inj).mpr h)]
    rw [idxOf_map_inj swp_inj]
  · rw [if_neg h, if_neg (fun z => h ((mem_map_inj (f := swp) swp_inj).mp z))]
    simp only [List.map_append, List.map_cons, List.map_nil, List.length_map]
theorem bfFold_swp (at_ : Nat) (p : Pr) (b : BF Pr Bool) : ∀ k, bfFold (goP t s) at_ (swp p) ⟨b.nodes.map swp, b.before, b.edges⟩ k = swA (bfFold (goP s t) at_ p b k)
  | 0 => rfl
  | k + 1 => by rw [bfFold_succ, bfFold_succ, bfFold_swp at_ p b k, bfIn_swp]
theorem bf_swp (m : Nat) (p : Pr) : ∀ n, bf (goP t s) m (swp p) n = ⟨(bf (goP s t) m p n).nodes.map swp, (bf (goP s t) m p n).before, (bf (goP s t) m p n).edges⟩
  | 0 => rfl
  | n + 1 => by
    show bfRow (goP t s) m n (bf (goP t s) m (swp p) n) = _
    rw [bf_swp m p n]
    show _ = (⟨(bfRow (goP s t) m n (bf (goP s t) m p n)).nodes.map swp, (bfRow (goP s t) m n (bf (goP s t) m p n)).before, (bfRow (goP s t) m n (bf (goP s t) m p n)).edges⟩ : BF Pr Bool)
    unfold bfRow
    simp only [List.getElem?_map]
    cases e : (bf (goP s t) m p n).nodes[n]? with
    | none => rfl
    | some x =>
      simp only [Option.map_some]
      rw [bfFold_swp n x (bf (goP s t) m p n)]
      rfl
end
abbrev gB (s t : Setg) (m N : Nat) : BF Pr Bool := bf (goP s t) m (fst0 s, fst0 t) N
theorem gB_swp (s t : Setg) (m N : Nat) : gB t s m N = ⟨(gB s t m N).nodes.map swp, (gB s t m N).before, (gB s t m N).edges⟩ := bf_swp m (fst0 s, fst0 t) N
/-- told apart by a row; told alike -/
def TApart (s t : Setg) (m : Nat) (row : List Nat) : Prop := ∃ N a n, (gB s t m N).nodes.length = N ∧ Apart (gB s t m N).edges a n ∧ row = pathTo (gB s t m N).before a ++ [n]
def TAlike (s t : Setg) (m : Nat) : Prop := ∃ N, (gB s t m N).nodes.length = N ∧ RowsT (gB s t m N).edges N
theorem TApart.swap {s t : Setg} {m : Nat} {row : List Nat} (h : TApart s t m row) : TApart t s m row := by
  obtain ⟨N, a, n, h1, h2, h3⟩ := h
  refine ⟨N, a, n, ?_, ?_, ?_⟩ <;> rw [gB_swp]
  · simpa using h1
  · exact h2
  · exact h3
theorem TAlike.swap {s t : Setg} {m : Nat} (h : TAlike s t m) : TAlike t s m := by
  obtain ⟨N, h1, h2⟩ := h
  refine ⟨N, ?_, ?_⟩ <;> rw [gB_swp]
  · simpa using h1
  · exact h2
theorem Apart.det {es : List (List (Bool × Nat))} {a n a' n' : Nat} (h : Apart es a n) (h' : Apart es a' n') : a = a' ∧ n = n' := by
  obtain ⟨row, e, r1, r2, r3, r4⟩ := h.at_
  obtain ⟨row', e', q1, q2, q3, q4⟩ := h'.at_
  have ha : a = a' := by
    rcases Nat.lt_trichotomy a a' with l | l | l
    · have := h'.be a row l r1 e (List.mem_of_getElem? r2)
      rw [r3] at this; cases this
    · exact l
    · have := h.be a' row' l q1 e' (List.mem_of_getElem? q2)
      rw [q3] at this; cases this
  subst ha
  rw [r1] at q1; cases q1
  refine ⟨rfl, ?_⟩
  rcases Nat.lt_trichotomy n n' with l | l | l
  · have := q4 n e l r2
    rw [r3] at this; cases this
  · exact l
  · have := r4 n' e' l q2
    rw [q3] at this; cases this
theorem TApart.det {s t : Setg} {m : Nat} {row row' : List Nat} (h : TApart s t m row) (h' : TApart s t m row') : row = row' := by
  obtain ⟨N, a, n, h1, h2, rfl⟩ := h
  obtain ⟨N', a', n', h1', h2', rfl⟩ := h'
  cases bf_one _ _ _ h1 h1'
  obtain ⟨rfl, rfl⟩ := h2.det h2'
  rfl
theorem TApart.no {s t : Setg} {m : Nat} {row : List Nat} (h : TApart s t m row) (h' : TAlike s t m) : False := by
  obtain ⟨N, a, n, h1, h2, rfl⟩ := h
  obtain ⟨N', h1', h2'⟩ := h'
  cases bf_one _ _ _ h1 h1'
  obtain ⟨row, e, r1, r2, r3, r4⟩ := h2.at_
  have hel : (gB s t m N).edges.length ≤ N := bf_edges _ _ _ N
  have ha := (List.getElem?_eq_some_iff.mp r1).1
  have := h2' a row (by omega) r1 e (List.mem_of_getElem? r2)
  rw [r3] at this; cases this
section
variable {s t : Setg} {m : Nat} {S : List Pr}
theorem PairCl.whole (h : PairCl s t m S) {N : Nat} (hl : (gB s t m N).nodes.length = N) : Whole (goP s t) m (fst0 s, fst0 t) N := Whole.of h.f0 h.cl hl
/-- alike: any row is answered alike -/
theorem TAlike.rows (ha : TAlike s t m) (h : PairCl s t m S) (r : List Nat) (hr : ∀ n ∈ r, n ≤ m) : anss s r = anss t r := by
  obtain ⟨N, h1, h2⟩ := ha
  have W := h.whole h1
  rw [anss_eq, anss_eq]
  refine (outsP s t r (fst0 s, fst0 t)).mp ?_
  have key : ∀ (r : List Nat) (i : Nat) (x : Pr), (gB s t m N).nodes[i]? = some x → (∀ n ∈ r, n ≤ m) → ∀ o ∈ outs (goP s t) x r, o = true := by
    intro r
    induction r with
    | nil => intro i x _ _ o ho; cases ho
    | cons n r ih =>
      intro i x hx hr o ho
      obtain ⟨row, e, a, b, c, d, _⟩ := W.step hx (hr n (List.mem_cons_self ..))
      rcases List.mem_cons.mp ho with rfl | ho
      · rw [← c]
        exact h2 i row (by rw [← h1]; exact (List.getElem?_eq_some_iff.mp hx).1) a e (List.mem_of_getElem? b)
      · exact ih e.2 _ d (fun k hk => hr k (List.mem_cons_of_mem _ hk)) o ho
  exact key r 0 _ W.all.snd.f hr
/-- apart: the row differs in its last beat -/
theorem TApart.row {row : List Nat} (ha : TApart s t m row) (h : PairCl s t m S) : (∀ n ∈ row, n ≤ m) ∧ ∃ c x y, anss s row = c ++ [x] ∧ anss t row = c ++ [y] ∧ x ≠ y := by
  obtain ⟨N, a, n, h1, h2, rfl⟩ := ha
  have W := h.whole h1
  obtain ⟨row, e, r1, r2, r3, r4⟩ := h2.at_
  have hel := W.all.el
  have haN : a < N := by rw [← hel]; exact (List.getElem?_eq_some_iff.mp r1).1
  obtain ⟨x, hx⟩ : ∃ x, (gB s t m N).nodes[a]? = some x := ⟨_, List.getElem?_eq_getElem (by rw [h1]; exact haN)⟩
  obtain ⟨p1, p2, p3⟩ := W.path a x hx
  have hn : n ≤ m := by
    have := (W.all.e a row r1).1
    have := (List.getElem?_eq_some_iff.mp r2).1
    omega
  refine ⟨fun k hk => ?_, ?_⟩
  · rcases List.mem_append.mp hk with hk | hk
    · exact p2 k hk
    · rw [List.mem_singleton.mp hk]; exact hn
  · rw [anss_eq, anss_eq, outs_app, outs_app]
    have eq1 : outs (goS s) (fst0 s) (pathTo (gB s t m N).before a) = outs (goS t) (fst0 t) (pathTo (gB s t m N).before a) := by
      refine (outsP s t _ (fst0 s, fst0 t)).mp fun o ho => ?_
      obtain ⟨i, row', e', i1, i2, i3, i4⟩ := p3 o ho
      rw [← i4]
      exact h2.be i row' i1 i2 e' i3
    have e1 := p1
    rw [endsP] at e1
    have ex1 : ends (goS s) (fst0 s) (pathTo (gB s t m N).before a) = x.1 := congrArg Prod.fst e1
    have ex2 : ends (goS t) (fst0 t) (pathTo (gB s t m N).before a) = x.2 := congrArg Prod.snd e1
    rw [ex1, ex2, eq1]
    refine ⟨_, _, _, rfl, rfl, fun z => ?_⟩
    obtain ⟨row', e', q1, q2, q3, _⟩ := W.step hx hn
    rw [r1] at q1; cases q1
    rw [r2] at q2; cases q2
    rw [r3] at q3
    have : (goP s t x n).1 = true := decide_eq_true z
    rw [← q3] at this
    cases this
/-- a row that differs is not shorter than the row that is told -/
theorem TApart.short {row : List Nat} (ha : TApart s t m row) (h : PairCl s t m S) {r : List Nat} (hr : ∀ n ∈ r, n ≤ m) (hne : anss s r ≠ anss t r) : row.length ≤ r.length := by
  obtain ⟨N, a, n, h1, h2, rfl⟩ := ha
  have W := h.whole h1
  have hel := W.all.el
  have key : ∀ (r : List Nat) (i : Nat) (x : Pr), (gB s t m N).nodes[i]? = some x → (∀ n ∈ r, n ≤ m) → (¬ ∀ o ∈ outs (goP s t) x r, o = true) → depth (gB s t m N) a + 1 ≤ depth (gB s t m N) i + r.length := by
    intro r
    induction r with
    | nil => intro i x _ _ ho; exact absurd (fun o h => by cases h) ho
    | cons n r ih =>
      intro i x hx hr ho
      obtain ⟨row, e, b1, b2, b3, b4, b5⟩ := W.step hx (hr n (List.mem_cons_self ..))
      have hi : i < N := by rw [← h1]; exact (List.getElem?_eq_some_iff.mp hx).1
      have b5 : depth (gB s t m N) e.2 ≤ depth (gB s t m N) i + 1 := b5
      rw [List.length_cons]
      by_cases hb : (goP s t x n).1 = true
      · have := ih e.2 _ b4 (fun k hk => hr k (List.mem_cons_of_mem _ hk)) (fun z => ho fun o ho => by
          rcases List.mem_cons.mp ho with rfl | ho
          · exact hb
          · exact z o ho)
        omega
      · have hai : a ≤ i := Nat.le_of_not_lt fun z => hb (by rw [← b3]; exact h2.be i row z b1 e (List.mem_of_getElem? b2))
        have : depth (gB s t m N) a ≤ depth (gB s t m N) i := W.dmono i hi a hai
        omega
  rw [anss_eq, anss_eq] at hne
  have := key r 0 _ W.all.snd.f hr (fun z => hne ((outsP s t r (fst0 s, fst0 t)).mp z))
  have d0 : depth (gB s t m N) 0 = 0 := by unfold depth; rw [W.d0]; rfl
  rw [List.length_append, List.length_singleton]
  show depth (gB s t m N) a + 1 ≤ _
  omega
/-- two settings' states in one list -/
def goU (x : Setg × Sta) (n : Nat) : Nat × (Setg × Sta) := ((stp x.1 x.2 n).ans, (x.1, (stp x.1 x.2 n).st))
theorem outsU (s : Setg) : ∀ (r : List Nat) (x : Sta), outs goU (s, x) r = outs (goS s) x r
  | [], _ => rfl
  | n :: r, x => by rw [outs, outs]; congr 1; exact outsU s r _
theorem TApart.len {row : List Nat} (ha : TApart s t m row) (h : PairCl s t m S) {A B : List Sta} (hA : OneCl s m A) (hB : OneCl t m B) : row.length ≤ A.length + B.length := by
  obtain ⟨hr, c, x, y, e1, e2, hne⟩ := ha.row h
  have hd : anss s row ≠ anss t row := fun z => by
    rw [e1, e2] at z
    have := List.append_cancel_left z
    simp at this
    exact hne this
  obtain ⟨r', l1, l2, l3⟩ := moore (go := goU) (m := m) (U := A.map (fun x => (s, x)) ++ B.map (fun x => (t, x))) (x := (s, fst0 s)) (y := (t, fst0 t)) (r := row) (fun p hp n hn => by
      rcases List.mem_append.mp hp with hp | hp
      · obtain ⟨x, hx, rfl⟩ := List.mem_map.mp hp
        exact List.mem_append_left _ (List.mem_map.mpr ⟨_, hA.cl x hx n hn, rfl⟩)
      · obtain ⟨x, hx, rfl⟩ := List.mem_map.mp hp
        exact List.mem_append_right _ (List.mem_map.mpr ⟨_, hB.cl x hx n hn, rfl⟩)) (List.mem_append_left _ (List.mem_map.mpr ⟨_, hA.f0, rfl⟩)) (List.mem_append_right _ (List.mem_map.mpr ⟨_, hB.f0, rfl⟩)) hr (by
      rw [outsU, outsU, ← anss_eq, ← anss_eq]; exact hd)
  have := ha.short h l2 (by rw [anss_eq, anss_eq, ← outsU, ← outsU]; exact l3)
  simp at l1
  omega
end
end K46
/-! part W38 -/
set_option maxHeartbeats 600000
namespace K46
open PySem PySem.Spec PyProof.Rows L2 Evl
/-! ### the worst of settings that are alike -/
theorem prs_max : ∀ (pr : Prs), ∃ C : Int, ∀ (j : Nat) (v : Int), pr[j]? = some (some v) → v ≤ C
  | [] => ⟨0, fun j v h => by simp at h⟩
  | o :: r => by
    obtain ⟨C, hC⟩ := prs_max r
    refine ⟨max C (o.getD 0), fun j v h => ?_⟩
    cases j with
    | zero =>
      simp at h; subst h
      exact Int.le_max_right _ _
    | succ j => exact Int.le_trans (hC j v (by simpa using h)) (Int.le_max_left _ _)
theorem wfn_eq (p q t n : Nat) : wfn p q t n = (p : Int) * n - (q : Int) * t := rfl
section
variable {s : Setg} {m N : Nat}
abbrev gO (s : Setg) (m N : Nat) : BF Sta Nat := bf (goS s) m (fst0 s) N
/-- a row in the graph -/
theorem fold_run (W : Whole (goS s) m (fst0 s) N) : ∀ (r : List Nat) (i t0 : Nat) (x : Sta), (gO s m N).nodes[i]? = some x → (∀ n ∈ r, n ≤ m) →
    ∃ j : Nat, r.foldl (stE (gO s m N).edges) (t0, i) = (t0 + (outs (goS s) x r).sum, j) ∧ (gO s m N).nodes[j]? = some (ends (goS s) x r)
  | [], i, t0, x, hx, _ => ⟨i, rfl, hx⟩
  | n :: r, i, t0, x, hx, hr => by
    obtain ⟨row, e, a, b, c, d, _⟩ := W.step hx (hr n (List.mem_cons_self ..))
    obtain ⟨j, j1, j2⟩ := fold_run W r e.2 (t0 + e.1) _ d fun k hk => hr k (List.mem_cons_of_mem _ hk)
    have he : stE (gO s m N).edges (t0, i) n = (t0 + e.1, e.2) := by
      unfold stE
      simp only [a, b]
    refine ⟨j, ?_, j2⟩
    rw [List.foldl_cons, he, j1, c, outs, List.sum_cons, Nat.add_assoc]
/-- no row is worth more than the prices tell -/
theorem still_run {p q : Nat} {pr : Prs} (W : Whole (goS s) m (fst0 s) N) (st : Still (gO s m N).edges p q pr) : ∀ (r : List Nat) (i : Nat) (x : Sta) (v : Int), (gO s m N).nodes[i]? = some x → pr[i]? = some (some v) → (∀ n ∈ r, n ≤ m) →
    ∃ (j : Nat) (u : Int), pr[j]? = some (some u) ∧ v + ((p : Int) * (r.sum : Nat) - (q : Int) * ((outs (goS s) x r).sum : Nat)) ≤ u
  | [], i, x, v, hx, hv, _ => ⟨i, v, hv, by simp [outs]⟩
  | n :: r, i, x, v, hx, hv, hr => by
    obtain ⟨row, e, a, b, c, d, _⟩ := W.step hx (hr n (List.mem_cons_self ..))
    obtain ⟨pt, t1, t2⟩ := st i n row e v a b hv
    obtain ⟨j, u, j1, j2⟩ := still_run W st r e.2 _ pt d t1 fun k hk => hr k (List.mem_cons_of_mem _ hk)
    refine ⟨j, u, j1, ?_⟩
    rw [wfn_eq, c] at t2
    rw [outs, List.sum_cons, List.sum_cons]
    push_cast
    rw [Int.mul_add, Int.mul_add]
    omega
def rep (l : List Nat) : Nat → List Nat
  | 0 => []
  | k + 1 => l ++ rep l k
theorem rep_mem {l : List Nat} {m : Nat} (h : ∀ n ∈ l, n ≤ m) : ∀ k, ∀ n ∈ rep l k, n ≤ m
  | 0, n, hn => by cases hn
  | k + 1, n, hn => by
    rcases List.mem_append.mp hn with hn | hn
    · exact h n hn
    · exact rep_mem h k n hn
theorem rep_sum (l : List Nat) : ∀ k, (rep l k).sum = k * l.sum
  | 0 => by simp [rep]
  | k + 1 => by rw [rep, List.sum_append, rep_sum l k, Nat.add_mul, Nat.one_mul, Nat.add_comm]
theorem rep_outs {l : List Nat} {x : Sta} (h : ends (goS s) x l = x) : ∀ k, (outs (goS s) x (rep l k)).sum = k * (outs (goS s) x l).sum
  | 0 => by simp [rep, outs]
  | k + 1 => by rw [rep, outs_app, h, List.sum_append, rep_outs h k, Nat.add_mul, Nat.one_mul, Nat.add_comm]
end
theorem lin_bound {a b c : Int} (h : ∀ k : Nat, a + (k : Int) * b ≤ c) : b ≤ 0 := by
  refine Int.not_lt.mp fun hb => ?_
  have h1 := h (c - a + 1).toNat
  have h2 : (c - a + 1) ≤ ((c - a + 1).toNat : Int) := Int.self_le_toNat _
  have h3 : (((c - a + 1).toNat : Nat) : Int) * 1 ≤ ((c - a + 1).toNat : Int) * b := Int.mul_le_mul_of_nonneg_left (by omega) (by omega)
  omega
/-- what worst tells -/
structure Wst (s : Setg) (m p q : Nat) : Prop where
  q0 : 0 < q
  g : Nat.gcd p q = 1
  e : ∃ N, (gO s m N).nodes.length = N ∧ Att (gO s m N).edges N m p q ∧ ∃ pr : Prs, (∀ j, j < N → ∃ v : Int, pr[j]? = some (some v)) ∧ Still (gO s m N).edges p q pr
theorem wst_le {s t : Setg} {m p q p' q' : Nat} {A B : List Sta} (hA : OneCl s m A) (hB : OneCl t m B) (hs : Wst s m p q) (ht : Wst t m p' q') (ha : ∀ r : List Nat, (∀ n ∈ r, n ≤ m) → anss s r = anss t r) : p' * q ≤ p * q' := by
  obtain ⟨N, n1, ⟨a, l, T, a1, a2, a3, a4, a5, a6⟩, _⟩ := hs.e
  obtain ⟨N', n1', _, pr, pr1, pr2⟩ := ht.e
  have W : Whole (goS s) m (fst0 s) N := Whole.of hA.f0 hA.cl n1
  have W' : Whole (goS t) m (fst0 t) N' := Whole.of hB.f0 hB.cl n1'
  obtain ⟨x, hx⟩ : ∃ x, (gO s m N).nodes[a]? = some x := ⟨_, List.getElem?_eq_getElem (by rw [n1]; exact a1)⟩
  obtain ⟨c1, c2, _⟩ := W.path a x hx
  obtain ⟨j, j1, j2⟩ := fold_run W l a 0 x hx a3
  rw [a4] at j1
  simp only [Nat.zero_add, Prod.mk.injEq] at j1
  obtain ⟨hT, rfl⟩ := j1
  rw [hx] at j2
  have hend : ends (goS s) x l = x := (Option.some.inj j2).symm
  obtain ⟨v0, hv0⟩ := pr1 0 W'.N0
  obtain ⟨C, hC⟩ := prs_max pr
  have key : ∀ k : Nat, (v0 + (p' : Int) * ((pathTo (gO s m N).before a).sum : Nat) - (q' : Int) * ((outs (goS s) (fst0 s) (pathTo (gO s m N).before a)).sum : Nat)) + (k : Int) * ((p' : Int) * (l.sum : Nat) - (q' : Int) * (T : Nat)) ≤ C := by
    intro k
    have hr : ∀ n ∈ pathTo (gO s m N).before a ++ rep l k, n ≤ m := fun n hn => by
      rcases List.mem_append.mp hn with hn | hn
      · exact c2 n hn
      · exact rep_mem a3 k n hn
    obtain ⟨j, u, u1, u2⟩ := still_run W' pr2 _ 0 _ v0 W'.all.snd.f hv0 hr
    have hu := hC j u u1
    have e1 := ha _ hr
    rw [anss_eq, anss_eq] at e1
    rw [← e1, outs_app, List.sum_append, List.sum_append, c1, rep_outs hend, rep_sum, ← hT] at u2
    push_cast at u2
    rw [Int.mul_add, Int.mul_add] at u2
    rw [Int.mul_sub, Int.mul_left_comm (k : Int), Int.mul_left_comm (k : Int)]
    omega
  have hb := lin_bound key
  have hb2 : p' * l.sum ≤ q' * T := by
    have : (p' : Int) * (l.sum : Nat) ≤ (q' : Int) * (T : Nat) := by omega
    exact_mod_cast this
  have h3 : q * (p' * l.sum) ≤ q * (q' * T) := Nat.mul_le_mul_left _ hb2
  have h4 : q * (q' * T) = q' * (p * l.sum) := by rw [Nat.mul_left_comm, a5]
  rw [h4, ← Nat.mul_assoc, ← Nat.mul_assoc] at h3
  have := Nat.le_of_mul_le_mul_right h3 a6
  rw [Nat.mul_comm p' q, Nat.mul_comm p q']
  exact this
theorem wst_eq {s t : Setg} {m p q p' q' : Nat} {A B : List Sta} (hA : OneCl s m A) (hB : OneCl t m B) (hs : Wst s m p q) (ht : Wst t m p' q') (ha : ∀ r : List Nat, (∀ n ∈ r, n ≤ m) → anss s r = anss t r) : p = p' ∧ q = q' := by
  have h1 := wst_le hA hB hs ht ha
  have h2 := wst_le hB hA ht hs fun r hr => (ha r hr).symm
  have e : p * q' = p' * q := Nat.le_antisymm h2 h1
  have d1 : q ∣ q' := by
    have : q ∣ p * q' := ⟨p', by rw [e, Nat.mul_comm]⟩
    exact (Nat.Coprime.symm hs.g).dvd_of_dvd_mul_left this
  have d2 : q' ∣ q := by
    have : q' ∣ p' * q := ⟨p, by rw [← e, Nat.mul_comm]⟩
    exact (Nat.Coprime.symm ht.g).dvd_of_dvd_mul_left this
  have hq := Nat.dvd_antisymm d1 d2
  subst hq
  exact ⟨Nat.eq_of_mul_eq_mul_right hs.q0 e, rfl⟩
end K46
/-! part W39 -/
set_option maxHeartbeats 600000
namespace K46
open PySem PySem.Spec PyProof.Rows L2 Evl
/-! ### the kinds of settings -/
theorem PairCl.of {s t : Setg} {m : Nat} {A B : List Sta} (hA : OneCl s m A) (hB : OneCl t m B) (h1 : A.length ≤ 41) (h2 : B.length ≤ 41) : PairCl s t m (A.flatMap fun x => B.map fun y => (x, y)) := by
  have mem : ∀ p : Pr, p ∈ (A.flatMap fun x => B.map fun y => (x, y)) ↔ p.1 ∈ A ∧ p.2 ∈ B := fun p => by
    rw [List.mem_flatMap]
    constructor
    · rintro ⟨x, hx, hp⟩
      obtain ⟨y, hy, rfl⟩ := List.mem_map.mp hp
      exact ⟨hx, hy⟩
    · rintro ⟨h1, h2⟩
      exact ⟨p.1, h1, List.mem_map.mpr ⟨p.2, h2, rfl⟩⟩
  refine ⟨(mem _).mpr ⟨hA.f0, hB.f0⟩, fun p hp n hn => ?_, ?_, fun p hp => ?_, hA.m9⟩
  · obtain ⟨a, b⟩ := (mem p).mp hp
    exact (mem _).mpr ⟨hA.cl _ a n hn, hB.cl _ b n hn⟩
  · have : ∀ l : List Sta, (l.flatMap fun x => B.map fun y => (x, y)).length = l.length * B.length := fun l => by
      induction l with
      | nil => simp
      | cons x r ih => rw [List.flatMap_cons, List.length_append, ih, List.length_map, List.length_cons, Nat.add_mul, Nat.one_mul, Nat.add_comm]
    rw [this]
    exact Nat.le_trans (Nat.mul_le_mul h1 h2) (by decide)
  · obtain ⟨a, b⟩ := (mem p).mp hp
    exact ⟨hA.ok _ a, hB.ok _ b⟩
/-- closed lists for one setting up to a number of fresh asks -/
def FinS (s : Setg) (M : Nat) : Prop := ∃ A, OneCl s M A ∧ A.length ≤ 41
theorem FinS.of {s : Setg} {M : Nat} (h : ck s M 41 = true) (hM : M ≤ 9) : FinS s M := by
  obtain ⟨S, h1, h2, h3, h4⟩ := ck_ok h (P := StOk s) (fst0_ok s) fun x k hx => hx.stp k
  exact ⟨S, ⟨h2, h4, by omega, h3, hM⟩, h1⟩
theorem FinS.less {s : Setg} {M m : Nat} (h : FinS s M) (hm : m ≤ M) : FinS s m := by
  obtain ⟨A, h1, h2⟩ := h
  exact ⟨A, ⟨h1.f0, fun x hx n hn => h1.cl x hx n (by omega), h1.sz, h1.ok, by have := h1.m9; omega⟩, h2⟩
theorem Small.fin {s : Setg} (h : Small s) : FinS s 2 := by
  refine FinS.of ?_ (by decide)
  have H := ckSmall_ok
  unfold ckSmall at H
  simp only [List.all_eq_true] at H
  have hw : s.work ∈ [1, 2] := by have := h.w1; have := h.w2; simp; omega
  have hp : s.pat ∈ [1, 2] := by have := h.p1; have := h.p2; simp; omega
  have hr : s.room - s.work ∈ [0, 1, 2] := by have := h.r1; have := h.r2; simp; omega
  have ht : s.tries ∈ [1, 2] := by have := h.t1; have := h.t2; simp; omega
  have hn : s.newest ∈ [false, true] := by cases s.newest <;> simp
  have hd : s.dead ∈ [false, true] := by cases s.dead <;> simp
  have hk : s.tok ∈ [none, some 0, some 1, some 2] := by
    have := h.k
    cases e : s.tok with
    | none => simp
    | some n => have := this n e; simp; omega
  have hf : s.fuse ∈ [none, some (1, 1), some (1, 2), some (2, 1), some (2, 2)] := by
    have := h.f
    cases e : s.fuse with
    | none => simp
    | some p =>
      obtain ⟨a, b⟩ := p
      have := this _ e
      simp at this ⊢
      omega
  have := H _ hw _ hp _ hr _ ht _ hn _ hd _ hk _ hf
  have e : s.work + (s.room - s.work) = s.room := by have := h.r1; omega
  rw [e] at this
  exact this
theorem Bare.fin {s : Setg} (h : Bare s) : FinS s 9 := by
  refine FinS.of ?_ (by decide)
  have H := ckBare_ok
  unfold ckBare at H
  simp only [List.all_eq_true] at H
  have hw : s.work ∈ [1, 2, 3] := by have := h.w1; have := h.w3; simp; omega
  have hr : s.room ∈ [1, 2, 3, 4, 5] := by have := h.r1; have := h.r5; simp; omega
  have ht : s.tries ∈ [1, 2] := by have := h.t1; have := h.t2; simp; omega
  have hn : s.newest ∈ [false, true] := by cases s.newest <;> simp
  have hd : s.dead ∈ [false, true] := by cases s.dead <;> simp
  have := H _ hw _ hr _ ht _ hn _ hd
  obtain ⟨a, b, c, d, e, f, g, i⟩ := s
  obtain rfl : c = 1 := h.p1
  obtain rfl : g = none := h.k
  obtain rfl : i = none := h.f
  exact this
theorem NoQ.fin {wk : Nat} {tk : Option Nat} {s : Setg} (h : NoQ wk tk s) (h1 : 1 ≤ wk) (h3 : wk ≤ 3) (hk : ∀ n, tk = some n → n ≤ 2) : FinS s 3 := by
  refine FinS.of ?_ (by decide)
  have H := ckNoQ_ok
  unfold ckNoQ at H
  simp only [List.all_eq_true] at H
  have hw : wk ∈ [1, 2, 3] := by simp; omega
  have hp : s.pat ∈ [1, 2, 3, 4] := by have := h.p1; have := h.p4; simp; omega
  have hn : s.newest ∈ [false, true] := by cases s.newest <;> simp
  have hd : s.dead ∈ [false, true] := by cases s.dead <;> simp
  have hk : tk ∈ [none, some 0, some 1, some 2] := by
    cases tk with
    | none => simp
    | some n => have := hk n rfl; simp; omega
  have := H _ hw _ hp _ hn _ hd _ hk
  obtain ⟨a, b, c, d, e, f, g, i⟩ := s
  obtain rfl : a = wk := h.w
  obtain rfl : b = min a 2 := h.r
  obtain rfl : d = 2 := h.t
  obtain rfl : g = tk := h.k
  obtain rfl : i = none := h.f
  exact this
theorem Small.ok {s : Setg} (h : Small s) : SetOk s := by
  obtain ⟨h1, h2, h3, h4, h5, h6, h7, h8, h9, h10⟩ := h
  exact ⟨h1, by omega, by omega, by omega, h3, by omega, h7, by omega, fun n e => by have := h9 n e; omega, fun p e => by have := h10 p e; omega⟩
theorem Bare.ok {s : Setg} (h : Bare s) : SetOk s := by
  obtain ⟨h1, h2, h3, h4, h5, h6, h7, h8, h9⟩ := h
  exact ⟨h1, h2, h3, h4, by omega, by omega, h6, by omega, fun n e => (by rw [h8] at e; cases e), fun p e => (by rw [h9] at e; cases e)⟩
theorem NoQ.ok {wk : Nat} {tk : Option Nat} {s : Setg} (h : NoQ wk tk s) (h1 : 1 ≤ wk) (h3 : wk ≤ 3) (hk : ∀ n, tk = some n → n ≤ 2) : SetOk s := by
  obtain ⟨a1, a2, a3, a4, a5, a6, a7⟩ := h
  exact ⟨by omega, by omega, by omega, by omega, a3, a4, by omega, by omega, fun n e => (by rw [a6] at e; have := hk n e; omega), fun p e => (by rw [a7] at e; cases e)⟩
/-! ### settings in which nobody ever waits -/
structure Idle (x : Sta) : Prop where
  d : x.d = 0
  q : x.q = []
  o : x.o = 0
theorem entF_qlen : ∀ (c : List Nat) (acc : List (Nat × Nat) × List Nat × Nat), (c.foldl entF acc).1.length ≤ acc.1.length + acc.2.2
  | [], acc => Nat.le_add_right _ _
  | m :: c, acc => by
    have := entF_qlen c (entF acc m)
    rw [List.foldl_cons]
    refine Nat.le_trans this ?_
    unfold entF
    simp only [List.length_append, List.length_replicate]
    omega
theorem noq_stp {wk : Nat} {tk : Option Nat} {s : Setg} (h : NoQ wk tk s) {x : Sta} (hx : Idle x) (f : Nat) : stp s x f =
    { came := ((comR s x).1 ++ [f]).sum, ans := (entR s x ((comR s x).1 ++ [f])).1.length, was := 0, ref := (entR s x ((comR s x).1 ++ [f])).2.1.sum, gav := 0, los := (comR s x).2.2 + (faiR [] 0 (entR s x ((comR s x).1 ++ [f])).2.1).headD 0,
      st := { d := 0, q := [], l := (faiR [] 0 (entR s x ((comR s x).1 ++ [f])).2.1).tail, t := min (mtok s) ((comR s x).2.1 + (entR s x ((comR s x).1 ++ [f])).1.length), o := 0 } } := by
  have hl : (entR s x ((comR s x).1 ++ [f])).1.length ≤ s.work := by
    refine Nat.le_trans (entF_qlen _ _) ?_
    rw [hx.q]
    have : free s x ≤ s.room := by unfold free; split <;> omega
    have h2 := h.r
    have h3 := h.w
    simp only [List.length_nil]
    omega
  unfold stp
  dsimp only
  generalize entR s x ((comR s x).1 ++ [f]) = e at *
  have hs : serR s x.d e.1 = (e.1.length, 0, []) := by
    unfold serR
    rw [hx.d]
    split
    · rw [Nat.min_eq_right hl, Nat.min_zero, Nat.sub_self, List.take_zero]
    · rw [Nat.min_zero, Nat.sub_zero, Nat.min_eq_right hl, List.drop_length]
  rw [hs, hx.d, hx.o]
  have ha : agG s [] = [] := rfl
  have hb : agS s [] = [] := rfl
  have hc : ∀ n, shuR s 0 n = 0 := fun n => by unfold shuR; rw [h.f]; simp
  dsimp only
  rw [ha, hb, hc]
  have hd : (if s.dead = true then ([] : List Nat).length else 0) = 0 := by split <;> rfl
  rw [hd]
  rfl
theorem noq_same {wk : Nat} {tk : Option Nat} {s t : Setg} (hs : NoQ wk tk s) (ht : NoQ wk tk t) {x : Sta} (hx : Idle x) (f : Nat) : stp s x f = stp t x f := by
  have e1 : comR s x = comR t x := by
    unfold comR
    have : comF s = comF t := by
      funext a m
      unfold comF
      rw [hs.k, ht.k]
    rw [this]
  have e2 : ∀ c, entR s x c = entR t x c := fun c => by
    unfold entR free
    rw [hs.r, ht.r]
  have e3 : mtok s = mtok t := by unfold mtok; rw [hs.k, ht.k]
  rw [noq_stp hs hx, noq_stp ht hx, e1, e2, e3]
theorem noq_idle {wk : Nat} {tk : Option Nat} {s : Setg} (hs : NoQ wk tk s) {x : Sta} (hx : Idle x) (f : Nat) : Idle (stp s x f).st := by
  rw [noq_stp hs hx]
  exact ⟨rfl, rfl, rfl⟩
theorem noq_anss {wk : Nat} {tk : Option Nat} {s t : Setg} (hs : NoQ wk tk s) (ht : NoQ wk tk t) (r : List Nat) : anss s r = anss t r := by
  have e0 : fst0 s = fst0 t := by unfold fst0 mtok; rw [hs.t, ht.t, hs.k, ht.k]
  have key : ∀ (r : List Nat) (x : Sta), Idle x → stps s x r = stps t x r := by
    intro r
    induction r with
    | nil => intro x _; rfl
    | cons n r ih =>
      intro x hx
      rw [stps, stps, ← noq_same hs ht hx n, ih _ (noq_idle hs hx n)]
  unfold anss
  rw [← e0, key r _ ⟨rfl, rfl, rfl⟩]
/-- what agrees on all rows is not told apart -/
theorem TApart.same {s t : Setg} {m : Nat} {S : List Pr} {row : List Nat} (ha : TApart s t m row) (h : PairCl s t m S) (e : ∀ r, anss s r = anss t r) : False := by
  obtain ⟨_, c, x, y, e1, e2, hne⟩ := ha.row h
  rw [e row, e2] at e1
  have := List.append_cancel_left e1
  simp at this
  exact hne this.symm
end K46
/-! part W40 -/
set_option maxHeartbeats 600000
namespace K46
open PySem PySem.Spec PyProof.Rows L2 Evl LamX NdefX
/-! ### all but the pen and the tables stay -/
def BtN (a : Addr) (H H' : Hp) : Prop := ∀ b o, b ≠ a → H b = some o → (∀ ps, o ≠ .tbl ps) → H' b = some o
theorem BtN.refl (a : Addr) (H : Hp) : BtN a H H := fun _ _ _ h _ => h
theorem BtN.trans {a : Addr} {H H1 H2 : Hp} (x : BtN a H H1) (y : BtN a H1 H2) : BtN a H H2 := fun b o n h t => y b o n (x b o n h t) t
theorem BtN.ofN {a : Addr} {H H' : Hp} (e : ExtN H H') : BtN a H H' := fun b o _ h t => e b o h t
theorem BtN.ofE {a : Addr} {H H' : Hp} (e : Ex H H') : BtN a H H' := .ofN (en_ex e)
theorem BtN.ofB {a : Addr} {H H' : Hp} (e : Bt a H H') : BtN a H H' := fun b o n h _ => e b o n h
theorem BtN.tm {a : Addr} {H H' : Hp} {c : Nat} (e : BtN a H H') (p : PenAt H a c) : Tm H H' := fun b xs h => by
  obtain ⟨ys, hy⟩ := p.lst
  exact e b _ (fun z => by rw [z, hy] at h; cases h) h (fun ps z => by cases z)
theorem PenAt.exN {H H' : Hp} {a : Addr} {c : Nat} (h : PenAt H a c) (e : ExtN H H') : PenAt H' a c := let ⟨b, n, c', h, x⟩ := h; ⟨b, n, c', e _ _ h (fun ps z => by cases z), x⟩
theorem tabs_btL {T : List (Addr × Str)} {a : Addr} {H H' : Hp} {ys : List V} (t : Tabs T H) (e : Bt a H H') (hy : H a = some (.lst ys)) : Tabs T H' := fun q hq => by
  obtain ⟨ps, h1, h2, h3⟩ := t q hq
  refine ⟨ps, e _ _ (fun z => by rw [z, hy] at h1; cases h1) h1, h2, fun pos cv hc => ?_⟩
  obtain ⟨c, e1, e2⟩ := h3 pos cv hc
  exact ⟨c, e1, e _ _ (fun z => by rw [z, hy] at e2; unfold CodeO at e2; cases e2) e2⟩
theorem tabs_bt {T : List (Addr × Str)} {a : Addr} {H H' : Hp} {c : Nat} (t : Tabs T H) (e : Bt a H H') (p : PenAt H a c) : Tabs T H' := let ⟨_, hy⟩ := p.lst; tabs_btL t e hy
/-- what was not there may change -/
theorem BtN.mut {a D : Addr} {H H0 H1 H2 : Hp} (x : BtN a H H0) (n : H0 D = none) (y : BtN a H H1) (z : Bt D H1 H2) : BtN a H H2 := fun b o hb h ht => z b o (fun e => by
  have := x b o hb h ht
  rw [e, n] at this; cases this) (y b o hb h ht)
def apD (row : List Nat) : Da := .tup [.str "apart", .tup (row.map dn)]
def frD (p q : Nat) : Da := .tup [dn p, dn q]
/-- a way to see what alike tells -/
theorem alike_any {K : PySem.W.Frag} {H : Hp} {Q : VK} {E : XK} {s t : Setg} {m : Nat} {v1 v2 : V} (fs : FinS s m) (ft : FinS t m) (r1 : Rp H s.da v1) (r2 : Rp H t.da v2) (O1 : SetOk s) (O2 : SetOk t) (hm : 1 ≤ m) (hT : Tabs (Tq K) H)
    (kap : ∀ row H' v, TApart s t m row → ExtN H H' → Tabs (Tq K) H' → Rp H' (apD row) v → Q v H')
    (kal : ∀ H' a w, TAlike s t m → ExtN H H' → Tabs (Tq K) H' → H' a = some (.tup [.str "alike", w]) → Q (.ref a) H') : spAlike K [v1, v2, vn m] H Q E := by
  obtain ⟨A, hA, lA⟩ := fs
  obtain ⟨B, hB, lB⟩ := ft
  refine ⟨s, t, m, _, v1, v2, PairCl.of hA hB lA lB, rfl, r1, r2, O1, O2, hm, hT, fun N a n H' v h1 h2 h3 e T r => ?_, fun N H' a w h1 h2 h3 e T h => ?_⟩
  · exact kap _ H' v ⟨N, a, n, h1, h3, rfl⟩ e T r
  · exact kal H' a w ⟨N, h1, h3⟩ e T h
theorem ap_shaped (row : List Nat) : SeqAt.shaped (pyd (apD row)) = true := by
  unfold SeqAt.shaped apD
  simp only [pyd, pyds, pyds_nats]
  rw [Bool.and_eq_true]
  refine ⟨?_, ?_⟩
  · simp only [PyData.canLay0, PyData.canLayAll0]
    rw [nats_lay]
    decide +kernel
  · refine decide_eq_true ?_
    simp only [PyData.depth, PyData.depthAll]
    rw [nats_dep]
    decide
theorem ap_eqv (row : List Nat) : PyData.eqv (pyd (apD row)) (pyd (apD row)) = true := by
  unfold apD
  simp only [pyd, pyds, pyds_nats, PyData.eqv, PyData.eqvAll]
  rw [nats_eqv]
  simp
theorem fr_shaped (p q : Nat) : SeqAt.shaped (pyd (frD p q)) = true := by
  unfold SeqAt.shaped frD
  simp [pyd, pyds, PyData.canLay0, PyData.canLayAll0, PyData.depth, PyData.depthAll]
theorem fr_eqv (p q : Nat) : PyData.eqv (pyd (frD p q)) (pyd (frD p q)) = true := by
  unfold frD
  simp [pyd, pyds, PyData.eqv, PyData.eqvAll]
theorem cut_init (xs : List V) (z : V) : cutV (xs ++ [z]) none (some (-1)) = xs := by
  unfold cutV HT.sIx
  simp
  rw [show (-1 + ((xs.length : Int) + 1)).toNat = xs.length by omega]
  simp
theorem rp_ap {H : Hp} {row : List Nat} {v : V} (h : Rp H (apD row) v) : ∃ b r, v = .ref b ∧ H b = some (.tup [.str "apart", .ref r]) ∧ H r = some (.tup (row.map vn)) := by
  obtain ⟨b, xs, rfl, hb, x1, r1, rfl, e1, x2, r2, rfl, e2, e3⟩ := h
  cases (show r2 = [] from e3)
  cases (show x1 = .str "apart" from e1)
  obtain ⟨r, ys, rfl, hr, er⟩ := e2
  rw [rpl_nats_of er] at hr
  exact ⟨b, r, rfl, hb, hr⟩
section
variable {P : Program} {w : World} {K : PySem.W.Frag} {mg : Str → Option Value} {base : Heap}
def spRight (K : PySem.W.Frag) : Sp := fun vs H Q _ => ∃ (s t : Setg) (m c : Nat) (a : Addr) (v1 v2 : V), vs = [.ref a, v1, v2, vn m] ∧ PenAt H a c ∧ c ≤ 5000 ∧ Rp H s.da v1 ∧ Rp H t.da v2 ∧ SetOk s ∧ SetOk t ∧ 1 ≤ m ∧ FinS s m ∧ FinS t m ∧ Tabs (Tq K) H ∧
  ∀ H', BtN a H H' → PenAt H' a (c + 300) → Tabs (Tq K) H' → Q (.bl true) H'
/-! _law_right: 0 _law_pen_here, 1 _law_one, 2 _law_other, 3 _law_most, 4 _law_told, 5 _law_mine, 6 _law_its, 7 _law_turn, 8 _law_row, 9 _law_lap -/
theorem sc_law_right : FnScope ["_law_pen_here", "_law_one", "_law_other", "_law_most", "_law_told", "_law_mine", "_law_its", "_law_turn", "_law_row", "_law_lap"] ["_law_pen_here", "_law_one", "_law_other", "_law_most"] (d_law_right.scope) := ⟨rfl, rfl, rfl, by decide +kernel, rfl, by decide +kernel, by decide +kernel⟩
theorem c_law_right (B : Bas w K mg) (BT : Bat K mg base) : Cal P w K mg base 10 "_law_right" ["_law_pen_here", "_law_one", "_law_other", "_law_most"] (spRight K) := by
  have C_law_both := c_law_both (P := P) (base := base) B
  have C_alike := c_alike (P := P) (base := base) B BT
  have C_law_answers := c_law_answers (P := P) (base := base) B
  have C_law_draw := c_law_draw (P := P) (base := base) B
  have C_worst := c_worst (P := P) (base := base) B BT
  refine B.cal "_law_right" 49 47 (d := d_law_right) rfl rfl rfl rfl rfl sc_law_right (fun vs H Q E h => ?_) (fun _ _ _ _ _ _ us hl => match us, hl with | [_, _, _, _], _ => rfl) (fun f cdv A outer s₀ H vs Q E hr h => ?_)
  · obtain ⟨s, t, m, c, a, v1, v2, rfl, _⟩ := h
    rfl
  · obtain ⟨s, t, m, c, a, v1, v2, rfl, pa, hc, r1, r2, O1, O2, hm, fs, ft, hT, k⟩ := h
    have hm9 : m ≤ 9 := by obtain ⟨A, hA, _⟩ := fs; exact hA.m9
    refine ⟨_, (pss_cons (ps_if (pt_cmpR op_isN (pe_cal C_law_both hr (by first | decide | omega) (by rfl) (pa_cons (pv 1) (pa_cons (pv 2) (pa_cons (pv 3) pa_nil)))) pe_non (nomark _))
      (pss_one (ps_ret pe_bl))
      pss_nil)
    (pss_cons (ps_set (i := 4) sc_law_right.nd rfl (Or.inl rfl) (pe_cal C_alike hr (by first | decide | omega) (by rfl) (pa_cons (pv 1) (pa_cons (pv 2) (pa_cons (pv 3) pa_nil)))))
    (pss_cons (ps_if (pt_cmpR op_ne (pe_ixk (pv 4)) (pe_ixk (pe_cal C_alike hr (by first | decide | omega) (by rfl) (pa_cons (pv 2) (pa_cons (pv 1) (pa_cons (pv 3) pa_nil))))) (nomark _))
      (pss_one (ps_ret pe_bl))
      pss_nil)
    (pss_cons (ps_if (pt_cmpR op_eq (pe_ixk (pv 4)) pe_str (nomark _))
      (pss_cons (ps_par (i := 5) (j := 6) rfl sc_law_right.nd rfl rfl (by decide) rfl rfl (pa_cons (pe_cal C_law_answers hr (by first | decide | omega) (by rfl) (pa_cons (pv 1) (pa_cons (pe_ixk (pv 4)) pa_nil))) (pa_cons (pe_cal C_law_answers hr (by first | decide | omega) (by rfl) (pa_cons (pv 2) (pa_cons (pe_ixk (pv 4)) pa_nil))) pa_nil)) (by rfl))
      (pss_one (ps_ret (pe_and (pe_cmpR (op_eqLN hr.units) (pe_slice sl_listB (pv 5) po_none (po_some (pe_un un_neg pe_int))) (pe_slice sl_listB (pv 6) po_none (po_some (pe_un un_neg pe_int))) (nomark _)) (pe_and (pe_cmpR op_neN (pe_ix ix_listLast (pv 5) (pe_un un_neg pe_int) (fun _ _ => rfl)) (pe_ix ix_listLast (pv 6) (pe_un un_neg pe_int) (fun _ _ => rfl)) (nomark _)) (pe_one (pe_cmpR (op_eqRp hr.units) (pe_cal C_alike hr (by first | decide | omega) (by rfl) (pa_cons (pv 2) (pa_cons (pv 1) (pa_cons (pv 3) pa_nil)))) (pv 4) (nomark _))))))))
      pss_nil)
    (pss_cons (ps_for PassesOwn.never rfl (pi_range1 (by rfl) (B.free 81) (pa_cons pe_int pa_nil)) (pg_name (i := 7) sc_law_right.nd rfl (Or.inl rfl))
      (pss_cons (ps_set (i := 8) sc_law_right.nd rfl (Or.inl rfl) (pe_callTy call_tupOf (by rfl) (B.free 73) boot_tuple (pa_cons (pe_lc (own := [("_law_lap", 9)]) (g := gName 9) (by rfl) sc_law_right.nd (pi_range1 (by rfl) (B.free 81) (pa_cons (pe_cal C_law_draw hr (by first | decide | omega) (by rfl) (pa_cons (pv 0) (pa_cons pe_int pa_nil))) pa_nil)) (blkOk_by (own := [("_law_lap", 9)]) (N := ["_law_pen_here", "_law_one", "_law_other", "_law_most", "_law_told", "_law_mine", "_law_its", "_law_turn", "_law_row", "_law_lap"]) (sc := d_law_right.scope) (by decide +kernel)) (fun _ _ _ _ _ => (pg_name (i := 9) sc_law_right.nd rfl (Or.inl rfl))) (fun _ _ _ _ _ => pts_nil) (fun _ _ _ _ _ => (pe_cal C_law_draw hr (by first | decide | omega) (by rfl) (pa_cons (pv 0) (pa_cons (pe_op op_addN (pv 3) pe_int) pa_nil))))) pa_nil)))
      (pss_one (ps_if (pt_cmpR (op_neLN hr.units) (pe_cal C_law_answers hr (by first | decide | omega) (by rfl) (pa_cons (pv 1) (pa_cons (pv 8) pa_nil))) (pe_cal C_law_answers hr (by first | decide | omega) (by rfl) (pa_cons (pv 2) (pa_cons (pv 8) pa_nil))) (nomark _))
        (pss_one (ps_ret pe_bl))
        pss_nil))))
    (pss_one (ps_ret (pe_cmpR (op_eqRp hr.units) (pe_ixk (pe_cal C_worst hr (by first | decide | omega) (by rfl) (pa_cons (pv 1) (pa_cons (pv 3) pa_nil)))) (pe_ixk (pe_cal C_worst hr (by first | decide | omega) (by rfl) (pa_cons (pv 2) (pa_cons (pv 3) pa_nil)))) (nomark _))))))))), ?_⟩
    -- if both(..) is None
    refine ⟨_, rfl, _, rfl, _, rfl, s, t, m, v1, v2, rfl, r1, r2, O1, O2, hm9, fun H1 u1 e1 hu1 => ?_⟩
    refine ⟨rfl, _, rfl, ?_⟩
    by_cases hu : u1 = .non
    · refine iT (decide_eq_true hu) ?_
      exact k H1 (.ofE e1) ((pa.ex e1).up (by omega)) (hT.ext e1)
    refine iF (decide_eq_false hu) ?_
    -- told
    refine ⟨_, rfl, _, rfl, _, rfl, ?_⟩
    have r1' := r1.mono (tm_ex e1)
    have r2' := r2.mono (tm_ex e1)
    refine alike_any (E := E0) fs ft r1' r2' O1 O2 hm (hT.ext e1) (fun row H2 v hap e2 T2 rv => ?_) (fun H2 b x hal e2 T2 hb => ?_)
    · have rv0 := rv
      obtain ⟨b, r, rfl, hb, hr⟩ := rp_ap rv
      have q1 := r1'.mono (tm_en e2)
      have q2 := r2'.mono (tm_en e2)
      have len : row.length ≤ 82 := by
        obtain ⟨A, hA, lA⟩ := fs
        obtain ⟨B2, hB, lB⟩ := ft
        have := hap.len (PairCl.of hA hB lA lB) hA hB
        omega
      obtain ⟨hrow, c0, x0, y0, ea, eb, hne⟩ : (∀ n ∈ row, n ≤ m) ∧ ∃ c x y, anss s row = c ++ [x] ∧ anss t row = c ++ [y] ∧ x ≠ y := by
        obtain ⟨A, hA, lA⟩ := fs
        obtain ⟨B2, hB, lB⟩ := ft
        exact hap.row (PairCl.of hA hB lA lB)
      have hrow9 : ∀ n ∈ row, n ≤ 999 := fun n hn => by have := hrow n hn; omega
      -- told[0] != alike(..)[0]
      refine ⟨_, rfl, _, _, _, rfl, hb, rfl, ?_⟩
      refine ⟨_, rfl, _, rfl, _, rfl, ?_⟩
      refine alike_any (E := E0) ft fs q2 q1 O2 O1 hm T2 (fun row3 H3 v3 hap3 e3 T3 rv3 => ?_) (fun H3 b3 x3 hal3 e3 T3 hb3 => (hap.no hal3.swap).elim)
      obtain ⟨b3, r3, rfl, hb3, _⟩ := rp_ap rv3
      refine ⟨_, _, _, rfl, hb3, rfl, rfl, _, rfl, ?_⟩
      refine iF (by simp) ?_
      have hb' := e3 _ _ hb (fun ps z => by cases z)
      have hr' := e3 _ _ hr (fun ps z => by cases z)
      -- told[0] == "apart"
      refine ⟨_, rfl, _, _, _, rfl, hb', rfl, rfl, _, rfl, ?_⟩
      refine iT (by simp) ?_
      -- mine, its
      refine ⟨_, rfl, _, rfl, _, _, _, rfl, hb', rfl, s, v1, r, row, rfl, q1.mono (tm_en e3), O1, hr', by omega, hrow9, fun H4 p4 e4 n4 h4 => ?_⟩
      refine ⟨_, rfl, _, rfl, _, _, _, rfl, e4 _ _ hb', rfl, t, v2, r, row, rfl, (q2.mono (tm_en e3)).mono (tm_ex e4), O2, e4 _ _ hr', by omega, hrow9, fun H5 p5 e5 n5 h5 => ?_⟩
      refine ⟨_, _, rfl, ?_⟩
      rw [ea, List.map_append] at h4
      rw [eb, List.map_append] at h5
      have h4' := e5 _ _ h4
      -- mine[:-1] == its[:-1] and mine[-1] != its[-1] and ..
      refine ⟨_, rfl, 1, rfl, -1, rfl, p4, _, rfl, h4', fun p6 H6 n6 e6 h6 => ?_⟩
      refine ⟨_, rfl, 1, rfl, -1, rfl, p5, _, rfl, e6 _ _ h5, fun p7 H7 n7 e7 h7 => ?_⟩
      rw [show List.map vn [x0] = [vn x0] from rfl, cut_init] at h6
      rw [show List.map vn [y0] = [vn y0] from rfl, cut_init] at h7
      refine ⟨p6, p7, c0, c0, rfl, rfl, e7 _ _ h6, h7, true, by simp, ?_⟩
      refine iT rfl ?_
      refine ⟨_, rfl, 1, rfl, p4, _, vn x0, rfl, rfl, (e6.trans e7) _ _ h4', ?_⟩
      refine ⟨_, rfl, 1, rfl, p5, _, vn y0, rfl, rfl, (e6.trans e7) _ _ h5, ?_⟩
      refine ⟨x0, y0, rfl, rfl, true, by simp [hne], ?_⟩
      refine iT rfl ?_
      -- alike(other, one) == told
      have e37 : Ex H3 H7 := ((e4.trans e5).trans e6).trans e7
      refine ⟨_, rfl, _, rfl, _, rfl, ?_⟩
      refine alike_any (E := E0) ft fs ((q2.mono (tm_en e3)).mono (tm_ex e37)) ((q1.mono (tm_en e3)).mono (tm_ex e37)) O2 O1 hm (T3.ext e37) (fun row8 H8 v8 hap8 e8 T8 rv8 => ?_) (fun H8 b8 x8 hal8 e8 T8 hb8 => (hap.no hal8.swap).elim)
      cases hap8.det hap.swap
      refine ⟨_, rfl, apD row, apD row, rv8, ((rv0.mono (tm_en e3)).mono (tm_ex e37)).mono (tm_en e8), ap_shaped _, ap_shaped _, ?_⟩
      rw [ap_eqv]
      have eN : ExtN H H8 := (((en_ex e1).trans e2).trans e3).trans ((en_ex e37).trans e8)
      exact k H8 (.ofN eN) ((pa.exN eN).up (by omega)) T8
    · have q1 := r1'.mono (tm_en e2)
      have q2 := r2'.mono (tm_en e2)
      have same : ∀ r : List Nat, (∀ n ∈ r, n ≤ m) → anss s r = anss t r := by
        obtain ⟨A, hA, lA⟩ := fs
        obtain ⟨B2, hB, lB⟩ := ft
        exact fun r hr => hal.rows (PairCl.of hA hB lA lB) r hr
      -- told[0] != alike(..)[0]
      refine ⟨_, rfl, _, _, _, rfl, hb, rfl, ?_⟩
      refine ⟨_, rfl, _, rfl, _, rfl, ?_⟩
      refine alike_any (E := E0) ft fs q2 q1 O2 O1 hm T2 (fun row3 H3 v3 hap3 e3 T3 rv3 => (hap3.no hal.swap).elim) (fun H3 b3 x3 hal3 e3 T3 hb3 => ?_)
      refine ⟨_, _, _, rfl, hb3, rfl, rfl, _, rfl, ?_⟩
      refine iF (by simp) ?_
      have hb' := e3 _ _ hb (fun ps z => by cases z)
      refine ⟨_, rfl, _, _, _, rfl, hb', rfl, rfl, _, rfl, ?_⟩
      refine iF (by decide) ?_
      have eN : ExtN H H3 := ((en_ex e1).trans e2).trans e3
      -- for turn in range(4)
      refine ⟨4, rfl, by decide, by decide, for_rangeN (n := 4)
        (fun i σ H' => ∃ u7 u8 u9, σ = [some (.ref a), some v1, some v2, some (vn m), some (.ref b), none, none, u7, u8, u9] ∧ BtN a H H' ∧ PenAt H' a (c + 61 * i) ∧ Tabs (Tq K) H')
        ⟨none, none, none, rfl, .ofN eN, pa.exN eN, T3⟩ ?_ ?_⟩
      · rintro i σ H4 hi ⟨u7, u8, u9, rfl, b4, p4, T4⟩
        refine ⟨_, rfl, a, 60, c + 61 * i, rfl, p4, by decide, by decide, by omega, fun H5 d5 b5 p5 hd5 => ?_⟩
        have t5 := tabs_bt T4 b5 p4
        refine ⟨_, rfl, by omega, by omega, fun D nD => lc_range (lo := 0) (n := d5)
          (fun j H' => ∃ ns : List Nat, BtN a H H' ∧ PenAt H' a (c + 61 * i + 1 + j) ∧ Tabs (Tq K) H' ∧ H' D = some (.lst (ns.map vn)) ∧ ns.length = j ∧ ∀ n ∈ ns, n ≤ m)
          ⟨[], (b4.trans (.ofB b5)).trans (.ofE (Ex.new nD)), p5.ex (Ex.new nD), t5.ext (Ex.new nD), upd_same, rfl, fun n hn => by cases hn⟩ ?_ ?_⟩
        · rintro j H6 hj ⟨ns, b6, p6, T6, h6, hl6, hm6⟩
          have hDa : D ≠ a := fun z => by
            obtain ⟨ys, hy⟩ := p5.lst
            rw [z, hy] at nD; cases nD
          refine ⟨rfl, yesT ?_⟩
          refine ⟨_, rfl, _, rfl, m, 1, rfl, rfl, a, m + 1, c + 61 * i + 1 + j, rfl, p6, by omega, by omega, by omega, fun H7 d7 b7 p7 hd7 => ?_⟩
          have h7 := b7 _ _ hDa h6
          have b8 : Bt D H7 (upd H7 D (.lst (ns.map vn ++ [vn d7]))) := bt_upd
          have p8 : PenAt H7 a (c + 61 * i + 1 + (j + 1)) := p7
          refine ⟨_, h7, by rw [List.length_map, hl6, sizeLine_eq]; omega, ns ++ [d7], ?_, ?_, ?_, by rw [List.map_append]; exact upd_same, by simp [hl6], fun n hn => ?_⟩
          · exact BtN.mut (b4.trans (.ofB b5)) nD (b6.trans (.ofB b7)) b8
          · obtain ⟨q1, q2, q3, q4, q5⟩ := p8
            exact ⟨q1, q2, q3, b8 _ _ (Ne.symm hDa) q4, q5⟩
          · exact tabs_btL (tabs_bt T6 b7 p6) b8 h7
          · rcases List.mem_append.mp hn with hn | hn
            · exact hm6 n hn
            · rw [List.mem_singleton.mp hn]; omega
        · rintro H6 ⟨ns, b6, p6, T6, h6, hl6, hm6⟩
          refine ⟨_, _, rfl, h6, fun p7 H7 e7 h7 => ?_⟩
          have tm7 : Tm H H7 := (b6.tm pa).trans (tm_ex e7)
          have hn9 : ∀ n ∈ ns, n ≤ 999 := fun n hn => by have := hm6 n hn; omega
          refine ⟨_, rfl, _, rfl, s, v1, p7, ns, rfl, r1.mono tm7, O1, h7, by omega, hn9, fun H8 p8 e8 n8 h8 => ?_⟩
          refine ⟨_, rfl, _, rfl, t, v2, p7, ns, rfl, (r2.mono tm7).mono (tm_ex e8), O2, e8 _ _ h7, by omega, hn9, fun H9 p9 e9 n9 h9 => ?_⟩
          refine ⟨p8, p9, _, _, rfl, rfl, e9 _ _ h8, h9, _, rfl, ?_⟩
          refine iF (by rw [same ns hm6]; simp) ?_
          have e69 := (e7.trans e8).trans e9
          exact ⟨_, _, _, rfl, b6.trans (.ofE e69), (p6.ex e69).up (by omega), T6.ext e69⟩
      · rintro σ H4 ⟨u7, u8, u9, rfl, b4, p4, T4⟩
        have tm4 : Tm H H4 := b4.tm pa
        obtain ⟨A, hA, lA⟩ := fs
        obtain ⟨B2, hB, lB⟩ := ft
        refine ⟨_, rfl, _, rfl, s, m, A, v1, hA, rfl, r1.mono tm4, O1, hm, T4, fun N p q pr H5 a5 f5 x2 x3 x4 hl hall hq hg hatt hpr hst e5 T5 h5 hf5 => ?_⟩
        refine ⟨_, _, _, rfl, h5, rfl, ?_⟩
        refine ⟨_, rfl, _, rfl, t, m, B2, v2, hB, rfl, (r2.mono tm4).mono (tm_en e5), O2, hm, T5, fun N' p' q' pr' H6 a6 f6 y2 y3 y4 hl' hall' hq' hg' hatt' hpr' hst' e6 T6 h6 hf6 => ?_⟩
        obtain ⟨rfl, rfl⟩ := wst_eq hA hB ⟨hq, hg, N, hl, hatt, pr, hpr, hst⟩ ⟨hq', hg', N', hl', hatt', pr', hpr', hst'⟩ same
        refine ⟨_, _, _, rfl, h6, rfl, frD p q, frD p q, ⟨f5, _, rfl, e6 _ _ hf5 (fun ps z => by cases z), _, _, rfl, rfl, _, _, rfl, rfl, rfl⟩, ⟨f6, _, rfl, hf6, _, _, rfl, rfl, _, _, rfl, rfl, rfl⟩, fr_shaped _ _, fr_shaped _ _, ?_⟩
        rw [fr_eqv]
        exact k H6 ((b4.trans (.ofN e5)).trans (.ofN e6)) (((p4.exN e5).exN e6).up (by omega)) T6
end
end K46
/-! part W41 -/
set_option maxHeartbeats 600000
namespace K46
open PySem PySem.Spec PyProof.Rows L2 Evl LamX NdefX
theorem sql_n {K : PySem.W.Frag} {H H' : Hp} {a : Addr} {xs : List V} (h : SqL K H a xs) (e : ExtN H H') : SqL K H' a xs := by
  rcases h with (h | ⟨o, h⟩) | h
  · exact .inl (.inl (e _ _ h (fun ps z => by cases z)))
  · exact .inl (.inr ⟨o, e _ _ h (fun ps z => by cases z)⟩)
  · exact .inr h
theorem BtN.ext {a : Addr} {H H0 H' : Hp} (x : ExtN H H0) (n : H0 a = none) (y : BtN a H0 H') : ExtN H H' := fun b o h t => y b o (fun e => by
  have := x b o h t
  rw [e, n] at this; cases this) (x b o h t) t
theorem Small.flip {s : Setg} (h : Small s) : Small { s with dead := !s.dead } := ⟨h.w1, h.w2, h.p1, h.p2, h.r1, h.r2, h.t1, h.t2, h.k, h.f⟩
theorem Bare.late {s : Setg} (h : Bare s) : Bare { s with newest := true } := ⟨h.w1, h.w3, h.r1, h.r5, h.p1, h.t1, h.t2, h.k, h.f⟩
/-- alike of settings that agree says so -/
theorem alike_same {K : PySem.W.Frag} {H : Hp} {Q : VK} {E : XK} {s t : Setg} {m : Nat} {v1 v2 : V} (fs : FinS s m) (ft : FinS t m) (r1 : Rp H s.da v1) (r2 : Rp H t.da v2) (O1 : SetOk s) (O2 : SetOk t) (hm : 1 ≤ m) (hT : Tabs (Tq K) H)
    (same : ∀ r, anss s r = anss t r) (kal : ∀ H' a w, ExtN H H' → Tabs (Tq K) H' → H' a = some (.tup [.str "alike", w]) → Q (.ref a) H') : spAlike K [v1, v2, vn m] H Q E := by
  refine alike_any fs ft r1 r2 O1 O2 hm hT (fun row H' v hap e T r => ?_) (fun H' a w _ e T h => kal H' a w e T h)
  obtain ⟨A, hA, lA⟩ := fs
  obtain ⟨B2, hB, lB⟩ := ft
  exact (hap.same (PairCl.of hA hB lA lB) same).elim
theorem fua_rp {H : Hp} {fu : Option (Nat × Nat)} {v : V} (h : FuA H fu v) : Rp H (fuseD fu) v := by
  cases fu with
  | none => exact h
  | some p =>
    obtain ⟨a, rfl, h⟩ := h
    exact ⟨a, _, rfl, h, _, _, rfl, rfl, _, _, rfl, rfl, rfl⟩
theorem sea_rp {H : Hp} {s : Setg} {a : Addr} {f : V} (h : SeA H s a f) : Rp H s.da (.ref a) := by
  refine ⟨a, _, rfl, h.at_, _, _, rfl, rfl, _, _, rfl, rfl, _, _, rfl, rfl, _, _, rfl, rfl, _, _, rfl, rfl, _, _, rfl, rfl, _, _, rfl, rfl, _, _, rfl, ?_, _, _, rfl, fua_rp h.fu, rfl⟩
  cases s.tok with
  | none => rfl
  | some n => rfl
section
variable {P : Program} {w : World} {K : PySem.W.Frag} {mg : Str → Option Value} {base : Heap}
def spLaw (K : PySem.W.Frag) : Sp := fun vs H Q _ => ∃ (a : Addr) (ns : List Int), vs = [.ref a] ∧ SqL K H a (ns.map V.int) ∧ ns.length ≤ 63 ∧ Tabs (Tq K) H ∧ ∀ H', Q (.bl true) H'
/-! law: 0 _law_script, 1 _law_k, 2 _law_pen_here, 3 _law_one, 4 _law_other -/
theorem sc_law : FnScope ["_law_script", "_law_k", "_law_pen_here", "_law_one", "_law_other"] ["_law_script"] (d_law.scope) := ⟨rfl, rfl, rfl, by decide +kernel, rfl, by decide +kernel, by decide +kernel⟩
theorem ok_law (B : Bas w K mg) (BT : Bat K mg base) {fd : FuncData} (F : FunD K d_law.name d_law.qual d_law.params d_law.body d_law.scope [] [] (He.ga K "law") fd) : FnOk P w K mg base CX0 12 (He.ga K "law") fd ["_law_script"] (spLaw K) := by
  have C_law_pen := c_law_pen (P := P) (base := base) B
  have C_law_cell_at := c_law_cell_at (P := P) (base := base) B
  have C_law_small := c_law_small (P := P) (base := base) B
  have C_law_right := c_law_right (P := P) (base := base) B BT
  have C_law_draw := c_law_draw (P := P) (base := base) B
  have C_alike := c_alike (P := P) (base := base) B BT
  have C_law_bare := c_law_bare (P := P) (base := base) B
  have C_law_no_queue := c_law_no_queue (P := P) (base := base) B
  refine F.ok sc_law (fun vs H Q E h => ?_) (fun cdv A outer s₀ H vs Q E hr h => ?_)
  · obtain ⟨a, ns, rfl, _⟩ := h
    rfl
  · obtain ⟨a, ns, rfl, hs, hl, hT, k⟩ := h
    suffices hh : ∃ t, PSs (cxOf CX0 P w K mg base ["_law_script", "_law_k", "_law_pen_here", "_law_one", "_law_other"] d_law.qual d_law.scope (He.ga K "law") cdv A outer s₀ H E).nox d_law.body t ∧ t { nx := fun _ H' => Q .non H', rt := Q } (L2.start ["_law_script", "_law_k", "_law_pen_here", "_law_one", "_law_other"] [.ref a]) H from
      let ⟨t, p, q⟩ := hh; ⟨t, p.nox, q⟩
    refine ⟨_, (pss_one (ps_try_thru0
      (pss_cons (ps_for PassesOwn.never rfl (pi_range1 (by rfl) (B.free 81) (pa_cons (pe_callB (call_maxN rfl) (by rfl) (B.free 79) boot_max (pa_cons pe_int (pa_cons (pe_callB (call_minN rfl) (by rfl) (B.free 78) boot_min (pa_cons (pe_callB call_len (by rfl) (B.free 74) boot_len (pa_cons (pv 0) pa_nil)) (pa_cons pe_int pa_nil))) pa_nil))) pa_nil)) (pg_name (i := 1) sc_law.nd rfl (Or.inl rfl))
        (pss_cons (ps_set (i := 2) sc_law.nd rfl (Or.inl rfl) (pe_cal C_law_pen hr (by first | decide | omega) (by rfl) (pa_cons (pe_cal C_law_cell_at hr (by first | decide | omega) (by rfl) (pa_cons (pv 0) (pa_cons (pv 1) pa_nil))) pa_nil)))
        (pss_cons (ps_par (i := 3) (j := 4) rfl sc_law.nd rfl rfl (by decide) rfl rfl (pa_cons (pe_cal C_law_small hr (by first | decide | omega) (by rfl) (pa_cons (pv 2) pa_nil)) (pa_cons (pe_cal C_law_small hr (by first | decide | omega) (by rfl) (pa_cons (pv 2) pa_nil)) pa_nil)) (by rfl))
        (pss_cons (ps_if (PW.pt (pw_or (pt_cmpR op_ne (pe_ixk (pe_cal C_alike hr (by first | decide | omega) (by rfl) (pa_cons (pv 3) (pa_cons (pv 3) (pa_cons pe_int pa_nil))))) pe_str (nomark _)) (pw_or1 (pt_not (pt_val (pe_cal C_law_right hr (by first | decide | omega) (by rfl) (pa_cons (pv 2) (pa_cons (pv 3) (pa_cons (pv 4) (pa_cons (pe_op op_addN pe_int (pe_cal C_law_draw hr (by first | decide | omega) (by rfl) (pa_cons (pv 2) (pa_cons pe_int pa_nil)))) pa_nil))))))))))
          (pss_one (ps_ret pe_bl))
          pss_nil)
        (pss_cons (ps_if (pt_not (pt_val (pe_cal C_law_right hr (by first | decide | omega) (by rfl) (pa_cons (pv 2) (pa_cons (pv 3) (pa_cons (pe_op op_catB (pe_op op_catB (pe_slice sl_tupB (pv 3) po_none (po_some pe_int)) (pe_tupA (pa_cons (pe_not (pe_ixk (pv 3))) pa_nil))) (pe_slice sl_tupB (pv 3) (po_some pe_int) po_none)) (pa_cons pe_int pa_nil)))))))
          (pss_one (ps_ret pe_bl))
          pss_nil)
        (pss_cons (ps_set (i := 3) sc_law.nd rfl (Or.inl rfl) (pe_cal C_law_bare hr (by first | decide | omega) (by rfl) (pa_cons (pv 2) pa_nil)))
        (pss_cons (ps_if (pt_not (pt_val (pe_cal C_law_right hr (by first | decide | omega) (by rfl) (pa_cons (pv 2) (pa_cons (pv 3) (pa_cons (pe_op op_catB (pe_op op_catB (pe_slice sl_tupB (pv 3) po_none (po_some pe_int)) (pe_tupA (pa_cons pe_str pa_nil))) (pe_slice sl_tupB (pv 3) (po_some pe_int) po_none)) (pa_cons (pe_op op_addN pe_int (pe_cal C_law_draw hr (by first | decide | omega) (by rfl) (pa_cons (pv 2) (pa_cons pe_int pa_nil)))) pa_nil)))))))
          (pss_one (ps_ret pe_bl))
          pss_nil)
        (pss_cons (ps_asg (pe_cal C_law_no_queue hr (by first | decide | omega) (by rfl) (pa_cons (pv 2) pa_nil)) (pg_lst rfl (pgs_cons (pg_name (i := 3) sc_law.nd rfl (Or.inl rfl)) (pgs_cons (pg_name (i := 4) sc_law.nd rfl (Or.inl rfl)) pgs_nil))))
        (pss_one (ps_if (PW.pt (pw_or (pt_cmpR op_ne (pe_ixk (pe_cal C_alike hr (by first | decide | omega) (by rfl) (pa_cons (pv 3) (pa_cons (pv 4) (pa_cons pe_int pa_nil))))) pe_str (nomark _)) (pw_or1 (pt_not (pt_val (pe_cal C_law_right hr (by first | decide | omega) (by rfl) (pa_cons (pv 2) (pa_cons (pv 3) (pa_cons (pv 4) (pa_cons pe_int pa_nil))))))))))
          (pss_one (ps_ret pe_bl))
          pss_nil))))))))))
      (pss_one (ps_ret pe_bl))))), ?_⟩
    -- for k in range(max(1, min(len(script), 3)))
    refine ⟨_, rfl, _, _, rfl, Or.inl ⟨_, hs, rfl⟩, _, 3, rfl, 1, _, rfl, _, rfl, by omega, by omega, for_rangeN
      (fun i σ H' => ∃ u1 u2 u3 u4, σ = [some (.ref a), u1, u2, u3, u4] ∧ ExtN H H' ∧ Tabs (Tq K) H')
      ⟨none, none, none, none, rfl, ExtN.refl H, hT⟩ ?_ ?_⟩
    · rintro i σ H1 hi ⟨u1, u2, u3, u4, rfl, e1, T1⟩
      -- pen
      refine ⟨_, rfl, _, rfl, a, i, ns, rfl, sql_n hs e1, hl, fun z => ?_⟩
      refine ⟨z, rfl, fun H2 p n2 e2 p2 => ?_⟩
      have T2 := T1.ext e2
      -- one, other
      refine ⟨_, rfl, p, 0, rfl, p2, by omega, fun H3 v3 s b3 p3 r3 s3 => ?_⟩
      refine ⟨_, rfl, p, 20, rfl, p3, by omega, fun H4 v4 t b4 p4 r4 s4 => ?_⟩
      have T4 := tabs_bt (tabs_bt T2 b3 p2) b4 p3
      have r3 := r3.mono ((BtN.ofB b4).tm p3)
      have bn4 : BtN p H2 H4 := (BtN.ofB b3).trans (.ofB b4)
      refine ⟨_, _, rfl, ?_⟩
      -- alike(one, one, 2)[0] != "alike" or not right(..)
      refine ⟨_, rfl, _, rfl, ?_⟩
      refine alike_same (E := E0) (m := 2) s3.fin s3.fin r3 r3 s3.ok s3.ok (by decide) T4 (fun r => rfl) (fun H5 a5 w5 e5 T5 h5 => ?_)
      refine ⟨_, _, _, rfl, h5, rfl, rfl, _, rfl, ?_⟩
      refine iF (by simp) ?_
      refine ⟨_, rfl, _, rfl, _, rfl, _, rfl, p, 2, 40, rfl, p4.exN e5, by decide, by decide, by omega, fun H6 d6 b6 p6 hd6 => ⟨1, d6, rfl, rfl, ?_⟩⟩
      have bn6 : BtN p H4 H6 := (BtN.ofN e5).trans (.ofB b6)
      have tm6 := bn6.tm p4
      refine ⟨s, t, 1 + d6, 41, p, v3, v4, rfl, p6, by omega, r3.mono tm6, r4.mono tm6, s3.ok, s4.ok, by omega, s3.fin.less (by omega), s4.fin.less (by omega), tabs_bt T5 b6 (p4.exN e5), fun H7 b7 p7 T7 => ?_⟩
      refine ⟨_, rfl, ?_⟩
      refine iF rfl ?_
      -- the same, dead or not
      have r7 := (r3.mono tm6).mono (b7.tm p6)
      obtain ⟨as, fs, rfl, S7⟩ := rp_set r7
      refine ⟨_, rfl, _, rfl, ?_⟩
      refine ⟨_, rfl, 6, rfl, _, _, rfl, S7.at_, fun p8 H8 e8 h8 => ?_⟩
      refine ⟨_, rfl, _, _, _, rfl, e8 _ _ S7.at_, rfl, _, rfl, sz1, fun p9 H9 e9 h9 => ?_⟩
      refine ⟨_, _, _, _, rfl, rfl, e9 _ _ h8, h9, sz7, fun p10 H10 e10 h10 => ?_⟩
      refine ⟨_, rfl, 7, rfl, _, _, rfl, ((e8.trans e9).trans e10) _ _ S7.at_, fun p11 H11 e11 h11 => ?_⟩
      refine ⟨_, _, _, _, rfl, rfl, e11 _ _ h10, h11, sz9, fun p12 H12 e12 h12 => ?_⟩
      have e7_12 := (((e8.trans e9).trans e10).trans e11).trans e12
      have S12 : SeA H12 { s with dead := !s.dead } p12 fs := ⟨h12, S7.fu.mono (tm_ex e7_12)⟩
      refine ⟨s, { s with dead := !s.dead }, 2, 341, p, _, _, rfl, p7.ex e7_12, by omega, (sea_rp S7).mono (tm_ex e7_12), sea_rp S12, s3.ok, s3.flip.ok, by decide, s3.fin, s3.flip.fin, T7.ext e7_12, fun H13 b13 p13 T13 => ?_⟩
      refine ⟨_, rfl, ?_⟩
      refine iF rfl ?_
      have bn13 : BtN p H2 H13 := (((bn4.trans bn6).trans b7).trans (.ofE e7_12)).trans b13
      -- bare
      refine ⟨_, rfl, p, 641, rfl, p13, by omega, fun H14 v14 t14 b14 p14 r14 s14 => ?_⟩
      have T14 := tabs_bt T13 b14 p13
      obtain ⟨as2, fs2, rfl, S14⟩ := rp_set r14
      refine ⟨_, rfl, _, rfl, ?_⟩
      refine ⟨_, rfl, 5, rfl, _, _, rfl, S14.at_, fun p15 H15 e15 h15 => ?_⟩
      refine ⟨sz1, fun p16 H16 e16 h16 => ?_⟩
      refine ⟨_, _, _, _, rfl, rfl, e16 _ _ h15, h16, (show 6 ≤ sizeLine by decide), fun p17 H17 e17 h17 => ?_⟩
      refine ⟨_, rfl, 6, rfl, _, _, rfl, ((e15.trans e16).trans e17) _ _ S14.at_, fun p18 H18 e18 h18 => ?_⟩
      refine ⟨_, _, _, _, rfl, rfl, e18 _ _ h17, h18, sz9, fun p19 H19 e19 h19 => ?_⟩
      have e14_19 := (((e15.trans e16).trans e17).trans e18).trans e19
      have S19 : SeA H19 { t14 with newest := true } p19 fs2 := ⟨h19, S14.fu.mono (tm_ex e14_19)⟩
      refine ⟨_, rfl, p, 6, 661, rfl, p14.ex e14_19, by decide, by decide, by omega, fun H20 d20 b20 p20 hd20 => ⟨4, d20, rfl, rfl, ?_⟩⟩
      have tm20 := (BtN.ofB b20).tm (p14.ex e14_19)
      refine ⟨t14, { t14 with newest := true }, 4 + d20, 662, p, _, _, rfl, p20, by omega, (sea_rp S14).mono ((tm_ex e14_19).trans tm20), (sea_rp S19).mono tm20, s14.ok, s14.late.ok, by omega, s14.fin.less (by omega), s14.late.fin.less (by omega), tabs_bt (T14.ext e14_19) b20 (p14.ex e14_19), fun H21 b21 p21 T21 => ?_⟩
      refine ⟨_, rfl, ?_⟩
      refine iF rfl ?_
      have bn21 : BtN p H2 H21 := (((bn13.trans (.ofB b14)).trans (.ofE e14_19)).trans (.ofB b20)).trans b21
      -- no queue
      refine ⟨_, rfl, p, 962, rfl, p21, by omega, fun H22 p22 wk tk v5 v6 q q' b22 pp22 h22 r5 r6 w1 w3 htk n5 n6 => ?_⟩
      have T22 := tabs_bt T21 b22 p21
      refine ⟨_, _, rfl, SqL.of h22, rfl, _, _, rfl, _, _, rfl, rfl, ?_⟩
      refine ⟨_, rfl, _, rfl, ?_⟩
      refine alike_same (E := E0) (m := 3) (n5.fin w1 w3 htk) (n6.fin w1 w3 htk) r5 r6 (n5.ok w1 w3 htk) (n6.ok w1 w3 htk) (by decide) T22 (fun r => noq_anss n5 n6 r) (fun H23 a23 w23 e23 T23 h23 => ?_)
      refine ⟨_, _, _, rfl, h23, rfl, rfl, _, rfl, ?_⟩
      refine iF (by simp) ?_
      refine ⟨_, rfl, _, rfl, _, rfl, ?_⟩
      refine ⟨q, q', 3, 982, p, _, _, rfl, pp22.exN e23, by omega, r5.mono (tm_en e23), r6.mono (tm_en e23), n5.ok w1 w3 htk, n6.ok w1 w3 htk, by decide, n5.fin w1 w3 htk, n6.fin w1 w3 htk, T23, fun H24 b24 p24 T24 => ?_⟩
      refine ⟨_, rfl, ?_⟩
      refine iF rfl ?_
      have bn24 : BtN p H2 H24 := ((bn21.trans (.ofB b22)).trans (.ofN e23)).trans b24
      refine ⟨_, _, _, _, rfl, ?_, T24⟩
      exact fun b o h t => bn24 b o (fun z => by
        have := e1 b o h t
        rw [z, n2] at this; cases this) (e2 _ _ (e1 b o h t)) t
    · rintro σ H1 ⟨u1, u2, u3, u4, rfl, e1, T1⟩
      exact k H1
end
end K46
/-! part Hd -/
set_option maxHeartbeats 0
namespace K46
open PySem PySem.Spec PyProof.Rows L2
def names : List PySem.Str := ([("ANSWERED_alike" : PySem.Str), ("ANSWERED_loads" : PySem.Str), ("Graph" : PySem.Str), ("LIMIT" : PySem.Str), ("LONGEST_ROW" : PySem.Str), ("MOST_FRESH" : PySem.Str), ("MOST_OF_FUSE" : PySem.Str), ("MOST_PATIENCE" : PySem.Str), ("MOST_ROOM" : PySem.Str), ("MOST_STEADY" : PySem.Str), ("MOST_TOKENS" : PySem.Str), ("MOST_TRIES" : PySem.Str)] : List PySem.Str) ++ ([("MOST_WAIT" : PySem.Str), ("MOST_WORK" : PySem.Str), ("NoMost" : PySem.Str), ("NoRow" : PySem.Str), ("NoSetting" : PySem.Str), ("NoState" : PySem.Str), ("ServeError" : PySem.Str), ("TooMany" : PySem.Str), ("WAYS" : PySem.Str), ("__name__" : PySem.Str), ("_law_answers" : PySem.Str), ("_law_bare" : PySem.Str)] : List PySem.Str) ++ ([("_law_both" : PySem.Str), ("_law_cell_at" : PySem.Str), ("_law_comers" : PySem.Str), ("_law_draw" : PySem.Str), ("_law_few" : PySem.Str), ("_law_first" : PySem.Str), ("_law_no_queue" : PySem.Str), ("_law_pen" : PySem.Str), ("_law_pick" : PySem.Str), ("_law_right" : PySem.Str), ("_law_small" : PySem.Str), ("_law_step" : PySem.Str)] : List PySem.Str) ++ ([("_law_waited" : PySem.Str), ("aged" : PySem.Str), ("alike" : PySem.Str), ("both" : PySem.Str), ("climbed" : PySem.Str), ("coming" : PySem.Str), ("divisor" : PySem.Str), ("entered" : PySem.Str), ("first_of" : PySem.Str), ("first_state" : PySem.Str), ("full_round" : PySem.Str), ("is_count" : PySem.Str)] : List PySem.Str) ++ ([("is_fuse" : PySem.Str), ("is_later" : PySem.Str), ("is_queue" : PySem.Str), ("is_row" : PySem.Str), ("is_setting" : PySem.Str), ("is_state_of" : PySem.Str), ("is_whole" : PySem.Str), ("long_run" : PySem.Str), ("most_rest" : PySem.Str), ("most_tokens" : PySem.Str), ("need_all" : PySem.Str), ("need_most" : PySem.Str)] : List PySem.Str) ++ ([("need_setting" : PySem.Str), ("need_state" : PySem.Str), ("quotient" : PySem.Str), ("round_among" : PySem.Str), ("run" : PySem.Str), ("served" : PySem.Str), ("shut_then" : PySem.Str), ("step" : PySem.Str), ("steps" : PySem.Str), ("worst" : PySem.Str), ("worth_of" : PySem.Str)] : List PySem.Str)
abbrev R : PySem.W.OpenRow := PySem.W.OpenLaw.row PySem.Challenge.rw_comesback_k46_whole_alike_settings
abbrev hk : PySem.W.Hook := He.hookX 5 fa fn [] tf ex
def ob (s : PySem.W.SharedT) : He.AlX := He.obsX 5 fa fn [] tf ex (HandSHeadRun.getT s)
theorem ob_eq (s : PySem.W.SharedT) : ob s = hk.obs s.abs := He.obsX_eq (HandSHeadRun.getT_eq s)
theorem hrun (w : World) : HandSHeadRun.RunEq R (PySem.W.view R.prog [77]) hk ob 6000 names w := by
  intro os
  kernel_rfl
end K46
/-! part Z1 -/
set_option maxHeartbeats 600000
namespace K46
open PySem PySem.Spec PyProof.Rows L2 Evl LamX NdefX
theorem law_at {w : World} {mg : Str → Option Value} {fa0 : Addr} {h : Heap} {K : PySem.W.Frag} (X : K.In h) (c : He.SaysX fa fn [] tf ex w h K) (G : h.Ns mainGlobals mg) (hmg : mg ("law" : Str) = some (.ref fa0)) :
    LawAtS PySem.Challenge.rw_comesback_k46_whole_alike_settings w K CX0 12 63 "_law_script" mg fa0 h := by
  have cf : ∀ f ∈ fa, f.ok K = true := fun f hf => c.t.d.facts hf
  have hx := c.more
  unfold ex at hx
  obtain ⟨x1, x2⟩ := Bool.and_eq_true_iff.mp hx
  obtain ⟨x3, x4⟩ := Bool.and_eq_true_iff.mp x2
  obtain ⟨x5, x6⟩ := Bool.and_eq_true_iff.mp x4
  have B : Bas w K mg := ⟨cf, fun d hd => c.t.d.defs hd, ⟨h, X, G⟩, fun H => He.tupB_ok x1 H⟩
  obtain ⟨fd, F⟩ := B.def_ d_law (mem_at (i := 51) rfl)
  have F : FunD K d_law.name d_law.qual d_law.params d_law.body d_law.scope [] [] (He.ga K "law") fd := F
  have e := hmg.symm.trans (B.glo 49 (x := "law"))
  cases e
  have hb := FunD.bindsA (ps := ["_law_script"]) F fun _ _ _ _ _ _ us hl => match us, hl with | [_], _ => rfl
  refine ⟨fd, tf.map (He.cT K), spLaw K, fun p hp => ?_, fun p hp => ?_, fun p hp => ?_, fun s v => hb s [v] rfl, fun H a ns hl _ hT hS => ?_, fun base hK hns TB => ?_⟩
  · obtain ⟨q, hq, rfl⟩ := List.mem_map.mp hp
    exact c.empty q hq
  · obtain ⟨q, hq, rfl⟩ := List.mem_map.mp hp
    exact c.out q hq
  · obtain ⟨q, hq, rfl⟩ := List.mem_map.mp hp
    exact PySem.W.codeHd_of_K X (c.hd q hq)
  · have tb : ∀ q ∈ tf, H (He.cT K q).2 = some (.tbl #[]) := fun q hq => hT _ (List.mem_map.mpr ⟨q, hq, rfl⟩)
    refine ⟨a, ns, rfl, hS, hl, fun p hp => ?_, fun _ => rfl⟩
    unfold Tq at hp
    rcases List.mem_cons.mp hp with rfl | hp
    · exact TabS.nil (tb _ (by simp [tf]))
    rcases List.mem_cons.mp hp with rfl | hp
    · exact TabS.nil (tb _ (by simp [tf]))
    rcases List.mem_cons.mp hp with rfl | hp
    · exact TabS.nil (tb _ (by simp [tf]))
    · cases hp
  · have tb : ∀ q ∈ tf, TabB base mg (He.cT K q).1 (He.cT K q).2 := fun q hq => TB _ (List.mem_map.mpr ⟨q, hq, rfl⟩)
    exact ok_law B ⟨tb _ (by simp [tf]), tb _ (by simp [tf]), tb _ (by simp [tf]), of_decide_eq_true x3, of_decide_eq_true x5, of_decide_eq_true x6⟩ F
end K46
/-! part Z2 -/
set_option maxHeartbeats 600000
open PySem PySem.W PySem.Calls PyProof.Rows
theorem PySem.Challenge.cw_comesback_k46_whole_alike_settings_holds : PySem.Challenge.rw_comesback_k46_whole_alike_settings.Holds := by
  w_on; o_law
  refine HandSHeadRun.head_any (r := OpenLaw.row PySem.Challenge.rw_comesback_k46_whole_alike_settings) (q := view (OpenLaw.row PySem.Challenge.rw_comesback_k46_whole_alike_settings).prog [77]) (H := K46.hk) (ob := K46.ob) (M := 6000) (loose := K46.names) (d := HandSHeadRun.topDef (OpenLaw.row PySem.Challenge.rw_comesback_k46_whole_alike_settings).prog 77) (kwd := []) K46.ob_eq
    (by kernel_rfl) (fun s => by kernel_rfl) K46.hrun (by kernel_rfl) (by kernel_rfl) (by kernel_rfl) (by rfl) (by first | assumption | decide +kernel) (by decide +kernel) ⟨rfl, rfl, rfl, rfl, rfl, by decide +kernel⟩ ?hw ?hc
  case hw => w_witness2
  case hc =>
    refine LamX.walk_ofTsE (l := PySem.Challenge.rw_comesback_k46_whole_alike_settings) (n := 63) (k := 12) (x := "_law_script") (CX := fun _ => L2.CX0) rfl (by decide) (by kernel_rfl) ⟨rfl, by decide, by decide⟩ ?F (fun _ _ _ _ _ z => z)
    intro w mg fa h Y G hmg0
    obtain ⟨K, KX, c⟩ := Y
    have hmg : mg ("law" : PySem.Str) = some (.ref fa) := by
      have e : (HandSHeadRun.topDef (OpenLaw.row PySem.Challenge.rw_comesback_k46_whole_alike_settings).prog 77).name = ("law" : PySem.Str) := by kernel_rfl
      rw [← e]
      exact hmg0
    exact ⟨K, KX, K46.law_at KX c G hmg⟩
