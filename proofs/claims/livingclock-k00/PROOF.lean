import PyProof.Rows.All
import Wide.All
import OpenK.AllK
import Wide.FinOn
import KE.KStateDown
import Lean
import HandS.Head0
import HandS.Head1
import HandS.Head2
import HandS.HeadHook4
import HandS.HeadWalk
import HandS.Words
import HandS.WordsExc
import PySem.Challenge.RW_livingclock_k00_whole_law
import HandS.ForMost
import HandS.Zip
import HandS.Deep
import HandS.TupLe
import HandS.TupAny
import HandS.Conv
import HandS.Style
import HandS.Flow
import HandS.Walk
import HandS.IsInst
import HandS.Evl
import HandS.Wide
import KE.KDictKeyed
import KE.SortData
import KE.LtData
import PyProof.SumWalk
import KE.GoesMore
import HandS.Defaults
import HandS.Codes
import PySem.PyData
import KE.KDictDisplayH
import KE.KDictWalk
import HandS.TupLen
import HandS.DictComp
import HandS.SetFor
import HandS.Strs
import KE.KDictSum
import HandS.AnyAll
import HandS.GenOver
import HandS.GenList
import KE.KNestM
set_option Elab.async false
set_option linter.all false
set_option maxRecDepth 100000
set_option maxHeartbeats 0
/-! Livingclock: the top of the linked text, its defs by place, the head's facts -/
namespace LC
open PySem L2 PySem.Spec PyProof.Rows
abbrev theLaw : PySem.W.OpenLaw := PySem.Challenge.rw_livingclock_k00_whole_law
def top (i : Nat) : Stmt := PySem.Challenge.pw_livingclock_k00_whole_law.main.body.getD i (.Pass ⟨0, 0, 0, 0⟩)
abbrev s_is_number : Stmt := top 10
abbrev s_are_rising : Stmt := top 11
abbrev s_are_editions : Stmt := top 12
abbrev s_are_touches : Stmt := top 13
abbrev s_are_gaps : Stmt := top 14
abbrev s_is_entry : Stmt := top 15
abbrev s_is_book : Stmt := top 16
abbrev s_need_clock : Stmt := top 17
abbrev s_every_exchange : Stmt := top 18
abbrev s_least_needed : Stmt := top 19
abbrev s_pairs_at : Stmt := top 20
abbrev s_phases_of : Stmt := top 21
abbrev s_need_plan : Stmt := top 24
abbrev s_edition_of : Stmt := top 25
abbrev s_fit : Stmt := top 26
abbrev s_standing_of : Stmt := top 27
abbrev s_not_fitting : Stmt := top 28
abbrev s_first_bad : Stmt := top 29
abbrev s_plan_of : Stmt := top 30
abbrev s_first_wrong : Stmt := top 31
abbrev s_is_right : Stmt := top 32
abbrev s_needs_of : Stmt := top 34
abbrev s_every_lean : Stmt := top 35
abbrev s_gap_from : Stmt := top 36
abbrev s_above_touches : Stmt := top 37
abbrev s_pushed : Stmt := top 38
abbrev s_least_ticks : Stmt := top 40
abbrev s_earliest : Stmt := top 41
abbrev s_every_edge : Stmt := top 44
abbrev s_best_walks : Stmt := top 45
abbrev s_walk_of : Stmt := top 46
abbrev s_shortest_ring : Stmt := top 47
abbrev s_ring_of : Stmt := top 48
abbrev s_is_exchange_pair : Stmt := top 49
abbrev s_holds : Stmt := top 50
abbrev s_ring : Stmt := top 51
abbrev s_is_ring : Stmt := top 52
abbrev s_k_taken : Stmt := top 54
abbrev s_k_low_clock : Stmt := top 55
abbrev s_k_clock : Stmt := top 56
abbrev s_k_needed : Stmt := top 57
abbrev s_k_leans : Stmt := top 58
abbrev s_k_push : Stmt := top 59
abbrev s_k_is_ring : Stmt := top 60
abbrev s_k_bad : Stmt := top 61
abbrev s_k_standing : Stmt := top 62
abbrev s_k_first_bad : Stmt := top 63
abbrev s_law : Stmt := top 64
def d_is_number : He.DefD := ⟨("is_number", none), "is_number", "is_number", defArgs s_is_number, defBody s_is_number, defScope s_is_number, [], []⟩
def d_are_rising : He.DefD := ⟨("are_rising", none), "are_rising", "are_rising", defArgs s_are_rising, defBody s_are_rising, defScope s_are_rising, [], []⟩
def d_are_editions : He.DefD := ⟨("are_editions", none), "are_editions", "are_editions", defArgs s_are_editions, defBody s_are_editions, defScope s_are_editions, [], []⟩
def d_are_touches : He.DefD := ⟨("are_touches", none), "are_touches", "are_touches", defArgs s_are_touches, defBody s_are_touches, defScope s_are_touches, [], []⟩
def d_are_gaps : He.DefD := ⟨("are_gaps", none), "are_gaps", "are_gaps", defArgs s_are_gaps, defBody s_are_gaps, defScope s_are_gaps, [], []⟩
def d_is_entry : He.DefD := ⟨("is_entry", none), "is_entry", "is_entry", defArgs s_is_entry, defBody s_is_entry, defScope s_is_entry, [], []⟩
def d_is_book : He.DefD := ⟨("is_book", none), "is_book", "is_book", defArgs s_is_book, defBody s_is_book, defScope s_is_book, [], []⟩
def d_need_clock : He.DefD := ⟨("need_clock", none), "need_clock", "need_clock", defArgs s_need_clock, defBody s_need_clock, defScope s_need_clock, [], []⟩
def d_every_exchange : He.DefD := ⟨("every_exchange", none), "every_exchange", "every_exchange", defArgs s_every_exchange, defBody s_every_exchange, defScope s_every_exchange, [], []⟩
def d_least_needed : He.DefD := ⟨("least_needed", none), "least_needed", "least_needed", defArgs s_least_needed, defBody s_least_needed, defScope s_least_needed, [], []⟩
def d_pairs_at : He.DefD := ⟨("pairs_at", none), "pairs_at", "pairs_at", defArgs s_pairs_at, defBody s_pairs_at, defScope s_pairs_at, [], []⟩
def d_phases_of : He.DefD := ⟨("phases_of", none), "phases_of", "phases_of", defArgs s_phases_of, defBody s_phases_of, defScope s_phases_of, [], []⟩
def d_need_plan : He.DefD := ⟨("need_plan", none), "need_plan", "need_plan", defArgs s_need_plan, defBody s_need_plan, defScope s_need_plan, [], []⟩
def d_edition_of : He.DefD := ⟨("edition_of", none), "edition_of", "edition_of", defArgs s_edition_of, defBody s_edition_of, defScope s_edition_of, [], []⟩
def d_fit : He.DefD := ⟨("fit", none), "fit", "fit", defArgs s_fit, defBody s_fit, defScope s_fit, [], []⟩
def d_standing_of : He.DefD := ⟨("standing_of", none), "standing_of", "standing_of", defArgs s_standing_of, defBody s_standing_of, defScope s_standing_of, [], []⟩
def d_not_fitting : He.DefD := ⟨("not_fitting", none), "not_fitting", "not_fitting", defArgs s_not_fitting, defBody s_not_fitting, defScope s_not_fitting, [], []⟩
def d_first_bad : He.DefD := ⟨("first_bad", none), "first_bad", "first_bad", defArgs s_first_bad, defBody s_first_bad, defScope s_first_bad, [], []⟩
def d_plan_of : He.DefD := ⟨("plan_of", none), "plan_of", "plan_of", defArgs s_plan_of, defBody s_plan_of, defScope s_plan_of, [], []⟩
def d_first_wrong : He.DefD := ⟨("first_wrong", none), "first_wrong", "first_wrong", defArgs s_first_wrong, defBody s_first_wrong, defScope s_first_wrong, [], []⟩
def d_is_right : He.DefD := ⟨("is_right", none), "is_right", "is_right", defArgs s_is_right, defBody s_is_right, defScope s_is_right, [], []⟩
def d_needs_of : He.DefD := ⟨("needs_of", none), "needs_of", "needs_of", defArgs s_needs_of, defBody s_needs_of, defScope s_needs_of, [], []⟩
def d_every_lean : He.DefD := ⟨("every_lean", none), "every_lean", "every_lean", defArgs s_every_lean, defBody s_every_lean, defScope s_every_lean, [], []⟩
def d_gap_from : He.DefD := ⟨("gap_from", none), "gap_from", "gap_from", defArgs s_gap_from, defBody s_gap_from, defScope s_gap_from, [], []⟩
def d_above_touches : He.DefD := ⟨("above_touches", none), "above_touches", "above_touches", defArgs s_above_touches, defBody s_above_touches, defScope s_above_touches, [], []⟩
def d_pushed : He.DefD := ⟨("pushed", none), "pushed", "pushed", defArgs s_pushed, defBody s_pushed, defScope s_pushed, [], []⟩
def d_least_ticks : He.DefD := ⟨("least_ticks", none), "least_ticks", "least_ticks", defArgs s_least_ticks, defBody s_least_ticks, defScope s_least_ticks, [.int 0, .adr fun K => He.dflAt ("least_ticks", none) 1 K], []⟩
def d_earliest : He.DefD := ⟨("earliest", none), "earliest", "earliest", defArgs s_earliest, defBody s_earliest, defScope s_earliest, [], []⟩
def d_every_edge : He.DefD := ⟨("every_edge", none), "every_edge", "every_edge", defArgs s_every_edge, defBody s_every_edge, defScope s_every_edge, [], []⟩
def d_best_walks : He.DefD := ⟨("best_walks", none), "best_walks", "best_walks", defArgs s_best_walks, defBody s_best_walks, defScope s_best_walks, [], []⟩
def d_walk_of : He.DefD := ⟨("walk_of", none), "walk_of", "walk_of", defArgs s_walk_of, defBody s_walk_of, defScope s_walk_of, [], []⟩
def d_shortest_ring : He.DefD := ⟨("shortest_ring", none), "shortest_ring", "shortest_ring", defArgs s_shortest_ring, defBody s_shortest_ring, defScope s_shortest_ring, [], []⟩
def d_ring_of : He.DefD := ⟨("ring_of", none), "ring_of", "ring_of", defArgs s_ring_of, defBody s_ring_of, defScope s_ring_of, [], []⟩
def d_is_exchange_pair : He.DefD := ⟨("is_exchange_pair", none), "is_exchange_pair", "is_exchange_pair", defArgs s_is_exchange_pair, defBody s_is_exchange_pair, defScope s_is_exchange_pair, [], []⟩
def d_holds : He.DefD := ⟨("holds", none), "holds", "holds", defArgs s_holds, defBody s_holds, defScope s_holds, [], []⟩
def d_ring : He.DefD := ⟨("ring", none), "ring", "ring", defArgs s_ring, defBody s_ring, defScope s_ring, [], []⟩
def d_is_ring : He.DefD := ⟨("is_ring", none), "is_ring", "is_ring", defArgs s_is_ring, defBody s_is_ring, defScope s_is_ring, [], []⟩
def d_k_taken : He.DefD := ⟨("_law_taken", none), "_law_taken", "_law_taken", defArgs s_k_taken, defBody s_k_taken, defScope s_k_taken, [], []⟩
def d_k_low_clock : He.DefD := ⟨("_law_low_clock", none), "_law_low_clock", "_law_low_clock", defArgs s_k_low_clock, defBody s_k_low_clock, defScope s_k_low_clock, [], []⟩
def d_k_clock : He.DefD := ⟨("_law_clock", none), "_law_clock", "_law_clock", defArgs s_k_clock, defBody s_k_clock, defScope s_k_clock, [], []⟩
def d_k_needed : He.DefD := ⟨("_law_needed", none), "_law_needed", "_law_needed", defArgs s_k_needed, defBody s_k_needed, defScope s_k_needed, [], []⟩
def d_k_leans : He.DefD := ⟨("_law_leans", none), "_law_leans", "_law_leans", defArgs s_k_leans, defBody s_k_leans, defScope s_k_leans, [], []⟩
def d_k_push : He.DefD := ⟨("_law_push", none), "_law_push", "_law_push", defArgs s_k_push, defBody s_k_push, defScope s_k_push, [], []⟩
def d_k_is_ring : He.DefD := ⟨("_law_is_ring", none), "_law_is_ring", "_law_is_ring", defArgs s_k_is_ring, defBody s_k_is_ring, defScope s_k_is_ring, [], []⟩
def d_k_bad : He.DefD := ⟨("_law_bad", none), "_law_bad", "_law_bad", defArgs s_k_bad, defBody s_k_bad, defScope s_k_bad, [], []⟩
def d_k_standing : He.DefD := ⟨("_law_standing", none), "_law_standing", "_law_standing", defArgs s_k_standing, defBody s_k_standing, defScope s_k_standing, [], []⟩
def d_k_first_bad : He.DefD := ⟨("_law_first_bad", none), "_law_first_bad", "_law_first_bad", defArgs s_k_first_bad, defBody s_k_first_bad, defScope s_k_first_bad, [], []⟩
def d_law : He.DefD := ⟨("law", none), "law", "law", defArgs s_law, defBody s_law, defScope s_law, [], []⟩
def fn : List He.DefD := [d_is_number, d_are_rising, d_are_editions, d_are_touches, d_are_gaps, d_is_entry, d_is_book, d_need_clock, d_every_exchange, d_least_needed, d_pairs_at, d_phases_of, d_need_plan, d_edition_of, d_fit, d_standing_of, d_not_fitting, d_first_bad, d_plan_of, d_first_wrong, d_is_right, d_needs_of, d_every_lean, d_gap_from, d_above_touches] ++
  [d_pushed, d_least_ticks, d_earliest, d_every_edge, d_best_walks, d_walk_of, d_shortest_ring, d_ring_of, d_is_exchange_pair, d_holds, d_ring, d_is_ring, d_k_taken, d_k_low_clock, d_k_clock, d_k_needed, d_k_leans, d_k_push, d_k_is_ring, d_k_bad, d_k_standing, d_k_first_bad, d_law]
def fa : List He.Fa := [.glo "is_number", .glo "are_rising", .glo "are_editions", .glo "are_touches", .glo "are_gaps", .glo "is_entry", .glo "is_book", .glo "need_clock", .glo "every_exchange", .glo "least_needed", .glo "pairs_at", .glo "phases_of", .glo "need_plan", .glo "edition_of", .glo "fit", .glo "standing_of", .glo "not_fitting", .glo "first_bad", .glo "plan_of", .glo "first_wrong", .glo "is_right", .glo "needs_of", .glo "every_lean", .glo "gap_from", .glo "above_touches"] ++
  [.glo "pushed", .glo "least_ticks", .glo "earliest", .glo "every_edge", .glo "best_walks", .glo "walk_of", .glo "shortest_ring", .glo "ring_of", .glo "is_exchange_pair", .glo "holds", .glo "ring", .glo "is_ring", .glo "_law_taken", .glo "_law_low_clock", .glo "_law_clock", .glo "_law_needed", .glo "_law_leans", .glo "_law_push", .glo "_law_is_ring", .glo "_law_bad", .glo "_law_standing", .glo "_law_first_bad", .glo "law"] ++
  [.free "isinstance", .free "int", .free "bool", .free "tuple", .free "all", .free "zip", .free "len", .free "sum", .free "range", .free "enumerate", .free "max", .free "min", .free "sorted", .free "set", .free "list", .int "MOST_PERIOD" 12, .int "MOST_WHEELS" 12, .int "MOST_EDITIONS" 4, .int "MOST_EXCHANGES" 24, .int "MOST_TICK" 1000000000000000000000000000000, .int "MOST_PLANNED" 100000, .int "MOST_RING" 400]
def tf : List He.Defn := [("are_rising", none), ("are_editions", none), ("are_gaps", none), ("is_book", none), ("need_plan", none), ("is_exchange_pair", none), ("holds", none)]
def loose : List PySem.Str := (["ClockError", "BadClock", "BadPlan", "MOST_PERIOD", "MOST_WHEELS", "MOST_EDITIONS", "MOST_EXCHANGES", "MOST_TICK", "is_number", "are_rising", "are_editions", "are_touches", "are_gaps", "is_entry", "is_book", "need_clock", "every_exchange", "least_needed", "pairs_at", "phases_of", "MOST_PLANNED", "need_plan", "edition_of", "fit", "standing_of", "not_fitting", "first_bad", "plan_of", "first_wrong", "is_right"] : List PySem.Str) ++
  (["needs_of", "every_lean", "gap_from", "above_touches", "pushed", "least_ticks", "earliest", "MOST_RING", "every_edge", "best_walks", "walk_of", "shortest_ring", "ring_of", "is_exchange_pair", "holds", "ring", "is_ring", "_law_taken", "_law_low_clock", "_law_clock", "_law_needed", "_law_leans", "_law_push", "_law_is_ring", "_law_bad", "_law_standing", "_law_first_bad"] : List PySem.Str)
abbrev Rw : PySem.W.OpenRow := PySem.W.OpenLaw.row PySem.Challenge.rw_livingclock_k00_whole_law
end LC
/-! A layer over the hand layer: values told as deep data. -/
namespace LC
open PySem L2 PySem.Spec PyProof.Rows
abbrev D := PyData
abbrev Ex (H H' : Hp) : Prop := Evl.Ex H H'

/-! ### keys -/
mutual
/-- a key as the model's dicts of tuples have it -/
def keyOf : D → NestedKey
  | .int i => .num i
  | .tuple ds => .tup (keysOf ds)
  | _ => .none
def keysOf : List D → List NestedKey
  | [] => []
  | d :: ds => keyOf d :: keysOf ds
end
mutual
/-- whole numbers and tuples of such -/
def isK : D → Bool
  | .int _ => true
  | .tuple ds => isKs ds
  | _ => false
def isKs : List D → Bool
  | [] => true
  | d :: ds => isK d && isKs ds
end
def keyOk (d : D) : Bool := isK d && decide ((keyOf d).depth ≤ 8) && (match d with | .tuple _ => true | _ => false)
mutual
theorem keyOf_inj : ∀ (d e : D), isK d = true → isK e = true → keyOf d = keyOf e → d = e
  | .int i, .int j, _, _, h => by simp only [keyOf, NestedKey.num.injEq] at h; rw [h]
  | .int i, .tuple ys, _, _, h => by simp [keyOf] at h
  | .tuple xs, .int j, _, _, h => by simp [keyOf] at h
  | .tuple xs, .tuple ys, h1, h2, h => by
    simp only [keyOf, NestedKey.tup.injEq] at h
    rw [keysOf_inj xs ys (by simpa [isK] using h1) (by simpa [isK] using h2) h]
  | .int _, .none, _, h2, _ => by simp [isK] at h2
  | .int _, .bool _, _, h2, _ => by simp [isK] at h2
  | .int _, .str _, _, h2, _ => by simp [isK] at h2
  | .int _, .list _, _, h2, _ => by simp [isK] at h2
  | .int _, .dict _, _, h2, _ => by simp [isK] at h2
  | .tuple _, .none, _, h2, _ => by simp [isK] at h2
  | .tuple _, .bool _, _, h2, _ => by simp [isK] at h2
  | .tuple _, .str _, _, h2, _ => by simp [isK] at h2
  | .tuple _, .list _, _, h2, _ => by simp [isK] at h2
  | .tuple _, .dict _, _, h2, _ => by simp [isK] at h2
  | .none, _, h1, _, _ => by simp [isK] at h1
  | .bool _, _, h1, _, _ => by simp [isK] at h1
  | .str _, _, h1, _, _ => by simp [isK] at h1
  | .list _, _, h1, _, _ => by simp [isK] at h1
  | .dict _, _, h1, _, _ => by simp [isK] at h1
theorem keysOf_inj : ∀ (ds es : List D), isKs ds = true → isKs es = true → keysOf ds = keysOf es → ds = es
  | [], [], _, _, _ => rfl
  | [], _ :: _, _, _, h => by simp [keysOf] at h
  | _ :: _, [], _, _, h => by simp [keysOf] at h
  | d :: ds, e :: es, h1, h2, h => by
    simp only [keysOf, List.cons.injEq] at h
    simp only [isKs, Bool.and_eq_true] at h1 h2
    rw [keyOf_inj d e h1.1 h2.1 h.1, keysOf_inj ds es h1.2 h2.2 h.2]
end

/-! ### what stands for what -/
structure En where
  P : Program
  w : World
  K : PySem.W.Frag
abbrev Kx : Type := List (NestedKey × Addr × V)
/-- a dict whose keys' tuples stand at the told places, by its own object alone -/
def dictAt (en : En) (a : Addr) (kx : Kx) : HO := .ext fun h => kx.length ≤ sizeLine ∧ (a == sysModules) = false ∧ ∃ xs : List (NestedKey × Addr × Value),
  Paired (fun (p : NestedKey × Addr × V) (q : NestedKey × Addr × Value) => p.1 = q.1 ∧ p.2.1 = q.2.1 ∧ RelV p.2.2 q.2.2) kx xs ∧
  ∃ o es ep, h.get? a = some o ∧ o.ExactDict ∧ o.data = .dict es ep ∧ es.toList = xs.map (entryOfKey (nestedKind en.P en.w)) ∧ (xs.map (·.1)).Nodup
mutual
inductive Rep (en : En) (F : Hp) : D → V → Prop
  | none : Rep en F .none .non
  | bool (b : Bool) : Rep en F (.bool b) (.bl b)
  | int (i : Int) : Rep en F (.int i) (.int i)
  | list {a : Addr} {xs : List V} {ds : List D} : F a = some (.lst xs) → RepA en F ds xs → Rep en F (.list ds) (.ref a)
  | tuple {a : Addr} {xs : List V} {ds : List D} : SqT en.K F a xs → RepA en F ds xs → Rep en F (.tuple ds) (.ref a)
  | dict {a : Addr} {kx : Kx} {kvs : List (D × D)} {od : Obj} : F a = some (.frz od (dictAt en a kx)) → RepK en F kvs kx → Rep en F (.dict kvs) (.ref a)
inductive RepA (en : En) (F : Hp) : List D → List V → Prop
  | nil : RepA en F [] []
  | cons {d : D} {v : V} {ds : List D} {vs : List V} : Rep en F d v → RepA en F ds vs → RepA en F (d :: ds) (v :: vs)
inductive RepK (en : En) (F : Hp) : List (D × D) → Kx → Prop
  | nil : RepK en F [] []
  | cons {k v : D} {a : Addr} {x : V} {r : List (D × D)} {s : Kx} : keyOk k = true → Rep en F k (.ref a) → Rep en F v x → RepK en F r s → RepK en F ((k, v) :: r) ((keyOf k, a, x) :: s)
end
section
variable {en : En} {F F' : Hp}
theorem ex_rd {a : Addr} {u : HO} (e : Ex F F') (h : Rd F a u) : Rd F' a u := Evl.ex_rd e h
mutual
theorem Rep.mono (e : Ex F F') : ∀ {d : D} {v : V}, Rep en F d v → Rep en F' d v
  | _, _, .none => .none
  | _, _, .bool b => .bool b
  | _, _, .int i => .int i
  | _, _, .list h r => .list (e _ _ h) (RepA.mono e r)
  | _, _, .tuple h r => .tuple (Evl.ex_t e h) (RepA.mono e r)
  | _, _, .dict h r => .dict (e _ _ h) (RepK.mono e r)
theorem RepA.mono (e : Ex F F') : ∀ {ds : List D} {vs : List V}, RepA en F ds vs → RepA en F' ds vs
  | _, _, .nil => .nil
  | _, _, .cons h r => .cons (Rep.mono e h) (RepA.mono e r)
theorem RepK.mono (e : Ex F F') : ∀ {kvs : List (D × D)} {kx : Kx}, RepK en F kvs kx → RepK en F' kvs kx
  | _, _, .nil => .nil
  | _, _, .cons h1 h2 h3 r => .cons h1 (Rep.mono e h2) (Rep.mono e h3) (RepK.mono e r)
end
theorem RepA.length : ∀ {ds : List D} {vs : List V}, RepA en F ds vs → ds.length = vs.length
  | _, _, .nil => rfl
  | _, _, .cons _ r => congrArg (· + 1) (RepA.length r)
theorem RepA.get : ∀ {ds : List D} {vs : List V} {i : Nat} {d : D}, RepA en F ds vs → ds[i]? = some d → ∃ v, vs[i]? = some v ∧ Rep en F d v
  | _, _, _, _, .nil, e => by simp at e
  | _, _, 0, _, .cons h _, e => by simp at e; subst e; exact ⟨_, rfl, h⟩
  | _, _, i + 1, d, .cons _ r, e => by
    obtain ⟨v, h1, h2⟩ := RepA.get (i := i) (d := d) r (by simpa using e)
    exact ⟨v, by simpa using h1, h2⟩
theorem RepA.append : ∀ {ds es : List D} {vs us : List V}, RepA en F ds vs → RepA en F es us → RepA en F (ds ++ es) (vs ++ us)
  | _, _, _, _, .nil, s => s
  | _, _, _, _, .cons h r, s => .cons h (RepA.append r s)
theorem RepA.set : ∀ {ds : List D} {vs : List V} {d : D} {v : V} (i : Nat), RepA en F ds vs → Rep en F d v → RepA en F (ds.set i d) (vs.set i v)
  | _, _, _, _, _, .nil, _ => .nil
  | _, _, _, _, 0, .cons _ r, q => .cons q r
  | _, _, _, _, i + 1, .cons h r, q => .cons h (RepA.set i r q)
theorem RepA.drop : ∀ {ds : List D} {vs : List V} (n : Nat), RepA en F ds vs → RepA en F (ds.drop n) (vs.drop n)
  | _, _, 0, r => r
  | _, _, _ + 1, .nil => .nil
  | _, _, n + 1, .cons _ r => RepA.drop n r
theorem RepA.take : ∀ {ds : List D} {vs : List V} (n : Nat), RepA en F ds vs → RepA en F (ds.take n) (vs.take n)
  | _, _, 0, _ => .nil
  | _, _, _ + 1, .nil => .nil
  | _, _, n + 1, .cons h r => .cons h (RepA.take n r)
theorem RepA.reverse : ∀ {ds : List D} {vs : List V}, RepA en F ds vs → RepA en F ds.reverse vs.reverse
  | _, _, .nil => .nil
  | _, _, .cons h r => by
    rw [List.reverse_cons, List.reverse_cons]
    exact (RepA.reverse r).append (.cons h .nil)
/-- ints -/
theorem RepA.ints : ∀ {ns : List Int} {vs : List V}, RepA en F (ns.map PyData.int) vs → vs = ns.map V.int
  | [], _, r => by cases r; rfl
  | n :: ns, _, r => by
    cases r with
    | cons h r => cases h; rw [RepA.ints r]; rfl
theorem RepA.of_ints : ∀ (ns : List Int), RepA en F (ns.map PyData.int) (ns.map V.int)
  | [] => .nil
  | n :: ns => .cons (.int n) (RepA.of_ints ns)
end
end LC
/-! What an expression, a test, a statement comes to, over deep data. -/
namespace LC
open PySem L2 PySem.Spec PyProof.Rows
/-! ### heaps: H all that is tracked, F what is known for good, Wl the places that may change under a word -/
abbrev Wild := List (Addr × (HO → Prop))
def WlOk (Wl : Wild) (F H : Hp) : Prop := ∀ p ∈ Wl, F p.1 = none ∧ ∃ o, H p.1 = some o ∧ p.2 o
def Tame (Wl : Wild) (a : Addr) : Prop := ∀ p ∈ Wl, p.1 ≠ a
structure At (Wl : Wild) (F H : Hp) : Prop where
  fh : Ex F H
  wl : WlOk Wl F H
structure Gr (Wl : Wild) (F H F' H' : Hp) : Prop where
  ff : Ex F F'
  hh : ∀ a o, H a = some o → Tame Wl a → H' a = some o
  nw : ∀ a, H a ≠ none → F a = none → F' a = none
  at_ : At Wl F' H'
section
variable {Wl : Wild} {F H F' H' F2 H2 : Hp}
theorem Gr.refl (h : At Wl F H) : Gr Wl F H F H := ⟨Evl.Ex.refl F, fun _ _ e _ => e, fun _ _ e => e, h⟩
theorem At.tame (h : At Wl F H) {a : Addr} {o : HO} (e : F a = some o) : Tame Wl a := fun p hp z => by
  have q := (h.wl p hp).1
  rw [z, e] at q; cases q
theorem Gr.there (g : Gr Wl F H F' H') (a : Addr) (h : H a ≠ none) : H' a ≠ none := by
  by_cases t : Tame Wl a
  · cases e : H a with
    | none => exact absurd e h
    | some o => rw [g.hh a o e t]; simp
  · have ⟨p, hp⟩ := Classical.not_forall.mp t
    have ⟨hm, he⟩ := Classical.not_imp.mp hp
    have he' : p.1 = a := Classical.not_not.mp he
    obtain ⟨_, o, e, _⟩ := g.at_.wl p hm
    rw [he'] at e; rw [e]; simp
theorem Gr.trans (a : Gr Wl F H F' H') (b : Gr Wl F' H' F2 H2) : Gr Wl F H F2 H2 :=
  ⟨a.ff.trans b.ff, fun x o e t => b.hh x o (a.hh x o e t) t, fun x h e => b.nw x (a.there x h) (a.nw x h e), b.at_⟩
/-- a new object, known for good -/
theorem Gr.new (h : At Wl F H) {p : Addr} {o : HO} (hp : H p = none) : Gr Wl F H (upd F p o) (upd H p o) := by
  have fp : F p = none := by
    cases q : F p with
    | none => rfl
    | some u => rw [h.fh p u q] at hp; cases hp
  have tp : ∀ q ∈ Wl, q.1 ≠ p := fun q hq z => by
    obtain ⟨_, o', e, _⟩ := h.wl q hq
    rw [z, hp] at e; cases e
  refine ⟨Evl.Ex.new fp, fun a u e _ => ?_, fun a h1 h2 => ?_, fun a u e => ?_, fun q hq => ?_⟩
  · rw [upd_ne (ne_of_none e hp)]; exact e
  · have : a ≠ p := fun z => h1 (by rw [z]; exact hp)
    rw [upd_ne this]; exact h2
  · by_cases z : a = p
    · subst z; rw [upd_same] at e ⊢; exact e
    · rw [upd_ne z] at e ⊢; exact h.fh a u e
  · obtain ⟨q1, u, q2, q3⟩ := h.wl q hq
    exact ⟨by rw [upd_ne (tp q hq)]; exact q1, u, by rw [upd_ne (tp q hq)]; exact q2, q3⟩
/-- a new object, not (yet) known for good -/
theorem Gr.fresh (h : At Wl F H) {p : Addr} {o : HO} (hp : H p = none) : Gr Wl F H F (upd H p o) := by
  have tp : ∀ q ∈ Wl, q.1 ≠ p := fun q hq z => by
    obtain ⟨_, o', e, _⟩ := h.wl q hq
    rw [z, hp] at e; cases e
  refine ⟨Evl.Ex.refl F, fun a u e _ => ?_, fun a h1 h2 => h2, fun a u e => ?_, fun q hq => ?_⟩
  · rw [upd_ne (ne_of_none e hp)]; exact e
  · rw [upd_ne (ne_of_none (h.fh a u e) hp)]; exact h.fh a u e
  · obtain ⟨q1, u, q2, q3⟩ := h.wl q hq
    exact ⟨q1, u, by rw [upd_ne (tp q hq)]; exact q2, q3⟩
end

/-! ### what a slot holds -/
inductive R where
  /-- data known for good -/
  | val (d : D)
  /-- a list or a dict that is the frame's own, and may change -/
  | own (d : D)
  /-- a place -/
  | adr (a : Addr)
def OwnAt (en : En) (F H : Hp) (a : Addr) : D → Prop
  | .list ds => ∃ xs, H a = some (.lst xs) ∧ RepA en F ds xs
  | .dict kvs => ∃ kx, H a = some (dictAt en a kx) ∧ RepK en F kvs kx
  | _ => False
def RepR (en : En) (Wl : Wild) (F H : Hp) : R → V → Prop
  | .val d, v => Rep en F d v
  | .own d, v => ∃ a, v = .ref a ∧ F a = none ∧ Tame Wl a ∧ OwnAt en F H a d
  | .adr a, v => v = .ref a
section
variable {en : En} {Wl : Wild} {F H F' H' : Hp}
theorem OwnAt.there {a : Addr} {d : D} (h : OwnAt en F H a d) : H a ≠ none := by
  cases d with
  | list ds => obtain ⟨xs, e, _⟩ := h; rw [e]; simp
  | dict kvs => obtain ⟨xs, e, _⟩ := h; rw [e]; simp
  | _ => exact h.elim
theorem OwnAt.mono {a : Addr} {d : D} (e : Ex F F') (k : ∀ o, H a = some o → H' a = some o) (h : OwnAt en F H a d) : OwnAt en F' H' a d := by
  cases d with
  | list ds => obtain ⟨xs, q, r⟩ := h; exact ⟨xs, k _ q, r.mono e⟩
  | dict kvs => obtain ⟨xs, q, r⟩ := h; exact ⟨xs, k _ q, r.mono e⟩
  | _ => exact h.elim
theorem RepR.mono {r : R} {v : V} (g : Gr Wl F H F' H') (h : RepR en Wl F H r v) : RepR en Wl F' H' r v := by
  cases r with
  | val d => exact Rep.mono g.ff h
  | adr a => exact h
  | own d =>
    obtain ⟨a, e, f, t, o⟩ := h
    exact ⟨a, e, g.nw a o.there f, t, o.mono g.ff fun u q => g.hh a u q t⟩
end
abbrev Env' := List (Option R)
structure Slots (en : En) (Wl : Wild) (ρ : Env') (F H : Hp) (σ : L2.St) : Prop where
  len : ρ.length = σ.length
  at_ : ∀ (i : Nat) (r : R), ρ[i]? = some (some r) → ∃ v, σ[i]? = some (some v) ∧ RepR en Wl F H r v
theorem Slots.mono {en : En} {Wl : Wild} {ρ : Env'} {F H F' H' : Hp} {σ : L2.St} (g : Gr Wl F H F' H') (h : Slots en Wl ρ F H σ) : Slots en Wl ρ F' H' σ :=
  ⟨h.len, fun i r e => let ⟨v, q, z⟩ := h.at_ i r e; ⟨v, q, z.mono g⟩⟩
theorem Slots.set {en : En} {Wl : Wild} {ρ : Env'} {F H : Hp} {σ : L2.St} (h : Slots en Wl ρ F H σ) {i : Nat} {r : R} {v : V} (q : RepR en Wl F H r v) : Slots en Wl (ρ.set i (some r)) F H (σ.set i (some v)) := by
  refine ⟨by rw [List.length_set, List.length_set]; exact h.len, fun j r' e => ?_⟩
  by_cases hj : i = j
  · subst hj
    by_cases hi : i < ρ.length
    · rw [List.getElem?_set_self hi] at e
      cases e
      exact ⟨v, by rw [List.getElem?_set_self (by rw [← h.len]; exact hi)], q⟩
    · rw [List.getElem?_eq_none (by rw [List.length_set]; omega)] at e; cases e
  · rw [List.getElem?_set_ne hj] at e
    rw [List.getElem?_set_ne hj]
    exact h.at_ j r' e
/-- the slots of a comprehension's own names forgotten -/
def wipeR (ρ : Env') : List Nat → Env'
  | [] => ρ
  | v :: vs => (wipeR ρ vs).set v none
theorem Slots.wipe {en : En} {Wl : Wild} {ρ : Env'} {F H : Hp} {σ : L2.St} (h : Slots en Wl ρ F H σ) : ∀ vs : List Nat, Slots en Wl (wipeR ρ vs) F H (wipe σ vs)
  | [] => h
  | v :: vs => by
    have ih := h.wipe vs
    refine ⟨by unfold wipeR L2.wipe; rw [List.length_set, List.length_set]; exact ih.len, fun j r e => ?_⟩
    unfold wipeR at e
    unfold L2.wipe
    by_cases hj : v = j
    · subst hj
      by_cases hv : v < (wipeR ρ vs).length
      · rw [List.getElem?_set_self hv] at e; cases e
      · rw [List.getElem?_eq_none (by rw [List.length_set]; omega)] at e; cases e
    · rw [List.getElem?_set_ne hj] at e ⊢
      exact ih.at_ j r e

/-! ### an expression, a test -/
abbrev cxEn (X : Cx) : En := ⟨X.prog, X.w, X.K⟩
def tSem (X : Cx) (e : Expr) : TE := fun σ H C => ∀ (pins : List (Addr × Obj)) (s : Shared), Inv X pins σ H s → wpAny (model X.prog X.w) X.A (eval e X.env) (EP X pins σ C) X.xe s
def tSemT (X : Cx) (e : Expr) : TT := fun σ H C => ∀ (pins : List (Addr × Obj)) (s : Shared), Inv X pins σ H s → wpAny (model X.prog X.w) X.A (isTrue e X.env (eval e X.env)) (TP X pins σ C) X.xe s
def tSemW (X : Cx) (e : Expr) : TT := fun σ H C => ∀ (whole : Sem Value) (pins : List (Addr × Obj)) (s : Shared), Inv X pins σ H s → wpAny (model X.prog X.w) X.A (isTrue e X.env whole) (TP X pins σ C) X.xe s
theorem pe_sem {X : Cx} {e : Expr} : PE X e (tSem X e) := ⟨fun pins s σ H Q I h => h pins s I⟩
theorem pt_sem {X : Cx} {e : Expr} : PT X e (tSemT X e) := ⟨fun pins s σ H Q I h => h pins s I⟩
theorem pw_sem {X : Cx} {e : Expr} : PW X e (tSemW X e) := ⟨fun wh pins s σ H Q I h => h wh pins s I⟩
theorem _root_.L2.PE.sem {X : Cx} {e : Expr} {t : TE} (h : PE X e t) {σ : L2.St} {H : Hp} {C : VK} (q : t σ H C) : tSem X e σ H C := fun pins s I => h.run pins s σ H C I q
theorem _root_.L2.PT.sem {X : Cx} {e : Expr} {t : TT} (h : PT X e t) {σ : L2.St} {H : Hp} {C : Bool → Hp → Prop} (q : t σ H C) : tSemT X e σ H C := fun pins s I => h.run pins s σ H C I q
theorem _root_.L2.PW.sem {X : Cx} {e : Expr} {t : TT} (h : PW X e t) {σ : L2.St} {H : Hp} {C : Bool → Hp → Prop} (q : t σ H C) : tSemW X e σ H C := fun wh pins s I => h.run wh pins s σ H C I q

/-- e comes to some r with Q r, what is known only growing -/
def WE (X : Cx) (Wl : Wild) (ρ : Env') (e : Expr) (Q : R → Prop) : Prop :=
  ∀ (F H : Hp) (σ : L2.St) (C : VK), At Wl F H → Slots (cxEn X) Wl ρ F H σ → (∀ r v F' H', Q r → Gr Wl F H F' H' → RepR (cxEn X) Wl F' H' r v → C v H') → tSem X e σ H C
/-- .. to a new list or dict -/
def WN (X : Cx) (Wl : Wild) (ρ : Env') (e : Expr) (Q : D → Prop) : Prop :=
  ∀ (F H : Hp) (σ : L2.St) (C : VK), At Wl F H → Slots (cxEn X) Wl ρ F H σ → (∀ d a F' H', Q d → Gr Wl F H F' H' → H a = none → F' a = none → Tame Wl a → OwnAt (cxEn X) F' H' a d → C (.ref a) H') → tSem X e σ H C
def WT (X : Cx) (Wl : Wild) (ρ : Env') (e : Expr) (Q : Bool → Prop) : Prop :=
  ∀ (F H : Hp) (σ : L2.St) (C : Bool → Hp → Prop), At Wl F H → Slots (cxEn X) Wl ρ F H σ → (∀ b F' H', Q b → Gr Wl F H F' H' → C b H') → tSemT X e σ H C
def WW (X : Cx) (Wl : Wild) (ρ : Env') (e : Expr) (Q : Bool → Prop) : Prop :=
  ∀ (F H : Hp) (σ : L2.St) (C : Bool → Hp → Prop), At Wl F H → Slots (cxEn X) Wl ρ F H σ → (∀ b F' H', Q b → Gr Wl F H F' H' → C b H') → tSemW X e σ H C
section
variable {X : Cx} {Wl : Wild} {ρ : Env'} {e a b c : Expr} {pos : Pos} {Q Q' : R → Prop}
theorem WE.mono (h : WE X Wl ρ e Q) (k : ∀ r, Q r → Q' r) : WE X Wl ρ e Q' := fun F H σ C ha hs hc => h F H σ C ha hs fun r v F' H' q => hc r v F' H' (k r q)
theorem WW.wt {Q : Bool → Prop} (h : WW X Wl ρ e Q) : WT X Wl ρ e Q := fun F H σ C ha hs hc pins s I => h F H σ C ha hs hc _ pins s I
/-- what is new may be taken as known for good (a dict stays as it is, unlocked) -/
theorem freeze_gr {F H F' H' : Hp} {a : Addr} {o : HO} (g : Gr Wl F H F' H') (hn : H a = none) (t : Tame Wl a) (e : H' a = some o) : Gr Wl F H (upd F' a o) H' := by
  refine ⟨fun x u q => ?_, g.hh, fun x h1 h2 => ?_, fun x u q => ?_, fun p hp => ?_⟩
  · by_cases z : x = a
    · subst z
      have := g.at_.fh x u (g.ff x u q)
      rw [e] at this; cases this
      exact upd_same
    · rw [upd_ne z]; exact g.ff x u q
  · have : x ≠ a := fun z => h1 (by rw [z]; exact hn)
    rw [upd_ne this]; exact g.nw x h1 h2
  · by_cases z : x = a
    · subst z; rw [upd_same] at q; cases q; exact e
    · rw [upd_ne z] at q; exact g.at_.fh x u q
  · obtain ⟨q1, u, q2, q3⟩ := g.at_.wl p hp
    exact ⟨by rw [upd_ne (t p hp)]; exact q1, u, q2, q3⟩
theorem OwnAt.some {en : En} {F H : Hp} {a : Addr} {d : D} (h : OwnAt en F H a d) : ∃ o, H a = Option.some o := by
  cases q : H a with
  | none => exact absurd q h.there
  | some o => exact ⟨o, rfl⟩
/-- what is locked behind an expression -/
theorem tSem_lock {σ : L2.St} {H : Hp} {C : VK} (h : tSem X e σ H fun x H' => C x H' ∨ ∃ a u, x = .ref a ∧ H' a = Option.some u ∧ Mut (Option.some u) ∧ ∀ od, C x (upd H' a (.frz od u))) : tSem X e σ H C := fun pins s I => thn (h pins s I) fun u s1 ⟨x, H1, I1, r1, q⟩ => by
  rcases q with q | ⟨a, ob, rfl, ha, mu, q⟩
  · exact ⟨x, H1, I1, r1, q⟩
  · obtain ⟨od, I2⟩ := I1.lock ha mu
    exact ⟨_, _, I2, r1, q od⟩
theorem lock_gr {F H F' H' : Hp} {a : Addr} {o : HO} (g : Gr Wl F H F' H') (hn : H a = none) (fn : F' a = none) (t : Tame Wl a) : Gr Wl F H (upd F' a o) (upd H' a o) := by
  refine ⟨fun x u q => ?_, fun x u e tx => ?_, fun x h1 h2 => ?_, fun x u q => ?_, fun p hp => ?_⟩
  · have : x ≠ a := fun z => by
      have := g.ff x u q
      rw [z, fn] at this; cases this
    rw [upd_ne this]; exact g.ff x u q
  · have : x ≠ a := fun z => by rw [z, hn] at e; cases e
    rw [upd_ne this]; exact g.hh x u e tx
  · have : x ≠ a := fun z => h1 (by rw [z]; exact hn)
    rw [upd_ne this]; exact g.nw x h1 h2
  · by_cases z : x = a
    · subst z; rw [upd_same] at q ⊢; exact q
    · rw [upd_ne z] at q ⊢; exact g.at_.fh x u q
  · obtain ⟨q1, u, q2, q3⟩ := g.at_.wl p hp
    exact ⟨by rw [upd_ne (t p hp)]; exact q1, u, by rw [upd_ne (t p hp)]; exact q2, q3⟩
theorem WN.we {Q : R → Prop} (h : WN X Wl ρ e fun d => Q (.val d)) : WE X Wl ρ e Q := fun F H σ C ha hs hc => tSem_lock (h F H σ _ ha hs fun d a F' H' q g hn fa t o => by
  cases d with
  | list ds =>
    obtain ⟨xs, e, r⟩ := o
    exact .inl (hc (.val (.list ds)) _ (upd F' a (.lst xs)) H' q (freeze_gr g hn t e) (.list upd_same (r.mono (Evl.Ex.new fa))))
  | dict kvs =>
    obtain ⟨kx, e, r⟩ := o
    exact .inr ⟨a, _, rfl, e, trivial, fun od => hc (.val (.dict kvs)) _ _ _ q (lock_gr g hn fa t) (.dict upd_same (r.mono (Evl.Ex.new fa)))⟩
  | _ => exact o.elim)

/-! ### names, constants -/
theorem we_var (i : Nat) {x : Str} {r : R} (hr : ρ[i]? = some (some r)) (h : Q r) (hN : X.N[i]? = some x := by rfl) (hv : Vis X.env.scope x := by first | exact Or.inl rfl | exact Or.inr (Or.inl rfl) | exact Or.inr (Or.inr rfl)) (hd : (x == ("__debug__" : Str)) = false := by decide)
    (hcd : (x == ("__classdict__" : Str)) = false := by decide) : WE X Wl ρ (.Name x pos) Q := fun F H σ C ha hs hc => (pe_var (i := i) hN hv hd hcd).sem (by
  obtain ⟨v, e, q⟩ := hs.at_ i r hr
  exact ⟨v, e, hc r v F H h (Gr.refl ha) q⟩)
theorem we_int {i : Int} {j : Nat} (h : Q (.val (.int i))) : WE X Wl ρ (.Constant (.int i) j pos) Q := fun F H σ C ha hs hc => pe_int.sem (hc _ _ F H h (Gr.refl ha) (Rep.int i))
theorem we_bool {i : Bool} {j : Nat} (h : Q (.val (.bool i))) : WE X Wl ρ (.Constant (.bool i) j pos) Q := fun F H σ C ha hs hc => pe_bl.sem (hc _ _ F H h (Gr.refl ha) (Rep.bool i))
theorem we_none {j : Nat} (h : Q (.val .none)) : WE X Wl ρ (.Constant .none j pos) Q := fun F H σ C ha hs hc => pe_non.sem (hc _ _ F H h (Gr.refl ha) Rep.none)
/-- a constant of the module, a whole number -/
theorem we_globI {x : Str} {i : Int} {t : Tok} (hm : X.mg x = some (.int i t)) (h : Q (.val (.int i))) (hg : Gl X x := by rfl) (hd : (x == ("__debug__" : Str)) = false := by decide) : WE X Wl ρ (.Name x pos) Q :=
  fun F H σ C ha hs hc => (pe_glob (v := .int i) hg hm ⟨t, rfl⟩ hd).sem (hc _ _ F H h (Gr.refl ha) (Rep.int i))

/-! ### two operands -/
/-- by values, over deep data: what r asks is had where k holds -/
def DOp (en : En) (Wl : Wild) (r : R2) (k : R → R → (R → Prop) → Prop) : Prop := ∀ (F H : Hp) (x y : R) (v u : V) (Q : R → Prop) (C : VK), At Wl F H → RepR en Wl F H x v → RepR en Wl F H y u → k x y Q →
  (∀ r v F' H', Q r → Gr Wl F H F' H' → RepR en Wl F' H' r v → C v H') → r v u H C
theorem two_sem {r : R2} {k : R → R → (R → Prop) → Prop} (hd : DOp (cxEn X) Wl r k) {F H : Hp} {σ : L2.St} {C : VK} (ha : At Wl F H) (hs : Slots (cxEn X) Wl ρ F H σ)
    (h : WE X Wl ρ a fun x => WE X Wl ρ b fun y => k x y Q) (hc : ∀ r v F' H', Q r → Gr Wl F H F' H' → RepR (cxEn X) Wl F' H' r v → C v H') : tOp r (tSem X a) (tSem X b) σ H C :=
  h F H σ _ ha hs fun x v F1 H1 hx g1 r1 => hx F1 H1 σ _ g1.at_ (hs.mono g1) fun y u F2 H2 hk g2 r2 => hd F2 H2 x y v u Q C g2.at_ (r1.mono g2) r2 hk fun r w F3 H3 q g3 r3 => hc r w F3 H3 q ((g1.trans g2).trans g3) r3
theorem we_bin {op : Operator} {r : R2} {k : R → R → (R → Prop) → Prop} (ho : OpR X (binaryOp op) r) (hd : DOp (cxEn X) Wl r k) (h : WE X Wl ρ a fun x => WE X Wl ρ b fun y => k x y Q) : WE X Wl ρ (.BinOp a op b pos) Q :=
  fun F H σ C ha hs hc => (pe_op ho pe_sem pe_sem).sem (two_sem hd ha hs h hc)
theorem we_cmp {op : CmpOp} {r : R2} {k : R → R → (R → Prop) → Prop} (ho : OpR X (compareOp op) r) (hd : DOp (cxEn X) Wl r k) (hm : behindInMarks op b = false) (h : WE X Wl ρ a fun x => WE X Wl ρ b fun y => k x y Q) : WE X Wl ρ (.Compare a [op] [b] pos) Q :=
  fun F H σ C ha hs hc => (pe_cmpR ho pe_sem pe_sem hm).sem (two_sem hd ha hs h hc)
/-- a value that is a truth value -/
def boolK (Q : Bool → Prop) : R → Prop
  | .val (.bool b) => Q b
  | _ => False
theorem wt_cmp {op : CmpOp} {r : R2} {k : R → R → (R → Prop) → Prop} {Q : Bool → Prop} (ho : OpR X (compareOp op) r) (hd : DOp (cxEn X) Wl r k) (hm : behindInMarks op b = false) (h : WE X Wl ρ a fun x => WE X Wl ρ b fun y => k x y (boolK Q)) : WT X Wl ρ (.Compare a [op] [b] pos) Q :=
  fun F H σ C ha hs hc => (pt_cmpR ho pe_sem pe_sem hm).sem (two_sem hd ha hs h fun r v F' H' q g rr => by
    match r, q, rr with
    | .val (.bool x), q, rr => cases rr; exact ⟨x, rfl, hc x F' H' q g⟩)
end
end LC
/-! Operators over deep data. -/
namespace LC
open PySem L2 PySem.Spec PyProof.Rows
/-! ### plain data: whole numbers, truth values, None, tuples and lists of such, to a depth -/
def pl : Nat → D → Bool
  | _, .int _ => true
  | _, .none => true
  | _, .bool _ => true
  | n + 1, .tuple ds => ds.all (pl n)
  | n + 1, .list ds => ds.all (pl n)
  | _, _ => false
theorem pl_lay : ∀ (n : Nat) (d : D), pl n d = true → d.canLay0 = true ∧ d.depth ≤ n := by
  intro n
  induction n with
  | zero =>
    intro d h
    cases d <;> simp [pl, PyData.canLay0, PyData.depth] at h ⊢
  | succ n ih =>
    have all : ∀ ds : List D, ds.all (pl n) = true → PyData.canLayAll0 ds = true ∧ PyData.depthAll ds ≤ n := by
      intro ds
      induction ds with
      | nil => intro _; simp [PyData.canLayAll0, PyData.depthAll]
      | cons d ds ih2 =>
        intro h
        simp only [List.all_cons, Bool.and_eq_true] at h
        have h1 := ih d h.1
        have h2 := ih2 h.2
        simp only [PyData.canLayAll0, PyData.depthAll, h1.1, h2.1, Bool.and_self, true_and]
        omega
    intro d h
    cases d with
    | tuple ds =>
      have := all ds (by simpa [pl] using h)
      simp only [PyData.canLay0, PyData.depth, this.1, true_and]
      omega
    | list ds =>
      have := all ds (by simpa [pl] using h)
      simp only [PyData.canLay0, PyData.depth, this.1, true_and]
      omega
    | _ => simp [pl, PyData.canLay0, PyData.depth] at h ⊢
theorem pl_shaped {n : Nat} {d : D} (h : pl n d = true) (hn : n ≤ 64 := by decide) : SeqAt.shaped d = true := by
  obtain ⟨h1, h2⟩ := pl_lay n d h
  unfold SeqAt.shaped
  rw [h1, decide_eq_true (Nat.le_trans h2 hn)]
  rfl
section
variable {en : En} {F H : Hp}
theorem Rep.dp (e : Ex F H) : ∀ (n : Nat) {d : D} {v : V}, pl n d = true → Rep en F d v → Dp en.K H v d := by
  intro n
  induction n with
  | zero =>
    intro d v h r
    cases r with
    | none => exact .non
    | bool b => exact .bl b
    | int i => exact .int i
    | _ => simp [pl] at h
  | succ n ih =>
    have all : ∀ (ds : List D) (vs : List V), ds.all (pl n) = true → RepA en F ds vs → DpAll en.K H vs ds := by
      intro ds
      induction ds with
      | nil => intro vs _ r; cases r; exact .nil
      | cons d ds ih2 =>
        intro vs h r
        simp only [List.all_cons, Bool.and_eq_true] at h
        cases r with
        | cons r1 r2 => exact .cons (ih h.1 r1) (ih2 _ h.2 r2)
    intro d v h r
    cases r with
    | none => exact .non
    | bool b => exact .bl b
    | int i => exact .int i
    | list h1 h2 => exact .lst (.inl (.inl (e _ _ h1))) (all _ _ (by simpa [pl] using h) h2)
    | tuple h1 h2 => exact .tup (Evl.ex_t e h1) (all _ _ (by simpa [pl] using h) h2)
    | dict h1 h2 => simp [pl] at h
/-- an own list reads as a list too -/
theorem RepA.dps (e : Ex F H) {n : Nat} : ∀ (ds : List D) {vs : List V}, ds.all (pl n) = true → RepA en F ds vs → DpAll en.K H vs ds
  | [], _, _, r => by cases r; exact .nil
  | d :: ds, _, h, r => by
    simp only [List.all_cons, Bool.and_eq_true] at h
    cases r with
    | cons r1 r2 => exact .cons (r1.dp e n h.1) (RepA.dps e ds h.2 r2)
/-- a list, a tuple as an object that is read -/
theorem RepR.seqL {Wl : Wild} {v : V} {ds : List D} (a : At Wl F H) (h : RepR en Wl F H (.val (.list ds)) v ∨ RepR en Wl F H (.own (.list ds)) v) : ∃ p xs, v = .ref p ∧ H p = some (.lst xs) ∧ RepA en F ds xs := by
  rcases h with h | ⟨p, rfl, _, _, xs, q, r⟩
  · have h' : Rep en F (.list ds) v := h
    cases h' with
    | list h1 h2 => exact ⟨_, _, rfl, a.fh _ _ h1, h2⟩
  · exact ⟨p, xs, rfl, q, r⟩
theorem Rep.seqT {Wl : Wild} {v : V} {ds : List D} (a : At Wl F H) (h : Rep en F (.tuple ds) v) : ∃ p xs, v = .ref p ∧ SqT en.K H p xs ∧ RepA en F ds xs := by
  cases h with
  | tuple h1 h2 => exact ⟨_, _, rfl, Evl.ex_t a.fh h1, h2⟩
end

/-! ### + - * % -/
section
variable {X : Cx} {en : En} {Wl : Wild}
def rAddA (K : PySem.W.Frag) : R2 := fun x y H Q => rI0 (fun i j => V.int (i + j)) x y H Q ∨ (rCatA K x y H Q ∨ rCat x y H Q)
theorem op_addA : OpR X (binaryOp .Add) (rAddA X.K) := OpR.or op_add (OpR.or op_catA op_cat)
def addK : R → R → (R → Prop) → Prop
  | .val (.int i), .val (.int j), Q => Q (.val (.int (i + j)))
  | .val (.tuple xs), .val (.tuple ys), Q => xs.length + ys.length ≤ sizeLine ∧ Q (.val (.tuple (xs ++ ys)))
  | .val (.list xs), .val (.list ys), Q => xs.length + ys.length ≤ sizeLine ∧ Q (.val (.list (xs ++ ys)))
  | _, _, _ => False
theorem d_add : DOp en Wl (rAddA en.K) addK := by
  intro F H x y v u Q C a rx ry h hc
  match x, y, h, rx, ry with
  | .val (.int i), .val (.int j), h, rx, ry =>
    cases rx; cases ry
    exact .inl ⟨i, j, rfl, rfl, hc _ _ F H h (Gr.refl a) (Rep.int _)⟩
  | .val (.tuple xs), .val (.tuple ys), ⟨hz, h⟩, rx, ry =>
    obtain ⟨p, us, rfl, hp, r1⟩ := Rep.seqT a rx
    obtain ⟨q, ws, rfl, hq, r2⟩ := Rep.seqT a ry
    refine .inr (.inl ⟨p, q, us, ws, rfl, rfl, hp, hq, by rw [← r1.length, ← r2.length]; exact hz, fun e => ?_, fun e1 e2 => ?_, fun _ _ p hp => ?_⟩)
    · subst e
      cases r1
      exact hc _ _ F H h (Gr.refl a) ry
    · subst e2
      cases r2
      rw [List.append_nil] at h
      exact hc _ _ F H h (Gr.refl a) rx
    · exact hc _ _ _ _ h (Gr.new a hp) (.tuple (.inl (.inl upd_same)) ((r1.append r2).mono (Gr.new (o := .tup (us ++ ws)) a hp).ff))
  | .val (.list xs), .val (.list ys), ⟨hz, h⟩, rx, ry =>
    obtain ⟨p, us, rfl, hp, r1⟩ := RepR.seqL a (.inl rx)
    obtain ⟨q, ws, rfl, hq, r2⟩ := RepR.seqL a (.inl ry)
    exact .inr (.inr ⟨p, q, us, ws, rfl, rfl, hp, hq, by rw [← r1.length, ← r2.length]; exact hz, fun p hp =>
      hc _ _ _ _ h (Gr.new a hp) (.list upd_same ((r1.append r2).mono (Gr.new (o := .lst (us ++ ws)) a hp).ff))⟩)
def subK : R → R → (R → Prop) → Prop
  | .val (.int i), .val (.int j), Q => Q (.val (.int (i - j)))
  | _, _, _ => False
theorem d_sub : DOp en Wl (rI0 fun i j => V.int (i - j)) subK := by
  intro F H x y v u Q C a rx ry h hc
  match x, y, h, rx, ry with
  | .val (.int i), .val (.int j), h, rx, ry =>
    cases rx; cases ry
    exact ⟨i, j, rfl, rfl, hc _ _ F H h (Gr.refl a) (Rep.int _)⟩
def mulK : R → R → (R → Prop) → Prop
  | .val (.int i), .val (.int j), Q => CMul i j ∧ Q (.val (.int (i * j)))
  | _, _, _ => False
theorem d_mul : DOp en Wl (rI CMul fun i j => V.int (i * j)) mulK := by
  intro F H x y v u Q C a rx ry h hc
  match x, y, h, rx, ry with
  | .val (.int i), .val (.int j), ⟨h1, h⟩, rx, ry =>
    cases rx; cases ry
    exact ⟨i, j, rfl, rfl, h1, hc _ _ F H h (Gr.refl a) (Rep.int _)⟩
def modK : R → R → (R → Prop) → Prop
  | .val (.int i), .val (.int j), Q => 0 < j ∧ Q (.val (.int (i % j)))
  | _, _, _ => False
theorem d_mod : DOp en Wl (rI (fun _ j => 0 < j) fun i j => V.int (i % j)) modK := by
  intro F H x y v u Q C a rx ry h hc
  match x, y, h, rx, ry with
  | .val (.int i), .val (.int j), ⟨h1, h⟩, rx, ry =>
    cases rx; cases ry
    exact ⟨i, j, rfl, rfl, h1, hc _ _ F H h (Gr.refl a) (Rep.int _)⟩

/-! ### < <= > >= of whole numbers; < of tuples -/
def rDat (K : PySem.W.Frag) (ok : D → D → Prop) (g : D → D → Bool) : R2 := fun x y H Q => ∃ d e, Dp K H x d ∧ Dp K H y e ∧ ok d e ∧ Q (.bl (g d e)) H
def okLt (d e : D) : Prop := PySem.W.alike d e = true ∧ d ≠ .none ∧ d.depth ≤ 64
theorem op_ltD (hu : X.A.units + 64 < cLine) : OpR X (compareOp .Lt) (rDat X.K okLt PySem.W.dataLt) := by
  intro pins s σ H x y v u Q I rx ry h
  obtain ⟨d, e, hd, he, ⟨h1, h2, h3⟩, q⟩ := h
  obtain ⟨as, r1⟩ := Dp.reads I d x v hd rx
  obtain ⟨bs, r2⟩ := Dp.reads I e y u he ry
  exact PySem.W.rcLt_alike d e X.A s v u as bs r1 r2 h1 h2 (Nat.lt_of_le_of_lt (Nat.add_le_add_left (Nat.le_trans (Nat.min_le_left _ _) h3) _) hu) X.prog X.w X.xe _ ⟨.bl _, H, I, rfl, q⟩
def rLtA (K : PySem.W.Frag) : R2 := fun x y H Q => rI0 (fun i j => V.bl (decide (i < j))) x y H Q ∨ rDat K okLt PySem.W.dataLt x y H Q
theorem op_ltA (hu : X.A.units + 64 < cLine) : OpR X (compareOp .Lt) (rLtA X.K) := OpR.or op_lt (op_ltD hu)
def ltK : R → R → (R → Prop) → Prop
  | .val (.int i), .val (.int j), Q => Q (.val (.bool (decide (i < j))))
  | .val (.tuple xs), .val (.tuple ys), Q => pl 8 (.tuple xs) = true ∧ pl 8 (.tuple ys) = true ∧ PySem.W.alike (.tuple xs) (.tuple ys) = true ∧ Q (.val (.bool (PySem.W.dataLt (.tuple xs) (.tuple ys))))
  | _, _, _ => False
theorem d_lt : DOp en Wl (rLtA en.K) ltK := by
  intro F H x y v u Q C a rx ry h hc
  match x, y, h, rx, ry with
  | .val (.int i), .val (.int j), h, rx, ry =>
    cases rx; cases ry
    exact .inl ⟨i, j, rfl, rfl, hc _ _ F H h (Gr.refl a) (Rep.bool _)⟩
  | .val (.tuple xs), .val (.tuple ys), ⟨h1, h2, h3, h⟩, rx, ry =>
    exact .inr ⟨_, _, Rep.dp a.fh 8 h1 rx, Rep.dp a.fh 8 h2 ry, ⟨h3, by simp, Nat.le_trans (pl_lay _ _ h1).2 (by decide)⟩, hc _ _ F H h (Gr.refl a) (Rep.bool _)⟩
def cmpK (p : Int → Int → Bool) : R → R → (R → Prop) → Prop
  | .val (.int i), .val (.int j), Q => Q (.val (.bool (p i j)))
  | _, _, _ => False
theorem d_cmp {p : Int → Int → Bool} : DOp en Wl (rI0 fun i j => V.bl (p i j)) (cmpK p) := by
  intro F H x y v u Q C a rx ry h hc
  match x, y, h, rx, ry with
  | .val (.int i), .val (.int j), h, rx, ry =>
    cases rx; cases ry
    exact ⟨i, j, rfl, rfl, hc _ _ F H h (Gr.refl a) (Rep.bool _)⟩

/-! ### == != of plain data -/
def eqK (neg : Bool) : R → R → (R → Prop) → Prop
  | .val d, .val e, Q => pl 8 d = true ∧ pl 8 e = true ∧ Q (.val (.bool (if neg then !PyData.eqv d e else PyData.eqv d e)))
  | .own (.list ds), .val e, Q => ds.all (pl 8) = true ∧ pl 8 e = true ∧ Q (.val (.bool (if neg then !PyData.eqv (.list ds) e else PyData.eqv (.list ds) e)))
  | _, _, _ => False
theorem eq_dps {F H : Hp} {x y : R} {v u : V} {Q : R → Prop} {neg : Bool} (a : At Wl F H) (rx : RepR en Wl F H x v) (ry : RepR en Wl F H y u) (h : eqK neg x y Q) :
    ∃ d e, Dp en.K H v d ∧ Dp en.K H u e ∧ SeqAt.shaped d = true ∧ SeqAt.shaped e = true ∧ Q (.val (.bool (if neg then !PyData.eqv d e else PyData.eqv d e))) := by
  match x, y, h, rx, ry with
  | .val d, .val e, ⟨h1, h2, h⟩, rx, ry => exact ⟨d, e, Rep.dp a.fh 8 h1 rx, Rep.dp a.fh 8 h2 ry, pl_shaped h1, pl_shaped h2, h⟩
  | .own (.list ds), .val e, ⟨h1, h2, h⟩, rx, ry =>
    obtain ⟨p, xs, rfl, hp, r⟩ := RepR.seqL a (.inr rx)
    exact ⟨.list ds, e, .lst (.inl (.inl hp)) (r.dps a.fh ds h1), Rep.dp a.fh 8 h2 ry, pl_shaped (n := 9) (by simpa [pl] using h1), pl_shaped h2, h⟩
theorem d_eq : DOp en Wl (rEqD en.K) (eqK false) := by
  intro F H x y v u Q C a rx ry h hc
  obtain ⟨d, e, h1, h2, h3, h4, h5⟩ := eq_dps a rx ry h
  exact ⟨d, e, h1, h2, h3, h4, hc _ _ F H h5 (Gr.refl a) (Rep.bool _)⟩
theorem d_ne : DOp en Wl (rNeD en.K) (eqK true) := by
  intro F H x y v u Q C a rx ry h hc
  obtain ⟨d, e, h1, h2, h3, h4, h5⟩ := eq_dps a rx ry h
  exact ⟨d, e, h1, h2, h3, h4, hc _ _ F H h5 (Gr.refl a) (Rep.bool _)⟩

/-! ### in, not in: a list, a tuple -/
def seqOf : D → Option (List D)
  | .list ds => some ds
  | .tuple ds => some ds
  | _ => none
def okIn (d c : D) : Prop := SeqAt.shaped d = true ∧ ∃ ds, seqOf c = some ds ∧ PyData.canLayAll0 ds = true
def inB (neg : Bool) (d c : D) : Bool := if neg then !((seqOf c).getD []).any (fun z => PyData.eqv z d) else ((seqOf c).getD []).any fun z => PyData.eqv z d
theorem op_inA (hu : X.A.units + 65 < cLine) : OpR X (compareOp .In) (rDat X.K okIn (inB false)) := by
  intro pins s σ H x y v u Q I rx ry h
  obtain ⟨d, c, hd, he, ⟨sd, ds, hs, hl⟩, q⟩ := h
  obtain ⟨as, r1⟩ := Dp.reads I d x v hd rx
  obtain ⟨bs, r2⟩ := Dp.reads I c y u he ry
  cases c with
  | list xs => cases hs; exact SeqAt.in_list_reads r2 r1 hl (SeqAt.canLay_of_shaped sd) (PyProof.Rows.room_in_shaped sd hu) ⟨.bl _, H, I, rfl, q⟩
  | tuple xs => cases hs; exact SeqAt.in_tuple_reads r2 r1 hl (SeqAt.canLay_of_shaped sd) (PyProof.Rows.room_in_shaped sd hu) ⟨.bl _, H, I, rfl, q⟩
  | _ => cases hs
theorem op_notInA (hu : X.A.units + 65 < cLine) : OpR X (compareOp .NotIn) (rDat X.K okIn (inB true)) := by
  intro pins s σ H x y v u Q I rx ry h
  obtain ⟨d, c, hd, he, ⟨sd, ds, hs, hl⟩, q⟩ := h
  obtain ⟨as, r1⟩ := Dp.reads I d x v hd rx
  obtain ⟨bs, r2⟩ := Dp.reads I c y u he ry
  cases c with
  | list xs => cases hs; exact SeqAt.notIn_list_reads r2 r1 hl (SeqAt.canLay_of_shaped sd) (PyProof.Rows.room_in_shaped sd hu) ⟨.bl _, H, I, rfl, q⟩
  | tuple xs => cases hs; exact SeqAt.notIn_tuple_reads r2 r1 hl (SeqAt.canLay_of_shaped sd) (PyProof.Rows.room_in_shaped sd hu) ⟨.bl _, H, I, rfl, q⟩
  | _ => cases hs
def inK (neg : Bool) : R → R → (R → Prop) → Prop
  | .val d, .val c, Q => pl 8 d = true ∧ pl 8 c = true ∧ (seqOf c).isSome = true ∧ Q (.val (.bool (inB neg d c)))
  | _, _, _ => False
theorem d_in {neg : Bool} : DOp en Wl (rDat en.K okIn (inB neg)) (inK neg) := by
  intro F H x y v u Q C a rx ry h hc
  match x, y, h, rx, ry with
  | .val d, .val c, ⟨h1, h2, h3, h⟩, rx, ry =>
    refine ⟨d, c, Rep.dp a.fh 8 h1 rx, Rep.dp a.fh 8 h2 ry, ⟨pl_shaped h1, ?_⟩, hc _ _ F H h (Gr.refl a) (Rep.bool _)⟩
    have hl := (pl_lay 8 c h2).1
    cases c with
    | list ds => exact ⟨ds, rfl, by simpa [PyData.canLay0] using hl⟩
    | tuple ds => exact ⟨ds, rfl, by simpa [PyData.canLay0] using hl⟩
    | _ => simp [seqOf] at h3
end
end LC
/-! Expressions over deep data: comparisons, tests, displays, subscripts, calls of built-ins. -/
namespace LC
open PySem L2 PySem.Spec PyProof.Rows
abbrev RepRs (en : En) (Wl : Wild) (F H : Hp) : List R → List V → Prop := Paired (RepR en Wl F H)
theorem RepRs.mono {en : En} {Wl : Wild} {F H F' H' : Hp} (g : Gr Wl F H F' H') : ∀ {rs : List R} {vs : List V}, RepRs en Wl F H rs vs → RepRs en Wl F' H' rs vs
  | _, _, .nil => .nil
  | _, _, .cons h t => .cons (h.mono g) (RepRs.mono g t)
def tSemA (X : Cx) (es : List Expr) : TA := fun σ H C => ∀ (pos : Pos) (pins : List (Addr × Obj)) (s : Shared), Inv X pins σ H s → wpAny (model X.prog X.w) X.A (spliced (backTo pos (starEach es X.env))) (AP X pins σ C) X.xe s
theorem pa_sem {X : Cx} {es : List Expr} : PA X es (tSemA X es) := ⟨fun pos pins s σ H Q I h => h pos pins s I⟩
theorem _root_.L2.PA.sem {X : Cx} {es : List Expr} {t : TA} (h : PA X es t) {σ : L2.St} {H : Hp} {C : List V → Hp → Prop} (q : t σ H C) : tSemA X es σ H C := fun pos pins s I => h.run pos pins s σ H C I q
def WA (X : Cx) (Wl : Wild) (ρ : Env') (es : List Expr) (Q : List R → Prop) : Prop :=
  ∀ (F H : Hp) (σ : L2.St) (C : List V → Hp → Prop), At Wl F H → Slots (cxEn X) Wl ρ F H σ → (∀ rs vs F' H', Q rs → Gr Wl F H F' H' → RepRs (cxEn X) Wl F' H' rs vs → C vs H') → tSemA X es σ H C
section
variable {X : Cx} {Wl : Wild} {ρ : Env'} {e a b c : Expr} {es : List Expr} {pos : Pos} {Q Q' : R → Prop}
theorem wa_nil {Q : List R → Prop} (h : Q []) : WA X Wl ρ [] Q := fun F H σ C ha hs hc => pa_nil.sem (hc [] [] F H h (Gr.refl ha) .nil)
theorem wa_cons {Q : List R → Prop} (h : WE X Wl ρ e fun r => WA X Wl ρ es fun rs => Q (r :: rs)) (hs : starEach (e :: es) X.env = (false, eval e X.env) :: starEach es X.env := by rfl) : WA X Wl ρ (e :: es) Q :=
  fun F H σ C ha sl hc => (pa_cons (pe_sem (e := e)) (pa_sem (es := es)) hs).sem (h F H σ _ ha sl fun r v F1 H1 hr g1 r1 => hr F1 H1 σ _ g1.at_ (sl.mono g1) fun rs vs F2 H2 q g2 r2 => hc _ _ F2 H2 q (g1.trans g2) (.cons (r1.mono g2) r2))

/-! ### a tuple, a list displayed -/
def datas : List R → Option (List D)
  | [] => some []
  | .val d :: rs => (datas rs).map (d :: ·)
  | _ :: _ => none
theorem datas_rep {en : En} {Wl : Wild} {F H : Hp} : ∀ {rs : List R} {ds : List D} {vs : List V}, datas rs = some ds → RepRs en Wl F H rs vs → RepA en F ds vs
  | [], _, _, e, r => by cases e; cases r; exact .nil
  | .val d :: rs, ds, vs, e, r => by
    cases r with
    | cons h t =>
      cases q : datas rs with
      | none => simp [datas, q] at e
      | some es =>
        simp [datas, q] at e
        subst e
        exact .cons h (datas_rep q t)
  | .own _ :: _, _, _, e, _ => by simp [datas] at e
  | .adr _ :: _, _, _, e, _ => by simp [datas] at e
theorem RepRs.length {en : En} {Wl : Wild} {F H : Hp} {rs : List R} {vs : List V} (r : RepRs en Wl F H rs vs) : rs.length = vs.length := Paired.length r
def tupK (Q : R → Prop) (rs : List R) : Prop := match datas rs with
  | some ds => ds.length ≤ sizeLine ∧ Q (.val (.tuple ds))
  | none => False
theorem we_tup {k : Nat} (h : WA X Wl ρ es (tupK Q)) : WE X Wl ρ (.Tuple es k pos) Q := fun F H σ C ha hs hc => (pe_tup (pa_sem (es := es))).sem (h F H σ _ ha hs fun rs vs F1 H1 q g1 r1 => by
  unfold tupK at q
  split at q
  · rename_i ds e
    have r := datas_rep e r1
    refine ⟨by rw [← r.length]; exact q.1, fun p hp => ?_⟩
    have g2 := Gr.new (o := .tup vs) g1.at_ hp
    exact hc _ _ _ _ q.2 (g1.trans g2) (.tuple (.inl (.inl upd_same)) (r.mono g2.ff))
  · exact q.elim)
def lstK (Q : D → Prop) (rs : List R) : Prop := match datas rs with
  | some ds => ds.length ≤ sizeLine ∧ Q (.list ds)
  | none => False
theorem wn_lst {Q : D → Prop} (h : WA X Wl ρ es (lstK Q)) : WN X Wl ρ (.List es pos) Q := fun F H σ C ha hs hc => (pe_lst (pa_sem (es := es))).sem (h F H σ _ ha hs fun rs vs F1 H1 q g1 r1 => by
  unfold lstK at q
  split at q
  · rename_i ds e
    have r := datas_rep e r1
    refine ⟨by rw [← r.length]; exact q.1, fun p hp => ?_⟩
    have g2 := Gr.fresh (o := .lst vs) g1.at_ hp
    have hp0 : H p = none := by
      cases z : H p with
      | none => rfl
      | some o => exact absurd hp (g1.there p (by rw [z]; simp))
    have f1 : F1 p = none := by
      cases z : F1 p with
      | none => rfl
      | some o => rw [g1.at_.fh p o z] at hp; cases hp
    refine hc _ p F1 _ q.2 (g1.trans g2) hp0 f1 (fun z hz e => ?_) ⟨vs, upd_same, r⟩
    obtain ⟨_, o, e1, _⟩ := g1.at_.wl z hz
    rw [e, hp] at e1; cases e1
  · exact q.elim)
theorem we_lst (h : WA X Wl ρ es (lstK fun d => Q (.val d))) : WE X Wl ρ (.List es pos) Q := (wn_lst h).we

/-! ### the operators' short words -/
theorem we_add (h : WE X Wl ρ a fun x => WE X Wl ρ b fun y => addK x y Q) : WE X Wl ρ (.BinOp a .Add b pos) Q := we_bin op_addA d_add h
theorem we_sub (h : WE X Wl ρ a fun x => WE X Wl ρ b fun y => subK x y Q) : WE X Wl ρ (.BinOp a .Sub b pos) Q := we_bin op_sub d_sub h
theorem we_mul (h : WE X Wl ρ a fun x => WE X Wl ρ b fun y => mulK x y Q) : WE X Wl ρ (.BinOp a .Mult b pos) Q := we_bin op_mul d_mul h
theorem we_mod (h : WE X Wl ρ a fun x => WE X Wl ρ b fun y => modK x y Q) : WE X Wl ρ (.BinOp a .Mod b pos) Q := we_bin op_mod d_mod h
variable (hu : X.A.units + 100 < cLine)
include hu
theorem we_lt (h : WE X Wl ρ a fun x => WE X Wl ρ b fun y => ltK x y Q) : WE X Wl ρ (.Compare a [.Lt] [b] pos) Q := we_cmp (op_ltA (by omega)) d_lt (nomark _) h
theorem wt_lt {Q : Bool → Prop} (h : WE X Wl ρ a fun x => WE X Wl ρ b fun y => ltK x y (boolK Q)) : WT X Wl ρ (.Compare a [.Lt] [b] pos) Q := wt_cmp (op_ltA (by omega)) d_lt (nomark _) h
theorem we_eq (h : WE X Wl ρ a fun x => WE X Wl ρ b fun y => eqK false x y Q) : WE X Wl ρ (.Compare a [.Eq] [b] pos) Q := we_cmp (op_eqD (by omega)) d_eq (nomark _) h
theorem wt_eq {Q : Bool → Prop} (h : WE X Wl ρ a fun x => WE X Wl ρ b fun y => eqK false x y (boolK Q)) : WT X Wl ρ (.Compare a [.Eq] [b] pos) Q := wt_cmp (op_eqD (by omega)) d_eq (nomark _) h
theorem we_ne (h : WE X Wl ρ a fun x => WE X Wl ρ b fun y => eqK true x y Q) : WE X Wl ρ (.Compare a [.NotEq] [b] pos) Q := we_cmp (op_neD (by omega)) d_ne (nomark _) h
theorem wt_ne {Q : Bool → Prop} (h : WE X Wl ρ a fun x => WE X Wl ρ b fun y => eqK true x y (boolK Q)) : WT X Wl ρ (.Compare a [.NotEq] [b] pos) Q := wt_cmp (op_neD (by omega)) d_ne (nomark _) h
theorem we_in (h : WE X Wl ρ a fun x => WE X Wl ρ b fun y => inK false x y Q) (hm : behindInMarks .In b = false := by rfl) : WE X Wl ρ (.Compare a [.In] [b] pos) Q := we_cmp (op_inA (by omega)) d_in hm h
theorem wt_in {Q : Bool → Prop} (h : WE X Wl ρ a fun x => WE X Wl ρ b fun y => inK false x y (boolK Q)) (hm : behindInMarks .In b = false := by rfl) : WT X Wl ρ (.Compare a [.In] [b] pos) Q := wt_cmp (op_inA (by omega)) d_in hm h
theorem we_notin (h : WE X Wl ρ a fun x => WE X Wl ρ b fun y => inK true x y Q) (hm : behindInMarks .NotIn b = false := by rfl) : WE X Wl ρ (.Compare a [.NotIn] [b] pos) Q := we_cmp (op_notInA (by omega)) d_in hm h
theorem wt_notin {Q : Bool → Prop} (h : WE X Wl ρ a fun x => WE X Wl ρ b fun y => inK true x y (boolK Q)) (hm : behindInMarks .NotIn b = false := by rfl) : WT X Wl ρ (.Compare a [.NotIn] [b] pos) Q := wt_cmp (op_notInA (by omega)) d_in hm h
omit hu
theorem we_le (h : WE X Wl ρ a fun x => WE X Wl ρ b fun y => cmpK (fun i j => decide (i ≤ j)) x y Q) : WE X Wl ρ (.Compare a [.LtE] [b] pos) Q := we_cmp op_le d_cmp (nomark _) h
theorem wt_le {Q : Bool → Prop} (h : WE X Wl ρ a fun x => WE X Wl ρ b fun y => cmpK (fun i j => decide (i ≤ j)) x y (boolK Q)) : WT X Wl ρ (.Compare a [.LtE] [b] pos) Q := wt_cmp op_le d_cmp (nomark _) h
theorem we_gt (h : WE X Wl ρ a fun x => WE X Wl ρ b fun y => cmpK (fun i j => decide (j < i)) x y Q) : WE X Wl ρ (.Compare a [.Gt] [b] pos) Q := we_cmp op_gt d_cmp (nomark _) h
theorem wt_gt {Q : Bool → Prop} (h : WE X Wl ρ a fun x => WE X Wl ρ b fun y => cmpK (fun i j => decide (j < i)) x y (boolK Q)) : WT X Wl ρ (.Compare a [.Gt] [b] pos) Q := wt_cmp op_gt d_cmp (nomark _) h
theorem we_ge (h : WE X Wl ρ a fun x => WE X Wl ρ b fun y => cmpK (fun i j => decide (j ≤ i)) x y Q) : WE X Wl ρ (.Compare a [.GtE] [b] pos) Q := we_cmp op_ge d_cmp (nomark _) h
theorem wt_ge {Q : Bool → Prop} (h : WE X Wl ρ a fun x => WE X Wl ρ b fun y => cmpK (fun i j => decide (j ≤ i)) x y (boolK Q)) : WT X Wl ρ (.Compare a [.GtE] [b] pos) Q := wt_cmp op_ge d_cmp (nomark _) h
/-- is None, is not None, is True .. -/
def rIs (neg : Bool) : R2 := fun x y H Q => y = .non ∧ Q (.bl (if neg then !decide (x = .non) else decide (x = .non))) H
theorem op_isN' : OpR X (compareOp .Is) (rIs false) := op_isN
theorem op_notN' : OpR X (compareOp .IsNot) (rIs true) := op_notN
def isNone : D → Bool
  | .none => true
  | _ => false
theorem isNone_ok {en : En} {F : Hp} {d : D} {v : V} (r : Rep en F d v) : decide (v = .non) = isNone d := by
  cases r <;> simp [isNone]
def isK' (neg : Bool) : R → R → (R → Prop) → Prop
  | .val d, .val .none, Q => Q (.val (.bool (if neg then !isNone d else isNone d)))
  | .own _, .val .none, Q => Q (.val (.bool (if neg then true else false)))
  | _, _, _ => False
theorem d_is {en : En} {neg : Bool} : DOp en Wl (rIs neg) (isK' neg) := by
  intro F H x y v u Q C a rx ry h hc
  match x, y, h, rx, ry with
  | .val d, .val .none, h, rx, ry =>
    cases ry
    have e := isNone_ok rx
    refine ⟨rfl, ?_⟩
    rw [e]
    exact hc _ _ F H h (Gr.refl a) (Rep.bool _)
  | .own d, .val .none, h, rx, ry =>
    cases ry
    obtain ⟨p, rfl, _⟩ := rx
    refine ⟨rfl, ?_⟩
    have e : decide (V.ref p = V.non) = false := by simp
    rw [e]
    exact hc _ _ F H h (Gr.refl a) (by cases neg <;> exact Rep.bool _)
theorem we_isN (h : WE X Wl ρ a fun x => WE X Wl ρ b fun y => isK' false x y Q) : WE X Wl ρ (.Compare a [.Is] [b] pos) Q := we_cmp op_isN' d_is (nomark _) h
theorem wt_isN {Q : Bool → Prop} (h : WE X Wl ρ a fun x => WE X Wl ρ b fun y => isK' false x y (boolK Q)) : WT X Wl ρ (.Compare a [.Is] [b] pos) Q := wt_cmp op_isN' d_is (nomark _) h
theorem we_notN (h : WE X Wl ρ a fun x => WE X Wl ρ b fun y => isK' true x y Q) : WE X Wl ρ (.Compare a [.IsNot] [b] pos) Q := we_cmp op_notN' d_is (nomark _) h
theorem wt_notN {Q : Bool → Prop} (h : WE X Wl ρ a fun x => WE X Wl ρ b fun y => isK' true x y (boolK Q)) : WT X Wl ρ (.Compare a [.IsNot] [b] pos) Q := wt_cmp op_notN' d_is (nomark _) h
def isBK (neg : Bool) : R → R → (R → Prop) → Prop
  | .val (.bool x), .val (.bool y), Q => Q (.val (.bool (if neg then !decide (x = y) else decide (x = y))))
  | _, _, _ => False
theorem wt_isB {Q : Bool → Prop} (h : WE X Wl ρ a fun x => WE X Wl ρ b fun y => isBK false x y (boolK Q)) : WT X Wl ρ (.Compare a [.Is] [b] pos) Q := wt_cmp op_isBl (fun F H x y v u Q C a rx ry h hc => by
  match x, y, h, rx, ry with
  | .val (.bool x), .val (.bool y), h, rx, ry => cases rx; cases ry; exact ⟨_, _, rfl, rfl, hc _ _ F H h (Gr.refl a) (Rep.bool _)⟩) (nomark _) h
theorem wt_notB {Q : Bool → Prop} (h : WE X Wl ρ a fun x => WE X Wl ρ b fun y => isBK true x y (boolK Q)) : WT X Wl ρ (.Compare a [.IsNot] [b] pos) Q := wt_cmp op_notBl (fun F H x y v u Q C a rx ry h hc => by
  match x, y, h, rx, ry with
  | .val (.bool x), .val (.bool y), h, rx, ry => cases rx; cases ry; exact ⟨_, _, rfl, rfl, hc _ _ F H h (Gr.refl a) (Rep.bool _)⟩) (nomark _) h
/-- == != of two truth values -/
def eqBK (neg : Bool) : R → R → (R → Prop) → Prop := isBK neg

/-! ### a op b op c, of whole numbers -/
def chK (p q : Int → Int → Bool) : R → R → (R → Prop) → (((R → Prop) → Prop)) → Prop
  | .val (.int i), .val (.int j), Q, k => (p i j = true → k fun z => match z with | .val (.int l) => Q (.val (.bool (q j l))) | _ => False) ∧ (p i j = false → Q (.val (.bool false)))
  | _, _, _, _ => False
theorem chain_sem {p q : Int → Int → Bool} {F H : Hp} {σ : L2.St} {C : VK} (ha : At Wl F H) (hs : Slots (cxEn X) Wl ρ F H σ)
    (h : WE X Wl ρ a fun x => WE X Wl ρ b fun y => chK p q x y Q fun k => WE X Wl ρ c k) (hc : ∀ r v F' H', Q r → Gr Wl F H F' H' → RepR (cxEn X) Wl F' H' r v → C v H') :
    tChain (rI0 fun i j => V.bl (p i j)) (rI0 fun i j => V.bl (q i j)) (tSem X a) (tSem X b) (tSem X c) σ H C :=
  h F H σ _ ha hs fun x v F1 H1 hx g1 r1 => hx F1 H1 σ _ g1.at_ (hs.mono g1) fun y u F2 H2 hk g2 r2 => by
    match x, y, hk, r1, r2 with
    | .val (.int i), .val (.int j), hk, r1, r2 =>
      cases r1; cases r2
      refine ⟨i, j, rfl, rfl, p i j, rfl, ?_⟩
      cases e : p i j with
      | true =>
        rw [if_pos rfl]
        refine hk.1 e F2 H2 σ _ g2.at_ (hs.mono (g1.trans g2)) fun z w F3 H3 hz g3 r3 => ?_
        match z, hz, r3 with
        | .val (.int l), hz, r3 =>
          cases r3
          exact ⟨j, l, rfl, rfl, hc _ _ F3 H3 hz ((g1.trans g2).trans g3) (Rep.bool _)⟩
      | false =>
        rw [if_neg Bool.false_ne_true]
        exact hc _ _ F2 H2 (hk.2 e) (g1.trans g2) (Rep.bool _)
theorem we_le_le (h : WE X Wl ρ a fun x => WE X Wl ρ b fun y => chK (fun i j => decide (i ≤ j)) (fun i j => decide (i ≤ j)) x y Q fun k => WE X Wl ρ c k) (hm : lastMarks [.LtE, .LtE] [b, c] = false := by with_unfolding_all rfl) : WE X Wl ρ (.Compare a [.LtE, .LtE] [b, c] pos) Q :=
  fun F H σ C ha hs hc => (pe_chain op_le op_le pe_sem pe_sem pe_sem hm).sem (chain_sem ha hs h hc)
theorem wt_le_le {Q : Bool → Prop} (h : WE X Wl ρ a fun x => WE X Wl ρ b fun y => chK (fun i j => decide (i ≤ j)) (fun i j => decide (i ≤ j)) x y (boolK Q) fun k => WE X Wl ρ c k) (hm : lastMarks [.LtE, .LtE] [b, c] = false := by with_unfolding_all rfl) : WT X Wl ρ (.Compare a [.LtE, .LtE] [b, c] pos) Q :=
  fun F H σ C ha hs hc => (pt_chain op_le op_le pe_sem pe_sem pe_sem hm).sem (chain_sem ha hs h fun r v F' H' q g rr => by
    match r, q, rr with
    | .val (.bool x), q, rr => cases rr; exact ⟨x, rfl, hc x F' H' q g⟩)
theorem wt_le_lt {Q : Bool → Prop} (h : WE X Wl ρ a fun x => WE X Wl ρ b fun y => chK (fun i j => decide (i ≤ j)) (fun i j => decide (i < j)) x y (boolK Q) fun k => WE X Wl ρ c k) (hm : lastMarks [.LtE, .Lt] [b, c] = false := by with_unfolding_all rfl) : WT X Wl ρ (.Compare a [.LtE, .Lt] [b, c] pos) Q :=
  fun F H σ C ha hs hc => (pt_chain op_le op_lt pe_sem pe_sem pe_sem hm).sem (chain_sem ha hs h fun r v F' H' q g rr => by
    match r, q, rr with
    | .val (.bool x), q, rr => cases rr; exact ⟨x, rfl, hc x F' H' q g⟩)

/-! ### and, or, not, a if t else b -/
theorem ww_and1 {Q : Bool → Prop} (h : WT X Wl ρ a Q) : WW X Wl ρ (.BoolOp .And [a] pos) Q := fun F H σ C ha hs hc => (pw_and1 pt_sem).sem (h F H σ C ha hs hc)
theorem ww_or1 {Q : Bool → Prop} (h : WT X Wl ρ a Q) : WW X Wl ρ (.BoolOp .Or [a] pos) Q := fun F H σ C ha hs hc => (pw_or1 pt_sem).sem (h F H σ C ha hs hc)
theorem ww_and {Q : Bool → Prop} (h : WT X Wl ρ a fun x => (x = true → WW X Wl ρ (.BoolOp .And (b :: es) pos) Q) ∧ (x = false → Q false)) : WW X Wl ρ (.BoolOp .And (a :: b :: es) pos) Q :=
  fun F H σ C ha hs hc => (pw_and pt_sem pw_sem).sem (h F H σ _ ha hs fun x F1 H1 hx g1 => by
    cases x with
    | true => rw [if_pos rfl]; exact hx.1 rfl F1 H1 σ _ g1.at_ (hs.mono g1) fun y F2 H2 q g2 => hc y F2 H2 q (g1.trans g2)
    | false => rw [if_neg Bool.false_ne_true]; exact hc false F1 H1 (hx.2 rfl) g1)
theorem ww_or {Q : Bool → Prop} (h : WT X Wl ρ a fun x => (x = false → WW X Wl ρ (.BoolOp .Or (b :: es) pos) Q) ∧ (x = true → Q true)) : WW X Wl ρ (.BoolOp .Or (a :: b :: es) pos) Q :=
  fun F H σ C ha hs hc => (pw_or pt_sem pw_sem).sem (h F H σ _ ha hs fun x F1 H1 hx g1 => by
    cases x with
    | true => rw [if_pos rfl]; exact hc true F1 H1 (hx.2 rfl) g1
    | false => rw [if_neg Bool.false_ne_true]; exact hx.1 rfl F1 H1 σ _ g1.at_ (hs.mono g1) fun y F2 H2 q g2 => hc y F2 H2 q (g1.trans g2))
theorem wt_and {Q : Bool → Prop} (h : WW X Wl ρ (.BoolOp .And es pos) Q) : WT X Wl ρ (.BoolOp .And es pos) Q := h.wt
theorem wt_or {Q : Bool → Prop} (h : WW X Wl ρ (.BoolOp .Or es pos) Q) : WT X Wl ρ (.BoolOp .Or es pos) Q := h.wt
theorem wt_not {Q : Bool → Prop} (h : WT X Wl ρ a fun x => Q (!x)) : WT X Wl ρ (.UnaryOp .Not a pos) Q := fun F H σ C ha hs hc => (pt_not pt_sem).sem (h F H σ _ ha hs fun x F1 H1 q g => hc _ F1 H1 q g)
/-- a truth value as a test -/
theorem wt_val {Q : Bool → Prop} (h : WE X Wl ρ e (boolK Q)) (he : ∀ whole, isTrue e X.env whole = (do let v ← whole; standAt e.pos; holding [v] (truthy v)) := by intro _; rfl) : WT X Wl ρ e Q :=
  fun F H σ C ha hs hc => (pt_val pe_sem he).sem (h F H σ _ ha hs fun r v F' H' q g rr => by
    match r, q, rr with
    | .val (.bool x), q, rr => cases rr; exact ⟨x, rfl, hc x F' H' q g⟩)
def andK (Q : R → Prop) (k : ((R → Prop) → Prop)) : R → Prop
  | .val (.bool b) => (b = true → k Q) ∧ (b = false → Q (.val (.bool false)))
  | _ => False
theorem we_one {op} (h : WE X Wl ρ a Q) : WE X Wl ρ (.BoolOp op [a] pos) Q := fun F H σ C ha hs hc => (pe_one pe_sem).sem (h F H σ C ha hs hc)
theorem we_and (h : WE X Wl ρ a (andK Q fun k => WE X Wl ρ (.BoolOp .And (b :: es) pos) k)) : WE X Wl ρ (.BoolOp .And (a :: b :: es) pos) Q :=
  fun F H σ C ha hs hc => (pe_and pe_sem pe_sem).sem (h F H σ _ ha hs fun r v F1 H1 q g1 rr => by
    match r, q, rr with
    | .val (.bool x), q, rr =>
      cases rr
      refine ⟨x, rfl, ?_⟩
      cases x with
      | true => rw [if_pos rfl]; exact q.1 rfl F1 H1 σ _ g1.at_ (hs.mono g1) fun r v F2 H2 q2 g2 r2 => hc r v F2 H2 q2 (g1.trans g2) r2
      | false => rw [if_neg Bool.false_ne_true]; exact hc _ _ F1 H1 (q.2 rfl) g1 (Rep.bool _))
def notK (Q : R → Prop) : R → Prop
  | .val (.bool b) => Q (.val (.bool (!b)))
  | _ => False
theorem we_not (h : WE X Wl ρ a (notK Q)) : WE X Wl ρ (.UnaryOp .Not a pos) Q := fun F H σ C ha hs hc => (pe_not pe_sem).sem (h F H σ _ ha hs fun r v F1 H1 q g1 rr => by
    match r, q, rr with
    | .val (.bool x), q, rr => cases rr; exact ⟨x, rfl, hc _ _ F1 H1 q g1 (Rep.bool _)⟩)
theorem we_if (h : WT X Wl ρ c fun x => (x = true → WE X Wl ρ a Q) ∧ (x = false → WE X Wl ρ b Q)) : WE X Wl ρ (.IfExp c a b pos) Q := fun F H σ C ha hs hc => (pe_ifExp pt_sem pe_sem pe_sem).sem (h F H σ _ ha hs fun x F1 H1 hx g1 => by
    cases x with
    | true => rw [if_pos rfl]; exact hx.1 rfl F1 H1 σ _ g1.at_ (hs.mono g1) fun r v F2 H2 q2 g2 r2 => hc r v F2 H2 q2 (g1.trans g2) r2
    | false => rw [if_neg Bool.false_ne_true]; exact hx.2 rfl F1 H1 σ _ g1.at_ (hs.mono g1) fun r v F2 H2 q2 g2 r2 => hc r v F2 H2 q2 (g1.trans g2) r2)
theorem wn_if {Q : D → Prop} (h : WT X Wl ρ c fun x => (x = true → WN X Wl ρ a Q) ∧ (x = false → WN X Wl ρ b Q)) : WN X Wl ρ (.IfExp c a b pos) Q := fun F H σ C ha hs hc => (pe_ifExp pt_sem pe_sem pe_sem).sem (h F H σ _ ha hs fun x F1 H1 hx g1 => by
    have back : ∀ p, H1 p = none → H p = none := fun p hp => by
      cases z : H p with
      | none => rfl
      | some o => exact absurd hp (g1.there p (by rw [z]; simp))
    cases x with
    | true => rw [if_pos rfl]; exact hx.1 rfl F1 H1 σ _ g1.at_ (hs.mono g1) fun d p F2 H2 q2 g2 hp f t o => hc d p F2 H2 q2 (g1.trans g2) (back p hp) f t o
    | false => rw [if_neg Bool.false_ne_true]; exact hx.2 rfl F1 H1 σ _ g1.at_ (hs.mono g1) fun d p F2 H2 q2 g2 hp f t o => hc d p F2 H2 q2 (g1.trans g2) (back p hp) f t o)
/-- truth of data -/
def truK (Q : Bool → Prop) : R → Prop
  | .val .none => Q false
  | .val (.bool b) => Q b
  | .val (.int i) => Q (i != 0)
  | .val (.list ds) => Q (!ds.isEmpty)
  | .val (.tuple ds) => Q (!ds.isEmpty)
  | .own (.list ds) => Q (!ds.isEmpty)
  | _ => False
theorem RepA.empty {en : En} {F : Hp} {ds : List D} {vs : List V} (r : RepA en F ds vs) : ds.isEmpty = vs.isEmpty := by cases r <;> rfl
theorem wt_tru {Q : Bool → Prop} (h : WE X Wl ρ e (truK Q)) (he : ∀ whole, isTrue e X.env whole = (do let v ← whole; standAt e.pos; holding [v] (truthy v)) := by intro _; rfl) : WT X Wl ρ e Q :=
  fun F H σ C ha hs hc => (pt_truth pe_sem he).sem (h F H σ _ ha hs fun r v F1 H1 q g rr => by
    match r, q, rr with
    | .val .none, q, rr => cases rr; exact ⟨false, rfl, hc _ F1 H1 q g⟩
    | .val (.bool b), q, rr => cases rr; exact ⟨b, rfl, hc _ F1 H1 q g⟩
    | .val (.int b), q, rr => cases rr; exact ⟨_, rfl, hc _ F1 H1 q g⟩
    | .val (.list ds), q, rr =>
      obtain ⟨p, xs, rfl, hp, r1⟩ := RepR.seqL g.at_ (.inl rr)
      exact ⟨_, .inl ⟨xs, .inl (.inl hp), by rw [← r1.empty]⟩, hc _ F1 H1 q g⟩
    | .val (.tuple ds), q, rr =>
      obtain ⟨p, xs, rfl, hp, r1⟩ := Rep.seqT g.at_ rr
      exact ⟨_, .inr (.inl ⟨xs, hp, by rw [← r1.empty]⟩), hc _ F1 H1 q g⟩
    | .own (.list ds), q, rr =>
      obtain ⟨p, xs, rfl, hp, r1⟩ := RepR.seqL g.at_ (.inr rr)
      exact ⟨_, .inl ⟨xs, .inl (.inl hp), by rw [← r1.empty]⟩, hc _ F1 H1 q g⟩)
end
end LC
/-! Subscripts, slices, calls of built-ins over deep data. -/
namespace LC
open PySem L2 PySem.Spec PyProof.Rows
/-- the built-ins' names that the module leaves alone -/
structure Bare (mg : Str → Option Value) : Prop where
  isi : mg "isinstance" = none
  int : mg "int" = none
  bool : mg "bool" = none
  tuple : mg "tuple" = none
  all : mg "all" = none
  zip : mg "zip" = none
  len : mg "len" = none
  sum : mg "sum" = none
  range : mg "range" = none
  enum : mg "enumerate" = none
  max : mg "max" = none
  min : mg "min" = none
  sorted : mg "sorted" = none
  set : mg "set" = none
  list : mg "list" = none
section
variable {X : Cx} {Wl : Wild} {ρ : Env'} {e a b c : Expr} {es : List Expr} {pos p : Pos} {Q Q' : R → Prop}
/-! ### xs[i] -/
theorem atI_rep {en : En} {F : Hp} {ds : List D} {vs : List V} {i : Int} {d : D} (r : RepA en F ds vs) (h : atI ds i = some d) : ∃ v, atI vs i = some v ∧ Rep en F d v := by
  unfold atI at h ⊢
  rw [← r.length]
  cases q : ixN ds.length i with
  | none => rw [q] at h; cases h
  | some j =>
    rw [q] at h
    exact r.get h
def ixK : R → R → (R → Prop) → Prop
  | .val (.tuple ds), .val (.int i), Q => ∃ d, atI ds i = some d ∧ Q (.val d)
  | .val (.list ds), .val (.int i), Q => ∃ d, atI ds i = some d ∧ Q (.val d)
  | .own (.list ds), .val (.int i), Q => ∃ d, atI ds i = some d ∧ Q (.val d)
  | _, _, _ => False
def rIx2 (K : PySem.W.Frag) : R2 := fun x y H Q => rIxL K x y H Q ∨ rIxT K x y H Q
theorem ix_2 : IxR X (rIx2 X.K) := ix_list.or ix_tup
theorem d_ix {en : En} : DOp en Wl (rIx2 en.K) ixK := by
  intro F H x y v u Q C a rx ry h hc
  match x, y, h, rx, ry with
  | .val (.tuple ds), .val (.int i), ⟨d, hd, h⟩, rx, ry =>
    cases ry
    obtain ⟨q, xs, rfl, hp, r⟩ := Rep.seqT a rx
    obtain ⟨w, hw, rw'⟩ := atI_rep r hd
    exact .inr ⟨q, xs, i, w, rfl, rfl, hp, hw, hc _ _ F H h (Gr.refl a) rw'⟩
  | .val (.list ds), .val (.int i), ⟨d, hd, h⟩, rx, ry =>
    cases ry
    obtain ⟨q, xs, rfl, hp, r⟩ := RepR.seqL a (.inl rx)
    obtain ⟨w, hw, rw'⟩ := atI_rep r hd
    exact .inl ⟨q, xs, i, w, rfl, rfl, .inl (.inl hp), hw, hc _ _ F H h (Gr.refl a) rw'⟩
  | .own (.list ds), .val (.int i), ⟨d, hd, h⟩, rx, ry =>
    cases ry
    obtain ⟨q, xs, rfl, hp, r⟩ := RepR.seqL a (.inr rx)
    obtain ⟨w, hw, rw'⟩ := atI_rep r hd
    exact .inl ⟨q, xs, i, w, rfl, rfl, .inl (.inl hp), hw, hc _ _ F H h (Gr.refl a) rw'⟩
theorem we_ix (h : WE X Wl ρ a fun x => WE X Wl ρ b fun y => ixK x y Q) (hs : PlainIx b := by exact fun _ _ => rfl) : WE X Wl ρ (.Subscript a b pos) Q :=
  fun F H σ C ha hs' hc => (pe_ix ix_2 pe_sem pe_sem hs).sem (two_sem d_ix ha hs' h hc)

/-! ### xs[lo:hi] -/
/-- an optional part of a slice, a whole number -/
def WO (X : Cx) (Wl : Wild) (ρ : Env') (o : Option Expr) (k : Option Int → Prop) : Prop := match o with
  | none => k none
  | some e => WE X Wl ρ e fun r => match r with | .val (.int i) => k (some i) | _ => False
def cutD (ds : List D) (lo hi : Option Int) : List D := (ds.drop (HT.sIx ds.length 0 lo)).take (HT.sIx ds.length ds.length hi - HT.sIx ds.length 0 lo)
theorem cut_rep {en : En} {F : Hp} {ds : List D} {vs : List V} {lo hi : Option Int} (r : RepA en F ds vs) : RepA en F (cutD ds lo hi) (cutV vs lo hi) := by
  unfold cutD cutV
  rw [← r.length]
  exact (r.drop _).take _
def slK (lo hi : Option Int) (Q : R → Prop) : R → Prop
  | .val (.tuple ds) => Q (.val (.tuple (cutD ds lo hi)))
  | .val (.list ds) => Q (.val (.list (cutD ds lo hi)))
  | .own (.list ds) => Q (.val (.list (cutD ds lo hi)))
  | _ => False
def rSl2 (K : PySem.W.Frag) : V → Option Int → Option Int → Hp → VK → Prop := fun x lo hi H Q => rSlL K x lo hi H Q ∨ rSlA K x lo hi H Q
theorem sl_2 : SlR X (rSl2 X.K) := SlR.or sl_list sl_tupA
theorem cut_all {ds : List D} {lo hi : Option Int} (h : HT.sIx ds.length 0 lo = 0 ∧ HT.sIx ds.length ds.length hi = ds.length) : cutD ds lo hi = ds := by
  unfold cutD
  rw [h.1, h.2, List.drop_zero, Nat.sub_zero, List.take_length]
theorem sl_rep {F H : Hp} {x : R} {v : V} {lo hi : Option Int} {C : VK} (a : At Wl F H) (rx : RepR (cxEn X) Wl F H x v) (h : slK lo hi Q x) (hc : ∀ r v F' H', Q r → Gr Wl F H F' H' → RepR (cxEn X) Wl F' H' r v → C v H') : rSl2 X.K v lo hi H C := by
  match x, h, rx with
  | .val (.tuple ds), h, rx =>
    obtain ⟨q, xs, rfl, hp, r⟩ := Rep.seqT a rx
    refine .inr ⟨q, xs, rfl, hp, fun hw => ?_, fun hw z hz => ?_⟩
    · rw [← r.length] at hw
      have h' : Q (.val (.tuple (cutD ds lo hi))) := h
      rw [cut_all hw] at h'
      exact hc _ _ F H h' (Gr.refl a) rx
    · have g := Gr.new (o := .tup (cutV xs lo hi)) a hz
      exact hc _ _ _ _ h g (.tuple (.inl (.inl upd_same)) ((cut_rep r).mono g.ff))
  | .val (.list ds), h, rx =>
    obtain ⟨q, xs, rfl, hp, r⟩ := RepR.seqL a (.inl rx)
    exact .inl ⟨q, xs, rfl, .inl (.inl hp), fun z hz => by
      have g := Gr.new (o := .lst (cutV xs lo hi)) a hz
      exact hc _ _ _ _ h g (.list upd_same ((cut_rep r).mono g.ff))⟩
  | .own (.list ds), h, rx =>
    obtain ⟨q, xs, rfl, hp, r⟩ := RepR.seqL a (.inr rx)
    exact .inl ⟨q, xs, rfl, .inl (.inl hp), fun z hz => by
      have g := Gr.new (o := .lst (cutV xs lo hi)) a hz
      exact hc _ _ _ _ h g (.list upd_same ((cut_rep r).mono g.ff))⟩
theorem we_sl10 {p2 : Pos} (h : WE X Wl ρ a fun x => WE X Wl ρ b fun y => match y with | .val (.int i) => slK (some i) none Q x | _ => False) : WE X Wl ρ (.Subscript a (.Slice (some b) none none p2) pos) Q :=
  fun F H σ C ha hs hc => (pe_slice sl_2 pe_sem (po_some pe_sem) po_none).sem (h F H σ _ ha hs fun x v F1 H1 hx g1 r1 => hx F1 H1 σ _ g1.at_ (hs.mono g1) fun y u F2 H2 hy g2 r2 => by
    match y, hy, r2 with
    | .val (.int i), hy, r2 => cases r2; exact ⟨i, rfl, sl_rep g2.at_ (r1.mono g2) hy fun r v F' H' q g rr => hc r v F' H' q ((g1.trans g2).trans g) rr⟩)
theorem we_sl01 {p2 : Pos} (h : WE X Wl ρ a fun x => WE X Wl ρ b fun y => match y with | .val (.int i) => slK none (some i) Q x | _ => False) : WE X Wl ρ (.Subscript a (.Slice none (some b) none p2) pos) Q :=
  fun F H σ C ha hs hc => (pe_slice sl_2 pe_sem po_none (po_some pe_sem)).sem (h F H σ _ ha hs fun x v F1 H1 hx g1 r1 => hx F1 H1 σ _ g1.at_ (hs.mono g1) fun y u F2 H2 hy g2 r2 => by
    match y, hy, r2 with
    | .val (.int i), hy, r2 => cases r2; exact ⟨i, rfl, sl_rep g2.at_ (r1.mono g2) hy fun r v F' H' q g rr => hc r v F' H' q ((g1.trans g2).trans g) rr⟩)

/-! ### calls of built-ins -/
def DCall (en : En) (Wl : Wild) (r : List V → Hp → VK → Prop) (k : List R → (R → Prop) → Prop) : Prop := ∀ (F H : Hp) (rs : List R) (vs : List V) (Q : R → Prop) (C : VK), At Wl F H → RepRs en Wl F H rs vs → k rs Q →
  (∀ r v F' H', Q r → Gr Wl F H F' H' → RepR en Wl F' H' r v → C v H') → r vs H C
theorem we_callB {x : Str} {id : String} {r : List V → Hp → VK → Prop} {k : List R → (R → Prop) → Prop} (hc' : CallR X (.builtin id) r) (hd : DCall (cxEn X) Wl r k) (hm : X.mg x = none) (hv : bootBuiltins x = some (.builtin id))
    (h : WA X Wl ρ (e :: es) fun rs => k rs Q) (hg : Gl X x := by rfl) (hn : x ≠ "__name__" := by decide) (hdb : (x == ("__debug__" : Str)) = false := by decide)
    (he : starEach (e :: es) X.env = (false, eval e X.env) :: starEach es X.env := by rfl) (hpl : (backTo pos (starEach es X.env)).any (·.1) = false := by rfl) : WE X Wl ρ (.Call (.Name x p) (e :: es) [] pos) Q :=
  fun F H σ C ha hs hc => (pe_callB hc' hg hm hv pa_sem hn hdb he hpl).sem (h F H σ _ ha hs fun rs vs F1 H1 hk g1 r1 => hd F1 H1 rs vs Q C g1.at_ r1 hk fun r v F' H' q g rr => hc r v F' H' q (g1.trans g) rr)
theorem we_callTy {x : Str} {T : String} {r : List V → Hp → VK → Prop} {k : List R → (R → Prop) → Prop} (hc' : CallR X (.type T) r) (hd : DCall (cxEn X) Wl r k) (hm : X.mg x = none) (hv : bootBuiltins x = some (.type T))
    (h : WA X Wl ρ (e :: es) fun rs => k rs Q) (hg : Gl X x := by rfl) (hn : x ≠ "__name__" := by decide) (hdb : (x == ("__debug__" : Str)) = false := by decide)
    (he : starEach (e :: es) X.env = (false, eval e X.env) :: starEach es X.env := by rfl) (hpl : (backTo pos (starEach es X.env)).any (·.1) = false := by rfl) : WE X Wl ρ (.Call (.Name x p) (e :: es) [] pos) Q :=
  fun F H σ C ha hs hc => (pe_callTy hc' hg hm hv pa_sem hn hdb he hpl).sem (h F H σ _ ha hs fun rs vs F1 H1 hk g1 r1 => hd F1 H1 rs vs Q C g1.at_ r1 hk fun r v F' H' q g rr => hc r v F' H' q (g1.trans g) rr)
theorem rep1 {en : En} {F H : Hp} {r : R} {vs : List V} (h : RepRs en Wl F H [r] vs) : ∃ v, vs = [v] ∧ RepR en Wl F H r v := by
  cases h with
  | cons h t => cases t; exact ⟨_, rfl, h⟩
theorem rep2 {en : En} {F H : Hp} {r s : R} {vs : List V} (h : RepRs en Wl F H [r, s] vs) : ∃ v w, vs = [v, w] ∧ RepR en Wl F H r v ∧ RepR en Wl F H s w := by
  cases h with
  | cons h t => obtain ⟨w, rfl, h2⟩ := rep1 t; exact ⟨_, w, rfl, h, h2⟩
/-- len -/
def lenK : List R → (R → Prop) → Prop
  | [.val (.list ds)], Q => Q (.val (.int ds.length))
  | [.val (.tuple ds)], Q => Q (.val (.int ds.length))
  | [.own (.list ds)], Q => Q (.val (.int ds.length))
  | _, _ => False
theorem d_len : DCall (cxEn X) Wl (fun xs H Q => ∃ x n, xs = [x] ∧ LenV X.K x H n ∧ Q (.int n) H) lenK := by
  intro F H rs vs Q C a r h hc
  match rs, h, r with
  | [.val (.list ds)], h, r =>
    obtain ⟨v, rfl, r0⟩ := rep1 r
    obtain ⟨p, xs, rfl, hp, r1⟩ := RepR.seqL a (.inl r0)
    exact ⟨_, ds.length, rfl, .inl ⟨xs, .inl (.inl hp), r1.length⟩, hc _ _ F H h (Gr.refl a) (Rep.int _)⟩
  | [.val (.tuple ds)], h, r =>
    obtain ⟨v, rfl, r0⟩ := rep1 r
    obtain ⟨p, xs, rfl, hp, r1⟩ := Rep.seqT a r0
    exact ⟨_, ds.length, rfl, .inr ⟨xs, hp, r1.length⟩, hc _ _ F H h (Gr.refl a) (Rep.int _)⟩
  | [.own (.list ds)], h, r =>
    obtain ⟨v, rfl, r0⟩ := rep1 r
    obtain ⟨p, xs, rfl, hp, r1⟩ := RepR.seqL a (.inr r0)
    exact ⟨_, ds.length, rfl, .inl ⟨xs, .inl (.inl hp), r1.length⟩, hc _ _ F H h (Gr.refl a) (Rep.int _)⟩
theorem we_len (B : Bare X.mg) (h : WA X Wl ρ [e] fun rs => lenK rs Q) (hg : Gl X "len" := by rfl) (he : starEach [e] X.env = (false, eval e X.env) :: starEach [] X.env := by rfl) : WE X Wl ρ (.Call (.Name "len" p) [e] [] pos) Q :=
  we_callB call_len d_len B.len PySem.boot_len h hg (by decide) (by decide) he (by rfl)
/-- min, max of two numbers -/
def mm2K (f : Int → Int → Int) : List R → (R → Prop) → Prop
  | [.val (.int i), .val (.int j)], Q => Q (.val (.int (f i j)))
  | _, _ => False
theorem d_mm2 {f : Int → Int → Int} {en : En} : DCall en Wl (fun xs H Q => ∃ i j, xs = [.int i, .int j] ∧ Q (.int (f i j)) H) (mm2K f) := by
  intro F H rs vs Q C a r h hc
  match rs, h, r with
  | [.val (.int i), .val (.int j)], h, r =>
    obtain ⟨v, w, rfl, r1, r2⟩ := rep2 r
    cases r1; cases r2
    exact ⟨i, j, rfl, hc _ _ F H h (Gr.refl a) (Rep.int _)⟩
theorem we_max2 (B : Bare X.mg) (h : WA X Wl ρ [a, b] fun rs => mm2K (fun i j => if j > i then j else i) rs Q) (hcal : X.calm = true := by rfl) (hg : Gl X "max" := by rfl) (he : starEach [a, b] X.env = (false, eval a X.env) :: starEach [b] X.env := by rfl)
    (hpl : (backTo pos (starEach [b] X.env)).any (·.1) = false := by rfl) : WE X Wl ρ (.Call (.Name "max" p) [a, b] [] pos) Q :=
  we_callB (call_max2 hcal) d_mm2 B.max PyProof.Rows.boot_max h hg (by decide) (by decide) he hpl
theorem we_min2 (B : Bare X.mg) (h : WA X Wl ρ [a, b] fun rs => mm2K (fun i j => if j < i then j else i) rs Q) (hcal : X.calm = true := by rfl) (hg : Gl X "min" := by rfl) (he : starEach [a, b] X.env = (false, eval a X.env) :: starEach [b] X.env := by rfl)
    (hpl : (backTo pos (starEach [b] X.env)).any (·.1) = false := by rfl) : WE X Wl ρ (.Call (.Name "min" p) [a, b] [] pos) Q :=
  we_callB (call_min2 hcal) d_mm2 B.min (by decide +kernel) h hg (by decide) (by decide) he hpl
/-- max of a list of numbers -/
def maxLK : List R → (R → Prop) → Prop
  | [.val (.list ds)], Q => ∃ ns : List Int, ds = ns.map PyData.int ∧ 0 < ns.length ∧ ∀ m, m ∈ ns → (∀ y, y ∈ ns → y ≤ m) → Q (.val (.int m))
  | [.own (.list ds)], Q => ∃ ns : List Int, ds = ns.map PyData.int ∧ 0 < ns.length ∧ ∀ m, m ∈ ns → (∀ y, y ∈ ns → y ≤ m) → Q (.val (.int m))
  | _, _ => False
theorem d_maxL : DCall (cxEn X) Wl (rMax X.K) maxLK := by
  intro F H rs vs Q C a r h hc
  match rs, h, r with
  | [.val (.list ds)], ⟨ns, e, hl, h⟩, r =>
    obtain ⟨v, rfl, r0⟩ := rep1 r
    obtain ⟨p, xs, rfl, hp, r1⟩ := RepR.seqL a (.inl r0)
    subst e
    have := r1.ints
    subst this
    exact ⟨p, ns, rfl, .inl (.inl hp), hl, fun m h1 h2 => hc _ _ F H (h m h1 h2) (Gr.refl a) (Rep.int _)⟩
  | [.own (.list ds)], ⟨ns, e, hl, h⟩, r =>
    obtain ⟨v, rfl, r0⟩ := rep1 r
    obtain ⟨p, xs, rfl, hp, r1⟩ := RepR.seqL a (.inr r0)
    subst e
    have := r1.ints
    subst this
    exact ⟨p, ns, rfl, .inl (.inl hp), hl, fun m h1 h2 => hc _ _ F H (h m h1 h2) (Gr.refl a) (Rep.int _)⟩
theorem we_maxL (B : Bare X.mg) (h : WA X Wl ρ [a] fun rs => maxLK rs Q) (hcal : X.calm = true := by rfl) (hg : Gl X "max" := by rfl) (he : starEach [a] X.env = (false, eval a X.env) :: starEach [] X.env := by rfl) : WE X Wl ρ (.Call (.Name "max" p) [a] [] pos) Q :=
  we_callB (cr_max hcal) d_maxL B.max PyProof.Rows.boot_max h hg (by decide) (by decide) he (by rfl)
/-- int of a number -/
def intK : List R → (R → Prop) → Prop
  | [.val (.int i)], Q => Q (.val (.int i))
  | _, _ => False
theorem we_int1 (B : Bare X.mg) (h : WA X Wl ρ [a] fun rs => intK rs Q) (hg : Gl X "int" := by rfl) (he : starEach [a] X.env = (false, eval a X.env) :: starEach [] X.env := by rfl) : WE X Wl ρ (.Call (.Name "int" p) [a] [] pos) Q :=
  we_callTy call_int1 (fun F H rs vs Q C a r h hc => by
    match rs, h, r with
    | [.val (.int i)], h, r => obtain ⟨v, rfl, r0⟩ := rep1 r; cases r0; exact .inl ⟨i, rfl, hc _ _ F H h (Gr.refl a) (Rep.int _)⟩) B.int PyProof.Rows.boot_int h hg (by decide) (by decide) he (by rfl)
/-- tuple, list of a list or a tuple -/
def tupOfK : List R → (R → Prop) → Prop
  | [.val (.list ds)], Q => Q (.val (.tuple ds))
  | [.own (.list ds)], Q => Q (.val (.tuple ds))
  | [.val (.tuple ds)], Q => Q (.val (.tuple ds))
  | _, _ => False
theorem we_tuple (B : Bare X.mg) (h : WA X Wl ρ [a] fun rs => tupOfK rs Q) (hg : Gl X "tuple" := by rfl) (he : starEach [a] X.env = (false, eval a X.env) :: starEach [] X.env := by rfl) : WE X Wl ρ (.Call (.Name "tuple" p) [a] [] pos) Q :=
  we_callTy call_tuple_of (fun F H rs vs Q C a r h hc => by
    match rs, h, r with
    | [.val (.list ds)], h, r =>
      obtain ⟨v, rfl, r0⟩ := rep1 r
      obtain ⟨p, xs, rfl, hp, r1⟩ := RepR.seqL a (.inl r0)
      exact ⟨p, xs, rfl, .inl ⟨.inl (.inl hp), fun l hl => by
        have g := Gr.new (o := .tup xs) a hl
        exact hc _ _ _ _ h g (.tuple (.inl (.inl upd_same)) (r1.mono g.ff))⟩⟩
    | [.own (.list ds)], h, r =>
      obtain ⟨v, rfl, r0⟩ := rep1 r
      obtain ⟨p, xs, rfl, hp, r1⟩ := RepR.seqL a (.inr r0)
      exact ⟨p, xs, rfl, .inl ⟨.inl (.inl hp), fun l hl => by
        have g := Gr.new (o := .tup xs) a hl
        exact hc _ _ _ _ h g (.tuple (.inl (.inl upd_same)) (r1.mono g.ff))⟩⟩
    | [.val (.tuple ds)], h, r =>
      obtain ⟨v, rfl, r0⟩ := rep1 r
      obtain ⟨p, xs, rfl, hp, r1⟩ := Rep.seqT a r0
      exact ⟨p, xs, rfl, .inr ⟨hp, hc _ _ F H h (Gr.refl a) r0⟩⟩) B.tuple PyProof.Rows.boot_tuple h hg (by decide) (by decide) he (by rfl)
def lstOfK : List R → (R → Prop) → Prop
  | [.val (.list ds)], Q => Q (.val (.list ds))
  | [.own (.list ds)], Q => Q (.val (.list ds))
  | [.val (.tuple ds)], Q => Q (.val (.list ds))
  | _, _ => False
theorem we_list (B : Bare X.mg) (h : WA X Wl ρ [a] fun rs => lstOfK rs Q) (hg : Gl X "list" := by rfl) (he : starEach [a] X.env = (false, eval a X.env) :: starEach [] X.env := by rfl) : WE X Wl ρ (.Call (.Name "list" p) [a] [] pos) Q :=
  we_callTy call_list_of (fun F H rs vs Q C a r h hc => by
    match rs, h, r with
    | [.val (.list ds)], h, r =>
      obtain ⟨v, rfl, r0⟩ := rep1 r
      obtain ⟨p, xs, rfl, hp, r1⟩ := RepR.seqL a (.inl r0)
      exact ⟨p, xs, rfl, .inl (.inl (.inl hp)), fun l hl => by
        have g := Gr.new (o := .lst xs) a hl
        exact hc _ _ _ _ h g (.list upd_same (r1.mono g.ff))⟩
    | [.own (.list ds)], h, r =>
      obtain ⟨v, rfl, r0⟩ := rep1 r
      obtain ⟨p, xs, rfl, hp, r1⟩ := RepR.seqL a (.inr r0)
      exact ⟨p, xs, rfl, .inl (.inl (.inl hp)), fun l hl => by
        have g := Gr.new (o := .lst xs) a hl
        exact hc _ _ _ _ h g (.list upd_same (r1.mono g.ff))⟩
    | [.val (.tuple ds)], h, r =>
      obtain ⟨v, rfl, r0⟩ := rep1 r
      obtain ⟨p, xs, rfl, hp, r1⟩ := Rep.seqT a r0
      exact ⟨p, xs, rfl, .inr hp, fun l hl => by
        have g := Gr.new (o := .lst xs) a hl
        exact hc _ _ _ _ h g (.list upd_same (r1.mono g.ff))⟩) B.list PyProof.Rows.boot_list h hg (by decide) (by decide) he (by rfl)
/-- sum of numbers, each and all of them small -/
def SmallSum (ns : List Int) : Prop := ∀ j, j < ns.length → InLong (ns.getD j 0) ∧ InLong (PySem.preSum (fun i => ns.getD i 0) (j + 1))
def rSumA (K : PySem.W.Frag) : List V → Hp → VK → Prop := fun vs H Q => rSum K vs H Q ∨ ∃ (a : Addr) (ns : List Int), vs = [V.ref a] ∧ SqT K H a (ns.map V.int) ∧ SmallSum ns ∧ Q (.int (PySem.preSum (fun i => ns.getD i 0) ns.length)) H
theorem cr_sumA (hcal : X.calm = true) : CallR X (.builtin "sum") (rSumA X.K) := by
  intro pins s σ H vs us Q I r h
  rcases h with h | ⟨a, ns, rfl, hs, hz, q⟩
  · exact cr_sum hcal pins s σ H vs us Q I r h
  · obtain ⟨u, rfl, ru⟩ := vals1 r
    obtain rfl : u = Value.ref a := ru
    obtain ⟨its, rv, p, _⟩ := I.tuple hs
    have hlen : its.length = ns.length := by rw [← rv.length, List.length_map]
    refine PySem.call_sum_walk (wpAny_pyIter_tuple (show s.heap.IsTuple a its.toArray from p) ?_)
    have ha : a < s.heap.objs.size := p.lt
    refine ⟨s.heap.objs.size, [s.heap.objs.size, a], [s.heap.objs.size], ns.length, fun i v => its.toArray[i]? = some v, fun i h => h.IsTupleIter s.heap.objs.size a i ∧ h.IsTuple a its.toArray, fun i => ns.getD i 0, rfl, ?_, ?_, ?_, ?_, hz, fun h' tk t' hk => ⟨.int _, H, I.kept (t' := tk) (h' := h') fun b o e => hk b o (fun z => ?_) (Heap.get?_push_of_some _ e), ⟨_, rfl⟩, q⟩⟩
    · have W := Walks.tuple (prog := X.prog) (w := X.w) (A := X.A.in1) (I.ok.hd hcal) s.heap.objs.size a (Nat.ne_of_lt ha) its.toArray
      have e : its.toArray.size = ns.length := by rw [List.size_toArray, hlen]
      rw [e] at W
      exact W
    · exact ⟨⟨_, Heap.get?_push_size _ rfl, rfl, rfl⟩, let ⟨o, e, r⟩ := p; ⟨o, Heap.get?_push_of_some _ e, r⟩⟩
    · intro b hb
      rw [Heap.size_push]
      rcases List.mem_cons.mp hb with z | z
      · rw [z]; exact Nat.lt_succ_self _
      · rcases List.mem_cons.mp z with z | z
        · rw [z]; exact Nat.lt_succ_of_lt ha
        · cases z
    · intro i v hv
      have hv' : its[i]? = some v := by simpa using hv
      have hi : i < ns.length := by rw [← hlen]; exact (List.getElem?_eq_some_iff.mp hv').1
      have hx : (ns.map V.int)[i]? = some (V.int (ns.getD i 0)) := by
        rw [List.getElem?_map, List.getElem?_eq_getElem hi]
        simp [List.getD, List.getElem?_eq_getElem hi]
      obtain ⟨u, hu, ru⟩ := rv.get hx
      rw [hv'] at hu
      cases hu
      exact ru
    · have z' : b = s.heap.objs.size := by simpa using z
      have := Heap.lt_size e
      rw [z'] at this
      exact Nat.lt_irrefl _ this
theorem preSum_sum : ∀ (ns : List Int) (n : Nat), n ≤ ns.length → PySem.preSum (fun i => ns.getD i 0) n = (ns.take n).sum := by
  intro ns n
  induction n with
  | zero => intro _; simp [PySem.preSum]
  | succ n ih =>
    intro h
    have hn : n < ns.length := h
    have e1 : ns.take (n + 1) = ns.take n ++ [ns[n]] := by rw [List.take_succ, List.getElem?_eq_getElem hn]; rfl
    have e2 : ns.getD n 0 = ns[n] := by simp [List.getD, List.getElem?_eq_getElem hn]
    rw [PySem.preSum, ih (Nat.le_of_lt hn), e1, List.sum_append, e2]
    simp only [List.sum_cons, List.sum_nil, Int.add_zero]
def sumK : List R → (R → Prop) → Prop
  | [.val (.tuple ds)], Q => ∃ ns : List Int, ds = ns.map PyData.int ∧ SmallSum ns ∧ Q (.val (.int ns.sum))
  | [.own (.list ds)], Q => ∃ ns : List Int, ds = ns.map PyData.int ∧ Q (.val (.int ns.sum))
  | [.val (.list ds)], Q => ∃ ns : List Int, ds = ns.map PyData.int ∧ Q (.val (.int ns.sum))
  | _, _ => False
theorem d_sum : DCall (cxEn X) Wl (rSumA X.K) sumK := by
  intro F H rs vs Q C a r h hc
  match rs, h, r with
  | [.val (.tuple ds)], ⟨ns, e, hz, h⟩, r =>
    obtain ⟨v, rfl, r0⟩ := rep1 r
    obtain ⟨p, xs, rfl, hp, r1⟩ := Rep.seqT a r0
    subst e
    have := r1.ints
    subst this
    refine .inr ⟨p, ns, rfl, hp, hz, ?_⟩
    rw [preSum_sum ns _ (Nat.le_refl _), List.take_length]
    exact hc _ _ F H h (Gr.refl a) (Rep.int _)
  | [.own (.list ds)], ⟨ns, e, h⟩, r =>
    obtain ⟨v, rfl, r0⟩ := rep1 r
    obtain ⟨p, xs, rfl, hp, r1⟩ := RepR.seqL a (.inr r0)
    subst e
    have := r1.ints
    subst this
    exact .inl ⟨p, ns, rfl, .inl (.inl hp), hc _ _ F H h (Gr.refl a) (Rep.int _)⟩
  | [.val (.list ds)], ⟨ns, e, h⟩, r =>
    obtain ⟨v, rfl, r0⟩ := rep1 r
    obtain ⟨p, xs, rfl, hp, r1⟩ := RepR.seqL a (.inl r0)
    subst e
    have := r1.ints
    subst this
    exact .inl ⟨p, ns, rfl, .inl (.inl hp), hc _ _ F H h (Gr.refl a) (Rep.int _)⟩
theorem we_sum (B : Bare X.mg) (h : WA X Wl ρ [a] fun rs => sumK rs Q) (hcal : X.calm = true := by rfl) (hg : Gl X "sum" := by rfl) (he : starEach [a] X.env = (false, eval a X.env) :: starEach [] X.env := by rfl) : WE X Wl ρ (.Call (.Name "sum" p) [a] [] pos) Q :=
  we_callB (cr_sumA hcal) d_sum B.sum (by decide +kernel) h hg (by decide) (by decide) he (by rfl)

/-! ### isinstance -/
theorem isi_sem {x T : Str} {n : String} {t : Value} {k : Bool} {pt : Pos} {kd : R → Prop} (B : Bare X.mg) (hT : X.mg T = none) (hb : bootBuiltins T = some (.type n)) (hk : PySem.W.kitOne X.K t (.type n) = some k)
    (hty : ∀ F H r v, At Wl F H → kd r → RepR (cxEn X) Wl F H r v → TyX X.K H v t) (h : WE X Wl ρ a fun r => kd r ∧ Q (.val (.bool k)))
    (hg : Gl X "isinstance" := by rfl) (hgT : Gl X T := by rfl) (hnT : T ≠ "__name__" := by decide) (hdT : (T == ("__debug__" : Str)) = false := by decide)
    (he : starEach [a, .Name T pt] X.env = (false, eval a X.env) :: starEach [.Name T pt] X.env := by rfl) (hpl : (backTo pos (starEach [.Name T pt] X.env)).any (·.1) = false := by rfl) :
    WE X Wl ρ (.Call (.Name "isinstance" p) [a, .Name T pt] [] pos) Q := fun F H σ C ha hs hc =>
  (pe_callB call_isi hg B.isi PyProof.Rows.boot_isinstance (pa_cons pe_sem (pa_cons (pe_bltn (v := .ty n) hgT hT hb rfl hnT hdT) pa_nil) he) (by decide) (by decide) he hpl).sem
    (h F H σ _ ha hs fun r v F1 H1 hx g1 r1 => ⟨v, .ty n, t, .type n, k, rfl, .ty n, hty F1 H1 r v g1.at_ hx.1 r1, hk, hc _ _ F1 H1 hx.2 g1 (Rep.bool _)⟩)
def isInt : R → Prop
  | .val (.int _) => True
  | _ => False
def isTup : R → Prop
  | .val (.tuple _) => True
  | _ => False
theorem ty_int {F H : Hp} {r : R} {v : V} (_ : At Wl F H) (h : isInt r) (rr : RepR (cxEn X) Wl F H r v) : TyX X.K H v (.type "int") := by
  match r, h, rr with
  | .val (.int i), _, rr => cases rr; exact .base (.int i)
theorem ty_tup {F H : Hp} {r : R} {v : V} (a : At Wl F H) (h : isTup r) (rr : RepR (cxEn X) Wl F H r v) : TyX X.K H v (.type "tuple") := by
  match r, h, rr with
  | .val (.tuple ds), _, rr =>
    obtain ⟨p, xs, rfl, hp, _⟩ := Rep.seqT a rr
    rcases hp with (hp | ⟨o, hp⟩) | ⟨o, its, n, hk, hc, _⟩
    · exact .base (.tup hp)
    · exact .fTuple hp
    · exact .kTuple hk hc
theorem we_isInt (B : Bare X.mg) {pt : Pos} (h : WE X Wl ρ a fun r => isInt r ∧ Q (.val (.bool true))) (hk : PySem.W.kitOne X.K (.type "int") (.type "int") = some true := by exact kit_ty (by decide +kernel))
    (hg : Gl X "isinstance" := by rfl) (hgT : Gl X "int" := by rfl) (he : starEach [a, .Name "int" pt] X.env = (false, eval a X.env) :: starEach [.Name "int" pt] X.env := by rfl) :
    WE X Wl ρ (.Call (.Name "isinstance" p) [a, .Name "int" pt] [] pos) Q := isi_sem (x := "int") B B.int PyProof.Rows.boot_int hk (fun _ _ _ _ a h r => ty_int a h r) h hg hgT (by decide) (by decide) he (by rfl)
theorem we_isBool (B : Bare X.mg) {pt : Pos} (h : WE X Wl ρ a fun r => isInt r ∧ Q (.val (.bool false))) (hk : PySem.W.kitOne X.K (.type "int") (.type "bool") = some false := by exact kit_ty (by decide +kernel))
    (hg : Gl X "isinstance" := by rfl) (hgT : Gl X "bool" := by rfl) (he : starEach [a, .Name "bool" pt] X.env = (false, eval a X.env) :: starEach [.Name "bool" pt] X.env := by rfl) :
    WE X Wl ρ (.Call (.Name "isinstance" p) [a, .Name "bool" pt] [] pos) Q := isi_sem (x := "bool") B B.bool PyProof.Rows.boot_bool hk (fun _ _ _ _ a h r => ty_int a h r) h hg hgT (by decide) (by decide) he (by rfl)
theorem we_isTup (B : Bare X.mg) {pt : Pos} (h : WE X Wl ρ a fun r => isTup r ∧ Q (.val (.bool true))) (hk : PySem.W.kitOne X.K (.type "tuple") (.type "tuple") = some true := by exact kit_ty (by decide +kernel))
    (hg : Gl X "isinstance" := by rfl) (hgT : Gl X "tuple" := by rfl) (he : starEach [a, .Name "tuple" pt] X.env = (false, eval a X.env) :: starEach [.Name "tuple" pt] X.env := by rfl) :
    WE X Wl ρ (.Call (.Name "isinstance" p) [a, .Name "tuple" pt] [] pos) Q := isi_sem (x := "tuple") B B.tuple PyProof.Rows.boot_tuple hk (fun _ _ _ _ a h r => ty_tup a h r) h hg hgT (by decide) (by decide) he (by rfl)
end
end LC
/-! Statements over deep data. -/
namespace LC
open PySem L2 PySem.Spec PyProof.Rows
structure Sta (X : Cx) (Wl : Wild) (ρ : Env') (F0 H0 F H : Hp) (σ : L2.St) : Prop where
  gr : Gr Wl F0 H0 F H
  sl : Slots (cxEn X) Wl ρ F H σ
  fr : ∀ (i : Nat) (d : D) (a : Addr), ρ[i]? = some (some (.own d)) → σ[i]? = some (some (.ref a)) → H0 a = none
  sep : ∀ (i j : Nat) (d d' : D), i ≠ j → ρ[i]? = some (some (.own d)) → ρ[j]? = some (some (.own d')) → σ[i]? ≠ σ[j]?
/-- what is wanted behind a statement -/
structure Wish where
  nx : Env' → Prop
  rt : D → Prop
  bk : Env' → Prop := fun _ => False
  ct : Env' → Prop := fun _ => False
structure Meets (X : Cx) (Wl : Wild) (F0 H0 : Hp) (Φ : Wish) (E : Ends) : Prop where
  nx : ∀ ρ' F' H' σ', Φ.nx ρ' → Sta X Wl ρ' F0 H0 F' H' σ' → E.nx σ' H'
  rt : ∀ d v F' H', Φ.rt d → Gr Wl F0 H0 F' H' → Rep (cxEn X) F' d v → E.rt v H'
  bk : ∀ ρ' F' H' σ', Φ.bk ρ' → Sta X Wl ρ' F0 H0 F' H' σ' → E.bk σ' H'
  ct : ∀ ρ' F' H' σ', Φ.ct ρ' → Sta X Wl ρ' F0 H0 F' H' σ' → E.ct σ' H'
def tSemS (X : Cx) (st : Stmt) : TS := fun E σ H => ∀ (pins : List (Addr × Obj)) (s : Shared), Inv X pins σ H s → wpAny (model X.prog X.w) X.A (exec st X.env) (SP X pins E) X.xe s
def tSemSs (X : Cx) (st : List Stmt) : TS := fun E σ H => ∀ (pins : List (Addr × Obj)) (s : Shared), Inv X pins σ H s → wpAny (model X.prog X.w) X.A (execs st X.env) (SP X pins E) X.xe s
theorem ps_sem {X : Cx} {st : Stmt} : PS X st (tSemS X st) := ⟨fun pins s σ H E I h => h pins s I⟩
theorem pss_sem {X : Cx} {st : List Stmt} : PSs X st (tSemSs X st) := ⟨fun pins s σ H E I h => h pins s I⟩
theorem _root_.L2.PS.sem {X : Cx} {st : Stmt} {t : TS} (h : PS X st t) {σ : L2.St} {H : Hp} {E : Ends} (q : t E σ H) : tSemS X st E σ H := fun pins s I => h.run pins s σ H E I q
theorem _root_.L2.PSs.sem {X : Cx} {st : List Stmt} {t : TS} (h : PSs X st t) {σ : L2.St} {H : Hp} {E : Ends} (q : t E σ H) : tSemSs X st E σ H := fun pins s I => h.run pins s σ H E I q
def WS (X : Cx) (Wl : Wild) (ρ : Env') (st : Stmt) (Φ : Wish) : Prop := ∀ F0 H0 F H σ E, Sta X Wl ρ F0 H0 F H σ → Meets X Wl F0 H0 Φ E → tSemS X st E σ H
def WSs (X : Cx) (Wl : Wild) (ρ : Env') (st : List Stmt) (Φ : Wish) : Prop := ∀ F0 H0 F H σ E, Sta X Wl ρ F0 H0 F H σ → Meets X Wl F0 H0 Φ E → tSemSs X st E σ H
section
variable {X : Cx} {Wl : Wild} {ρ : Env'} {F0 H0 F H F' H' : Hp} {σ : L2.St} {Φ : Wish} {E : Ends} {st : Stmt} {rest : List Stmt} {e a b c : Expr} {pos : Pos}
theorem Sta.at_ (s : Sta X Wl ρ F0 H0 F H σ) : At Wl F H := s.gr.at_
theorem Sta.grow (s : Sta X Wl ρ F0 H0 F H σ) (g : Gr Wl F H F' H') : Sta X Wl ρ F0 H0 F' H' σ := ⟨s.gr.trans g, s.sl.mono g, s.fr, s.sep⟩
theorem get_set {α : Type} {l : List α} {i j : Nat} {x y : α} (h : (l.set i x)[j]? = some y) : (i = j ∧ y = x) ∨ (i ≠ j ∧ l[j]? = some y) := by
  by_cases e : i = j
  · subst e
    by_cases hl : i < l.length
    · rw [List.getElem?_set_self hl] at h; cases h; exact .inl ⟨rfl, rfl⟩
    · rw [List.getElem?_eq_none (by rw [List.length_set]; omega)] at h; cases h
  · rw [List.getElem?_set_ne e] at h; exact .inr ⟨e, h⟩
/-- a slot gets data -/
theorem Sta.setVal (s : Sta X Wl ρ F0 H0 F H σ) (i : Nat) {r : R} {v : V} (q : RepR (cxEn X) Wl F H r v) (hr : ∀ d, r ≠ .own d) : Sta X Wl (ρ.set i (some r)) F0 H0 F H (σ.set i (some v)) := by
  refine ⟨s.gr, s.sl.set q, fun j d a h1 h2 => ?_, fun j k d d' hjk h1 h2 => ?_⟩
  · rcases get_set h1 with ⟨_, z⟩ | ⟨n, h1⟩
    · cases z; exact absurd rfl (hr d)
    · rw [List.getElem?_set_ne n] at h2
      exact s.fr j d a h1 h2
  · rcases get_set h1 with ⟨_, z⟩ | ⟨n, h1⟩
    · cases z; exact absurd rfl (hr d)
    · rcases get_set h2 with ⟨_, z⟩ | ⟨n', h2⟩
      · cases z; exact absurd rfl (hr d')
      · rw [List.getElem?_set_ne n, List.getElem?_set_ne n']
        exact s.sep j k d d' hjk h1 h2
/-- a slot gets a new list or dict -/
theorem Sta.setOwn (s : Sta X Wl ρ F0 H0 F H σ) (g : Gr Wl F H F' H') (i : Nat) {d : D} {p : Addr} (hp : H p = none) (fp : F' p = none) (t : Tame Wl p) (o : OwnAt (cxEn X) F' H' p d) : Sta X Wl (ρ.set i (some (.own d))) F0 H0 F' H' (σ.set i (some (.ref p))) := by
  have s' := s.grow g
  have h0 : H0 p = none := by
    cases z : H0 p with
    | none => rfl
    | some u => exact absurd hp (s.gr.there p (by rw [z]; simp))
  have far : ∀ (j : Nat) (d' : D), ρ[j]? = some (some (.own d')) → σ[j]? ≠ some (some (.ref p)) := fun j d' h z => by
    obtain ⟨v, e, q⟩ := s.sl.at_ j _ h
    rw [z] at e; cases e
    obtain ⟨a, e, _, _, o⟩ := q
    cases e
    exact o.there hp
  refine ⟨s'.gr, s'.sl.set ⟨p, rfl, fp, t, o⟩, fun j d' a h1 h2 => ?_, fun j k d1 d2 hjk h1 h2 z => ?_⟩
  · rcases get_set h1 with ⟨n, z⟩ | ⟨n, h1⟩
    · subst n
      rcases get_set h2 with ⟨_, z2⟩ | ⟨n, _⟩
      · cases z2; exact h0
      · exact absurd rfl n
    · rw [List.getElem?_set_ne n] at h2
      exact s.fr j d' a h1 h2
  · rcases get_set h1 with ⟨n, z1⟩ | ⟨n, h1⟩
    · subst n
      rcases get_set h2 with ⟨n', _⟩ | ⟨n', h2⟩
      · exact hjk n'
      · have hi : i < σ.length := by
          rw [← s.sl.len]
          have := (List.getElem?_eq_some_iff.mp h1).1
          rwa [List.length_set] at this
        rw [List.getElem?_set_self hi, List.getElem?_set_ne n'] at z
        exact far k d2 h2 z.symm
    · rcases get_set h2 with ⟨n', _⟩ | ⟨n', h2⟩
      · subst n'
        have hi : i < σ.length := by
          rw [← s.sl.len]
          have := (List.getElem?_eq_some_iff.mp h2).1
          rwa [List.length_set] at this
        rw [List.getElem?_set_self hi, List.getElem?_set_ne n] at z
        exact far j d1 h1 z
      · rw [List.getElem?_set_ne n, List.getElem?_set_ne n'] at z
        exact s.sep j k d1 d2 hjk h1 h2 z

/-! ### blocks -/
theorem wss_nil (h : Φ.nx ρ) : WSs X Wl ρ [] Φ := fun F0 H0 F H σ E s m => pss_nil.sem (m.nx ρ F H σ h s)
theorem wss_cons (h : WS X Wl ρ st { Φ with nx := fun ρ' => WSs X Wl ρ' rest Φ }) : WSs X Wl ρ (st :: rest) Φ := fun F0 H0 F H σ E s m =>
  (pss_cons (ps_sem (st := st)) (pss_sem (st := rest))).sem (h F0 H0 F H σ { E with nx := tSemSs X rest E } s ⟨fun ρ' F' H' σ' q s' => q F0 H0 F' H' σ' E s' m, m.rt, m.bk, m.ct⟩)
theorem wss_one (h : WS X Wl ρ st Φ) : WSs X Wl ρ [st] Φ := fun F0 H0 F H σ E s m => (pss_one (ps_sem (st := st))).sem (h F0 H0 F H σ E s m)
theorem WSs.wish {Φ' : Wish} (h : WSs X Wl ρ rest Φ) (h1 : ∀ ρ, Φ.nx ρ → Φ'.nx ρ) (h2 : ∀ d, Φ.rt d → Φ'.rt d) (h3 : ∀ ρ, Φ.bk ρ → Φ'.bk ρ) (h4 : ∀ ρ, Φ.ct ρ → Φ'.ct ρ) : WSs X Wl ρ rest Φ' := fun F0 H0 F H σ E s m =>
  h F0 H0 F H σ E s ⟨fun ρ' F' H' σ' q => m.nx ρ' F' H' σ' (h1 _ q), fun d v F' H' q => m.rt d v F' H' (h2 _ q), fun ρ' F' H' σ' q => m.bk ρ' F' H' σ' (h3 _ q), fun ρ' F' H' σ' q => m.ct ρ' F' H' σ' (h4 _ q)⟩

/-! ### small statements -/
/-- data, or a place -/
def valK (k : D → Prop) : R → Prop
  | .val d => k d
  | _ => False
theorem ws_asg (i : Nat) {x : Str} {px : Pos} (h : WE X Wl ρ e (valK fun d => Φ.nx (ρ.set i (some (.val d))))) (hN : X.N.Nodup) (hi : X.N[i]? = some x := by rfl) (hx : Loc X.env.scope x := by first | exact Or.inl rfl | exact Or.inr rfl) (hs : swapsWith e (some (.Name x px)) pos.line X.env = pure false := by rfl)
    (hf : X.fn x = true ∨ X.env.scope.names.lookup x = some .local := by first | exact .inl rfl | exact .inr rfl) : WS X Wl ρ (.Assign [.Name x px] e pos) Φ := fun F0 H0 F H σ E s m =>
  (ps_set hN hi hx (pe_sem (e := e)) hs hf).sem (h F H σ _ s.at_ s.sl fun r v F1 H1 q g rr => by
    match r, q, rr with
    | .val d, q, rr => exact m.nx _ F1 H1 _ q ((s.grow g).setVal i rr (fun d z => by cases z)))
theorem ws_own (i : Nat) {x : Str} {px : Pos} (h : WN X Wl ρ e fun d => Φ.nx (ρ.set i (some (.own d)))) (hN : X.N.Nodup) (hi : X.N[i]? = some x := by rfl) (hx : Loc X.env.scope x := by first | exact Or.inl rfl | exact Or.inr rfl) (hs : swapsWith e (some (.Name x px)) pos.line X.env = pure false := by rfl)
    (hf : X.fn x = true ∨ X.env.scope.names.lookup x = some .local := by first | exact .inl rfl | exact .inr rfl) : WS X Wl ρ (.Assign [.Name x px] e pos) Φ := fun F0 H0 F H σ E s m =>
  (ps_set hN hi hx (pe_sem (e := e)) hs hf).sem (h F H σ _ s.at_ s.sl fun d p F1 H1 q g hp fp t o => m.nx _ F1 H1 _ q (s.setOwn g i hp fp t o))
theorem ws_aug {op : Operator} {f : Int → Int → Int} (hp : PIp X op (ipI f)) (i : Nat) {x : Str} {n : Int} {px : Pos} (hr : ρ[i]? = some (some (.val (.int n)))) (h : WE X Wl ρ e (valK fun d => match d with | .int k => Φ.nx (ρ.set i (some (.val (.int (f n k))))) | _ => False)) (hN : X.N.Nodup)
    (hi : X.N[i]? = some x := by rfl) (hx : Loc X.env.scope x := by first | exact Or.inl rfl | exact Or.inr rfl) (hf : X.fn x = true ∨ X.env.scope.names.lookup x = some .local := by first | exact .inl rfl | exact .inr rfl) : WS X Wl ρ (.AugAssign (.Name x px) op e pos) Φ := fun F0 H0 F H σ E s m =>
  (ps_aug hN hi hx (pe_sem (e := e)) hp hf).sem (by
    obtain ⟨v, ev, q⟩ := s.sl.at_ i _ hr
    cases q
    refine ⟨_, ev, h F H σ _ s.at_ s.sl fun r w F1 H1 q g rr => ?_⟩
    match r, q, rr with
    | .val (.int k), q, rr =>
      cases rr
      exact ⟨n, k, rfl, rfl, m.nx _ F1 H1 _ q ((s.grow g).setVal i (r := .val (.int (f n k))) (Rep.int _) (fun d z => by cases z))⟩)
theorem ws_if {sa sb : List Stmt} (h : WT X Wl ρ c fun x => (x = true → WSs X Wl ρ sa Φ) ∧ (x = false → WSs X Wl ρ sb Φ)) : WS X Wl ρ (.If c sa sb pos) Φ := fun F0 H0 F H σ E s m =>
  (ps_if pt_sem (pss_sem (st := sa)) (pss_sem (st := sb))).sem (h F H σ _ s.at_ s.sl fun x F1 H1 q g => by
    cases x with
    | true => rw [if_pos rfl]; exact q.1 rfl F0 H0 F1 H1 σ E (s.grow g) m
    | false => rw [if_neg Bool.false_ne_true]; exact q.2 rfl F0 H0 F1 H1 σ E (s.grow g) m)
theorem ws_ret (h : WE X Wl ρ e (valK Φ.rt)) : WS X Wl ρ (.Return (some e) pos) Φ := fun F0 H0 F H σ E s m =>
  (ps_ret (pe_sem (e := e))).sem (h F H σ _ s.at_ s.sl fun r v F1 H1 q g rr => by
    match r, q, rr with
    | .val d, q, rr => exact m.rt d v F1 H1 q (s.gr.trans g) rr)
theorem ws_expr (h : WE X Wl ρ e fun _ => Φ.nx ρ) (hs : swapsWith e none pos.line X.env = pure false := by rfl) : WS X Wl ρ (.Expr e pos) Φ := fun F0 H0 F H σ E s m =>
  (ps_expr (pe_sem (e := e)) hs).sem (h F H σ _ s.at_ s.sl fun r v F1 H1 q g rr => m.nx _ F1 H1 σ q (s.grow g))
theorem ws_never (h : False) : WS X Wl ρ st Φ := h.elim
theorem ws_brk (h : Φ.bk ρ) : WS X Wl ρ (.Break pos) Φ := fun F0 H0 F H σ E s m => ps_break.sem (m.bk ρ F H σ h s)
theorem ws_cont (h : Φ.ct ρ) : WS X Wl ρ (.Continue pos) Φ := fun F0 H0 F H σ E s m => ps_continue.sem (m.ct ρ F H σ h s)

/-! ### an own list or dict is known for good from here on -/
theorem Sta.freezeL {i : Nat} {ds : List D} (s : Sta X Wl ρ F0 H0 F H σ) (hr : ρ[i]? = some (some (.own (.list ds)))) : ∃ F', Sta X Wl (ρ.set i (some (.val (.list ds)))) F0 H0 F' H σ := by
  obtain ⟨v, ev, a, rfl, fa, t, xs, ha, ra⟩ := s.sl.at_ i _ hr
  have h0 := s.fr i _ a hr ev
  have g : Gr Wl F0 H0 (upd F a (.lst xs)) H := freeze_gr s.gr h0 t ha
  have ex : Ex F (upd F a (.lst xs)) := Evl.Ex.new fa
  refine ⟨upd F a (.lst xs), g, ⟨by rw [List.length_set]; exact s.sl.len, fun j r e => ?_⟩, fun j d p h1 h2 => ?_, fun j k d d' hjk h1 h2 => ?_⟩
  · rcases get_set e with ⟨n, z⟩ | ⟨n, e⟩
    · subst n; cases z
      exact ⟨_, ev, .list upd_same (ra.mono ex)⟩
    · obtain ⟨v, e2, q⟩ := s.sl.at_ j r e
      refine ⟨v, e2, ?_⟩
      cases r with
      | val d => exact Rep.mono ex q
      | adr b => exact q
      | own d =>
        obtain ⟨b, rfl, fb, tb, ob⟩ := q
        have hab : b ≠ a := fun z => by
          subst z
          exact s.sep i j _ _ n hr e (by rw [ev, e2])
        exact ⟨b, rfl, by rw [upd_ne hab]; exact fb, tb, ob.mono ex fun _ z => z⟩
  · rcases get_set h1 with ⟨_, z⟩ | ⟨n, h1⟩
    · cases z
    · exact s.fr j d p h1 h2
  · rcases get_set h1 with ⟨_, z⟩ | ⟨n, h1⟩
    · cases z
    · rcases get_set h2 with ⟨_, z⟩ | ⟨n', h2⟩
      · cases z
      · exact s.sep j k d d' hjk h1 h2
theorem wss_freezeL (i : Nat) {ds : List D} (hr : ρ[i]? = some (some (.own (.list ds)))) (h : WSs X Wl (ρ.set i (some (.val (.list ds)))) rest Φ) : WSs X Wl ρ rest Φ := fun F0 H0 F H σ E s m =>
  let ⟨F', s'⟩ := s.freezeL hr
  h F0 H0 F' H σ E s' m
/-- a dict is locked, by its object -/
theorem Sta.freezeD {i : Nat} {kvs : List (D × D)} (s : Sta X Wl ρ F0 H0 F H σ) (hr : ρ[i]? = some (some (.own (.dict kvs)))) :
    ∃ a u, H a = some u ∧ Mut (some u) ∧ ∀ od, ∃ F', Sta X Wl (ρ.set i (some (.val (.dict kvs)))) F0 H0 F' (upd H a (.frz od u)) σ := by
  obtain ⟨v, ev, a, rfl, fa, t, kx, ha, ra⟩ := s.sl.at_ i _ hr
  have h0 := s.fr i _ a hr ev
  refine ⟨a, _, ha, trivial, fun od => ?_⟩
  have ex : Ex F (upd F a (.frz od (dictAt (cxEn X) a kx))) := Evl.Ex.new fa
  have neF : ∀ {b : Addr} {o : HO}, F b = some o → b ≠ a := fun {b o} e z => by rw [z, fa] at e; cases e
  have g : Gr Wl F0 H0 (upd F a (.frz od (dictAt (cxEn X) a kx))) (upd H a (.frz od (dictAt (cxEn X) a kx))) := by
    refine ⟨s.gr.ff.trans ex, fun b o e tb => ?_, fun b h1 h2 => ?_, fun b o e => ?_, fun p hp => ?_⟩
    · have : b ≠ a := fun z => by rw [z, h0] at e; cases e
      rw [upd_ne this]; exact s.gr.hh b o e tb
    · have : b ≠ a := fun z => h1 (by rw [z]; exact h0)
      rw [upd_ne this]; exact s.gr.nw b h1 h2
    · by_cases z : b = a
      · subst z; rw [upd_same] at e ⊢; exact e
      · rw [upd_ne z] at e ⊢; exact s.at_.fh b o e
    · obtain ⟨q1, u, q2, q3⟩ := s.at_.wl p hp
      exact ⟨by rw [upd_ne (t p hp)]; exact q1, u, by rw [upd_ne (t p hp)]; exact q2, q3⟩
  refine ⟨_, g, ⟨by rw [List.length_set]; exact s.sl.len, fun j r e => ?_⟩, fun j d p h1 h2 => ?_, fun j k d d' hjk h1 h2 => ?_⟩
  · rcases get_set e with ⟨n, z⟩ | ⟨n, e⟩
    · subst n; cases z
      exact ⟨_, ev, .dict upd_same (ra.mono ex)⟩
    · obtain ⟨v, e2, q⟩ := s.sl.at_ j r e
      refine ⟨v, e2, ?_⟩
      cases r with
      | val d => exact Rep.mono ex q
      | adr b => exact q
      | own d =>
        obtain ⟨b, rfl, fb, tb, ob⟩ := q
        have hab : b ≠ a := fun z => by
          subst z
          exact s.sep i j _ _ n hr e (by rw [ev, e2])
        exact ⟨b, rfl, by rw [upd_ne hab]; exact fb, tb, ob.mono ex fun _ z => by rw [upd_ne hab]; exact z⟩
  · rcases get_set h1 with ⟨_, z⟩ | ⟨n, h1⟩
    · cases z
    · exact s.fr j d p h1 h2
  · rcases get_set h1 with ⟨_, z⟩ | ⟨n, h1⟩
    · cases z
    · rcases get_set h2 with ⟨_, z⟩ | ⟨n', h2⟩
      · cases z
      · exact s.sep j k d d' hjk h1 h2
theorem wss_freezeD (i : Nat) {kvs : List (D × D)} (hr : ρ[i]? = some (some (.own (.dict kvs)))) (h : WSs X Wl (ρ.set i (some (.val (.dict kvs)))) rest Φ) : WSs X Wl ρ rest Φ := fun F0 H0 F H σ E s m pins sh I => by
  obtain ⟨a, u, ha, mu, k⟩ := s.freezeD hr
  obtain ⟨od, I'⟩ := I.lock ha mu
  obtain ⟨F', s'⟩ := k od
  exact h F0 H0 F' _ σ E s' m pins sh I'

/-! ### found.append(e) -/
/-- an own list changes -/
theorem Sta.putL {i : Nat} {ds ds' : List D} {xs' : List V} {p : Addr} (s : Sta X Wl ρ F0 H0 F H σ) (hr : ρ[i]? = some (some (.own (.list ds)))) (ep : σ[i]? = some (some (.ref p))) (r' : RepA (cxEn X) F ds' xs') :
    Sta X Wl (ρ.set i (some (.own (.list ds')))) F0 H0 F (upd H p (.lst xs')) σ := by
  obtain ⟨v, ev, a, e0, fa, t, xs, ha, ra⟩ := s.sl.at_ i _ hr
  rw [ep] at ev
  cases ev
  cases e0
  have h0 := s.fr i _ p hr ep
  have g : Gr Wl F0 H0 F (upd H p (.lst xs')) := by
    refine ⟨s.gr.ff, fun b o e tb => ?_, s.gr.nw, fun b o e => ?_, fun q hq => ?_⟩
    · have : b ≠ p := fun z => by rw [z, h0] at e; cases e
      rw [upd_ne this]; exact s.gr.hh b o e tb
    · have : b ≠ p := fun z => by rw [z, fa] at e; cases e
      rw [upd_ne this]; exact s.at_.fh b o e
    · obtain ⟨q1, u, q2, q3⟩ := s.at_.wl q hq
      exact ⟨q1, u, by rw [upd_ne (t q hq)]; exact q2, q3⟩
  refine ⟨g, ⟨by rw [List.length_set]; exact s.sl.len, fun j r e => ?_⟩, fun j d b h1 h2 => ?_, fun j k d d' hjk h1 h2 => ?_⟩
  · rcases get_set e with ⟨n, z⟩ | ⟨n, e⟩
    · subst n; cases z
      exact ⟨_, ep, p, rfl, fa, t, xs', upd_same, r'⟩
    · obtain ⟨v, e2, q⟩ := s.sl.at_ j r e
      refine ⟨v, e2, ?_⟩
      cases r with
      | val d => exact q
      | adr b => exact q
      | own d =>
        obtain ⟨b, rfl, fb, tb, ob⟩ := q
        have hab : b ≠ p := fun z => by
          subst z
          exact s.sep i j _ _ n hr e (by rw [ep, e2])
        exact ⟨b, rfl, fb, tb, ob.mono (Evl.Ex.refl F) fun _ z => by rw [upd_ne hab]; exact z⟩
  · rcases get_set h1 with ⟨n, z⟩ | ⟨n, h1⟩
    · subst n
      rw [ep] at h2; cases h2; exact h0
    · exact s.fr j d b h1 h2
  · rcases get_set h1 with ⟨n, z⟩ | ⟨n, h1⟩
    · subst n
      rcases get_set h2 with ⟨n', z⟩ | ⟨n', h2⟩
      · exact absurd n' hjk
      · exact s.sep i k _ d' hjk hr h2
    · rcases get_set h2 with ⟨n', z⟩ | ⟨n', h2⟩
      · subst n'
        exact s.sep j i d _ hjk h1 hr
      · exact s.sep j k d d' hjk h1 h2
theorem ws_append (i : Nat) {x : Str} {px pa pc : Pos} {ds : List D} (hr : ρ[i]? = some (some (.own (.list ds)))) (h : WE X Wl ρ e (valK fun d => ds.length < sizeLine ∧ Φ.nx (ρ.set i (some (.own (.list (ds ++ [d])))))))
    (hN : X.N[i]? = some x := by rfl) (hv : Vis X.env.scope x := by first | exact Or.inl rfl | exact Or.inr (Or.inl rfl) | exact Or.inr (Or.inr rfl)) (hd : (x == ("__debug__" : Str)) = false := by decide) (hcd : (x == ("__classdict__" : Str)) = false := by decide)
    (hpe : PE X (.Call (.Attribute (.Name x px) "append" pa) [e] [] pc) (tBM X.K "list" rAppend (tVar i) (tCons (tSem X e) tNil)) := by
      exact pe_bm PySem.F.plainAttrs_list PySem.F.slot_list_append PySem.F.type_list_append mt_append (pe_var (by assumption) (by assumption) (by assumption) (by assumption)) (pa_cons pe_sem pa_nil))
    (hs : swapsWith (.Call (.Attribute (.Name x px) "append" pa) [e] [] pc) none pos.line X.env = pure false := by rfl) : WS X Wl ρ (.Expr (.Call (.Attribute (.Name x px) "append" pa) [e] [] pc) pos) Φ := fun F0 H0 F H σ E s m =>
  (ps_expr hpe hs).sem (by
    obtain ⟨v, ev, q⟩ := s.sl.at_ i _ hr
    obtain ⟨a, rfl, fa, t, xs, ha, ra⟩ := id q
    refine ⟨_, ev, .inl ⟨rfl, _, SqL.of ha⟩, h F H σ _ s.at_ s.sl fun r w F1 H1 q1 g1 rr => ?_⟩
    match r, q1, rr with
    | .val d, ⟨hz, q1⟩, rr =>
      have ha1 : H1 a = some (.lst xs) := g1.hh a _ ha t
      refine ⟨a, xs, w, rfl, rfl, ha1, by rw [← ra.length]; exact hz, ?_⟩
      exact m.nx _ F1 _ σ q1 ((s.grow g1).putL hr ev ((ra.mono g1.ff).append (.cons rr .nil))))
end
end LC
/-! Targets, walks, loops, comprehensions over deep data. -/
namespace LC
open PySem L2 PySem.Spec PyProof.Rows
/-! ### targets -/
def gSem (X : Cx) (tg : Expr) : TG := fun v σ H Q => ∀ (pins : List (Addr × Obj)) (s : Shared) (u : Value), Inv X pins σ H s → RelV v u →
  wpAny (model X.prog X.w) X.A (assign tg X.env u) (fun _ s' => ∃ σ' H', Inv X pins σ' H' s' ∧ Q σ' H') X.xe s
theorem pg_sem {X : Cx} {tg : Expr} : PG X tg (gSem X tg) := ⟨fun pins s σ H v u Q I r h => h pins s u I r⟩
theorem _root_.L2.PG.sem {X : Cx} {tg : Expr} {t : TG} (h : PG X tg t) {v : V} {σ : L2.St} {H : Hp} {Q : L2.St → Hp → Prop} (q : t v σ H Q) : gSem X tg v σ H Q := fun pins s u I r => h.run pins s σ H v u Q I r q
def gsSem (X : Cx) (ts : List Expr) : TGs := fun vs σ H Q => ∀ (pins : List (Addr × Obj)) (s : Shared) (us : List Value), Inv X pins σ H s → Vals vs us →
  wpAny (model X.prog X.w) X.A (assignInOrder ((assignEach ts X.env).map (·.2)) us) (fun _ s' => ∃ σ' H', Inv X pins σ' H' s' ∧ Q σ' H') X.xe s
theorem pgs_sem {X : Cx} {ts : List Expr} : PGs X ts (gsSem X ts) := ⟨fun pins s σ H v u Q I r h => h pins s u I r⟩
theorem _root_.L2.PGs.sem {X : Cx} {ts : List Expr} {t : TGs} (h : PGs X ts t) {v : List V} {σ : L2.St} {H : Hp} {Q : L2.St → Hp → Prop} (q : t v σ H Q) : gsSem X ts v σ H Q := fun pins s u I r => h.run pins s σ H v u Q I r q
structure GOk (en : En) (Wl : Wild) (js : List Nat) (ρ ρ' : Env') (F H : Hp) (σ σ' : L2.St) : Prop where
  sl : Slots en Wl ρ' F H σ'
  len : σ'.length = σ.length
  out : ∀ j, j ∉ js → σ'[j]? = σ[j]? ∧ ρ'[j]? = ρ[j]?
  val : ∀ j, j ∈ js → ∀ d, ρ'[j]? ≠ some (some (.own d))
theorem GOk.trans {en : En} {Wl : Wild} {js js' : List Nat} {ρ ρ' ρ2 : Env'} {F H : Hp} {σ σ' σ2 : L2.St} (a : GOk en Wl js ρ ρ' F H σ σ') (b : GOk en Wl js' ρ' ρ2 F H σ' σ2) : GOk en Wl (js ++ js') ρ ρ2 F H σ σ2 := by
  refine ⟨b.sl, b.len.trans a.len, fun j hj => ?_, fun j hj d => ?_⟩
  · have h1 : j ∉ js := fun z => hj (List.mem_append_left _ z)
    have h2 : j ∉ js' := fun z => hj (List.mem_append_right _ z)
    exact ⟨(b.out j h2).1.trans (a.out j h1).1, (b.out j h2).2.trans (a.out j h1).2⟩
  · by_cases h2 : j ∈ js'
    · exact b.val j h2 d
    · rw [(b.out j h2).2]
      rcases List.mem_append.mp hj with z | z
      · exact a.val j z d
      · exact absurd z h2
def WG (X : Cx) (Wl : Wild) (js : List Nat) (ρ : Env') (tg : Expr) (d : D) (K : Env' → Prop) : Prop :=
  ∀ (F H : Hp) (σ : L2.St) (v : V) (C : L2.St → Hp → Prop), At Wl F H → Slots (cxEn X) Wl ρ F H σ → Rep (cxEn X) F d v → (∀ ρ' σ', K ρ' → GOk (cxEn X) Wl js ρ ρ' F H σ σ' → C σ' H) → gSem X tg v σ H C
def WGs (X : Cx) (Wl : Wild) (js : List Nat) (ρ : Env') (ts : List Expr) (ds : List D) (K : Env' → Prop) : Prop :=
  ∀ (F H : Hp) (σ : L2.St) (vs : List V) (C : L2.St → Hp → Prop), At Wl F H → Slots (cxEn X) Wl ρ F H σ → RepA (cxEn X) F ds vs → (∀ ρ' σ', K ρ' → GOk (cxEn X) Wl js ρ ρ' F H σ σ' → C σ' H) → gsSem X ts vs σ H C
section
variable {X : Cx} {Wl : Wild} {ρ : Env'} {F0 H0 F H F' H' : Hp} {σ : L2.St} {Φ : Wish} {E : Ends} {st : Stmt} {rest : List Stmt} {e a b c : Expr} {pos : Pos} {js : List Nat}
theorem wg_name (i : Nat) {x : Str} {d : D} {K : Env' → Prop} (h : K (ρ.set i (some (.val d)))) (hN : X.N.Nodup) (hi : X.N[i]? = some x := by rfl) (hx : Loc X.env.scope x := by first | exact Or.inl rfl | exact Or.inr rfl)
    (hf : X.fn x = true ∨ X.env.scope.names.lookup x = some .local := by first | exact .inl rfl | exact .inr rfl) : WG X Wl [i] ρ (.Name x pos) d K := fun F H σ v C ha hs hr hc =>
  (pg_name hN hi hx hf).sem (hc _ _ h ⟨hs.set hr, List.length_set .., fun j hj => by
    have : i ≠ j := fun z => hj (by rw [z]; exact List.mem_singleton.mpr rfl)
    exact ⟨List.getElem?_set_ne this, List.getElem?_set_ne this⟩, fun j hj d' z => by
    rw [List.mem_singleton.mp hj] at z
    rcases get_set z with ⟨_, z⟩ | ⟨n, _⟩
    · cases z
    · exact n rfl⟩)
theorem wgs_nil {K : Env' → Prop} (h : K ρ) : WGs X Wl [] ρ [] [] K := fun F H σ v C ha hs hr hc => by
  cases hr
  exact pgs_nil.sem ⟨rfl, hc ρ σ h ⟨hs, rfl, fun j _ => ⟨rfl, rfl⟩, fun j hj => by cases hj⟩⟩
theorem wgs_cons {js' : List Nat} {es : List Expr} {d : D} {ds : List D} {K : Env' → Prop} (h : WG X Wl js ρ e d fun ρ' => WGs X Wl js' ρ' es ds K) (hs : (assignEach (e :: es) X.env).map (·.2) = assign e X.env :: (assignEach es X.env).map (·.2) := by rfl) :
    WGs X Wl (js ++ js') ρ (e :: es) (d :: ds) K := fun F H σ v C ha hs' hr hc => by
  cases hr with
  | cons r rr => exact (pgs_cons pg_sem pgs_sem hs).sem ⟨_, _, rfl, h F H σ _ _ ha hs' r fun ρ' σ' q g => q F H σ' _ C ha g.sl rr fun ρ2 σ2 k g2 => hc ρ2 σ2 k (g.trans g2)⟩
theorem wg_tup {es : List Expr} {k : Nat} {ds : List D} {K : Env' → Prop} (hc : X.calm = true) (h : WGs X Wl js ρ es ds K) (hn : (assignEach es X.env).length = ds.length := by rfl) (hst : (assignEach es X.env).findIdx? (·.1) = none := by rfl) :
    WG X Wl js ρ (.Tuple es k pos) (.tuple ds) K := fun F H σ v C ha hs hr hc' => by
  obtain ⟨a, xs, e, hq, rr⟩ := hr.seqT ha
  subst e
  exact (pg_tup hc pgs_sem hn hst).sem ⟨a, xs, rfl, hq, rr.length.symm, h F H σ xs C ha hs rr hc'⟩
/-- an assignment from data to a target -/
theorem Sta.goes {ρ' : Env'} {σ' : L2.St} (s : Sta X Wl ρ F0 H0 F H σ) (g : GOk (cxEn X) Wl js ρ ρ' F H σ σ') : Sta X Wl ρ' F0 H0 F H σ' := by
  have key : ∀ {i : Nat} {d : D}, ρ'[i]? = some (some (.own d)) → i ∉ js ∧ ρ[i]? = some (some (.own d)) ∧ σ'[i]? = σ[i]? := fun {i d} e => by
    have h : i ∉ js := fun z => g.val i z d e
    exact ⟨h, by rw [← (g.out i h).2]; exact e, (g.out i h).1⟩
  refine ⟨s.gr, g.sl, fun i d p h1 h2 => ?_, fun i j d d' n h1 h2 => ?_⟩
  · obtain ⟨_, e, q⟩ := key h1
    exact s.fr i d p e (by rw [← q]; exact h2)
  · obtain ⟨_, e, q⟩ := key h1
    obtain ⟨_, e', q'⟩ := key h2
    rw [q, q']
    exact s.sep i j d d' n e e'
theorem ws_to {tg : Expr} (h : WE X Wl ρ e (valK fun d => WG X Wl js ρ tg d Φ.nx)) (hs : swapsWithSole [tg] e pos.line X.env = pure false := by rfl) (hw : swappedStores [tg] e X.env = pure none := by rfl) (h1 : (assignEach [tg] X.env).map (·.2) = [assign tg X.env] := by rfl) :
    WS X Wl ρ (.Assign [tg] e pos) Φ := fun F0 H0 F H σ E s m =>
  (ps_asg (pe_sem (e := e)) (pg_sem (tg := tg)) hs hw h1).sem (h F H σ _ s.at_ s.sl fun r v F1 H1 q g rr => by
    match r, q, rr with
    | .val d, q, rr => exact q F1 H1 σ v _ g.at_ (s.sl.mono g) rr fun ρ' σ' k o => m.nx ρ' F1 H1 σ' k ((s.grow g).goes o))

/-! ### a, b = x, y -/
theorem ws_par (i j : Nat) {x y : Str} {px py pt : Pos} {kt k2 : Nat} {pt2 : Pos} (h : WE X Wl ρ a (valK fun d => WE X Wl ρ b (valK fun d' => Φ.nx ((ρ.set i (some (.val d))).set j (some (.val d')))))) (hc : X.calm = true) (hN : X.N.Nodup) (hij : i ≠ j := by decide)
    (hi : X.N[i]? = some x := by rfl) (hj : X.N[j]? = some y := by rfl) (hx : X.env.scope.names.lookup x = some .local := by rfl) (hy : X.env.scope.names.lookup y = some .local := by rfl)
    (hpa : PA X [a, b] (tCons (tSem X a) (tCons (tSem X b) tNil)) := by exact pa_cons pe_sem (pa_cons pe_sem pa_nil))
    (hw : swappedStores [.Tuple [.Name x px, .Name y py] kt pt] (.Tuple [a, b] k2 pt2) X.env = pure (some [x, y]) := by rfl)
    (hs : swapsWithSole [.Tuple [.Name x px, .Name y py] kt pt] (.Tuple [a, b] k2 pt2) pos.line X.env = pure false := by rfl) : WS X Wl ρ (.Assign [.Tuple [.Name x px, .Name y py] kt pt] (.Tuple [a, b] k2 pt2) pos) Φ := fun F0 H0 F H σ E s m =>
  (ps_par hc hN hi hj hij hx hy hpa hw hs).sem (h F H σ _ s.at_ s.sl fun r v F1 H1 q g rr => by
    match r, q, rr with
    | .val d, q, rr =>
      refine q F1 H1 σ _ g.at_ (s.sl.mono g) fun r2 v2 F2 H2 q2 g2 rr2 => ?_
      match r2, q2, rr2 with
      | .val d', q2, rr2 =>
        refine ⟨v, v2, rfl, m.nx _ F2 H2 _ q2 ?_⟩
        exact (((s.grow g).grow g2).setVal i (r := .val d) (Rep.mono g2.ff rr) (fun d z => by cases z)).setVal j rr2 (fun d z => by cases z))
theorem ws_parN (i j : Nat) {x y : Str} {px py pt : Pos} {kt k2 : Nat} {pt2 : Pos} (h : WE X Wl ρ a (valK fun d => WN X Wl ρ b (fun d' => Φ.nx ((ρ.set i (some (.val d))).set j (some (.own d')))))) (hc : X.calm = true) (hN : X.N.Nodup) (hij : i ≠ j := by decide)
    (hi : X.N[i]? = some x := by rfl) (hj : X.N[j]? = some y := by rfl) (hx : X.env.scope.names.lookup x = some .local := by rfl) (hy : X.env.scope.names.lookup y = some .local := by rfl)
    (hpa : PA X [a, b] (tCons (tSem X a) (tCons (tSem X b) tNil)) := by exact pa_cons pe_sem (pa_cons pe_sem pa_nil))
    (hw : swappedStores [.Tuple [.Name x px, .Name y py] kt pt] (.Tuple [a, b] k2 pt2) X.env = pure (some [x, y]) := by rfl)
    (hs : swapsWithSole [.Tuple [.Name x px, .Name y py] kt pt] (.Tuple [a, b] k2 pt2) pos.line X.env = pure false := by rfl) : WS X Wl ρ (.Assign [.Tuple [.Name x px, .Name y py] kt pt] (.Tuple [a, b] k2 pt2) pos) Φ := fun F0 H0 F H σ E s m =>
  (ps_par hc hN hi hj hij hx hy hpa hw hs).sem (h F H σ _ s.at_ s.sl fun r v F1 H1 q g rr => by
    match r, q, rr with
    | .val d, q, rr =>
      refine q F1 H1 σ _ g.at_ (s.sl.mono g) fun d' p F2 H2 q2 g2 hp fp t o => ?_
      refine ⟨v, .ref p, rfl, m.nx _ F2 H2 _ q2 ?_⟩
      exact (((s.grow g).setVal i rr (fun d z => by cases z)).setOwn g2 j hp fp t o))

/-! ### walks -/
structure WalkD (en : En) (Wl : Wild) (J : It) (F : Hp) (ds : List D) : Prop where
  go : ∀ F1 H1 i d, Ex F F1 → At Wl F1 H1 → ds[i]? = some d → J.go i H1 ∧ ∀ x H2, J.yld i H1 x H2 → ∃ F2, Gr Wl F1 H1 F2 H2 ∧ Rep en F2 d x
  stop : ∀ F1 H1, Ex F F1 → At Wl F1 H1 → J.stop ds.length H1
def iSem (X : Cx) (tg iter : Expr) : TI := fun σ H R => ∀ (pins : List (Addr × Obj)) (s : Shared), Inv X pins σ H s →
  wpAny (model X.prog X.w) X.A (eval iter X.env) (fun v s1 => wpAny (model X.prog X.w) X.A (pyIter v) (PIE X pins σ tg R) X.xe s1) X.xe s
theorem pi_sem {X : Cx} {tg iter : Expr} : PI X tg iter (iSem X tg iter) := ⟨fun pins s σ H R I h => h pins s I⟩
theorem _root_.L2.PI.sem {X : Cx} {tg iter : Expr} {t : TI} (h : PI X tg iter t) {σ : L2.St} {H : Hp} {R : It → Hp → Prop} (q : t σ H R) : iSem X tg iter σ H R := fun pins s I => h.run pins s σ H R I q
def WI (X : Cx) (Wl : Wild) (ρ : Env') (tg iter : Expr) (Q : List D → Prop) : Prop :=
  ∀ (F H : Hp) (σ : L2.St) (R : It → Hp → Prop), At Wl F H → Slots (cxEn X) Wl ρ F H σ → (∀ ds J F' H', Q ds → Gr Wl F H F' H' → WalkD (cxEn X) Wl J F' ds → R J H') → iSem X tg iter σ H R
def listK (k : List D → Prop) : D → Prop
  | .list ds => k ds
  | _ => False
def tupleK (k : List D → Prop) : D → Prop
  | .tuple ds => k ds
  | _ => False
def numK (k : Int → Prop) : D → Prop
  | .int i => k i
  | _ => False
theorem wi_list {tg : Expr} {Q : List D → Prop} (h : WE X Wl ρ e (valK (listK Q))) : WI X Wl ρ tg e Q := fun F H σ R ha hs hc =>
  (pi_list (pe_sem (e := e))).sem (h F H σ _ ha hs fun r v F1 H1 q g rr => by
    match r, q, rr with
    | .val (.list ds), q, rr =>
      cases rr with
      | @list a xs _ e1 ra =>
      refine ⟨a, rfl, ⟨_, SqL.of (g.at_.fh _ _ e1)⟩, hc ds _ F1 H1 q g ⟨fun F2 H2 i d ex ha2 hd => ?_, fun F2 H2 ex ha2 => ?_⟩⟩
      · have e2 := SqL.of (K := X.K) (ha2.fh _ _ (ex _ _ e1))
        obtain ⟨x, hx, rx⟩ := ra.get hd
        refine ⟨⟨_, x, e2, hx⟩, fun y H3 ⟨z1, z2⟩ => ?_⟩
        subst z1
        have := z2 _ e2
        rw [hx] at this; cases this
        exact ⟨F2, Gr.refl ha2, rx.mono ex⟩
      · exact ⟨_, SqL.of (ha2.fh _ _ (ex _ _ e1)), by rw [← ra.length]; exact Nat.le_refl _⟩)
theorem wi_tup {tg : Expr} {Q : List D → Prop} (h : WE X Wl ρ e (valK (tupleK Q))) : WI X Wl ρ tg e Q := fun F H σ R ha hs hc =>
  (pi_tup (pe_sem (e := e))).sem (h F H σ _ ha hs fun r v F1 H1 q g rr => by
    match r, q, rr with
    | .val (.tuple ds), q, rr =>
      cases rr with
      | @tuple a xs _ e1 ra =>
      refine ⟨a, rfl, ⟨_, Evl.ex_t g.at_.fh e1⟩, hc ds _ F1 H1 q g ⟨fun F2 H2 i d ex ha2 hd => ?_, fun F2 H2 ex ha2 => ?_⟩⟩
      · have e2 := Evl.ex_t (ex.trans ha2.fh) e1
        obtain ⟨x, hx, rx⟩ := ra.get hd
        refine ⟨⟨_, x, e2, hx⟩, fun y H3 ⟨z1, z2⟩ => ?_⟩
        subst z1
        have := z2 _ e2
        rw [hx] at this; cases this
        exact ⟨F2, Gr.refl ha2, rx.mono ex⟩
      · exact ⟨_, Evl.ex_t (ex.trans ha2.fh) e1, by rw [← ra.length]; exact Nat.le_refl _⟩)
/-- lo, lo + 1, .. -/
def rangeD (lo hi : Int) : List D := (List.range (hi - lo).toNat).map fun (k : Nat) => (PyData.int (lo + (k : Int)) : D)
theorem walk_rng {en : En} {Wl : Wild} {F : Hp} {lo hi : Int} {n : Nat} (hn : n = (hi - lo).toNat) : WalkD en Wl (Itr lo n) F (rangeD lo hi) := by
  subst hn
  refine ⟨fun F2 H2 i d ex ha2 hd => ?_, fun F2 H2 ex ha2 => by show _ ≤ _; simp [rangeD]⟩
  have hl := (List.getElem?_eq_some_iff.mp hd).1
  have hl' : i < (hi - lo).toNat := by simpa [rangeD] using hl
  refine ⟨hl', fun x H3 ⟨z1, z2⟩ => ?_⟩
  subst z1 z2
  refine ⟨F2, Gr.refl ha2, ?_⟩
  have : d = .int (lo + (i : Int)) := by
    unfold rangeD at hd
    rw [List.getElem?_map, List.getElem?_range hl'] at hd
    cases hd; rfl
  subst this
  exact Rep.int _
theorem wi_range1 {tg : Expr} {Q : List D → Prop} {p : Pos} (hm : X.mg "range" = none) (h : WE X Wl ρ a (valK (numK fun j => -(2 ^ 62) ≤ j ∧ j < 2 ^ 62 ∧ Q (rangeD 0 j)))) (hg : Gl X "range" := by rfl) (hs : starEach [a] X.env = [(false, eval a X.env)] := by rfl) (hpa : PA X [a] (tCons (tSem X a) tNil) := by exact pa_cons pe_sem pa_nil) : WI X Wl ρ tg (.Call (.Name "range" p) [a] [] pos) Q := fun F H σ R ha hsl hc =>
  (pi_range1 hg hm hpa hs).sem (h F H σ _ ha hsl fun r v F1 H1 q g rr => by
    match r, q, rr with
    | .val (.int j), q, rr =>
      cases rr
      exact ⟨j, rfl, q.1, q.2.1, hc _ _ F1 H1 q.2.2 g (walk_rng (by rw [Int.sub_zero]))⟩)
theorem wi_range2 {tg : Expr} {Q : List D → Prop} {p : Pos} (hm : X.mg "range" = none) (h : WE X Wl ρ a (valK (numK fun i => -(2 ^ 62) ≤ i ∧ i < 2 ^ 62 ∧ WE X Wl ρ b (valK (numK fun j => -(2 ^ 62) ≤ j ∧ j < 2 ^ 62 ∧ Q (rangeD i j)))))) (hg : Gl X "range" := by rfl) (hs : starEach [a, b] X.env = [(false, eval a X.env), (false, eval b X.env)] := by rfl) (hs2 : starEach [b] X.env = [(false, eval b X.env)] := by rfl)
    (hpa : PA X [a, b] (tCons (tSem X a) (tCons (tSem X b) tNil)) := by exact pa_cons pe_sem (pa_cons pe_sem pa_nil)) : WI X Wl ρ tg (.Call (.Name "range" p) [a, b] [] pos) Q := fun F H σ R ha hsl hc =>
  (pi_range2 hg hm hpa hs hs2).sem (h F H σ _ ha hsl fun r v F1 H1 q g rr => by
    match r, q, rr with
    | .val (.int i), q, rr =>
      cases rr
      refine q.2.2 F1 H1 σ _ g.at_ (hsl.mono g) fun r2 v2 F2 H2 q2 g2 rr2 => ?_
      match r2, q2, rr2 with
      | .val (.int j), q2, rr2 =>
        cases rr2
        exact ⟨i, j, rfl, ⟨q.1, q.2.1, q2.1, q2.2.1⟩, hc _ _ F2 H2 q2.2.2 (g.trans g2) (walk_rng rfl)⟩)

/-! ### for, while -/
theorem Gr.rebase {F0 H0 F1 H1 F H : Hp} (g0 : Gr Wl F0 H0 F1 H1) (g : Gr Wl F0 H0 F H) (ex : Ex F1 F) : Gr Wl F1 H0 F H :=
  ⟨ex, g.hh, fun a h1 h2 => g.nw a h1 (by
    cases q : F0 a with
    | none => rfl
    | some o => rw [g0.ff a o q] at h2; cases h2), g.at_⟩
theorem Gr.unbase {F0 H0 F1 H1 F H : Hp} (g0 : Gr Wl F0 H0 F1 H1) (g : Gr Wl F1 H0 F H) : Gr Wl F0 H0 F H :=
  ⟨g0.ff.trans g.ff, g.hh, fun a h1 h2 => g.nw a h1 (g0.nw a h1 h2), g.at_⟩
theorem ws_for {tg iter : Expr} {body : List Stmt} (hp : PassesOwn (model X.prog X.w) X.A X.env X.xe) (hcm : X.calm = true) (h : WI X Wl ρ tg iter fun ds => ∃ P : Nat → Env' → Prop, P 0 ρ ∧ (∀ i d ρ', ds[i]? = some d → P i ρ' → WG X Wl js ρ' tg d fun ρ2 => WSs X Wl ρ2 body { Φ with nx := P (i + 1), ct := P (i + 1), bk := Φ.nx }) ∧ ∀ ρ', P ds.length ρ' → Φ.nx ρ')
    (hs : ∀ x, foldedSetIterable iter X.env x = pure x := by intro _; rfl) : WS X Wl ρ (.For tg iter body [] pos) Φ := fun F0 H0 F H σ E s m =>
  (ps_for hp hcm (pi_sem (tg := tg) (iter := iter)) pg_sem (pss_sem (st := body)) hs).sem (h F H σ _ s.at_ s.sl fun ds J F1 H1 q g wk => by
    obtain ⟨P, h0, step, last⟩ := q
    have s1 := s.grow g
    -- what stands at a turn
    let Pv : Nat → L2.St → Hp → Prop := fun i σ H => ∃ ρ F, P i ρ ∧ Sta X Wl ρ F1 H0 F H σ
    refine ⟨fun i m σ H => m = ds.length - i ∧ i ≤ ds.length ∧ Pv i σ H, ⟨_, rfl, Nat.zero_le _, ρ, F1, h0, s1.gr.rebase s1.gr (Evl.Ex.refl _), s1.sl, s1.fr, s1.sep⟩, ?_⟩
    rintro i m' σ2 H2 ⟨rfl, hi, ρ2, F2, p, s2⟩
    by_cases hlt : i < ds.length
    · obtain ⟨go, yl⟩ := wk.go F2 H2 i ds[i] s2.gr.ff s2.at_ (List.getElem?_eq_getElem hlt)
      refine .inr ⟨go, Pv (i + 1), fun σ' H' p' => ⟨_, by omega, rfl, hlt, p'⟩, fun x H3 y => ?_⟩
      obtain ⟨F3, g3, rx⟩ := yl x H3 y
      refine step i _ ρ2 (List.getElem?_eq_getElem hlt) p F3 H3 σ2 x _ g3.at_ (s2.sl.mono g3) rx fun ρ' σ' k o => ?_
      refine k F1 H0 F3 H3 σ' _ ((s2.grow g3).goes o) ⟨fun ρ4 F4 H4 σ4 q4 s4 => ⟨ρ4, F4, q4, s4⟩, fun d v F4 H4 q4 g4 r4 => m.rt d v F4 H4 q4 (s1.gr.unbase g4) r4, fun ρ4 F4 H4 σ4 q4 s4 => m.nx ρ4 F4 H4 σ4 q4 ⟨s1.gr.unbase s4.gr, s4.sl, s4.fr, s4.sep⟩, fun ρ4 F4 H4 σ4 q4 s4 => ⟨ρ4, F4, q4, s4⟩⟩
    · have e : i = ds.length := by omega
      subst e
      exact .inl ⟨wk.stop F2 H2 s2.gr.ff s2.at_, m.nx ρ2 F2 H2 σ2 (last ρ2 p) ⟨s1.gr.unbase s2.gr, s2.sl, s2.fr, s2.sep⟩⟩)
theorem ws_while {body : List Stmt} (hp : PassesOwn (model X.prog X.w) X.A X.env X.xe) (P : Nat → Env' → Prop) (n : Nat) (h0 : P n ρ)
    (step : ∀ m ρ', P m ρ' → WT X Wl ρ' c fun x => (x = true → WSs X Wl ρ' body { Φ with nx := fun ρ2 => ∃ m', m' < m ∧ P m' ρ2, ct := fun ρ2 => ∃ m', m' < m ∧ P m' ρ2, bk := Φ.nx }) ∧ (x = false → Φ.nx ρ')) : WS X Wl ρ (.While c body [] pos) Φ := fun F0 H0 F H σ E s m =>
  (ps_while hp (pt_sem (e := c)) (pss_sem (st := body))).sem (by
    refine ⟨fun m σ H => ∃ ρ F, P m ρ ∧ Sta X Wl ρ F0 H0 F H σ, ⟨n, ρ, F, h0, s⟩, ?_⟩
    rintro m' σ2 H2 ⟨ρ2, F2, p, s2⟩
    refine step m' ρ2 p F2 H2 σ2 _ s2.at_ s2.sl fun x F3 H3 q g => ?_
    cases x with
    | true =>
      rw [if_pos rfl]
      refine ⟨fun σ' H' => ∃ m2, m2 < m' ∧ ∃ ρ F, P m2 ρ ∧ Sta X Wl ρ F0 H0 F H' σ', fun σ' H' z => z, ?_⟩
      exact q.1 rfl F0 H0 F3 H3 σ2 _ (s2.grow g) ⟨fun ρ4 F4 H4 σ4 ⟨m2, l, q4⟩ s4 => ⟨m2, l, ρ4, F4, q4, s4⟩, m.rt, fun ρ4 F4 H4 σ4 q4 s4 => m.nx ρ4 F4 H4 σ4 q4 s4, fun ρ4 F4 H4 σ4 ⟨m2, l, q4⟩ s4 => ⟨m2, l, ρ4, F4, q4, s4⟩⟩
    | false => rw [if_neg Bool.false_ne_true]; exact m.nx ρ2 F3 H3 σ2 (q.2 rfl) (s2.grow g))
end
end LC
/-! List comprehensions over deep data. -/
namespace LC
open PySem L2 PySem.Spec PyProof.Rows
def tsSem (X : Cx) (ifs : List Expr) : TT := fun σ H Q => ∀ (pins : List (Addr × Obj)) (s : Shared), Inv X pins σ H s →
  wpAny (model X.prog X.w) X.A (forIn ifs true fun c r => if r = true then do let ok ← isTrue c X.env (eval c X.env); pure (ForInStep.yield ok) else pure (ForInStep.yield r)) (TP X pins σ Q) X.xe s
theorem pts_sem {X : Cx} {ifs : List Expr} : PTs X ifs (tsSem X ifs) := ⟨fun pins s σ H Q I h => h pins s I⟩
theorem _root_.L2.PTs.sem {X : Cx} {ifs : List Expr} {t : TT} (h : PTs X ifs t) {σ : L2.St} {H : Hp} {Q : Bool → Hp → Prop} (q : t σ H Q) : tsSem X ifs σ H Q := fun pins s I => h.run pins s σ H Q I q
/-- a clause's tests -/
def WF (X : Cx) (Wl : Wild) (ρ : Env') (ifs : List Expr) (Q : Bool → Prop) : Prop :=
  ∀ (F H : Hp) (σ : L2.St) (C : Bool → Hp → Prop), At Wl F H → Slots (cxEn X) Wl ρ F H σ → (∀ b F' H', Q b → Gr Wl F H F' H' → C b H') → tsSem X ifs σ H C
theorem wf_nil {X : Cx} {Wl : Wild} {ρ : Env'} {Q : Bool → Prop} (h : Q true) : WF X Wl ρ [] Q := fun F H σ C ha hs hc => pts_nil.sem (hc true F H h (Gr.refl ha))
theorem wf_one {X : Cx} {Wl : Wild} {ρ : Env'} {Q : Bool → Prop} {c : Expr} (h : WT X Wl ρ c Q) : WF X Wl ρ [c] Q := fun F H σ C ha hs hc => (pts_one pt_sem).sem (h F H σ C ha hs hc)
/-- in every block of that scope -/
def Blk (X : Cx) (scope : Scope) (P : Cx → Prop) : Prop := ∀ (s : Shared) (H : Hp) (C : Addr) (cl : List (Str × Addr)) (fp : List Addr), P (X.blk s H scope (compEnvC scope cl C X.env) fp)
def tB (X : Cx) (scope : Scope) (e : Expr) : TE := fun σ H C => Blk X scope fun X' => tSem X' e σ H C
def tsB (X : Cx) (scope : Scope) (e : List Expr) : TT := fun σ H C => Blk X scope fun X' => tsSem X' e σ H C
def gB (X : Cx) (scope : Scope) (e : Expr) : TG := fun v σ H C => Blk X scope fun X' => gSem X' e v σ H C
def iB (X : Cx) (scope : Scope) (tg e : Expr) : TI := fun σ H C => Blk X scope fun X' => iSem X' tg e σ H C
theorem pe_B {X : Cx} {scope : Scope} {e : Expr} (s : Shared) (H : Hp) (C : Addr) (cl : List (Str × Addr)) (fp : List Addr) : PE (X.blk s H scope (compEnvC scope cl C X.env) fp) e (tB X scope e) := ⟨fun pins s' σ H' Q I h => h s H C cl fp pins s' I⟩
theorem pts_B {X : Cx} {scope : Scope} {e : List Expr} (s : Shared) (H : Hp) (C : Addr) (cl : List (Str × Addr)) (fp : List Addr) : PTs (X.blk s H scope (compEnvC scope cl C X.env) fp) e (tsB X scope e) := ⟨fun pins s' σ H' Q I h => h s H C cl fp pins s' I⟩
theorem pg_B {X : Cx} {scope : Scope} {e : Expr} (s : Shared) (H : Hp) (C : Addr) (cl : List (Str × Addr)) (fp : List Addr) : PG (X.blk s H scope (compEnvC scope cl C X.env) fp) e (gB X scope e) := ⟨fun pins s' σ H' v u Q I r h => h s H C cl fp pins s' u I r⟩
theorem pi_B {X : Cx} {scope : Scope} {tg e : Expr} (s : Shared) (H : Hp) (C : Addr) (cl : List (Str × Addr)) (fp : List Addr) : PI (X.blk s H scope (compEnvC scope cl C X.env) fp) tg e (iB X scope tg e) := ⟨fun pins s' σ H' R I h => h s H C cl fp pins s' I⟩
theorem wipe_len (σ : L2.St) (vs : List Nat) : (wipe σ vs).length = σ.length := wipe_length σ vs
theorem wipe_in {σ : L2.St} {i : Nat} : ∀ {vs : List Nat}, i ∈ vs → i < σ.length → (wipe σ vs)[i]? = some none
  | v :: vs, h, hl => by
    unfold wipe
    by_cases z : v = i
    · subst z; exact List.getElem?_set_self (by rw [wipe_length]; exact hl)
    · rw [List.getElem?_set_ne z]
      rcases List.mem_cons.mp h with q | q
      · exact absurd q.symm z
      · exact wipe_in q hl
theorem wipe_eq {σ σ' : L2.St} {vs : List Nat} (hl : σ'.length = σ.length) (h : ∀ j, j ∉ vs → σ'[j]? = σ[j]?) : wipe σ' vs = wipe σ vs := by
  refine List.ext_getElem? fun i => ?_
  by_cases hi : i ∈ vs
  · by_cases hb : i < σ.length
    · rw [wipe_in hi hb, wipe_in hi (by rw [hl]; exact hb)]
    · rw [List.getElem?_eq_none (by rw [wipe_length]; omega), List.getElem?_eq_none (by rw [wipe_length]; omega)]
  · rw [wipe_out hi, wipe_out hi]; exact h i hi
section
variable {X : Cx} {Wl : Wild} {ρ : Env'} {F0 H0 F H F' H' : Hp} {σ : L2.St} {Φ : Wish} {E : Ends} {elt tg iter tg1 iter1 : Expr} {ifs ifs1 : List Expr} {pos : Pos} {js js1 : List Nat} {scope : Scope}
/-- the new list as it grows -/
structure Acc (X : Cx) (Wl : Wild) (F1 H1 F H : Hp) (p : Addr) (acc : List D) : Prop where
  gr : Gr Wl F1 H1 F H
  fp : F p = none
  tm : Tame Wl p
  at_ : ∃ xs, H p = some (.lst xs) ∧ RepA (cxEn X) F acc xs
theorem Acc.start {F1 H1 : Hp} {p : Addr} (ha : At Wl F1 H1) (hp : H1 p = none) : Acc X Wl F1 H1 F1 (upd H1 p (.lst [])) p [] := by
  refine ⟨Gr.fresh ha hp, ?_, fun q hq z => ?_, [], upd_same, .nil⟩
  · cases q : F1 p with
    | none => rfl
    | some u => rw [ha.fh p u q] at hp; cases hp
  · obtain ⟨_, o, e, _⟩ := ha.wl q hq
    rw [z, hp] at e; cases e
theorem Acc.grow {F1 H1 : Hp} {p : Addr} {acc : List D} (a : Acc X Wl F1 H1 F H p acc) (g : Gr Wl F H F' H') : Acc X Wl F1 H1 F' H' p acc := by
  obtain ⟨xs, e, r⟩ := a.at_
  exact ⟨a.gr.trans g, g.nw p (by rw [e]; simp) a.fp, a.tm, xs, g.hh p _ e a.tm, r.mono g.ff⟩
theorem Acc.push {F1 H1 : Hp} {p : Addr} {acc : List D} {d : D} {v : V} {xs : List V} (hp : H1 p = none) (a : Acc X Wl F1 H1 F H p acc) (e : H p = some (.lst xs)) (r : Rep (cxEn X) F d v) : Acc X Wl F1 H1 F (upd H p (.lst (xs ++ [v]))) p (acc ++ [d]) := by
  obtain ⟨ys, e', ra⟩ := a.at_
  rw [e] at e'; cases e'
  refine ⟨⟨a.gr.ff, fun b o q t => ?_, a.gr.nw, fun b o q => ?_, fun q hq => ?_⟩, a.fp, a.tm, _, upd_same, ra.append (.cons r .nil)⟩
  · have : b ≠ p := fun z => by rw [z, hp] at q; cases q
    rw [upd_ne this]; exact a.gr.hh b o q t
  · have : b ≠ p := fun z => by rw [z, a.fp] at q; cases q
    rw [upd_ne this]; exact a.gr.at_.fh b o q
  · obtain ⟨q1, u, q2, q3⟩ := a.gr.at_.wl q hq
    exact ⟨q1, u, by rw [upd_ne (a.tm q hq)]; exact q2, q3⟩
theorem Acc.xs {F1 H1 : Hp} {p : Addr} {acc : List D} (a : Acc X Wl F1 H1 F H p acc) : ∃ xs, H p = some (.lst xs) ∧ xs.length = acc.length := by
  obtain ⟨xs, e, r⟩ := a.at_
  exact ⟨xs, e, r.length.symm⟩
/-- one turn behind the source's own: from the list so far to what is wanted of the next -/
def Turns (X : Cx) (Wl : Wild) (scope : Scope) (ρ : Env') (elt : Expr) (ifs : List Expr) (acc : List D) (K : List D → Prop) : Prop :=
  Blk X scope fun X' => WF X' Wl ρ ifs fun b => (b = true → Blk X scope fun X' => WE X' Wl ρ elt (valK fun y => acc.length < sizeLine ∧ K (acc ++ [y]))) ∧ (b = false → K acc)
theorem lc_sat {vs : List Nat} {Q : D → Prop} {C : VK} (hj : ∀ j ∈ js, j ∈ vs)
    (h : WI X Wl ρ tg iter fun ds => ∃ P : Nat → List D → Prop, P 0 [] ∧ (∀ i d acc, ds[i]? = some d → P i acc → Blk X scope fun X' => WG X' Wl js (wipeR ρ vs) tg d fun ρ2 => Turns X Wl scope ρ2 elt ifs acc (P (i + 1))) ∧ ∀ acc, P ds.length acc → Q (.list acc))
    (ha : At Wl F H) (hs : Slots (cxEn X) Wl ρ F H σ) (hc : ∀ d a F' H', Q d → Gr Wl F H F' H' → H a = none → F' a = none → Tame Wl a → OwnAt (cxEn X) F' H' a d → C (.ref a) H') :
    tLc (iSem X tg iter) (gB X scope tg) (tsB X scope ifs) (tB X scope elt) vs σ H C := by
  refine h F H σ _ ha hs fun ds J F1 H1 q g wk p hp => ?_
  obtain ⟨P, h0, step, last⟩ := q
  have hw : Slots (cxEn X) Wl (wipeR ρ vs) F1 H1 (wipe σ vs) := (hs.mono g).wipe vs
  let Pv : Nat → Hp → Prop := fun i H => ∃ F acc, P i acc ∧ Acc X Wl F1 H1 F H p acc
  refine ⟨fun i m H => m = ds.length - i ∧ i ≤ ds.length ∧ Pv i H, ⟨_, rfl, Nat.zero_le _, F1, [], h0, Acc.start g.at_ hp⟩, ?_⟩
  rintro i m H2 ⟨rfl, hi, F2, acc, pa, a⟩
  by_cases hlt : i < ds.length
  · obtain ⟨go, yl⟩ := wk.go F2 H2 i ds[i] a.gr.ff a.gr.at_ (List.getElem?_eq_getElem hlt)
    refine .inr ⟨go, Pv (i + 1), fun H' p' => ⟨_, by omega, rfl, hlt, p'⟩, fun x H3 y => ?_⟩
    obtain ⟨F3, g3, rx⟩ := yl x H3 y
    have a3 := a.grow g3
    intro s' Hs C' cl fp
    refine step i _ acc (List.getElem?_eq_getElem hlt) pa s' Hs C' cl fp F3 H3 (wipe σ vs) x _ g3.at_ (hw.mono a3.gr) rx fun ρ' σ' k o => ?_
    refine ⟨(wipe_eq o.len fun j hjv => (o.out j fun z => hjv (hj j z)).1).trans (wipe_eq (wipe_length ..) fun j hjv => wipe_out hjv), ?_⟩
    intro s2 Hs2 C2 cl2 fp2
    refine k s2 Hs2 C2 cl2 fp2 F3 H3 σ' _ g3.at_ o.sl fun b F4 H4 kb g4 => ?_
    cases b with
    | false =>
      rw [if_neg Bool.false_ne_true]
      exact ⟨F4, acc, kb.2 rfl, a3.grow g4⟩
    | true =>
      rw [if_pos rfl]
      intro s5 Hs5 C5 cl5 fp5
      refine kb.1 rfl s5 Hs5 C5 cl5 fp5 F4 H4 σ' _ g4.at_ (o.sl.mono g4) fun r v F5 H5 q5 g5 r5 => ?_
      match r, q5, r5 with
      | .val d, q5, r5 =>
        have a5 := (a3.grow g4).grow g5
        obtain ⟨xs, e, hl⟩ := a5.xs
        exact ⟨xs, e, by rw [hl]; exact q5.1, F5, _, q5.2, a5.push hp e r5⟩
  · have e : i = ds.length := by omega
    subst e
    refine .inl ⟨wk.stop F2 H2 a.gr.ff a.gr.at_, hc (.list acc) p F2 H2 (last acc pa) (g.trans a.gr) ?_ a.fp a.tm a.at_⟩
    cases z : H p with
    | none => rfl
    | some u => exact absurd hp (g.there p (by rw [z]; simp))
/-- [elt for tg in iter if ..] -/
theorem wn_lc {own : List (Str × Nat)} {Q : D → Prop} (hcm : X.calm = true) (hN : X.N.Nodup) (ok : BlkOk X.N X.env.scope scope own) (hj : ∀ j ∈ js, j ∈ own.map (·.2))
    (h : WI X Wl ρ tg iter fun ds => ∃ P : Nat → List D → Prop, P 0 [] ∧ (∀ i d acc, ds[i]? = some d → P i acc → Blk X scope fun X' => WG X' Wl js (wipeR ρ (own.map (·.2))) tg d fun ρ2 => Turns X Wl scope ρ2 elt ifs acc (P (i + 1))) ∧ ∀ acc, P ds.length acc → Q (.list acc))
    (hs : ∀ x, foldedSetIterable iter X.env x = pure x := by intro _; rfl) : WN X Wl ρ (.ListComp elt [⟨tg, iter, ifs, 0⟩] scope pos) Q := fun F H σ C ha hsl hc =>
  (pe_lc hcm hN pi_sem ok pg_B pts_B pe_B hs).sem (lc_sat hj h ha hsl hc)
/-- name = [..] on one line, the name a local -/
theorem ws_setLc (i : Nat) {y : Str} {py spos : Pos} {own : List (Str × Nat)} (hcm : X.calm = true) (hN : X.N.Nodup) (ok : BlkOk X.N X.env.scope scope own) (hj : ∀ j ∈ js, j ∈ own.map (·.2))
    (h : WI X Wl ρ tg iter fun ds => ∃ P : Nat → List D → Prop, P 0 [] ∧ (∀ i d acc, ds[i]? = some d → P i acc → Blk X scope fun X' => WG X' Wl js (wipeR ρ (own.map (·.2))) tg d fun ρ2 => Turns X Wl scope ρ2 elt ifs acc (P (i + 1))) ∧ ∀ acc, P ds.length acc → Φ.nx (ρ.set i (some (.own (.list acc)))))
    (hsw : swapsWith (.ListComp elt [⟨tg, iter, ifs, 0⟩] scope pos) (some (.Name y py)) spos.line X.env = pure true) (hy : X.N[i]? = some y := by rfl) (hyl : X.env.scope.names.lookup y = some .local := by rfl)
    (hs : ∀ x, foldedSetIterable iter X.env x = pure x := by intro _; rfl) : WS X Wl ρ (.Assign [.Name y py] (.ListComp elt [⟨tg, iter, ifs, 0⟩] scope pos) spos) Φ := fun F0 H0 F H σ E s m =>
  (ps_setLc hcm hN hy hyl hsw pi_sem ok pg_B pts_B pe_B hs).sem (lc_sat (Q := fun d => Φ.nx (ρ.set i (some (.own d)))) hj h s.at_ s.sl fun d p F1 H1 q g hp fp t o => m.nx _ F1 H1 _ q (s.setOwn g i hp fp t o))

/-! ### two clauses -/
theorem lc2_sat {vs vs1 : List Nat} {Q : D → Prop} {C : VK} (hj : ∀ j ∈ js, j ∈ vs) (hj1 : ∀ j ∈ js1, j ∈ vs1)
    (h : WI X Wl ρ tg iter fun ds => ∃ P : Nat → List D → Prop, P 0 [] ∧ (∀ i d acc, ds[i]? = some d → P i acc → Blk X scope fun X' => WG X' Wl js (wipeR ρ vs) tg d fun ρ2 => Blk X scope fun X' => WF X' Wl ρ2 ifs fun b => (b = false → P (i + 1) acc) ∧ (b = true → Blk X scope fun X' =>
      WI X' Wl ρ2 tg1 iter1 fun ds1 => ∃ P1 : Nat → List D → Prop, P1 0 acc ∧ (∀ i1 d1 acc1, ds1[i1]? = some d1 → P1 i1 acc1 → Blk X scope fun X' => WG X' Wl js1 (wipeR ρ2 vs1) tg1 d1 fun ρ3 => Turns X Wl scope ρ3 elt ifs1 acc1 (P1 (i1 + 1))) ∧ ∀ acc1, P1 ds1.length acc1 → P (i + 1) acc1)) ∧
      ∀ acc, P ds.length acc → Q (.list acc))
    (ha : At Wl F H) (hs : Slots (cxEn X) Wl ρ F H σ) (hc : ∀ d a F' H', Q d → Gr Wl F H F' H' → H a = none → F' a = none → Tame Wl a → OwnAt (cxEn X) F' H' a d → C (.ref a) H') :
    tLc2 (iSem X tg iter) (gB X scope tg) (tsB X scope ifs) (iB X scope tg1 iter1) (gB X scope tg1) (tsB X scope ifs1) (tB X scope elt) vs vs1 σ H C := by
  refine h F H σ _ ha hs fun ds J F1 H1 q g wk p hp => ?_
  obtain ⟨P, h0, step, last⟩ := q
  have hw : Slots (cxEn X) Wl (wipeR ρ vs) F1 H1 (wipe σ vs) := (hs.mono g).wipe vs
  let Pv : Nat → Hp → Prop := fun i H => ∃ F acc, P i acc ∧ Acc X Wl F1 H1 F H p acc
  refine ⟨fun i m H => m = ds.length - i ∧ i ≤ ds.length ∧ Pv i H, ⟨_, rfl, Nat.zero_le _, F1, [], h0, Acc.start g.at_ hp⟩, ?_⟩
  rintro i m H2 ⟨rfl, hi, F2, acc, pa, a⟩
  by_cases hlt : i < ds.length
  · obtain ⟨go, yl⟩ := wk.go F2 H2 i ds[i] a.gr.ff a.gr.at_ (List.getElem?_eq_getElem hlt)
    refine .inr ⟨go, Pv (i + 1), fun H' p' => ⟨_, by omega, rfl, hlt, p'⟩, fun x H3 y => ?_⟩
    obtain ⟨F3, g3, rx⟩ := yl x H3 y
    have a3 := a.grow g3
    intro s' Hs C' cl fp
    refine step i _ acc (List.getElem?_eq_getElem hlt) pa s' Hs C' cl fp F3 H3 (wipe σ vs) x _ g3.at_ (hw.mono a3.gr) rx fun ρ' σ' k o => ?_
    refine ⟨(wipe_eq o.len fun j hjv => (o.out j fun z => hjv (hj j z)).1).trans (wipe_eq (wipe_length ..) fun j hjv => wipe_out hjv), ?_⟩
    intro s2 Hs2 C2 cl2 fp2
    refine k s2 Hs2 C2 cl2 fp2 F3 H3 σ' _ g3.at_ o.sl fun b F4 H4 kb g4 => ?_
    have a4 := a3.grow g4
    cases b with
    | false =>
      rw [if_neg Bool.false_ne_true]
      exact ⟨F4, acc, kb.1 rfl, a4⟩
    | true =>
      rw [if_pos rfl]
      intro s5 Hs5 C5 cl5 fp5
      refine kb.2 rfl s5 Hs5 C5 cl5 fp5 F4 H4 σ' _ g4.at_ (o.sl.mono g4) fun ds1 J1 F5 H5 q5 g5 wk1 => ?_
      obtain ⟨P1, h01, step1, last1⟩ := q5
      have a5 := a4.grow g5
      have hw1 : Slots (cxEn X) Wl (wipeR ρ' vs1) F5 H5 (wipe σ' vs1) := ((o.sl.mono g4).mono g5).wipe vs1
      refine ⟨fun i m H => m = ds1.length - i ∧ i ≤ ds1.length ∧ ∃ F acc, P1 i acc ∧ Acc X Wl F1 H1 F H p acc ∧ Ex F5 F ∧ Slots (cxEn X) Wl (wipeR ρ' vs1) F H (wipe σ' vs1), ⟨_, rfl, Nat.zero_le _, F5, acc, h01, a5, Evl.Ex.refl _, hw1⟩, ?_⟩
      rintro i1 m1 H6 ⟨rfl, hi1, F6, acc1, pa1, a6, ex6, hw6⟩
      by_cases hlt1 : i1 < ds1.length
      · obtain ⟨go1, yl1⟩ := wk1.go F6 H6 i1 ds1[i1] ex6 a6.gr.at_ (List.getElem?_eq_getElem hlt1)
        refine .inr ⟨go1, fun H' => ∃ F acc, P1 (i1 + 1) acc ∧ Acc X Wl F1 H1 F H' p acc ∧ Ex F5 F ∧ Slots (cxEn X) Wl (wipeR ρ' vs1) F H' (wipe σ' vs1), fun H' p' => ⟨_, by omega, rfl, hlt1, p'⟩, fun x1 H7 y1 => ?_⟩
        obtain ⟨F7, g7, rx7⟩ := yl1 x1 H7 y1
        have a7 := a6.grow g7
        intro s8 Hs8 C8 cl8 fp8
        refine step1 i1 _ acc1 (List.getElem?_eq_getElem hlt1) pa1 s8 Hs8 C8 cl8 fp8 F7 H7 (wipe σ' vs1) x1 _ g7.at_ (hw6.mono g7) rx7 fun ρ9 σ9 k9 o9 => ?_
        refine ⟨(wipe_eq o9.len fun j hjv => (o9.out j fun z => hjv (hj1 j z)).1).trans (wipe_eq (wipe_length ..) fun j hjv => wipe_out hjv), ?_⟩
        have fin : ∀ F H, Gr Wl F7 H7 F H → Slots (cxEn X) Wl (wipeR ρ' vs1) F H (wipe σ' vs1) := fun F H g => (hw6.mono g7).mono g
        intro s10 Hs10 C10 cl10 fp10
        refine k9 s10 Hs10 C10 cl10 fp10 F7 H7 σ9 _ g7.at_ o9.sl fun b2 F8 H8 kb8 g8 => ?_
        cases b2 with
        | false =>
          rw [if_neg Bool.false_ne_true]
          exact ⟨F8, acc1, kb8.2 rfl, a7.grow g8, (ex6.trans g7.ff).trans g8.ff, fin F8 H8 g8⟩
        | true =>
          rw [if_pos rfl]
          intro s11 Hs11 C11 cl11 fp11
          refine kb8.1 rfl s11 Hs11 C11 cl11 fp11 F8 H8 σ9 _ g8.at_ (o9.sl.mono g8) fun r v F9 H9 q9 g9 r9 => ?_
          match r, q9, r9 with
          | .val d, q9, r9 =>
            have a9 := (a7.grow g8).grow g9
            obtain ⟨xs, e, hl⟩ := a9.xs
            have a10 := a9.push hp e r9
            refine ⟨xs, e, by rw [hl]; exact q9.1, F9, _, q9.2, a10, ((ex6.trans g7.ff).trans g8.ff).trans g9.ff, ?_⟩
            have hw9 := fin F9 H9 (g8.trans g9)
            have hw0 := hw.mono a10.gr
            refine ⟨hw9.len, fun j r eR => ?_⟩
            obtain ⟨v, e2, q⟩ := hw9.at_ j r eR
            refine ⟨v, e2, ?_⟩
            cases r with
            | val d => exact q
            | adr b => exact q
            | own d' =>
              obtain ⟨b, rfl, fb, tb, ob⟩ := q
              have hb : b ≠ p := fun z => by
                subst z
                -- an own list of the frame that were the new one: it stands in the block's slots, from the frame's
                have key : ∃ d'', (wipeR ρ vs)[j]? = some (some (.own d'')) ∧ (wipe σ vs)[j]? = some (some (.ref b)) := by
                  have hjn : j ∉ vs1 := fun z => by
                    obtain ⟨_, hn⟩ := wipe_some e2
                    exact hn z
                  rw [wipe_out hjn] at e2
                  have er : ρ'[j]? = some (some (.own d')) := by
                    have : ∀ vs : List Nat, j ∉ vs → (wipeR ρ' vs)[j]? = ρ'[j]? := fun vs => by
                      induction vs with
                      | nil => intro _; rfl
                      | cons v vs ih =>
                        intro hn
                        unfold wipeR
                        rw [List.getElem?_set_ne (fun z => hn (by rw [z]; exact List.mem_cons_self))]
                        exact ih fun z => hn (List.mem_cons_of_mem _ z)
                    rw [← this vs1 hjn]; exact eR
                  have hjj : j ∉ js := fun z => o.val j z d' er
                  exact ⟨d', by rw [← (o.out j hjj).2]; exact er, by rw [← (o.out j hjj).1]; exact e2⟩
                obtain ⟨d'', k1, k2⟩ := key
                obtain ⟨v, k3, k4⟩ := hw.at_ j _ k1
                rw [k2] at k3; cases k3
                obtain ⟨b', k5, _, _, k6⟩ := k4
                cases k5
                exact k6.there hp
              exact ⟨b, rfl, fb, tb, ob.mono (Evl.Ex.refl _) fun _ z => by rw [upd_ne hb]; exact z⟩
      · have e : i1 = ds1.length := by omega
        subst e
        exact .inl ⟨wk1.stop F6 H6 ex6 a6.gr.at_, F6, acc1, last1 acc1 pa1, a6⟩
  · have e : i = ds.length := by omega
    subst e
    refine .inl ⟨wk.stop F2 H2 a.gr.ff a.gr.at_, hc (.list acc) p F2 H2 (last acc pa) (g.trans a.gr) ?_ a.fp a.tm a.at_⟩
    cases z : H p with
    | none => rfl
    | some u => exact absurd hp (g.there p (by rw [z]; simp))
theorem wn_lc2 {own : List (Str × Nat)} {vs1 : List Nat} {Q : D → Prop} (hcm : X.calm = true) (hN : X.N.Nodup) (ok : BlkOk X.N X.env.scope scope own) (hv : ∀ i ∈ vs1, i ∈ own.map (·.2)) (hj : ∀ j ∈ js, j ∈ own.map (·.2)) (hj1 : ∀ j ∈ js1, j ∈ vs1)
    (h : WI X Wl ρ tg iter fun ds => ∃ P : Nat → List D → Prop, P 0 [] ∧ (∀ i d acc, ds[i]? = some d → P i acc → Blk X scope fun X' => WG X' Wl js (wipeR ρ (own.map (·.2))) tg d fun ρ2 => Blk X scope fun X' => WF X' Wl ρ2 ifs fun b => (b = false → P (i + 1) acc) ∧ (b = true → Blk X scope fun X' =>
      WI X' Wl ρ2 tg1 iter1 fun ds1 => ∃ P1 : Nat → List D → Prop, P1 0 acc ∧ (∀ i1 d1 acc1, ds1[i1]? = some d1 → P1 i1 acc1 → Blk X scope fun X' => WG X' Wl js1 (wipeR ρ2 vs1) tg1 d1 fun ρ3 => Turns X Wl scope ρ3 elt ifs1 acc1 (P1 (i1 + 1))) ∧ ∀ acc1, P1 ds1.length acc1 → P (i + 1) acc1)) ∧
      ∀ acc, P ds.length acc → Q (.list acc))
    (hs : ∀ x, foldedSetIterable iter X.env x = pure x := by intro _; rfl) (hs1 : ∀ env x, foldedSetIterable iter1 env x = pure x := by intro _ _; rfl) : WN X Wl ρ (.ListComp elt [⟨tg, iter, ifs, 0⟩, ⟨tg1, iter1, ifs1, 0⟩] scope pos) Q := fun F H σ C ha hsl hc =>
  (pe_lc2 hcm hN pi_sem ok hv pg_B pts_B pi_B pg_B pts_B pe_B hs hs1).sem (lc2_sat hj hj1 h ha hsl hc)
end
end LC
/-! enumerate of a tuple; enumerate and zip over deep data. -/
namespace LC
open PySem L2 PySem.Spec PyProof.Rows
open AutoSeq1 (wpAny_loadPart')
section
variable {prog : Program} {w : World} {A : Around} {E : Value → Shared → Prop} {s : Shared}
/-- the two objects that enumerate(tuple at l) leaves -/
abbrev enHeap (h : Heap) (l : Addr) : Heap := (h.push { cls := .type "tuple_iterator", data := .fields #[.ref l, .int 0 0] }).push { cls := .type "enumerate", data := .fields #[.none, .bool false, .ref h.objs.size, rawInt 0, .none, .none] }
theorem meets_enT (l : Addr) (items : Array Value) (n : Nat) (dct : Option Addr) (sl : Array (Option Value)) : PySem.Meets (Builtin.«enumerate.__new__» ⟨[.type "enumerate", .ref l], []⟩) (fun _ R s =>
      s.heap.get? l = some { cls := .type "tuple", dict := dct, data := .seq items n, slots := sl } ∧ R (.ok (.ret (.ref (s.heap.objs.size + 1)))) { s with heap := enHeap s.heap l }) :=
  .of_wp fun prog w A R s h => by
    obtain ⟨hp, g, d, tk, os⟩ := s
    obtain ⟨hl, h⟩ := h
    have hsub := sub_enumerate
    have e : hp.objs.size + 1 = (hp.push { cls := .type "tuple_iterator", data := .fields #[.ref l, .int 0 0] }).objs.size := (Heap.size_push ..).symm
    have h : R (.ok (.ret (.ref (hp.objs.size + 1)))) ⟨enHeap hp l, g, d, tk, os⟩ := h
    rw [e] at h
    have hT : Heap.IsTuple (Shared.heap ⟨hp, g, d, tk, os⟩) l items := ⟨_, hl, rfl, n, rfl⟩
    wp_walk using wpAny_loadPart' hl
    refine wpAny_stack_any fun st => wpAny_pure ?_
    split
    · rename_i c _ _ _ _ _
      cases (c == Value.type "enumerate") <;>
        (wp_walk using wpAny_loadPart' hl, wpAny_pyIter_tuple hT
         exact ⟨_, rfl, h⟩)
    · wp_walk using wpAny_loadPart' hl, wpAny_pyIter_tuple hT
      exact ⟨_, rfl, h⟩
theorem call_enT {l : Addr} {items : Array Value} {Q : Value → Shared → Prop} (hT : s.heap.IsTuple l items)
    (h : ∀ h', IsEnum h' (s.heap.objs.size + 1) s.heap.objs.size 0 .none → h'.IsTupleIter s.heap.objs.size l 0 → (∀ b o, s.heap.get? b = some o → h'.get? b = some o) → Q (.ref (s.heap.objs.size + 1)) { s with heap := h' }) :
    wpAny (model prog w) A (call (.type "enumerate") [.ref l]) Q E s := by
  obtain ⟨⟨c, dct, dt, sl⟩, hl, hc, n, hd⟩ := hT
  cases hc
  cases hd
  have hz : (s.heap.push { cls := .type "tuple_iterator", data := .fields #[.ref l, .int 0 0] }).objs.size = s.heap.objs.size + 1 := Heap.size_push ..
  have he : IsEnum (enHeap s.heap l) (s.heap.objs.size + 1) s.heap.objs.size 0 .none := by rw [← hz]; exact Heap.get?_push_size _ rfl
  refine callType_new F.called_enumerate (by decide) (F.typeCall_enumerate_1 _) (F.newCall_enumerate_1 _) (fun obj => F.args_object_init_2 obj _) F.entry_enumerate_new (meets_enT l items n dct sl) ⟨hl, ?_⟩
  exact ⟨⟨_, he, rfl⟩, h _ he ⟨_, Heap.get?_push_of_some _ (Heap.get?_push_size _ rfl), rfl, rfl⟩ fun b o x => Heap.get?_push_of_some _ (Heap.get?_push_of_some _ x)⟩
end
/-- the tuple at a as it stands at each turn, each item in a new pair -/
def ItEn (K : PySem.W.Frag) (a : Addr) : It :=
  ⟨fun i H => ∃ (xs : List V) (x : V), SqT K H a xs ∧ xs[i]? = some x, fun i H v H' => ∃ T x, v = .ref T ∧ H T = none ∧ H' = upd H T (.tup [.int (i : Nat), x]) ∧ ∀ xs, SqT K H a xs → xs[i]? = some x, fun i H => ∃ xs : List V, SqT K H a xs ∧ xs.length ≤ i⟩
theorem turn_enT {P : Program} {w : World} {K : PySem.W.Frag} {elts : List Expr} {kk : Nat} {tpos : Pos} (a e it : Addr) (hai : a ≠ it) (hea : e ≠ a) : Turn P w K (.Tuple elts kk tpos) (ItEn K a) [e, it] e (fun i h => (∃ old, IsEnum h e it ((i : Nat) : Int) old) ∧ h.IsTupleIter it a i ∧ e ≠ it) where
  mem := by simp
  obj := fun i h ⟨⟨old, he⟩, ⟨o, ho, _, hd⟩, _⟩ b hb => by
    rcases (by simpa using hb : b = e ∨ b = it) with z | z
    · subst z; exact ⟨_, he, fun v q => nomatch q⟩
    · subst z; exact ⟨o, ho, fun v q => by rw [hd] at q; cases q⟩
  keep := fun i h h' ⟨⟨old, he⟩, hi, hne⟩ k => ⟨⟨old, k e (by simp) _ he⟩, hi.at fun o q => k it (by simp) o q, hne⟩
  item := by
    intro X hP hw hK hc i pins s σ H E I hf ⟨⟨old, he⟩, hit, hne⟩ ⟨xs, x, hq, hx⟩
    subst hP hw hK
    obtain ⟨its, rv, p, hz⟩ := I.tuple hq
    obtain ⟨u, hu, ru⟩ := rv.get hx
    have hil : i < its.toArray.size := by
      have := (List.getElem?_eq_some_iff.mp hu).1
      simpa using this
    have hel : e < s.heap.objs.size := Heap.lt_size he
    have hitl : it < s.heap.objs.size := by obtain ⟨_, q, _⟩ := hit; exact Heap.lt_size q
    have dr := Draws.tuple (prog := X.prog) (w := X.w) (A := X.A.in1) (I.ok.hd hc) it a hai its.toArray
    refine wpAny_pyNext_enum_itemD dr he ⟨hit, (show s.heap.IsTuple a its.toArray from p)⟩ hil hne (by simp [hne, hea]) fun x' h' tk hx' ho ⟨hit', _⟩ hT hsz hk => ?_
    have hxu : x' = u := by
      have z : its.toArray[i]? = some x' := hx'
      rw [show its.toArray[i]? = its[i]? by simp, hu] at z
      cases z; rfl
    subst hxu
    refine ⟨_, rfl, wpAny_letOwnedTupleGo_enum (s := { s with heap := h', toks := tk + 1 }) ho fun h'' he' sb => ?_⟩
    have hT2 := (sb.2 s.heap.objs.size (Nat.ne_of_gt hel)).trans hT
    have I1 := I.turnedNew (t' := tk + 1) (ch := [e, it]) (T := s.heap.objs.size) (ob := .tup [.int (i : Nat), x]) (h' := h'') (fun b ob hb q => (sb.2 b (fun z => hb (by simp [z]))).trans (hk b ob (fun z => hb (by simp [z])) (fun z => hb (by simp [z])) q)) hf (Nat.le_refl _)
      ⟨by show 2 ≤ sizeLine; decide, [.int i tk, x'], .cons ⟨_, rfl⟩ (.cons ru .nil), ⟨_, hT2, rfl, _, rfl⟩⟩
    refine ⟨.ref s.heap.objs.size, _, I1, rfl, ⟨_, x, rfl, I.hok.fresh (Nat.le_refl _), rfl, fun ys hy => by rw [I.tuple_inj hy hq]; exact hx⟩, ⟨⟨x', ?_⟩, hit'.at fun o q => (sb.2 it (Ne.symm hne)).trans q, hne⟩, fun b hb => ?_⟩
    · rw [show ((i + 1 : Nat) : Int) = (i : Int) + 1 by omega]; exact he'
    · have hb' : b < s.heap.objs.size := by
        rcases (by simpa using hb : b = e ∨ b = it) with z | z
        · subst z; exact hel
        · subst z; exact hitl
      rw [upd_ne (Nat.ne_of_lt hb')]
      exact (hf b hb).1
  done := by
    intro X hP hw hK hc i pins s σ H E I hf ⟨⟨old, he⟩, hit, hne⟩ ⟨xs, hq, hx⟩
    subst hP hw hK
    obtain ⟨its, rv, p, hz⟩ := I.tuple hq
    obtain ⟨f0, f1, f2, f3, f4, f5⟩ := hf it (by simp)
    have hl := rv.length
    unfold pyNext
    have hT : s.TypeIs (.ref e) "enumerate" := ⟨_, he, rfl⟩
    refine wpAny_bind (wpAny_attempt (wpAny_callSpecial?_slot (name := Str.ofString "__next__") hT F.slot_enumerate_next (wpAny_call_entry F.slot_enumerate_next hT F.entry_enumerate_next ?_ (F.args_enumerate_next_1 _))))
    show wpAny _ _ (field (.ref e) 2 >>= _) _ _ _
    refine wpAny_bind (wpAny_field he rfl (x := .ref it) rfl (wpAny_bind (wpAny_nextOf_tuple_end (I.ok.hd hc) hit (show s.heap.IsTuple a its.toArray from p) (by simp; omega) fun h' x he' hx' => ?_)))
    obtain ⟨o, ho, hcl⟩ := hx'
    refine wpAny_bind (wpAny_isInstance (T := "StopIteration") (b := true) ⟨o, ho, hcl⟩ isSubtype_stop ?_)
    exact wpAny_pure ⟨rfl, I.turned (t' := s.toks) (fun b o hb q => he' b o hb q) f0 f1 f3 f4 f5⟩
  self := fun A i s Q E ⟨⟨_, he⟩, _⟩ h => wpAny_pyIter_enum he h
def iEnT (K : PySem.W.Frag) (ta : TA) : TI := fun σ H R => ta σ H fun vs H1 => ∃ a xs, vs = [.ref a] ∧ SqT K H1 a xs ∧ R (ItEn K a) H1
theorem pi_enT {X : Cx} {e : Expr} {ta : TA} {p pos tpos : Pos} {elts : List Expr} {kk : Nat} (hg : Gl X "enumerate") (hm : X.mg "enumerate" = none) (ha : PA X [e] ta) (hs : starEach [e] X.env = [(false, eval e X.env)]) : PI X (.Tuple elts kk tpos) (.Call (.Name "enumerate" p) [e] [] pos) (iEnT X.K ta) := by
  refine ⟨fun pins s σ H R I h => Call_ (ld_blt I hg hm boot_enumerate (PyProof.Rows.callWith_type1 (thn (ha.run pos pins s σ H _ I h) fun us s1 ⟨vs, H1, I1, r1, a, xs, ex, hq, q⟩ => ?_) hs rfl))⟩
  subst ex
  cases r1 with
  | cons r rr =>
    cases rr
    cases r
    obtain ⟨its, rv, p', hz⟩ := I1.tuple hq
    have hal : a < s1.heap.objs.size := by obtain ⟨o, q, _⟩ := id p'; exact Heap.lt_size q
    refine call_enT (show s1.heap.IsTuple a its.toArray from p') fun h' he hit hk => wpAny_pyIter_enum he ?_
    refine ⟨s1.heap.objs.size + 1, [s1.heap.objs.size + 1, s1.heap.objs.size], _, _, H1, rfl, I1.kept (t' := s1.toks) hk, turn_enT a (s1.heap.objs.size + 1) s1.heap.objs.size (Nat.ne_of_lt hal) (Nat.ne_of_gt (Nat.lt_succ_of_lt hal)), ⟨⟨.none, he⟩, hit, Nat.succ_ne_self _⟩, fun b hb => ?_, q⟩
    have hle : s1.heap.objs.size ≤ b := by
      rcases (by simpa using hb : b = s1.heap.objs.size + 1 ∨ b = s1.heap.objs.size) with z | z <;> rw [z]
      · exact Nat.le_succ _
      · exact Nat.le_refl _
    exact I1.fpOk hle (I1.hok.fresh hle)

section
variable {X : Cx} {Wl : Wild} {ρ : Env'} {e a b : Expr} {pos : Pos}
/-- (0, d0), (1, d1), .. -/
def enumD (ds : List D) : List D := ds.mapIdx fun i d => .tuple [.int (i : Nat), d]
theorem pairUp {en : En} {F H : Hp} {T : Addr} {d d' : D} {x y : V} (ha : At Wl F H) (hT : H T = none) (r : Rep en F d x) (r' : Rep en F d' y) : ∃ F2, Gr Wl F H F2 (upd H T (.tup [x, y])) ∧ Rep en F2 (.tuple [d, d']) (.ref T) := by
  have fT : F T = none := by
    cases q : F T with
    | none => rfl
    | some u => rw [ha.fh T u q] at hT; cases hT
  have ex : Ex F (upd F T (.tup [x, y])) := Evl.Ex.new fT
  exact ⟨_, Gr.new ha hT, .tuple (SqT.of upd_same) (.cons (r.mono ex) (.cons (r'.mono ex) .nil))⟩
theorem walk_enT {en : En} {F : Hp} {p : Addr} {ds : List D} {xs : List V} (e1 : SqT en.K F p xs) (ra : RepA en F ds xs) : WalkD en Wl (ItEn en.K p) F (enumD ds) := by
  refine ⟨fun F2 H2 i d ex ha2 hd => ?_, fun F2 H2 ex ha2 => ⟨_, Evl.ex_t (ex.trans ha2.fh) e1, by unfold enumD; rw [List.length_mapIdx, ← ra.length]; exact Nat.le_refl _⟩⟩
  have e2 := Evl.ex_t (ex.trans ha2.fh) e1
  unfold enumD at hd
  rw [List.getElem?_mapIdx] at hd
  obtain ⟨d0, h0, rfl⟩ := Option.map_eq_some_iff.mp hd
  obtain ⟨x, hx, rx⟩ := ra.get h0
  refine ⟨⟨_, x, e2, hx⟩, fun y H3 ⟨T, x', z1, z2, z3, z4⟩ => ?_⟩
  subst z1 z3
  have := z4 _ e2
  rw [hx] at this; cases this
  exact pairUp ha2 z2 (Rep.int _) (rx.mono ex)
theorem wi_enumT {Q : List D → Prop} {p tpos : Pos} {elts : List Expr} {kk : Nat} (hm : X.mg "enumerate" = none) (h : WE X Wl ρ a (valK (tupleK fun ds => Q (enumD ds)))) (hg : Gl X "enumerate" := by rfl) (hs : starEach [a] X.env = [(false, eval a X.env)] := by rfl) (hpa : PA X [a] (tCons (tSem X a) tNil) := by exact pa_cons pe_sem pa_nil) :
    WI X Wl ρ (.Tuple elts kk tpos) (.Call (.Name "enumerate" p) [a] [] pos) Q := fun F H σ R ha hsl hc =>
  (pi_enT hg hm hpa hs).sem (h F H σ _ ha hsl fun r v F1 H1 q g rr => by
    match r, q, rr with
    | .val (.tuple ds), q, rr =>
      cases rr with
      | @tuple p xs _ e1 ra => exact ⟨p, xs, rfl, Evl.ex_t g.at_.fh e1, hc _ _ F1 H1 q g (walk_enT e1 ra)⟩)
theorem walk_enL {en : En} {F : Hp} {p : Addr} {ds : List D} {xs : List V} (e1 : F p = some (.lst xs)) (ra : RepA en F ds xs) : WalkD en Wl (Ite en.K p) F (enumD ds) := by
  refine ⟨fun F2 H2 i d ex ha2 hd => ?_, fun F2 H2 ex ha2 => ⟨_, SqL.of (ha2.fh _ _ (ex _ _ e1)), by unfold enumD; rw [List.length_mapIdx, ← ra.length]; exact Nat.le_refl _⟩⟩
  have e2 := SqL.of (K := en.K) (ha2.fh _ _ (ex _ _ e1))
  unfold enumD at hd
  rw [List.getElem?_mapIdx] at hd
  obtain ⟨d0, h0, rfl⟩ := Option.map_eq_some_iff.mp hd
  obtain ⟨x, hx, rx⟩ := ra.get h0
  refine ⟨⟨_, x, e2, hx⟩, fun y H3 ⟨T, x', z1, z2, z3, z4⟩ => ?_⟩
  subst z1 z3
  have := z4 _ e2
  rw [hx] at this; cases this
  exact pairUp ha2 z2 (Rep.int _) (rx.mono ex)
theorem wi_enumL {Q : List D → Prop} {p tpos : Pos} {elts : List Expr} {kk : Nat} (hm : X.mg "enumerate" = none) (h : WE X Wl ρ a (valK (listK fun ds => Q (enumD ds)))) (hg : Gl X "enumerate" := by rfl) (hs : starEach [a] X.env = [(false, eval a X.env)] := by rfl) (hpa : PA X [a] (tCons (tSem X a) tNil) := by exact pa_cons pe_sem pa_nil) :
    WI X Wl ρ (.Tuple elts kk tpos) (.Call (.Name "enumerate" p) [a] [] pos) Q := fun F H σ R ha hsl hc =>
  (pi_enum hg hm hpa hs).sem (h F H σ _ ha hsl fun r v F1 H1 q g rr => by
    match r, q, rr with
    | .val (.list ds), q, rr =>
      cases rr with
      | @list p xs _ e1 ra => exact ⟨p, xs, rfl, SqL.of (g.at_.fh _ _ e1), hc _ _ F1 H1 q g (walk_enL e1 ra)⟩)
/-- (a0, b0), (a1, b1), .. -/
def zipD (ds es : List D) : List D := List.zipWith (fun d e => .tuple [d, e]) ds es
theorem walk_zipT {en : En} {F : Hp} {p q : Addr} {ds es : List D} {xs ys : List V} (e1 : SqT en.K F p xs) (e2 : SqT en.K F q ys) (ra : RepA en F ds xs) (rb : RepA en F es ys) : WalkD en Wl (RZ.ItzT en.K p q) F (zipD ds es) := by
  refine ⟨fun F2 H2 i d ex ha2 hd => ?_, fun F2 H2 ex ha2 => ⟨_, _, Evl.ex_t (ex.trans ha2.fh) e1, Evl.ex_t (ex.trans ha2.fh) e2, ?_⟩⟩
  · have f1 := Evl.ex_t (ex.trans ha2.fh) e1
    have f2 := Evl.ex_t (ex.trans ha2.fh) e2
    unfold zipD at hd
    rw [List.getElem?_zipWith] at hd
    split at hd
    · rename_i d1 d2 h1 h2
      cases hd
      obtain ⟨x, hx, rx⟩ := ra.get h1
      obtain ⟨y, hy, ry⟩ := rb.get h2
      refine ⟨⟨_, _, x, y, f1, f2, hx, hy⟩, fun z H3 ⟨T, x', y', z1, z2, z3, z4, z5⟩ => ?_⟩
      subst z1 z3
      have w1 := z4 _ f1
      have w2 := z5 _ f2
      rw [hx] at w1; cases w1
      rw [hy] at w2; cases w2
      exact pairUp ha2 z2 (rx.mono ex) (ry.mono ex)
    · cases hd
  · unfold zipD
    rw [List.length_zipWith, ← ra.length, ← rb.length]
    omega
theorem wi_zipT {Q : List D → Prop} {p tpos : Pos} {elts : List Expr} {kk : Nat} (hm : X.mg "zip" = none) (h : WE X Wl ρ a (valK (tupleK fun ds => WE X Wl ρ b (valK (tupleK fun es => Q (zipD ds es)))))) (hg : Gl X "zip" := by rfl) (hpa : PA X [a, b] (tCons (tSem X a) (tCons (tSem X b) tNil)) := by exact pa_cons pe_sem (pa_cons pe_sem pa_nil))
    (hs : starEach [a, b] X.env = (false, eval a X.env) :: starEach [b] X.env := by rfl) (hpl : (backTo pos (starEach [b] X.env)).any (·.1) = false := by rfl) : WI X Wl ρ (.Tuple elts kk tpos) (.Call (.Name "zip" p) [a, b] [] pos) Q := fun F H σ R ha hsl hc =>
  (RZ.pi_zipA hg hm hpa hs hpl).sem (h F H σ _ ha hsl fun r v F1 H1 q g rr => by
    match r, q, rr with
    | .val (.tuple ds), q, rr =>
      cases rr with
      | @tuple p xs _ e1 ra =>
        refine q F1 H1 σ _ g.at_ (hsl.mono g) fun r2 v2 F2 H2 q2 g2 rr2 => ?_
        match r2, q2, rr2 with
        | .val (.tuple es), q2, rr2 =>
          cases rr2 with
          | @tuple p2 ys _ e2 rb => exact ⟨p, p2, xs, ys, rfl, .inr ⟨Evl.ex_t g2.at_.fh (Evl.ex_t g2.ff e1), Evl.ex_t g2.at_.fh e2, hc _ _ F2 H2 q2 (g.trans g2) (walk_zipT (Evl.ex_t g2.ff e1) e2 (ra.mono g2.ff) rb)⟩⟩)
end
end LC
/-! Defs: what one promises over deep data, its body, its call. -/
namespace LC
open PySem L2 PySem.Spec PyProof.Rows
/-- what a def does with its arguments: g rs C says that it comes to some d with C d -/
abbrev Con := List R → (D → Prop) → Prop
/-- the places of W0 are among those of Wl, each under one word -/
def Incl (W0 Wl : Wild) : Prop := (∀ p ∈ W0, p ∈ Wl) ∧ ∀ p ∈ W0, ∀ q ∈ Wl, q.1 = p.1 → q.2 = p.2
def notOwn : R → Bool
  | .own _ => false
  | _ => true
def spD (en : En) (W0 : Wild) (n : Nat) (g : Con) : Sp := fun vs H Q _ => vs.length = n ∧ ∃ (Wl : Wild) (F : Hp) (rs : List R) (C : D → Prop), Incl W0 Wl ∧ At Wl F H ∧ RepRs en Wl F H rs vs ∧ rs.all notOwn = true ∧ g rs C ∧
  ∀ d v F' H', C d → Gr Wl F H F' H' → Rep en F' d v → Q v H'
/-- a def that may be called -/
structure Can (P : Program) (w : World) (K : PySem.W.Frag) (mg : Str → Option Value) (base : Heap) (W0 : Wild) (k : Nat) (x : Str) (n : Nat) (g : Con) (dds : List D) : Prop where
  ex : ∃ (f : Addr) (fd : FuncData) (ps : List Str) (dvs : List V) (ds : List Value), FnOk P w K mg base L2.CX0 k f fd ps (spD ⟨P, w, K⟩ W0 n g) ∧ ps.length = n ∧ mg x = some (.ref f) ∧ PySem.W.keepIn K (.ref f) = true ∧ Binds K fd ps ds ∧ Vals dvs ds ∧ ∀ F, RepA ⟨P, w, K⟩ F dds dvs
def startR (N : List Str) (rs : List R) : Env' := rs.map some ++ List.replicate (N.length - rs.length) none
section
variable {P : Program} {w : World} {K : PySem.W.Frag} {mg : Str → Option Value} {base : Heap} {W0 : Wild}
theorem slots_start {en : En} {Wl : Wild} {F H : Hp} {N : List Str} {rs : List R} {vs : List V} (r : RepRs en Wl F H rs vs) : Slots en Wl (startR N rs) F H (L2.start N vs) := by
  have hl := r.length
  refine ⟨by unfold startR L2.start; simp only [List.length_append, List.length_map, List.length_replicate, hl], fun i q e => ?_⟩
  have hi : i < rs.length := by
    by_cases z : i < rs.length
    · exact z
    · unfold startR at e
      rw [List.getElem?_append_right (by rw [List.length_map]; omega)] at e
      have := List.getElem?_replicate (a := (none : Option R)) (n := N.length - rs.length) (i := i - (rs.map some).length)
      rw [this] at e
      split at e <;> cases e
  unfold startR at e
  rw [List.getElem?_append_left (by rw [List.length_map]; exact hi), List.getElem?_map] at e
  obtain ⟨q', e1, e2⟩ := Option.map_eq_some_iff.mp e
  cases e2
  clear e
  unfold L2.start
  have key : ∀ {rs : List R} {vs : List V} {i : Nat} {q : R}, RepRs en Wl F H rs vs → rs[i]? = some q → ∃ v, vs[i]? = some v ∧ RepR en Wl F H q v := by
    intro rs vs i q r
    induction r generalizing i with
    | nil => intro e; simp at e
    | cons h t ih =>
      intro e
      cases i with
      | zero => simp at e; subst e; exact ⟨_, rfl, h⟩
      | succ i => simp at e; obtain ⟨v, e1, e2⟩ := ih e; exact ⟨v, by simpa using e1, e2⟩
  obtain ⟨v, h1, h2⟩ := key r e1
  refine ⟨v, ?_, h2⟩
  rw [List.getElem?_append_left (by rw [List.length_map, ← hl]; exact hi), List.getElem?_map, h1]
  rfl
theorem startR_own {N : List Str} {rs : List R} (h : rs.all notOwn = true) {i : Nat} {d : D} : (startR N rs)[i]? ≠ some (some (.own d)) := fun e => by
  unfold startR at e
  have := List.mem_of_getElem? e
  rcases List.mem_append.mp this with z | z
  · obtain ⟨r, hr, e⟩ := List.mem_map.mp z
    cases e
    have := List.all_eq_true.mp h _ hr
    cases this
  · have := List.eq_of_mem_replicate z
    cases this
/-- the context of a def's body -/
abbrev frame (P : Program) (w : World) (K : PySem.W.Frag) (mg : Str → Option Value) (base : Heap) (N : List Str) (qual : Str) (scope : Scope) (f : Addr) (cdv : Value) (A : Around) (outer : List Env) (s : Shared) (H : Hp) (E : XK) : Cx := (cxOf L2.CX0 P w K mg base N qual scope f cdv A outer s H E).nox
/-- a def keeps g, where its body does -/
theorem can_of {x : Str} {params : Arguments} {body : List Stmt} {scope : Scope} {dvs : List V} {dds : List D} {f : Addr} {fd : FuncData} {N ps : List Str} {k : Nat} {g : Con} (F : FunD K x x params body scope dvs [] f fd) (hm : mg x = some (.ref f)) (S : FnScope N ps scope)
    (hb : ∃ ds, Vals dvs ds ∧ Binds K fd ps ds) (hd : ∀ F, RepA ⟨P, w, K⟩ F dds dvs)
    (h : ∀ (f : Addr) (cdv : Value) (A : Around) (outer : List Env) (s : Shared) (H : Hp) (E : XK) (Wl : Wild) (rs : List R) (C : D → Prop), Room k (A.deeper (envOfC x scope s.heap.objs.size f cdv)) → Incl W0 Wl → rs.all notOwn = true → rs.length = ps.length → g rs C →
      WSs (frame P w K mg base N x scope f cdv A outer s H E) Wl (startR N rs) body { nx := fun _ => C .none, rt := C }) : Can P w K mg base W0 (k + 1) x ps.length g dds := by
  obtain ⟨ds, h1, h2⟩ := hb
  refine ⟨f, fd, ps, dvs, ds, F.ok S (fun vs H Q E hs => hs.1) (fun cdv A outer s H vs Q E hr hs => ?_), rfl, hm, F.kp, h2, h1, hd⟩
  obtain ⟨hl, Wl, F1, rs, C, hW, ha, hr1, hn, hg, hq⟩ := hs
  refine ⟨_, PSs.nox (pss_sem (st := body)), ?_⟩
  have rl : rs.length = ps.length := by rw [hr1.length, hl]
  refine h f cdv A outer s H E Wl rs C hr hW hn rl hg F1 H F1 H _ _ ⟨Gr.refl ha, slots_start hr1, fun i d a e => absurd e (startR_own hn), fun i j d d' _ e => absurd e (startR_own hn)⟩ ⟨fun ρ' F' H' σ' q s => hq .none .non F' H' q s.gr .none, fun d v F' H' q g r => hq d v F' H' q g r, fun _ _ _ _ q => q.elim, fun _ _ _ _ q => q.elim⟩
theorem Can.mono {j k n : Nat} {x : Str} {g : Con} {dds : List D} (c : Can P w K mg base W0 j x n g dds) (h : j ≤ k) : Can P w K mg base W0 k x n g dds := by
  obtain ⟨f, fd, ps, dvs, ds, F, r⟩ := c.ex
  exact ⟨f, fd, ps, dvs, ds, F.mono h, r⟩
end
section
variable {X : Cx} {Wl W0 : Wild} {ρ : Env'} {e : Expr} {es : List Expr} {pos : Pos} {Q : R → Prop}
theorem RepRs.ofA {en : En} {F H : Hp} : ∀ {ds : List D} {vs : List V}, RepA en F ds vs → RepRs en Wl F H (ds.map R.val) vs
  | _, _, .nil => .nil
  | _, _, .cons h t => .cons h (RepRs.ofA t)
/-- what a call asks of its arguments -/
def callK (n : Nat) (dds : List D) (g : Con) (Q : R → Prop) (rs : List R) : Prop := rs.length + dds.length = n ∧ rs.all notOwn = true ∧ g (rs ++ dds.map R.val) fun d => Q (.val d)
/-- the call of a def -/
theorem we_call {x : Str} {p : Pos} {g : Con} {dds : List D} {j k n : Nat} (c : Can X.prog X.w X.K X.mg X.base W0 k x n g dds) (hr : Room j X.A) (hk : k ≤ j) (hW : Incl W0 Wl) (h : WA X Wl ρ (e :: es) (callK n dds g Q))
    (hg : Gl X x := by rfl) (hdb : (x == ("__debug__" : Str)) = false := by decide) (he : starEach (e :: es) X.env = (false, eval e X.env) :: starEach es X.env := by rfl) (hpl : (backTo pos (starEach es X.env)).any (·.1) = false := by rfl) : WE X Wl ρ (.Call (.Name x p) (e :: es) [] pos) Q := fun F H σ C ha hs hc => by
  obtain ⟨f, fd, ps, dvs, ds, FN, rfl, hm, kp, b, d, hd⟩ := c.ex
  refine (pe_call (E := L2.E0) FN (hr.mono hk) hg hm kp b d L2.pass0 (pa_sem (es := e :: es)) hdb he hpl).sem (h F H σ _ ha hs fun rs vs F1 H1 q g1 r1 => ?_)
  have r2 : RepRs (cxEn X) Wl F1 H1 (rs ++ dds.map R.val) (vs ++ dvs) := by
    have := RepRs.ofA (Wl := Wl) (H := H1) (hd F1)
    revert r1
    generalize rs = rs
    intro r1
    induction r1 with
    | nil => exact this
    | cons h t ih => exact .cons h ih
  have hn : (rs ++ dds.map R.val).all notOwn = true := by
    rw [List.all_append, q.2.1, Bool.true_and, List.all_map, List.all_eq_true]
    intro d _; rfl
  have hl : (vs ++ dvs).length = ps.length := by rw [← r2.length, List.length_append, List.length_map]; exact q.1
  exact ⟨hl, Wl, F1, _, _, hW, g1.at_, r2, hn, q.2.2, fun d v F2 H2 k g2 r => hc (.val d) v F2 H2 k (g1.trans g2) r⟩
end
end LC
/-! The clock and what the program makes of it, in plain words. -/
namespace LC
open PySem
/-- an exchange: wheel, edition -/
abbrev Xg := Int × Int
structure Clock where
  P : Int
  ed : List Int
  to : List (Int × Int × Int)
  ga : List (List Int)
  bo : List (Int × Int × Int × Int)
def eI (i : Int) : PyData := .int i
def eX (e : Xg) : PyData := .tuple [.int e.1, .int e.2]
def eT (t : Int × Int × Int) : PyData := .tuple [.int t.1, .int t.2.1, .int t.2.2]
def eG (g : List Int) : PyData := .tuple (g.map eI)
def eB (b : Int × Int × Int × Int) : PyData := .tuple [.int b.1, .int b.2.1, .int b.2.2.1, .int b.2.2.2]
def Clock.enc (c : Clock) : PyData := .tuple [.int c.P, .tuple (c.ed.map eI), .tuple (c.to.map eT), .tuple (c.ga.map eG), .tuple (c.bo.map eB)]
/-- the wheels' number -/
def Clock.n (c : Clock) : Nat := c.ed.length
def Clock.edOf (c : Clock) (w : Int) : Int := c.ed.getD w.toNat 0
def Clock.gaOf (c : Clock) (w : Int) : List Int := c.ga.getD w.toNat []
/-- one list ahead of another, place by place -/
def lexB : List Int → List Int → Bool
  | [], [] => false
  | [], _ :: _ => true
  | _ :: _, [] => false
  | x :: xs, y :: ys => decide (x < y) || (decide (x = y) && lexB xs ys)
def rising (l : List Int) : Prop := l.Pairwise (· < ·)
def t3 (t : Int × Int × Int) : List Int := [t.1, t.2.1, t.2.2]
def b3 (b : Int × Int × Int × Int) : List Int := [b.1, b.2.1, b.2.2.1]
/-- an index of a wheel -/
def Clock.whl (c : Clock) (w : Int) : Prop := 0 ≤ w ∧ w < c.n
structure Clock.Ok (c : Clock) : Prop where
  p1 : 1 ≤ c.P
  p2 : c.P ≤ 12
  n1 : 1 ≤ c.n
  n2 : c.n ≤ 6
  ed : ∀ e ∈ c.ed, 0 ≤ e ∧ e ≤ 4
  sum : c.ed.sum ≤ 12
  to : ∀ t ∈ c.to, 0 ≤ t.1 ∧ t.1 < c.P ∧ 0 ≤ t.2.1 ∧ t.2.1 < t.2.2 ∧ t.2.2 < c.n
  toR : (c.to.map t3).Pairwise fun a b => lexB a b = true
  toL : c.to.length ≤ 1000
  gaL : c.ga.length = c.n
  ga : ∀ g ∈ c.ga, g ≠ [] ∧ rising g ∧ ∀ p ∈ g, 0 ≤ p ∧ p < c.P
  bo : ∀ b ∈ c.bo, c.whl b.1 ∧ 1 ≤ b.2.1 ∧ b.2.1 ≤ c.edOf b.1 ∧ c.whl b.2.2.1 ∧ b.1 ≠ b.2.2.1 ∧ 1 ≤ b.2.2.2 ∧ b.2.2.2 ≤ c.edOf b.2.2.1
  boR : (c.bo.map b3).Pairwise fun a b => lexB a b = true
  boL : c.bo.length ≤ 1000
/-- steps to the first of k0, k0 + 1, .. (m of them) that passes -/
def firstOf (p : Nat → Bool) (m : Nat) : Nat := ((List.range m).find? p).getD 0
theorem firstOf_spec {p : Nat → Bool} {m : Nat} (h : ∃ k, k < m ∧ p k = true) : firstOf p m < m ∧ p (firstOf p m) = true ∧ ∀ k, k < firstOf p m → p k = false := by
  unfold firstOf
  cases e : (List.range m).find? p with
  | none =>
    obtain ⟨k, h1, h2⟩ := h
    have := List.find?_eq_none.mp e k (List.mem_range.mpr h1)
    rw [h2] at this; exact absurd rfl this
  | some k =>
    have h1 : k < m ∧ p k = true := ⟨List.mem_range.mp (List.mem_of_find?_eq_some e), List.find?_some e⟩
    refine ⟨h1.1, h1.2, fun j hj => ?_⟩
    have hj : j < k := hj
    rw [List.find?_eq_some_iff_append] at e
    obtain ⟨_, as, bs, e1, e2⟩ := e
    have hk : as.length = k := by
      have this : (List.range m)[as.length]? = (as ++ k :: bs)[as.length]? := congrArg (fun l => l[as.length]?) e1
      rw [List.getElem?_append_right (Nat.le_refl _), Nat.sub_self, List.getElem?_cons_zero] at this
      have hl : as.length < m := by
        have := congrArg List.length e1
        rw [List.length_range, List.length_append, List.length_cons] at this
        omega
      rw [List.getElem?_range hl] at this
      exact Option.some.inj this
    have hj' : as[j]? = some j := by
      have this : (List.range m)[j]? = (as ++ k :: bs)[j]? := congrArg (fun l => l[j]?) e1
      rw [List.getElem?_range (by omega), List.getElem?_append_left (by omega)] at this
      exact this.symm
    have := e2 j (List.mem_of_getElem? hj')
    simpa using this
def isGap (c : Clock) (w t : Int) : Bool := decide (t % c.P ∈ c.gaOf w)
def gapFrom (c : Clock) (w t : Int) : Int := t + (firstOf (fun k => isGap c w (t + k)) 12 : Nat)
def phasesOf (c : Clock) (i j : Int) : List Int := (c.to.filter fun t => decide (t.2 = (min i j, max i j))).map (·.1)
def above (c : Clock) (i j t : Int) : Int := t - (firstOf (fun k => decide ((t - k - 1) % c.P ∈ phasesOf c i j)) 12 : Nat)
def pushed (c : Clock) (one other : Xg) (t : Int) : Int := if one.1 = other.1 then gapFrom c one.1 (t + 1) else gapFrom c one.1 (above c one.1 other.1 t)
def maxL (l : List Int) : Int := l.foldl max 0
def entriesOf (c : Clock) (w j : Int) : List (Int × Int × Int × Int) := c.bo.filter fun b => decide (b.1 = w) && decide (b.2.2.1 = j)
def needed (c : Clock) (w a j : Int) : Int := maxL (((entriesOf c w j).filter fun b => decide (b.2.1 ≤ a)).map (·.2.2.2))
def pairsAt (c : Clock) (p : Int) : List Xg := (c.to.filter fun t => decide (t.1 = p)).map (·.2)
abbrev Plan := List (List Int)
def edAt (pl : Plan) (w t : Int) : Int := (((pl.getD w.toNat []).filter fun x => decide (x ≤ t)).length : Nat)
def atW (st : List Int) (w : Int) : Int := st.getD w.toNat 0
def fitB (c : Clock) (st : List Int) (p : Xg) : Bool := !(decide (atW st p.2 < needed c p.1 (atW st p.1) p.2)) && decide (needed c p.2 (atW st p.2) p.1 ≤ atW st p.1)
def standing (c : Clock) (pl : Plan) (t : Int) : List Int := (List.range c.n).map fun (w : Nat) => edAt pl w t
def notFit (c : Clock) (st : List Int) (p : Int) : List Xg := (pairsAt c p).filter fun x => !fitB c st x
def iRange (lo hi : Int) : List Int := (List.range (hi - lo).toNat).map fun (k : Nat) => lo + (k : Int)
def everyX (c : Clock) : List Xg := (List.range c.n).flatMap fun (w : Nat) => (iRange 1 (c.edOf w + 1)).map fun a => ((w : Int), a)
theorem maxL_is {l : List Int} {m : Int} (h : m ∈ 0 :: l) (hm : ∀ y ∈ 0 :: l, y ≤ m) : maxL l = m := by
  have key : ∀ (l : List Int) (a : Int), a ≤ l.foldl max a ∧ (∀ y ∈ l, y ≤ l.foldl max a) ∧ (l.foldl max a = a ∨ l.foldl max a ∈ l) := by
    intro l
    induction l with
    | nil => intro a; exact ⟨Int.le_refl _, by simp, .inl rfl⟩
    | cons x l ih =>
      intro a
      obtain ⟨h1, h2, h3⟩ := ih (max a x)
      refine ⟨Int.le_trans (Int.le_max_left a x) h1, fun y hy => ?_, ?_⟩
      · rcases List.mem_cons.mp hy with rfl | hy
        · exact Int.le_trans (Int.le_max_right a y) h1
        · exact h2 y hy
      · rw [List.foldl_cons]
        rcases h3 with h3 | h3
        · rw [h3]
          rcases Int.le_total a x with z | z
          · right; rw [Int.max_eq_right z]; exact List.mem_cons_self
          · left; exact Int.max_eq_left z
        · right; exact List.mem_cons_of_mem _ h3
  obtain ⟨h1, h2, h3⟩ := key l 0
  apply Int.le_antisymm
  · rcases h3 with e | e
    · show l.foldl max 0 ≤ m
      rw [e]; exact hm 0 List.mem_cons_self
    · exact hm _ (List.mem_cons_of_mem _ e)
  · rcases List.mem_cons.mp h with rfl | h
    · exact h1
    · exact h2 m h
theorem getD_at {α : Type} {l : List α} {i : Nat} {d : α} (h : i < l.length) : l.getD i d = l[i] := by rw [List.getD_eq_getElem?_getD, List.getElem?_eq_getElem h]; rfl
theorem Clock.Ok.gaOf {c : Clock} {w : Int} (ok : c.Ok) (hw : c.whl w) : c.gaOf w ≠ [] ∧ rising (c.gaOf w) ∧ ∀ p ∈ c.gaOf w, 0 ≤ p ∧ p < c.P := by
  refine ok.ga _ ?_
  have h2 : w.toNat < c.ga.length := by have := hw.1; have := hw.2; rw [ok.gaL]; omega
  unfold Clock.gaOf
  rw [getD_at h2]
  exact List.getElem_mem h2
theorem Clock.Ok.edOf {c : Clock} {w : Int} (ok : c.Ok) (hw : c.whl w) : 0 ≤ c.edOf w ∧ c.edOf w ≤ 4 := by
  refine ok.ed _ ?_
  have h2 : w.toNat < c.ed.length := by have h1 := hw.1; have h3 := hw.2; unfold Clock.n at h3; omega
  unfold Clock.edOf
  rw [getD_at h2]
  exact List.getElem_mem h2
theorem phases_in {c : Clock} (ok : c.Ok) {i j p : Int} (h : p ∈ phasesOf c i j) : 0 ≤ p ∧ p < c.P := by
  unfold phasesOf at h
  obtain ⟨t, ht, rfl⟩ := List.mem_map.mp h
  have := ok.to t (List.mem_filter.mp ht).1
  exact ⟨this.1, this.2.1⟩
theorem mod_shift (t P : Int) (hP : 0 < P) (p : Int) (h0 : 0 ≤ p) (h1 : p < P) : ∃ k : Nat, (k : Int) < P ∧ (t + k) % P = p := by
  refine ⟨((p - t) % P).toNat, ?_, ?_⟩
  · have a := Int.emod_nonneg (p - t) (Int.ne_of_gt hP)
    have b := Int.emod_lt_of_pos (p - t) hP
    omega
  · have a := Int.emod_nonneg (p - t) (Int.ne_of_gt hP)
    rw [Int.toNat_of_nonneg a, Int.add_emod, Int.emod_emod_of_dvd _ (Int.dvd_refl P), ← Int.add_emod, show t + (p - t) = p by omega]
    exact Int.emod_eq_of_lt h0 h1
theorem gap_spec {c : Clock} {w : Int} (ok : c.Ok) (hw : c.whl w) (t : Int) : t ≤ gapFrom c w t ∧ gapFrom c w t < t + c.P ∧ gapFrom c w t % c.P ∈ c.gaOf w ∧ ∀ s, t ≤ s → s < gapFrom c w t → s % c.P ∉ c.gaOf w := by
  obtain ⟨h1, _, h2⟩ := ok.gaOf hw
  obtain ⟨p, hp⟩ : ∃ p, p ∈ c.gaOf w := by
    cases e : c.gaOf w with
    | nil => exact absurd e h1
    | cons p r => exact ⟨p, List.mem_cons_self⟩
  have hP : 0 < c.P := by have := ok.p1; omega
  obtain ⟨k, k1, k2⟩ := mod_shift t c.P hP p (h2 p hp).1 (h2 p hp).2
  have hk : isGap c w (t + k) = true := by unfold isGap; rw [k2]; exact decide_eq_true hp
  have kl : k < 12 := by have := ok.p2; omega
  obtain ⟨s1, s2, s3⟩ := firstOf_spec (p := fun k => isGap c w (t + k)) (m := 12) ⟨k, kl, hk⟩
  have hle : firstOf (fun k => isGap c w (t + k)) 12 ≤ k := Nat.le_of_not_lt fun z => by
    have := s3 k z
    simp only [hk] at this; cases this
  unfold gapFrom
  refine ⟨by omega, by omega, ?_, fun s a b => ?_⟩
  · unfold isGap at s2; exact of_decide_eq_true s2
  · have q := s3 (s - t).toNat (by omega)
    rw [show t + (((s - t).toNat : Nat) : Int) = s by omega] at q
    unfold isGap at q
    exact of_decide_eq_false q
theorem mod_back (t P : Int) (hP : 0 < P) (p : Int) (h0 : 0 ≤ p) (h1 : p < P) : ∃ k : Nat, (k : Int) < P ∧ (t - k - 1) % P = p := by
  have a := Int.emod_nonneg (t - 1 - p) (Int.ne_of_gt hP)
  have b := Int.emod_lt_of_pos (t - 1 - p) hP
  refine ⟨((t - 1 - p) % P).toNat, by omega, ?_⟩
  rw [Int.toNat_of_nonneg a, show t - (t - 1 - p) % P - 1 = (t - 1) - (t - 1 - p) % P by omega, Int.sub_emod, Int.emod_emod_of_dvd _ (Int.dvd_refl P), ← Int.sub_emod, show t - 1 - (t - 1 - p) = p by omega]
  exact Int.emod_eq_of_lt h0 h1
theorem above_spec {c : Clock} {i j : Int} (ok : c.Ok) (h : phasesOf c i j ≠ []) (t : Int) : above c i j t ≤ t ∧ t - c.P < above c i j t ∧ (above c i j t - 1) % c.P ∈ phasesOf c i j ∧ ∀ s, above c i j t ≤ s → s < t → s % c.P ∉ phasesOf c i j := by
  obtain ⟨p, hp⟩ : ∃ p, p ∈ phasesOf c i j := by
    cases e : phasesOf c i j with
    | nil => exact absurd e h
    | cons p r => exact ⟨p, List.mem_cons_self⟩
  have hP : 0 < c.P := by have := ok.p1; omega
  obtain ⟨k, k1, k2⟩ := mod_back t c.P hP p (phases_in ok hp).1 (phases_in ok hp).2
  have hk : decide ((t - k - 1) % c.P ∈ phasesOf c i j) = true := by rw [k2]; exact decide_eq_true hp
  have kl : k < 12 := by have := ok.p2; omega
  obtain ⟨s1, s2, s3⟩ := firstOf_spec (p := fun k : Nat => decide ((t - k - 1) % c.P ∈ phasesOf c i j)) (m := 12) ⟨k, kl, hk⟩
  have hle : firstOf (fun k : Nat => decide ((t - k - 1) % c.P ∈ phasesOf c i j)) 12 ≤ k := Nat.le_of_not_lt fun z => by
    have := s3 k z
    simp only [hk] at this; cases this
  unfold above
  refine ⟨by omega, by omega, ?_, fun s a b => ?_⟩
  · exact of_decide_eq_true s2
  · have q := s3 (t - 1 - s).toNat (by omega)
    rw [show t - (((t - 1 - s).toNat : Nat) : Int) - 1 = s by omega] at q
    exact of_decide_eq_false q
end LC
/-! What stands at the call of the law: each def under its name, the builtins' names free, the constants. -/
namespace LC
open PySem L2 PySem.Spec PyProof.Rows
structure DefAt (K : PySem.W.Frag) (mg : Str → Option Value) (x : Str) (st : Stmt) : Prop where
  ex : ∃ (f : Addr) (fd : FuncData), FunD K x x (defArgs st) (defBody st) (defScope st) [] [] f fd ∧ mg x = some (.ref f)
structure DefAtD (K : PySem.W.Frag) (mg : Str → Option Value) (x : Str) (st : Stmt) (dds : List D) : Prop where
  ex : ∃ (f : Addr) (fd : FuncData) (dvs : List V), FunD K x x (defArgs st) (defBody st) (defScope st) dvs [] f fd ∧ mg x = some (.ref f) ∧ dvs ≠ [] ∧ ∀ (P : Program) (w : World) (F : Hp), RepA ⟨P, w, K⟩ F dds dvs
structure Bd (K : PySem.W.Frag) (mg : Str → Option Value) : Prop where
  bare : Bare mg
  least_ticks : DefAtD K mg "least_ticks" s_least_ticks [.int 0, .tuple []]
  is_number : DefAt K mg "is_number" s_is_number
  are_rising : DefAt K mg "are_rising" s_are_rising
  are_editions : DefAt K mg "are_editions" s_are_editions
  are_touches : DefAt K mg "are_touches" s_are_touches
  are_gaps : DefAt K mg "are_gaps" s_are_gaps
  is_entry : DefAt K mg "is_entry" s_is_entry
  is_book : DefAt K mg "is_book" s_is_book
  need_clock : DefAt K mg "need_clock" s_need_clock
  every_exchange : DefAt K mg "every_exchange" s_every_exchange
  least_needed : DefAt K mg "least_needed" s_least_needed
  pairs_at : DefAt K mg "pairs_at" s_pairs_at
  phases_of : DefAt K mg "phases_of" s_phases_of
  need_plan : DefAt K mg "need_plan" s_need_plan
  edition_of : DefAt K mg "edition_of" s_edition_of
  fit : DefAt K mg "fit" s_fit
  standing_of : DefAt K mg "standing_of" s_standing_of
  not_fitting : DefAt K mg "not_fitting" s_not_fitting
  first_bad : DefAt K mg "first_bad" s_first_bad
  plan_of : DefAt K mg "plan_of" s_plan_of
  first_wrong : DefAt K mg "first_wrong" s_first_wrong
  is_right : DefAt K mg "is_right" s_is_right
  needs_of : DefAt K mg "needs_of" s_needs_of
  every_lean : DefAt K mg "every_lean" s_every_lean
  gap_from : DefAt K mg "gap_from" s_gap_from
  above_touches : DefAt K mg "above_touches" s_above_touches
  pushed : DefAt K mg "pushed" s_pushed
  earliest : DefAt K mg "earliest" s_earliest
  every_edge : DefAt K mg "every_edge" s_every_edge
  best_walks : DefAt K mg "best_walks" s_best_walks
  walk_of : DefAt K mg "walk_of" s_walk_of
  shortest_ring : DefAt K mg "shortest_ring" s_shortest_ring
  ring_of : DefAt K mg "ring_of" s_ring_of
  is_exchange_pair : DefAt K mg "is_exchange_pair" s_is_exchange_pair
  holds : DefAt K mg "holds" s_holds
  ring : DefAt K mg "ring" s_ring
  is_ring : DefAt K mg "is_ring" s_is_ring
  k_taken : DefAt K mg "_law_taken" s_k_taken
  k_low_clock : DefAt K mg "_law_low_clock" s_k_low_clock
  k_clock : DefAt K mg "_law_clock" s_k_clock
  k_needed : DefAt K mg "_law_needed" s_k_needed
  k_leans : DefAt K mg "_law_leans" s_k_leans
  k_push : DefAt K mg "_law_push" s_k_push
  k_is_ring : DefAt K mg "_law_is_ring" s_k_is_ring
  k_bad : DefAt K mg "_law_bad" s_k_bad
  k_standing : DefAt K mg "_law_standing" s_k_standing
  k_first_bad : DefAt K mg "_law_first_bad" s_k_first_bad
  law_ : DefAt K mg "law" s_law
  MOST_PERIOD : ∃ t, mg "MOST_PERIOD" = some (.int 12 t)
  MOST_WHEELS : ∃ t, mg "MOST_WHEELS" = some (.int 12 t)
  MOST_EDITIONS : ∃ t, mg "MOST_EDITIONS" = some (.int 4 t)
  MOST_EXCHANGES : ∃ t, mg "MOST_EXCHANGES" = some (.int 24 t)
  MOST_TICK : ∃ t, mg "MOST_TICK" = some (.int 1000000000000000000000000000000 t)
  MOST_PLANNED : ∃ t, mg "MOST_PLANNED" = some (.int 100000 t)
  MOST_RING : ∃ t, mg "MOST_RING" = some (.int 400 t)
end LC
/-! What the program's tests and places come to on the clock's data. -/
namespace LC
open PySem L2 PySem.Spec PyProof.Rows
/-- a way to tell α as plain data of depth n -/
structure Enc {α : Type} [DecidableEq α] (n : Nat) (f : α → D) : Prop where
  pl : ∀ a m, n ≤ m → pl m (f a) = true
  eq : ∀ a b, PyData.eqv (f a) (f b) = decide (a = b)
  al : ∀ a b, PySem.W.alike (f a) (f b) = true
  inj : ∀ a b, f a = f b → a = b
section
variable {α β γ δ : Type} [DecidableEq α] [DecidableEq β] [DecidableEq γ] [DecidableEq δ] {f : α → D} {g : β → D} {h : γ → D} {k : δ → D} {n : Nat}
theorem enc_int : Enc 0 eI := ⟨fun a m _ => by cases m <;> rfl, fun a b => by show PyData.eqv (.int a) (.int b) = _; rw [PyData.eqv]; rw [Bool.eq_iff_iff]; simp, fun a b => by show PySem.W.alike (.int a) (.int b) = _; rw [PySem.W.alike], fun a b e => by cases e; rfl⟩
theorem Enc.mono {m : Nat} (e : Enc n f) (h : n ≤ m) : Enc m f := ⟨fun a k hk => e.pl a k (Nat.le_trans h hk), e.eq, e.al, e.inj⟩
theorem enc_2 (e1 : Enc n f) (e2 : Enc n g) : Enc (n + 1) fun p : α × β => .tuple [f p.1, g p.2] := by
  refine ⟨fun a m hm => ?_, fun a b => ?_, fun a b => ?_, fun a b e => ?_⟩
  · obtain ⟨m, rfl⟩ : ∃ k, m = k + 1 := ⟨m - 1, by omega⟩
    simp only [LC.pl, List.all_cons, List.all_nil, e1.pl a.1 m (by omega), e2.pl a.2 m (by omega), Bool.and_self]
  · simp only [PyData.eqv, PyData.eqvAll, e1.eq, e2.eq, Bool.and_true]
    rw [Bool.eq_iff_iff]
    simp [Prod.ext_iff]
  · simp only [PySem.W.alike, PySem.W.alikeAll, e1.al, e2.al, Bool.and_self]
  · simp only [PyData.tuple.injEq, List.cons.injEq, and_true] at e
    exact Prod.ext (e1.inj _ _ e.1) (e2.inj _ _ e.2)
theorem enc_3 (e1 : Enc n f) (e2 : Enc n g) (e3 : Enc n h) : Enc (n + 1) fun p : α × β × γ => .tuple [f p.1, g p.2.1, h p.2.2] := by
  refine ⟨fun a m hm => ?_, fun a b => ?_, fun a b => ?_, fun a b e => ?_⟩
  · obtain ⟨m, rfl⟩ : ∃ k, m = k + 1 := ⟨m - 1, by omega⟩
    simp only [LC.pl, List.all_cons, List.all_nil, e1.pl a.1 m (by omega), e2.pl a.2.1 m (by omega), e3.pl a.2.2 m (by omega), Bool.and_self]
  · simp only [PyData.eqv, PyData.eqvAll, e1.eq, e2.eq, e3.eq, Bool.and_true]
    rw [Bool.eq_iff_iff]
    simp [Prod.ext_iff]
  · simp only [PySem.W.alike, PySem.W.alikeAll, e1.al, e2.al, e3.al, Bool.and_self]
  · simp only [PyData.tuple.injEq, List.cons.injEq, and_true] at e
    exact Prod.ext (e1.inj _ _ e.1) (Prod.ext (e2.inj _ _ e.2.1) (e3.inj _ _ e.2.2))
theorem enc_4 (e1 : Enc n f) (e2 : Enc n g) (e3 : Enc n h) (e4 : Enc n k) : Enc (n + 1) fun p : α × β × γ × δ => .tuple [f p.1, g p.2.1, h p.2.2.1, k p.2.2.2] := by
  refine ⟨fun a m hm => ?_, fun a b => ?_, fun a b => ?_, fun a b e => ?_⟩
  · obtain ⟨m, rfl⟩ : ∃ k, m = k + 1 := ⟨m - 1, by omega⟩
    simp only [LC.pl, List.all_cons, List.all_nil, e1.pl a.1 m (by omega), e2.pl a.2.1 m (by omega), e3.pl a.2.2.1 m (by omega), e4.pl a.2.2.2 m (by omega), Bool.and_self]
  · simp only [PyData.eqv, PyData.eqvAll, e1.eq, e2.eq, e3.eq, e4.eq, Bool.and_true]
    rw [Bool.eq_iff_iff]
    simp [Prod.ext_iff]
  · simp only [PySem.W.alike, PySem.W.alikeAll, e1.al, e2.al, e3.al, e4.al, Bool.and_self]
  · simp only [PyData.tuple.injEq, List.cons.injEq, and_true] at e
    exact Prod.ext (e1.inj _ _ e.1) (Prod.ext (e2.inj _ _ e.2.1) (Prod.ext (e3.inj _ _ e.2.2.1) (e4.inj _ _ e.2.2.2)))
theorem eqv_all (e : Enc n f) : ∀ xs ys : List α, PyData.eqvAll (xs.map f) (ys.map f) = decide (xs = ys)
  | [], [] => by simp [PyData.eqvAll]
  | [], y :: ys => by simp [PyData.eqvAll]
  | x :: xs, [] => by simp [PyData.eqvAll]
  | x :: xs, y :: ys => by
    simp only [List.map_cons, PyData.eqvAll, e.eq, eqv_all e xs ys]
    rw [Bool.eq_iff_iff]; simp
theorem alike_all (e : Enc n f) : ∀ xs ys : List α, PySem.W.alikeAll (xs.map f) (ys.map f) = true
  | [], [] => by simp [PySem.W.alikeAll]
  | [], y :: ys => by simp [PySem.W.alikeAll]
  | x :: xs, [] => by simp [PySem.W.alikeAll]
  | x :: xs, y :: ys => by simp only [List.map_cons, PySem.W.alikeAll, e.al, alike_all e xs ys, Bool.and_self]
theorem map_inj (e : Enc n f) : ∀ xs ys : List α, xs.map f = ys.map f → xs = ys
  | [], [], _ => rfl
  | [], y :: ys, h => by simp at h
  | x :: xs, [], h => by simp at h
  | x :: xs, y :: ys, h => by
    simp only [List.map_cons, List.cons.injEq] at h
    rw [e.inj _ _ h.1, map_inj e xs ys h.2]
theorem enc_tup (e : Enc n f) : Enc (n + 1) fun l : List α => .tuple (l.map f) := by
  refine ⟨fun a m hm => ?_, fun a b => ?_, fun a b => ?_, fun a b h => ?_⟩
  · obtain ⟨m, rfl⟩ : ∃ k, m = k + 1 := ⟨m - 1, by omega⟩
    simp only [LC.pl, List.all_map, List.all_eq_true]
    exact fun x _ => e.pl x m (by omega)
  · simp only [PyData.eqv]; exact eqv_all e a b
  · simp only [PySem.W.alike]; exact alike_all e a b
  · simp only [PyData.tuple.injEq] at h; exact map_inj e a b h
theorem enc_lst (e : Enc n f) : Enc (n + 1) fun l : List α => .list (l.map f) := by
  refine ⟨fun a m hm => ?_, fun a b => ?_, fun a b => ?_, fun a b h => ?_⟩
  · obtain ⟨m, rfl⟩ : ∃ k, m = k + 1 := ⟨m - 1, by omega⟩
    simp only [LC.pl, List.all_map, List.all_eq_true]
    exact fun x _ => e.pl x m (by omega)
  · simp only [PyData.eqv]; exact eqv_all e a b
  · simp only [PySem.W.alike]; exact alike_all e a b
  · simp only [PyData.list.injEq] at h; exact map_inj e a b h
theorem any_eqv (e : Enc n f) (a : α) : ∀ l : List α, ((l.map f).any fun z => PyData.eqv z (f a)) = decide (a ∈ l)
  | [] => by simp
  | x :: l => by
    simp only [List.map_cons, List.any_cons, e.eq, any_eqv e a l]
    rw [Bool.eq_iff_iff]
    simp only [List.mem_cons, Bool.or_eq_true, decide_eq_true_eq]
    exact or_congr_left eq_comm
theorem inB_tup (e : Enc n f) (a : α) (l : List α) : inB false (f a) (.tuple (l.map f)) = decide (a ∈ l) := any_eqv e a l
theorem inB_lst (e : Enc n f) (a : α) (l : List α) : inB false (f a) (.list (l.map f)) = decide (a ∈ l) := any_eqv e a l
theorem ninB_tup (e : Enc n f) (a : α) (l : List α) : inB true (f a) (.tuple (l.map f)) = !decide (a ∈ l) := congrArg not (any_eqv e a l)
theorem ninB_lst (e : Enc n f) (a : α) (l : List α) : inB true (f a) (.list (l.map f)) = !decide (a ∈ l) := congrArg not (any_eqv e a l)
end
theorem enc_X : Enc 1 eX := enc_2 enc_int enc_int
theorem enc_T : Enc 1 eT := enc_3 enc_int enc_int enc_int
theorem enc_B : Enc 1 eB := enc_4 enc_int enc_int enc_int enc_int
theorem enc_G : Enc 1 eG := enc_tup enc_int
/-- a lean: who pushes and who is leaned upon -/
def eL (l : Xg × Xg) : D := .tuple [eX l.1, eX l.2]
/-- an exchange at a phase (or a tick) -/
def eN (l : Xg × Int) : D := .tuple [eX l.1, eI l.2]
theorem enc_L : Enc 2 eL := enc_2 enc_X enc_X
theorem enc_N : Enc 2 eN := enc_2 enc_X (enc_int.mono (Nat.zero_le 1))

/-! ### order -/
theorem dataLt_ints (xs ys : List Int) : PySem.W.dataLt (eG xs) (eG ys) = lexB xs ys := by
  unfold eG
  rw [PySem.W.dataLt_tuple]
  induction xs generalizing ys with
  | nil =>
    cases ys with
    | nil => decide +kernel
    | cons y ys =>
      simp only [List.map_nil, List.map_cons, lexB]
      rw [PySem.W.keyToksAll, PySem.W.keyToksAll]
      rfl
  | cons x xs ih =>
    cases ys with
    | nil =>
      simp only [List.map_nil, List.map_cons, lexB]
      rw [PySem.W.keyToksAll, PySem.W.keyToksAll]
      rfl
    | cons y ys =>
      have ha : PySem.W.alike (eI x) (eI y) = true := enc_int.al x y
      simp only [List.map_cons, lexB]
      by_cases h : x = y
      · subst h
        rw [PySem.W.dataLt_all_yes ha (by rw [enc_int.eq]; simp), ih ys]
        simp
      · rw [PySem.W.dataLt_all_no ha (by rw [enc_int.eq]; simp [h])]
        show PySem.W.dataLt (.int x) (.int y) = _
        rw [PySem.W.dataLt_int]
        simp [h]

/-! ### places -/
theorem atI_nn {α : Type} {l : List α} {i : Int} (h0 : 0 ≤ i) (h1 : i < l.length) : atI l i = l[i.toNat]? := by
  unfold atI ixN
  rw [if_pos h0, if_pos h1]; rfl
theorem at_map {α : Type} {l : List α} {f : α → D} {i : Int} {d : α} (h0 : 0 ≤ i) (h1 : i < l.length) : atI (l.map f) i = some (f (l.getD i.toNat d)) := by
  rw [atI_nn h0 (by rw [List.length_map]; exact h1), List.getElem?_map]
  have h2 : i.toNat < l.length := by omega
  rw [List.getElem?_eq_getElem h2, getD_at h2]; rfl
theorem Clock.Ok.at_ed {c : Clock} {w : Int} (hw : c.whl w) : atI (c.ed.map eI) w = some (.int (c.edOf w)) := at_map hw.1 hw.2
theorem Clock.Ok.at_ga {c : Clock} {w : Int} (ok : c.Ok) (hw : c.whl w) : atI (c.ga.map eG) w = some (eG (c.gaOf w)) := at_map hw.1 (by rw [ok.gaL]; exact hw.2)
section
variable {X : Cx} {Wl : Wild} {ρ : Env'} {pos p1 p2 : Pos} {Q : R → Prop} {x : Expr}
/-- clock[0] .. clock[4] -/
theorem we_at {j : Nat} {n : Nat} {ds : List D} {d : D} (h : WE X Wl ρ x fun r => r = .val (.tuple ds)) (hd : ds[j]? = some d) (hq : Q (.val d)) : WE X Wl ρ (.Subscript x (.Constant (.int (j : Int)) n p1) p2) Q := by
  refine we_ix (h.mono fun r e => ?_)
  subst e
  refine we_int ⟨d, ?_, hq⟩
  have := (List.getElem?_eq_some_iff.mp hd).1
  rw [atI_nn (by omega) (by omega)]
  simpa using hd
end
end LC
/-! Comprehensions that map and filter a typed list. -/
namespace LC
open PySem L2 PySem.Spec PyProof.Rows
theorem hu_of {k : Nat} {A : Around} (r : Room k A) : A.units + 100 < cLine := by have := r.un; omega
section
variable {X : Cx} {Wl : Wild} {ρ : Env'} {Φ : Wish} {elt tg iter tg1 iter1 : Expr} {ifs ifs1 : List Expr} {pos : Pos} {js js1 : List Nat} {scope : Scope} {α β : Type}
/-- a turn that keeps a or not, and makes val a of it -/
def Maps (X : Cx) (Wl : Wild) (scope : Scope) (ρ : Env') (elt : Expr) (ifs : List Expr) (keep : Bool) (val : D) : Prop :=
  Blk X scope fun X' => WF X' Wl ρ ifs fun b => b = keep ∧ (keep = true → Blk X scope fun X' => WE X' Wl ρ elt (valK fun y => y = val))
theorem Maps.turns {keep : Bool} {val : D} {acc : List D} {K : List D → Prop} (h : Maps X Wl scope ρ elt ifs keep val) (hl : acc.length < sizeLine) (hk : K (if keep = true then acc ++ [val] else acc)) : Turns X Wl scope ρ elt ifs acc K := by
  intro s H C cl fp F0 H0 σ C0 ha hs hc
  refine h s H C cl fp F0 H0 σ C0 ha hs fun b F' H' ⟨e, q⟩ g => hc b F' H' ⟨fun hb => ?_, fun hb => ?_⟩ g
  · subst e
    rw [if_pos hb] at hk
    intro s' H' C' cl' fp'
    exact (q hb s' H' C' cl' fp').mono fun r hr => by
      match r, hr with
      | .val d, hr => exact ⟨hl, by rw [show d = val from hr]; exact hk⟩
  · subst e
    rw [hb] at hk
    simpa using hk
theorem maps_keep {val : D} (h : Blk X scope fun X' => WE X' Wl ρ elt (valK fun y => y = val)) : Maps X Wl scope ρ elt [] true val := fun s H C cl fp => wf_nil ⟨rfl, fun _ => h⟩
theorem maps_if {c : Expr} {keep : Bool} {val : D} (h : Blk X scope fun X' => WT X' Wl ρ c fun b => b = keep) (h2 : keep = true → Blk X scope fun X' => WE X' Wl ρ elt (valK fun y => y = val)) : Maps X Wl scope ρ elt [c] keep val :=
  fun s H C cl fp => wf_one fun F0 H0 σ C0 ha hs hc => h s H C cl fp F0 H0 σ C0 ha hs fun b F' H' e g => hc b F' H' ⟨e, h2⟩ g
/-- what is so far made of xs -/
def soFar (xs : List α) (keep : α → Bool) (val : α → D) (i : Nat) : List D := ((xs.take i).filter keep).map val
theorem soFar_step {xs : List α} {keep : α → Bool} {val : α → D} {i : Nat} {a : α} (h : xs[i]? = some a) : soFar xs keep val (i + 1) = if keep a = true then soFar xs keep val i ++ [val a] else soFar xs keep val i := by
  unfold soFar
  have e : xs.take (i + 1) = xs.take i ++ [a] := by rw [List.take_succ, h]; rfl
  rw [e, List.filter_append, List.map_append]
  by_cases k : keep a = true
  · simp [k]
  · simp [k]
theorem soFar_le {xs : List α} {keep : α → Bool} {val : α → D} {i : Nat} : (soFar xs keep val i).length ≤ i := by
  unfold soFar
  rw [List.length_map]
  exact Nat.le_trans (List.length_filter_le ..) (by rw [List.length_take]; omega)
theorem lcM_core {f : α → D} {vs : List Nat} (xs : List α) (keep : α → Bool) (val : α → D) {Q : List D → Prop} (hz : xs.length ≤ sizeLine) (hi : WI X Wl ρ tg iter fun ds => ds = xs.map f)
    (hs : ∀ a ∈ xs, Blk X scope fun X' => WG X' Wl js (wipeR ρ vs) tg (f a) fun ρ2 => Maps X Wl scope ρ2 elt ifs (keep a) (val a)) (hq : Q ((xs.filter keep).map val)) :
    WI X Wl ρ tg iter fun ds => ∃ P : Nat → List D → Prop, P 0 [] ∧ (∀ i d acc, ds[i]? = some d → P i acc → Blk X scope fun X' => WG X' Wl js (wipeR ρ vs) tg d fun ρ2 => Turns X Wl scope ρ2 elt ifs acc (P (i + 1))) ∧ ∀ acc, P ds.length acc → Q acc := by
  intro F H σ R ha hsl hc
  refine hi F H σ R ha hsl fun ds J F' H' e g wk => hc ds J F' H' ?_ g wk
  subst e
  refine ⟨fun i acc => acc = soFar xs keep val i, rfl, fun i d acc e p => ?_, fun acc p => ?_⟩
  · subst p
    rw [List.getElem?_map] at e
    obtain ⟨a, ea, rfl⟩ := Option.map_eq_some_iff.mp e
    have hl := (List.getElem?_eq_some_iff.mp ea).1
    intro s H0 C cl fp F0 H1 σ0 v C0 ha0 hs0 hr0 hc0
    exact hs a (List.mem_of_getElem? ea) s H0 C cl fp F0 H1 σ0 v C0 ha0 hs0 hr0 fun ρ' σ' k o => hc0 ρ' σ' (k.turns (Nat.lt_of_le_of_lt soFar_le (by omega)) (soFar_step ea).symm) o
  · subst p
    rw [List.length_map]
    show Q (((xs.take xs.length).filter keep).map val)
    rw [List.take_length]; exact hq
theorem wn_lcM {f : α → D} {own : List (Str × Nat)} {Q : D → Prop} (xs : List α) (keep : α → Bool) (val : α → D) (hcm : X.calm = true) (hN : X.N.Nodup) (ok : BlkOk X.N X.env.scope scope own) (hj : ∀ j ∈ js, j ∈ own.map (·.2)) (hz : xs.length ≤ sizeLine)
    (hi : WI X Wl ρ tg iter fun ds => ds = xs.map f) (hs : ∀ a ∈ xs, Blk X scope fun X' => WG X' Wl js (wipeR ρ (own.map (·.2))) tg (f a) fun ρ2 => Maps X Wl scope ρ2 elt ifs (keep a) (val a)) (hq : Q (.list ((xs.filter keep).map val)))
    (hf : ∀ x, foldedSetIterable iter X.env x = pure x := by intro _; rfl) : WN X Wl ρ (.ListComp elt [⟨tg, iter, ifs, 0⟩] scope pos) Q :=
  wn_lc hcm hN ok hj (lcM_core (Q := fun l => Q (.list l)) xs keep val hz hi hs hq) hf
theorem ws_setLcM {f : α → D} (i : Nat) {y : Str} {py spos : Pos} {own : List (Str × Nat)} (xs : List α) (keep : α → Bool) (val : α → D) (hcm : X.calm = true) (hN : X.N.Nodup) (ok : BlkOk X.N X.env.scope scope own) (hj : ∀ j ∈ js, j ∈ own.map (·.2)) (hz : xs.length ≤ sizeLine)
    (hi : WI X Wl ρ tg iter fun ds => ds = xs.map f) (hs : ∀ a ∈ xs, Blk X scope fun X' => WG X' Wl js (wipeR ρ (own.map (·.2))) tg (f a) fun ρ2 => Maps X Wl scope ρ2 elt ifs (keep a) (val a)) (hq : Φ.nx (ρ.set i (some (.own (.list ((xs.filter keep).map val))))))
    (hsw : swapsWith (.ListComp elt [⟨tg, iter, ifs, 0⟩] scope pos) (some (.Name y py)) spos.line X.env = pure true) (hy : X.N[i]? = some y := by rfl) (hyl : X.env.scope.names.lookup y = some .local := by rfl)
    (hf : ∀ x, foldedSetIterable iter X.env x = pure x := by intro _; rfl) : WS X Wl ρ (.Assign [.Name y py] (.ListComp elt [⟨tg, iter, ifs, 0⟩] scope pos) spos) Φ :=
  ws_setLc i hcm hN ok hj (lcM_core (Q := fun l => Φ.nx (ρ.set i (some (.own (.list l))))) xs keep val hz hi hs hq) hsw hy hyl hf
/-! two clauses -/
theorem wn_lc2M {f : α → D} {f1 : β → D} {own : List (Str × Nat)} {vs1 : List Nat} {Q : D → Prop} (xs : List α) (ys : α → List β) (keep : α → β → Bool) (val : α → β → D) (hcm : X.calm = true) (hN : X.N.Nodup) (ok : BlkOk X.N X.env.scope scope own) (hv : ∀ i ∈ vs1, i ∈ own.map (·.2))
    (hj : ∀ j ∈ js, j ∈ own.map (·.2)) (hj1 : ∀ j ∈ js1, j ∈ vs1) (hz : (xs.flatMap ys).length ≤ sizeLine) (hi : WI X Wl ρ tg iter fun ds => ds = xs.map f)
    (hs : ∀ a ∈ xs, Blk X scope fun X' => WG X' Wl js (wipeR ρ (own.map (·.2))) tg (f a) fun ρ2 => Blk X scope fun X' => WI X' Wl ρ2 tg1 iter1 fun ds1 => ds1 = (ys a).map f1 ∧ ∀ b ∈ ys a, Blk X scope fun X' => WG X' Wl js1 (wipeR ρ2 vs1) tg1 (f1 b) fun ρ3 => Maps X Wl scope ρ3 elt ifs1 (keep a b) (val a b))
    (hq : Q (.list (xs.flatMap fun a => ((ys a).filter (keep a)).map (val a))))
    (hf : ∀ x, foldedSetIterable iter X.env x = pure x := by intro _; rfl) (hf1 : ∀ env x, foldedSetIterable iter1 env x = pure x := by intro _ _; rfl) : WN X Wl ρ (.ListComp elt [⟨tg, iter, [], 0⟩, ⟨tg1, iter1, ifs1, 0⟩] scope pos) Q := by
  refine wn_lc2 hcm hN ok hv hj hj1 ?_ hf hf1
  intro F H σ R ha hsl hc
  refine hi F H σ R ha hsl fun ds J F' H' e g wk => hc ds J F' H' ?_ g wk
  subst e
  have szl : ∀ i, ((xs.take i).flatMap ys).length ≤ sizeLine := fun i => by
    refine Nat.le_trans ?_ hz
    have e : xs.flatMap ys = (xs.take i).flatMap ys ++ (xs.drop i).flatMap ys := by rw [← List.flatMap_append, List.take_append_drop]
    rw [e, List.length_append]; omega
  refine ⟨fun i acc => acc = (xs.take i).flatMap (fun a => ((ys a).filter (keep a)).map (val a)) ∧ acc.length ≤ ((xs.take i).flatMap ys).length, ⟨rfl, Nat.zero_le _⟩, fun i d acc e p => ?_, fun acc p => ?_⟩
  · obtain ⟨p, pl⟩ := p
    rw [List.getElem?_map] at e
    obtain ⟨a, ea, rfl⟩ := Option.map_eq_some_iff.mp e
    have et : xs.take (i + 1) = xs.take i ++ [a] := by rw [List.take_succ, ea]; rfl
    intro s H0 C cl fp F0 H1 σ0 v C0 ha0 hs0 hr0 hc0
    refine hs a (List.mem_of_getElem? ea) s H0 C cl fp F0 H1 σ0 v C0 ha0 hs0 hr0 fun ρ' σ' k o => hc0 ρ' σ' ?_ o
    intro s1 H1 C1 cl1 fp1
    refine wf_nil ⟨fun z => (Bool.noConfusion z), fun _ => ?_⟩
    intro s2 H2 C2 cl2 fp2 F3 H3 σ3 R3 ha3 hs3 hc3
    refine k s2 H2 C2 cl2 fp2 F3 H3 σ3 R3 ha3 hs3 fun ds1 J1 F4 H4 ⟨e1, hb⟩ g4 wk4 => hc3 ds1 J1 F4 H4 ?_ g4 wk4
    subst e1
    refine ⟨fun i1 acc1 => acc1 = acc ++ soFar (ys a) (keep a) (val a) i1, by show acc = acc ++ []; rw [List.append_nil], fun i1 d1 acc1 e1 p1 => ?_, fun acc1 p1 => ?_⟩
    · subst p1
      rw [List.getElem?_map] at e1
      obtain ⟨b, eb, rfl⟩ := Option.map_eq_some_iff.mp e1
      have hlb := (List.getElem?_eq_some_iff.mp eb).1
      intro s5 H5 C5 cl5 fp5 F6 H6 σ6 v6 C6 ha6 hs6 hr6 hc6
      refine hb b (List.mem_of_getElem? eb) s5 H5 C5 cl5 fp5 F6 H6 σ6 v6 C6 ha6 hs6 hr6 fun ρ7 σ7 k7 o7 => hc6 ρ7 σ7 (k7.turns ?_ ?_) o7
      · have h1 := szl (i + 1)
        rw [et, List.flatMap_append, List.length_append] at h1
        have h2 : ([a].flatMap ys).length = (ys a).length := by simp
        have h3 : (soFar (ys a) (keep a) (val a) i1).length ≤ i1 := soFar_le
        rw [List.length_append]
        omega
      · show _ = acc ++ soFar (ys a) (keep a) (val a) (i1 + 1)
        rw [soFar_step eb]
        split <;> simp
    · subst p1
      rw [List.length_map]
      have e3 : soFar (ys a) (keep a) (val a) (ys a).length = ((ys a).filter (keep a)).map (val a) := by unfold soFar; rw [List.take_length]
      rw [e3, et, List.flatMap_append, List.flatMap_append, List.length_append, List.length_append, p]
      have e4 : [a].flatMap (fun a => ((ys a).filter (keep a)).map (val a)) = ((ys a).filter (keep a)).map (val a) := by simp
      have e5 : [a].flatMap ys = ys a := by simp
      refine ⟨by rw [e4], ?_⟩
      rw [e5, ← p, List.length_map]
      have := List.length_filter_le (keep a) (ys a)
      omega
  · obtain ⟨rfl, _⟩ := p
    rw [List.length_map, List.take_length]
    exact hq
end
end LC
/-! The walks of the defs that count and look up. -/
namespace LC
open PySem L2 PySem.Spec PyProof.Rows
section
variable {P : Program} {w : World} {K : PySem.W.Frag} {mg : Str → Option Value} {base : Heap} {W0 : Wild}
/-- a def keeps g, where its body does (no defaults) -/
theorem can_body {x : Str} {st : Stmt} (DA : DefAt K mg x st) {N ps : List Str} {k : Nat} {g : Con} (S : FnScope N ps (defScope st))
    (hb : ∀ (kV doc pm : Value) (an : Option Addr) (cdv ct : Value) (us : List Value), us.length = ps.length → bindArgs (PySem.W.fnOf x x (defArgs st) (defBody st) (defScope st) .none kV doc pm an cdv ct) ⟨us, []⟩ = pure (ps.zip us))
    (h : ∀ (f : Addr) (cdv : Value) (A : Around) (outer : List Env) (s : Shared) (H : Hp) (E : XK) (Wl : Wild) (rs : List R) (C : D → Prop), Room k (A.deeper (envOfC x (defScope st) s.heap.objs.size f cdv)) → Incl W0 Wl → g rs C →
      WSs (frame P w K mg base N x (defScope st) f cdv A outer s H E) Wl (startR N rs) (defBody st) { nx := fun _ => C .none, rt := C }) : Can P w K mg base W0 (k + 1) x ps.length g [] := by
  obtain ⟨f, fd, F, hm⟩ := DA.ex
  exact can_of F hm S ⟨[], .nil, F.bindsN hb⟩ (fun _ => .nil) fun f cdv A outer s H E Wl rs C hr hW _ _ hg => h f cdv A outer s H E Wl rs C hr hW hg

def gGap : Con := fun rs C => ∃ (c : Clock) (w t : Int), c.Ok ∧ c.whl w ∧ rs = [.val c.enc, .val (.int w), .val (.int t)] ∧ C (.int (gapFrom c w t))
theorem can_gap_from (B : Bd K mg) : Can P w K mg base W0 1 "gap_from" 3 gGap [] := by
  refine can_body (N := ["clock", "wheel", "tick", "found"]) (ps := ["clock", "wheel", "tick"]) B.gap_from ⟨rfl, rfl, rfl, by decide +kernel, rfl, by decide +kernel, by decide +kernel⟩ (fun _ _ _ _ _ _ us hl => match us, hl with | [_, _, _], _ => rfl) ?_
  intro f cdv A outer s H E Wl rs C hr hW ⟨c, w, t, ok, hw, e, hC⟩
  subst e
  have hN : (["clock", "wheel", "tick", "found"] : List Str).Nodup := by decide +kernel
  have hu := hu_of hr
  obtain ⟨g1, g2, g3, g4⟩ := gap_spec ok hw t
  refine wss_cons ?_
  refine ws_asg 3 (we_var 2 rfl ?_) hN
  refine wss_cons ?_
  refine ws_while (by passes_own) (fun m ρ => ∃ f, ρ = [some (.val c.enc), some (.val (.int w)), some (.val (.int t)), some (.val (.int f))] ∧ t ≤ f ∧ f ≤ gapFrom c w t ∧ m = (gapFrom c w t - f).toNat) _ ⟨t, rfl, Int.le_refl _, g1, rfl⟩ ?_
  rintro m ρ ⟨f, rfl, f1, f2, rfl⟩
  refine wt_notin hu (we_mod (we_var 3 rfl (we_at (j := 0) (we_var 0 rfl rfl) rfl ⟨ok.p1, ?_⟩)))
  refine we_ix (we_at (j := 3) (we_var 0 rfl rfl) rfl (we_var 1 rfl ⟨_, ok.at_ga hw, ?_⟩))
  refine ⟨rfl, enc_G.pl _ _ (by decide), rfl, ?_⟩
  show (inB true (eI (f % c.P)) (.tuple ((c.gaOf w).map eI)) = true → _) ∧ (inB true (eI (f % c.P)) (.tuple ((c.gaOf w).map eI)) = false → _)
  rw [ninB_tup enc_int]
  refine ⟨fun q => ?_, fun q => ?_⟩
  · have q : f % c.P ∉ c.gaOf w := by simpa using q
    have : f ≠ gapFrom c w t := fun e => q (e ▸ g3)
    refine wss_one (ws_aug ip_add 3 rfl (we_int ⟨_, ?_, f + 1, rfl, by omega, by omega, rfl⟩) hN)
    omega
  · have q : f % c.P ∈ c.gaOf w := by simpa using q
    have : f = gapFrom c w t := by
      by_cases z : f < gapFrom c w t
      · exact absurd q (g4 f f1 z)
      · omega
    subst this
    exact wss_one (ws_ret (we_var 3 rfl hC))

def gNum : Con := fun rs C => ∃ v lo hi : Int, rs = [.val (.int v), .val (.int lo), .val (.int hi)] ∧ C (.bool (decide (lo ≤ v ∧ v ≤ hi)))
theorem can_is_number (B : Bd K mg) : Can P w K mg base W0 1 "is_number" 3 gNum [] := by
  refine can_body (N := ["value", "low", "high"]) (ps := ["value", "low", "high"]) B.is_number ⟨rfl, rfl, rfl, by decide +kernel, rfl, by decide +kernel, by decide +kernel⟩ (fun _ _ _ _ _ _ us hl => match us, hl with | [_, _, _], _ => rfl) ?_
  intro f cdv A outer s H E Wl rs C hr hW ⟨v, lo, hi, e, hC⟩
  subst e
  refine wss_one ?_
  refine ws_ret ?_
  refine we_and (we_isInt B.bare (we_var 0 rfl ⟨trivial, fun _ => ?_, fun z => Bool.noConfusion z⟩))
  refine we_and (we_not (we_isBool B.bare (we_var 0 rfl ⟨trivial, fun _ => ?_, fun z => Bool.noConfusion z⟩)))
  refine we_one (we_le_le (we_var 1 rfl (we_var 0 rfl ⟨fun h1 => we_var 2 rfl ?_, fun h1 => ?_⟩)))
  · have h1 : lo ≤ v := of_decide_eq_true h1
    have e : decide (lo ≤ v ∧ v ≤ hi) = decide (v ≤ hi) := by simp [h1]
    rw [e] at hC
    exact hC
  · have h1 : ¬ lo ≤ v := of_decide_eq_false h1
    have e : decide (lo ≤ v ∧ v ≤ hi) = false := by simp [h1]
    rw [e] at hC
    exact hC

theorem min_is (i j : Int) : (if j < i then j else i) = min i j := by
  rw [Int.min_def]; split <;> split <;> omega
theorem max_is (i j : Int) : (if j > i then j else i) = max i j := by
  rw [Int.max_def]; split <;> split <;> omega
def gPhases : Con := fun rs C => ∃ (c : Clock) (i j : Int), c.Ok ∧ rs = [.val c.enc, .val (.int i), .val (.int j)] ∧ C (.list ((phasesOf c i j).map eI))
theorem can_phases_of (B : Bd K mg) : Can P w K mg base W0 1 "phases_of" 3 gPhases [] := by
  refine can_body (N := ["clock", "one", "other", "pair", "touch"]) (ps := ["clock", "one", "other"]) B.phases_of ⟨rfl, rfl, rfl, by decide +kernel, rfl, by decide +kernel, by decide +kernel⟩ (fun _ _ _ _ _ _ us hl => match us, hl with | [_, _, _], _ => rfl) ?_
  intro f cdv A outer s H E Wl rs C hr hW ⟨c, i, j, ok, e, hC⟩
  subst e
  have hN : (["clock", "one", "other", "pair", "touch"] : List Str).Nodup := by decide +kernel
  have hu := hu_of hr
  refine wss_cons ?_
  refine ws_asg 3 (we_tup (wa_cons (we_min2 B.bare (wa_cons (we_var 1 rfl (wa_cons (we_var 2 rfl (wa_nil ?_))))))) ) hN
  refine wa_cons (we_max2 B.bare (wa_cons (we_var 1 rfl (wa_cons (we_var 2 rfl (wa_nil (wa_nil ⟨(show 2 ≤ sizeLine by decide), ?_⟩)))))))
  show WSs _ _ [some (.val c.enc), some (.val (.int i)), some (.val (.int j)), some (.val (.tuple [.int (if j < i then j else i), .int (if j > i then j else i)])), none] _ _
  rw [min_is, max_is]
  refine wss_one ?_
  refine ws_ret (WN.we (wn_lcM (f := eT) (own := [("touch", 4)]) (js := [4]) c.to (fun t => decide (t.2 = (min i j, max i j))) (fun t => .int t.1) rfl hN (blkOk_by (N := ["clock", "one", "other", "pair", "touch"]) (sc := defScope s_phases_of) (by decide +kernel)) (by decide) (Nat.le_trans ok.toL (by decide)) (wi_tup (we_at (j := 2) (we_var 0 rfl rfl) rfl rfl)) (fun t ht => ?_) ?_))
  · intro _ _ _ _ _
    refine wg_name 4 (maps_if ?_ ?_) hN
    · intro _ _ _ _ _
      refine wt_eq hu (we_sl10 (we_var 4 rfl (we_int (we_var 3 rfl ⟨rfl, rfl, ?_⟩))))
      exact enc_X.eq t.2 (min i j, max i j)
    · intro _ _ _ _ _ _
      exact we_at (j := 0) (we_var 4 rfl rfl) rfl rfl
  · have e : (c.to.filter fun t => decide (t.2 = (min i j, max i j))).map (fun t => PyData.int t.1) = (phasesOf c i j).map eI := by unfold phasesOf; rw [List.map_map]; rfl
    show C (.list _)
    rw [e]; exact hC
end
end LC
/-! The walks of the pushes and of what fits. -/
namespace LC
open PySem L2 PySem.Spec PyProof.Rows
section
variable {P : Program} {w : World} {K : PySem.W.Frag} {mg : Str → Option Value} {base : Heap} {W0 : Wild}
def gAbove : Con := fun rs C => ∃ (c : Clock) (i j t : Int), c.Ok ∧ phasesOf c i j ≠ [] ∧ rs = [.val c.enc, .val (.int i), .val (.int j), .val (.int t)] ∧ C (.int (above c i j t))
theorem can_above_touches (B : Bd K mg) : Can P w K mg base W0 2 "above_touches" 4 gAbove [] := by
  refine can_body (N := ["clock", "one", "other", "tick", "phases", "found"]) (ps := ["clock", "one", "other", "tick"]) B.above_touches ⟨rfl, rfl, rfl, by decide +kernel, rfl, by decide +kernel, by decide +kernel⟩ (fun _ _ _ _ _ _ us hl => match us, hl with | [_, _, _, _], _ => rfl) ?_
  intro f cdv A outer s H E Wl rs C hr hW ⟨c, i, j, t, ok, hp, e, hC⟩
  subst e
  have hN : (["clock", "one", "other", "tick", "phases", "found"] : List Str).Nodup := by decide +kernel
  have hu := hu_of hr
  obtain ⟨g1, g2, g3, g4⟩ := above_spec ok hp t
  refine wss_cons ?_
  refine ws_asg 4 (we_call (can_phases_of B) hr (by decide) hW (wa_cons (we_var 0 rfl (wa_cons (we_var 1 rfl (wa_cons (we_var 2 rfl (wa_nil ⟨rfl, rfl, c, i, j, ok, rfl, ?_⟩)))))))) hN
  refine wss_cons ?_
  refine ws_asg 5 (we_var 3 rfl ?_) hN
  refine wss_cons ?_
  refine ws_while (by passes_own) (fun m ρ => ∃ f, ρ = [some (.val c.enc), some (.val (.int i)), some (.val (.int j)), some (.val (.int t)), some (.val (.list ((phasesOf c i j).map eI))), some (.val (.int f))] ∧ above c i j t ≤ f ∧ f ≤ t ∧ m = (f - above c i j t).toNat) _ ⟨t, rfl, g1, Int.le_refl _, rfl⟩ ?_
  rintro m ρ ⟨f, rfl, f1, f2, rfl⟩
  refine wt_notin hu (we_mod (we_sub (we_var 5 rfl (we_int ?_))))
  refine we_at (j := 0) (we_var 0 rfl rfl) rfl ⟨ok.p1, we_var 4 rfl ⟨rfl, (enc_lst enc_int).pl _ _ (by decide), rfl, ?_⟩⟩
  show (inB true (eI ((f - 1) % c.P)) (.list ((phasesOf c i j).map eI)) = true → _) ∧ (inB true (eI ((f - 1) % c.P)) (.list ((phasesOf c i j).map eI)) = false → _)
  rw [ninB_lst enc_int]
  refine ⟨fun q => ?_, fun q => ?_⟩
  · have q : (f - 1) % c.P ∉ phasesOf c i j := by simpa using q
    have : f ≠ above c i j t := fun e => q (e ▸ g3)
    refine wss_one (ws_aug ip_sub 5 rfl (we_int ⟨_, ?_, f - 1, rfl, by omega, by omega, rfl⟩) hN)
    omega
  · have q : (f - 1) % c.P ∈ phasesOf c i j := by simpa using q
    have : f = above c i j t := by
      by_cases z : above c i j t < f
      · exact absurd q (g4 (f - 1) (by omega) (by omega))
      · omega
    subst this
    exact wss_one (ws_ret (we_var 5 rfl hC))

def gPush : Con := fun rs C => ∃ (c : Clock) (one other : Xg) (t : Int), c.Ok ∧ c.whl one.1 ∧ (one.1 ≠ other.1 → phasesOf c one.1 other.1 ≠ []) ∧ rs = [.val c.enc, .val (eX one), .val (eX other), .val (.int t)] ∧ C (.int (pushed c one other t))
theorem can_pushed (B : Bd K mg) : Can P w K mg base W0 3 "pushed" 4 gPush [] := by
  refine can_body (N := ["clock", "exchange", "other", "tick"]) (ps := ["clock", "exchange", "other", "tick"]) B.pushed ⟨rfl, rfl, rfl, by decide +kernel, rfl, by decide +kernel, by decide +kernel⟩ (fun _ _ _ _ _ _ us hl => match us, hl with | [_, _, _, _], _ => rfl) ?_
  intro f cdv A outer s H E Wl rs C hr hW ⟨c, one, other, t, ok, hw, hp, e, hC⟩
  subst e
  have hN : (["clock", "exchange", "other", "tick"] : List Str).Nodup := by decide +kernel
  have hu := hu_of hr
  unfold pushed at hC
  refine wss_cons ?_
  refine ws_if (wt_eq hu (we_at (j := 0) (we_var 1 rfl rfl) rfl (we_at (j := 0) (we_var 2 rfl rfl) rfl ⟨rfl, rfl, ?_⟩)))
  show (PyData.eqv (eI one.1) (eI other.1) = true → _) ∧ (PyData.eqv (eI one.1) (eI other.1) = false → _)
  rw [enc_int.eq]
  refine ⟨fun q => ?_, fun q => ?_⟩
  · have q : one.1 = other.1 := of_decide_eq_true q
    rw [if_pos q] at hC
    exact wss_one (ws_ret (we_call (can_gap_from B) hr (by decide) hW (wa_cons (we_var 0 rfl (wa_cons (we_at (j := 0) (we_var 1 rfl rfl) rfl (wa_cons (we_add (we_var 3 rfl (we_int (wa_nil ⟨rfl, rfl, c, one.1, t + 1, ok, hw, rfl, hC⟩)))))))))))
  · have q : one.1 ≠ other.1 := of_decide_eq_false q
    rw [if_neg q] at hC
    refine wss_nil (wss_one (ws_ret (we_call (can_gap_from B) hr (by decide) hW (wa_cons (we_var 0 rfl (wa_cons (we_at (j := 0) (we_var 1 rfl rfl) rfl (wa_cons ?_))))))))
    refine we_call (can_above_touches B) hr (by decide) hW (wa_cons (we_var 0 rfl (wa_cons (we_at (j := 0) (we_var 1 rfl rfl) rfl (wa_cons (we_at (j := 0) (we_var 2 rfl rfl) rfl (wa_cons (we_var 3 rfl (wa_nil ⟨rfl, rfl, c, one.1, other.1, t, ok, hp q, rfl, ?_⟩)))))))))
    exact wa_nil ⟨rfl, rfl, c, one.1, _, ok, hw, rfl, hC⟩

def gPairs : Con := fun rs C => ∃ (c : Clock) (p : Int), c.Ok ∧ rs = [.val c.enc, .val (.int p)] ∧ C (.list ((pairsAt c p).map eX))
theorem can_pairs_at (B : Bd K mg) : Can P w K mg base W0 1 "pairs_at" 2 gPairs [] := by
  refine can_body (N := ["clock", "phase", "touch"]) (ps := ["clock", "phase"]) B.pairs_at ⟨rfl, rfl, rfl, by decide +kernel, rfl, by decide +kernel, by decide +kernel⟩ (fun _ _ _ _ _ _ us hl => match us, hl with | [_, _], _ => rfl) ?_
  intro f cdv A outer s H E Wl rs C hr hW ⟨c, p, ok, e, hC⟩
  subst e
  have hN : (["clock", "phase", "touch"] : List Str).Nodup := by decide +kernel
  have hu := hu_of hr
  refine wss_one ?_
  refine ws_ret (WN.we (wn_lcM (f := eT) (own := [("touch", 2)]) (js := [2]) c.to (fun t => decide (t.1 = p)) (fun t => eX t.2) rfl hN (blkOk_by (N := ["clock", "phase", "touch"]) (sc := defScope s_pairs_at) (by decide +kernel)) (by decide) (Nat.le_trans ok.toL (by decide)) (wi_tup (we_at (j := 2) (we_var 0 rfl rfl) rfl rfl)) (fun t ht => ?_) ?_))
  · intro _ _ _ _ _
    refine wg_name 2 (maps_if ?_ ?_) hN
    · intro _ _ _ _ _
      exact wt_eq hu (we_at (j := 0) (we_var 2 rfl rfl) rfl (we_var 1 rfl ⟨rfl, rfl, enc_int.eq t.1 p⟩))
    · intro _ _ _ _ _ _
      exact we_sl10 (we_var 2 rfl (we_int rfl))
  · have e : (c.to.filter fun t => decide (t.1 = p)).map (fun t => eX t.2) = (pairsAt c p).map eX := by unfold pairsAt; rw [List.map_map]; rfl
    show C (.list _)
    rw [e]; exact hC

def gNeed : Con := fun rs C => ∃ (c : Clock) (w a j : Int), c.Ok ∧ rs = [.val c.enc, .val (.int w), .val (.int a), .val (.int j)] ∧ C (.int (needed c w a j))
theorem can_least_needed (B : Bd K mg) : Can P w K mg base W0 1 "least_needed" 4 gNeed [] := by
  refine can_body (N := ["clock", "wheel", "edition", "other", "entries", "entry"]) (ps := ["clock", "wheel", "edition", "other"]) B.least_needed ⟨rfl, rfl, rfl, by decide +kernel, rfl, by decide +kernel, by decide +kernel⟩ (fun _ _ _ _ _ _ us hl => match us, hl with | [_, _, _, _], _ => rfl) ?_
  intro f cdv A outer s H E Wl rs C hr hW ⟨c, w, a, j, ok, e, hC⟩
  subst e
  have hN : (["clock", "wheel", "edition", "other", "entries", "entry"] : List Str).Nodup := by decide +kernel
  have hu := hu_of hr
  refine wss_cons ?_
  refine ws_setLcM (f := eB) 4 (own := [("entry", 5)]) (js := [5]) c.bo (fun b => decide (b.1 = w) && decide (b.2.2.1 = j)) eB rfl hN (blkOk_by (N := ["clock", "wheel", "edition", "other", "entries", "entry"]) (sc := defScope s_least_needed) (by decide +kernel)) (by decide) (Nat.le_trans ok.boL (by decide)) (wi_tup (we_at (j := 4) (we_var 0 rfl rfl) rfl rfl)) (fun b hb => ?_) ?_ (sw_true rfl rfl rfl (by decide +kernel))
  · intro _ _ _ _ _
    refine wg_name 5 (maps_if ?_ ?_) hN
    · intro _ _ _ _ _
      refine wt_and (ww_and (wt_eq hu (we_at (j := 0) (we_var 5 rfl rfl) rfl (we_var 1 rfl ⟨rfl, rfl, ?_⟩))))
      show (PyData.eqv (eI b.1) (eI w) = true → _) ∧ (PyData.eqv (eI b.1) (eI w) = false → _)
      rw [enc_int.eq]
      refine ⟨fun q => ww_and1 (wt_eq hu (we_at (j := 2) (we_var 5 rfl rfl) rfl (we_var 3 rfl ⟨rfl, rfl, ?_⟩))), fun q => ?_⟩
      · show PyData.eqv (eI b.2.2.1) (eI j) = _
        rw [enc_int.eq, q]; rfl
      · show false = _
        rw [q]; rfl
    · intro _ _ _ _ _ _
      exact we_var 5 rfl rfl
  · refine wss_freezeL 4 rfl ?_
    refine wss_one (ws_ret (we_maxL B.bare (wa_cons (we_add (we_lst (wa_cons (we_int (wa_nil ⟨(show 1 ≤ sizeLine by decide), WN.we ?_⟩))))))))
    refine wn_lcM (f := eB) (own := [("entry", 5)]) (js := [5]) (entriesOf c w j) (fun b => decide (b.2.1 ≤ a)) (fun b => .int b.2.2.2) rfl hN (blkOk_by (N := ["clock", "wheel", "edition", "other", "entries", "entry"]) (sc := defScope s_least_needed) (by decide +kernel)) (by decide) (Nat.le_trans (List.length_filter_le ..) (Nat.le_trans ok.boL (by decide))) (wi_list (we_var 4 rfl rfl)) (fun b hb => ?_) ?_
    · intro _ _ _ _ _
      refine wg_name 5 (maps_if ?_ ?_) hN
      · intro _ _ _ _ _
        exact wt_le (we_at (j := 1) (we_var 5 rfl rfl) rfl (we_var 2 rfl rfl))
      · intro _ _ _ _ _ _
        exact we_at (j := 3) (we_var 5 rfl rfl) rfl rfl
    · have hl : ((entriesOf c w j).filter fun b => decide (b.2.1 ≤ a)).length ≤ 1000 := Nat.le_trans (List.length_filter_le ..) (Nat.le_trans (List.length_filter_le ..) ok.boL)
      refine ⟨?_, wa_nil ⟨0 :: ((entriesOf c w j).filter fun b => decide (b.2.1 ≤ a)).map (·.2.2.2), ?_, by simp, fun m h1 h2 => ?_⟩⟩
      · rw [List.length_map, List.length_singleton]
        exact Nat.le_trans (Nat.add_le_add_left hl 1) (by decide)
      · rw [List.map_cons, List.map_map]; rfl
      · have := maxL_is h1 h2
        show C (.int m)
        unfold needed at hC
        rw [this] at hC; exact hC

def encPl (pl : Plan) : D := .tuple (pl.map eG)
def gEdition : Con := fun rs C => ∃ (pl : Plan) (w t : Int), 0 ≤ w ∧ w < pl.length ∧ (∀ g ∈ pl, g.length ≤ 1000) ∧ rs = [.val (encPl pl), .val (.int w), .val (.int t)] ∧ C (.int (edAt pl w t))
theorem can_edition_of (B : Bd K mg) : Can P w K mg base W0 1 "edition_of" 3 gEdition [] := by
  refine can_body (N := ["plan", "wheel", "tick", "exchanged"]) (ps := ["plan", "wheel", "tick"]) B.edition_of ⟨rfl, rfl, rfl, by decide +kernel, rfl, by decide +kernel, by decide +kernel⟩ (fun _ _ _ _ _ _ us hl => match us, hl with | [_, _, _], _ => rfl) ?_
  intro f cdv A outer s H E Wl rs C hr hW ⟨pl, w, t, w0, w1, hz, e, hC⟩
  subst e
  have hN : (["plan", "wheel", "tick", "exchanged"] : List Str).Nodup := by decide +kernel
  have hu := hu_of hr
  have hm : pl.getD w.toNat [] ∈ pl := by
    rw [getD_at (by omega)]; exact List.getElem_mem _
  refine wss_one ?_
  refine ws_ret (we_len B.bare (wa_cons (WN.we (wn_lcM (f := eI) (own := [("exchanged", 3)]) (js := [3]) (pl.getD w.toNat []) (fun x => decide (x ≤ t)) eI rfl hN (blkOk_by (N := ["plan", "wheel", "tick", "exchanged"]) (sc := defScope s_edition_of) (by decide +kernel)) (by decide) (Nat.le_trans (hz _ hm) (by decide)) (wi_tup (we_ix (we_var 0 rfl (we_var 1 rfl ⟨_, at_map w0 w1, rfl⟩)))) (fun b hb => ?_) (wa_nil ?_)))))
  · intro _ _ _ _ _
    refine wg_name 3 (maps_if ?_ ?_) hN
    · intro _ _ _ _ _
      exact wt_le (we_var 3 rfl (we_var 2 rfl rfl))
    · intro _ _ _ _ _ _
      exact we_var 3 rfl rfl
  · show C (.int _)
    rw [List.length_map]; exact hC
end
end LC
/-! The walks of standings, misfits, exchanges. -/
namespace LC
open PySem L2 PySem.Spec PyProof.Rows
section
variable {P : Program} {w : World} {K : PySem.W.Frag} {mg : Str → Option Value} {base : Heap} {W0 : Wild}
theorem filter_all {α : Type} {l : List α} : (l.filter fun _ => true) = l := List.filter_eq_self.mpr fun _ _ => rfl
theorem at_st {c : Clock} {st : List Int} {i : Int} (hl : st.length = c.n) (hw : c.whl i) : atI (st.map eI) i = some (.int (atW st i)) := at_map hw.1 (by rw [hl]; exact hw.2)
def gFit : Con := fun rs C => ∃ (c : Clock) (st : List Int) (p : Xg), c.Ok ∧ st.length = c.n ∧ c.whl p.1 ∧ c.whl p.2 ∧ rs = [.val c.enc, .val (eG st), .val (eX p)] ∧ C (.bool (fitB c st p))
theorem can_fit (B : Bd K mg) : Can P w K mg base W0 2 "fit" 3 gFit [] := by
  refine can_body (N := ["clock", "standing", "pair", "one", "other"]) (ps := ["clock", "standing", "pair"]) B.fit ⟨rfl, rfl, rfl, by decide +kernel, rfl, by decide +kernel, by decide +kernel⟩ (fun _ _ _ _ _ _ us hl => match us, hl with | [_, _, _], _ => rfl) ?_
  intro f cdv A outer s H E Wl rs C hr hW ⟨c, st, p, ok, hl, h1, h2, e, hC⟩
  subst e
  have hN : (["clock", "standing", "pair", "one", "other"] : List Str).Nodup := by decide +kernel
  have hu := hu_of hr
  unfold fitB at hC
  refine wss_cons ?_
  refine ws_to (we_var 2 rfl (wg_tup rfl (wgs_cons (wg_name 3 (wgs_cons (wg_name 4 (wgs_nil ?_) hN)) hN))))
  refine wss_cons ?_
  refine ws_if (wt_lt hu (we_ix (we_var 1 rfl (we_var 4 rfl ⟨_, at_st hl h2, ?_⟩))))
  refine we_call (can_least_needed B) hr (by decide) hW (wa_cons (we_var 0 rfl (wa_cons (we_var 3 rfl (wa_cons (we_ix (we_var 1 rfl (we_var 3 rfl ⟨_, at_st hl h1, ?_⟩))))))))
  refine wa_cons (we_var 4 rfl (wa_nil ⟨rfl, rfl, c, p.1, _, p.2, ok, rfl, fun q => ?_, fun q => ?_⟩))
  · have q : decide (atW st p.2 < needed c p.1 (atW st p.1) p.2) = true := q
    rw [q] at hC
    exact wss_one (ws_ret (we_bool hC))
  · have q : decide (atW st p.2 < needed c p.1 (atW st p.1) p.2) = false := q
    rw [q] at hC
    refine wss_nil (wss_one (ws_ret (we_ge (we_ix (we_var 1 rfl (we_var 3 rfl ⟨_, at_st hl h1, ?_⟩))))))
    refine we_call (can_least_needed B) hr (by decide) hW (wa_cons (we_var 0 rfl (wa_cons (we_var 4 rfl (wa_cons (we_ix (we_var 1 rfl (we_var 4 rfl ⟨_, at_st hl h2, ?_⟩))))))))
    exact wa_cons (we_var 3 rfl (wa_nil ⟨rfl, rfl, c, p.2, _, p.1, ok, rfl, hC⟩))

theorem rangeD_nat (n : Nat) : rangeD 0 (n : Int) = (List.range n).map fun (k : Nat) => (.int k : D) := by
  unfold rangeD
  rw [Int.sub_zero, Int.toNat_natCast]
  refine List.map_congr_left fun k _ => ?_
  rw [Int.zero_add]
theorem rangeD_i (lo hi : Int) : rangeD lo hi = (iRange lo hi).map eI := by
  unfold rangeD iRange
  rw [List.map_map]; rfl
theorem nat_small {n : Nat} (h : n ≤ 100000) : -(2 ^ 62) ≤ (n : Int) ∧ (n : Int) < 2 ^ 62 := by
  constructor <;> omega
/-- range(len(clock[1])) -/
theorem wi_wheels {X : Cx} {Wl : Wild} {ρ : Env'} {tg x : Expr} {c : Clock} {p p2 p3 p4 pos : Pos} {i j : Nat} (Bb : Bare X.mg) (ok : c.Ok) (h : WE X Wl ρ x fun r => r = .val c.enc) (hg : Gl X "range" := by rfl)
    (hg2 : Gl X "len" := by rfl) (he : starEach [.Subscript x (.Constant (.int 1) j p3) p4] X.env = (false, eval (.Subscript x (.Constant (.int 1) j p3) p4) X.env) :: starEach [] X.env := by rfl)
    (hs : starEach [.Call (.Name "len" p2) [.Subscript x (.Constant (.int 1) j p3) p4] [] pos] X.env = [(false, eval (.Call (.Name "len" p2) [.Subscript x (.Constant (.int 1) j p3) p4] [] pos) X.env)] := by rfl) :
    WI X Wl ρ tg (.Call (.Name "range" p) [.Call (.Name "len" p2) [.Subscript x (.Constant (.int 1) j p3) p4] [] pos] [] pos) fun ds => ds = (List.range c.n).map fun (k : Nat) => (.int k : D) := by
  refine wi_range1 Bb.range (we_len Bb (wa_cons (we_at (j := 1) h rfl (wa_nil ?_)) he) hg2 he) hg hs (pa_cons pe_sem pa_nil hs)
  have hl : (c.ed.map eI).length = c.n := List.length_map ..
  have hz := nat_small (n := (c.ed.map eI).length) (by rw [hl]; have := ok.n2; omega)
  exact ⟨hz.1, hz.2, by rw [hl]; exact rangeD_nat c.n⟩
def gStanding : Con := fun rs C => ∃ (c : Clock) (pl : Plan) (t : Int), c.Ok ∧ pl.length = c.n ∧ (∀ g ∈ pl, g.length ≤ 1000) ∧ rs = [.val c.enc, .val (encPl pl), .val (.int t)] ∧ C (eG (standing c pl t))
theorem can_standing_of (B : Bd K mg) : Can P w K mg base W0 2 "standing_of" 3 gStanding [] := by
  refine can_body (N := ["clock", "plan", "tick", "wheel"]) (ps := ["clock", "plan", "tick"]) B.standing_of ⟨rfl, rfl, rfl, by decide +kernel, rfl, by decide +kernel, by decide +kernel⟩ (fun _ _ _ _ _ _ us hl => match us, hl with | [_, _, _], _ => rfl) ?_
  intro f cdv A outer s H E Wl rs C hr hW ⟨c, pl, t, ok, hl, hz, e, hC⟩
  subst e
  have hN : (["clock", "plan", "tick", "wheel"] : List Str).Nodup := by decide +kernel
  have hu := hu_of hr
  refine wss_one ?_
  refine ws_ret (we_tuple B.bare (wa_cons (WN.we (wn_lcM (f := fun (k : Nat) => (.int k : D)) (own := [("wheel", 3)]) (js := [3]) (List.range c.n) (fun _ => true) (fun k => .int (edAt pl k t)) rfl hN (blkOk_by (N := ["clock", "plan", "tick", "wheel"]) (sc := defScope s_standing_of) (by decide +kernel)) (by decide) (by rw [List.length_range]; exact Nat.le_trans ok.n2 (by decide)) ?_ (fun k hk => ?_) (wa_nil ?_)))))
  · refine wi_range1 B.bare.range (we_len B.bare (wa_cons (we_at (j := 1) (we_var 0 rfl rfl) rfl (wa_nil ?_))))
    have hl : (c.ed.map eI).length = c.n := List.length_map ..
    have hz := nat_small (n := (c.ed.map eI).length) (by rw [hl]; have := ok.n2; omega)
    exact ⟨hz.1, hz.2, by rw [hl]; exact rangeD_nat c.n⟩
  · intro _ _ _ _ _
    refine wg_name 3 (maps_keep ?_) hN
    intro _ _ _ _ _
    have hk := List.mem_range.mp hk
    exact we_call (can_edition_of B) hr (by decide) hW (wa_cons (we_var 1 rfl (wa_cons (we_var 3 rfl (wa_cons (we_var 2 rfl (wa_nil ⟨rfl, rfl, pl, k, t, by omega, by omega, hz, rfl, rfl⟩)))))))
  · have e : ((List.range c.n).filter fun _ => true).map (fun (k : Nat) => PyData.int (edAt pl k t)) = (standing c pl t).map eI := by
      unfold standing
      rw [filter_all, List.map_map]; rfl
    show C (.tuple _)
    rw [e]; exact hC

def gNotFit : Con := fun rs C => ∃ (c : Clock) (st : List Int) (p : Int), c.Ok ∧ st.length = c.n ∧ rs = [.val c.enc, .val (eG st), .val (.int p)] ∧ C (.list ((notFit c st p).map eX))
theorem pairs_ok {c : Clock} (ok : c.Ok) {p : Int} {x : Xg} (h : x ∈ pairsAt c p) : c.whl x.1 ∧ c.whl x.2 := by
  unfold pairsAt at h
  obtain ⟨t, ht, rfl⟩ := List.mem_map.mp h
  have := ok.to t (List.mem_filter.mp ht).1
  exact ⟨⟨this.2.2.1, by omega⟩, ⟨by omega, this.2.2.2.2⟩⟩
theorem pairs_len {c : Clock} (ok : c.Ok) {p : Int} : (pairsAt c p).length ≤ 1000 := by
  unfold pairsAt
  rw [List.length_map]
  exact Nat.le_trans (List.length_filter_le ..) ok.toL
theorem can_not_fitting (B : Bd K mg) : Can P w K mg base W0 3 "not_fitting" 3 gNotFit [] := by
  refine can_body (N := ["clock", "standing", "phase", "pair"]) (ps := ["clock", "standing", "phase"]) B.not_fitting ⟨rfl, rfl, rfl, by decide +kernel, rfl, by decide +kernel, by decide +kernel⟩ (fun _ _ _ _ _ _ us hl => match us, hl with | [_, _, _], _ => rfl) ?_
  intro f cdv A outer s H E Wl rs C hr hW ⟨c, st, p, ok, hl, e, hC⟩
  subst e
  have hN : (["clock", "standing", "phase", "pair"] : List Str).Nodup := by decide +kernel
  have hu := hu_of hr
  refine wss_one ?_
  refine ws_ret (WN.we (wn_lcM (f := eX) (own := [("pair", 3)]) (js := [3]) (pairsAt c p) (fun x => !fitB c st x) eX rfl hN (blkOk_by (N := ["clock", "standing", "phase", "pair"]) (sc := defScope s_not_fitting) (by decide +kernel)) (by decide) (Nat.le_trans (pairs_len ok) (by decide)) (wi_list ?_) (fun x hx => ?_) hC))
  · exact we_call (can_pairs_at B) hr (by decide) hW (wa_cons (we_var 0 rfl (wa_cons (we_var 2 rfl (wa_nil ⟨rfl, rfl, c, p, ok, rfl, rfl⟩)))))
  · intro _ _ _ _ _
    refine wg_name 3 (maps_if ?_ ?_) hN
    · intro _ _ _ _ _
      exact wt_not (wt_val (we_call (can_fit B) hr (by decide) hW (wa_cons (we_var 0 rfl (wa_cons (we_var 1 rfl (wa_cons (we_var 3 rfl (wa_nil ⟨rfl, rfl, c, st, x, ok, hl, (pairs_ok ok hx).1, (pairs_ok ok hx).2, rfl, rfl⟩)))))))))
    · intro _ _ _ _ _ _
      exact we_var 3 rfl rfl

theorem enum_ed (c : Clock) : enumD (c.ed.map eI) = (List.range c.n).map fun (k : Nat) => (.tuple [.int k, .int (c.edOf k)] : D) := by
  unfold enumD
  refine List.ext_getElem? fun i => ?_
  rw [List.getElem?_mapIdx, List.getElem?_map, List.getElem?_map]
  unfold Clock.n
  by_cases h : i < c.ed.length
  · rw [List.getElem?_eq_getElem h, List.getElem?_range h]
    have : c.edOf (i : Int) = c.ed[i] := by unfold Clock.edOf; rw [Int.toNat_natCast]; exact getD_at h
    show some (PyData.tuple [.int (i : Int), .int c.ed[i]]) = some (PyData.tuple [.int (i : Int), .int (c.edOf i)])
    rw [this]
  · rw [List.getElem?_eq_none (by omega), List.getElem?_eq_none (by rw [List.length_range]; omega)]; rfl
theorem everyX_len {c : Clock} (ok : c.Ok) : (everyX c).length ≤ 24 := by
  unfold everyX
  have h : ∀ l : List Nat, (∀ k ∈ l, k < c.n) → (l.flatMap fun (w : Nat) => (iRange 1 (c.edOf w + 1)).map fun a => ((w : Int), a)).length ≤ 4 * l.length := by
    intro l
    induction l with
    | nil => intro _; simp
    | cons k l ih =>
      intro hk
      have h1 := ih fun j hj => hk j (List.mem_cons_of_mem _ hj)
      have h2 := ok.edOf (w := k) ⟨by omega, by have := hk k List.mem_cons_self; omega⟩
      rw [List.flatMap_cons, List.length_append, List.length_map, List.length_cons]
      have h3 : (iRange 1 (c.edOf k + 1)).length ≤ 4 := by unfold iRange; rw [List.length_map, List.length_range]; omega
      omega
  have := h (List.range c.n) fun k hk => List.mem_range.mp hk
  rw [List.length_range] at this
  have := ok.n2
  omega
def gEveryX : Con := fun rs C => ∃ (c : Clock), c.Ok ∧ rs = [.val c.enc] ∧ C (.list ((everyX c).map eX))
theorem can_every_exchange (B : Bd K mg) : Can P w K mg base W0 1 "every_exchange" 1 gEveryX [] := by
  refine can_body (N := ["clock", "wheel", "last", "edition"]) (ps := ["clock"]) B.every_exchange ⟨rfl, rfl, rfl, by decide +kernel, rfl, by decide +kernel, by decide +kernel⟩ (fun _ _ _ _ _ _ us hl => match us, hl with | [_], _ => rfl) ?_
  intro f cdv A outer s H E Wl rs C hr hW ⟨c, ok, e, hC⟩
  subst e
  have hN : (["clock", "wheel", "last", "edition"] : List Str).Nodup := by decide +kernel
  have hu := hu_of hr
  refine wss_one ?_
  have hz : ((List.range c.n).flatMap fun (k : Nat) => iRange 1 (c.edOf k + 1)).length ≤ sizeLine := by
    have := everyX_len ok
    have e : (everyX c).length = ((List.range c.n).flatMap fun (k : Nat) => iRange 1 (c.edOf k + 1)).length := by
      unfold everyX
      rw [List.length_flatMap, List.length_flatMap]
      simp only [List.length_map]
    rw [← e]
    exact Nat.le_trans this (by decide)
  refine ws_ret (WN.we (wn_lc2M (f := fun (k : Nat) => (.tuple [.int k, .int (c.edOf k)] : D)) (f1 := eI) (own := [("wheel", 1), ("last", 2), ("edition", 3)]) (vs1 := [3]) (js := [1, 2]) (js1 := [3]) (List.range c.n) (fun (k : Nat) => iRange 1 (c.edOf k + 1)) (fun _ _ => true) (fun (k : Nat) a => .tuple [.int k, .int a]) rfl hN (blkOk_by (N := ["clock", "wheel", "last", "edition"]) (sc := defScope s_every_exchange) (by decide +kernel)) (by decide) (by decide) (by decide) hz
    (wi_enumT B.bare.enum (we_at (j := 1) (we_var 0 rfl rfl) rfl (enum_ed c))) (fun k hk => ?_) ?_))
  · have hk := List.mem_range.mp hk
    intro _ _ _ _ _
    refine wg_tup rfl (wgs_cons (js := [1]) (wg_name 1 (wgs_cons (js := [2]) (js' := []) (wg_name 2 (wgs_nil ?_) hN)) hN))
    intro _ _ _ _ _
    have hb := ok.edOf (w := k) ⟨by omega, by omega⟩
    refine wi_range2 B.bare.range (we_int ⟨by decide, by decide, we_add (we_var 2 rfl (we_int ⟨?_, ?_, rangeD_i _ _, fun a ha => ?_⟩))⟩)
    · show -(2 ^ 62) ≤ c.edOf k + 1
      omega
    · show c.edOf k + 1 < 2 ^ 62
      omega
    · intro _ _ _ _ _
      refine wg_name 3 (maps_keep ?_) hN
      intro _ _ _ _ _
      exact we_tup (wa_cons (we_var 1 rfl (wa_cons (we_var 3 rfl (wa_nil ⟨(show 2 ≤ sizeLine by decide), rfl⟩)))))
  · have e : ((List.range c.n).flatMap fun (k : Nat) => ((iRange 1 (c.edOf k + 1)).filter fun _ => true).map fun a => PyData.tuple [.int (k : Int), .int a]) = (everyX c).map eX := by
      unfold everyX
      rw [List.map_flatMap]
      refine congrArg (fun f => List.flatMap f (List.range c.n)) (funext fun k => ?_)
      rw [filter_all, List.map_map]; rfl
    show C (.list _)
    rw [e]; exact hC
end
end LC
/-! Dicts keyed by (nested) tuples of whole numbers, over deep data. -/
namespace LC
open PySem L2 PySem.Spec PyProof.Rows
/-! ### lists of pairs as tables -/
def dGet (kvs : List (D × D)) (k : D) : Option D := (kvs.find? fun p => decide (keyOf p.1 = keyOf k)).map (·.2)
def dPut (kvs : List (D × D)) (k v : D) : List (D × D) := if (dGet kvs k).isSome = true then kvs.map (fun p => if keyOf p.1 = keyOf k then (p.1, v) else p) else kvs ++ [(k, v)]
def kGet (kx : Kx) (k : NestedKey) : Option (Addr × V) := (kx.find? fun p => decide (p.1 = k)).map (·.2)
def kPut (kx : Kx) (k : NestedKey) (a : Addr) (v : V) : Kx := if (kGet kx k).isSome = true then kx.map (fun p => if p.1 = k then (p.1, p.2.1, v) else p) else kx ++ [(k, a, v)]
theorem kPut_len (kx : Kx) (k : NestedKey) (a : Addr) (v : V) : (kPut kx k a v).length ≤ kx.length + 1 := by
  unfold kPut
  split
  · rw [List.length_map]; omega
  · rw [List.length_append, List.length_singleton]; omega
section
variable {en : En} {F F' H : Hp}
theorem RepK.get : ∀ {kvs : List (D × D)} {kx : Kx} {k : D}, RepK en F kvs kx → (∀ d, dGet kvs k = some d → ∃ a w, kGet kx (keyOf k) = some (a, w) ∧ Rep en F d w) ∧ (dGet kvs k = none → kGet kx (keyOf k) = none)
  | _, _, k, .nil => ⟨fun d e => by simp [dGet] at e, fun _ => rfl⟩
  | _, _, k, .cons (k := k0) (v := v0) (a := a0) (x := x0) (r := r) (s := s) h1 h2 h3 t => by
    have ih := RepK.get (k := k) t
    by_cases e : keyOf k0 = keyOf k
    · refine ⟨fun d q => ?_, fun q => ?_⟩
      · simp only [dGet, List.find?_cons, e, decide_true, Option.map_some] at q
        cases q
        exact ⟨a0, x0, by simp [kGet, List.find?_cons, e], h3⟩
      · simp [dGet, List.find?_cons, e] at q
    · have e1 : dGet ((k0, v0) :: r) k = dGet r k := by simp [dGet, List.find?_cons, e]
      have e2 : kGet ((keyOf k0, a0, x0) :: s) (keyOf k) = kGet s (keyOf k) := by simp [kGet, List.find?_cons, e]
      rw [e1, e2]; exact ih
theorem RepK.some_iff {kvs : List (D × D)} {kx : Kx} {k : D} (r : RepK en F kvs kx) : (kGet kx (keyOf k)).isSome = (dGet kvs k).isSome := by
  have := r.get (k := k)
  cases e : dGet kvs k with
  | none => rw [this.2 e]; rfl
  | some d => obtain ⟨a, w, h, _⟩ := this.1 d e; rw [h]; rfl
theorem RepK.mapPut {k v : D} {w : V} (h2 : Rep en F v w) : ∀ {kvs : List (D × D)} {kx : Kx}, RepK en F kvs kx → RepK en F (kvs.map fun p => if keyOf p.1 = keyOf k then (p.1, v) else p) (kx.map fun p => if p.1 = keyOf k then (p.1, p.2.1, w) else p)
  | _, _, .nil => .nil
  | _, _, .cons (k := k0) q1 q2 q3 t => by
    simp only [List.map_cons]
    by_cases e : keyOf k0 = keyOf k
    · rw [if_pos e, if_pos e]; exact .cons q1 q2 h2 (RepK.mapPut h2 t)
    · rw [if_neg e, if_neg e]; exact .cons q1 q2 q3 (RepK.mapPut h2 t)
theorem RepK.snoc {k v : D} {a : Addr} {w : V} (hk : keyOk k = true) (h1 : Rep en F k (.ref a)) (h2 : Rep en F v w) : ∀ {kvs : List (D × D)} {kx : Kx}, RepK en F kvs kx → RepK en F (kvs ++ [(k, v)]) (kx ++ [(keyOf k, a, w)])
  | _, _, .nil => .cons hk h1 h2 .nil
  | _, _, .cons q1 q2 q3 t => .cons q1 q2 q3 (RepK.snoc hk h1 h2 t)
theorem RepK.put {kvs : List (D × D)} {kx : Kx} {k v : D} {a : Addr} {w : V} (r : RepK en F kvs kx) (hk : keyOk k = true) (h1 : Rep en F k (.ref a)) (h2 : Rep en F v w) : RepK en F (dPut kvs k v) (kPut kx (keyOf k) a w) := by
  unfold dPut kPut
  rw [r.some_iff]
  by_cases e : (dGet kvs k).isSome = true
  · rw [if_pos e, if_pos e]; exact r.mapPut h2
  · rw [if_neg e, if_neg e]; exact r.snoc hk h1 h2
theorem RepK.length : ∀ {kvs : List (D × D)} {kx : Kx}, RepK en F kvs kx → kvs.length = kx.length
  | _, _, .nil => rfl
  | _, _, .cons _ _ _ r => congrArg (· + 1) (RepK.length r)
/-- the keys' tuples are there -/
def KeysOk (en : En) (F : Hp) (kx : Kx) : Prop := ∀ e ∈ kx, ∃ kd, keyOk kd = true ∧ keyOf kd = e.1 ∧ Rep en F kd (.ref e.2.1)
theorem RepK.keys : ∀ {kvs : List (D × D)} {kx : Kx}, RepK en F kvs kx → KeysOk en F kx
  | _, _, .nil => fun e h => by cases h
  | _, _, .cons q1 q2 q3 t => fun e h => by
    rcases List.mem_cons.mp h with rfl | h
    · exact ⟨_, q1, rfl, q2⟩
    · exact RepK.keys t e h
theorem KeysOk.mono {kx : Kx} (h : KeysOk en F kx) (ex : Ex F F') : KeysOk en F' kx := fun e he => let ⟨kd, a, b, c⟩ := h e he; ⟨kd, a, b, c.mono ex⟩
theorem keyOk_isK {k : D} (h : keyOk k = true) : isK k = true ∧ (keyOf k).depth ≤ 8 := by
  unfold keyOk at h
  simp only [Bool.and_eq_true, decide_eq_true_eq] at h
  exact h.1
end
/-! ### as the model's own dicts -/
section
variable {X : Cx} {pins : List (Addr × Obj)} {σ : L2.St} {F H : Hp} {s : Shared}
mutual
theorem Rep.nested (I : Inv X pins σ H s) (ex : Ex F H) : ∀ {d : D} {v : V} {u : Value}, isK d = true → Rep (cxEn X) F d v → RelV v u → NestedIs s.heap (keyOf d) u
  | _, _, _, h, .none, _ => by simp [isK] at h
  | _, _, _, h, .bool _, _ => by simp [isK] at h
  | _, _, _, _, .int i, r => by obtain ⟨t, rfl⟩ := r; exact .int i t
  | _, _, _, h, .list _ _, _ => by simp [isK] at h
  | _, _, _, h, .dict _ _, _ => by simp [isK] at h
  | _, _, _, h, .tuple hs ra, r => by
    cases r
    obtain ⟨its, rv, ⟨o, e, hc, n, hd⟩, hz⟩ := I.tuple (Evl.ex_t ex hs)
    refine .tup e hc hd ?_
    show NestedAll s.heap _ its.toArray.toList
    rw [List.toList_toArray]
    exact RepA.nested I ex (by simpa [isK] using h) ra rv
theorem RepA.nested (I : Inv X pins σ H s) (ex : Ex F H) : ∀ {ds : List D} {vs : List V} {us : List Value}, isKs ds = true → RepA (cxEn X) F ds vs → Vals vs us → NestedAll s.heap (keysOf ds) us
  | _, _, _, _, .nil, r => by cases r; exact .nil
  | _, _, _, h, .cons r1 r2, r => by
    cases r with
    | cons q1 q2 =>
      simp only [isKs, Bool.and_eq_true] at h
      exact .cons (Rep.nested I ex h.1 r1 q1) (RepA.nested I ex h.2 r2 q2)
end
/-- entries told and entries there -/
abbrev PK : NestedKey × Addr × V → NestedKey × Addr × Value → Prop := fun p q => p.1 = q.1 ∧ p.2.1 = q.2.1 ∧ RelV p.2.2 q.2.2
theorem pk_get {k : NestedKey} : ∀ {kx : Kx} {xs : List (NestedKey × Addr × Value)}, Paired PK kx xs → (∀ a w, kGet kx k = some (a, w) → ∃ u, atKey xs k = some (a, u) ∧ RelV w u) ∧ (kGet kx k = none → atKey xs k = none)
  | _, _, .nil => ⟨fun a w e => by simp [kGet] at e, fun _ => rfl⟩
  | p :: _, q :: _, .cons ⟨h1, h2, h3⟩ t => by
    have ih := pk_get (k := k) t
    by_cases e : p.1 = k
    · have e' : q.1 = k := h1 ▸ e
      refine ⟨fun a w z => ?_, fun z => ?_⟩
      · simp only [kGet, List.find?_cons, e, decide_true, Option.map_some, Option.some.injEq] at z
        refine ⟨q.2.2, ?_, by rw [z] at h3; exact h3⟩
        simp only [atKey, List.find?_cons, e', decide_true, Option.map_some]
        have : q.2 = (p.2.1, q.2.2) := by rw [h2]
        rw [this, z]
      · simp [kGet, List.find?_cons, e] at z
    · have e' : ¬ q.1 = k := h1 ▸ e
      simp only [kGet, atKey, List.find?_cons, e, e', decide_false]
      exact ih
theorem pk_some {k : NestedKey} {kx : Kx} {xs : List (NestedKey × Addr × Value)} (r : Paired PK kx xs) : (atKey xs k).isSome = (kGet kx k).isSome := by
  have := pk_get (k := k) r
  cases e : kGet kx k with
  | none => rw [this.2 e]; rfl
  | some p => obtain ⟨u, h, _⟩ := this.1 p.1 p.2 e; rw [h]; rfl
theorem pk_mapPut {k : NestedKey} {w : V} {u : Value} (rw' : RelV w u) : ∀ {kx : Kx} {xs : List (NestedKey × Addr × Value)}, Paired PK kx xs → Paired PK (kx.map fun p => if p.1 = k then (p.1, p.2.1, w) else p) (xs.map (putAt k u))
  | _, _, .nil => .nil
  | p :: _, q :: _, .cons h t => by
    simp only [List.map_cons]
    refine .cons ?_ (pk_mapPut rw' t)
    unfold putAt
    by_cases e : p.1 = k
    · have e' : q.1 = k := h.1 ▸ e
      rw [if_pos e, if_pos e']; exact ⟨h.1, h.2.1, rw'⟩
    · have e' : ¬ q.1 = k := h.1 ▸ e
      rw [if_neg e, if_neg e']; exact h
theorem pk_snoc {k : NestedKey} {a : Addr} {w : V} {u : Value} (rw' : RelV w u) : ∀ {kx : Kx} {xs : List (NestedKey × Addr × Value)}, Paired PK kx xs → Paired PK (kx ++ [(k, a, w)]) (xs ++ [(k, a, u)])
  | _, _, .nil => .cons ⟨rfl, rfl, rw'⟩ .nil
  | _, _, .cons h t => .cons h (pk_snoc rw' t)
theorem pk_put {k : NestedKey} {a : Addr} {w : V} {u : Value} {kx : Kx} {xs : List (NestedKey × Addr × Value)} (r : Paired PK kx xs) (rw' : RelV w u) : Paired PK (kPut kx k a w) (storedH xs k a u) := by
  unfold kPut storedH
  rw [pk_some r]
  split
  · exact pk_mapPut rw' r
  · exact pk_snoc rw' r
theorem pk_len {kx : Kx} {xs : List (NestedKey × Addr × Value)} (r : Paired PK kx xs) : kx.length = xs.length := Paired.length r
/-- the dict that is told at a, in the heap -/
theorem dict_raw {a : Addr} {kx : Kx} (I : Inv X pins σ H s) (h : Rd H a (dictAt (cxEn X) a kx)) : kx.length ≤ sizeLine ∧ (a == sysModules) = false ∧ ∃ xs, Paired PK kx xs ∧
    ∃ o es ep, s.heap.get? a = some o ∧ o.ExactDict ∧ o.data = .dict es ep ∧ es.toList = xs.map (entryOfKey (nestedKind X.prog X.w)) ∧ (xs.map (·.1)).Nodup := by
  rcases h with h | ⟨o, h⟩
  · exact (I.hok a _ h).1
  · exact (I.hok a _ h).2.1
theorem dict_of {a : Addr} {kx : Kx} (I : Inv X pins σ H s) (ex : Ex F H) (h : Rd H a (dictAt (cxEn X) a kx)) (hk : KeysOk (cxEn X) F kx) :
    kx.length ≤ sizeLine ∧ (a == sysModules) = false ∧ ∃ xs, Paired PK kx xs ∧ s.heap.DictOfH (nestedKind X.prog X.w) a xs := by
  obtain ⟨z, hs, xs, r, o, es, ep, e1, e2, e3, e4, e5⟩ := dict_raw I h
  refine ⟨z, hs, xs, r, o, es, ep, e1, e2, e3, e4, fun x hx => ?_, e5⟩
  have key : ∀ {kx : Kx} {xs : List (NestedKey × Addr × Value)}, Paired PK kx xs → ∀ x ∈ xs, ∃ p ∈ kx, p.1 = x.1 ∧ p.2.1 = x.2.1 := by
    intro kx xs r
    induction r with
    | nil => intro x h; cases h
    | cons h t ih =>
      rename_i p q _ _
      intro x hx
      rcases List.mem_cons.mp hx with rfl | hx
      · exact ⟨p, List.mem_cons_self, h.1, h.2.1⟩
      · obtain ⟨p', a1, a2⟩ := ih x hx; exact ⟨p', List.mem_cons_of_mem _ a1, a2⟩
  obtain ⟨p, hp, p1, p2⟩ := key r x hx
  obtain ⟨kd, k1, k2, k3⟩ := hk p hp
  obtain ⟨k4, k5⟩ := keyOk_isK k1
  rw [← p1, ← p2, ← k2]
  exact ⟨Rep.nested I ex k4 k3 rfl, k5⟩
theorem key_is {k : D} {b : Addr} (I : Inv X pins σ H s) (ex : Ex F H) (hk : keyOk k = true) (r : Rep (cxEn X) F k (.ref b)) : (nestedKind X.prog X.w).is s.heap (keyOf k) b :=
  ⟨Rep.nested I ex (keyOk_isK hk).1 r rfl, (keyOk_isK hk).2⟩
/-- a key is a tuple -/
theorem key_ref {en : En} {k : D} {v : V} (hk : keyOk k = true) (r : Rep en F k v) : ∃ b, v = .ref b := by
  cases r with
  | tuple _ _ => exact ⟨_, rfl⟩
  | _ => simp [keyOk, isK] at hk
theorem dict_ok {P : Program} {w : World} {K : PySem.W.Frag} {h : Heap} {a : Addr} {kx : Kx} {xs : List (NestedKey × Addr × Value)} (z : kx.length ≤ sizeLine) (hs : (a == sysModules) = false) (r : Paired PK kx xs) (hd : h.DictOfH (nestedKind P w) a xs) : ObjOk P w H h a (dictAt ⟨P, w, K⟩ a kx) := by
  obtain ⟨o, es, ep, e1, e2, e3, e4, _, e5⟩ := hd
  refine ⟨⟨z, hs, xs, r, o, es, ep, e1, e2, e3, e4, e5⟩, ⟨o, e1⟩, fun h1 h2 ⟨z, hs, xs, r, o, es, ep, e1, q⟩ k => ⟨z, hs, xs, r, o, es, ep, k o e1, q⟩⟩
theorem room8 {A : Around} (hu : A.units + 100 < cLine) : A.in1.units + 8 < cLine := by
  show A.units + 1 + 8 < cLine
  omega

/-! ### d[k], k in d, d.get(k, x), d[k] = v -/
/-- at a a dict told by kx, at b the key kd -/
structure DK (en : En) (H : Hp) (a : Addr) (kx : Kx) (kd : D) (b : Addr) (F : Hp) : Prop where
  ex : Ex F H
  rd : Rd H a (dictAt en a kx)
  ks : KeysOk en F kx
  ok : keyOk kd = true
  rk : Rep en F kd (.ref b)
def rDGet (en : En) : R2 := fun x y H Q => ∃ a kx kd b F c w, x = .ref a ∧ y = .ref b ∧ DK en H a kx kd b F ∧ kGet kx (keyOf kd) = some (c, w) ∧ Q w H
theorem ix_deep (hu : X.A.units + 100 < cLine) : IxR X (rDGet (cxEn X)) := by
  intro value slice pins s σ H x y v u Q I rx ry ⟨a, kx, kd, b, F, c, w, ex, ey, d, hg, q⟩ hs
  subst ex ey
  cases rx
  cases ry
  obtain ⟨z, _, xs, r, hd⟩ := dict_of I d.ex d.rd d.ks
  obtain ⟨u, h1, h2⟩ := (pk_get r).1 c w hg
  exact tail_any hd.typeIs slot_dict_getitem.lookup (wpAny_getItem_heap (room8 hu) (key_is I d.ex d.ok d.rk) hd h1 ⟨w, H, I.tok _, h2, q⟩) hs
def rDIn (en : En) (neg : Bool) : R2 := fun x y H Q => ∃ a kx kd b F, y = .ref a ∧ x = .ref b ∧ DK en H a kx kd b F ∧ Q (.bl (if neg then !(kGet kx (keyOf kd)).isSome else (kGet kx (keyOf kd)).isSome)) H
theorem op_dIn (hu : X.A.units + 100 < cLine) : OpR X (compareOp .In) (rDIn (cxEn X) false) := by
  intro pins s σ H x y v u Q I rx ry ⟨a, kx, kd, b, F, ey, ex, d, q⟩
  subst ex ey
  cases rx
  cases ry
  obtain ⟨z, hsys, xs, r, hd⟩ := dict_of I d.ex d.rd d.ks
  refine in_keyed (room8 hu) (key_is I d.ex d.ok d.rk) hsys ⟨xs, hd, rfl⟩ ⟨_, H, I.tok _, ?_, q⟩
  rw [valueAt_pairsH, Option.isSome_map, pk_some r]; rfl
theorem op_dNotIn (hu : X.A.units + 100 < cLine) : OpR X (compareOp .NotIn) (rDIn (cxEn X) true) := by
  intro pins s σ H x y v u Q I rx ry ⟨a, kx, kd, b, F, ey, ex, d, q⟩
  subst ex ey
  cases rx
  cases ry
  obtain ⟨z, hsys, xs, r, hd⟩ := dict_of I d.ex d.rd d.ks
  refine notIn_keyed (room8 hu) (key_is I d.ex d.ok d.rk) hsys ⟨xs, hd, rfl⟩ ⟨_, H, I.tok _, ?_, q⟩
  rw [valueAt_pairsH, Option.isSome_map, pk_some r]; rfl
def rDSet (en : En) : TSet := fun o i v H Q => ∃ a kx kd b F, o = .ref a ∧ i = .ref b ∧ DK en H a kx kd b F ∧ H a = some (dictAt en a kx) ∧ kx.length < sizeLine ∧ Q (upd H a (dictAt en a (kPut kx (keyOf kd) b v)))
theorem set_deep (hu : X.A.units + 100 < cLine) : PSet X (rDSet (cxEn X)) := by
  intro pins s σ H o i v ov iv u Q I ro ri rv ⟨a, kx, kd, b, F, eo, ei, d, ha, hz, q⟩
  subst eo ei
  cases ro
  cases ri
  obtain ⟨z, hsys, xs, r, hd⟩ := dict_of I d.ex d.rd d.ks
  refine wpAny_setItem_heap (room8 hu) (key_is I d.ex d.ok d.rk) hd (fun h' hd' sb => ?_) (by rw [← pk_len r]; exact z)
  have z' : (kPut kx (keyOf kd) b v).length ≤ sizeLine := Nat.le_trans (kPut_len ..) hz
  have he : ∃ u, h'.get? a = some u := by obtain ⟨o, _, _, e, _⟩ := id hd'; exact ⟨o, e⟩
  exact ⟨_, I.write (x := a) (e := a) (o := dictAt (cxEn X) a (kPut kx (keyOf kd) b v)) (t' := s.toks + (nestedKind X.prog X.w).draws (keyOf kd)) (by rw [ha]; trivial) (.inl rfl) (fun c u hc e => (sb.2 c hc).trans e) he (dict_ok z' hsys (pk_put r rv) hd'), q⟩
end
end LC
/-! The words of dicts: d[k], in, get, len, {}, {k: v}, d[k] = v, list(d). -/
namespace LC
open PySem L2 PySem.Spec PyProof.Rows
section
variable {X : Cx} {Wl : Wild} {ρ : Env'} {F0 H0 F H : Hp} {σ : L2.St} {Φ : Wish} {e a b c k v : Expr} {pos p : Pos} {Q : R → Prop}
/-- dicts, own or known for good -/
def dictOf : R → Option (List (D × D))
  | .val (.dict kvs) => some kvs
  | .own (.dict kvs) => some kvs
  | _ => none
theorem dk_make {r : R} {v : V} {k : D} {u : V} {kvs : List (D × D)} (at_ : At Wl F H) (hd : dictOf r = some kvs) (hr : RepR (cxEn X) Wl F H r v) (hk : keyOk k = true) (ru : Rep (cxEn X) F k u) :
    ∃ a kx b, v = .ref a ∧ u = .ref b ∧ DK (cxEn X) H a kx k b F ∧ RepK (cxEn X) F kvs kx := by
  obtain ⟨b, rfl⟩ := key_ref hk ru
  match r, hd, hr with
  | .val (.dict kvs'), hd, hr =>
    cases hd
    cases hr with
    | @dict a kx _ od e1 rk => exact ⟨a, kx, b, rfl, rfl, ⟨at_.fh, .inr ⟨od, at_.fh _ _ e1⟩, rk.keys, hk, ru⟩, rk⟩
  | .own (.dict kvs'), hd, hr =>
    cases hd
    obtain ⟨a, rfl, _, _, kx, e1, rk⟩ := hr
    exact ⟨a, kx, b, rfl, rfl, ⟨at_.fh, .inl e1, rk.keys, hk, ru⟩, rk⟩
def dGetK (r k : R) (Q : R → Prop) : Prop := ∃ kvs kd d, dictOf r = some kvs ∧ k = .val kd ∧ keyOk kd = true ∧ dGet kvs kd = some d ∧ Q (.val d)
theorem d_dGet : DOp (cxEn X) Wl (rDGet (cxEn X)) dGetK := by
  intro F H x y v u Q C at_ rx ry ⟨kvs, kd, d, h1, h2, h3, h4, h⟩ hc
  subst h2
  obtain ⟨a, kx, b, rfl, rfl, dk, rk⟩ := dk_make at_ h1 rx h3 ry
  obtain ⟨c, w, q1, q2⟩ := (rk.get).1 d h4
  exact ⟨a, kx, kd, b, F, c, w, rfl, rfl, dk, q1, hc _ _ F H h (Gr.refl at_) q2⟩
theorem we_dIx (hu : X.A.units + 100 < cLine) (h : WE X Wl ρ a fun x => WE X Wl ρ b fun y => dGetK x y Q) (hs : PlainIx b := by exact fun _ _ => rfl) : WE X Wl ρ (.Subscript a b pos) Q :=
  fun F H σ C ha hs' hc => (pe_ix (ix_deep hu) pe_sem pe_sem hs).sem (two_sem d_dGet ha hs' h hc)
def dInK (neg : Bool) (k r : R) (Q : R → Prop) : Prop := ∃ kvs kd, dictOf r = some kvs ∧ k = .val kd ∧ keyOk kd = true ∧ Q (.val (.bool (if neg then !(dGet kvs kd).isSome else (dGet kvs kd).isSome)))
theorem d_dIn {neg : Bool} : DOp (cxEn X) Wl (rDIn (cxEn X) neg) (dInK neg) := by
  intro F H x y v u Q C at_ rx ry ⟨kvs, kd, h1, h2, h3, h⟩ hc
  subst h2
  obtain ⟨a, kx, b, rfl, rfl, dk, rk⟩ := dk_make at_ h1 ry h3 rx
  refine ⟨a, kx, kd, b, F, rfl, rfl, dk, ?_⟩
  rw [rk.some_iff]
  exact hc _ _ F H h (Gr.refl at_) (Rep.bool _)
theorem wt_dIn {Q : Bool → Prop} (hu : X.A.units + 100 < cLine) (h : WE X Wl ρ a fun x => WE X Wl ρ b fun y => dInK false x y (boolK Q)) (hm : behindInMarks .In b = false := by rfl) : WT X Wl ρ (.Compare a [.In] [b] pos) Q := wt_cmp (op_dIn hu) d_dIn hm h
theorem wt_dNotIn {Q : Bool → Prop} (hu : X.A.units + 100 < cLine) (h : WE X Wl ρ a fun x => WE X Wl ρ b fun y => dInK true x y (boolK Q)) (hm : behindInMarks .NotIn b = false := by rfl) : WT X Wl ρ (.Compare a [.NotIn] [b] pos) Q := wt_cmp (op_dNotIn hu) d_dIn hm h

/-! ### d.get(k, x) -/
def tGetD (en : En) (to tk tx : TE) : TE := fun σ H Q => to σ H fun x H1 => ∃ a kx, x = .ref a ∧ Rd H1 a (dictAt en a kx) ∧ tk σ H1 fun y H2 => tx σ H2 fun z H3 => ∃ kd b F, y = .ref b ∧ DK en H3 a kx kd b F ∧ (∀ c w, kGet kx (keyOf kd) = some (c, w) → Q w H3) ∧ (kGet kx (keyOf kd) = none → Q z H3)
theorem dict_ty {pins : List (Addr × Obj)} {s : Shared} {a : Addr} {kx : Kx} (I : Inv X pins σ H s) (h : Rd H a (dictAt (cxEn X) a kx)) : s.TypeIs (.ref a) "dict" ∧ ∀ b, Value.ref a = .ref b → ∃ ob, s.heap.get? b = some ob ∧ ob.dict = none := by
  obtain ⟨_, _, _, _, o, _, _, e1, e2, _⟩ := dict_raw I h
  exact ⟨⟨o, e1, e2.1⟩, fun b q => by cases q; exact ⟨o, e1, e2.2.1⟩⟩
theorem pe_getD {o k x : Expr} {to tk tx : TE} {apos cpos : Pos} (hu : X.A.units + 100 < cLine) (ho : PE X o to) (hk : PE X k tk) (hx : PE X x tx) (m : M2 X o "get" apos k x cpos) : PE X (.Call (.Attribute o "get" apos) [k, x] [] cpos) (tGetD (cxEn X) to tk tx) := by
  refine ⟨fun pins s σ H Q I h => wpAny_Call_method m.base m.few m.line PySem.F.plainAttrs_dict PySem.F.slot_dict_get PySem.F.type_dict_get (thn (ho.run pins s σ H _ I h) fun u s1 ⟨y, H1, I1, ry, a, kx, ey, rd, q1⟩ => ?_)⟩
  subst ey
  cases ry
  refine ⟨(dict_ty I1 rd).1, (dict_ty I1 rd).2, ?_⟩
  rw [m.trees]
  refine Calls.callWith_builtin rfl (Calls.evalArgs_plain (Calls.spliced_cons (thn (hk.run pins s1 σ H1 _ I1 q1) fun kv s2 ⟨yk, H2, I2, rk, q2⟩ => Calls.spliced_cons (thn (hx.run pins s2 σ H2 _ I2 q2) fun xv s3 ⟨z, H3, I3, rz, kd, b, F, eb, dk, g1, g2⟩ => Calls.spliced_nil ?_))))
  subst eb
  cases rk
  obtain ⟨hz, hsys, xs, r, hd⟩ := dict_of I3 dk.ex dk.rd dk.ks
  refine getOr_keyed (room8 hu) (key_is I3 dk.ex dk.ok dk.rk) hsys ⟨xs, hd, rfl⟩ ?_
  rw [valueAt_pairsH]
  cases q : kGet kx (keyOf kd) with
  | none => rw [(pk_get r).2 q]; exact ⟨z, H3, I3.tok _, rz, g2 q⟩
  | some p =>
    obtain ⟨u, h1, h2⟩ := (pk_get r).1 p.1 p.2 q
    rw [h1]; exact ⟨p.2, H3, I3.tok _, h2, g1 _ _ q⟩
def dGetOrK (r k x : R) (Q : R → Prop) : Prop := ∃ kvs kd d, dictOf r = some kvs ∧ k = .val kd ∧ keyOk kd = true ∧ x = .val d ∧ Q (.val ((dGet kvs kd).getD d))
theorem we_dGet {o k x : Expr} {apos cpos : Pos} (hu : X.A.units + 100 < cLine) (h : WE X Wl ρ o fun r => (∃ kvs, r = .val (.dict kvs)) ∧ WE X Wl ρ k fun y => WE X Wl ρ x fun z => dGetOrK r y z Q)
    (m : M2 X o "get" apos k x cpos := by exact ⟨rfl, rfl, rfl, rfl⟩) : WE X Wl ρ (.Call (.Attribute o "get" apos) [k, x] [] cpos) Q := fun F H σ C ha hs hc =>
  (pe_getD hu (pe_sem (e := o)) (pe_sem (e := k)) (pe_sem (e := x)) m).sem (h F H σ _ ha hs fun r v F1 H1 ⟨⟨kvs, er⟩, q⟩ g rr => by
    subst er
    cases rr with
    | @dict a kx _ od e1 rk =>
      refine ⟨a, kx, rfl, .inr ⟨od, g.at_.fh _ _ e1⟩, q F1 H1 σ _ g.at_ (hs.mono g) fun y u F2 H2 q2 g2 ry => q2 F2 H2 σ _ g2.at_ ((hs.mono g).mono g2) fun z w F3 H3 q3 g3 rz => ?_⟩
      obtain ⟨kvs', kd, d, h1, h2, h3, h4, h5⟩ := q3
      cases h1
      subst h2 h4
      have e2 : F3 a = some (.frz od (dictAt (cxEn X) a kx)) := g3.ff _ _ (g2.ff _ _ e1)
      obtain ⟨b, rfl⟩ := key_ref h3 ry
      have rk3 := (rk.mono g2.ff).mono g3.ff
      have gt := (g.trans g2).trans g3
      refine ⟨kd, b, F3, rfl, ⟨g3.at_.fh, .inr ⟨od, g3.at_.fh _ _ e2⟩, rk3.keys, h3, Rep.mono g3.ff ry⟩, fun c w' q => ?_, fun q => ?_⟩
      · cases z : dGet kvs kd with
        | none => rw [(rk3.get).2 z] at q; cases q
        | some d' =>
          obtain ⟨c', w2, q1, q2⟩ := (rk3.get).1 d' z
          rw [q1] at q; cases q
          rw [z] at h5
          exact hc _ _ F3 H3 h5 gt q2
      · cases z : dGet kvs kd with
        | none => rw [z] at h5; exact hc _ _ F3 H3 h5 gt rz
        | some d' => obtain ⟨c', w2, q1, q2⟩ := (rk3.get).1 d' z; rw [q1] at q; cases q)

/-! ### len(d), {} -/
theorem we_lenD (B : Bare X.mg) (h : WE X Wl ρ a fun r => ∃ kvs, dictOf r = some kvs ∧ Q (.val (.int kvs.length))) (hg : Gl X "len" := by rfl) (he : starEach [a] X.env = (false, eval a X.env) :: starEach [] X.env := by rfl) : WE X Wl ρ (.Call (.Name "len" p) [a] [] pos) Q := fun F H σ C ha hs hc =>
  (pe_callB (r := fun xs H Q => ∃ (p : Addr) (kx : Kx), xs = [.ref p] ∧ Rd H p (dictAt (cxEn X) p kx) ∧ (∃ F, Ex F H ∧ KeysOk (cxEn X) F kx) ∧ Q (.int kx.length) H) (fun pins s σ H xs us Q I r ⟨p, kx, e, rd, ⟨F, ex, ks⟩, q⟩ => by
      subst e
      obtain rfl := Vals.ref1 r
      obtain ⟨hz, hsys, ys, rr, hd⟩ := dict_of I ex rd ks
      have hl := pk_len rr
      refine call_len_dictH hsys hd (by rw [sizeLine_eq] at hz; omega) ⟨.int ((ys.length : Nat) : Int), H, I.tok _, ⟨_, rfl⟩, ?_⟩
      rw [← hl]; exact q) hg B.len PySem.boot_len (pa_cons pe_sem pa_nil he) (by decide) (by decide) he (by rfl)).sem
    (h F H σ _ ha hs fun r v F1 H1 ⟨kvs, hd, q⟩ g rr => by
      match r, hd, rr with
      | .val (.dict kvs'), hd, rr =>
        cases hd
        cases rr with
        | @dict a kx _ od e1 rk => exact ⟨a, kx, rfl, .inr ⟨od, g.at_.fh _ _ e1⟩, ⟨F1, g.at_.fh, rk.keys⟩, hc _ _ F1 H1 q g (by rw [rk.length]; exact Rep.int _)⟩
      | .own (.dict kvs'), hd, rr =>
        cases hd
        obtain ⟨a, rfl, _, _, kx, e1, rk⟩ := rr
        exact ⟨a, kx, rfl, .inl e1, ⟨F1, g.at_.fh, rk.keys⟩, hc _ _ F1 H1 q g (by rw [rk.length]; exact Rep.int _)⟩)
theorem sys_ne {h : Heap} (hb : sysModules < h.objs.size) : (h.objs.size == sysModules) = false := beq_eq_false_iff_ne.mpr (Nat.ne_of_gt hb)
theorem pe_d0 : PE X (.Dict [] [] pos) (fun _ H Q => ∀ p, H p = none → Q (.ref p) (upd H p (dictAt (cxEn X) p []))) := ⟨fun pins s σ H Q I h =>
  wpAny_Dict_empty ⟨.ref s.heap.objs.size, _, I.laid (a := s.heap.objs.size) (o := dictAt (cxEn X) s.heap.objs.size []) (t' := s.toks) (fun _ _ q => Heap.get?_push_of_some _ q) (Nat.le_refl _) (dict_ok (Nat.zero_le _) (sys_ne I.big) .nil (Heap.DictOfH.new s.heap)), rfl, h _ (I.hok.fresh (Nat.le_refl _))⟩⟩
theorem fresh_own {p : Addr} {o : HO} {d : D} (ha : At Wl F H) (hp : H p = none) (ho : OwnAt (cxEn X) F (upd H p o) p d) : Gr Wl F H F (upd H p o) ∧ F p = none ∧ Tame Wl p := by
  refine ⟨Gr.fresh ha hp, ?_, fun q hq z => ?_⟩
  · cases q : F p with
    | none => rfl
    | some u => rw [ha.fh p u q] at hp; cases hp
  · obtain ⟨_, o', e, _⟩ := ha.wl q hq
    rw [z, hp] at e; cases e
theorem wn_d0 {Q : D → Prop} (h : Q (.dict [])) : WN X Wl ρ (.Dict [] [] pos) Q := fun F H σ C ha hs hc => pe_d0.sem fun p hp => by
  have o : OwnAt (cxEn X) F (upd H p (dictAt (cxEn X) p [])) p (.dict []) := ⟨[], upd_same, .nil⟩
  obtain ⟨g, f, t⟩ := fresh_own ha hp o
  exact hc _ p F _ h g hp f t o

/-! ### d[k] = v, xs[i] = v -/
theorem Sta.put {i : Nat} {d d' : D} {o' : HO} {p : Addr} (s : Sta X Wl ρ F0 H0 F H σ) (hr : ρ[i]? = some (some (.own d))) (ep : σ[i]? = some (some (.ref p))) (w : OwnAt (cxEn X) F (upd H p o') p d') : Sta X Wl (ρ.set i (some (.own d'))) F0 H0 F (upd H p o') σ := by
  obtain ⟨v, ev, a, e0, fa, t, oa⟩ := s.sl.at_ i _ hr
  rw [ep] at ev
  cases ev
  cases e0
  have h0 := s.fr i _ p hr ep
  have g : Gr Wl F0 H0 F (upd H p o') := by
    refine ⟨s.gr.ff, fun b o e tb => ?_, s.gr.nw, fun b o e => ?_, fun q hq => ?_⟩
    · rw [upd_ne fun z => by rw [z, h0] at e; cases e]; exact s.gr.hh b o e tb
    · rw [upd_ne fun z => by rw [z, fa] at e; cases e]; exact s.at_.fh b o e
    · obtain ⟨q1, u, q2, q3⟩ := s.at_.wl q hq
      exact ⟨q1, u, by rw [upd_ne (t q hq)]; exact q2, q3⟩
  refine ⟨g, ⟨by rw [List.length_set]; exact s.sl.len, fun j r eR => ?_⟩, fun j d b h1 h2 => ?_, fun j k d d' hjk h1 h2 => ?_⟩
  · rcases get_set eR with ⟨n, z⟩ | ⟨n, eR⟩
    · subst n; cases z
      exact ⟨_, ep, p, rfl, fa, t, w⟩
    · obtain ⟨v, e2, q⟩ := s.sl.at_ j r eR
      refine ⟨v, e2, ?_⟩
      cases r with
      | val d => exact q
      | adr b => exact q
      | own d =>
        obtain ⟨b, rfl, fb, tb, ob⟩ := q
        have hbp : b ≠ p := fun z => by
          subst z
          exact s.sep i j _ _ n hr eR (by rw [ep, e2])
        exact ⟨b, rfl, fb, tb, ob.mono (Evl.Ex.refl F) fun _ z => by rw [upd_ne hbp]; exact z⟩
  · rcases get_set h1 with ⟨n, z⟩ | ⟨n, h1⟩
    · subst n; rw [ep] at h2; cases h2; exact h0
    · exact s.fr j d b h1 h2
  · rcases get_set h1 with ⟨n, z⟩ | ⟨n, h1⟩
    · subst n
      rcases get_set h2 with ⟨n', z⟩ | ⟨n', h2⟩
      · exact absurd n' hjk
      · exact s.sep i k _ d' hjk hr h2
    · rcases get_set h2 with ⟨n', z⟩ | ⟨n', h2⟩
      · subst n'; exact s.sep j i d _ hjk h1 hr
      · exact s.sep j k d d' hjk h1 h2
/-- name[k] = v, the name an own dict (v is evaluated ahead of the name and k) -/
theorem ws_dSet (i : Nat) {x : Str} {px sp : Pos} {kvs : List (D × D)} (hu : X.A.units + 100 < cLine) (hr : ρ[i]? = some (some (.own (.dict kvs)))) (h : WE X Wl ρ v (valK fun d => WE X Wl ρ k (valK fun kd => keyOk kd = true ∧ kvs.length < sizeLine ∧ Φ.nx (ρ.set i (some (.own (.dict (dPut kvs kd d))))))))
    (hN : X.N[i]? = some x := by rfl) (hv : Vis X.env.scope x := by first | exact Or.inl rfl | exact Or.inr (Or.inl rfl) | exact Or.inr (Or.inr rfl)) (hd : (x == ("__debug__" : Str)) = false := by decide) (hcd : (x == ("__classdict__" : Str)) = false := by decide)
    (hs : swapsWithSole [.Subscript (.Name x px) k sp] v pos.line X.env = pure false := by rfl) (hw : swappedStores [.Subscript (.Name x px) k sp] v X.env = pure none := by rfl) (h1 : (assignEach [.Subscript (.Name x px) k sp] X.env).map (·.2) = [assign (.Subscript (.Name x px) k sp) X.env] := by rfl)
    (hsub : PG X (.Subscript (.Name x px) k sp) (gSub (tVar i) (tSem X k) (rDSet (cxEn X))) := by exact pg_sub (pe_var (by assumption) (by assumption) (by assumption) (by assumption)) pe_sem (set_deep (by assumption))) :
    WS X Wl ρ (.Assign [.Subscript (.Name x px) k sp] v pos) Φ := fun F0 H0 F H σ E s m =>
  (ps_asg (pe_sem (e := v)) hsub hs hw h1).sem (h F H σ _ s.at_ s.sl fun r vv F1 H1 q g rr => by
    match r, q, rr with
    | .val d, q, rr =>
      have s1 := s.grow g
      obtain ⟨u, eu, p, e0, fp, t, kx, hp, rk⟩ := s1.sl.at_ i _ hr
      subst e0
      refine ⟨.ref p, eu, q F1 H1 σ _ g.at_ s1.sl fun r2 v2 F2 H2 q2 g2 rr2 => ?_⟩
      match r2, q2, rr2 with
      | .val kd, ⟨k1, k2, k3⟩, rr2 =>
        obtain ⟨b, rfl⟩ := key_ref k1 rr2
        have s2 := s1.grow g2
        have hp2 : H2 p = some (dictAt (cxEn X) p kx) := g2.hh p _ hp t
        have rk2 := rk.mono g2.ff
        refine ⟨p, kx, kd, b, F2, rfl, rfl, ⟨g2.at_.fh, .inl hp2, rk2.keys, k1, rr2⟩, hp2, by rw [← rk.length]; exact k2, ?_⟩
        exact m.nx _ F2 _ σ k3 (s2.put hr eu ⟨_, upd_same, rk2.put k1 rr2 (Rep.mono g2.ff rr)⟩))
end
end LC
/-! {k: v}; {k: v for ..}; list(d); walks of items. -/
namespace LC
open PySem L2 PySem.Spec PyProof.Rows
section
variable {X : Cx} {Wl : Wild} {ρ : Env'} {F0 H0 F H : Hp} {σ : L2.St} {Φ : Wish} {e a b c k v : Expr} {pos p : Pos} {Q : R → Prop}
theorem ex_fresh {p : Addr} {o : HO} (ha : At Wl F H) (hp : H p = none) : F p = none ∧ Tame Wl p := by
  refine ⟨?_, fun q hq z => ?_⟩
  · cases q : F p with
    | none => rfl
    | some u => rw [ha.fh p u q] at hp; cases hp
  · obtain ⟨_, o', e, _⟩ := ha.wl q hq
    rw [z, hp] at e; cases e
/-! ### {k: v} -/
def tD1 (en : En) (tk tv : TE) : TE := fun σ H Q => ∀ p, H p = none → tk σ (upd H p (dictAt en p [])) fun y H1 => tv σ H1 fun z H2 => ∃ kd b F, y = .ref b ∧ H2 p = some (dictAt en p []) ∧ Ex F H2 ∧ keyOk kd = true ∧ Rep en F kd (.ref b) ∧ Q (.ref p) (upd H2 p (dictAt en p [(keyOf kd, b, z)]))
theorem pe_d1 {tk tv : TE} (hu : X.A.units + 100 < cLine) (hk : PE X k tk) (hv : PE X v tv) : PE X (.Dict [some k] [v] pos) (tD1 (cxEn X) tk tv) := by
  refine ⟨fun pins s σ H Q I h => ?_⟩
  have hn := I.hok.fresh (Nat.le_refl s.heap.objs.size)
  have I1 := I.laid (a := s.heap.objs.size) (o := dictAt (cxEn X) s.heap.objs.size []) (h' := s.heap.push { cls := .type "dict", data := .dict #[] }) (t' := s.toks) (fun _ _ q => Heap.get?_push_of_some _ q) (Nat.le_refl _) (dict_ok (Nat.zero_le _) (sys_ne I.big) .nil (Heap.DictOfH.new s.heap))
  have hsh : (evalEachOpt [some k] X.env).zip ((evalEach [v] X.env).map fun v => do let x ← v; standAt pos; pure x) = (pairTrees [some k] [v] X.env pos).map fun p => (some p.1, p.2) := by rfl
  rw [arm_eval_Dict, hsh, dictDisplay_pairs (pairTrees [some k] [v] X.env pos) (by show (_ :: _ : List _) ≠ []; simp) (by show (1 : Nat) < 17; decide)]
  refine wpAny_bind (wpAny_standAt (wpAny_bind (wpAny_subDictH (knd := nestedKind X.prog X.w) (Q := fun d s' => wpAny (model X.prog X.w) X.A (pure (Value.ref d)) (EP X pins σ Q) X.xe s') (by show X.A.units + 8 < cLine; omega) (by show (1 : Nat) ≤ 15; decide) ?_)))
  refine pairTrees_cons_walk (thn (hk.run pins _ σ _ _ I1 (h _ hn)) fun uk s2 ⟨y, H2, I2, ry, q2⟩ => thn (hv.run pins s2 σ H2 _ I2 q2) fun uv s3 ⟨z, H3, I3, rz, kd, b, F, ey, hp, ex, k1, rk, q3⟩ => pairTrees_nil_walk ?_)
  subst ey
  cases ry
  obtain ⟨hz, hsys, xs, rr, hd⟩ := dict_of I3 ex (.inl hp) (kx := []) (fun _ z => by cases z)
  cases rr
  refine ⟨[(keyOf kd, b, uv)], ⟨rfl, rfl, key_is I3 ex k1 rk, trivial⟩, hd, fun h' tk' hd' sb => wpAny_pure ?_⟩
  have he : ∃ u, h'.get? s.heap.objs.size = some u := by obtain ⟨o, _, _, e, _⟩ := id hd'; exact ⟨o, e⟩
  have hd2 : h'.DictOfH (nestedKind X.prog X.w) s.heap.objs.size [(keyOf kd, b, uv)] := hd'
  exact ⟨.ref s.heap.objs.size, _, I3.write (x := s.heap.objs.size) (e := s.heap.objs.size) (t' := tk') (by rw [hp]; trivial) (.inl rfl) (fun c u hc e => (sb.2 c hc).trans e) he (dict_ok (by show 1 ≤ sizeLine; decide) hsys (.cons ⟨rfl, rfl, rz⟩ .nil) hd2), rfl, q3⟩
theorem wn_d1 {Q : D → Prop} (hu : X.A.units + 100 < cLine) (h : WE X Wl ρ k (valK fun kd => keyOk kd = true ∧ WE X Wl ρ v (valK fun d => Q (.dict [(kd, d)])))) : WN X Wl ρ (.Dict [some k] [v] pos) Q := fun F H σ C ha hs hc =>
  (pe_d1 hu (pe_sem (e := k)) (pe_sem (e := v))).sem fun p hp => by
    obtain ⟨fp, t⟩ := ex_fresh (o := dictAt (cxEn X) p []) ha hp
    have g0 : Gr Wl F H F (upd H p (dictAt (cxEn X) p [])) := Gr.fresh ha hp
    refine h F _ σ _ g0.at_ (hs.mono g0) fun r u F1 H1 q g1 ru => ?_
    match r, q, ru with
    | .val kd, ⟨k1, q⟩, ru =>
      obtain ⟨b, rfl⟩ := key_ref k1 ru
      refine q F1 H1 σ _ g1.at_ ((hs.mono g0).mono g1) fun r2 z F2 H2 q2 g2 rz => ?_
      match r2, q2, rz with
      | .val d, q2, rz =>
        have gg := g1.trans g2
        have hp2 : H2 p = some (dictAt (cxEn X) p []) := gg.hh p _ upd_same t
        have fp2 : F2 p = none := gg.nw p (by rw [upd_same]; simp) fp
        refine ⟨kd, b, F2, rfl, hp2, g2.at_.fh, k1, Rep.mono g2.ff ru, ?_⟩
        refine hc _ p F2 _ q2 ?_ hp fp2 t ⟨_, upd_same, .cons k1 (Rep.mono g2.ff ru) rz .nil⟩
        have gt := g0.trans gg
        refine ⟨gt.ff, fun x o e tx => ?_, gt.nw, fun x o e => ?_, fun q hq => ?_⟩
        · rw [upd_ne fun z => by rw [z, hp] at e; cases e]; exact gt.hh x o e tx
        · rw [upd_ne fun z => by rw [z, fp2] at e; cases e]; exact gt.at_.fh x o e
        · obtain ⟨q1, u, q2, q3⟩ := gt.at_.wl q hq
          exact ⟨q1, u, by rw [upd_ne (t q hq)]; exact q2, q3⟩

/-! ### {k: v for target in iter} -/
def tDcN (en : En) (wi : TI) (g : TG) (tk tv : TE) (vs : List Nat) : TE := fun σ H Q => wi σ H fun J H1 => ∀ p, H1 p = none → ∃ W : Nat → Nat → Hp → Prop, (∃ m, W 0 m (upd H1 p (dictAt en p []))) ∧ ∀ i m H, W i m H →
  (J.stop i H ∧ Q (.ref p) H) ∨ (J.go i H ∧ ∃ Nx : Hp → Prop, (∀ H', Nx H' → ∃ m', m' < m ∧ W (i + 1) m' H') ∧ ∀ x H', J.yld i H x H' → g x (wipe σ vs) H' fun σ2 H2 => wipe σ2 vs = wipe σ vs ∧ tk σ2 H2 fun y H4 => tv σ2 H4 fun z H5 =>
    ∃ kx kd b F, y = .ref b ∧ DK en H5 p kx kd b F ∧ H5 p = some (dictAt en p kx) ∧ kx.length < sizeLine ∧ Nx (upd H5 p (dictAt en p (kPut kx (keyOf kd) b z))))
theorem put_deep {pins : List (Addr × Obj)} {s : Shared} {E : Value → Shared → Prop} {Qe : Unit → Shared → Prop} {p b : Addr} {kx : Kx} {kd : D} {z : V} {uz : Value} (hu : X.A.units + 100 < cLine) (I : Inv X pins σ H s) (dk : DK (cxEn X) H p kx kd b F) (hp : H p = some (dictAt (cxEn X) p kx)) (hz : kx.length < sizeLine) (rz : RelV z uz)
    (h : ∀ s', Inv X pins σ (upd H p (dictAt (cxEn X) p (kPut kx (keyOf kd) b z))) s' → Qe () s') : wpAny (model X.prog X.w) X.A (dictSet p (.ref b) uz) Qe E s := by
  obtain ⟨_, hsys, xs, rr, hd⟩ := dict_of I dk.ex dk.rd dk.ks
  refine wpAny_dictSet_heap (hsz := by rw [← pk_len rr]; omega) (by show X.A.units + 8 < cLine; omega) (key_is I dk.ex dk.ok dk.rk) hd fun h' hd' sb => h _ ?_
  have he : ∃ u, h'.get? p = some u := by obtain ⟨o, _, _, e, _⟩ := id hd'; exact ⟨o, e⟩
  exact I.write (x := p) (e := p) (by rw [hp]; trivial) (.inl rfl) (fun c u hc e => (sb.2 c hc).trans e) he (dict_ok (Nat.le_trans (kPut_len ..) hz) hsys (pk_put rr rz) hd')
theorem pe_dcN {tg iter : Expr} {scope : Scope} {own : List (Str × Nat)} {wi : TI} {g : TG} {tk tv : TE} (hu : X.A.units + 100 < cLine) (hc : X.calm = true) (hN : X.N.Nodup) (hi : PI X tg iter wi) (ok : BlkOk X.N X.env.scope scope own)
    (hg : Blk X scope fun X' => PG X' tg g) (hk : Blk X scope fun X' => PE X' k tk) (hv : Blk X scope fun X' => PE X' v tv) (hs : ∀ x, foldedSetIterable iter X.env x = pure x) : PE X (.DictComp k v [⟨tg, iter, [], 0⟩] scope pos) (tDcN (cxEn X) wi g tk tv (own.map (·.2))) := by
  refine ⟨fun pins s σ H Q I h => ?_⟩
  rw [arm_eval_DictComp]
  have hfree : ∀ y ∈ scope.names, y.2 = .free → ∃ c, X.env.cells.lookup y.1 = some c := fun y hy e => (ok.free y hy e).elim (fun z => I.ok.has _ (.inl z)) (fun z => I.ok.has _ (.inr z))
  refine wpAny_comprehension_free (use := none) rfl hs (closure_ok hfree) ok.kind (fun y hy e => by rw [ok.uniq y hy, e]) (thn (hi.run pins s σ H _ I h) fun xv s1 hx => thn hx fun itv s2 h2 => ?_)
  obtain ⟨it, fp, tn, J, H2, e, I2, T, st2, f2, q⟩ := h2
  subst e
  refine wpAny_newObj_type (newEnv_comp ?_)
  generalize hP : s2.heap.objs.size = D0
  have hDn : H2 D0 = none := I2.hok.fresh (Nat.le_of_eq hP)
  obtain ⟨W, ⟨m0, w0⟩, turn⟩ := q D0 hDn
  generalize hs3 : ({ s2 with heap := s2.heap.push { cls := .type "dict", data := .dict #[] } } : Shared) = s3
  have I3 : Inv X pins σ (upd H2 D0 (dictAt (cxEn X) D0 [])) s3 := by
    subst hs3 hP
    exact I2.laid (t' := s2.toks) (fun _ _ e => Heap.get?_push_of_some _ e) (Nat.le_refl _) (dict_ok (Nat.zero_le _) (sys_ne I2.big) .nil (Heap.DictOfH.new s2.heap))
  have h3 : s3.heap = s2.heap.push { cls := .type "dict", data := .dict #[] } := by rw [← hs3]
  have f3 : ∀ b ∈ fp, FpOk X pins (upd H2 D0 (dictAt (cxEn X) D0 [])) b ∧ b < s3.heap.objs.size := fun b hb => by
    have hlt : b < s2.heap.objs.size := by obtain ⟨o, e, _⟩ := T.obj _ _ st2 b hb; exact Heap.lt_size e
    refine ⟨⟨?_, (f2 b hb).2⟩, by rw [h3, Heap.size_push]; exact Nat.lt_succ_of_lt hlt⟩
    rw [upd_ne (by rw [← hP]; exact Nat.ne_of_lt hlt)]; exact (f2 b hb).1
  have st3 : tn 0 s3.heap := T.keep _ _ _ st2 fun b _ o e => by rw [h3]; exact Heap.get?_push_of_some _ e
  have I4 := block_start I3 ok hN f3
  generalize hH3 : upd H2 D0 (dictAt (cxEn X) D0 []) = H3 at I3 I4 w0 f3
  generalize hcl : cellsFrom (s3.heap.objs.size + 1) scope.names (cloFrom X.env.cells scope.names []) = cl at I4
  have pg := hg s3 H3 s3.heap.objs.size cl fp
  have pk := hk s3 H3 s3.heap.objs.size cl fp
  have pv := hv s3 H3 s3.heap.objs.size cl fp
  show codeAny _ _ (.compStart (.DictComp k v [⟨tg, iter, [], 0⟩] scope pos) 0 (.ref it) (.ref D0) (compEnvC scope cl s3.heap.objs.size X.env)) (compPost (model X.prog X.w) X.A X.xe none (EP X pins σ Q) (.ref D0) s3.heap.objs.size) { s3 with heap := pushCells (s3.heap.push { cls := .type "dict", data := .dict #[] }) scope.names }
  have nfp : ∀ b ∈ fp, H3 b = none := fun b hb => (f3 b hb).1.1
  generalize hce : compEnvC scope cl s3.heap.objs.size X.env = ce at I4 pg pk pv ⊢
  have cL : ce.locals = s3.heap.objs.size := by subst hce; rfl
  generalize hs4 : ({ s3 with heap := pushCells (s3.heap.push { cls := .type "dict", data := .dict #[] }) scope.names } : Shared) = s4 at I4 ⊢
  have st4 : tn 0 s4.heap := T.keep _ _ _ st3 fun b _ o e => by rw [← hs4]; exact pushCells_keeps _ _ _ _ (Heap.get?_push_of_some _ e)
  have stat : ∀ {σ' : L2.St} {H' : Hp} {s' : Shared}, Inv (X.blk s3 H3 scope ce fp) [] σ' H' s' → (∀ b ∈ fp, H' b = none) → ∀ b ∈ fp, FpOk (X.blk s3 H3 scope ce fp) [] H' b := fun {_ _ _} I' hn b hb =>
    ⟨hn b hb, (I'.ok.exf b hb).1, I'.ok.exfs b hb, .inl hb, fun x c e => (I'.ok.exf b hb).2 x c e, fun p hp => by cases hp⟩
  have loop : codeAny (model X.prog X.w) X.A (.compLoop (.DictComp k v [⟨tg, iter, [], 0⟩] scope pos) 0 (.ref it) (.ref D0) ce) (compPost (model X.prog X.w) X.A X.xe none (EP X pins σ Q) (.ref D0) s3.heap.objs.size) s4 := by
    refine compLoop_anyD (fun n s' => ∃ i H', Inv (X.blk s3 H3 scope ce fp) [] (wipe σ (own.map (·.2))) H' s' ∧ tn i s'.heap ∧ (∀ b ∈ fp, H' b = none) ∧ W i n H') ?_ m0 ⟨0, H3, I4, st4, nfp, w0⟩
    rintro n s5 ⟨i, H5, I5, st5, n5, w5⟩
    rcases turn i n H5 w5 with ⟨stop, qq⟩ | ⟨go, Nx, hNx, step⟩
    · refine thnF (T.done (X.blk s3 H3 scope ce fp) rfl rfl rfl hc i [] s5 _ H5 (fun _ _ => False) I5 (stat I5 n5) st5 stop) fun r s6 ⟨hr, I6⟩ => ?_
      subst hr
      have I7 : Inv X pins σ H5 s6 := I3.call' (ch := fp) I6.os I6.base I6.hok I6.bare fun b hb => ⟨(f3 b hb).1.2.2.2.1, (f3 b hb).1.2.1, (f3 b hb).1.2.2.2.2.1, (f3 b hb).1.2.2.2.2.2⟩
      have nC : H5 s3.heap.objs.size = none := by have z : H5 ce.locals = none := I6.free; rwa [cL] at z
      obtain ⟨m, hn, _⟩ := I6.loc
      have hn : s6.heap.Ns ce.locals m := hn
      rw [cL] at hn
      obtain ⟨f0, f1, _, f3', f4, f5⟩ := I3.fpOk (Nat.le_refl _) nC
      exact ⟨m, hn, fun h'' sb => ⟨.ref D0, H5, I7.turned (t' := s6.toks) (fun b o hb e => (sb.2 b hb).trans e) f0 f1 f3' f4 f5, rfl, qq⟩⟩
    · refine thnF (T.item (X.blk s3 H3 scope ce fp) rfl rfl rfl hc i [] s5 _ H5 (fun _ _ => False) I5 (stat I5 n5) st5 go) fun r s6 ⟨u, hr, h6⟩ => ?_
      subst hr
      refine thnF h6 fun _ s7 ⟨x, H7, I7, r7, y7, st7, n7⟩ => ?_
      have I7' := I7.pinned (stat I7 n7) (T.obj _ _ st7)
      refine thnF (pg.run _ s7 _ H7 x u _ I7' r7 (step x H7 y7)) fun _ s8 ⟨σ8, H8, I8, hw8, q8⟩ => wpAny_tests_nil ?_
      rw [if_pos rfl]
      have fin : ∀ {s' : Shared} {H' : Hp}, Inv (X.blk s3 H3 scope ce fp) ([] ++ pinsAt fp s7.heap) σ8 H' s' → Nx H' → ∃ m, m < n ∧ ∃ i H', Inv (X.blk s3 H3 scope ce fp) [] (wipe σ (own.map (·.2))) H' s' ∧ tn i s'.heap ∧ (∀ b ∈ fp, H' b = none) ∧ W i m H' := fun {s' H'} I' nx => by
        obtain ⟨m', hm, w'⟩ := hNx H' nx
        have pin' : ∀ b ∈ fp, ∀ o, s7.heap.get? b = some o → s'.heap.get? b = some o ∧ H' b = none := fun b hb o e =>
          let z := I'.pin (b, o) (List.mem_append_right _ (List.mem_append_right _ (mem_pinsAt hb e)))
          ⟨z.1, z.2.1⟩
        refine ⟨m', hm, i + 1, H', (I'.unpinned (pins := [])).weak (by rw [← hw8, wipe_length]) (fun j v e => (wipe_some (by rw [← hw8] at e; exact e)).1), T.keep _ _ _ st7 fun b hb o e => (pin' b hb o e).1, fun b hb => ?_, w'⟩
        obtain ⟨o, e, _⟩ := T.obj _ _ st7 b hb
        exact (pin' b hb o e).2
      refine thnF (pk.run _ s8 σ8 H8 _ I8 q8) fun z s10 ⟨yk, H10, I10, r10, q10⟩ => ?_
      refine thnF (pv.run _ s10 σ8 H10 _ I10 q10) fun z2 s11 ⟨yv, H11, I11, r11, kx, kd, b, F, ek, dk, hp, hz, nx⟩ => ?_
      subst ek
      cases r10
      exact put_deep (X := X.blk s3 H3 scope ce fp) hu I11 dk hp hz r11 fun s12 I12 => fin I12 nx
  exact codeAny_compStart_dict loop (T.self X.A 0 _ _ _ st4 loop)
end
end LC
/-! sorted(a list), sorted(a dict), list(a dict), over deep data. -/
namespace LC
open PySem L2 PySem.Spec PyProof.Rows
open PySem.W (AllAlike Sortable dataLe EachIs)
/-- the order of sorted -/
def sortD (ds : List D) : List D := ds.mergeSort (dataLe false id)
theorem sort_snd (bs : List (V × D)) : (bs.mergeSort (dataLe false (·.2))).map (·.2) = sortD (bs.map (·.2)) := by
  unfold sortD
  exact List.map_mergeSort (fun a _ b _ => rfl)
structure SortOk (ds : List D) : Prop where
  pl : ds.all (pl 8) = true
  al : AllAlike ds
  so : Sortable ds
section
variable {X : Cx} {Wl : Wild} {ρ : Env'} {F H : Hp} {e a : Expr} {pos p : Pos} {Q : R → Prop}
def rSortL (K : PySem.W.Frag) : List V → Hp → VK → Prop := fun vs H Q => ∃ (p : Addr) (bs : List (V × D)), vs = [.ref p] ∧ SqL K H p (bs.map (·.1)) ∧ (∀ b ∈ bs, Dp K H b.1 b.2) ∧ AllAlike (bs.map (·.2)) ∧ Sortable (bs.map (·.2)) ∧ (∀ b ∈ bs, b.2.depth ≤ 8) ∧
  ∀ q, H q = none → Q (.ref q) (upd H q (.lst ((bs.mergeSort (dataLe false (·.2))).map (·.1))))
theorem each_of {R : Value → V × D → Prop} : ∀ {bs : List (V × D)} {us : List Value}, Vals (bs.map (·.1)) us → (∀ b ∈ bs, ∀ u, RelV b.1 u → R u b) → EachIs R us bs
  | [], _, r, _ => by cases r; exact .nil
  | b :: bs, _, r, h => by
    cases r with
    | cons q t => exact .cons (h b List.mem_cons_self _ q) (each_of t fun b hb => h b (List.mem_cons_of_mem _ hb))
theorem vals_each : ∀ {us : List Value} {bs : List (V × D)}, EachIs (fun u b => RelV b.1 u) us bs → Vals (bs.map (·.1)) us
  | _, _, .nil => .nil
  | _, _, .cons q t => .cons q (vals_each t)
theorem cr_sortD (hu : X.A.units + 100 < cLine) : CallR X (.builtin "sorted") (rSortL X.K) := by
  intro pins s σ H vs us Q I r ⟨p, bs, e, hq, hd, al, so, dp, q⟩
  subst e
  obtain rfl := Vals.ref1 r
  obtain ⟨its, rv, pl, hz⟩ := I.list hq
  have hl := rv.length
  rw [List.length_map] at hl hz
  refine PySem.W.sorted_data (β := V × D) (enc := (·.2)) (vs := its) (bs := bs) (R := fun u b => RelV b.1 u) pl.isList (each_of rv fun b _ u z => z) (each_of rv fun b hb u z => Dp.reads I b.2 b.1 u (hd b hb) z) al so hz (fun b hb => by have := dp b hb; omega) fun out ho er => ?_
  obtain ⟨c, hc⟩ := sortedAll_at s.heap its (List.toArray out)
  refine ⟨.ref (s.heap.objs.size + 1), _, I.laid (a := s.heap.objs.size + 1) (o := .lst ((bs.mergeSort (dataLe false (·.2))).map (·.1))) (t' := s.toks) (fun b o e => sortedAll_old e) (Nat.le_succ _) ⟨?_, out, c, vals_each er, hc⟩, rfl, q _ (I.hok.fresh (Nat.le_succ _))⟩
  rw [List.length_map, List.length_mergeSort]; exact hz
theorem zip_of {en : En} {F H : Hp} (ex : Ex F H) : ∀ (ds : List D) {xs : List V}, ds.all (pl 8) = true → RepA en F ds xs → ∃ bs : List (V × D), bs.map (·.1) = xs ∧ bs.map (·.2) = ds ∧ (∀ b ∈ bs, Dp en.K H b.1 b.2) ∧ (∀ b ∈ bs, b.2.depth ≤ 8) ∧ ∀ b ∈ bs, Rep en F b.2 b.1
  | [], _, _, r => by cases r; exact ⟨[], rfl, rfl, fun _ h => (nomatch h), fun _ h => (nomatch h), fun _ h => (nomatch h)⟩
  | d :: ds, xs, h, r => by
    obtain ⟨v, vs, rfl, r, t⟩ : ∃ v vs, xs = v :: vs ∧ Rep en F d v ∧ RepA en F ds vs := by cases r with | cons r t => exact ⟨_, _, rfl, r, t⟩
    simp only [List.all_cons, Bool.and_eq_true] at h
    obtain ⟨bs, h1, h2, h3, h4, h5⟩ := zip_of ex ds h.2 t
    refine ⟨(v, d) :: bs, by rw [List.map_cons, h1], by rw [List.map_cons, h2], fun b hb => ?_, fun b hb => ?_, fun b hb => ?_⟩ <;> rcases List.mem_cons.mp hb with rfl | hb
    · exact Rep.dp ex 8 h.1 r
    · exact h3 b hb
    · exact (pl_lay 8 d h.1).2
    · exact h4 b hb
    · exact r
    · exact h5 b hb
theorem repA_of {en : En} {F : Hp} : ∀ {bs : List (V × D)}, (∀ b ∈ bs, Rep en F b.2 b.1) → RepA en F (bs.map (·.2)) (bs.map (·.1))
  | [], _ => .nil
  | b :: bs, h => .cons (h b List.mem_cons_self) (repA_of fun b hb => h b (List.mem_cons_of_mem _ hb))
/-- the list of a list value, own or known -/
def listOfR : R → Option (List D)
  | .val (.list ds) => some ds
  | .own (.list ds) => some ds
  | _ => none
theorem seq_of {r : R} {v : V} {ds : List D} (at_ : At Wl F H) (h : listOfR r = some ds) (rr : RepR (cxEn X) Wl F H r v) : ∃ q xs, v = .ref q ∧ H q = some (.lst xs) ∧ RepA (cxEn X) F ds xs := by
  match r, h, rr with
  | .val (.list _), h, rr => cases h; exact RepR.seqL at_ (.inl rr)
  | .own (.list _), h, rr => cases h; exact RepR.seqL at_ (.inr rr)
theorem we_sorted (B : Bare X.mg) (hu : X.A.units + 100 < cLine) (h : WE X Wl ρ a fun r => ∃ ds, listOfR r = some ds ∧ SortOk ds ∧ Q (.val (.list (sortD ds)))) (hg : Gl X "sorted" := by rfl) (he : starEach [a] X.env = (false, eval a X.env) :: starEach [] X.env := by rfl) : WE X Wl ρ (.Call (.Name "sorted" p) [a] [] pos) Q := fun F H σ C ha hs hc =>
  (pe_callB (cr_sortD hu) hg B.sorted (by decide +kernel) (pa_cons pe_sem pa_nil he) (by decide) (by decide) he (by rfl)).sem (h F H σ _ ha hs fun r v F1 H1 ⟨ds, hl, so, q⟩ g rr => by
    obtain ⟨p, xs, rfl, hp, ra⟩ := seq_of g.at_ hl rr
    obtain ⟨bs, b1, b2, b3, b4, b5⟩ := zip_of g.at_.fh ds so.pl ra
    subst b1 b2
    refine ⟨p, bs, rfl, SqL.of hp, b3, so.al, so.so, b4, fun z hz => ?_⟩
    have g2 := Gr.new (o := .lst ((bs.mergeSort (dataLe false (·.2))).map (·.1))) g.at_ hz
    rw [← sort_snd] at q
    exact hc _ _ _ _ q (g.trans g2) (.list upd_same ((repA_of fun b hb => b5 b (List.mem_mergeSort.mp hb)).mono g2.ff)))
end
end LC
/-! set(ints), of a list and of a tuple; sorted(that). -/
namespace LC
open PySem L2 PySem.Spec PyProof.Rows
abbrev setObj0 (w : World) : Obj := { cls := .type "set", dict := none, data := .set #[] 0 (.fresh 0 0 (!w.params.followText "set-order")) }
section
variable {P : Program} {w : World} {A : Around} {E : Value → Shared → Prop} {s : Shared}
theorem set_of_list {l : Addr} {us : Array Value} (ns : List Int) {Q : Value → Shared → Prop} (hh : A.handled = none) (hl : s.heap.IsList l us) (hit : IntsAre us.toList ns) (hb : ns.length + 1 < scanBound)
    (h : ∀ (h' : Heap) (tk c : Nat), SetR w h' s.heap.objs.size (fun j => decide (j ∈ ns)) c → c ≤ ns.length → (∀ b o, s.heap.get? b = some o → h'.get? b = some o) → Q (.ref s.heap.objs.size) { s with heap := h', toks := tk }) : wpAny (model P w) A (call (.type "set") [.ref l]) Q E s := by
  have usz : us.size = ns.length := by have q := IntsAre.length hit; rw [Array.length_toList] at q; exact q
  obtain ⟨c, tl, hmro⟩ := F.called_set.mro
  have hm1 := F.called_set.made
  have hs1 := F.called_set.sub
  refine wpAny_call (codeAny_of_tree ?_)
  show wpAny _ _ (callAny (.type "set") _) _ _ _
  refine wpAny_pure ⟨Code.quiet_builtin _ (by decide +kernel), codeAny_builtin F.entry_type_call ?_⟩
  rw [Around.under_plain (weight_type_call_type "set" [.ref l] []) rfl]
  have hn1 := F.called_set.notType
  have hn2 := F.called_set.canCreate
  have hn3 := F.typeCall_set_1 (.ref l)
  repeat (any_goals (first | assumption | wp_step))
  refine codeAny_mono (code_set_led1 (.ref l) (E := E) (Q₁ := fun ob s1 => ob = .ref s.heap.objs.size ∧ s1 = { s with heap := s.heap.push (setObj0 w) }) ⟨rfl, rfl⟩) fun r s1 hr => ?_
  cases r with
  | error e => exact hr
  | ok fl =>
    cases fl with
    | ret ob =>
      obtain ⟨rfl, rfl⟩ := hr
      have hS : (s.heap.push (setObj0 w)).get? s.heap.objs.size = some (setObj0 w) := Heap.get?_push_size _ rfl
      have hT : Shared.TypeIs { s with heap := s.heap.push (setObj0 w) } (.ref s.heap.objs.size) "set" := ⟨_, hS, rfl⟩
      have hn4 := F.called_set.init.lookup
      have hn5 := F.called_set.init.bind (.ref s.heap.objs.size)
      repeat (any_goals (first | assumption | wp_step))
      refine codeAny_mono (codeAny_call_builtin (R := wants (fun r s2 => r = .none ∧ ∃ h' tk c, s2 = { s with heap := h', toks := tk } ∧ SetR w h' s.heap.objs.size (fun j => decide (j ∈ ns)) c ∧ c ≤ ns.length ∧ (∀ b o, s.heap.get? b = some o → h'.get? b = some o)) E)
        F.called_set.init.plain F.entry_set_init (check_set_init_1 hT ?_)) fun r2 s2 hr2 => ?_
      · obtain ⟨⟨ocls, odict, odata, oslots⟩, hol, hcl, nl, hdl⟩ := hl
        simp only at hcl hdl
        subst hcl hdl
        have hol' : (s.heap.push (setObj0 w)).get? l = some { cls := .type "list", dict := odict, data := .seq us nl, slots := oslots } := Heap.get?_push_of_some _ hol
        have hn6 := F.sub_list_set
        have hn7 := F.sub_list_frozenset
        have hn8 : (Value.type "list" == Value.type "dict") = false := by decide
        have hl1 : (s.heap.push (setObj0 w)).IsList l us := ⟨_, hol', rfl, nl, rfl⟩
        unfold Builtin.«set.__init__» noKeywords Builtin.Frozenset.updateFrom
        generalize hPI : pyIter = PIt
        wp_walk
        subst hPI
        refine wpAny_pyIter_list hl1 (wpAny_bind (wpAny_runValue ?_))
        have hlS : l < s.heap.objs.size := Heap.lt_size hol
        have hh3 : A.in1.in1.in1.handled = none := by simp [hh]
        have e1 : (s.heap.push (setObj0 w)).objs.size = s.heap.objs.size + 1 := Heap.size_push ..
        have hneI : l ≠ (s.heap.push (setObj0 w)).objs.size := by rw [e1]; exact Nat.ne_of_lt (Nat.lt_succ_of_lt hlS)
        have hSf : s.heap.objs.size ∉ [(s.heap.push (setObj0 w)).objs.size, l] := by
          rw [e1]; simp only [List.mem_cons, List.not_mem_nil, or_false, not_or]
          exact ⟨Nat.ne_of_lt (Nat.lt_succ_self _), Nat.ne_of_gt hlS⟩
        have hval : ∀ (i : Nat) (v : Value), us[i]? = some v → ∃ k t, ns[i]? = some k ∧ v = .int k t := fun i v hv => by
          have hi : i < ns.length := by rw [← usz]; exact (Array.getElem?_eq_some_iff.mp hv).1
          obtain ⟨t, e⟩ := PyProof.Rows.IntsAre.int_at hit i v (by rw [Array.getElem?_toList]; exact hv)
          exact ⟨ns[i], t, List.getElem?_eq_getElem hi, by rw [e, List.getD_eq_getElem?_getD, List.getElem?_eq_getElem hi] <;> rfl⟩
        refine set_update_ints ((Walks.list hh3 _ l hneI us).toS) s.heap.objs.size hSf ns usz hb hval (us.size - 0) 0 _ (by omega) (Nat.zero_le _) ⟨⟨_, Heap.get?_push_size _ rfl, rfl, rfl⟩, (hl1.push _)⟩ ?hS0 ?hR
        case hS0 => exact ⟨0, Nat.le_refl 0, setR_new_at (Heap.get?_push_of_some _ hS)⟩
        case hR =>
          intro s' c' hm hc' hS'
          obtain ⟨h', g2, d', tk', os'⟩ := s'
          obtain rfl : g2 = s.gens := hm.gens
          obtain rfl : d' = s.drawn := hm.drawn
          obtain rfl : os' = s.os := hm.os
          show wpAny _ _ _ _ _ _
          refine wpAny_pure ?_
          show wpAny _ _ (ret Value.none) _ _ _
          rw [usz] at hc'
          refine wpAny_pure ⟨rfl, h', tk', c', rfl, hS', hc', fun b o e => ?_⟩
          have b0 : b < s.heap.objs.size := Heap.lt_size e
          refine hm.heap b o ?_ (Heap.get?_push_of_some _ (Heap.get?_push_of_some _ e))
          rw [e1]; simp only [List.mem_cons, List.not_mem_nil, or_false, not_or]
          exact ⟨Nat.ne_of_lt b0, Nat.ne_of_lt (Nat.lt_succ_of_lt b0)⟩
      · cases r2 with
        | error e => exact hr2
        | ok f2 =>
          cases f2 with
          | ret r =>
            obtain ⟨rfl, h', tk, c', rfl, q1, q2, q3⟩ := hr2
            repeat (any_goals (first | assumption | wp_step))
            exact h _ _ _ q1 q2 q3
          | _ => exact hr2.elim
    | _ => exact hr.elim
end
section
variable {X : Cx} {Wl : Wild} {ρ : Env'} {F H : Hp} {e a : Expr} {pos p p2 pos2 : Pos} {Q : R → Prop}
def rSetI (K : PySem.W.Frag) (w : World) : List V → Hp → VK → Prop := fun vs H Q => ∃ (l : Addr) (ns : List Int), vs = [.ref l] ∧ (SqL K H l (ns.map V.int) ∨ SqT K H l (ns.map V.int)) ∧ ns.length < 60 ∧ ∀ p c, c ≤ ns.length → H p = none → Q (.ref p) (upd H p (SetO w p (fun j => decide (j ∈ ns)) c))
theorem cr_setI (hc : X.calm = true) : CallR X (.type "set") (rSetI X.K X.w) := by
  intro pins s σ H vs us Q I r ⟨l, ns, e, hq, hz, q⟩
  subst e
  obtain rfl := Vals.ref1 r
  have hsb : ns.length + 1 < scanBound := by unfold scanBound; omega
  have fin : ∀ (h' : Heap) (tk c : Nat), SetR X.w h' s.heap.objs.size (fun j => decide (j ∈ ns)) c → c ≤ ns.length → (∀ b o, s.heap.get? b = some o → h'.get? b = some o) → EP X pins σ Q (.ref s.heap.objs.size) { s with heap := h', toks := tk } := fun h' tk c R hc' k =>
    ⟨.ref s.heap.objs.size, _, I.laid (a := s.heap.objs.size) (t' := tk) k (Nat.le_refl _) (setO_new R), rfl, q _ c hc' (I.hok.fresh (Nat.le_refl _))⟩
  rcases hq with hq | hq
  · obtain ⟨its, rv, pl, _⟩ := I.list hq
    exact set_of_list ns (I.ok.hd hc) pl.isList (by rw [List.toList_toArray]; exact ints_of_vals rv) hsb fin
  · obtain ⟨its, rv, pl, _⟩ := I.tuple hq
    exact call_set_tupI ns (I.ok.hd hc) (show s.heap.IsTuple l its.toArray from pl) (by rw [List.toList_toArray]; exact ints_of_vals rv) hsb fin
/-- the numbers of a list or a tuple -/
def numsOf (r : R) (ns : List Int) : Prop := r = .val (.list (ns.map PyData.int)) ∨ r = .own (.list (ns.map PyData.int)) ∨ r = .val (.tuple (ns.map PyData.int))
theorem nums_at {r : R} {v : V} {ns : List Int} (at_ : At Wl F H) (h : numsOf r ns) (rr : RepR (cxEn X) Wl F H r v) : ∃ l, v = .ref l ∧ (SqL X.K H l (ns.map V.int) ∨ SqT X.K H l (ns.map V.int)) := by
  rcases h with h | h | h <;> subst h
  · obtain ⟨q, xs, rfl, hq, ra⟩ := RepR.seqL at_ (.inl rr)
    have := ra.ints; subst this
    exact ⟨q, rfl, .inl (SqL.of hq)⟩
  · obtain ⟨q, xs, rfl, hq, ra⟩ := RepR.seqL at_ (.inr rr)
    have := ra.ints; subst this
    exact ⟨q, rfl, .inl (SqL.of hq)⟩
  · obtain ⟨q, xs, rfl, hq, ra⟩ := Rep.seqT at_ rr
    have := ra.ints; subst this
    exact ⟨q, rfl, .inr hq⟩
/-- sorted(set(a)), a few whole numbers -/
theorem we_sortSet (B : Bare X.mg) (h : WE X Wl ρ a fun r => ∃ ns : List Int, numsOf r ns ∧ ns.length < 60 ∧ ∀ out : List Int, out.Pairwise (· < ·) → (∀ k, k ∈ out ↔ k ∈ ns) → Q (.val (.list (out.map PyData.int)))) (hc : X.calm = true := by rfl) (hg : Gl X "sorted" := by rfl) (hg2 : Gl X "set" := by rfl)
    (he : starEach [a] X.env = (false, eval a X.env) :: starEach [] X.env := by rfl) (he2 : starEach [.Call (.Name "set" p2) [a] [] pos2] X.env = (false, eval (.Call (.Name "set" p2) [a] [] pos2) X.env) :: starEach [] X.env := by rfl) :
    WE X Wl ρ (.Call (.Name "sorted" p) [.Call (.Name "set" p2) [a] [] pos2] [] pos) Q := fun F H σ C ha hs hcc =>
  (pe_callB (cr_sortedSet hc) hg B.sorted (by decide +kernel) (pa_cons (pe_callTy (cr_setI hc) hg2 B.set PyProof.Rows.boot_set (pa_cons pe_sem pa_nil he) (by decide) (by decide) he (by rfl)) pa_nil he2) (by decide) (by decide) he2 (by rfl)).sem (h F H σ _ ha hs fun r v F1 H1 ⟨ns, hn, hl, q⟩ g rr => by
    obtain ⟨l, rfl, hq⟩ := nums_at g.at_ hn rr
    refine ⟨l, ns, rfl, hq, hl, fun p c hcl hp => ⟨p, _, c, rfl, upd_same, by omega, fun out z ho hm _ hz => ?_⟩⟩
    have g1 := Gr.fresh (o := SetO X.w p (fun j => decide (j ∈ ns)) c) g.at_ hp
    have g2 := Gr.new (o := .lst (out.map V.int)) g1.at_ hz
    exact hcc _ _ _ _ (q out ho fun k => by rw [hm k, decide_eq_true_eq]) ((g.trans g1).trans g2) (.list upd_same (RepA.of_ints out)))
end
end LC
/-! {k: v for ..} over deep data; items walked; list(d), sorted(d). -/
namespace LC
open PySem L2 PySem.Spec PyProof.Rows
open PySem.W (AllAlike Sortable dataLe EachIs KdlSrc)
section
variable {X : Cx} {Wl : Wild} {ρ : Env'} {F0 H0 F H F' H' : Hp} {σ : L2.St} {Φ : Wish} {e a b c k v tg iter : Expr} {pos p : Pos} {Q : R → Prop} {js : List Nat} {scope : Scope}
/-- the new dict as it grows -/
structure AccD (X : Cx) (Wl : Wild) (F1 H1 F H : Hp) (p : Addr) (acc : List (D × D)) : Prop where
  gr : Gr Wl F1 H1 F H
  fp : F p = none
  tm : Tame Wl p
  at_ : ∃ kx, H p = some (dictAt (cxEn X) p kx) ∧ RepK (cxEn X) F acc kx
theorem AccD.grow {F1 H1 : Hp} {p : Addr} {acc : List (D × D)} (a : AccD X Wl F1 H1 F H p acc) (g : Gr Wl F H F' H') : AccD X Wl F1 H1 F' H' p acc := by
  obtain ⟨xs, e, r⟩ := a.at_
  exact ⟨a.gr.trans g, g.nw p (by rw [e]; simp) a.fp, a.tm, xs, g.hh p _ e a.tm, r.mono g.ff⟩
theorem AccD.put {F1 H1 : Hp} {p : Addr} {acc acc' : List (D × D)} {kx' : Kx} (hp : H1 p = none) (a : AccD X Wl F1 H1 F H p acc) (r : RepK (cxEn X) F acc' kx') : AccD X Wl F1 H1 F (upd H p (dictAt (cxEn X) p kx')) p acc' := by
  refine ⟨⟨a.gr.ff, fun b o q t => ?_, a.gr.nw, fun b o q => ?_, fun q hq => ?_⟩, a.fp, a.tm, _, upd_same, r⟩
  · rw [upd_ne fun z => by rw [z, hp] at q; cases q]; exact a.gr.hh b o q t
  · rw [upd_ne fun z => by rw [z, a.fp] at q; cases q]; exact a.gr.at_.fh b o q
  · obtain ⟨q1, u, q2, q3⟩ := a.gr.at_.wl q hq
    exact ⟨q1, u, by rw [upd_ne (a.tm q hq)]; exact q2, q3⟩
theorem wn_dc {own : List (Str × Nat)} {Q : D → Prop} (hu : X.A.units + 100 < cLine) (hcm : X.calm = true) (hN : X.N.Nodup) (ok : BlkOk X.N X.env.scope scope own) (hj : ∀ j ∈ js, j ∈ own.map (·.2))
    (h : WI X Wl ρ tg iter fun ds => ∃ P : Nat → List (D × D) → Prop, P 0 [] ∧ (∀ i d acc, ds[i]? = some d → P i acc → Blk X scope fun X' => WG X' Wl js (wipeR ρ (own.map (·.2))) tg d fun ρ2 => Blk X scope fun X' => WE X' Wl ρ2 k (valK fun kd => keyOk kd = true ∧
      Blk X scope fun X' => WE X' Wl ρ2 v (valK fun d => acc.length < sizeLine ∧ P (i + 1) (dPut acc kd d)))) ∧ ∀ acc, P ds.length acc → Q (.dict acc))
    (hs : ∀ x, foldedSetIterable iter X.env x = pure x := by intro _; rfl) : WN X Wl ρ (.DictComp k v [⟨tg, iter, [], 0⟩] scope pos) Q := fun F H σ C ha hsl hc =>
  (pe_dcN hu hcm hN (pi_sem (tg := tg) (iter := iter)) ok (fun s H C cl fp => pg_B s H C cl fp) (fun s H C cl fp => pe_B s H C cl fp) (fun s H C cl fp => pe_B s H C cl fp) hs).sem (h F H σ _ ha hsl fun ds J F1 H1 q g wk p hp => by
    obtain ⟨P, h0, step, last⟩ := q
    have hw : Slots (cxEn X) Wl (wipeR ρ (own.map (·.2))) F1 H1 (wipe σ (own.map (·.2))) := (hsl.mono g).wipe _
    obtain ⟨fp, tp⟩ := ex_fresh (o := dictAt (cxEn X) p []) g.at_ hp
    refine ⟨fun i m H => m = ds.length - i ∧ i ≤ ds.length ∧ ∃ F acc, P i acc ∧ AccD X Wl F1 H1 F H p acc, ⟨_, rfl, Nat.zero_le _, F1, [], h0, Gr.fresh g.at_ hp, fp, tp, [], upd_same, .nil⟩, ?_⟩
    rintro i m H2 ⟨rfl, hi, F2, acc, pa, a⟩
    by_cases hlt : i < ds.length
    · obtain ⟨go, yl⟩ := wk.go F2 H2 i ds[i] a.gr.ff a.gr.at_ (List.getElem?_eq_getElem hlt)
      refine .inr ⟨go, fun H => ∃ F acc, P (i + 1) acc ∧ AccD X Wl F1 H1 F H p acc, fun H' p' => ⟨_, by omega, rfl, hlt, p'⟩, fun x H3 y => ?_⟩
      obtain ⟨F3, g3, rx⟩ := yl x H3 y
      have a3 := a.grow g3
      intro s' Hs C' cl fp
      refine step i _ acc (List.getElem?_eq_getElem hlt) pa s' Hs C' cl fp F3 H3 (wipe σ (own.map (·.2))) x _ g3.at_ (hw.mono a3.gr) rx fun ρ' σ' k o => ?_
      refine ⟨(wipe_eq o.len fun j hjv => (o.out j fun z => hjv (hj j z)).1).trans (wipe_eq (wipe_length ..) fun j hjv => wipe_out hjv), ?_⟩
      intro s2 Hs2 C2 cl2 fp2
      refine k s2 Hs2 C2 cl2 fp2 F3 H3 σ' _ g3.at_ o.sl fun r u F4 H4 q4 g4 r4 => ?_
      match r, q4, r4 with
      | .val kd, ⟨k1, q4⟩, r4 =>
        obtain ⟨b, rfl⟩ := key_ref k1 r4
        intro s5 Hs5 C5 cl5 fp5
        refine q4 s5 Hs5 C5 cl5 fp5 F4 H4 σ' _ g4.at_ (o.sl.mono g4) fun r2 z F5 H5 q5 g5 r5 => ?_
        match r2, q5, r5 with
        | .val d, ⟨z5, q5⟩, r5 =>
          have a5 := (a3.grow g4).grow g5
          obtain ⟨kx, e, rk⟩ := a5.at_
          have rk5 := Rep.mono g5.ff r4
          exact ⟨kx, kd, b, F5, rfl, ⟨g5.at_.fh, .inl e, rk.keys, k1, rk5⟩, e, by rw [← rk.length]; exact z5, F5, _, q5, a5.put hp (rk.put k1 rk5 r5)⟩
    · have e : i = ds.length := by omega
      subst e
      refine .inl ⟨wk.stop F2 H2 a.gr.ff a.gr.at_, hc (.dict acc) p F2 H2 (last acc pa) (g.trans a.gr) ?_ a.fp a.tm a.at_⟩
      cases z : H p with
      | none => rfl
      | some u => exact absurd hp (g.there p (by rw [z]; simp)))

/-! ### d.items(), the dict locked -/
/-- the entries of the locked dict at d, each in a new pair -/
def ItD (en : En) (d : Addr) (od : Obj) (kx : Kx) : It :=
  ⟨fun i H => H d = some (.frz od (dictAt en d kx)) ∧ i < kx.length, fun i H x H' => ∃ T e, kx[i]? = some e ∧ x = .ref T ∧ H T = none ∧ H' = upd H T (.tup [.ref e.2.1, e.2.2]), fun i H => H d = some (.frz od (dictAt en d kx)) ∧ kx.length ≤ i⟩
theorem frz_raw {pins : List (Addr × Obj)} {s : Shared} {d : Addr} {od : Obj} {kx : Kx} (I : Inv X pins σ H s) (h : H d = some (.frz od (dictAt (cxEn X) d kx))) : kx.length ≤ sizeLine ∧ (d == sysModules) = false ∧ ∃ xs es ep, Paired PK kx xs ∧ s.heap.get? d = some od ∧ od.ExactDict ∧ od.data = .dict es ep ∧
    es.toList = xs.map (entryOfKey (nestedKind X.prog X.w)) ∧ es.size = kx.length := by
  obtain ⟨z, hs, xs, r, o, es, ep, e1, e2, e3, e4, _⟩ := dict_raw I (.inr ⟨od, h⟩)
  have e1' : s.heap.get? d = some od := (I.hok d _ h).1
  rw [e1] at e1'; cases e1'
  exact ⟨z, hs, xs, es, ep, r, e1, e2, e3, e4, by rw [size_of_entries e4, ← pk_len r]⟩
theorem pk_at : ∀ {kx : Kx} {xs : List (NestedKey × Addr × Value)} {i : Nat} {e : NestedKey × Addr × V}, Paired PK kx xs → kx[i]? = some e → ∃ q, xs[i]? = some q ∧ PK e q
  | _, _, _, _, .nil, h => by simp at h
  | _, _, 0, _, .cons h _, e => by simp at e; subst e; exact ⟨_, rfl, h⟩
  | _, _, i + 1, _, .cons _ t, e => by simp at e; obtain ⟨q, h1, h2⟩ := pk_at t e; exact ⟨q, by simpa using h1, h2⟩
theorem turn_itD {P : Program} {w : World} {K : PySem.W.Frag} {elts : List Expr} {kk : Nat} {tpos : Pos} {od : Obj} {es : Array DictEntry} {ep : Nat} {kx : Kx} {d : Addr} (it : Addr) (hod : od.data = .dict es ep) (hsz : es.size = kx.length) (hdi : d ≠ it) :
    Turn P w K (.Tuple elts kk tpos) (ItD ⟨P, w, K⟩ d od kx) [it] it (fun i h => ∃ ok ov, IsItemIter h it d i es.size ep ok ov) where
  mem := by simp
  obj := fun i h ⟨ok, ov, e⟩ b hb => by
    obtain rfl : b = it := by simpa using hb
    exact ⟨_, e, fun v z => nomatch z⟩
  keep := fun i h h' ⟨ok, ov, e⟩ k => ⟨ok, ov, k it (by simp) _ e⟩
  item := by
    intro X hP hw hK hc i pins s σ H E I hf ⟨ok, ov, st⟩ ⟨hd, hi⟩
    subst hP hw hK
    obtain ⟨_, hs, xs, es', ep', r, e1, e2, e3, e4, e5⟩ := frz_raw I hd
    rw [hod] at e3; cases e3
    have hlt : it < s.heap.objs.size := Heap.lt_size st
    obtain ⟨q, hq, q1, q2, q3⟩ := pk_at r (List.getElem?_eq_getElem hi)
    have hes : i < es.size := by omega
    have hen : es[i] = entryOfKey (nestedKind X.prog X.w) q := by
      have z := entry_at e4 i
      rw [Array.getElem?_eq_getElem hes, hq] at z
      exact Option.some.inj z
    refine wpAny_pyNext_items_item_raw st (show s.heap.DictRaw d es ep from ⟨od, e1, e2, hod⟩) hes fun h' ho hT hz hk => ?_
    refine ⟨_, rfl, wpAny_letOwnedTupleGo_items (s := { s with heap := h' }) ho fun h'' he' sb => ?_⟩
    have hT2 := (sb.2 s.heap.objs.size (Nat.ne_of_gt hlt)).trans hT
    have k1 : L2.RelV (.ref kx[i].2.1) es[i].key := by rw [hen, q2]; rfl
    have k2 : L2.RelV kx[i].2.2 es[i].val := by rw [hen]; exact q3
    have I1 := I.turnedNew (t' := s.toks) (ch := [it]) (T := s.heap.objs.size) (ob := .tup [.ref kx[i].2.1, kx[i].2.2]) (h' := h'') (fun b ob hb e => (sb.2 b (by simpa using hb)).trans (hk b ob (by simpa using hb) e)) hf (Nat.le_refl _)
      ⟨by show 2 ≤ sizeLine; decide, [es[i].key, es[i].val], .cons k1 (.cons k2 .nil), ⟨_, hT2, rfl, _, rfl⟩⟩
    refine ⟨.ref s.heap.objs.size, _, I1, rfl, ⟨_, kx[i], List.getElem?_eq_getElem hi, rfl, I.hok.fresh (Nat.le_refl _), rfl⟩, ⟨_, _, he'⟩, fun b hb => ?_⟩
    obtain rfl : b = it := by simpa using hb
    rw [upd_ne (Nat.ne_of_lt hlt)]
    exact (hf b (by simp)).1
  done := by
    intro X hP hw hK hc i pins s σ H E I hf ⟨ok, ov, st⟩ ⟨hd, hi⟩
    subst hP hw hK
    obtain ⟨_, hs, xs, es', ep', r, e1, e2, e3, e4, e5⟩ := frz_raw I hd
    rw [hod] at e3; cases e3
    obtain ⟨f0, f1, f2, f3, f4, f5⟩ := hf it (by simp)
    exact wpAny_pyNext_items_end_raw (I.ok.hd hc) st (show s.heap.DictRaw d es ep from ⟨od, e1, e2, hod⟩) (by omega) fun h' eb => ⟨rfl, I.turned (t' := s.toks) (fun b ob hb e => eb b ob hb e) f0 f1 f3 f4 f5⟩
  self := fun A i s Q E ⟨_, _, e⟩ h => PySem.W.kcp_self e h
theorem pi_itD {elts : List Expr} {kk : Nat} {tpos apos cpos : Pos} {td : TE} (he : PE X e td) (hbase : attributeBase e "items" X.env (eval e X.env) = eval e X.env) (hline : (apos.endLine == cpos.line) = true) :
    PI X (.Tuple elts kk tpos) (.Call (.Attribute e "items" apos) [] [] cpos) (fun σ H R => td σ H fun x H1 => ∃ d od kx, x = .ref d ∧ H1 d = some (.frz od (dictAt (cxEn X) d kx)) ∧ R (ItD (cxEn X) d od kx) H1) := by
  refine ⟨fun pins s σ H R I h => wpAny_Call_method (T := "dict") (id := "dict.items") hbase rfl hline F.plainAttrs_dict F.slot_dict_items F.type_dict_items (thn (he.run pins s σ H _ I h) fun u s1 ⟨x, H1, I1, rx, d, od, kx, ex, hd, q⟩ => ?_)⟩
  subst ex
  cases rx
  obtain ⟨_, hs, xs, es, ep, r, e1, e2, e3, e4, e5⟩ := frz_raw I1 hd
  have raw : s1.heap.DictRaw d es ep := ⟨od, e1, e2, e3⟩
  refine ⟨raw.typeIs, fun b q => by cases q; exact ⟨od, e1, e2.2.1⟩, ?_⟩
  have I2 : Inv X pins σ H1 { s1 with heap := s1.heap.push { cls := .type "dict_items", data := .fields #[.ref d] } } := I1.kept (t' := s1.toks) fun b ob q => Heap.get?_push_of_some _ q
  have raw2 := raw.at (h' := s1.heap.push { cls := .type "dict_items", data := .fields #[.ref d] }) fun o q => Heap.get?_push_of_some _ q
  have fin : wpAny (model X.prog X.w) X.A (pyIter (.ref s1.heap.objs.size)) (PIE X pins σ (.Tuple elts kk tpos) R) X.xe { s1 with heap := s1.heap.push { cls := .type "dict_items", data := .fields #[.ref d] } } := by
    refine wpAny_pyIter_items_raw ⟨_, Heap.get?_push_size _ rfl, rfl, rfl⟩ raw2 (pi_one (tk := s1.toks) I2 _ (turn_itD _ e3 e5 (Nat.ne_of_lt (Nat.lt_of_lt_of_le (Heap.lt_size e1) (by rw [Heap.size_push]; exact Nat.le_succ _)))) ⟨.none, .none, ?_⟩ q)
    exact Heap.get?_push_size _ rfl
  show wpAny _ _ (callWith cpos (.builtin "dict.items") [.ref d] [] []) _ X.xe s1
  exact method_meetsIn F.slot_dict_items F.entry_dict_items rfl (PySem.evalArgs_none ⟨rfl, raw.typeIs, F.args_dict_items_1 _, _, meets_dict_items_raw d hs, ⟨⟨es, ep, raw⟩, fin⟩⟩)
def itemsD (kvs : List (D × D)) : List D := kvs.map fun p => .tuple [p.1, p.2]
theorem RepK.at_ {en : En} {F : Hp} : ∀ {kvs : List (D × D)} {kx : Kx} {i : Nat} {p : D × D}, RepK en F kvs kx → kvs[i]? = some p → ∃ e, kx[i]? = some e ∧ Rep en F p.1 (.ref e.2.1) ∧ Rep en F p.2 e.2.2
  | _, _, _, _, .nil, h => by simp at h
  | _, _, 0, _, .cons _ h1 h2 _, e => by simp at e; subst e; exact ⟨_, rfl, h1, h2⟩
  | _, _, i + 1, _, .cons _ _ _ t, e => by simp at e; obtain ⟨q, h1, h2⟩ := RepK.at_ t e; exact ⟨q, by simpa using h1, h2⟩
theorem walk_itD {en : En} {d : Addr} {od : Obj} {kx : Kx} {kvs : List (D × D)} (e1 : F d = some (.frz od (dictAt en d kx))) (rk : RepK en F kvs kx) : WalkD en Wl (ItD en d od kx) F (itemsD kvs) := by
  refine ⟨fun F2 H2 i x ex ha2 hd => ?_, fun F2 H2 ex ha2 => ⟨ha2.fh _ _ (ex _ _ e1), by unfold itemsD; rw [List.length_map, rk.length]; exact Nat.le_refl _⟩⟩
  unfold itemsD at hd
  rw [List.getElem?_map] at hd
  obtain ⟨p, hp, rfl⟩ := Option.map_eq_some_iff.mp hd
  obtain ⟨q, hq, r1, r2⟩ := rk.at_ hp
  refine ⟨⟨ha2.fh _ _ (ex _ _ e1), (List.getElem?_eq_some_iff.mp hq).1⟩, fun y H3 ⟨T, e, z1, z2, z3, z4⟩ => ?_⟩
  rw [hq] at z1; cases z1
  subst z2 z4
  exact pairUp ha2 z3 (r1.mono ex) (r2.mono ex)
theorem wi_items {Q : List D → Prop} {apos tpos cpos : Pos} {elts : List Expr} {kk : Nat} (h : WE X Wl ρ e fun r => ∃ kvs, r = .val (.dict kvs) ∧ Q (itemsD kvs)) (hbase : attributeBase e "items" X.env (eval e X.env) = eval e X.env := by rfl) (hline : (apos.endLine == cpos.line) = true := by rfl) :
    WI X Wl ρ (.Tuple elts kk tpos) (.Call (.Attribute e "items" apos) [] [] cpos) Q := fun F H σ R ha hsl hc =>
  (pi_itD (pe_sem (e := e)) hbase hline).sem (h F H σ _ ha hsl fun r v F1 H1 ⟨kvs, er, q⟩ g rr => by
    subst er
    cases rr with
    | @dict d kx _ od e1 rk => exact ⟨d, od, kx, rfl, g.at_.fh _ _ e1, hc _ _ F1 H1 q g (walk_itD e1 rk)⟩)

/-! ### list(d), sorted(d) -/
theorem keys_listed {pins : List (Addr × Obj)} {s : Shared} {d : Addr} {kx : Kx} (I : Inv X pins σ H s) (h : Rd H d (dictAt (cxEn X) d kx)) : kx.length ≤ sizeLine ∧ (d == sysModules) = false ∧ ∃ es ep, s.heap.DictRaw d es ep ∧ es.size = kx.length ∧
    ∀ acc : Array Value, ItemsOf (fun i v => ∃ hi : i < es.size, v = es[i].key) acc es.size → acc.toList = (kx.map (·.2.1)).map Value.ref := by
  obtain ⟨z, hs, xs, r, o, es, ep, e1, e2, e3, e4, _⟩ := dict_raw I h
  have hsz : es.size = kx.length := by rw [size_of_entries e4, ← pk_len r]
  refine ⟨z, hs, es, ep, ⟨o, e1, e2, e3⟩, hsz, fun acc ⟨h1, h2⟩ => List.ext_getElem? fun i => ?_⟩
  rw [Array.getElem?_toList, List.getElem?_map, List.getElem?_map]
  by_cases hi : i < kx.length
  · have ha : i < acc.size := by omega
    obtain ⟨hi', ev⟩ := h2 i acc[i] (Array.getElem?_eq_getElem ha)
    obtain ⟨q, hq, _, q2, _⟩ := pk_at r (List.getElem?_eq_getElem hi)
    have en := entry_at e4 i
    rw [Array.getElem?_eq_getElem hi', hq] at en
    have en := Option.some.inj en
    rw [Array.getElem?_eq_getElem ha, List.getElem?_eq_getElem hi, ev, en]
    show some (Value.ref q.2.1) = some (Value.ref kx[i].2.1)
    rw [q2]
  · rw [Array.getElem?_eq_none (by omega), List.getElem?_eq_none (by omega)]; rfl
def rKeys (en : En) : List V → Hp → VK → Prop := fun vs H Q => ∃ d kx, vs = [.ref d] ∧ Rd H d (dictAt en d kx) ∧ ∀ q, H q = none → Q (.ref q) (upd H q (.lst ((kx.map (·.2.1)).map V.ref)))
theorem cr_listD (hc : X.calm = true) : CallR X (.type "list") (rKeys (cxEn X)) := by
  intro pins s σ H vs us Q I r ⟨d, kx, e, rd, q⟩
  subst e
  obtain rfl := Vals.ref1 r
  obtain ⟨z, hs, es, ep, raw, hsz, hacc⟩ := keys_listed I rd
  refine PySem.W.kdl_call (KdlSrc.rawDict hs) (I.ok.hd hc) raw (by omega) fun h' tk acc c hk hS ha => ?_
  exact ⟨.ref s.heap.objs.size, _, I.laid (a := s.heap.objs.size) (o := .lst ((kx.map (·.2.1)).map V.ref)) (t' := tk) hk (Nat.le_refl _) ⟨by rw [List.length_map, List.length_map]; exact z, acc.toList, c, by rw [hacc acc ha]; exact vals_refs _, by rw [Array.toArray_toList]; exact hS⟩, rfl, q _ (I.hok.fresh (Nat.le_refl _))⟩
theorem RepK.keysA {en : En} {F : Hp} : ∀ {kvs : List (D × D)} {kx : Kx}, RepK en F kvs kx → RepA en F (kvs.map (·.1)) ((kx.map (·.2.1)).map V.ref)
  | _, _, .nil => .nil
  | _, _, .cons _ h1 _ t => .cons h1 (RepK.keysA t)
theorem we_listD (B : Bare X.mg) (h : WE X Wl ρ a fun r => ∃ kvs, dictOf r = some kvs ∧ Q (.val (.list (kvs.map (·.1))))) (hcm : X.calm = true := by rfl) (hg : Gl X "list" := by rfl) (he : starEach [a] X.env = (false, eval a X.env) :: starEach [] X.env := by rfl) : WE X Wl ρ (.Call (.Name "list" p) [a] [] pos) Q := fun F H σ C ha hs hc =>
  (pe_callTy (cr_listD hcm) hg B.list PyProof.Rows.boot_list (pa_cons pe_sem pa_nil he) (by decide) (by decide) he (by rfl)).sem (h F H σ _ ha hs fun r v F1 H1 ⟨kvs, hd, q⟩ g rr => by
    have key : ∃ d kx, v = .ref d ∧ Rd H1 d (dictAt (cxEn X) d kx) ∧ RepK (cxEn X) F1 kvs kx := by
      match r, hd, rr with
      | .val (.dict _), hd, rr =>
        cases hd
        cases rr with
        | @dict d kx _ od e1 rk => exact ⟨d, kx, rfl, .inr ⟨od, g.at_.fh _ _ e1⟩, rk⟩
      | .own (.dict _), hd, rr =>
        cases hd
        obtain ⟨d, rfl, _, _, kx, e1, rk⟩ := rr
        exact ⟨d, kx, rfl, .inl e1, rk⟩
    obtain ⟨d, kx, rfl, rd, rk⟩ := key
    refine ⟨d, kx, rfl, rd, fun z hz => ?_⟩
    have g2 := Gr.new (o := .lst ((kx.map (·.2.1)).map V.ref)) g.at_ hz
    exact hc _ _ _ _ q (g.trans g2) (.list upd_same (rk.keysA.mono g2.ff)))
end
end LC
/-! sorted(a dict). -/
namespace LC
open PySem L2 PySem.Spec PyProof.Rows
open PySem.W (AllAlike Sortable dataLe EachIs KdlSrc)
mutual
theorem reads_key {h : Heap} : ∀ {d : D} {v : Value} {as : List Addr}, isK d = true → Reads h v d as → as = []
  | .int _, _, _, _, r => by cases r; rfl
  | .tuple ds, _, _, k, r => by
    cases r with
    | tuple _ _ _ ra => exact readsAll_key (ds := ds) (by simpa [isK] using k) ra
theorem readsAll_key {h : Heap} : ∀ {ds : List D} {vs : List Value} {as : List Addr}, isKs ds = true → ReadsAll h vs ds as → as = []
  | [], _, _, _, r => by cases r; rfl
  | d :: ds, _, _, k, r => by
    simp only [isKs, Bool.and_eq_true] at k
    cases r with
    | cons r1 r2 => rw [reads_key k.1 r1, readsAll_key k.2 r2]; rfl
end
theorem keyAt {en : En} {F : Hp} : ∀ {kvs : List (D × D)} {kx : Kx} {i : Nat} {p : D × D}, RepK en F kvs kx → kvs[i]? = some p → isK p.1 = true
  | _, _, _, _, .nil, h => by simp at h
  | _, _, 0, _, .cons h0 _ _ _, e => by simp at e; subst e; exact (keyOk_isK h0).1
  | _, _, i + 1, _, .cons _ _ _ t, e => by simp at e; exact keyAt t e
section
variable {X : Cx} {Wl : Wild} {ρ : Env'} {F H : Hp} {e a : Expr} {pos p : Pos} {Q : R → Prop} {σ : L2.St}
def rSortDict (en : En) : List V → Hp → VK → Prop := fun vs H Q => ∃ (d : Addr) (kx : Kx) (bs : List (V × D)), vs = [.ref d] ∧ Rd H d (dictAt en d kx) ∧ (kx.map (·.2.1)).map V.ref = bs.map (·.1) ∧ (∀ b ∈ bs, Dp en.K H b.1 b.2) ∧ (∀ b ∈ bs, isK b.2 = true) ∧ AllAlike (bs.map (·.2)) ∧ Sortable (bs.map (·.2)) ∧ (∀ b ∈ bs, b.2.depth ≤ 8) ∧
  ∀ q, H q = none → Q (.ref q) (upd H q (.lst ((bs.mergeSort (dataLe false (·.2))).map (·.1))))
theorem cr_sortDict (hc : X.calm = true) (hu : X.A.units + 100 < cLine) : CallR X (.builtin "sorted") (rSortDict (cxEn X)) := by
  intro pins s σ H vs us Q I r ⟨d, kx, bs, e, rd, hk, hd, ki, al, so, dp, q⟩
  subst e
  obtain rfl := Vals.ref1 r
  obtain ⟨z, hs, es, ep, raw, hsz, hacc⟩ := keys_listed I rd
  have hbl : bs.length = kx.length := by have := congrArg List.length hk; simpa using this.symm
  refine PySem.Calls.call_function_entry kind_sorted plain_sorted entry_sorted (args_sorted1 _) ?_
  unfold Builtin.«sorted»
  refine wpAny_bind (m := checkCount "sorted" 1 1 _) (wpAny_pure (wpAny_bind (PySem.W.kdu_collect (A := X.A.in1) (KdlSrc.rawDict hs) (I.ok.hd hc) raw (by omega) fun h' tk acc hkp ha => ?_)))
  have hal := hacc acc ha
  have hlen : acc.toList.length = bs.length := by rw [hal, List.length_map, List.length_map, hbl]
  refine wpAny_bind (wpAny_newList ?_ (by rw [hlen, hbl]; exact z))
  have vs0 : Vals (bs.map (·.1)) acc.toList := by rw [hal, ← hk]; exact vals_refs _
  have I1 : Inv X pins σ H { s with heap := h', toks := tk } := I.kept hkp
  have hn : H h'.objs.size = none := I1.hok.fresh (Nat.le_refl _)
  have I2 : Inv X pins σ H { s with heap := h'.push { cls := .type "list", data := .seq acc.toList.toArray }, toks := tk } := I1.kept (t' := tk) fun _ _ e => Heap.get?_push_of_some _ e
  have hob : (h'.push { cls := .type "list", data := .seq acc.toList.toArray }).get? h'.objs.size = some (seqObj "list" acc.toList.toArray 0) := Heap.get?_push_size _ rfl
  have go := PySem.W.list_sort_data (prog := X.prog) (w := X.w) (A := X.A.in1) (E := X.xe) (s := { s with heap := h'.push { cls := .type "list", data := .seq acc.toList.toArray }, toks := tk }) (β := V × D) (enc := (·.2)) (vs := acc.toList) (bs := bs) (R := fun u b => RelV b.1 u)
    (Q := fun _ s' => EP X pins σ Q (.ref h'.objs.size) s') hob (each_of vs0 fun b _ u z => z) (each_of vs0 fun b hb u z => by obtain ⟨as, ra⟩ := Dp.reads I2 b.2 b.1 u (hd b hb) z; rw [reads_key (ki b hb) ra] at ra; exact ⟨[], ra, by simp⟩) al so (by rw [hbl]; exact z)
    (fun b hb => by have := dp b hb; show X.A.units + 1 + 1 + b.2.depth < cLine; omega) fun out ho er => by
      obtain ⟨c, hcc⟩ := sortedHeap_at (out := List.toArray out) hob
      refine ⟨.ref h'.objs.size, _, I1.laid (a := h'.objs.size) (o := .lst ((bs.mergeSort (dataLe false (·.2))).map (·.1))) (t' := tk) (fun b o e => ?_) (Nat.le_refl _) ⟨?_, out, c, vals_each er, hcc⟩, rfl, q _ hn⟩
      · have hlt : b < h'.objs.size := Heap.lt_size e
        rw [sortedHeap_old (Nat.ne_of_lt hlt) (by rw [Heap.size_push]; exact Nat.lt_succ_of_lt hlt)]
        exact Heap.get?_push_of_some _ e
      · rw [List.length_map, List.length_mergeSort, hbl]; exact z
  exact wpAny_bind (wpAny_holding (wpAny_mono go (fun _ s' x => wpAny_pure ⟨_, rfl, x⟩) fun _ _ e => e))
theorem we_sortedD (B : Bare X.mg) (hu : X.A.units + 100 < cLine) (h : WE X Wl ρ a fun r => ∃ kvs, r = .val (.dict kvs) ∧ SortOk (kvs.map (·.1)) ∧ Q (.val (.list (sortD (kvs.map (·.1)))))) (hcm : X.calm = true := by rfl) (hg : Gl X "sorted" := by rfl) (he : starEach [a] X.env = (false, eval a X.env) :: starEach [] X.env := by rfl) :
    WE X Wl ρ (.Call (.Name "sorted" p) [a] [] pos) Q := fun F H σ C ha hs hc =>
  (pe_callB (cr_sortDict hcm hu) hg B.sorted (by decide +kernel) (pa_cons pe_sem pa_nil he) (by decide) (by decide) he (by rfl)).sem (h F H σ _ ha hs fun r v F1 H1 ⟨kvs, er, so, q⟩ g rr => by
    subst er
    cases rr with
    | @dict d kx _ od e1 rk =>
      obtain ⟨bs, b1, b2, b3, b4, b5⟩ := zip_of g.at_.fh _ so.pl rk.keysA
      have ki : ∀ b ∈ bs, isK b.2 = true := fun b hb => by
        have hm : b.2 ∈ kvs.map (·.1) := by rw [← b2]; exact List.mem_map.mpr ⟨b, hb, rfl⟩
        obtain ⟨p, hp, e⟩ := List.mem_map.mp hm
        rw [← e]
        obtain ⟨i, hi⟩ := List.getElem?_of_mem hp
        exact keyAt rk hi
      refine ⟨d, kx, bs, rfl, .inr ⟨od, g.at_.fh _ _ e1⟩, b1.symm, b3, ki, by rw [b2]; exact so.al, by rw [b2]; exact so.so, b4, fun z hz => ?_⟩
      have g2 := Gr.new (o := .lst ((bs.mergeSort (dataLe false (·.2))).map (·.1))) g.at_ hz
      rw [← b2, ← sort_snd] at q
      exact hc _ _ _ _ q (g.trans g2) (.list upd_same ((repA_of fun b hb => b5 b (List.mem_mergeSort.mp hb)).mono g2.ff)))
end
end LC
/-! all(.. for .. in ..): a generator's frame as a context. -/
namespace LC
open PySem L2 PySem.Spec PyProof.Rows
/-- the generator's own scope -/
structure GenOk (N : List Str) (sc scope : Scope) (own : List (Str × Nat)) : Prop where
  blk : BlkOk N sc scope own
  co : scope.isCoroutine = false
  cell : ∀ y ∈ scope.names, y.2 ≠ .cell
  dot : scope.names.lookup (".0" : Str) = some NameKind.local
def genC (N : List Str) (sc scope : Scope) (own : List (Str × Nat)) : Bool := blkC N sc scope own && !scope.isCoroutine && scope.names.all (fun y => decide (y.2 ≠ .cell)) && decide (scope.names.lookup (".0" : Str) = some NameKind.local)
theorem genOk_by {N : List Str} {sc scope : Scope} {own : List (Str × Nat)} (h : genC N sc scope own = true) : GenOk N sc scope own := by
  unfold genC at h
  simp only [Bool.and_eq_true, Bool.not_eq_true', List.all_eq_true, decide_eq_true_eq] at h
  exact ⟨blkOk_by h.1.1.1, h.1.1.2, h.1.2, h.2⟩
/-- the context of the generator's frame -/
abbrev gEnv (X : Cx) (scope : Scope) (C : Addr) (code : Value) : Env := genEnv scope (cloFrom X.env.cells scope.names []) C code builtinsNs X.env
abbrev gcx (X : Cx) (s : Shared) (H : Hp) (scope : Scope) (C : Addr) (code : Value) (fp : List Addr) (B : Around) : Cx :=
  { X with A := B, s_0 := s, H_0 := H, env := gEnv X scope C code, outer := X.stack, stack := gEnv X scope C code :: X.stack, ex := fp, fn := fun _ => false, pn := [], xe := fun _ _ => False }
section
variable {X : Cx} {pins : List (Addr × Obj)} {σ : L2.St} {H : Hp} {s : Shared}
theorem gen_start {scope : Scope} {own : List (Str × Nat)} {fp : List Addr} {code : Value} {B : Around} {h' : Heap} {m0 : Str → Option Value} {g' : Array GenState} {d' : Drawn} {t' : Nat} {a : Addr} {go : Obj} (I : Inv X pins σ H s) (ok : GenOk X.N X.env.scope scope own) (hN : X.N.Nodup)
    (hfp : ∀ b ∈ fp, FpOk X pins H b ∧ b < s.heap.objs.size) (hk : ∀ b o, s.heap.get? b = some o → h'.get? b = some o) (hns : h'.Ns s.heap.objs.size m0) (hB : B.frames = some (gEnv X scope s.heap.objs.size code :: X.stack)) (hd : B.handled = none) (hg : AllBare g')
    (ha : s.heap.objs.size < a) (hao : h'.get? a = some go) (hac : ∀ v, go.data ≠ .cell v) : Inv (gcx X s H scope s.heap.objs.size code fp B) [(a, go)] (wipe σ (own.map (·.2))) H { s with heap := h', gens := g', drawn := d', toks := t' } := by
  have hfree : ∀ y ∈ scope.names, y.2 = .free → ∃ c, X.env.cells.lookup y.1 = some c := fun y hy e => (ok.blk.free y hy e).elim (fun z => I.ok.has _ (.inl z)) (fun z => I.ok.has _ (.inr z))
  have cm : ∀ {y c}, (y, c) ∈ cloFrom X.env.cells scope.names [] → X.env.cells.lookup y = some c ∧ c < s.heap.objs.size := fun {y c} hm => by
    rcases cloFrom_mem hm with hm | ⟨h1, rfl⟩
    · cases hm
    · obtain ⟨c, hc⟩ := hfree _ h1 rfl
      rw [hc]
      obtain ⟨w, z⟩ := I.cell _ _ hc
      exact ⟨rfl, z.lt⟩
  have cl : ∀ {y c}, (gEnv X scope s.heap.objs.size code).cells.lookup y = some c → X.env.cells.lookup y = some c ∧ c < s.heap.objs.size := fun {y c} e => cm (PySem.mem_of_lookup e)
  have look : ∀ {y}, scope.names.lookup y = some .free → ∃ c, (gEnv X scope s.heap.objs.size code).cells.lookup y = some c ∧ X.env.cells.lookup y = some c := fun {y} hl => by
    obtain ⟨c, e⟩ := mem_lookup (cloFrom_has (cells := X.env.cells) (acc := []) (PySem.mem_of_lookup hl))
    exact ⟨c, e, (cl e).1⟩
  have noC : ∀ {y : Str}, scope.names.lookup y ≠ some .cell := fun {y} z => ok.cell _ (PySem.mem_of_lookup z) rfl
  have okG : (gcx X s H scope s.heap.objs.size code fp B).Ok := by
    refine ⟨I.ok.mod, ok.blk.kind, I.ok.glob, rfl, Nat.le_refl _, fun y z c e1 e2 => I.ok.inj y z c (cl e1).1 (cl e2).1, fun y hy => ?_, fun y c z => (Bool.noConfusion z), fun _ => hd, hB, .inr ⟨rfl, rfl⟩, fun b hb => ⟨Nat.ne_of_lt (hfp b hb).2, fun y c e z => (hfp b hb).1.2.2.2.2.1 y c (cl e).1 z⟩,
      I.bs, Nat.le_trans I.ok.bsz I.sz, fun b o e hb => ?_, fun b hb z => ?_, I.stack, I.stkFree⟩
    · rcases hy with hy | hy
      · exact absurd hy noC
      · obtain ⟨c, e, _⟩ := look hy
        exact ⟨c, e⟩
    · rcases (hfp b hb).1.2.2.2.1 with z | z
      · exact I.ok.noex b o e z
      · exact absurd (Nat.lt_of_lt_of_le (Heap.lt_size e) (Nat.le_trans I.ok.bsz z)) (Nat.lt_irrefl _)
    · rcases List.mem_cons.mp (I.stkSub b z) with z | z
      · exact (hfp b hb).1.2.1 z
      · exact (hfp b hb).1.2.2.1 z
  refine ⟨okG, rfl, hg, Un.kept hk, ⟨m0, hns, fun i y av e1 e2 e3 => ?_⟩, fun y c e => ?_, I.hok.fresh (Nat.le_refl _), fun y c e => I.freeC y c (cl e).1, fun p hp => ?_, I.hok.kept hk, by rw [wipe_length]; exact I.len⟩
  · obtain ⟨e2, hne⟩ := wipe_some e2
    have hfr : scope.names.lookup y = some .free := by
      rcases e3 with e3 | e3 | e3
      · rcases ok.blk.own _ (PySem.mem_of_lookup e3) (.inl rfl) with e' | e'
        · obtain ⟨p, hp, hpy⟩ := List.mem_map.mp e'
          have e4 := ok.blk.ix p hp
          have hpy : p.1 = y := hpy
          rw [hpy] at e4
          exact absurd (List.mem_map.mpr ⟨p, hp, nodup_ix hN e4 e1⟩) hne
        · exact absurd (List.mem_of_getElem? e1) e'
      · exact absurd e3 noC
      · exact e3
    obtain ⟨m, hn, hl⟩ := I.loc
    have hvis : Vis X.env.scope y := (ok.blk.free _ (PySem.mem_of_lookup hfr) rfl).elim (fun k => .inr (.inl k)) (fun k => .inr (.inr k))
    obtain ⟨w, r, q⟩ := hl i y av e1 e2 hvis
    obtain ⟨c, h1, h2⟩ := look hfr
    refine ⟨w, r, .inr ⟨.inr hfr, c, h1, ?_⟩⟩
    rcases q with ⟨k, _⟩ | ⟨_, c', e', z⟩
    · have k : X.env.scope.names.lookup y = some .local := k
      rcases ok.blk.free _ (PySem.mem_of_lookup hfr) rfl with k' | k' <;> rw [show X.env.scope.names.lookup y = _ from k'] at k <;> cases k
    · rw [h2] at e'; cases e'
      exact z.keeps hk
  · obtain ⟨w, z⟩ := I.cell y c (cl e).1
    exact ⟨w, z.keeps hk⟩
  · have hp : p = (a, go) := by simpa using hp
    subst hp
    refine ⟨hao, I.hok.fresh (Nat.le_of_lt ha), Nat.ne_of_gt ha, fun z => ?_, hac⟩
    rcases List.mem_cons.mp (I.stkSub a z) with z | z
    · have := I.lt; rw [z] at ha; exact absurd (Nat.lt_trans ha this) (Nat.lt_irrefl _)
    · exact I.nofs (Nat.le_of_lt ha) z
/-- other generators have gone on -/
theorem Inv.gens {g' : Array GenState} {d' : Drawn} {t' : Nat} (I : Inv X pins σ H s) (hg : AllBare g') : Inv X pins σ H { s with gens := g', drawn := d', toks := t' } :=
  ⟨I.ok, I.os, hg, I.base, I.loc, I.cell, I.free, I.freeC, I.pin, I.hok, I.len⟩
end
end LC
/-! all(.. for .. in ..): the run of the generator. -/
namespace LC
open PySem L2 PySem.Spec PyProof.Rows GenW
theorem wpAny_tests_nilG {prog : Program} {w : World} {A : Around} {E : Value → Shared → Prop} {s : Shared} {env : Env} {Q : Bool → Shared → Prop} (h : Q true s) :
    wpAny (model prog w) A (forIn ([] : List Expr) true fun c r => if r = true then do let ok ← isTrue c env (eval c env); pure (ForInStep.yield ok) else pure (ForInStep.yield r)) Q E s := wpAny_tests_nil h
/-- in the frame of a generator of that scope, with so much room -/
def GBlk (X : Cx) (scope : Scope) (k : Nat) (P : Cx → Prop) : Prop := ∀ (s : Shared) (H : Hp) (C : Addr) (code : Value) (fp : List Addr) (B : Around), Room k B → P (gcx X s H scope C code fp B)
def Near (s s' : Shared) : Prop := s'.heap = s.heap ∧ s'.os = s.os ∧ AllBare s'.gens ∧ s'.gens.size = s.gens.size
section
variable {X : Cx} {Wl : Wild} {ρ : Env'} {σ : L2.St} {elt tg iter : Expr} {pos : Pos} {js vs : List Nat} {scope : Scope} {s4 : Shared} {H4 F4 : Hp} {code : Value} {fp : List Addr} {B : Around} {a it C : Addr} {go : Obj} {g : Nat} {tn : Nat → Heap → Prop} {J : It} {ds : List D}
/-- ahead of turn i -/
def BI (G : Cx) (Wl : Wild) (F4 H4 : Hp) (a : Addr) (go : Obj) (g : Nat) (σw : L2.St) (fp : List Addr) (tn : Nat → Heap → Prop) (i : Nat) (s : Shared) : Prop :=
  ∃ F H, Gr Wl F4 H4 F H ∧ Inv G [(a, go)] σw H s ∧ tn i s.heap ∧ (∀ b ∈ fp, H b = none) ∧ g < s.gens.size
/-- behind the last -/
def BE (G : Cx) (Wl : Wild) (F4 H4 : Hp) (a : Addr) (go : Obj) (g : Nat) (σw : L2.St) (s : Shared) : Prop :=
  ∃ F H, Gr Wl F4 H4 F H ∧ Inv G [(a, go)] σw H s ∧ g < s.gens.size
def Rend (be : Shared → Prop) : GenEnd := fun n _ r s1 => r = .ok .next ∧ (n = 0 ∧ be s1)
def Yp (bi : Nat → Shared → Prop) (l : Nat) : Protocol := fun n _ v s kap => v = .bool true ∧ bi (l - n) s ∧ ∀ s', Near s s' → kap (.send .none) s'
theorem near_inv {G : Cx} {pins : List (Addr × Obj)} {H : Hp} {s s' : Shared} (I : Inv G pins σ H s) (n : Near s s') : Inv G pins σ H s' := by
  obtain ⟨h, g', d, t, o⟩ := s'
  obtain ⟨h0, g0, d0, t0, o0⟩ := s
  obtain ⟨e1, e2, e3, e4⟩ := n
  cases e1; cases e2
  exact Inv.gens I e3
theorem seg_loop {G : Cx} {A2 : Around} (hG : G = gcx X s4 H4 scope C code fp B) (hh : A2.handled = none) (T : Turn X.prog X.w X.K tg J fp it tn) (hc : X.calm = true) (hco : scope.isCoroutine = false) (wk : WalkD (cxEn X) Wl J F4 ds)
    (hw : Slots (cxEn X) Wl (wipeR ρ vs) F4 H4 (wipe σ vs)) (hB : B = A2.over (.compLoop (.GeneratorExp elt [⟨tg, iter, [], 0⟩] scope pos) 0 (.ref it) .none (gEnv X scope C code)) []) (hj : ∀ j ∈ js, j ∈ vs) (haf : a ∉ fp)
    (step : ∀ d ∈ ds, WG G Wl js (wipeR ρ vs) tg d fun ρ2 => WE G Wl ρ2 elt (boolK (· = true))) :
    ∀ (k i : Nat) (s0 s : Shared), ds.length - i = k → i ≤ ds.length → BI G Wl F4 H4 a go g (wipe σ vs) fp tn i s →
      Seg (model X.prog X.w) A2 (Rend (BE G Wl F4 H4 a go g (wipe σ vs))) (Yp (BI G Wl F4 H4 a go g (wipe σ vs) fp tn) ds.length) k s0
        (.compLoop (.GeneratorExp elt [⟨tg, iter, [], 0⟩] scope pos) 0 (.ref it) .none (gEnv X scope C code))
        ((model X.prog X.w).den (.compLoop (.GeneratorExp elt [⟨tg, iter, [], 0⟩] scope pos) 0 (.ref it) .none (gEnv X scope C code))) [] s := by
  subst hG hB

  let G := gcx X s4 H4 scope C code fp (A2.over (.compLoop (.GeneratorExp elt [⟨tg, iter, [], 0⟩] scope pos) 0 (.ref it) .none (gEnv X scope C code)) [])
  have stat : ∀ {pn : List (Addr × Obj)} {σ' : L2.St} {H' : Hp} {s' : Shared}, Inv G pn σ' H' s' → (∀ p ∈ pn, p.1 ∉ fp) → (∀ b ∈ fp, H' b = none) → ∀ b ∈ fp, FpOk G pn H' b := fun {_ _ _ _} I' hp hn b hb =>
    have hb' : b ∈ G.ex := hb
    ⟨hn b hb, (I'.ok.exf b hb').1, I'.ok.exfs b hb', .inl hb', fun x c e => (I'.ok.exf b hb').2 x c e, fun p hp' z => by
      exact hp p hp' (z ▸ hb)⟩
  have pna : ∀ p ∈ [(a, go)], p.1 ∉ fp := fun p hp => by
    have : p = (a, go) := by simpa using hp
    rw [this]; exact haf
  intro k
  induction k with
  | zero =>
    rintro i s0 s hk hi ⟨F, H, gr, I, st, nf, hg⟩
    have hin : i = ds.length := by omega
    subst hin
    show Seg _ A2 _ _ _ s0 _ ((compTurn (.GeneratorExp elt [⟨tg, iter, [], 0⟩] scope pos) 0 (.ref it) .none (gEnv X scope C code)).onRaise (leaving (gEnv X scope C code))) [] s
    rw [compTurn_gen, Sem.onRaise_eq_wrap]
    refine seg_bind_wrap (wpAny_standAt ?_)
    refine seg_bind_wrap (wpAny_gsz (n := g + 1) hg ?_)
    refine thnF (T.done G rfl rfl rfl hc ds.length [(a, go)] s (wipe σ vs) H (fun _ _ => False) I (stat I pna nf) st (wk.stop F H gr.ff gr.at_)) fun r s1 ⟨hr, I1⟩ hg1 => ?_
    subst hr
    exact seg_end (.ok .next) ⟨rfl, by omega, F, H, gr, I1, hg1⟩
  | succ k ih =>
    rintro i s0 s hk hi ⟨F, H, gr, I, st, nf, hg⟩
    have hlt : i < ds.length := by omega
    show Seg _ A2 _ _ _ s0 _ ((compTurn (.GeneratorExp elt [⟨tg, iter, [], 0⟩] scope pos) 0 (.ref it) .none (gEnv X scope C code)).onRaise (leaving (gEnv X scope C code))) [] s
    rw [compTurn_gen, Sem.onRaise_eq_wrap]
    refine seg_bind_wrap (wpAny_standAt ?_)
    refine seg_bind_wrap (wpAny_gsz (n := g + 1) hg ?_)
    have T0 := T
    obtain ⟨go1, yl⟩ := wk.go F H i ds[i] gr.ff gr.at_ (List.getElem?_eq_getElem hlt)
    refine thnF (T0.item G rfl rfl rfl hc i [(a, go)] s (wipe σ vs) H (fun _ _ => False) I (stat I pna nf) st go1) fun r s1 ⟨u, hr, h6⟩ hg1 => ?_
    subst hr
    refine seg_bind_wrap (wpAny_gsz (n := g + 1) hg1 ?_)
    refine thnF h6 fun _ s7 ⟨x, H7, I7, r7, y7, st7, n7⟩ hg7 => ?_
    obtain ⟨F7, g7, rx⟩ := yl x H7 y7
    have I7' := I7.pinned (stat I7 pna n7) (T.obj _ _ st7)
    have gr7 := gr.trans g7
    refine seg_bind_wrap (wpAny_gsz (n := g + 1) hg7 ?_)
    have hs := step ds[i] (List.getElem_mem hlt) F7 H7 (wipe σ vs) x (fun σ' H' => H' = H7 ∧ ∃ ρ', WE G Wl ρ' elt (boolK (· = true)) ∧ GOk (cxEn G) Wl js (wipeR ρ vs) ρ' F7 H7 (wipe σ vs) σ') gr7.at_ (hw.mono gr7) rx (fun ρ' σ' kk o => ⟨rfl, ρ', kk, o⟩) _ s7 u I7' r7
    refine thnF hs fun _ s8 ⟨σ8, H8, I8, e8, ρ', kk, o⟩ hg8 => ?_
    subst e8
    refine seg_bind_wrap (wpAny_tests_nilG ?_)
    rw [if_pos rfl]
    have hy : ∀ v, yieldOut (gEnv X scope C code) v = yieldValue v := fun v => by
      unfold yieldOut
      rw [show (gEnv X scope C code).scope.isCoroutine = false from hco]
      rfl
    simp only [hy]
    rw [Sem.bind_eq_wrap', Sem.bind_eq_wrap', Sem.wrap_wrap, Sem.wrap_wrap]
    have he := kk F7 H8 σ8 (fun v H' => v = .bl true ∧ ∃ F', Gr Wl F7 H8 F' H') gr7.at_ o.sl (fun r v F9 H9 q g9 rr => by
      match r, q, rr with
      | .val (.bool b), q, rr =>
        cases rr
        exact ⟨by rw [show b = true from q], F9, g9⟩) _ s8 I8
    refine seg_wrap (wpAny_gsz (n := g + 1) hg8 ?_)
    refine thnF he fun y s9 ⟨v, H9, I9, r9, ev, F9, g9⟩ hg9 => ?_
    subst ev
    cases r9
    have pin' : ∀ b ∈ fp, ∀ o, s7.heap.get? b = some o → s9.heap.get? b = some o ∧ H9 b = none := fun b hb o e =>
      let z := I9.pin (b, o) (List.mem_append_right _ (List.mem_append_right _ (mem_pinsAt hb e)))
      ⟨z.1, z.2.1⟩
    have hwp : wipe σ8 vs = wipe (wipe σ vs) vs := wipe_eq o.len fun j hjv => (o.out j fun z => hjv (hj j z)).1
    have hww : wipe (wipe σ vs) vs = wipe σ vs := wipe_eq (wipe_length ..) fun j hjv => wipe_out hjv
    have nx : BI G Wl F4 H4 a go g (wipe σ vs) fp tn (i + 1) s9 := by
      refine ⟨F9, H9, gr7.trans g9, (I9.unpinned (pins := [(a, go)])).weak ?_ fun j v e => ?_, T.keep _ _ _ st7 fun b hb o e => (pin' b hb o e).1, fun b hb => ?_, hg9⟩
      · rw [← hww, ← hwp, wipe_length]
      · rw [← hww, ← hwp] at e
        exact (wipe_some e).1
      · obtain ⟨o, e, _⟩ := T.obj _ _ st7 b hb
        exact (pin' b hb o e).2
    refine seg_at (seg_yield rfl rfl rfl ⟨rfl, ?_, fun s'' hn => ?_⟩)
    · have : ds.length - k = i + 1 := by omega
      show BI _ _ _ _ _ _ _ _ _ _ (ds.length - k) _
      rw [this]
      exact nx
    · refine seg_again rfl (ih (i + 1) s'' s'' (by omega) hlt ?_)
      obtain ⟨F', H', z1, z2, z3, z4, z5⟩ := nx
      exact ⟨F', H', z1, near_inv z2 hn, by rw [hn.1]; exact z3, z4, by rw [hn.2.2.2]; exact z5⟩
theorem seg_start {G : Cx} {A2 : Around} (hG : G = gcx X s4 H4 scope C code fp B) (hh : A2.handled = none) (T : Turn X.prog X.w X.K tg J fp it tn) (hc : X.calm = true) (hco : scope.isCoroutine = false) (wk : WalkD (cxEn X) Wl J F4 ds)
    (hw : Slots (cxEn X) Wl (wipeR ρ vs) F4 H4 (wipe σ vs)) (hB : B = A2.over (.compLoop (.GeneratorExp elt [⟨tg, iter, [], 0⟩] scope pos) 0 (.ref it) .none (gEnv X scope C code)) []) (hj : ∀ j ∈ js, j ∈ vs) (haf : a ∉ fp)
    (step : ∀ d ∈ ds, WG G Wl js (wipeR ρ vs) tg d fun ρ2 => WE G Wl ρ2 elt (boolK (· = true))) (s0 s : Shared) (h : BI G Wl F4 H4 a go g (wipe σ vs) fp tn 0 s) :
      Seg (model X.prog X.w) A2 (Rend (BE G Wl F4 H4 a go g (wipe σ vs))) (Yp (BI G Wl F4 H4 a go g (wipe σ vs) fp tn) ds.length) ds.length s0
        (.compStart (.GeneratorExp elt [⟨tg, iter, [], 0⟩] scope pos) 0 (.ref it) .none (gEnv X scope C code))
        ((model X.prog X.w).den (.compStart (.GeneratorExp elt [⟨tg, iter, [], 0⟩] scope pos) 0 (.ref it) .none (gEnv X scope C code))) [] s := by
  have loop := seg_loop hG hh T hc hco wk hw hB hj haf step ds.length 0 s0 s (Nat.sub_zero _) (Nat.zero_le _) h
  obtain ⟨F, H, gr, I, st, nf, hg⟩ := h
  show Seg _ A2 _ _ _ s0 _ ((compStart (.GeneratorExp elt [⟨tg, iter, [], 0⟩] scope pos) 0 (.ref it) .none (gEnv X scope C code)).onRaise (leaving (gEnv X scope C code))) [] s
  unfold compStart
  rw [Sem.onRaise_eq_wrap]
  show Seg _ A2 _ _ _ s0 _ ((ask >>= _).wrap _ _ _ _) [] s
  refine seg_bind_wrap (wpAny_askSetting ?_)
  split
  · exact seg_again rfl loop
  · first
      | exact seg_bind_wrap (wpAny_rule (seg_bind_wrap (wpAny_standAt (seg_bind_wrap (T.self _ 0 s _ _ st (seg_again rfl loop))))))
      | (refine seg_bind_wrap (wpAny_rule ?_); show Seg _ A2 _ _ _ s0 _ ((standAt iter.pos >>= _).wrap _ _ _ _) [] s; exact seg_bind_wrap (wpAny_standAt (seg_bind_wrap (T.self _ 0 s _ _ st (seg_again rfl loop)))))
/-- the loop of all -/
theorem all_loop {G : Cx} {R : Result → Shared → Prop} (hG : G = gcx X s4 H4 scope C code fp B) (hr : Room 1 X.A) (hgo : ∀ h : Heap, h.get? a = some go → h.IsGen a g)
    (hend : ∀ s', BE G Wl F4 H4 a go g (wipe σ vs) s' → R (.ok (.ret (.bool true))) s') : ∀ (m i : Nat) (s : Shared), ds.length - i = m → i ≤ ds.length → BI G Wl F4 H4 a go g (wipe σ vs) fp tn i s →
      (∃ gs, s.gens[g]? = some gs ∧ gs.Goes (model X.prog X.w) X.A.in1.in1 (Rend (BE G Wl F4 H4 a go g (wipe σ vs))) (Yp (BI G Wl F4 H4 a go g (wipe σ vs) fp tn) ds.length) m (.send .none) (s.setGen g .running)) →
      codeAny (model X.prog X.w) X.A (.builtin "all.loop" ⟨[.ref a], []⟩) R s := by
  have fin : ∀ {H' : Hp} {s1 : Shared} {h' : Heap}, Inv G [(a, go)] (wipe σ vs) H' s1 → (∀ b o, s1.heap.get? b = some o → h'.get? b = some o) → Inv G [(a, go)] (wipe σ vs) H' { s1.setGen g .finished with heap := h' } := fun {H' s1 h'} I' hk' =>
    (near_inv I' (s' := s1.setGen g .finished) ⟨rfl, rfl, allBare_setGen I'.bare rfl, setGen_size ..⟩).kept (t' := s1.toks) hk'
  have hh : X.A.in1.handled = none := hr.hd
  intro m
  induction m with
  | zero =>
    rintro i s hk hi ⟨Fh, H, gr, I, st, nf, hg⟩ ⟨gs, hgs, goes⟩
    have ig : s.heap.IsGen a g := hgo _ (I.pin (a, go) (List.mem_append_right _ (List.mem_singleton.mpr rfl))).1
    refine codeAny_builtin PySem.F.entry_all_loop ?_
    rw [Around.under_plainId PySem.F.plain_all_loop _]
    show wpAny _ X.A.in1 (pyNext (.ref a) >>= _) _ _ s
    refine wpAny_bind (wpAny_pyNext_genexpQ (A := X.A.in1) hh I.nolimit hr.depth ig hgs goes (fun v s1 gs' hb hv => ?_) fun s1 hp h' hk' => ?_)
    · obtain ⟨_, ⟨F', H', _, I', _⟩, hk'⟩ := hv
      exact (hk' s1 ⟨rfl, rfl, I'.bare, rfl⟩).elim
    · obtain ⟨_, F', H', gr', I', hg'⟩ := hp
      refine wpAny_bind (wpAny_rule (wpAny_pure (hend _ ⟨F', H', gr', fin I' hk', ?_⟩)))
      show g < (s1.setGen g .finished).gens.size
      rw [setGen_size]; exact hg'
  | succ m ih =>
    rintro i s hk hi ⟨Fh, H, gr, I, st, nf, hg⟩ ⟨gs, hgs, goes⟩
    have ig : s.heap.IsGen a g := hgo _ (I.pin (a, go) (List.mem_append_right _ (List.mem_singleton.mpr rfl))).1
    refine codeAny_builtin PySem.F.entry_all_loop ?_
    rw [Around.under_plainId PySem.F.plain_all_loop _]
    show wpAny _ X.A.in1 (pyNext (.ref a) >>= _) _ _ s
    refine wpAny_bind (wpAny_pyNext_genexpQ (A := X.A.in1) hh I.nolimit hr.depth ig hgs goes (fun v s1 gs' hb hv => ?_) fun s1 hp h' hk' => ?_)
    · obtain ⟨rfl, bi, hk'⟩ := hv
      have e : ds.length - (m + 1 - 1) = i + 1 := by omega
      rw [e] at bi
      refine wpAny_bind (wpAny_holding (wpAny_truthy_bool ?_))
      refine wpAny_bind (wpAny_letGo ?_)
      rw [if_pos rfl]
      obtain ⟨F', H', gr', I', st', nf', hg'⟩ := id bi
      have bs : AllBare (s1.setGen g gs').gens := allBare_setGen I'.bare hb
      refine wpAny_pure ⟨plainId_quiet PySem.F.plain_all_loop _, ih (i + 1) _ (by omega) (by omega) ⟨F', H', gr', near_inv I' ⟨rfl, rfl, bs, setGen_size ..⟩, st', nf', by rw [setGen_size]; exact hg'⟩ ⟨gs', setGen_at hg', ?_⟩⟩
      exact hk' _ ⟨rfl, rfl, allBare_setGen bs rfl, by rw [setGen_size, setGen_size]⟩
    · exact absurd hp.1 (by omega)
end
end LC
/-! all(.. for .. in ..): the rule. -/
namespace LC
open PySem L2 PySem.Spec PyProof.Rows GenW
/-- the word of a code object's table -/
def TblW (o : HO) : Prop := ∃ ps : Array Value, o = .tbl ps ∧ TriplesOk ps.toList
theorem boot_all : bootBuiltins "all" = some (.builtin "all") := by decide +kernel
section
variable {X : Cx} {Wl : Wild} {ρ : Env'} {elt tg iter : Expr} {p pos gpos : Pos} {js : List Nat} {scope : Scope} {Q : R → Prop} {σ : L2.St} {pins : List (Addr × Obj)} {s : Shared}
theorem gr_wild {F H : Hp} {P : Addr} {o : HO} {w : HO → Prop} (h : At Wl F H) (hP : (P, w) ∈ Wl) (hw : ∀ q ∈ Wl, q.1 = P → q.2 o) : Gr Wl F H F (upd H P o) := by
  have fP := (h.wl _ hP).1
  refine ⟨Evl.Ex.refl F, fun a u e t => ?_, fun _ _ e => e, fun a u e => ?_, fun q hq => ?_⟩
  · rw [upd_ne (fun z => t _ hP z.symm)]; exact e
  · rw [upd_ne fun z => by rw [z] at e; exact absurd (e.symm.trans fP) (by simp)]; exact h.fh a u e
  · obtain ⟨q1, u, q2, q3⟩ := h.wl q hq
    refine ⟨q1, ?_⟩
    by_cases z : q.1 = P
    · exact ⟨o, by rw [z]; exact upd_same, hw q hq z⟩
    · exact ⟨u, by rw [upd_ne z]; exact q2, q3⟩
theorem all_done {G : Cx} {F4 H4 : Hp} {a : Addr} {go : Obj} {g : Nat} {σw : L2.St} {fp : List Addr} {s4 s' : Shared} {Cc : Addr} {code : Value} {B : Around} (hG : G = gcx X s4 H4 scope Cc code fp B) (I4 : Inv X pins σ H4 s4)
    (hf : ∀ b ∈ fp, FpOk X pins H4 b) (h : BE G Wl F4 H4 a go g σw s') : ∃ F' H', Inv X pins σ H' s' ∧ Gr Wl F4 H4 F' H' := by
  obtain ⟨F', H', gr, I, _⟩ := h
  subst hG
  exact ⟨F', H', I4.call' (ch := fp) I.os I.base I.hok I.bare fun b hb => ⟨(hf b hb).2.2.2.1, (hf b hb).2.1, (hf b hb).2.2.2.2.1, (hf b hb).2.2.2.2.2⟩, gr⟩
theorem gen_all {own : List (Str × Nat)} {c P : Addr} {k : Nat} {F H : Hp} {Q' : Value → Shared → Prop} (hr : Room (k + 1) X.A) (hcm : X.calm = true) (hN : X.N.Nodup) (ok : GenOk X.N X.env.scope scope own) (TB : GxR.TabB X.base X.mg c P) (hP : (P, TblW) ∈ Wl) (hu : ∀ q ∈ Wl, q.1 = P → q.2 = TblW) (hcode : X.env.code = .ref c) (hj : ∀ j ∈ js, j ∈ own.map (·.2))
    (h : WI X Wl ρ tg iter fun ds => (∀ d ∈ ds, GBlk X scope k fun X' => WG X' Wl js (wipeR ρ (own.map (·.2))) tg d fun ρ2 => WE X' Wl ρ2 elt (boolK (· = true))))
    (hs : ∀ v, genFold iter X.env v = pure v) (ha : At Wl F H) (hsl : Slots (cxEn X) Wl ρ F H σ) (I : Inv X pins σ H s)
    (hQ : ∀ a g s5, s5.heap.IsGen a g → (∀ R : Result → Shared → Prop, (∀ s' F' H', Inv X pins σ H' s' → Gr Wl F H F' H' → R (.ok (.ret (.bool true))) s') → codeAny (model X.prog X.w) X.A (.builtin "all.loop" ⟨[.ref a], []⟩) R s5) → Q' (.ref a) s5) :
    wpAny (model X.prog X.w) X.A (eval (.GeneratorExp elt [⟨tg, iter, [], 0⟩] scope gpos) X.env) Q' X.xe s := by
  have hr1 : Room 1 X.A := hr.mono (by omega)
  have hfree : ∀ y ∈ scope.names, y.2 = .free → ∃ c, X.env.cells.lookup y.1 = some c := fun y hy e => (ok.blk.free y hy e).elim (fun z => I.ok.has _ (.inl z)) (fun z => I.ok.has _ (.inr z))
  refine wpAny_GeneratorExp_make ok.co (closure_ok hfree) ok.cell ok.dot ok.blk.kind hr.depth ?_ hs
  refine thn (h F H σ (fun J H' => ∃ ds F', (∀ d ∈ ds, GBlk X scope k fun X' => WG X' Wl js (wipeR ρ (own.map (·.2))) tg d fun ρ2 => WE X' Wl ρ2 elt (boolK (· = true))) ∧ Gr Wl F H F' H' ∧ WalkD (cxEn X) Wl J F' ds) ha hsl
    (fun ds J F' H' q g wk => ⟨ds, F', q, g, wk⟩) pins s I) fun xv s1 hx => thn hx fun itv s2 ⟨it, fp, tn, J, H2, e, I2, T, st2, f2, ds, F2, q, g2, wk⟩ => ?_
  subst e
  refine ⟨I2.nolimit, ?_⟩
  obtain ⟨fP, o, hP2, ps, eo, ht⟩ := g2.at_.wl _ hP
  have hP2 : H2 P = some o := hP2
  subst eo
  have hPs : s2.heap.get? P = some { cls := .none, data := .fields ps } := I2.hok P _ hP2
  have hPlt : P < s2.heap.objs.size := Heap.lt_size hPs
  have cd : PySem.W.CodeHd s2.heap c P := TB.code.keeps fun b u e => I2.bk b u e
  have cont : ∀ (code : Value) (h3 : Heap) (tk : Nat) (ps' : Array Value), Heap.ExtBut P s2.heap h3 → s2.heap.objs.size ≤ h3.objs.size → h3.get? P = some { cls := .none, data := .fields ps' } → (∃ more, ps' = ps ++ more) → TriplesOk ps'.toList →
      wpAny (model X.prog X.w) X.A (builtinsFor X.env.globals X.env.builtins) (fun bi s₄ =>
        ∀ h', h'.Ns s₄.heap.objs.size (fun y => if y = ".0" then some (.ref it) else none) → Heap.SameBut s₄.heap.objs.size (s₄.heap.push { cls := .type "frame", data := .dict #[] }) h' →
          Q' (.ref h'.objs.size) { s₄ with
            gens := s₄.gens.push (.fresh (.compStart (.GeneratorExp elt [⟨tg, iter, [], 0⟩] scope gpos) 0 (.ref it) .none (genEnv scope (cloFrom X.env.cells scope.names []) s₄.heap.objs.size code bi X.env))),
            toks := s₄.toks + 1 + 1 + 1,
            heap := h'.push { cls := .type "generator", data := .fields #[.int s₄.gens.size 0, .str "<genexpr>" (s₄.toks + 1), .str (X.env.qual ++ "<genexpr>") (s₄.toks + 1 + 1)] } }) X.xe { s2 with heap := h3, toks := tk } := by
    intro code h3 tk ps' hx hsz hP3 hmore ht3
    obtain ⟨bm, ob, e1, e2, e3, e4, e5, e6, e7, e8⟩ := TB.bm
    have keep3 : ∀ b u, b ≠ P → s2.heap.get? b = some u → h3.get? b = some u := fun b u hb e => hx b u hb e
    obtain ⟨more, em⟩ := hmore
    subst em
    have I4 := GxR.inv_tab (more := more) (h' := h3) (g' := s2.gens) (d' := s2.drawn) (t' := tk) I2 hP2 (fun b u hb e => keep3 b u hb e) hP3 I2.bare
    generalize hs4 : ({ s2 with heap := h3, gens := s2.gens, drawn := s2.drawn, toks := tk } : Shared) = s4 at I4
    have h4h : s4.heap = h3 := by rw [← hs4]
    have h4g : s4.gens = s2.gens := by rw [← hs4]
    refine wpAny_builtinsFor (m := X.mg) (by rw [I2.ok.glob, h4h]; exact ((I2.mod.glob.keeps I2.bk)).extBut hx TB.gP) e1 e2 (by rw [h4h]; exact keep3 _ _ e4 (I2.bk _ _ e5)) e6 e7 e8 ?_
    intro h' hn' hs'
    have g4 : Gr Wl F2 H2 F2 (upd H2 P (.tbl (ps ++ more))) := gr_wild g2.at_ hP fun q hq z => by rw [hu q hq z]; exact ⟨_, rfl, ht3⟩
    generalize hH4 : upd H2 P (.tbl (ps ++ more)) = H4 at I4 g4
    have sz' : h'.objs.size = s4.heap.objs.size + 1 := by rw [hs'.1, Heap.size_push]
    have keep' : ∀ b o, s4.heap.get? b = some o → h'.get? b = some o := fun b o e => hs'.extBut b o (Nat.ne_of_lt (Heap.lt_size e)) (Heap.get?_push_of_some _ e)
    generalize hgo : ({ cls := .type "generator", data := .fields #[.int s4.gens.size 0, .str "<genexpr>" (s4.toks + 1), .str (X.env.qual ++ "<genexpr>") (s4.toks + 1 + 1)] } : Obj) = go
    have isg : ∀ hh : Heap, hh.get? h'.objs.size = some go → hh.IsGen h'.objs.size s4.gens.size := fun hh e => by
      subst hgo
      exact ⟨_, _, _, e, rfl, rfl, rfl⟩
    have hgn : h'.objs.size ≤ h'.objs.size := Nat.le_refl _
    have hg0 : (h'.push go).get? h'.objs.size = some go := Heap.get?_push_size _ (by rw [← hgo]; rfl)
    have f4 : ∀ b ∈ fp, FpOk X pins H4 b ∧ b < s4.heap.objs.size := fun b hb => by
      obtain ⟨o, e, _⟩ := T.obj _ _ st2 b hb
      have hlt := Heap.lt_size e
      have hbP : b ≠ P := fun z => by
        have := (f2 b hb).1
        rw [z, hP2] at this; cases this
      refine ⟨⟨by rw [← hH4, upd_ne hbP]; exact (f2 b hb).1, (f2 b hb).2⟩, by rw [h4h]; exact Nat.lt_of_lt_of_le hlt hsz⟩
    have hfr : X.A.frames = some X.stack := I2.ok.frames
    generalize hBB : X.A.in1.in1.over (.compLoop (.GeneratorExp elt [⟨tg, iter, [], 0⟩] scope gpos) 0 (.ref it) .none (gEnv X scope s4.heap.objs.size code)) [] = BB
    have hBf : BB.frames = some (gEnv X scope s4.heap.objs.size code :: X.stack) := by
      rw [← hBB]
      show pushEnvs [gEnv X scope s4.heap.objs.size code] (pushEnvs [] X.A.frames) = _
      rw [hfr]; rfl
    have hBd : BB.handled = none := by rw [← hBB]; exact hr.hd
    have hBr : Room k BB := by
      rw [← hBB]
      refine ⟨hr.hd, ?_, ?_⟩
      · have := hr.dp
        show X.A.depth + 0 + 1 + 3 * k + 5 < _
        omega
      · have := hr.un
        show X.A.units + 1 + 1 + 0 + 3 + 16 * k + 200 < _
        omega
    have I5 := gen_start (h' := h'.push go) (g' := s4.gens.push (.fresh (.compStart (.GeneratorExp elt [⟨tg, iter, [], 0⟩] scope gpos) 0 (.ref it) .none (gEnv X scope s4.heap.objs.size code)))) (d' := s4.drawn) (t' := s4.toks + 1 + 1 + 1)
      (a := h'.objs.size) (go := go) (code := code) I4 ok hN f4 (fun b o e => Heap.get?_push_of_some _ (keep' b o e)) (hn'.push _) hBf hBd (I4.bare.push rfl) (by omega) hg0 (fun v => by rw [← hgo]; simp)
    have st5 : tn 0 (h'.push go) := T.keep _ _ _ st2 fun b hb o e => by
      have hbP : b ≠ P := fun z => by
        have := (f2 b hb).1
        rw [z, hP2] at this; cases this
      exact Heap.get?_push_of_some _ (keep' b o (by rw [h4h]; exact keep3 b o hbP e))
    refine hQ _ s4.gens.size _ (isg _ hg0) fun R hR => ?_
    have haf : h'.objs.size ∉ fp := fun hm => by
      have hlt := (f4 _ hm).2
      have hlt : h'.objs.size < s4.heap.objs.size := hlt
      rw [sz'] at hlt
      exact Nat.lt_irrefl _ (Nat.lt_trans (Nat.lt_succ_self _) hlt)
    have bi : BI (gcx X s4 H4 scope s4.heap.objs.size code fp BB) Wl F2 H4 h'.objs.size go s4.gens.size (wipe σ (own.map (·.2))) fp tn 0 { s4 with gens := s4.gens.push (.fresh (.compStart (.GeneratorExp elt [⟨tg, iter, [], 0⟩] scope gpos) 0 (.ref it) .none (gEnv X scope s4.heap.objs.size code))), toks := s4.toks + 1 + 1 + 1, heap := h'.push go } :=
      ⟨F2, H4, Gr.refl g4.at_, I5, st5, fun b hb => (f4 b hb).1.1, by show s4.gens.size < (s4.gens.push _).size; rw [Array.size_push]; exact Nat.lt_succ_self _⟩
    refine all_loop rfl hr1 isg (fun s' be => ?_) ds.length 0 _ (Nat.sub_zero _) (Nat.zero_le _) bi ⟨_, Array.getElem?_push_size .., rfl, ?_⟩
    · obtain ⟨F', H', I', g'⟩ := all_done rfl I4 (fun b hb => (f4 b hb).1) be
      exact hR s' F' H' I' ((g2.trans g4).trans g')
    · refine seg_start (A2 := X.A.in1.in1) (js := js) rfl hr.hd T hcm ok.co wk (((hsl.mono g2).mono g4).wipe _) hBB.symm hj haf (fun d hd => q d hd _ _ _ _ _ _ hBr) _ _ ?_
      obtain ⟨F', H', z1, z2, z3, z4, z5⟩ := bi
      exact ⟨F', H', z1, near_inv z2 ⟨rfl, rfl, allBare_setGen z2.bare rfl, setGen_size ..⟩, z3, z4, by rw [setGen_size]; exact z5⟩
  cases hf : codeAmong gpos ps.toList with
  | none =>
    refine wpAny_genexprCodeX hcode (cd.code hPs ht) (cd.tab hPs) hf fun c' h' tk hx hge hlt hco' _ htab' _ => ?_
    obtain ⟨o1, vs, f1, tf, fl, tg, inF, tx, tt, op, _, _, _, _, _, _, _, _, _, htr, _⟩ := hco'
    exact cont _ h' tk _ hx (Nat.le_trans hge (Nat.le_of_lt hlt)) htab'.2 ⟨_, rfl⟩ htr
  | some cv =>
    refine wpAny_genexprCode_hit hcode (cd.code hPs ht) hf ?_
    exact cont cv s2.heap s2.toks ps (Heap.ExtBut.refl _ _) (Nat.le_refl _) hPs ⟨#[], by simp⟩ ht
/-- what a def with a generator of its own has: its code object, the table's place -/
structure Tab (base : Heap) (mg : Str → Option Value) (W0 : Wild) (c : Addr) : Prop where
  ex : ∃ P, GxR.TabB base mg c P ∧ (P, TblW) ∈ W0
/-- all(elt for tg in iter), each of them true -/
theorem we_all {own : List (Str × Nat)} {c : Addr} {k : Nat} {W0 : Wild} (hm : X.mg "all" = none) (hr : Room (k + 1) X.A) (hcm : X.calm = true) (hN : X.N.Nodup) (ok : GenOk X.N X.env.scope scope own) (TB : Tab X.base X.mg W0 c) (hW : Incl W0 Wl) (hcode : X.env.code = .ref c) (hj : ∀ j ∈ js, j ∈ own.map (·.2))
    (h : WI X Wl ρ tg iter fun ds => (∀ d ∈ ds, GBlk X scope k fun X' => WG X' Wl js (wipeR ρ (own.map (·.2))) tg d fun ρ2 => WE X' Wl ρ2 elt (boolK (· = true)))) (hq : Q (.val (.bool true)))
    (hg : Gl X "all" := by rfl) (hs : ∀ v, genFold iter X.env v = pure v := by intro _; rfl)
    (he : starEach [.GeneratorExp elt [⟨tg, iter, [], 0⟩] scope gpos] X.env = (false, eval (.GeneratorExp elt [⟨tg, iter, [], 0⟩] scope gpos) X.env) :: starEach [] X.env := by rfl) :
    WE X Wl ρ (.Call (.Name "all" p) [.GeneratorExp elt [⟨tg, iter, [], 0⟩] scope gpos] [] pos) Q := fun F H σ C ha hsl hc pins s I => by
  obtain ⟨P, tb, hP⟩ := TB.ex
  refine wpAny_Call_Name_kw (ld_blt I hg hm boot_all ?_)
  refine PyProof.Rows.callWith_builtin1 ?_ he (by rfl)
  rw [he]
  show wpAny _ _ (spliced ((false, eval (.GeneratorExp elt [⟨tg, iter, [], 0⟩] scope gpos) X.env) :: backTo pos (starEach [] X.env))) _ _ s
  refine Calls.spliced_cons (gen_all hr hcm hN ok tb (hW.1 _ hP) (fun q hq z => hW.2 _ hP q hq z) hcode hj h hs ha hsl I fun a g s5 hg5 run => ?_)
  refine Calls.spliced_nil ?_
  refine call_function_tree PySem.F.kind_all PySem.F.plain_all PySem.F.entry_all (PySem.F.args_all1 _) ?_
  unfold Builtin.«all»
  refine wpAny_bind (m := oneArg "all" _) (wpAny_pure ?_)
  refine wpAny_bind (wpAny_pyIter_gen hg5 ?_)
  refine wpAny_pure ⟨plainId_quiet PySem.F.plain_all_loop _, run _ fun s' F' H' I' g' => ?_⟩
  exact ⟨.bl true, H', I', rfl, hc _ _ F' H' hq g' (Rep.bool true)⟩
end
/-- a def that makes a generator of its own -/
structure DefG (K : PySem.W.Frag) (mg : Str → Option Value) (base : Heap) (W0 : Wild) (x : Str) (st : Stmt) : Prop where
  ex : ∃ (f : Addr) (fd : FuncData) (c : Addr), FunD K x x (defArgs st) (defBody st) (defScope st) [] [] f fd ∧ mg x = some (.ref f) ∧ fd.code = .ref c ∧ Tab base mg W0 c
section
variable {P : Program} {w : World} {K : PySem.W.Frag} {mg : Str → Option Value} {base : Heap} {W0 : Wild}
theorem can_bodyG {x : Str} {st : Stmt} (DA : DefG K mg base W0 x st) {N ps : List Str} {k : Nat} {g : Con} (S : FnScope N ps (defScope st))
    (hb : ∀ (kV doc pm : Value) (an : Option Addr) (cdv ct : Value) (us : List Value), us.length = ps.length → bindArgs (PySem.W.fnOf x x (defArgs st) (defBody st) (defScope st) .none kV doc pm an cdv ct) ⟨us, []⟩ = pure (ps.zip us))
    (h : ∀ (f : Addr) (c : Addr) (A : Around) (outer : List Env) (s : Shared) (H : Hp) (E : XK) (Wl : Wild) (rs : List R) (C : D → Prop), Tab base mg W0 c → Room k (A.deeper (envOfC x (defScope st) s.heap.objs.size f (.ref c))) → Incl W0 Wl → g rs C →
      WSs (frame P w K mg base N x (defScope st) f (.ref c) A outer s H E) Wl (startR N rs) (defBody st) { nx := fun _ => C .none, rt := C }) : Can P w K mg base W0 (k + 1) x ps.length g [] := by
  obtain ⟨f, fd, c, F, hm, hcd, T⟩ := DA.ex
  obtain ⟨ds, h1, h2⟩ : ∃ ds, Vals [] ds ∧ Binds K fd ps ds := ⟨[], .nil, F.bindsN hb⟩
  refine ⟨f, fd, ps, [], ds, ?_, rfl, hm, F.kp, h2, h1, fun _ => .nil⟩
  obtain ⟨oc, od, dV, kV, doc, pm, an, cdv, ct, osl, rfl, lk, hcdn, _, _⟩ := F.ex
  have hcd : cdv = .ref c := hcd
  subst hcd
  refine fn_of lk hcdn S (fun vs H Q E hs => hs.1) fun A outer s H vs Q E hr hs => ?_
  obtain ⟨hl, Wl, F1, rs, C, hW, ha, hr1, hn, hg, hq⟩ := hs
  refine ⟨_, PSs.nox (pss_sem (st := defBody st)), ?_⟩
  refine h f c A outer s H E Wl rs C T hr hW hg F1 H F1 H _ _ ⟨Gr.refl ha, slots_start hr1, fun i d a e => absurd e (startR_own hn), fun i j d d' _ e => absurd e (startR_own hn)⟩ ⟨fun ρ' F' H' σ' q s => hq .none .non F' H' q s.gr .none, fun d v F' H' q g r => hq d v F' H' q g r, fun _ _ _ _ q => q.elim, fun _ _ _ _ q => q.elim⟩
end
end LC
/-! The walks of the checks. -/
namespace LC
open PySem L2 PySem.Spec PyProof.Rows
/-- the defs that make a generator -/
structure Bg (K : PySem.W.Frag) (mg : Str → Option Value) (base : Heap) (W0 : Wild) : Prop where
  are_rising : DefG K mg base W0 "are_rising" s_are_rising
  are_editions : DefG K mg base W0 "are_editions" s_are_editions
  are_gaps : DefG K mg base W0 "are_gaps" s_are_gaps
  is_book : DefG K mg base W0 "is_book" s_is_book
  need_plan : DefG K mg base W0 "need_plan" s_need_plan
  is_exchange_pair : DefG K mg base W0 "is_exchange_pair" s_is_exchange_pair
  holds : DefG K mg base W0 "holds" s_holds
section
variable {X : Cx} {Wl W0 : Wild} {ρ : Env'} {Φ : Wish} {a b c e : Expr} {es : List Expr} {sa sb : List Stmt} {pos p : Pos}
theorem WT.mono {Q Q' : Bool → Prop} (h : WT X Wl ρ e Q) (k : ∀ x, Q x → Q' x) : WT X Wl ρ e Q' := fun F H σ C ha hs hc => h F H σ C ha hs fun x F' H' q => hc x F' H' (k x q)
theorem WA.mono {Q Q' : List R → Prop} (h : WA X Wl ρ es Q) (k : ∀ x, Q x → Q' x) : WA X Wl ρ es Q' := fun F H σ C ha hs hc => h F H σ C ha hs fun x v F' H' q => hc x v F' H' (k x q)
/-! ### guards that do not fire -/
def no (b : Bool) : Prop := b = false
def yes (b : Bool) : Prop := b = true
theorem ws_ifF (h : WT X Wl ρ c no) (k : WSs X Wl ρ sb Φ) : WS X Wl ρ (.If c sa sb pos) Φ := ws_if (h.mono fun x e => ⟨fun z => (Bool.noConfusion (z.symm.trans e)), fun _ => k⟩)
theorem ws_ifT (h : WT X Wl ρ c yes) (k : WSs X Wl ρ sa Φ) : WS X Wl ρ (.If c sa sb pos) Φ := ws_if (h.mono fun x e => ⟨fun _ => k, fun z => (Bool.noConfusion (z.symm.trans e))⟩)
theorem gd_1 (h : WT X Wl ρ a no) : WW X Wl ρ (.BoolOp .Or [a] pos) no := ww_or1 h
theorem gd (h : WT X Wl ρ a no) (k : WW X Wl ρ (.BoolOp .Or (b :: es) pos) no) : WW X Wl ρ (.BoolOp .Or (a :: b :: es) pos) no := ww_or (h.mono fun x e => ⟨fun _ => k, fun z => (Bool.noConfusion (z.symm.trans e))⟩)
theorem wt_nt (h : WT X Wl ρ a yes) : WT X Wl ρ (.UnaryOp .Not a pos) no := wt_not (h.mono fun x e => by show (!x) = false; rw [show x = true from e]; rfl)
theorem we_andY {Q : R → Prop} (h : WE X Wl ρ a (boolK yes)) (k : WE X Wl ρ (.BoolOp .And (b :: es) pos) Q) : WE X Wl ρ (.BoolOp .And (a :: b :: es) pos) Q := we_and (h.mono fun r q => by
  match r, q with
  | .val (.bool x), q => exact ⟨fun _ => k, fun z => Bool.noConfusion (z.symm.trans q)⟩)
/-- isinstance(e, tuple) of a tuple -/
theorem wt_tup (B : Bare X.mg) {ds : List D} {pt : Pos} (h : WE X Wl ρ a fun r => r = .val (.tuple ds)) (hk : PySem.W.kitOne X.K (.type "tuple") (.type "tuple") = some true := by exact kit_ty (by decide +kernel))
    (hg : Gl X "isinstance" := by rfl) (hgT : Gl X "tuple" := by rfl) (he : starEach [a, .Name "tuple" pt] X.env = (false, eval a X.env) :: starEach [.Name "tuple" pt] X.env := by rfl)
    (hi : ∀ whole, isTrue (.Call (.Name "isinstance" p) [a, .Name "tuple" pt] [] pos) X.env whole = (do let v ← whole; standAt (Expr.Call (.Name "isinstance" p) [a, .Name "tuple" pt] [] pos).pos; holding [v] (truthy v)) := by intro _; rfl) : WT X Wl ρ (.Call (.Name "isinstance" p) [a, .Name "tuple" pt] [] pos) yes :=
  wt_val (we_isTup B (h.mono fun r e => by subst e; exact ⟨trivial, rfl⟩) hk hg hgT he) hi
/-- is_number(e, lo, hi), and it is -/
theorem we_num (B : Bd X.K X.mg) {j : Nat} (hr : Room j X.A) (hk : 1 ≤ j) (hW : Incl W0 Wl) (h : WA X Wl ρ [a, b, c] fun rs => ∃ v lo hi : Int, rs = [.val (.int v), .val (.int lo), .val (.int hi)] ∧ lo ≤ v ∧ v ≤ hi)
    (can : ∀ (P : Program) (w : World) (base : Heap), Can P w X.K X.mg base W0 1 "is_number" 3 gNum []) (hg : Gl X "is_number" := by rfl) (he : starEach [a, b, c] X.env = (false, eval a X.env) :: starEach [b, c] X.env := by rfl) (hpl : (backTo pos (starEach [b, c] X.env)).any (·.1) = false := by rfl) :
    WE X Wl ρ (.Call (.Name "is_number" p) [a, b, c] [] pos) (boolK yes) := by
  refine we_call (can X.prog X.w X.base) hr hk hW (h.mono fun rs ⟨v, lo, hi, e, h1, h2⟩ => ?_) hg (by decide) he hpl
  subst e
  exact ⟨rfl, rfl, v, lo, hi, rfl, decide_eq_true ⟨h1, h2⟩⟩
theorem we_neg {Q : R → Prop} (h : WE X Wl ρ a (valK (numK fun i => Q (.val (.int (-i)))))) : WE X Wl ρ (.UnaryOp .USub a pos) Q := fun F H σ C ha hs hc => (pe_un un_neg pe_sem).sem (h F H σ _ ha hs fun r v F1 H1 q g rr => by
  match r, q, rr with
  | .val (.int i), q, rr => cases rr; exact ⟨i, rfl, hc _ _ F1 H1 q g (Rep.int _)⟩)
end
section
variable {P : Program} {w : World} {K : PySem.W.Frag} {mg : Str → Option Value} {base : Heap} {W0 : Wild}
theorem cut1 (ds : List D) : cutD ds (some 1) none = ds.drop 1 := by
  unfold cutD
  rw [show HT.sIx ds.length 0 (some 1) = min 1 ds.length from HT.sIx_nat ds.length 0 1, HT.sIx_none]
  cases ds with
  | nil => rfl
  | cons d r =>
    have : min 1 (d :: r).length = 1 := by simp
    rw [this]
    exact List.take_of_length_le (by simp)
theorem zip_next {ds : List D} {d : D} (h : d ∈ zipD ds (cutD ds (some 1) none)) : ∃ i x y, ds[i]? = some x ∧ ds[i + 1]? = some y ∧ d = .tuple [x, y] := by
  rw [cut1] at h
  unfold zipD at h
  obtain ⟨i, hi, e⟩ := List.getElem_of_mem h
  rw [List.getElem_zipWith] at e
  rw [List.length_zipWith, List.length_drop] at hi
  refine ⟨i, _, _, List.getElem?_eq_getElem (by omega), ?_, e.symm⟩
  rw [List.getElem_drop, List.getElem?_eq_getElem (by omega)]
  congr 2
  omega
def ltT (x y : D) : Prop := ltK (.val x) (.val y) (boolK (· = true))
def gRising : Con := fun rs C => ∃ ds : List D, rs = [.val (.tuple ds)] ∧ (∀ i x y, ds[i]? = some x → ds[i + 1]? = some y → ltT x y) ∧ C (.bool true)
theorem can_are_rising (B : Bd K mg) (G : Bg K mg base W0) : Can P w K mg base W0 2 "are_rising" 1 gRising [] := by
  refine can_bodyG (N := ["value", "one", "other"]) (ps := ["value"]) G.are_rising ⟨rfl, rfl, rfl, by decide +kernel, rfl, by decide +kernel, by decide +kernel⟩ (fun _ _ _ _ _ _ us hl => match us, hl with | [_], _ => rfl) ?_
  intro f cd A outer s H E Wl rs C tb hr hW ⟨ds, e, hd, hC⟩
  subst e
  have hN : (["value", "one", "other"] : List Str).Nodup := by decide +kernel
  have hu := hu_of hr
  refine wss_one (ws_ret ?_)
  refine we_all (own := [("one", 1), ("other", 2)]) (js := [1, 2]) (k := 0) B.bare.all hr rfl hN (genOk_by (N := ["value", "one", "other"]) (sc := defScope s_are_rising) (by decide +kernel)) tb hW rfl (by decide) ?_ hC
  refine wi_zipT B.bare.zip (we_var 0 rfl (we_sl10 (we_var 0 rfl (we_int ?_))))
  intro d hm s' H' C' code fp B' hB
  obtain ⟨i, x, y, h1, h2, rfl⟩ := zip_next hm
  have hu' := hu_of hB
  refine wg_tup rfl (wgs_cons (wg_name 1 (wgs_cons (wg_name 2 (wgs_nil ?_) hN)) hN))
  exact we_lt hu' (we_var 1 rfl (we_var 2 rfl (hd i x y h1 h2)))
end
end LC
/-! The walks of the checks of a clock. -/
namespace LC
open PySem L2 PySem.Spec PyProof.Rows
section
variable {P : Program} {w : World} {K : PySem.W.Frag} {mg : Str → Option Value} {base : Heap} {W0 : Wild}
theorem sum_small {ns : List Int} (h : ∀ x ∈ ns, 0 ≤ x ∧ x ≤ 4) (hl : ns.length ≤ 6) : SmallSum ns := by
  have key : ∀ l : List Int, (∀ x ∈ l, 0 ≤ x ∧ x ≤ 4) → 0 ≤ l.sum ∧ l.sum ≤ 4 * (l.length : Int) := by
    intro l
    induction l with
    | nil => intro _; exact ⟨Int.le_refl _, Int.le_refl _⟩
    | cons x r ih =>
      intro hx
      have h1 := hx x List.mem_cons_self
      have h2 := ih fun y hy => hx y (List.mem_cons_of_mem _ hy)
      rw [List.sum_cons, List.length_cons]
      push_cast
      omega
  intro j hj
  have h1 := h (ns.getD j 0) (by rw [getD_at hj]; exact List.getElem_mem hj)
  refine ⟨⟨by omega, by omega⟩, ?_⟩
  rw [preSum_sum ns (j + 1) hj]
  have h2 := key (ns.take (j + 1)) fun x hx => h x (List.mem_of_mem_take hx)
  have h3 : (ns.take (j + 1)).length ≤ 6 := Nat.le_trans (List.length_take_le _ _) (by omega)
  exact ⟨by omega, by omega⟩
def gEds : Con := fun rs C => ∃ c : Clock, c.Ok ∧ rs = [.val (.tuple (c.ed.map eI))] ∧ C (.bool true)
theorem can_are_editions (B : Bd K mg) (G : Bg K mg base W0) : Can P w K mg base W0 3 "are_editions" 1 gEds [] := by
  refine can_bodyG (N := ["value", "last"]) (ps := ["value"]) G.are_editions ⟨rfl, rfl, rfl, by decide +kernel, rfl, by decide +kernel, by decide +kernel⟩ (fun _ _ _ _ _ _ us hl => match us, hl with | [_], _ => rfl) ?_
  intro f cd A outer s H E Wl rs C tb hr hW ⟨c, ok, e, hC⟩
  subst e
  have hN : (["value", "last"] : List Str).Nodup := by decide +kernel
  have hu := hu_of hr
  obtain ⟨t1, m1⟩ := B.MOST_WHEELS
  obtain ⟨t2, m2⟩ := B.MOST_EDITIONS
  obtain ⟨t3, m3⟩ := B.MOST_EXCHANGES
  have hl : ((c.ed.map eI).length : Int) = c.n := by rw [List.length_map]; rfl
  have l1 := ok.n1
  have l2 := ok.n2
  refine wss_cons (ws_ifF (wt_or (gd (wt_nt (wt_tup B.bare (we_var 0 rfl rfl))) (gd_1 (wt_nt ?_)))) (wss_nil (wss_one (ws_ret ?_))))
  · refine wt_le_le (we_int (we_len B.bare (wa_cons (we_var 0 rfl (wa_nil ⟨fun _ => we_globI m1 ?_, fun q => ?_⟩)))))
    · exact decide_eq_true (by rw [hl]; omega)
    · exact absurd (of_decide_eq_false q) (by rw [hl]; omega)
  · refine we_andY (we_all (own := [("last", 1)]) (js := [1]) (k := 1) B.bare.all hr rfl hN (genOk_by (N := ["value", "last"]) (sc := defScope s_are_editions) (by decide +kernel)) tb hW rfl (by decide) (wi_tup (we_var 0 rfl ?_)) rfl) (we_one (we_le (we_sum B.bare (wa_cons (we_var 0 rfl (wa_nil ⟨c.ed, rfl, sum_small ok.ed ok.n2, we_globI m3 ?_⟩))))))
    · intro d hm s' H' C' code fp B' hB
      obtain ⟨x, hx, rfl⟩ := List.mem_map.mp hm
      refine wg_name 1 ?_ hN
      exact we_num B hB (by decide) hW (wa_cons (we_var 1 rfl (wa_cons (we_int (wa_cons (we_globI m2 (wa_nil ⟨x, 0, 4, rfl, (ok.ed x hx).1, (ok.ed x hx).2⟩))))))) (fun _ _ _ => can_is_number B)
    · have := ok.sum
      show C (.bool (decide (c.ed.sum ≤ 24)))
      rw [decide_eq_true (by omega)]
      exact hC
theorem touch_at {c : Clock} {t : Int × Int × Int} : ([.int t.1, .int t.2.1, .int t.2.2] : List D).length = 3 := rfl
/-- tuples of numbers, rising -/
theorem rise_t {α : Type} {l : List α} {f : α → D} {g : α → List Int} (hf : ∀ a, f a = eG (g a)) (hn : ∀ a ∈ l, (g a).length ≤ 3) (h : (l.map g).Pairwise fun a b => lexB a b = true) : ∀ i x y, (l.map f)[i]? = some x → (l.map f)[i + 1]? = some y → ltT x y := by
  intro i x y h1 h2
  rw [List.getElem?_map] at h1 h2
  obtain ⟨a, e1, rfl⟩ := Option.map_eq_some_iff.mp h1
  obtain ⟨b, e2, rfl⟩ := Option.map_eq_some_iff.mp h2
  have hl : lexB (g a) (g b) = true := by
    rw [List.pairwise_map, List.pairwise_iff_getElem] at h
    obtain ⟨i1, z1⟩ := List.getElem?_eq_some_iff.mp e1
    obtain ⟨i2, z2⟩ := List.getElem?_eq_some_iff.mp e2
    have := h i (i + 1) i1 i2 (Nat.lt_succ_self _)
    rwa [z1, z2] at this
  rw [hf, hf]
  refine ⟨enc_G.pl _ _ (by decide), enc_G.pl _ _ (by decide), enc_G.al _ _, ?_⟩
  show PySem.W.dataLt (eG (g a)) (eG (g b)) = true
  rw [dataLt_ints]; exact hl
theorem rise_i {l : List Int} (h : rising l) : ∀ i x y, (l.map eI)[i]? = some x → (l.map eI)[i + 1]? = some y → ltT x y := by
  intro i x y h1 h2
  rw [List.getElem?_map] at h1 h2
  obtain ⟨a, e1, rfl⟩ := Option.map_eq_some_iff.mp h1
  obtain ⟨b, e2, rfl⟩ := Option.map_eq_some_iff.mp h2
  obtain ⟨i1, z1⟩ := List.getElem?_eq_some_iff.mp e1
  obtain ⟨i2, z2⟩ := List.getElem?_eq_some_iff.mp e2
  have := (List.pairwise_iff_getElem.mp h) i (i + 1) i1 i2 (Nat.lt_succ_self _)
  rw [z1, z2] at this
  exact decide_eq_true this
def gTouches : Con := fun rs C => ∃ c : Clock, c.Ok ∧ rs = [.val (.tuple (c.to.map eT)), .val (.int c.P), .val (.int c.n)] ∧ C (.bool true)
theorem can_are_touches (B : Bd K mg) (G : Bg K mg base W0) : Can P w K mg base W0 3 "are_touches" 3 gTouches [] := by
  refine can_body (N := ["value", "period", "wheels", "touch"]) (ps := ["value", "period", "wheels"]) B.are_touches ⟨rfl, rfl, rfl, by decide +kernel, rfl, by decide +kernel, by decide +kernel⟩ (fun _ _ _ _ _ _ us hl => match us, hl with | [_, _, _], _ => rfl) ?_
  intro f cdv A outer s H E Wl rs C hr hW ⟨c, ok, e, hC⟩
  subst e
  have hN : (["value", "period", "wheels", "touch"] : List Str).Nodup := by decide +kernel
  have hu := hu_of hr
  refine wss_cons (ws_ifF (wt_nt (wt_tup B.bare (we_var 0 rfl rfl))) (wss_nil ?_))
  refine wss_cons (ws_for (js := [3]) (by passes_own) rfl (wi_tup (we_var 0 rfl ⟨fun _ ρ => ∃ r, ρ = [some (.val (.tuple (c.to.map eT))), some (.val (.int c.P)), some (.val (.int c.n)), r], ⟨_, rfl⟩, ?_, ?_⟩)))
  · rintro i d ρ' hd ⟨r, rfl⟩
    obtain ⟨t, ht, rfl⟩ := List.mem_map.mp (List.mem_of_getElem? hd)
    obtain ⟨a1, a2, a3, a4, a5⟩ := ok.to t ht
    refine wg_name 3 ?_ hN
    refine wss_cons (ws_ifF (wt_or (gd (wt_nt (wt_tup B.bare (we_var 3 rfl rfl))) (gd (wt_ne hu (we_len B.bare (wa_cons (we_var 3 rfl (wa_nil (we_int ⟨rfl, rfl, rfl⟩)))))) (gd_1 (wt_nt (wt_val (we_num B hr (by decide) hW ?_ (fun _ _ _ => can_is_number B)))))))) (wss_nil ?_))
    · refine wa_cons (we_at (j := 0) (we_var 3 rfl rfl) rfl (wa_cons (we_int (wa_cons (we_sub (we_var 1 rfl (we_int (wa_nil ⟨t.1, 0, c.P - 1, rfl, a1, by omega⟩))))))))
    · refine wss_one (ws_ifF (wt_or (gd (wt_nt (wt_val (we_num B hr (by decide) hW ?_ (fun _ _ _ => can_is_number B)))) (gd_1 (wt_nt (wt_val (we_num B hr (by decide) hW ?_ (fun _ _ _ => can_is_number B))))))) (wss_nil ⟨_, rfl⟩))
      · refine wa_cons (we_at (j := 1) (we_var 3 rfl rfl) rfl (wa_cons (we_int (wa_cons (we_sub (we_var 2 rfl (we_int (wa_nil ⟨t.2.1, 0, c.n - 1, rfl, a3, by omega⟩))))))))
      · refine wa_cons (we_at (j := 2) (we_var 3 rfl rfl) rfl (wa_cons (we_add (we_at (j := 1) (we_var 3 rfl rfl) rfl (we_int (wa_cons (we_sub (we_var 2 rfl (we_int (wa_nil ⟨t.2.2, t.2.1 + 1, c.n - 1, rfl, by omega, by omega⟩))))))))))
  · rintro ρ' ⟨r, rfl⟩
    refine wss_one (ws_ret ?_)
    exact we_call (can_are_rising B G) hr (by decide) hW (wa_cons (we_var 0 rfl (wa_nil ⟨rfl, rfl, _, rfl, rise_t (g := t3) (fun _ => rfl) (fun _ _ => Nat.le_refl 3) ok.toR, hC⟩)))
theorem zip_map {α β : Type} (f : α → D) (g : β → D) : ∀ (l : List α) (m : List β), zipD (l.map f) (m.map g) = (l.zip m).map fun p => .tuple [f p.1, g p.2]
  | [], _ => by simp [zipD]
  | _ :: _, [] => by simp [zipD]
  | a :: l, b :: m => by
    have ih := zip_map f g l m
    unfold zipD at ih ⊢
    simp only [List.map_cons, List.zipWith_cons_cons, List.zip_cons_cons]
    rw [ih]
theorem int_eqv (x y : Int) : PyData.eqv (.int x) (.int y) = decide (x = y) := enc_int.eq x y
def gGaps : Con := fun rs C => ∃ c : Clock, c.Ok ∧ rs = [.val (.tuple (c.ga.map eG)), .val (.int c.P), .val (.tuple (c.ed.map eI))] ∧ C (.bool true)
theorem can_are_gaps (B : Bd K mg) (G : Bg K mg base W0) : Can P w K mg base W0 3 "are_gaps" 3 gGaps [] := by
  refine can_bodyG (N := ["value", "period", "editions", "phases", "last", "phase"]) (ps := ["value", "period", "editions"]) G.are_gaps ⟨rfl, rfl, rfl, by decide +kernel, rfl, by decide +kernel, by decide +kernel⟩ (fun _ _ _ _ _ _ us hl => match us, hl with | [_, _, _], _ => rfl) ?_
  intro f cd A outer s H E Wl rs C tb hr hW ⟨c, ok, e, hC⟩
  subst e
  have hN : (["value", "period", "editions", "phases", "last", "phase"] : List Str).Nodup := by decide +kernel
  have hu := hu_of hr
  refine wss_cons (ws_ifF (wt_or (gd (wt_nt (wt_tup B.bare (we_var 0 rfl rfl))) (gd_1 (wt_ne hu (we_len B.bare (wa_cons (we_var 0 rfl (wa_nil (we_len B.bare (wa_cons (we_var 2 rfl (wa_nil ⟨rfl, rfl, ?_⟩)))))))))))) (wss_nil ?_))
  · show (!PyData.eqv (.int ((c.ga.map eG).length : Int)) (.int ((c.ed.map eI).length : Int))) = false
    rw [int_eqv, List.length_map, List.length_map, decide_eq_true (by rw [ok.gaL]; rfl)]
    rfl
  refine wss_cons (ws_for (js := [3, 4]) (by passes_own) rfl (wi_zipT B.bare.zip (we_var 0 rfl (we_var 2 rfl ⟨fun _ ρ => ∃ r r' r'', ρ = [some (.val (.tuple (c.ga.map eG))), some (.val (.int c.P)), some (.val (.tuple (c.ed.map eI))), r, r', r''], ⟨_, _, _, rfl⟩, ?_, ?_⟩))))
  · rintro i d ρ' hd ⟨r, r', r'', rfl⟩
    rw [zip_map] at hd
    obtain ⟨⟨g, l⟩, hm, rfl⟩ := List.mem_map.mp (List.mem_of_getElem? hd)
    obtain ⟨a1, a2, a3⟩ := ok.ga g (List.of_mem_zip hm).1
    refine wg_tup rfl (wgs_cons (wg_name 3 (wgs_cons (wg_name 4 (wgs_nil ?_) hN)) hN))
    refine wss_cons (ws_ifF (wt_or (gd (wt_nt (wt_tup B.bare (we_var 3 rfl rfl))) (gd_1 (wt_nt (wt_val (we_all (own := [("phase", 5)]) (js := [5]) (k := 1) B.bare.all hr rfl hN (genOk_by (N := ["value", "period", "editions", "phases", "last", "phase"]) (sc := defScope s_are_gaps) (by decide +kernel)) tb hW rfl (by decide) (wi_tup (we_var 3 rfl ?_)) rfl)))))) (wss_nil ?_))
    · intro d hm s' H' C' code fp B' hB
      obtain ⟨x, hx, rfl⟩ := List.mem_map.mp hm
      refine wg_name 5 ?_ hN
      have := a3 x hx
      exact we_num B hB (by decide) hW (wa_cons (we_var 5 rfl (wa_cons (we_int (wa_cons (we_sub (we_var 1 rfl (we_int (wa_nil ⟨x, 0, c.P - 1, rfl, this.1, by omega⟩))))))))) (fun _ _ _ => can_is_number B)
    · refine wss_one (ws_ifF (wt_or (gd (wt_nt (wt_val (we_call (can_are_rising B G) hr (by decide) hW (wa_cons (we_var 3 rfl (wa_nil ⟨rfl, rfl, _, rfl, rise_i a2, rfl⟩)))))) (gd_1 (wt_and (ww_and (wt_gt (we_var 4 rfl (we_int ⟨fun _ => ?_, fun _ => rfl⟩)))))))) (wss_nil ⟨_, _, _, rfl⟩))
      refine ww_and1 (wt_not (wt_tru (we_var 3 rfl ?_)))
      show (!(!(g.map eI).isEmpty)) = false
      cases g with
      | nil => exact absurd rfl a1
      | cons _ _ => rfl
  · rintro ρ' ⟨r, r', r'', rfl⟩
    exact wss_one (ws_ret (we_bool hC))
def gEntry : Con := fun rs C => ∃ (c : Clock) (b : Int × Int × Int × Int), c.Ok ∧ b ∈ c.bo ∧ rs = [.val (eB b), .val (.tuple (c.ed.map eI))] ∧ C (.bool true)
theorem int_ne {x y : Int} (h : x ≠ y) : (!PyData.eqv (.int x) (.int y)) = true := by
  rw [show PyData.eqv (.int x) (.int y) = decide (x = y) from enc_int.eq x y, decide_eq_false h]; rfl
theorem can_is_entry (B : Bd K mg) : Can P w K mg base W0 2 "is_entry" 2 gEntry [] := by
  refine can_body (N := ["value", "editions"]) (ps := ["value", "editions"]) B.is_entry ⟨rfl, rfl, rfl, by decide +kernel, rfl, by decide +kernel, by decide +kernel⟩ (fun _ _ _ _ _ _ us hl => match us, hl with | [_, _], _ => rfl) ?_
  intro f cdv A outer s H E Wl rs C hr hW ⟨c, b, ok, hb, e, hC⟩
  subst e
  have hN : (["value", "editions"] : List Str).Nodup := by decide +kernel
  have hu := hu_of hr
  obtain ⟨a1, a2, a3, a4, a5, a6, a7⟩ := ok.bo b hb
  have hl : ((c.ed.map eI).length : Int) = c.n := by rw [List.length_map]; rfl
  refine wss_cons (ws_ifF (wt_or (gd (wt_nt (wt_tup B.bare (we_var 0 rfl rfl))) (gd (wt_ne hu (we_len B.bare (wa_cons (we_var 0 rfl (wa_nil (we_int ⟨rfl, rfl, rfl⟩)))))) (gd_1 (wt_nt (wt_val (we_num B hr (by decide) hW ?_ (fun _ _ _ => can_is_number B)))))))) (wss_nil ?_))
  · refine wa_cons (we_at (j := 0) (we_var 0 rfl rfl) rfl (wa_cons (we_int (wa_cons (we_sub (we_len B.bare (wa_cons (we_var 1 rfl (wa_nil (we_int (wa_nil ⟨b.1, 0, _, rfl, a1.1, ?_⟩)))))))))))
    have := a1.2
    omega
  refine wss_cons (ws_ifF (wt_or (gd (wt_nt (wt_val (we_num B hr (by decide) hW ?_ (fun _ _ _ => can_is_number B)))) (gd_1 (wt_nt (wt_val (we_num B hr (by decide) hW ?_ (fun _ _ _ => can_is_number B))))))) (wss_nil ?_))
  · refine wa_cons (we_at (j := 1) (we_var 0 rfl rfl) rfl (wa_cons (we_int (wa_cons (we_ix (we_var 1 rfl (we_at (j := 0) (we_var 0 rfl rfl) rfl ⟨_, Clock.Ok.at_ed a1, wa_nil ⟨b.2.1, 1, _, rfl, a2, a3⟩⟩)))))))
  · refine wa_cons (we_at (j := 2) (we_var 0 rfl rfl) rfl (wa_cons (we_int (wa_cons (we_sub (we_len B.bare (wa_cons (we_var 1 rfl (wa_nil (we_int (wa_nil ⟨b.2.2.1, 0, _, rfl, a4.1, ?_⟩)))))))))))
    have := a4.2
    omega
  refine wss_one (ws_ret (we_andY (we_ne hu (we_at (j := 0) (we_var 0 rfl rfl) rfl (we_at (j := 2) (we_var 0 rfl rfl) rfl ⟨rfl, rfl, int_ne a5⟩))) (we_one ((we_num B hr (by decide) hW ?_ (fun _ _ _ => can_is_number B)).mono fun r q => ?_))))
  · refine wa_cons (we_at (j := 3) (we_var 0 rfl rfl) rfl (wa_cons (we_int (wa_cons (we_ix (we_var 1 rfl (we_at (j := 2) (we_var 0 rfl rfl) rfl ⟨_, Clock.Ok.at_ed a4, wa_nil ⟨b.2.2.2, 1, _, rfl, a6, a7⟩⟩)))))))
  · match r, q with
    | .val (.bool x), q => rw [show x = true from q]; exact hC
end
end LC
/-! The walks of the checks of a book, a clock, a plan, a pair. -/
namespace LC
open PySem L2 PySem.Spec PyProof.Rows
section
variable {P : Program} {w : World} {K : PySem.W.Frag} {mg : Str → Option Value} {base : Heap} {W0 : Wild}
def gBook : Con := fun rs C => ∃ c : Clock, c.Ok ∧ rs = [.val (.tuple (c.bo.map eB)), .val (.tuple (c.ed.map eI))] ∧ C (.bool true)
theorem can_is_book (B : Bd K mg) (G : Bg K mg base W0) : Can P w K mg base W0 4 "is_book" 2 gBook [] := by
  refine can_bodyG (N := ["value", "editions", "entry"]) (ps := ["value", "editions"]) G.is_book ⟨rfl, rfl, rfl, by decide +kernel, rfl, by decide +kernel, by decide +kernel⟩ (fun _ _ _ _ _ _ us hl => match us, hl with | [_, _], _ => rfl) ?_
  intro f cd A outer s H E Wl rs C tb hr hW ⟨c, ok, e, hC⟩
  subst e
  have hN : (["value", "editions", "entry"] : List Str).Nodup := by decide +kernel
  have hu := hu_of hr
  refine wss_cons (ws_ifF (wt_or (gd (wt_nt (wt_tup B.bare (we_var 0 rfl rfl))) (gd_1 (wt_nt (wt_val (we_all (own := [("entry", 2)]) (js := [2]) (k := 2) B.bare.all hr rfl hN (genOk_by (N := ["value", "editions", "entry"]) (sc := defScope s_is_book) (by decide +kernel)) tb hW rfl (by decide) (wi_tup (we_var 0 rfl ?_)) rfl)))))) (wss_nil ?_))
  · intro d hm s' H' C' code fp B' hB
    obtain ⟨b, hb, rfl⟩ := List.mem_map.mp hm
    refine wg_name 2 ?_ hN
    exact we_call (can_is_entry B) hB (by decide) hW (wa_cons (we_var 2 rfl (wa_cons (we_var 1 rfl (wa_nil ⟨rfl, rfl, c, b, ok, hb, rfl, rfl⟩)))))
  · refine wss_one (ws_ret (we_call (can_are_rising B G) hr (by decide) hW (wa_cons (we_tuple B.bare (wa_cons (WN.we (wn_lcM (f := eB) (own := [("entry", 2)]) (js := [2]) c.bo (fun _ => true) (fun b => eG (b3 b)) rfl hN (blkOk_by (N := ["value", "editions", "entry"]) (sc := defScope s_is_book) (by decide +kernel)) (by decide) (Nat.le_trans ok.boL (by decide)) (wi_tup (we_var 0 rfl rfl)) (fun x hx => ?_) (wa_nil ?_))))))))
    · intro _ _ _ _ _
      refine wg_name 2 (maps_keep ?_) hN
      intro _ _ _ _ _
      exact we_sl01 (we_var 2 rfl (we_int rfl))
    · refine wa_nil ⟨rfl, rfl, _, rfl, ?_, hC⟩
      rw [filter_all]
      exact rise_t (f := fun b => eG (b3 b)) (g := b3) (fun _ => rfl) (fun _ _ => Nat.le_refl 3) ok.boR
def gNeedC : Con := fun rs C => ∃ c : Clock, c.Ok ∧ rs = [.val c.enc] ∧ C .none
theorem can_need_clock (B : Bd K mg) (G : Bg K mg base W0) : Can P w K mg base W0 5 "need_clock" 1 gNeedC [] := by
  refine can_body (N := ["value", "period", "editions", "touches", "gaps", "book"]) (ps := ["value"]) B.need_clock ⟨rfl, rfl, rfl, by decide +kernel, rfl, by decide +kernel, by decide +kernel⟩ (fun _ _ _ _ _ _ us hl => match us, hl with | [_], _ => rfl) ?_
  intro f cdv A outer s H E Wl rs C hr hW ⟨c, ok, e, hC⟩
  subst e
  have hN : (["value", "period", "editions", "touches", "gaps", "book"] : List Str).Nodup := by decide +kernel
  have hu := hu_of hr
  obtain ⟨t1, m1⟩ := B.MOST_PERIOD
  have hl : ((c.ed.map eI).length : Int) = c.n := by rw [List.length_map]; rfl
  refine wss_cons (ws_ifF (wt_or (gd (wt_nt (wt_tup (ds := [.int c.P, .tuple (c.ed.map eI), .tuple (c.to.map eT), .tuple (c.ga.map eG), .tuple (c.bo.map eB)]) B.bare (we_var 0 rfl rfl))) (gd_1 (wt_ne hu (we_len B.bare (wa_cons (we_var 0 rfl (wa_nil (we_int ?_))))))))) (wss_nil ?_))
  · refine ⟨?_, ?_, ?_⟩ <;> rfl
  refine wss_cons (ws_to (js := [1, 2, 3, 4, 5]) (we_var 0 rfl (wg_tup rfl (wgs_cons (wg_name 1 (wgs_cons (wg_name 2 (wgs_cons (wg_name 3 (wgs_cons (wg_name 4 (wgs_cons (wg_name 5 (wgs_nil ?_) hN)) hN)) hN)) hN)) hN)))))
  refine wss_cons (ws_ifF (wt_nt (wt_val (we_num B hr (by decide) hW (wa_cons (we_var 1 rfl (wa_cons (we_int (wa_cons (we_globI m1 (wa_nil ⟨c.P, 1, 12, rfl, ok.p1, ok.p2⟩))))))) (fun _ _ _ => can_is_number B)))) (wss_nil ?_))
  refine wss_cons (ws_ifF (wt_nt (wt_val (we_call (can_are_editions B G) hr (by decide) hW (wa_cons (we_var 2 rfl (wa_nil ⟨rfl, rfl, c, ok, rfl, rfl⟩)))))) (wss_nil ?_))
  refine wss_cons (ws_ifF (wt_nt (wt_val (we_call (can_are_touches B G) hr (by decide) hW (wa_cons (we_var 3 rfl (wa_cons (we_var 1 rfl (wa_cons (we_len B.bare (wa_cons (we_var 2 rfl (wa_nil (wa_nil ⟨rfl, rfl, c, ok, ?_, rfl⟩)))))))))))) ) (wss_nil ?_))
  · show [R.val (.tuple (c.to.map eT)), R.val (.int c.P), R.val (.int ((c.ed.map eI).length : Int))] = _
    rw [hl]
  refine wss_cons (ws_ifF (wt_nt (wt_val (we_call (can_are_gaps B G) hr (by decide) hW (wa_cons (we_var 4 rfl (wa_cons (we_var 1 rfl (wa_cons (we_var 2 rfl (wa_nil ⟨rfl, rfl, c, ok, rfl, rfl⟩)))))))))) (wss_nil ?_))
  exact wss_one (ws_ifF (wt_nt (wt_val (we_call (can_is_book B G) hr (by decide) hW (wa_cons (we_var 5 rfl (wa_cons (we_var 2 rfl (wa_nil ⟨rfl, rfl, c, ok, rfl, rfl⟩)))))))) (wss_nil hC))
/-- a plan that passes the checks -/
structure PlanOk (c : Clock) (pl : Plan) : Prop where
  len : pl.length = c.n
  at_ : ∀ w : Nat, w < c.n → ((pl.getD w []).length : Int) = c.edOf w ∧ rising (pl.getD w []) ∧ ∀ t ∈ pl.getD w [], 0 ≤ t ∧ t ≤ 100000 ∧ t % c.P ∈ c.gaOf w
theorem enum_at {α : Type} {f : α → D} {l : List α} {i : Nat} {d : D} {z : α} (h : (enumD (l.map f))[i]? = some d) : i < l.length ∧ d = .tuple [.int i, f (l.getD i z)] := by
  unfold enumD at h
  rw [List.getElem?_mapIdx, List.getElem?_map] at h
  obtain ⟨y, e1, rfl⟩ := Option.map_eq_some_iff.mp h
  obtain ⟨x, e2, rfl⟩ := Option.map_eq_some_iff.mp e1
  obtain ⟨hi, e3⟩ := List.getElem?_eq_some_iff.mp e2
  exact ⟨hi, by rw [getD_at hi, e3]⟩
def gNeedP : Con := fun rs C => ∃ (c : Clock) (pl : Plan), c.Ok ∧ PlanOk c pl ∧ rs = [.val c.enc, .val (encPl pl)] ∧ C .none
theorem can_need_plan (B : Bd K mg) (G : Bg K mg base W0) : Can P w K mg base W0 3 "need_plan" 2 gNeedP [] := by
  refine can_bodyG (N := ["clock", "value", "wheel", "ticks", "tick"]) (ps := ["clock", "value"]) G.need_plan ⟨rfl, rfl, rfl, by decide +kernel, rfl, by decide +kernel, by decide +kernel⟩ (fun _ _ _ _ _ _ us hl => match us, hl with | [_, _], _ => rfl) ?_
  intro f cd A outer s H E Wl rs C tb hr hW ⟨c, pl, ok, pk, e, hC⟩
  subst e
  have hN : (["clock", "value", "wheel", "ticks", "tick"] : List Str).Nodup := by decide +kernel
  have hu := hu_of hr
  obtain ⟨t1, m1⟩ := B.MOST_PLANNED
  have hl : ((c.ed.map eI).length : Int) = c.n := by rw [List.length_map]; rfl
  refine wss_cons (ws_ifF (wt_or (gd (wt_nt (wt_tup (ds := pl.map eG) B.bare (we_var 1 rfl rfl))) (gd_1 (wt_ne hu (we_len B.bare (wa_cons (we_var 1 rfl (wa_nil (we_len B.bare (wa_cons (we_at (j := 1) (we_var 0 rfl rfl) rfl (wa_nil ⟨rfl, rfl, ?_⟩)))))))))))) (wss_nil ?_))
  · show (!PyData.eqv (.int ((pl.map eG).length : Int)) (.int ((c.ed.map eI).length : Int))) = false
    rw [int_eqv, List.length_map, List.length_map, decide_eq_true (by rw [pk.len]; rfl)]
    rfl
  refine wss_one (ws_for (js := [2, 3]) (by passes_own) rfl (wi_enumT B.bare.enum (we_var 1 rfl ⟨fun _ ρ => ∃ r r' r'', ρ = [some (.val c.enc), some (.val (encPl pl)), r, r', r''], ⟨_, _, _, rfl⟩, ?_, fun _ _ => hC⟩)))
  rintro i d ρ' hd ⟨r, r', r'', rfl⟩
  obtain ⟨hi, rfl⟩ := enum_at (z := []) hd
  have hi' : i < c.n := by rw [← pk.len]; exact hi
  have hw : c.whl (i : Int) := ⟨by omega, by omega⟩
  obtain ⟨p1, p2, p3⟩ := pk.at_ i hi'
  generalize hg : pl.getD i [] = g at p1 p2 p3 ⊢
  refine wg_tup rfl (wgs_cons (wg_name 2 (wgs_cons (wg_name 3 (wgs_nil ?_) hN)) hN))
  refine wss_cons (ws_ifF (wt_or (gd (wt_nt (wt_tup (ds := g.map eI) B.bare (we_var 3 rfl rfl))) (gd_1 (wt_ne hu (we_len B.bare (wa_cons (we_var 3 rfl (wa_nil (we_ix (we_at (j := 1) (we_var 0 rfl rfl) rfl (we_var 2 rfl ⟨_, Clock.Ok.at_ed hw, rfl, rfl, ?_⟩)))))))))) ) (wss_nil ?_))
  · show (!PyData.eqv (.int ((g.map eI).length : Int)) (.int (c.edOf i))) = false
    rw [int_eqv, List.length_map, decide_eq_true p1]
    rfl
  refine wss_cons (ws_ifF (wt_nt (wt_val (we_all (own := [("tick", 4)]) (js := [4]) (k := 1) B.bare.all hr rfl hN (genOk_by (N := ["clock", "value", "wheel", "ticks", "tick"]) (sc := defScope s_need_plan) (by decide +kernel)) tb hW rfl (by decide) (wi_tup (we_var 3 rfl ?_)) rfl))) (wss_nil ?_))
  · intro d hm s' H' C' code fp B' hB
    obtain ⟨t, ht, rfl⟩ := List.mem_map.mp hm
    obtain ⟨a1, a2, a3⟩ := p3 t ht
    have hu' := hu_of hB
    refine wg_name 4 ?_ hN
    refine we_andY (we_num B hB (by decide) hW (wa_cons (we_var 4 rfl (wa_cons (we_int (wa_cons (we_globI m1 (wa_nil ⟨t, 0, 100000, rfl, a1, a2⟩))))))) (fun _ _ _ => can_is_number B)) (we_one (we_in hu' (we_mod (we_var 4 rfl (we_at (j := 0) (we_var 0 rfl rfl) rfl ⟨?_, ?_⟩)))))
    · have := ok.p1
      omega
    · refine we_ix (we_at (j := 3) (we_var 0 rfl rfl) rfl (we_var 2 rfl ⟨_, ok.at_ga hw, rfl, enc_G.pl _ _ (by decide), rfl, ?_⟩))
      show inB false (eI (t % c.P)) (.tuple ((c.gaOf i).map eI)) = true
      rw [inB_tup enc_int]
      exact decide_eq_true a3
  exact wss_one (ws_ifF (wt_nt (wt_val (we_call (can_are_rising B G) hr (by decide) hW (wa_cons (we_var 3 rfl (wa_nil ⟨rfl, rfl, _, rfl, rise_i p2, rfl⟩)))))) (wss_nil ⟨_, _, _, rfl⟩))
def gXPair : Con := fun rs C => ∃ p : Xg × Int, (∀ x ∈ [p.1.1, p.1.2, p.2], -1000000000000000000000000000000 ≤ x ∧ x ≤ 1000000000000000000000000000000) ∧ rs = [.val (eN p)] ∧ C (.bool true)
theorem can_is_exchange_pair (B : Bd K mg) (G : Bg K mg base W0) : Can P w K mg base W0 3 "is_exchange_pair" 1 gXPair [] := by
  refine can_bodyG (N := ["value", "part"]) (ps := ["value"]) G.is_exchange_pair ⟨rfl, rfl, rfl, by decide +kernel, rfl, by decide +kernel, by decide +kernel⟩ (fun _ _ _ _ _ _ us hl => match us, hl with | [_], _ => rfl) ?_
  intro f cd A outer s H E Wl rs C tb hr hW ⟨p, hp, e, hC⟩
  subst e
  have hN : (["value", "part"] : List Str).Nodup := by decide +kernel
  have hu := hu_of hr
  obtain ⟨t1, m1⟩ := B.MOST_TICK
  refine wss_cons (ws_ifF (wt_or (gd (wt_nt (wt_tup (ds := [eX p.1, eI p.2]) B.bare (we_var 0 rfl rfl))) (gd (wt_ne hu (we_len B.bare (wa_cons (we_var 0 rfl (wa_nil (we_int ⟨rfl, rfl, rfl⟩)))))) (gd (wt_nt (wt_tup (ds := [.int p.1.1, .int p.1.2]) B.bare (we_at (j := 0) (we_var 0 rfl rfl) rfl rfl))) (gd_1 (wt_ne hu (we_len B.bare (wa_cons (we_at (j := 0) (we_var 0 rfl rfl) rfl (wa_nil (we_int ⟨rfl, rfl, rfl⟩))))))))))) (wss_nil ?_))
  refine wss_one (ws_ret (we_all (own := [("part", 1)]) (js := [1]) (k := 1) B.bare.all hr rfl hN (genOk_by (N := ["value", "part"]) (sc := defScope s_is_exchange_pair) (by decide +kernel)) tb hW rfl (by decide) (wi_tup (we_add (we_at (j := 0) (we_var 0 rfl rfl) rfl (we_sl10 (we_var 0 rfl (we_int ⟨by show (3 : Nat) ≤ sizeLine; decide, ?_⟩)))))) hC))
  intro d hm s' H' C' code fp B' hB
  obtain ⟨x, hx, rfl⟩ : ∃ x, x ∈ [p.1.1, p.1.2, p.2] ∧ d = .int x := by
    have hm : d ∈ [PyData.int p.1.1, .int p.1.2, .int p.2] := hm
    simp only [List.mem_cons, List.not_mem_nil, or_false] at hm ⊢
    rcases hm with h | h | h
    · exact ⟨_, .inl rfl, h⟩
    · exact ⟨_, .inr (.inl rfl), h⟩
    · exact ⟨_, .inr (.inr rfl), h⟩
  refine wg_name 1 ?_ hN
  exact we_num B hB (by decide) hW (wa_cons (we_var 1 rfl (wa_cons (we_neg (we_globI m1 (wa_cons (we_globI m1 (wa_nil ⟨x, _, _, rfl, (hp x hx).1, (hp x hx).2⟩)))))))) (fun _ _ _ => can_is_number B)
end
end LC
/-! The walks of plans: the first tick that is bad, what is right. -/
namespace LC
open PySem L2 PySem.Spec PyProof.Rows
section
variable {X : Cx} {Wl : Wild} {ρ : Env'} {Φ : Wish} {c : Expr} {sa sb : List Stmt} {pos : Pos}
/-- both ways meet -/
theorem ws_ifJ (J : Env' → Prop) (h : WT X Wl ρ c fun x => (x = true → WSs X Wl ρ sa { Φ with nx := J }) ∧ (x = false → WSs X Wl ρ sb { Φ with nx := J })) (k : ∀ ρ, J ρ → Φ.nx ρ) : WS X Wl ρ (.If c sa sb pos) Φ :=
  ws_if (h.mono fun x q => ⟨fun e => (q.1 e).wish k (fun _ z => z) (fun _ z => z) (fun _ z => z), fun e => (q.2 e).wish k (fun _ z => z) (fun _ z => z) (fun _ z => z)⟩)
end
section
variable {P : Program} {w : World} {K : PySem.W.Frag} {mg : Str → Option Value} {base : Heap} {W0 : Wild}
def allTicks (pl : Plan) : List Int := pl.flatMap fun g => g
theorem all_ticks {pl : Plan} : (pl.flatMap fun g => (g.filter fun _ => true).map eI) = (allTicks pl).map eI := by
  unfold allTicks
  rw [List.map_flatMap]
  exact congrArg (fun f => List.flatMap f pl) (funext fun g => by rw [filter_all])
theorem PlanOk.mem {c : Clock} {pl : Plan} (pk : PlanOk c pl) {g : List Int} (h : g ∈ pl) : ∃ w, w < c.n ∧ pl.getD w [] = g := by
  obtain ⟨i, hi, e⟩ := List.getElem_of_mem h
  exact ⟨i, by rw [← pk.len]; exact hi, by rw [getD_at hi]; exact e⟩
theorem PlanOk.few {c : Clock} {pl : Plan} (ok : c.Ok) (pk : PlanOk c pl) {g : List Int} (h : g ∈ pl) : g.length ≤ 4 := by
  obtain ⟨w, hw, e⟩ := pk.mem h
  have h1 := (pk.at_ w hw).1
  have h2 := (ok.edOf (w := w) ⟨by omega, by omega⟩).2
  rw [e] at h1
  omega
theorem flat_len {pl : Plan} {m : Nat} (h : ∀ g ∈ pl, g.length ≤ m) : (allTicks pl).length ≤ pl.length * m := by
  induction pl with
  | nil => simp [allTicks]
  | cons g r ih =>
    have h1 := ih fun x hx => h x (List.mem_cons_of_mem _ hx)
    have h2 := h g List.mem_cons_self
    unfold allTicks at h1 ⊢
    rw [List.flatMap_cons, List.length_append, List.length_cons, Nat.add_mul]
    omega
theorem PlanOk.len_all {c : Clock} {pl : Plan} (ok : c.Ok) (pk : PlanOk c pl) : (allTicks pl).length ≤ 24 := by
  have h1 := flat_len fun g hg => pk.few ok hg
  have h2 := pk.len
  have h3 := ok.n2
  rw [h2] at h1
  omega
theorem PlanOk.tick {c : Clock} {pl : Plan} (pk : PlanOk c pl) {t : Int} (h : t ∈ allTicks pl) : 0 ≤ t ∧ t ≤ 100000 := by
  obtain ⟨g, hg, ht⟩ := List.mem_flatMap.mp h
  obtain ⟨w, hw, e⟩ := pk.mem hg
  have := (pk.at_ w hw).2.2 t (by rw [e]; exact ht)
  exact ⟨this.1, this.2.1⟩
/-- no wheels that do not fit, ever -/
def RightAt (c : Clock) (pl : Plan) : Prop := ∀ t : Int, 0 ≤ t → notFit c (standing c pl t) (t % c.P) = []
theorem stand_same {c : Clock} {pl : Plan} {s t : Int} (hl : pl.length = c.n) (hst : s ≤ t) (h : ∀ x ∈ allTicks pl, s < x → t < x) : standing c pl t = standing c pl s := by
  unfold standing
  refine List.map_congr_left fun w hw => ?_
  have hw := List.mem_range.mp hw
  unfold edAt
  rw [Int.toNat_natCast]
  congr 2
  refine List.filter_congr fun x hx => ?_
  have hm : x ∈ allTicks pl := List.mem_flatMap.mpr ⟨pl.getD w [], by rw [getD_at (by omega)]; exact List.getElem_mem _, hx⟩
  have := h x hm
  by_cases z : x ≤ s
  · rw [decide_eq_true z, decide_eq_true (by omega)]
  · rw [decide_eq_false z, decide_eq_false (by have := this (by omega); omega)]
def gFirstBad : Con := fun rs C => ∃ (c : Clock) (pl : Plan), c.Ok ∧ PlanOk c pl ∧ RightAt c pl ∧ rs = [.val c.enc, .val (encPl pl)] ∧ C .none
theorem can_first_bad (B : Bd K mg) : Can P w K mg base W0 4 "first_bad" 2 gFirstBad [] := by
  refine can_body (N := ["clock", "plan", "stops", "index", "stop", "end", "standing", "tick", "ticks"]) (ps := ["clock", "plan"]) B.first_bad ⟨rfl, rfl, rfl, by decide +kernel, rfl, by decide +kernel, by decide +kernel⟩ (fun _ _ _ _ _ _ us hl => match us, hl with | [_, _], _ => rfl) ?_
  intro f cdv A outer s H E Wl rs C hr hW ⟨c, pl, ok, pk, rt, e, hC⟩
  subst e
  have hN : (["clock", "plan", "stops", "index", "stop", "end", "standing", "tick", "ticks"] : List Str).Nodup := by decide +kernel
  have hu := hu_of hr
  have hP := ok.p1
  have hP2 := ok.p2
  refine wss_cons (ws_asg 2 (we_sortSet B.bare (we_add (we_lst (wa_cons (we_int (wa_nil ⟨(show 1 ≤ sizeLine by decide), ?_⟩)))))) hN)
  refine WN.we (wn_lc2M (α := List Int) (β := Int) (f := eG) (f1 := eI) (own := [("ticks", 8), ("tick", 7)]) (vs1 := [7]) (js := [8]) (js1 := [7]) pl (fun g => g) (fun _ _ => true) (fun _ t => eI t) rfl hN (blkOk_by (N := ["clock", "plan", "stops", "index", "stop", "end", "standing", "tick", "ticks"]) (sc := defScope s_first_bad) (by decide +kernel)) (by decide) (by decide) (by decide) ?_ (wi_tup (we_var 1 rfl rfl)) (fun g hg => ?_) ?_)
  · exact Nat.le_trans (pk.len_all ok) (by decide)
  · intro _ _ _ _ _
    refine wg_name 8 ?_ hN
    intro _ _ _ _ _
    refine wi_tup (we_var 8 rfl ⟨rfl, fun t ht => ?_⟩)
    intro _ _ _ _ _
    refine wg_name 7 (maps_keep ?_) hN
    intro _ _ _ _ _
    exact we_var 7 rfl rfl
  rw [all_ticks]
  have l24 := pk.len_all ok
  refine ⟨?_, 0 :: allTicks pl, .inl rfl, ?_, fun out so ho => ?_⟩
  · show 1 + ((allTicks pl).map eI).length ≤ sizeLine
    rw [List.length_map]
    exact Nat.le_trans (Nat.add_le_add_left l24 1) (by decide)
  · rw [List.length_cons]; omega
  have out_b : ∀ s ∈ out, 0 ≤ s ∧ s ≤ 100000 := fun s hs => by
    rcases List.mem_cons.mp ((ho s).mp hs) with z | z
    · subst z; exact ⟨by omega, by omega⟩
    · exact pk.tick z
  refine wss_cons (ws_for (js := [3, 4]) (by passes_own) rfl (wi_enumL B.bare.enum (we_var 2 rfl ⟨fun _ ρ => ∃ r3 r4 r5 r6 r7 r8, ρ = [some (.val c.enc), some (.val (encPl pl)), some (.val (.list (out.map eI))), r3, r4, r5, r6, r7, r8], ⟨_, _, _, _, _, _, rfl⟩, ?_, fun ρ' _ => wss_one (ws_ret (we_none hC))⟩)))
  rintro i d ρ' hd ⟨r3, r4, r5, r6, r7, r8, rfl⟩
  obtain ⟨hi, rfl⟩ := enum_at (z := 0) hd
  rw [getD_at hi]
  generalize hs : out[i] = s
  have hsb := out_b s (by rw [← hs]; exact List.getElem_mem _)
  refine wg_tup rfl (wgs_cons (wg_name 3 (wgs_cons (wg_name 4 (wgs_nil ?_) hN)) hN))
  refine wss_cons (ws_asg 5 (we_add (we_var 4 rfl (we_at (j := 0) (we_var 0 rfl rfl) rfl ?_))) hN)
  refine wss_cons (ws_ifJ (fun ρ => ∃ e : Int, ρ = [some (.val c.enc), some (.val (encPl pl)), some (.val (.list (out.map eI))), some (.val (.int i)), some (.val (.int s)), some (.val (.int e)), r6, r7, r8] ∧ s ≤ e ∧ e ≤ s + c.P ∧ ∀ x ∈ out, s < x → e ≤ x) (wt_lt hu (we_add (we_var 3 rfl (we_int (we_len B.bare (wa_cons (we_var 2 rfl (wa_nil ⟨fun q => ?_, fun q => ?_⟩)))))))) ?_)
  · have q : (i : Int) + 1 < ((out.map eI).length : Int) := of_decide_eq_true q
    rw [List.length_map] at q
    have hi1 : i + 1 < out.length := by omega
    refine wss_one (ws_asg 5 (we_min2 B.bare (wa_cons (we_var 5 rfl (wa_cons (we_ix (we_var 2 rfl (we_add (we_var 3 rfl (we_int ⟨eI out[i + 1], ?_, wa_nil ?_⟩))))))))) hN)
    · show atI (out.map eI) ((i : Int) + 1) = _
      rw [at_map (d := 0) (by omega) (by omega)]
      rw [show ((i : Int) + 1).toNat = i + 1 by omega, getD_at hi1]
    · have hnx : s < out[i + 1] := by
        have := (List.pairwise_iff_getElem.mp so) i (i + 1) hi hi1 (Nat.lt_succ_self _)
        omega
      refine ⟨_, rfl, ?_, ?_, ?_⟩
      · show s ≤ (if out[i + 1] < s + c.P then out[i + 1] else s + c.P)
        split <;> omega
      · show (if out[i + 1] < s + c.P then out[i + 1] else s + c.P) ≤ _
        split <;> omega
      · intro x hx hsx
        obtain ⟨j, hj, e⟩ := List.getElem_of_mem hx
        have hij : i < j := by
          rcases Nat.lt_or_ge i j with z | z
          · exact z
          · rcases Nat.lt_or_ge j i with z2 | z2
            · have := (List.pairwise_iff_getElem.mp so) j i hj hi z2
              omega
            · have : i = j := by omega
              subst this; omega
        have hle : out[i + 1] ≤ x := by
          rcases Nat.lt_or_ge (i + 1) j with z | z
          · have := (List.pairwise_iff_getElem.mp so) (i + 1) j hi1 hj z
            omega
          · have : i + 1 = j := by omega
            subst this; omega
        show (if out[i + 1] < s + c.P then out[i + 1] else s + c.P) ≤ x
        split <;> omega
  · have q : ¬ ((i : Int) + 1 < ((out.map eI).length : Int)) := of_decide_eq_false q
    rw [List.length_map] at q
    refine wss_nil ⟨_, rfl, (by show s ≤ s + c.P; omega), Int.le_refl _, fun x hx hsx => ?_⟩
    obtain ⟨j, hj, e⟩ := List.getElem_of_mem hx
    rcases Nat.lt_or_ge j i with z2 | z2
    · have := (List.pairwise_iff_getElem.mp so) j i hj hi z2
      omega
    · have : i = j := by omega
      subst this; omega
  rintro ρ2 ⟨e, rfl, he0, he, hx⟩
  refine wss_cons (ws_asg 6 (we_call (can_standing_of B) hr (by decide) hW (wa_cons (we_var 0 rfl (wa_cons (we_var 1 rfl (wa_cons (we_var 4 rfl (wa_nil ⟨rfl, rfl, c, pl, s, ok, pk.len, fun g hg => Nat.le_trans (pk.few ok hg) (by decide), rfl, ?_⟩)))))))) hN)
  refine wss_one (ws_for (js := [7]) (by passes_own) rfl (wi_range2 B.bare.range (we_var 4 rfl ⟨by omega, by omega, we_var 5 rfl ⟨by omega, by omega, fun _ ρ => ∃ r, ρ = [some (.val c.enc), some (.val (encPl pl)), some (.val (.list (out.map eI))), some (.val (.int i)), some (.val (.int s)), some (.val (.int e)), some (.val (eG (standing c pl s))), r, r8], ⟨_, rfl⟩, ?_, ?_⟩⟩)))
  · rintro k d ρ' hd ⟨r, rfl⟩
    rw [rangeD_i] at hd
    obtain ⟨t, ht, rfl⟩ := List.mem_map.mp (List.mem_of_getElem? hd)
    have htb : s ≤ t ∧ t < e := by
      unfold iRange at ht
      obtain ⟨k, hk, rfl⟩ := List.mem_map.mp ht
      have := List.mem_range.mp hk
      omega
    have same : standing c pl t = standing c pl s := stand_same pk.len htb.1 fun x hx' hsx => by
      have := hx x ((ho x).mpr (List.mem_cons_of_mem _ hx')) hsx
      omega
    have none : notFit c (standing c pl s) (t % c.P) = [] := by rw [← same]; exact rt t (by omega)
    refine wg_name 7 ?_ hN
    refine wss_one (ws_ifF (wt_tru (we_call (can_not_fitting B) hr (by decide) hW (wa_cons (we_var 0 rfl (wa_cons (we_var 6 rfl (wa_cons (we_mod (we_var 7 rfl (we_at (j := 0) (we_var 0 rfl rfl) rfl ⟨by omega, wa_nil ⟨rfl, rfl, c, _, _, ok, ?_, rfl, ?_⟩⟩)))))))))) (wss_nil ⟨_, rfl⟩))
    · unfold standing; rw [List.length_map, List.length_range]
    · show (!((notFit c (standing c pl s) (t % c.P)).map eX).isEmpty) = false
      rw [none]; rfl
  · rintro ρ' ⟨r, rfl⟩
    exact ⟨_, _, _, _, _, _, rfl⟩
end
end LC
/-! The walks of what is right, of needs and leans. -/
namespace LC
open PySem L2 PySem.Spec PyProof.Rows
theorem sort_enc {α : Type} [DecidableEq α] {n : Nat} {f : α → D} (e : Enc n f) (hn : n ≤ 8) (hf : ∀ b, ∃ x r, f b = .tuple (x :: r)) (l : List α) : SortOk (l.map f) ∧ sortD (l.map f) = (l.mergeSort (PySem.W.dataLe false f)).map f := by
  refine ⟨⟨?_, PySem.W.AllAlike.of fun a b => e.al a b, PySem.W.Sortable.tuples hf⟩, ?_⟩
  · rw [List.all_map, List.all_eq_true]
    intro a _
    exact e.pl a 8 hn
  · unfold sortD
    have h : (l.mergeSort (PySem.W.dataLe false f)).map f = (l.map f).mergeSort (PySem.W.dataLe false id) := List.map_mergeSort (fun a _ b _ => rfl)
    exact h.symm
section
variable {X : Cx} {Wl : Wild} {ρ : Env'} {tg e : Expr}
theorem WN.mono {Q Q' : D → Prop} (h : WN X Wl ρ e Q) (k : ∀ d, Q d → Q' d) : WN X Wl ρ e Q' := fun F H σ C ha hs hc => h F H σ C ha hs fun d a F' H' q => hc d a F' H' (k d q)
theorem WI.mono {Q Q' : List D → Prop} (h : WI X Wl ρ tg e Q) (k : ∀ ds, Q ds → Q' ds) : WI X Wl ρ tg e Q' := fun F H σ R ha hs hc => h F H σ R ha hs fun ds J F' H' q => hc ds J F' H' (k ds q)
end
section
variable {X : Cx} {Wl : Wild} {ρ : Env'} {Φ : Wish} {e k v : Expr} {pos : Pos}
/-- name.append(e) -/
theorem ws_app (i : Nat) {x : Str} {px pa pc : Pos} {ds : List D} (hr : ρ[i]? = some (some (.own (.list ds)))) (h : WE X Wl ρ e (valK fun d => ds.length < sizeLine ∧ Φ.nx (ρ.set i (some (.own (.list (ds ++ [d])))))))
    (hN : X.N[i]? = some x := by rfl) (hv : Vis X.env.scope x := by first | exact Or.inl rfl | exact Or.inr (Or.inl rfl) | exact Or.inr (Or.inr rfl)) (hd : (x == ("__debug__" : Str)) = false := by decide) (hcd : (x == ("__classdict__" : Str)) = false := by decide)
    (hpe : PE X (.Call (.Attribute (.Name x px) "append" pa) [e] [] pc) (tBM X.K "list" rAppend (tVar i) (tCons (tSem X e) tNil)) := by
      exact pe_bm PySem.F.plainAttrs_list PySem.F.slot_list_append PySem.F.type_list_append mt_append (pe_var rfl (by first | exact Or.inl rfl | exact Or.inr (Or.inl rfl) | exact Or.inr (Or.inr rfl)) (by decide) (by decide)) (pa_cons pe_sem pa_nil))
    (hs : swapsWith (.Call (.Attribute (.Name x px) "append" pa) [e] [] pc) none pos.line X.env = pure false := by rfl) : WS X Wl ρ (.Expr (.Call (.Attribute (.Name x px) "append" pa) [e] [] pc) pos) Φ := ws_append i hr h hN hv hd hcd hpe hs
end
/-- range(len(clock[1])) -/
theorem wi_whl {X : Cx} {Wl : Wild} {ρ : Env'} {tg x : Expr} {c : Clock} {p p2 p3 p4 pos pos2 : Pos} {j : Nat} (Bb : Bare X.mg) (ok : c.Ok) (h : WE X Wl ρ x fun r => r = .val c.enc) (hg : Gl X "range" := by rfl)
    (hg2 : Gl X "len" := by rfl) (he : starEach [.Subscript x (.Constant (.int 1) j p3) p4] X.env = (false, eval (.Subscript x (.Constant (.int 1) j p3) p4) X.env) :: starEach [] X.env := by rfl)
    (hs : starEach [.Call (.Name "len" p2) [.Subscript x (.Constant (.int 1) j p3) p4] [] pos2] X.env = [(false, eval (.Call (.Name "len" p2) [.Subscript x (.Constant (.int 1) j p3) p4] [] pos2) X.env)] := by rfl) :
    WI X Wl ρ tg (.Call (.Name "range" p) [.Call (.Name "len" p2) [.Subscript x (.Constant (.int 1) j p3) p4] [] pos2] [] pos) fun ds => ds = (List.range c.n).map fun (k : Nat) => (.int k : D) := by
  refine wi_range1 Bb.range (we_len Bb (wa_cons (we_at (j := 1) h rfl (wa_nil ?_)) he) hg2 he) hg hs (pa_cons pe_sem pa_nil hs)
  have hl : (c.ed.map eI).length = c.n := List.length_map ..
  have hz := nat_small (n := (c.ed.map eI).length) (by rw [hl]; have := ok.n2; omega)
  exact ⟨hz.1, hz.2, by rw [hl]; exact rangeD_nat c.n⟩
theorem range_at {n i : Nat} {d : D} (h : ((List.range n).map fun (k : Nat) => (.int k : D))[i]? = some d) : i < n ∧ d = .int i := by
  rw [List.getElem?_map] at h
  obtain ⟨k, e, rfl⟩ := Option.map_eq_some_iff.mp h
  obtain ⟨hi, e2⟩ := List.getElem?_eq_some_iff.mp e
  rw [List.length_range] at hi
  rw [List.getElem_range] at e2
  exact ⟨hi, by rw [e2]⟩
section
variable {P : Program} {w : World} {K : PySem.W.Frag} {mg : Str → Option Value} {base : Heap} {W0 : Wild}
def gFirstWrong : Con := fun rs C => ∃ (c : Clock) (pl : Plan), c.Ok ∧ PlanOk c pl ∧ RightAt c pl ∧ rs = [.val c.enc, .val (encPl pl)] ∧ C .none
theorem can_first_wrong (B : Bd K mg) (G : Bg K mg base W0) : Can P w K mg base W0 7 "first_wrong" 2 gFirstWrong [] := by
  refine can_body (N := ["clock", "plan"]) (ps := ["clock", "plan"]) B.first_wrong ⟨rfl, rfl, rfl, by decide +kernel, rfl, by decide +kernel, by decide +kernel⟩ (fun _ _ _ _ _ _ us hl => match us, hl with | [_, _], _ => rfl) ?_
  intro f cdv A outer s H E Wl rs C hr hW ⟨c, pl, ok, pk, rt, e, hC⟩
  subst e
  have hN : (["clock", "plan"] : List Str).Nodup := by decide +kernel
  have hu := hu_of hr
  refine wss_cons (ws_expr (we_call (can_need_clock B G) hr (by decide) hW (wa_cons (we_var 0 rfl (wa_nil ⟨rfl, rfl, c, ok, rfl, ?_⟩)))))
  refine wss_cons (ws_expr (we_call (can_need_plan B G) hr (by decide) hW (wa_cons (we_var 0 rfl (wa_cons (we_var 1 rfl (wa_nil ⟨rfl, rfl, c, pl, ok, pk, rfl, ?_⟩)))))))
  exact wss_one (ws_ret (we_call (can_first_bad B) hr (by decide) hW (wa_cons (we_var 0 rfl (wa_cons (we_var 1 rfl (wa_nil ⟨rfl, rfl, c, pl, ok, pk, rt, rfl, hC⟩)))))))
def gIsRight : Con := fun rs C => ∃ (c : Clock) (pl : Plan), c.Ok ∧ PlanOk c pl ∧ RightAt c pl ∧ rs = [.val c.enc, .val (encPl pl)] ∧ C (.bool true)
theorem can_is_right (B : Bd K mg) (G : Bg K mg base W0) : Can P w K mg base W0 7 "is_right" 2 gIsRight [] := by
  refine can_body (N := ["clock", "plan"]) (ps := ["clock", "plan"]) B.is_right ⟨rfl, rfl, rfl, by decide +kernel, rfl, by decide +kernel, by decide +kernel⟩ (fun _ _ _ _ _ _ us hl => match us, hl with | [_, _], _ => rfl) ?_
  intro f cdv A outer s H E Wl rs C hr hW ⟨c, pl, ok, pk, rt, e, hC⟩
  subst e
  have hN : (["clock", "plan"] : List Str).Nodup := by decide +kernel
  have hu := hu_of hr
  refine wss_cons (ws_expr (we_call (can_need_clock B G) hr (by decide) hW (wa_cons (we_var 0 rfl (wa_nil ⟨rfl, rfl, c, ok, rfl, ?_⟩)))))
  refine wss_cons (ws_expr (we_call (can_need_plan B G) hr (by decide) hW (wa_cons (we_var 0 rfl (wa_cons (we_var 1 rfl (wa_nil ⟨rfl, rfl, c, pl, ok, pk, rfl, ?_⟩)))))))
  exact wss_one (ws_ret (we_isN (we_call (can_first_bad B) hr (by decide) hW (wa_cons (we_var 0 rfl (wa_cons (we_var 1 rfl (wa_nil ⟨rfl, rfl, c, pl, ok, pk, rt, rfl, we_none hC⟩))))))))
/-- what an exchange leans on -/
def keepN (c : Clock) (e : Xg) (j : Nat) : Bool := !decide ((j : Int) = e.1) && (!(phasesOf c e.1 j).isEmpty && decide (0 < needed c e.1 e.2 j))
def needsTo (c : Clock) (e : Xg) (n : Nat) : List Xg := (if 1 < e.2 then [(e.1, e.2 - 1)] else []) ++ ((List.range n).filter (keepN c e)).map fun (j : Nat) => ((j : Int), needed c e.1 e.2 j)
def needsOf (c : Clock) (e : Xg) : List Xg := needsTo c e c.n
/-- rising -/
def needsS (c : Clock) (e : Xg) : List Xg := (needsOf c e).mergeSort (PySem.W.dataLe false eX)
theorem needsS_perm (c : Clock) (e : Xg) : (needsS c e).Perm (needsOf c e) := List.mergeSort_perm _ _
theorem needsTo_len (c : Clock) (e : Xg) (n : Nat) : (needsTo c e n).length ≤ n + 1 := by
  unfold needsTo
  rw [List.length_append, List.length_map]
  have := List.length_filter_le (keepN c e) (List.range n)
  rw [List.length_range] at this
  split
  · rw [List.length_singleton]; omega
  · rw [List.length_nil]; omega
theorem needsTo_succ (c : Clock) (e : Xg) (n : Nat) : needsTo c e (n + 1) = if keepN c e n = true then needsTo c e n ++ [((n : Int), needed c e.1 e.2 n)] else needsTo c e n := by
  unfold needsTo
  rw [List.range_succ, List.filter_append, List.map_append, ← List.append_assoc]
  by_cases h : keepN c e n = true
  · rw [if_pos h, List.filter_cons_of_pos h]; rfl
  · rw [if_neg h, List.filter_cons_of_neg h]; simp
def gNeeds : Con := fun rs C => ∃ (c : Clock) (e : Xg), c.Ok ∧ rs = [.val c.enc, .val (eX e)] ∧ C (.list ((needsS c e).map eX))
theorem can_needs_of (B : Bd K mg) : Can P w K mg base W0 3 "needs_of" 2 gNeeds [] := by
  refine can_body (N := ["clock", "exchange", "wheel", "edition", "found", "other", "least"]) (ps := ["clock", "exchange"]) B.needs_of ⟨rfl, rfl, rfl, by decide +kernel, rfl, by decide +kernel, by decide +kernel⟩ (fun _ _ _ _ _ _ us hl => match us, hl with | [_, _], _ => rfl) ?_
  intro f cdv A outer s H E Wl rs C hr hW ⟨c, x, ok, e, hC⟩
  subst e
  have hN : (["clock", "exchange", "wheel", "edition", "found", "other", "least"] : List Str).Nodup := by decide +kernel
  have hu := hu_of hr
  have n2 := ok.n2
  refine wss_cons (ws_to (js := [2, 3]) (we_var 1 rfl (wg_tup rfl (wgs_cons (wg_name 2 (wgs_cons (wg_name 3 (wgs_nil ?_) hN)) hN)))))
  refine wss_cons (ws_own 4 (WN.mono (Q := fun d => d = .list ((needsTo c x 0).map eX)) ?_ fun d hd => ?_) hN)
  · refine wn_if (wt_gt (we_var 3 rfl (we_int ⟨fun q => ?_, fun q => ?_⟩)))
    · have q : 1 < x.2 := of_decide_eq_true q
      refine wn_lst (wa_cons (we_tup (wa_cons (we_var 2 rfl (wa_cons (we_sub (we_var 3 rfl (we_int (wa_nil ⟨(show 2 ≤ sizeLine by decide), wa_nil ⟨(show 1 ≤ sizeLine by decide), ?_⟩⟩)))))))))
      unfold needsTo
      rw [if_pos q]; rfl
    · have q : ¬ 1 < x.2 := of_decide_eq_false q
      refine wn_lst (wa_nil ⟨Nat.zero_le _, ?_⟩)
      unfold needsTo
      rw [if_neg q]; rfl
  subst hd
  refine wss_cons (ws_for (js := [5]) (by passes_own) rfl (WI.mono (wi_whl B.bare ok (we_var 0 rfl rfl)) fun ds hds => ⟨fun i ρ => ∃ r5 r6, ρ = [some (.val c.enc), some (.val (eX x)), some (.val (.int x.1)), some (.val (.int x.2)), some (.own (.list ((needsTo c x i).map eX))), r5, r6], ⟨_, _, rfl⟩, ?_, ?_⟩))
  · rintro i d ρ' hd ⟨r5, r6, rfl⟩
    rw [hds] at hd
    obtain ⟨hi, rfl⟩ := range_at hd
    refine wg_name 5 ?_ hN
    have stay : keepN c x i = false → ∃ r5' r6', [some (R.val c.enc), some (.val (eX x)), some (.val (.int x.1)), some (.val (.int x.2)), some (.own (.list ((needsTo c x i).map eX))), some (.val (.int i)), r6] = [some (.val c.enc), some (.val (eX x)), some (.val (.int x.1)), some (.val (.int x.2)), some (.own (.list ((needsTo c x (i + 1)).map eX))), r5', r6'] := fun k => by
      rw [needsTo_succ, if_neg (by rw [k]; exact Bool.false_ne_true)]
      exact ⟨_, _, rfl⟩
    refine wss_one (ws_if (wt_and (ww_and (wt_ne hu (we_var 5 rfl (we_var 2 rfl ⟨rfl, rfl, fun q => ?_, fun q => ?_⟩))))))
    · have q : (!PyData.eqv (.int i) (.int x.1)) = true := q
      rw [int_eqv] at q
      refine ww_and1 (wt_tru (we_call (can_phases_of B) hr (by decide) hW (wa_cons (we_var 0 rfl (wa_cons (we_var 2 rfl (wa_cons (we_var 5 rfl (wa_nil ⟨rfl, rfl, c, x.1, i, ok, rfl, fun q2 => ?_, fun q2 => ?_⟩))))))) ))
      · have q2 : (!(phasesOf c x.1 i).isEmpty) = true := by simpa using q2
        refine wss_cons (ws_asg 6 (we_call (can_least_needed B) hr (by decide) hW (wa_cons (we_var 0 rfl (wa_cons (we_var 2 rfl (wa_cons (we_var 3 rfl (wa_cons (we_var 5 rfl (wa_nil ⟨rfl, rfl, c, x.1, x.2, i, ok, rfl, ?_⟩)))))))))) hN)
        refine wss_one (ws_if (wt_gt (we_var 6 rfl (we_int ⟨fun q3 => ?_, fun q3 => ?_⟩))))
        · have q3 : decide (0 < needed c x.1 x.2 i) = true := q3
          refine wss_one (ws_app 4 rfl (we_tup (wa_cons (we_var 5 rfl (wa_cons (we_var 6 rfl (wa_nil ⟨(show 2 ≤ sizeLine by decide), ?_, ?_⟩))))))) 
          · rw [List.length_map]
            have := needsTo_len c x i
            exact Nat.lt_of_le_of_lt this (Nat.lt_of_lt_of_le (show i + 1 < 20 by omega) (by decide))
          · have k : keepN c x i = true := by unfold keepN; rw [q, q2, q3]; rfl
            have e3 : (needsTo c x (i + 1)).map eX = (needsTo c x i).map eX ++ [eX ((i : Int), needed c x.1 x.2 i)] := by rw [needsTo_succ, if_pos k, List.map_append]; rfl
            refine ⟨some (.val (.int i)), some (.val (.int (needed c x.1 x.2 i))), ?_⟩
            rw [e3]
            rfl
        · have q3 : decide (0 < needed c x.1 x.2 i) = false := q3
          have k : keepN c x i = false := by unfold keepN; rw [q3, Bool.and_false, Bool.and_false]
          have e3 : needsTo c x (i + 1) = needsTo c x i := by rw [needsTo_succ, if_neg (by rw [k]; exact Bool.false_ne_true)]
          refine wss_nil ⟨some (.val (.int i)), some (.val (.int (needed c x.1 x.2 i))), ?_⟩
          rw [e3]
          rfl
      · have q2 : (!(phasesOf c x.1 i).isEmpty) = false := by simpa using q2
        exact wss_nil (stay (by unfold keepN; rw [q2, Bool.false_and, Bool.and_false]))
    · have q : (!PyData.eqv (.int i) (.int x.1)) = false := q
      rw [int_eqv] at q
      exact ⟨fun z => Bool.noConfusion z, fun _ => wss_nil (stay (by unfold keepN; rw [q, Bool.false_and]))⟩
  · rintro ρ' ⟨r5, r6, rfl⟩
    have hl : ds.length = c.n := by rw [hds, List.length_map, List.length_range]
    rw [hl]
    obtain ⟨so, e2⟩ := sort_enc enc_X (by decide) (fun b => ⟨_, _, rfl⟩) (needsTo c x c.n)
    refine wss_one (ws_ret (we_sorted B.bare hu (we_var 4 rfl ⟨_, rfl, so, ?_⟩)))
    rw [e2]
    exact hC
theorem needsS_len {c : Clock} (ok : c.Ok) (e : Xg) : (needsS c e).length ≤ 7 := by
  rw [(needsS_perm c e).length_eq]
  have := needsTo_len c e c.n
  have := ok.n2
  unfold needsOf
  omega
def leansOf (c : Clock) : List (Xg × Xg) := (everyX c).flatMap fun e => (needsS c e).map fun o => (e, o)
theorem flat_len2 {α β : Type} {f : α → List β} {m : Nat} : ∀ {l : List α}, (∀ a ∈ l, (f a).length ≤ m) → (l.flatMap f).length ≤ l.length * m
  | [], _ => by simp
  | a :: l, h => by
    rw [List.flatMap_cons, List.length_append, List.length_cons, Nat.add_mul]
    have h1 := flat_len2 (l := l) fun x hx => h x (List.mem_cons_of_mem _ hx)
    have h2 := h a List.mem_cons_self
    omega
theorem leans_len {c : Clock} (ok : c.Ok) : (leansOf c).length ≤ 1000 := by
  have h1 := flat_len2 (m := 7) (l := everyX c) (f := fun e => (needsS c e).map fun o => (e, o)) fun e _ => by rw [List.length_map]; exact needsS_len ok e
  have h2 := everyX_len ok
  unfold leansOf
  have : (everyX c).length * 7 ≤ 24 * 7 := Nat.mul_le_mul_right 7 h2
  omega
def gLeans : Con := fun rs C => ∃ c : Clock, c.Ok ∧ rs = [.val c.enc] ∧ C (.list ((leansOf c).map eL))
theorem can_every_lean (B : Bd K mg) : Can P w K mg base W0 4 "every_lean" 1 gLeans [] := by
  refine can_body (N := ["clock", "exchange", "other"]) (ps := ["clock"]) B.every_lean ⟨rfl, rfl, rfl, by decide +kernel, rfl, by decide +kernel, by decide +kernel⟩ (fun _ _ _ _ _ _ us hl => match us, hl with | [_], _ => rfl) ?_
  intro f cdv A outer s H E Wl rs C hr hW ⟨c, ok, e, hC⟩
  subst e
  have hN : (["clock", "exchange", "other"] : List Str).Nodup := by decide +kernel
  have hu := hu_of hr
  refine wss_one (ws_ret (WN.we (wn_lc2M (f := eX) (f1 := eX) (own := [("exchange", 1), ("other", 2)]) (vs1 := [2]) (js := [1]) (js1 := [2]) (everyX c) (needsS c) (fun _ _ => true) (fun e o => eL (e, o)) rfl hN (blkOk_by (N := ["clock", "exchange", "other"]) (sc := defScope s_every_lean) (by decide +kernel)) (by decide) (by decide) (by decide) ?_ (wi_list ?_) (fun x hx => ?_) ?_)))
  · have h1 := flat_len2 (m := 7) (l := everyX c) (f := needsS c) fun e _ => needsS_len ok e
    have h2 := everyX_len ok
    have : (everyX c).length * 7 ≤ 24 * 7 := Nat.mul_le_mul_right 7 h2
    exact Nat.le_trans (Nat.le_trans h1 this) (by decide)
  · exact we_call (can_every_exchange B) hr (by decide) hW (wa_cons (we_var 0 rfl (wa_nil ⟨rfl, rfl, c, ok, rfl, rfl⟩)))
  · intro _ _ _ _ _
    refine wg_name 1 ?_ hN
    intro _ _ _ _ _
    refine wi_list (we_call (can_needs_of B) hr (by decide) hW (wa_cons (we_var 0 rfl (wa_cons (we_var 1 rfl (wa_nil ⟨rfl, rfl, c, x, ok, rfl, rfl, fun o ho => ?_⟩))))))
    intro _ _ _ _ _
    refine wg_name 2 (maps_keep ?_) hN
    intro _ _ _ _ _
    exact we_tup (wa_cons (we_var 1 rfl (wa_cons (we_var 2 rfl (wa_nil ⟨(show 2 ≤ sizeLine by decide), rfl⟩)))))
  · have e : ((everyX c).flatMap fun e => ((needsS c e).filter fun _ => true).map fun o => eL (e, o)) = (leansOf c).map eL := by
      unfold leansOf
      rw [List.map_flatMap]
      refine congrArg (fun f => List.flatMap f (everyX c)) (funext fun k => ?_)
      rw [filter_all, List.map_map]; rfl
    show C (.list _)
    rw [e]; exact hC
def planOf (c : Clock) (T : Xg → Int) : Plan := (List.range c.n).map fun (w : Nat) => (iRange 0 (c.edOf w)).map fun a => T ((w : Int), a + 1)
def gPlanOf : Con := fun rs C => ∃ (c : Clock) (kvs : List (D × D)) (T : Xg → Int), c.Ok ∧ (∀ e ∈ everyX c, dGet kvs (eX e) = some (.int (T e))) ∧ rs = [.val c.enc, .val (.dict kvs)] ∧ C (encPl (planOf c T))
theorem everyX_mem {c : Clock} {w : Nat} {a : Int} (hw : w < c.n) (h1 : 1 ≤ a) (h2 : a ≤ c.edOf w) : ((w : Int), a) ∈ everyX c := by
  unfold everyX
  refine List.mem_flatMap.mpr ⟨w, List.mem_range.mpr hw, List.mem_map.mpr ⟨a, ?_, rfl⟩⟩
  unfold iRange
  exact List.mem_map.mpr ⟨(a - 1).toNat, List.mem_range.mpr (by omega), by omega⟩
theorem iRange_mem {lo hi x : Int} : x ∈ iRange lo hi ↔ lo ≤ x ∧ x < hi := by
  unfold iRange
  constructor
  · intro h
    obtain ⟨k, hk, rfl⟩ := List.mem_map.mp h
    have := List.mem_range.mp hk
    omega
  · intro h
    exact List.mem_map.mpr ⟨(x - lo).toNat, List.mem_range.mpr (by omega), by omega⟩
theorem can_plan_of (B : Bd K mg) : Can P w K mg base W0 1 "plan_of" 2 gPlanOf [] := by
  refine can_body (N := ["clock", "ticks", "wheel", "last", "at"]) (ps := ["clock", "ticks"]) B.plan_of ⟨rfl, rfl, rfl, by decide +kernel, rfl, by decide +kernel, by decide +kernel⟩ (fun _ _ _ _ _ _ us hl => match us, hl with | [_, _], _ => rfl) ?_
  intro f cdv A outer s H E Wl rs C hr hW ⟨c, kvs, T, ok, hT, e, hC⟩
  subst e
  have hN : (["clock", "ticks", "wheel", "last", "at"] : List Str).Nodup := by decide +kernel
  have hu := hu_of hr
  have n2 := ok.n2
  refine wss_one (ws_ret (we_tuple B.bare (wa_cons (WN.we (wn_lcM (f := fun (k : Nat) => (.tuple [.int k, .int (c.edOf k)] : D)) (own := [("wheel", 2), ("last", 3), ("at", 4)]) (js := [2, 3]) (List.range c.n) (fun _ => true) (fun (w : Nat) => eG ((iRange 0 (c.edOf w)).map fun a => T ((w : Int), a + 1))) rfl hN (blkOk_by (N := ["clock", "ticks", "wheel", "last", "at"]) (sc := defScope s_plan_of) (by decide +kernel)) (by decide) ?_ (wi_enumT B.bare.enum (we_at (j := 1) (we_var 0 rfl rfl) rfl (enum_ed c))) (fun k hk => ?_) (wa_nil ?_))))))
  · rw [List.length_range]; exact Nat.le_trans n2 (by decide)
  · have hk := List.mem_range.mp hk
    have hb := ok.edOf (w := k) ⟨by omega, by omega⟩
    intro _ _ _ _ _
    refine wg_tup rfl (wgs_cons (js := [2]) (wg_name 2 (wgs_cons (js := [3]) (js' := []) (wg_name 3 (wgs_nil (maps_keep ?_)) hN)) hN))
    intro _ _ _ _ _
    refine we_tuple B.bare (wa_cons (WN.we (wn_lcM (f := eI) (own := [("at", 4)]) (js := [4]) (iRange 0 (c.edOf k)) (fun _ => true) (fun a => eI (T ((k : Int), a + 1))) rfl hN (blkOk_by (by rfl)) (by decide) ?_ (wi_range1 B.bare.range (we_var 3 rfl ⟨by omega, by omega, rangeD_i _ _⟩)) (fun a ha => ?_) (wa_nil ?_))))
    · unfold iRange
      rw [List.length_map, List.length_range]
      exact Nat.le_trans (show (c.edOf k - 0).toNat ≤ 4 by omega) (by decide)
    · obtain ⟨a1, a2⟩ := iRange_mem.mp ha
      intro _ _ _ _ _
      refine wg_name 4 (maps_keep ?_) hN
      intro _ _ _ _ _
      refine we_dIx hu (we_var 1 rfl (we_tup (wa_cons (we_var 2 rfl (wa_cons (we_add (we_var 4 rfl (we_int (wa_nil ⟨(show 2 ≤ sizeLine by decide), kvs, _, _, rfl, rfl, rfl, hT _ (everyX_mem hk (show 1 ≤ a + 1 by omega) (show a + 1 ≤ c.edOf k by omega)), rfl⟩)))))))))
    · rw [filter_all]
      show PyData.tuple _ = _
      unfold eG
      rw [List.map_map]; rfl
  · rw [filter_all]
    unfold encPl planOf at hC
    rw [List.map_map] at hC
    exact hC
end
end LC
/-! A dict with keys of one kind, told as a function. -/
namespace LC
open PySem L2 PySem.Spec PyProof.Rows
section
variable {α : Type} [DecidableEq α] {f : α → D}
def KeyInj (f : α → D) : Prop := ∀ a b, keyOf (f a) = keyOf (f b) → a = b
def tab (f : α → D) (L : List α) (T : α → D) : List (D × D) := L.map fun a => (f a, T a)
def putF (T : α → D) (a : α) (v : D) : α → D := fun x => if x = a then v else T x
theorem tab_len (L : List α) (T : α → D) : (tab f L T).length = L.length := List.length_map ..
theorem tab_find (h : KeyInj f) (T : α → D) (a : α) : ∀ L : List α, (tab f L T).find? (fun p => decide (keyOf p.1 = keyOf (f a))) = if a ∈ L then some (f a, T a) else none
  | [] => by simp [tab]
  | b :: L => by
    have ih := tab_find h T a L
    unfold tab at ih ⊢
    rw [List.map_cons, List.find?_cons]
    by_cases e : b = a
    · subst e
      simp
    · have hk : ¬ keyOf (f b) = keyOf (f a) := fun z => e (h _ _ z)
      simp only [hk, decide_false]
      rw [ih]
      have : (a ∈ b :: L) ↔ a ∈ L := by
        rw [List.mem_cons]
        exact ⟨fun z => z.resolve_left fun z => e z.symm, .inr⟩
      by_cases hm : a ∈ L
      · rw [if_pos hm, if_pos (this.mpr hm)]
      · rw [if_neg hm, if_neg fun z => hm (this.mp z)]
theorem tab_get (h : KeyInj f) {T : α → D} {a : α} {L : List α} (hm : a ∈ L) : dGet (tab f L T) (f a) = some (T a) := by
  unfold dGet; rw [tab_find h T a L, if_pos hm]; rfl
theorem tab_none (h : KeyInj f) {T : α → D} {a : α} {L : List α} (hm : a ∉ L) : dGet (tab f L T) (f a) = none := by
  unfold dGet; rw [tab_find h T a L, if_neg hm]; rfl
theorem tab_is (h : KeyInj f) {T : α → D} {a : α} {L : List α} : (dGet (tab f L T) (f a)).isSome = decide (a ∈ L) := by
  by_cases hm : a ∈ L
  · rw [tab_get h hm, decide_eq_true hm]; rfl
  · rw [tab_none h hm, decide_eq_false hm]; rfl
theorem tab_put (h : KeyInj f) {T : α → D} {a : α} {L : List α} (v : D) (hm : a ∈ L) : dPut (tab f L T) (f a) v = tab f L (putF T a v) := by
  unfold dPut
  rw [if_pos (by rw [tab_get h hm]; rfl)]
  unfold tab
  rw [List.map_map]
  refine List.map_congr_left fun x _ => ?_
  show (if keyOf (f x) = keyOf (f a) then (f x, v) else (f x, T x)) = (f x, putF T a v x)
  unfold putF
  by_cases e : x = a
  · subst e; rw [if_pos rfl, if_pos rfl]
  · rw [if_neg fun z => e (h _ _ z), if_neg e]
theorem tab_new (h : KeyInj f) {T : α → D} {a : α} {L : List α} (v : D) (hm : a ∉ L) : dPut (tab f L T) (f a) v = tab f (L ++ [a]) (putF T a v) := by
  unfold dPut
  rw [if_neg (by rw [tab_none h hm]; simp)]
  unfold tab
  rw [List.map_append]
  congr 1
  · refine List.map_congr_left fun x hx => ?_
    unfold putF
    have e : ¬ x = a := fun z => hm (by rw [← z]; exact hx)
    rw [if_neg e]
  · show [(f a, v)] = [(f a, putF T a v a)]
    unfold putF
    rw [if_pos rfl]
theorem tab_congr {T T' : α → D} {L : List α} (h : ∀ a ∈ L, T a = T' a) : tab f L T = tab f L T' := by
  unfold tab
  exact List.map_congr_left fun a ha => by rw [h a ha]
end
end LC
/-! Reached ticks, fixed ticks, leans. -/
namespace LC
open PySem L2 PySem.Spec PyProof.Rows
theorem two {α : Type} {l : List α} (h : l.length = 2) : ∃ a b, l = [a, b] := by
  match l, h with
  | [a, b], _ => exact ⟨a, b, rfl⟩
theorem inj_X : KeyInj eX := fun a b h => by
  have h : NestedKey.tup [.num a.1, .num a.2] = .tup [.num b.1, .num b.2] := h
  injection h with h
  injection h with h1 h2
  injection h2 with h2 h3
  injection h1 with h1
  injection h2 with h2
  exact Prod.ext h1 h2
/-- a tick that an exchange is pushed to -/
inductive Reach (c : Clock) : Xg → Int → Prop where
  | first {e : Xg} : e ∈ everyX c → Reach c e (gapFrom c e.1 0)
  | push {one other : Xg} {v : Int} : (one, other) ∈ leansOf c → Reach c other v → Reach c one (pushed c one other v)
def mostOf (c : Clock) : Int := 0 + 2 * c.P * (if ((everyX c).length : Int) > 1 then ((everyX c).length : Int) else 1)
structure Good (c : Clock) (T : Xg → Int) : Prop where
  first : ∀ e ∈ everyX c, gapFrom c e.1 0 ≤ T e
  reach : ∀ e ∈ everyX c, Reach c e (T e)
  low : ∀ e ∈ everyX c, T e < mostOf c
structure Fix (c : Clock) (T : Xg → Int) : Prop where
  good : Good c T
  push : ∀ l ∈ leansOf c, pushed c l.1 l.2 (T l.2) ≤ T l.1
theorem everyX_in {c : Clock} {e : Xg} (h : e ∈ everyX c) : c.whl e.1 ∧ 1 ≤ e.2 ∧ e.2 ≤ c.edOf e.1 := by
  unfold everyX at h
  obtain ⟨w, hw, h⟩ := List.mem_flatMap.mp h
  obtain ⟨a, ha, rfl⟩ := List.mem_map.mp h
  have hw := List.mem_range.mp hw
  have ha := iRange_mem.mp ha
  exact ⟨⟨by show (0 : Int) ≤ w; omega, by show (w : Int) < c.n; omega⟩, ha.1, by show a ≤ c.edOf w; omega⟩
theorem everyX_of {c : Clock} {e : Xg} (hw : c.whl e.1) (h1 : 1 ≤ e.2) (h2 : e.2 ≤ c.edOf e.1) : e ∈ everyX c := by
  have e0 : ((e.1.toNat : Nat) : Int) = e.1 := Int.toNat_of_nonneg hw.1
  have := everyX_mem (c := c) (w := e.1.toNat) (a := e.2) (by have := hw.2; omega) h1 (by rw [e0]; exact h2)
  rw [e0] at this
  exact this
theorem everyX_nodup (c : Clock) : (everyX c).Nodup := by
  unfold everyX
  rw [List.Nodup, List.pairwise_flatMap]
  refine ⟨fun w _ => ?_, List.Pairwise.imp_of_mem (R := fun a b => a ≠ b) (fun {a b} _ _ hab x hx y hy e => ?_) List.nodup_range⟩
  · rw [List.pairwise_map]
    unfold iRange
    rw [List.pairwise_map]
    refine List.Pairwise.imp (R := fun a b => a ≠ b) (S := fun (a b : Nat) => ((w : Int), (1 : Int) + (a : Int)) ≠ ((w : Int), (1 : Int) + (b : Int))) (fun {a b} hab e => hab ?_) List.nodup_range
    have e2 := congrArg Prod.snd e
    have e2 : (1 : Int) + (a : Int) = 1 + (b : Int) := e2
    omega
  · obtain ⟨_, _, rfl⟩ := List.mem_map.mp hx
    obtain ⟨_, _, rfl⟩ := List.mem_map.mp hy
    have := congrArg Prod.fst e
    have : (a : Int) = b := this
    exact hab (by omega)
theorem maxL_mem : ∀ (l : List Int), maxL l = 0 ∨ maxL l ∈ l := by
  have key : ∀ (l : List Int) (a : Int), l.foldl max a = a ∨ l.foldl max a ∈ l := by
    intro l
    induction l with
    | nil => intro a; exact .inl rfl
    | cons x l ih =>
      intro a
      rw [List.foldl_cons]
      rcases ih (max a x) with h | h
      · rw [h]
        rcases Int.le_total a x with z | z
        · right; rw [Int.max_eq_right z]; exact List.mem_cons_self
        · left; exact Int.max_eq_left z
      · right; exact List.mem_cons_of_mem _ h
  intro l
  exact key l 0
theorem needed_le {c : Clock} (ok : c.Ok) {w a j : Int} (h : 0 < needed c w a j) : c.whl j ∧ needed c w a j ≤ c.edOf j := by
  unfold needed at h ⊢
  rcases maxL_mem (((entriesOf c w j).filter fun b => decide (b.2.1 ≤ a)).map (·.2.2.2)) with z | z
  · rw [z] at h; exact absurd h (by omega)
  · obtain ⟨b, hb, e⟩ := List.mem_map.mp z
    have hb := (List.mem_filter.mp hb).1
    unfold entriesOf at hb
    obtain ⟨h1, h2⟩ := List.mem_filter.mp hb
    simp only [Bool.and_eq_true, decide_eq_true_eq] at h2
    have := ok.bo b h1
    rw [← e]
    rw [h2.2] at this
    exact ⟨this.2.2.2.1, this.2.2.2.2.2.2⟩
theorem needs_in {c : Clock} (ok : c.Ok) {e o : Xg} (he : e ∈ everyX c) (h : o ∈ needsS c e) : o ∈ everyX c ∧ (e.1 ≠ o.1 → phasesOf c e.1 o.1 ≠ []) ∧ ((o.1 = e.1 ∧ o.2 = e.2 - 1 ∧ 1 < e.2) ∨ (o.1 ≠ e.1 ∧ o.2 = needed c e.1 e.2 o.1 ∧ 0 < o.2)) := by
  have h := (needsS_perm c e).mem_iff.mp h
  obtain ⟨e1, e2, e3⟩ := everyX_in he
  unfold needsOf needsTo at h
  rcases List.mem_append.mp h with h | h
  · by_cases q : 1 < e.2
    · rw [if_pos q] at h
      have : o = (e.1, e.2 - 1) := by simpa using h
      subst this
      exact ⟨everyX_of e1 (by show 1 ≤ e.2 - 1; omega) (by show e.2 - 1 ≤ c.edOf e.1; omega), fun z => absurd rfl z, .inl ⟨rfl, rfl, q⟩⟩
    · rw [if_neg q] at h; simp at h
  · obtain ⟨j, hj, rfl⟩ := List.mem_map.mp h
    obtain ⟨h1, h2⟩ := List.mem_filter.mp hj
    have h1 := List.mem_range.mp h1
    unfold keepN at h2
    simp only [Bool.and_eq_true, Bool.not_eq_true', decide_eq_true_eq, decide_eq_false_iff_not] at h2
    obtain ⟨a1, a2, a3⟩ := h2
    have hn := needed_le ok a3
    refine ⟨everyX_of ⟨by show (0 : Int) ≤ j; omega, by show (j : Int) < c.n; omega⟩ (by show 1 ≤ needed c e.1 e.2 j; omega) hn.2, fun _ z => ?_, .inr ⟨a1, rfl, a3⟩⟩
    have z : phasesOf c e.1 j = [] := z
    rw [z] at a2; simp at a2
theorem leans_in {c : Clock} (ok : c.Ok) {l : Xg × Xg} (h : l ∈ leansOf c) : l.1 ∈ everyX c ∧ l.2 ∈ needsS c l.1 := by
  unfold leansOf at h
  obtain ⟨e, he, h⟩ := List.mem_flatMap.mp h
  obtain ⟨o, ho, rfl⟩ := List.mem_map.mp h
  exact ⟨he, ho⟩
end LC
/-! The walk of least_ticks. -/
namespace LC
open PySem L2 PySem.Spec PyProof.Rows
theorem lt_binds (T : Addr) (kV doc pm : Value) (an : Option Addr) (cdv ct : Value) (us its : List Value) (h1 : us.length = 1) (h2 : its.length = 2) :
      ∃ k, bindArgs (PySem.W.fnOf "least_ticks" "least_ticks" (defArgs s_least_ticks) (defBody s_least_ticks) (defScope s_least_ticks) (.ref T) kV doc pm an cdv ct) ⟨us, []⟩ = seqItems? (.ref T) >>= k ∧ k (some its.toArray) = pure ((["clock", "first", "known"] : List Str).zip (us ++ its.drop 0)) := by
  match us, h1 with
  | [u], _ =>
    obtain ⟨a, b, rfl⟩ := two h2
    exact ⟨_, rfl, rfl⟩
section
variable {X : Cx} {Wl : Wild} {ρ : Env'} {Φ : Wish} {k v : Expr} {pos : Pos}
/-- name[k] = v on a dict of the frame's own -/
theorem ws_dPut (i : Nat) {x : Str} {px sp : Pos} {kvs : List (D × D)} (hu : X.A.units + 100 < cLine) (hr : ρ[i]? = some (some (.own (.dict kvs)))) (h : WE X Wl ρ v (valK fun d => WE X Wl ρ k (valK fun kd => keyOk kd = true ∧ kvs.length < sizeLine ∧ Φ.nx (ρ.set i (some (.own (.dict (dPut kvs kd d))))))))
    (hN : X.N[i]? = some x := by rfl) (hv : Vis X.env.scope x := by first | exact Or.inl rfl | exact Or.inr (Or.inl rfl) | exact Or.inr (Or.inr rfl)) (hd : (x == ("__debug__" : Str)) = false := by decide) (hcd : (x == ("__classdict__" : Str)) = false := by decide)
    (hs : swapsWithSole [.Subscript (.Name x px) k sp] v pos.line X.env = pure false := by rfl) (hw : swappedStores [.Subscript (.Name x px) k sp] v X.env = pure none := by rfl) (h1 : (assignEach [.Subscript (.Name x px) k sp] X.env).map (·.2) = [assign (.Subscript (.Name x px) k sp) X.env] := by rfl)
    (ha : ∀ w, assign (.Subscript (.Name x px) k sp) X.env w = (do
      let ov ← holding [w] (eval (.Name x px) X.env)
      let iv ← holding [w, ov] (eval k X.env)
      standAt sp
      holding [w, ov, iv] (setItem ov iv w)
      release [w, ov, iv] []) := by exact fun _ => rfl) : WS X Wl ρ (.Assign [.Subscript (.Name x px) k sp] v pos) Φ := ws_dSet i hu hr h hN hv hd hcd hs hw h1 (pg_sub (pe_var hN hv hd hcd) pe_sem (set_deep hu) ha)
end
section
variable {P : Program} {w : World} {K : PySem.W.Frag} {mg : Str → Option Value} {base : Heap} {W0 : Wild}
def tabT (c : Clock) (T : Xg → Int) : List (D × D) := tab eX (everyX c) fun e => .int (T e)
theorem tab_has {c : Clock} {T : Xg → D} {e : Xg} (h : e ∈ everyX c) : (dGet (tab eX (everyX c) T) (eX e)).isSome = true := by rw [tab_get inj_X h]; rfl
/-- how much may still be risen -/
def meas (c : Clock) (T : Xg → Int) : Nat := ((everyX c).map fun e => (mostOf c - T e).toNat).sum
def T2 (T : Xg → Int) (a : Xg) (v : Int) : Xg → Int := fun e => if e = a then v else T e
theorem sum_lt {α : Type} {f g : α → Nat} : ∀ {L : List α}, (∀ e ∈ L, f e ≤ g e) → (∃ a ∈ L, f a < g a) → (L.map f).sum < (L.map g).sum
  | [], _, h => by obtain ⟨a, h, _⟩ := h; cases h
  | x :: L, h, ⟨a, ha, hl⟩ => by
    rw [List.map_cons, List.map_cons, List.sum_cons, List.sum_cons]
    have le : ∀ M : List α, (∀ e ∈ M, f e ≤ g e) → (M.map f).sum ≤ (M.map g).sum := by
      intro M
      induction M with
      | nil => intro _; exact Nat.le_refl _
      | cons y M ih =>
        intro hm
        rw [List.map_cons, List.map_cons, List.sum_cons, List.sum_cons]
        have := ih fun e he => hm e (List.mem_cons_of_mem _ he)
        have := hm y List.mem_cons_self
        omega
    rcases List.mem_cons.mp ha with e | ha
    · subst e
      have := le L fun e he => h e (List.mem_cons_of_mem _ he)
      omega
    · have := sum_lt (fun e he => h e (List.mem_cons_of_mem _ he)) ⟨a, ha, hl⟩
      have := h x List.mem_cons_self
      omega
theorem meas_lt {c : Clock} {T : Xg → Int} {a : Xg} {v : Int} (ha : a ∈ everyX c) (h1 : T a < v) (h2 : T a < mostOf c) : meas c (T2 T a v) < meas c T := by
  unfold meas
  refine sum_lt (fun e _ => ?_) ⟨a, ha, ?_⟩
  · unfold T2
    by_cases z : e = a
    · subst z; rw [if_pos rfl]; omega
    · rw [if_neg z]; omega
  · unfold T2
    rw [if_pos rfl]; omega
theorem tabT_put {c : Clock} {T : Xg → Int} {a : Xg} {v : Int} (ha : a ∈ everyX c) : dPut (tabT c T) (eX a) (.int v) = tabT c (T2 T a v) := by
  unfold tabT
  rw [tab_put inj_X _ ha]
  refine tab_congr fun e _ => ?_
  unfold putF T2
  by_cases z : e = a
  · rw [if_pos z, if_pos z]
  · rw [if_neg z, if_neg z]
theorem tabT_get {c : Clock} {T : Xg → Int} {a : Xg} (ha : a ∈ everyX c) : dGet (tabT c T) (eX a) = some (.int (T a)) := tab_get inj_X ha
def gLeast : Con := fun rs C => ∃ c : Clock, c.Ok ∧ rs = [.val c.enc, .val (.int 0), .val (.tuple [])] ∧ (∀ T, Fix c T → C (.dict (tabT c T))) ∧ ((∃ e v, Reach c e v ∧ mostOf c ≤ v) → C .none)
theorem can_least_ticks (B : Bd K mg) : Can P w K mg base W0 5 "least_ticks" 3 gLeast [.int 0, .tuple []] := by
  obtain ⟨f, fd, dvs, FD, hm, hne, hdd⟩ := B.least_ticks.ex
  have hdl : dvs.length = 2 := ((hdd P w (fun _ => none)).length).symm
  obtain ⟨ds, hb1, hb2⟩ := FD.binds1 (ps := ["clock", "first", "known"]) 1 0 hne (by rw [hdl]; rfl) fun T kV doc pm an cdv ct us its h1 h2 => lt_binds T kV doc pm an cdv ct us its h1 (by rw [h2, hdl])
  rw [List.drop_zero] at hb1
  refine can_of (N := ["clock", "first", "known", "going", "ticks", "leans", "most", "changed", "one", "other", "least", "exchange"]) (ps := ["clock", "first", "known"]) (x := "least_ticks") FD hm ⟨rfl, rfl, rfl, by decide +kernel, rfl, by decide +kernel, by decide +kernel⟩ ⟨ds, hb1, hb2⟩ (hdd P w) ?_
  rintro f cdv A outer s H E Wl rs C hr hW hno hlen ⟨c, ok, e, hT, hN0⟩
  subst e
  have hN : (["clock", "first", "known", "going", "ticks", "leans", "most", "changed", "one", "other", "least", "exchange"] : List Str).Nodup := by decide +kernel
  have hu := hu_of hr
  have hP := ok.p1
  have hP2 := ok.p2
  refine wss_cons ?_
  refine ws_setLcM (f := eX) 3 (own := [("exchange", 11)]) (js := [11]) (everyX c) (fun _ => true) eX rfl hN (blkOk_by (by rfl)) (by decide) (Nat.le_trans (everyX_len ok) (by decide)) (wi_list (we_call (can_every_exchange B) hr (by decide) hW (wa_cons (we_var 0 rfl (wa_nil ⟨rfl, rfl, c, ok, rfl, rfl⟩))))) (fun x hx => ?_) ?_ (sw_true rfl rfl rfl (by decide +kernel))
  · intro _ _ _ _ _
    refine wg_name 11 (maps_if ?_ ?_) hN
    · intro _ _ _ _ _
      exact wt_notin hu (we_var 11 rfl (we_var 2 rfl ⟨enc_X.pl _ _ (by decide), rfl, rfl, rfl⟩))
    · intro _ _ _ _ _ _
      exact we_var 11 rfl rfl
  rw [filter_all]
  refine wss_freezeL 3 rfl (wss_cons ?_)
  refine ws_own 4 (wn_dc (own := [("exchange", 11)]) (js := [11]) hu rfl hN (blkOk_by (by rfl)) (by decide) (wi_list (we_var 3 rfl ⟨fun i acc => acc = tab eX ((everyX c).take i) (fun e => .int (gapFrom c e.1 0)), rfl, ?_, ?_⟩))) hN
  · rintro i d acc hd rfl
    rw [List.getElem?_map] at hd
    obtain ⟨x, hx, rfl⟩ := Option.map_eq_some_iff.mp hd
    obtain ⟨hi, ex⟩ := List.getElem?_eq_some_iff.mp hx
    have hxm : x ∈ everyX c := List.mem_of_getElem? hx
    have hnew : x ∉ (everyX c).take i := fun hm => by
      obtain ⟨j, hj, ej⟩ := List.getElem_of_mem hm
      rw [List.length_take] at hj
      rw [List.getElem_take] at ej
      have := (List.pairwise_iff_getElem.mp (everyX_nodup c)) j i (by omega) hi (by omega)
      exact this (ej.trans ex.symm)
    intro _ _ _ _ _
    refine wg_name 11 ?_ hN
    intro _ _ _ _ _
    refine we_var 11 rfl ⟨rfl, ?_⟩
    intro _ _ _ _ _
    refine we_call (can_gap_from B) hr (by decide) hW (wa_cons (we_var 0 rfl (wa_cons (we_at (j := 0) (we_var 11 rfl rfl) rfl (wa_cons (we_var 1 rfl (wa_nil ⟨rfl, rfl, c, x.1, 0, ok, (everyX_in hxm).1, rfl, ?_, ?_⟩)))))))
    · rw [tab_len]
      exact Nat.lt_of_le_of_lt (List.length_take_le' ..) (Nat.lt_of_le_of_lt (everyX_len ok) (by decide))
    · rw [tab_new inj_X _ hnew]
      have e1 : (everyX c).take (i + 1) = (everyX c).take i ++ [x] := by rw [List.take_succ, hx]; rfl
      show _ = tab eX ((everyX c).take (i + 1)) _
      rw [e1]
      refine tab_congr fun a _ => ?_
      unfold putF
      by_cases z : a = x
      · subst z; rw [if_pos rfl]
      · rw [if_neg z]
  · rintro acc rfl
    have el : (everyX c).take ((everyX c).map eX).length = everyX c := by rw [List.length_map, List.take_length]
    rw [el]
    refine wss_cons ?_
    refine ws_setLcM (f := eL) 5 (own := [("one", 8), ("other", 9)]) (js := [8, 9]) (leansOf c) (fun _ => true) eL rfl hN (blkOk_by (by rfl)) (by decide) (Nat.le_trans (leans_len ok) (by decide)) (wi_list (we_call (can_every_lean B) hr (by decide) hW (wa_cons (we_var 0 rfl (wa_nil ⟨rfl, rfl, c, ok, rfl, rfl⟩))))) (fun l hl => ?_) ?_ (sw_true rfl rfl rfl (by decide +kernel))
    · obtain ⟨l1, l2⟩ := leans_in ok hl
      intro _ _ _ _ _
      refine wg_tup rfl (wgs_cons (js := [8]) (wg_name 8 (wgs_cons (js := [9]) (js' := []) (wg_name 9 (wgs_nil (maps_if ?_ ?_)) hN)) hN))
      · intro _ _ _ _ _
        refine wt_and (ww_and (wt_dIn hu (we_var 8 rfl (we_var 4 rfl ⟨_, _, rfl, rfl, rfl, ?_⟩))))
        show ((dGet (tab eX (everyX c) _) (eX l.1)).isSome = true → _) ∧ ((dGet (tab eX (everyX c) _) (eX l.1)).isSome = false → _)
        rw [tab_has l1]
        refine ⟨fun _ => ww_and1 (wt_dIn hu (we_var 9 rfl (we_var 4 rfl ⟨_, _, rfl, rfl, rfl, ?_⟩))), fun z => Bool.noConfusion z⟩
        show (dGet (tab eX (everyX c) _) (eX l.2)).isSome = true
        rw [tab_has (needs_in ok l1 l2).1]
      · intro _ _ _ _ _ _
        exact we_tup (wa_cons (we_var 8 rfl (wa_cons (we_var 9 rfl (wa_nil ⟨(show 2 ≤ sizeLine by decide), rfl⟩)))))
    rw [filter_all]
    refine wss_freezeL 5 rfl (wss_cons ?_)
    refine ws_asg 6 (we_add (we_var 1 rfl (we_mul (we_mul (we_int (we_at (j := 0) (we_var 0 rfl rfl) rfl ⟨.inl ⟨by decide, by decide⟩, ?_⟩)))))) hN
    refine we_max2 B.bare (wa_cons (we_int (wa_cons (we_len B.bare (wa_cons (we_var 3 rfl (wa_nil (wa_nil ⟨.inl ⟨by omega, by omega⟩, ?_⟩))))))))
    have hgl : (((everyX c).map eX).length : Int) = ((everyX c).length : Int) := by rw [List.length_map]
    have hmo : (0 + 2 * c.P * (if (((everyX c).map eX).length : Int) > 1 then (((everyX c).map eX).length : Int) else 1)) = mostOf c := by rw [hgl]; rfl
    show WSs _ _ (List.set _ 6 (some (.val (.int (0 + 2 * c.P * (if (((everyX c).map eX).length : Int) > 1 then (((everyX c).map eX).length : Int) else 1)))))) _ _
    rw [hmo]
    refine wss_cons (ws_asg 7 (we_bool ?_) hN)
    have ln : ((everyX c).length : Int) ≤ 24 := by have := everyX_len ok; omega
    have nofix : mostOf c ≥ 2 * c.P := by
      unfold mostOf
      have h2 : (1 : Int) ≤ (if ((everyX c).length : Int) > 1 then ((everyX c).length : Int) else 1) := by split <;> omega
      have := Int.mul_le_mul_of_nonneg_left h2 (show (0 : Int) ≤ 2 * c.P by omega)
      omega
    have good0 : Good c fun e => gapFrom c e.1 0 := ⟨fun _ _ => Int.le_refl _, fun e he => .first he, fun e he => by
      have := (gap_spec ok (everyX_in he).1 0).2.1
      omega⟩
    refine wss_cons (ws_while (by passes_own) (fun m ρ => ∃ T b r8 r9 r10 r11, ρ = [some (.val c.enc), some (.val (.int 0)), some (.val (.tuple [])), some (.val (.list ((everyX c).map eX))), some (.own (.dict (tabT c T))), some (.val (.list ((leansOf c).map eL))), some (.val (.int (mostOf c))), some (.val (.bool b)), r8, r9, r10, r11] ∧
      Good c T ∧ (b = false → ∀ l ∈ leansOf c, pushed c l.1 l.2 (T l.2) ≤ T l.1) ∧ m = meas c T + (if b = true then 1 else 0)) _ ⟨fun e => gapFrom c e.1 0, true, _, _, _, _, rfl, good0, fun z => Bool.noConfusion z, rfl⟩ ?_)
    rintro m ρ ⟨T, b, r8, r9, r10, r11, rfl, gd0, fx, hm⟩
    refine wt_val (we_var 7 rfl ⟨fun hb => ?_, fun hb => ?_⟩)
    · have hb : b = true := hb
      subst hb
      have hm : m = meas c T + 1 := hm
      refine wss_cons (ws_asg 7 (we_bool ?_) hN)
      refine wss_one (ws_for (js := [8, 9]) (by passes_own) rfl (wi_list (we_var 5 rfl ⟨fun i ρ => ∃ T' b' r8 r9 r10 r11, ρ = [some (.val c.enc), some (.val (.int 0)), some (.val (.tuple [])), some (.val (.list ((everyX c).map eX))), some (.own (.dict (tabT c T'))), some (.val (.list ((leansOf c).map eL))), some (.val (.int (mostOf c))), some (.val (.bool b')), r8, r9, r10, r11] ∧
        Good c T' ∧ ((b' = false ∧ T' = T ∧ ∀ k l, k < i → (leansOf c)[k]? = some l → pushed c l.1 l.2 (T l.2) ≤ T l.1) ∨ (b' = true ∧ meas c T' < meas c T)), ⟨T, false, _, _, _, _, rfl, gd0, .inl ⟨rfl, rfl, fun k l hk => absurd hk (Nat.not_lt_zero _)⟩⟩, ?_, ?_⟩)))
      · rintro i d ρ' hd ⟨T', b', r8, r9, r10, r11, rfl, gd1, st⟩
        rw [List.getElem?_map] at hd
        obtain ⟨l, hl, rfl⟩ := Option.map_eq_some_iff.mp hd
        obtain ⟨l1, l2⟩ := leans_in ok (List.mem_of_getElem? hl)
        obtain ⟨l3, l4, _⟩ := needs_in ok l1 l2
        refine wg_tup rfl (wgs_cons (js := [8]) (wg_name 8 (wgs_cons (js := [9]) (js' := []) (wg_name 9 (wgs_nil ?_) hN)) hN))
        refine wss_cons (ws_asg 10 (we_call (can_pushed B) hr (by decide) hW (wa_cons (we_var 0 rfl (wa_cons (we_var 8 rfl (wa_cons (we_var 9 rfl (wa_cons (we_dIx hu (we_var 4 rfl (we_var 9 rfl ⟨_, _, _, rfl, rfl, rfl, tabT_get l3, wa_nil ⟨rfl, rfl, c, l.1, l.2, T' l.2, ok, (everyX_in l1).1, l4, rfl, ?_⟩⟩))))))))))) hN)
        generalize hv : pushed c l.1 l.2 (T' l.2) = v
        refine wss_one (ws_if (wt_gt (we_var 10 rfl (we_dIx hu (we_var 4 rfl (we_var 8 rfl ⟨_, _, _, rfl, rfl, rfl, tabT_get l1, fun q => ?_, fun q => ?_⟩))))))
        · have q : T' l.1 < v := of_decide_eq_true q
          refine wss_cons ?_
          refine ws_dPut 4 hu rfl (we_var 10 rfl (we_var 8 rfl ⟨rfl, ?_, ?_⟩))
          · show (tabT c T').length < sizeLine
            unfold tabT
            rw [tab_len]
            exact Nat.lt_of_le_of_lt (everyX_len ok) (by decide)
          rw [tabT_put l1]
          refine wss_cons (ws_asg 7 (we_bool ?_) hN)
          have rv : Reach c l.1 v := by rw [← hv]; exact .push (List.mem_of_getElem? hl) (gd1.reach _ l3)
          refine wss_one (ws_if (wt_ge (we_var 10 rfl (we_var 6 rfl ⟨fun q2 => ?_, fun q2 => ?_⟩))))
          · have q2 : mostOf c ≤ v := of_decide_eq_true q2
            exact wss_one (ws_ret (we_none (hN0 ⟨l.1, v, rv, q2⟩)))
          · have q2 : ¬ mostOf c ≤ v := of_decide_eq_false q2
            have ml := meas_lt (c := c) (T := T') (v := v) l1 q (gd1.low _ l1)
            refine wss_nil ⟨T2 T' l.1 v, true, _, _, _, _, rfl, ⟨fun e he => ?_, fun e he => ?_, fun e he => ?_⟩, .inr ⟨rfl, ?_⟩⟩
            · unfold T2
              by_cases z : e = l.1
              · rw [if_pos z, z]
                have := gd1.first _ l1
                omega
              · rw [if_neg z]; exact gd1.first _ he
            · unfold T2
              by_cases z : e = l.1
              · rw [if_pos z, z]; exact rv
              · rw [if_neg z]; exact gd1.reach _ he
            · unfold T2
              by_cases z : e = l.1
              · rw [if_pos z]; omega
              · rw [if_neg z]; exact gd1.low _ he
            · rcases st with ⟨_, e, _⟩ | ⟨_, e⟩
              · rw [e] at ml; rw [e]; exact ml
              · exact Nat.lt_trans ml e
        · have q : ¬ T' l.1 < v := of_decide_eq_false q
          refine wss_nil ⟨T', b', _, _, _, _, rfl, gd1, ?_⟩
          rcases st with ⟨e1, e2, e3⟩ | st
          · refine .inl ⟨e1, e2, fun k l' hk hl' => ?_⟩
            rcases Nat.lt_or_ge k i with z | z
            · exact e3 k l' z hl'
            · have : k = i := by omega
              subst this
              rw [hl] at hl'
              cases hl'
              rw [← e2, hv]
              omega
          · exact .inr st
      · rintro ρ' ⟨T', b', r8, r9, r10, r11, rfl, gd1, st⟩
        rcases st with ⟨e1, e2, e3⟩ | ⟨e1, e2⟩
        · subst e1 e2
          refine ⟨meas c T', by omega, T', false, _, _, _, _, rfl, gd1, fun _ l hl => ?_, rfl⟩
          obtain ⟨k, hk, e⟩ := List.getElem_of_mem hl
          exact e3 k l (by rw [List.length_map]; exact hk) (by rw [List.getElem?_eq_getElem hk, e])
        · subst e1
          exact ⟨meas c T' + 1, by omega, T', true, _, _, _, _, rfl, gd1, fun z => Bool.noConfusion z, rfl⟩
    · have hb : b = false := hb
      subst hb
      exact wss_freezeD 4 rfl (wss_one (ws_ret (we_var 4 rfl (hT T ⟨gd0, fx rfl⟩))))
end
end LC
/-! The walks of earliest, ring_of, holds, is_ring. -/
namespace LC
open PySem L2 PySem.Spec PyProof.Rows
section
variable {P : Program} {w : World} {K : PySem.W.Frag} {mg : Str → Option Value} {base : Heap} {W0 : Wild}
def gEarliest : Con := fun rs C => ∃ c : Clock, c.Ok ∧ rs = [.val c.enc] ∧ (∀ T, Fix c T → C (encPl (planOf c T))) ∧ ((∃ e v, Reach c e v ∧ mostOf c ≤ v) → C .none)
theorem can_earliest (B : Bd K mg) (G : Bg K mg base W0) : Can P w K mg base W0 7 "earliest" 1 gEarliest [] := by
  refine can_body (N := ["clock", "ticks"]) (ps := ["clock"]) B.earliest ⟨rfl, rfl, rfl, by decide +kernel, rfl, by decide +kernel, by decide +kernel⟩ (fun _ _ _ _ _ _ us hl => match us, hl with | [_], _ => rfl) ?_
  intro f cdv A outer s H E Wl rs C hr hW ⟨c, ok, e, hT, hN0⟩
  subst e
  have hN : (["clock", "ticks"] : List Str).Nodup := by decide +kernel
  have hu := hu_of hr
  refine wss_cons (ws_expr (we_call (can_need_clock B G) hr (by decide) hW (wa_cons (we_var 0 rfl (wa_nil ⟨rfl, rfl, c, ok, rfl, ?_⟩)))))
  refine wss_cons (ws_asg 1 (we_call (can_least_ticks B) hr (by decide) hW (wa_cons (we_var 0 rfl (wa_nil ⟨rfl, rfl, c, ok, rfl, fun T fx => ?_, fun rr => ?_⟩)))) hN)
  · refine wss_one (ws_ret (we_if (wt_isN (we_var 1 rfl (we_none ⟨fun z => Bool.noConfusion z, fun _ => ?_⟩)))))
    exact we_call (can_plan_of B) hr (by decide) hW (wa_cons (we_var 0 rfl (wa_cons (we_var 1 rfl (wa_nil ⟨rfl, rfl, c, _, T, ok, fun e he => tabT_get he, rfl, hT T fx⟩)))))
  · exact wss_one (ws_ret (we_if (wt_isN (we_var 1 rfl (we_none ⟨fun _ => we_none (hN0 rr), fun z => Bool.noConfusion z⟩)))))
abbrev Node := Xg × Int
/-- one leans on the other, all along -/
def ChainOk (c : Clock) (l : List Node) : Prop := ∀ i a b, l[i]? = some a → l[i + 1]? = some b → (b.1, a.1) ∈ leansOf c
def stepR (c : Clock) (s l : Node) : Node := (l.1, pushed c l.1 s.1 s.2)
def curR (c : Clock) (n0 : Node) (rest : List Node) (i : Nat) : Node := (rest.take i).foldl (stepR c) n0
def seenR (c : Clock) (n0 : Node) (rest : List Node) (i : Nat) : List Node := (List.range (i + 1)).map (curR c n0 rest)
theorem curR_succ {c : Clock} {n0 : Node} {rest : List Node} {i : Nat} {l : Node} (h : rest[i]? = some l) : curR c n0 rest (i + 1) = stepR c (curR c n0 rest i) l := by
  unfold curR
  have e : rest.take (i + 1) = rest.take i ++ [l] := by rw [List.take_succ, h]; rfl
  rw [e, List.foldl_append]; rfl
theorem curR_fst {c : Clock} {n0 : Node} {rest : List Node} : ∀ {i : Nat} {a : Node}, (n0 :: rest)[i]? = some a → (curR c n0 rest i).1 = a.1
  | 0, a, h => by
    have : n0 = a := by simpa using h
    subst this; rfl
  | i + 1, a, h => by
    have h : rest[i]? = some a := by simpa using h
    rw [curR_succ h]; rfl
theorem seenR_succ (c : Clock) (n0 : Node) (rest : List Node) (i : Nat) : seenR c n0 rest (i + 1) = seenR c n0 rest i ++ [curR c n0 rest (i + 1)] := by
  unfold seenR
  rw [List.range_succ, List.map_append]; rfl
def gRingOf : Con := fun rs C => ∃ (c : Clock) (n0 : Node) (rest : List Node), c.Ok ∧ ChainOk c (n0 :: rest) ∧ rest.length ≤ 1000 ∧ rs = [.val c.enc, .val (.list ((n0 :: rest).map eN))] ∧ C (.tuple ((seenR c n0 rest rest.length).map eN))
theorem can_ring_of (B : Bd K mg) : Can P w K mg base W0 4 "ring_of" 2 gRingOf [] := by
  refine can_body (N := ["clock", "nodes", "exchange", "number", "found", "later", "_"]) (ps := ["clock", "nodes"]) B.ring_of ⟨rfl, rfl, rfl, by decide +kernel, rfl, by decide +kernel, by decide +kernel⟩ (fun _ _ _ _ _ _ us hl => match us, hl with | [_, _], _ => rfl) ?_
  intro f cdv A outer s H E Wl rs C hr hW ⟨c, n0, rest, ok, ch, hz, e, hC⟩
  subst e
  have hN : (["clock", "nodes", "exchange", "number", "found", "later", "_"] : List Str).Nodup := by decide +kernel
  have hu := hu_of hr
  refine wss_cons (ws_to (js := [2, 3]) (we_ix (we_var 1 rfl (we_int ⟨eN n0, ?_, wg_tup rfl (wgs_cons (wg_name 2 (wgs_cons (wg_name 3 (wgs_nil ?_) hN)) hN))⟩))))
  · rw [atI_nn (by omega) (by rw [List.length_map, List.length_cons]; omega)]; rfl
  refine wss_cons (ws_own 4 (wn_lst (wa_cons (we_tup (wa_cons (we_var 2 rfl (wa_cons (we_var 3 rfl (wa_nil ⟨(show 2 ≤ sizeLine by decide), wa_nil ⟨(show 1 ≤ sizeLine by decide), ?_⟩⟩)))))))) hN)
  have hcut : cutD ((n0 :: rest).map eN) (some 1) none = rest.map eN := by rw [cut1]; rfl
  refine wss_cons (ws_for (js := [5, 6]) (by passes_own) rfl (WI.mono (Q := fun ds => ds = rest.map eN) (wi_list (we_sl10 (we_var 1 rfl (we_int hcut)))) fun ds hds => ?_))
  subst hds
  refine ⟨fun i ρ => ∃ r5 r6, ρ = [some (.val c.enc), some (.val (.list ((n0 :: rest).map eN))), some (.val (eX (curR c n0 rest i).1)), some (.val (.int (curR c n0 rest i).2)), some (.own (.list ((seenR c n0 rest i).map eN))), r5, r6], ⟨_, _, rfl⟩, ?_, ?_⟩
  · rintro i d ρ' hd ⟨r5, r6, rfl⟩
    have hd : (rest.map eN)[i]? = some d := hd
    rw [List.getElem?_map] at hd
    obtain ⟨l, hl, rfl⟩ := Option.map_eq_some_iff.mp hd
    have hil := (List.getElem?_eq_some_iff.mp hl).1
    obtain ⟨a, ha⟩ : ∃ a, (n0 :: rest)[i]? = some a := ⟨_, List.getElem?_eq_getElem (by rw [List.length_cons]; omega)⟩
    have le := ch i a l ha (by simpa using hl)
    rw [← curR_fst (c := c) ha] at le
    obtain ⟨l1, l2⟩ := leans_in ok le
    obtain ⟨l3, l4, _⟩ := needs_in ok l1 l2
    refine wg_tup rfl (wgs_cons (js := [5]) (wg_name 5 (wgs_cons (js := [6]) (js' := []) (wg_name 6 (wgs_nil ?_) hN)) hN))
    refine wss_cons (ws_asg 3 (we_call (can_pushed B) hr (by decide) hW (wa_cons (we_var 0 rfl (wa_cons (we_var 5 rfl (wa_cons (we_var 2 rfl (wa_cons (we_var 3 rfl (wa_nil ⟨rfl, rfl, c, l.1, (curR c n0 rest i).1, (curR c n0 rest i).2, ok, (everyX_in l1).1, l4, rfl, ?_⟩)))))))))) hN)
    refine wss_cons (ws_asg 2 (we_var 5 rfl ?_) hN)
    refine wss_one (ws_app 4 rfl (we_tup (wa_cons (we_var 2 rfl (wa_cons (we_var 3 rfl (wa_nil ⟨(show 2 ≤ sizeLine by decide), ?_, ?_⟩)))))))
    · rw [List.length_map]
      unfold seenR
      rw [List.length_map, List.length_range]
      exact Nat.lt_of_lt_of_le (show i + 1 < 1002 by omega) (by decide)
    · have e1 : (seenR c n0 rest (i + 1)).map eN = (seenR c n0 rest i).map eN ++ [eN (curR c n0 rest (i + 1))] := by rw [seenR_succ, List.map_append]; rfl
      refine ⟨some (.val (eX l.1)), some (.val (.int l.2)), ?_⟩
      rw [e1, curR_succ hl]
      rfl
  · rintro ρ' ⟨r5, r6, rfl⟩
    rw [List.length_map]
    exact wss_one (ws_ret (we_tuple B.bare (wa_cons (we_var 4 rfl (wa_nil hC)))))
end
end LC
/-! The walks of holds, is_ring. -/
namespace LC
open PySem L2 PySem.Spec PyProof.Rows
/-- a ring -/
structure RingOk (c : Clock) (v : List Node) : Prop where
  len2 : 2 ≤ v.length
  len : v.length ≤ 400
  big : ∀ p ∈ v, ∀ x ∈ [p.1.1, p.1.2, p.2], -1000000000000000000000000000000 ≤ x ∧ x ≤ 1000000000000000000000000000000
  step : ∀ i a b, v[i]? = some a → v[i + 1]? = some b → (b.1, a.1) ∈ leansOf c ∧ pushed c b.1 a.1 a.2 = b.2
  ends : ∃ a b, v[0]? = some a ∧ v[v.length - 1]? = some b ∧ a.1 = b.1 ∧ 0 ≤ a.2 ∧ a.2 < c.P ∧ 0 < b.2 - a.2 ∧ (b.2 - a.2) % c.P = 0
section
variable {P : Program} {w : World} {K : PySem.W.Frag} {mg : Str → Option Value} {base : Heap} {W0 : Wild}
def gHolds : Con := fun rs C => ∃ (c : Clock) (v : List Node), c.Ok ∧ RingOk c v ∧ rs = [.val c.enc, .val (.tuple (v.map eN))] ∧ C (.bool true)
theorem can_holds (B : Bd K mg) (G : Bg K mg base W0) : Can P w K mg base W0 5 "holds" 2 gHolds [] := by
  refine can_bodyG (N := ["clock", "value", "leans", "other", "number", "one", "later", "gain", "pair"]) (ps := ["clock", "value"]) G.holds ⟨rfl, rfl, rfl, by decide +kernel, rfl, by decide +kernel, by decide +kernel⟩ (fun _ _ _ _ _ _ us hl => match us, hl with | [_, _], _ => rfl) ?_
  intro f cd A outer s H E Wl rs C tb hr hW ⟨c, v, ok, rk, e, hC⟩
  subst e
  have hN : (["clock", "value", "leans", "other", "number", "one", "later", "gain", "pair"] : List Str).Nodup := by decide +kernel
  have hu := hu_of hr
  have hP := ok.p1
  obtain ⟨t1, m1⟩ := B.MOST_RING
  obtain ⟨a, b, ha, hb, e1, e2, e3, e4, e5⟩ := rk.ends
  have l2 := rk.len2
  have l4 := rk.len
  have ha' : atI (v.map eN) 0 = some (eN a) := by
    rw [atI_nn (by omega) (by rw [List.length_map]; omega), List.getElem?_map, show (0 : Int).toNat = 0 from rfl, ha]; rfl
  have hb' : atI (v.map eN) (-1) = some (eN b) := by
    have h1 : ixN (v.map eN).length (-1) = some (v.length - 1) := by
      unfold ixN
      rw [List.length_map, if_neg (by omega), if_pos (by omega)]
      congr 1
      omega
    unfold atI
    rw [h1]
    show (v.map eN)[v.length - 1]? = _
    rw [List.getElem?_map, hb]; rfl
  have hl : ((v.map eN).length : Int) = v.length := by rw [List.length_map]
  refine wss_cons (ws_ifF (wt_or (gd (wt_nt (wt_tup B.bare (we_var 1 rfl rfl))) (gd_1 (wt_nt ?_)))) (wss_nil ?_))
  · refine wt_le_le (we_int (we_len B.bare (wa_cons (we_var 1 rfl (wa_nil ⟨fun _ => we_globI m1 ?_, fun q => ?_⟩)))))
    · exact decide_eq_true (by rw [hl]; omega)
    · exact absurd (of_decide_eq_false q) (by rw [hl]; omega)
  refine wss_cons (ws_ifF (wt_nt (wt_val (we_all (own := [("pair", 8)]) (js := [8]) (k := 3) B.bare.all hr rfl hN (genOk_by (N := ["clock", "value", "leans", "other", "number", "one", "later", "gain", "pair"]) (sc := defScope s_holds) (by decide +kernel)) tb hW rfl (by decide) (wi_tup (we_var 1 rfl ?_)) rfl))) (wss_nil ?_))
  · intro d hm s' H' C' code fp B' hB
    obtain ⟨x, hx, rfl⟩ := List.mem_map.mp hm
    refine wg_name 8 ?_ hN
    exact we_call (can_is_exchange_pair B G) hB (by decide) hW (wa_cons (we_var 8 rfl (wa_nil ⟨rfl, rfl, x, rk.big x hx, rfl, rfl⟩)))
  refine wss_cons (ws_asg 2 (we_call (can_every_lean B) hr (by decide) hW (wa_cons (we_var 0 rfl (wa_nil ⟨rfl, rfl, c, ok, rfl, ?_⟩)))) hN)
  refine wss_cons (ws_for (js := [3, 4, 5, 6]) (by passes_own) rfl (wi_zipT B.bare.zip (we_var 1 rfl (we_sl10 (we_var 1 rfl (we_int ⟨fun _ ρ => ∃ r3 r4 r5 r6 r7 r8, ρ = [some (.val c.enc), some (.val (.tuple (v.map eN))), some (.val (.list ((leansOf c).map eL))), r3, r4, r5, r6, r7, r8], ⟨_, _, _, _, _, _, rfl⟩, ?_, ?_⟩))))))
  · rintro i d ρ' hd ⟨r3, r4, r5, r6, r7, r8, rfl⟩
    obtain ⟨i, x, y, h1, h2, rfl⟩ := zip_next (List.mem_of_getElem? hd)
    rw [List.getElem?_map] at h1 h2
    obtain ⟨p, hp, rfl⟩ := Option.map_eq_some_iff.mp h1
    obtain ⟨q, hq, rfl⟩ := Option.map_eq_some_iff.mp h2
    obtain ⟨s1, s2⟩ := rk.step i p q hp hq
    obtain ⟨k1, k2⟩ := leans_in ok s1
    obtain ⟨k3, k4, _⟩ := needs_in ok k1 k2
    refine wg_tup rfl (wgs_cons (js := [3, 4]) (wg_tup rfl (wgs_cons (js := [3]) (wg_name 3 (wgs_cons (js := [4]) (js' := []) (wg_name 4 (wgs_nil ?_) hN)) hN))))
    refine wgs_cons (js := [5, 6]) (js' := []) (wg_tup rfl (wgs_cons (js := [5]) (wg_name 5 (wgs_cons (js := [6]) (js' := []) (wg_name 6 (wgs_nil (wgs_nil ?_)) hN)) hN)))
    refine wss_one (ws_ifF (wt_or (gd (wt_notin hu (we_tup (wa_cons (we_var 5 rfl (wa_cons (we_var 3 rfl (wa_nil ⟨(show 2 ≤ sizeLine by decide), we_var 2 rfl ⟨?_, ?_, rfl, ?_⟩⟩))))))) (gd_1 (wt_ne hu (we_call (can_pushed B) hr (by decide) hW (wa_cons (we_var 0 rfl (wa_cons (we_var 5 rfl (wa_cons (we_var 3 rfl (wa_cons (we_var 4 rfl (wa_nil ⟨rfl, rfl, c, q.1, p.1, p.2, ok, (everyX_in k1).1, k4, rfl, we_var 6 rfl ⟨rfl, rfl, ?_⟩⟩)))))))))))))) (wss_nil ⟨_, _, _, _, _, _, rfl⟩))
    · exact enc_L.pl (q.1, p.1) _ (by decide)
    · exact (enc_lst enc_L).pl (leansOf c) _ (by decide)
    · show inB true (eL (q.1, p.1)) (.list ((leansOf c).map eL)) = false
      rw [ninB_lst enc_L]
      simp only [Bool.not_eq_eq_eq_not, Bool.not_false, decide_eq_true_eq]
      exact s1
    · show (!PyData.eqv (.int (pushed c q.1 p.1 p.2)) (.int q.2)) = false
      rw [int_eqv, decide_eq_true s2]; rfl
  · rintro ρ' ⟨r3, r4, r5, r6, r7, r8, rfl⟩
    refine wss_cons (ws_asg 7 (we_sub (we_at (j := 1) (we_ix (we_var 1 rfl (we_neg (we_int ⟨_, hb', rfl⟩)))) rfl (we_at (j := 1) (we_ix (we_var 1 rfl (we_int ⟨_, ha', rfl⟩))) rfl ?_))) hN)
    refine wss_cons (ws_ifF (wt_or (gd (wt_nt (wt_le_lt (we_int (we_at (j := 1) (we_ix (we_var 1 rfl (we_int ⟨_, ha', rfl⟩))) rfl ⟨fun _ => we_at (j := 0) (we_var 0 rfl rfl) rfl ?_, fun q => ?_⟩)))) (gd_1 (wt_ne hu (we_at (j := 0) (we_ix (we_var 1 rfl (we_int ⟨_, ha', rfl⟩))) rfl (we_at (j := 0) (we_ix (we_var 1 rfl (we_neg (we_int ⟨_, hb', rfl⟩)))) rfl ⟨rfl, rfl, ?_⟩)))))) (wss_nil ?_))
    · exact decide_eq_true e3
    · exact absurd e2 (of_decide_eq_false q)
    · show (!PyData.eqv (eX a.1) (eX b.1)) = false
      rw [enc_X.eq, decide_eq_true e1]; rfl
    refine wss_one (ws_ret (we_andY (we_gt (we_var 7 rfl (we_int ?_))) (we_one (we_eq hu (we_mod (we_var 7 rfl (we_at (j := 0) (we_var 0 rfl rfl) rfl ⟨by omega, we_int ⟨rfl, rfl, ?_⟩⟩)))))))
    · exact decide_eq_true e4
    · show C (.bool (PyData.eqv (.int ((b.2 - a.2) % c.P)) (.int 0)))
      rw [int_eqv, decide_eq_true e5]; exact hC
def gIsRing : Con := fun rs C => ∃ (c : Clock) (v : List Node), c.Ok ∧ RingOk c v ∧ rs = [.val c.enc, .val (.tuple (v.map eN))] ∧ C (.bool true)
theorem can_is_ring (B : Bd K mg) (G : Bg K mg base W0) : Can P w K mg base W0 6 "is_ring" 2 gIsRing [] := by
  refine can_body (N := ["clock", "value"]) (ps := ["clock", "value"]) B.is_ring ⟨rfl, rfl, rfl, by decide +kernel, rfl, by decide +kernel, by decide +kernel⟩ (fun _ _ _ _ _ _ us hl => match us, hl with | [_, _], _ => rfl) ?_
  intro f cdv A outer s H E Wl rs C hr hW ⟨c, v, ok, rk, e, hC⟩
  subst e
  have hN : (["clock", "value"] : List Str).Nodup := by decide +kernel
  have hu := hu_of hr
  refine wss_cons (ws_expr (we_call (can_need_clock B G) hr (by decide) hW (wa_cons (we_var 0 rfl (wa_nil ⟨rfl, rfl, c, ok, rfl, ?_⟩)))))
  exact wss_one (ws_ret (we_call (can_holds B G) hr (by decide) hW (wa_cons (we_var 0 rfl (wa_cons (we_var 1 rfl (wa_nil ⟨rfl, rfl, c, v, ok, rk, rfl, hC⟩)))))))
end
end LC
/-! Walks in the graph of pushes, layer by layer. -/
namespace LC
open PySem L2 PySem.Spec PyProof.Rows
/-- an edge: where it leads, how far it advances -/
abbrev Edge := Xg × Int × Int
structure Edges where
  L : List Node
  S : Node → List Edge
def eE (e : Edge) : D := .tuple [eX e.1, .int e.2.1, .int e.2.2]
def Edges.tb (E : Edges) : List (D × D) := tab eN E.L fun n => .list ((E.S n).map eE)
def Edges.succ (E : Edges) (n : Node) : List Edge := if n ∈ E.L then E.S n else []
def endOf (e : Edge) : Node := (e.1, e.2.1)
structure Layer where
  L : List Node
  T : Node → Int × Option Node
def eO : Option Node → D
  | none => .none
  | some n => eN n
def Layer.tb (y : Layer) : List (D × D) := tab eN y.L fun n => .tuple [.int (y.T n).1, eO (y.T n).2]
def putT (T : Node → Int × Option Node) (n : Node) (v : Int × Option Node) : Node → Int × Option Node := fun x => if x = n then v else T x
def addE (node : Node) (gain : Int) (y : Layer) (e : Edge) : Layer :=
  if endOf e ∉ y.L then ⟨y.L ++ [endOf e], putT y.T (endOf e) (gain + e.2.2, some node)⟩
  else if (y.T (endOf e)).1 < gain + e.2.2 then ⟨y.L, putT y.T (endOf e) (gain + e.2.2, some node)⟩ else y
def addN (E : Edges) (from_ : Layer) (y : Layer) (n : Node) : Layer := (E.succ n).foldl (addE n (from_.T n).1) y
def emptyL : Layer := ⟨[], fun _ => (0, none)⟩
def nextL (E : Edges) (y : Layer) : Layer := y.L.foldl (addN E y) emptyL
def lay (E : Edges) (start : Node) : Nat → Layer
  | 0 => ⟨[start], fun _ => (0, none)⟩
  | k + 1 => nextL E (lay E start k)
/-- the walk is back at its start and has gained -/
def goodL (E : Edges) (start : Node) (k : Nat) : Bool := decide (start ∈ (lay E start k).L) && decide (0 < ((lay E start k).T start).1)
/-- ends within U -/
structure EdgesOk (E : Edges) (U : List Node) : Prop where
  ends : ∀ n, ∀ e ∈ E.succ n, endOf e ∈ U
  small : U.length ≤ 1000
theorem nodup_len {α : Type} [DecidableEq α] : ∀ {l U : List α}, l.Nodup → (∀ x ∈ l, x ∈ U) → l.length ≤ U.length
  | [], _, _, _ => Nat.zero_le _
  | x :: l, U, hn, h => by
    have hx := h x List.mem_cons_self
    have hn' := List.nodup_cons.mp hn
    have := nodup_len (l := l) (U := U.erase x) hn'.2 fun y hy => by
      have hne : y ≠ x := fun z => hn'.1 (by rw [← z]; exact hy)
      exact (List.mem_erase_of_ne hne).mpr (h y (List.mem_cons_of_mem _ hy))
    rw [List.length_erase_of_mem hx] at this
    have hpos : 0 < U.length := List.length_pos_of_mem hx
    rw [List.length_cons]
    omega
/-- a layer's nodes are each once, and within U -/
structure LayOk (U : List Node) (y : Layer) : Prop where
  nd : y.L.Nodup
  sub : ∀ x ∈ y.L, x ∈ U
theorem LayOk.len {U : List Node} {y : Layer} (h : LayOk U y) (hu : U.length ≤ 1000) : y.L.length ≤ 1000 := Nat.le_trans (nodup_len h.nd h.sub) hu
theorem LayOk.empty {U : List Node} : LayOk U emptyL := ⟨List.nodup_nil, fun _ h => by cases h⟩
theorem LayOk.addE {U : List Node} {y : Layer} (h : LayOk U y) {n : Node} {g : Int} {e : Edge} (he : endOf e ∈ U) : LayOk U (addE n g y e) := by
  unfold LC.addE
  split
  · rename_i q
    refine ⟨?_, fun x hx => ?_⟩
    · show (y.L ++ [endOf e]).Nodup
      rw [List.nodup_append]
      refine ⟨h.nd, by simp, fun a ha b hb z => ?_⟩
      have : b = endOf e := by simpa using hb
      rw [this] at z
      exact q (z ▸ ha)
    · rcases List.mem_append.mp hx with hx | hx
      · exact h.sub x hx
      · have : x = endOf e := by simpa using hx
        rw [this]; exact he
  · split
    · exact ⟨h.nd, h.sub⟩
    · exact h
theorem LayOk.fold {U : List Node} {n : Node} {g : Int} : ∀ {es : List Edge} {y : Layer}, LayOk U y → (∀ e ∈ es, endOf e ∈ U) → LayOk U (es.foldl (LC.addE n g) y)
  | [], _, h, _ => h
  | e :: es, y, h, he => LayOk.fold (es := es) (y := LC.addE n g y e) (h.addE (he e List.mem_cons_self)) fun e' h' => he e' (List.mem_cons_of_mem _ h')
theorem LayOk.foldN {U : List Node} {E : Edges} (ok : EdgesOk E U) {f : Layer} : ∀ {ns : List Node} {y : Layer}, LayOk U y → LayOk U (ns.foldl (addN E f) y)
  | [], _, h => h
  | n :: ns, y, h => LayOk.foldN ok (ns := ns) (LayOk.fold h fun e he => ok.ends n e he)
theorem lay_ok {U : List Node} {E : Edges} (ok : EdgesOk E U) {s : Node} (hs : s ∈ U) (k : Nat) : LayOk U (lay E s k) := by
  cases k with
  | zero =>
    refine ⟨List.nodup_cons.mpr ⟨List.not_mem_nil, List.nodup_nil⟩, fun x hx => ?_⟩
    have e : x = s := by
      rcases List.mem_cons.mp hx with h | h
      · exact h
      · cases h
    rw [e]; exact hs
  | succ k => exact LayOk.foldN ok .empty
theorem inj_N : KeyInj eN := fun a b h => by
  have h : NestedKey.tup [.tup [.num a.1.1, .num a.1.2], .num a.2] = .tup [.tup [.num b.1.1, .num b.1.2], .num b.2] := h
  injection h with h
  injection h with h1 h2
  injection h2 with h2 h3
  injection h2 with h2
  injection h1 with h1
  injection h1 with h1 h4
  injection h4 with h4 h5
  injection h1 with h1
  injection h4 with h4
  exact Prod.ext (Prod.ext h1 h4) h2
end LC
/-! The walk of best_walks. -/
namespace LC
open PySem L2 PySem.Spec PyProof.Rows
section
variable {P : Program} {w : World} {K : PySem.W.Frag} {mg : Str → Option Value} {base : Heap} {W0 : Wild}
def laysD (E : Edges) (st0 : Node) (k : Nat) : List D := (List.range (k + 1)).map fun i => .dict (lay E st0 i).tb
theorem laysD_succ (E : Edges) (st0 : Node) (k : Nat) : laysD E st0 (k + 1) = laysD E st0 k ++ [.dict (lay E st0 (k + 1)).tb] := by
  unfold laysD
  rw [List.range_succ, List.map_append]; rfl
theorem succ_get (E : Edges) (n : Node) : (dGet E.tb (eN n)).getD (.list []) = .list ((E.succ n).map eE) := by
  unfold Edges.tb Edges.succ
  by_cases h : n ∈ E.L
  · rw [tab_get inj_N h, if_pos h]; rfl
  · rw [tab_none inj_N h, if_neg h]; rfl
theorem put_tb {y : Layer} {n : Node} {v : Int × Option Node} : (n ∈ y.L → dPut y.tb (eN n) (.tuple [.int v.1, eO v.2]) = Layer.tb ⟨y.L, putT y.T n v⟩) ∧ (n ∉ y.L → dPut y.tb (eN n) (.tuple [.int v.1, eO v.2]) = Layer.tb ⟨y.L ++ [n], putT y.T n v⟩) := by
  have key : ∀ M : List Node, tab eN M (putF (fun n => PyData.tuple [.int (y.T n).1, eO (y.T n).2]) n (.tuple [.int v.1, eO v.2])) = tab eN M fun m => .tuple [.int (putT y.T n v m).1, eO (putT y.T n v m).2] := fun M => tab_congr fun m _ => by
    unfold putF putT
    by_cases z : m = n
    · rw [if_pos z, if_pos z]
    · rw [if_neg z, if_neg z]
  refine ⟨fun h => ?_, fun h => ?_⟩
  · unfold Layer.tb
    rw [tab_put inj_N _ h, key]
  · unfold Layer.tb
    rw [tab_new inj_N _ h, key]
theorem atI_last {α : Type} (l : List α) (x : α) : atI (l ++ [x]) (-1) = some x := by
  have h1 : ixN (l ++ [x]).length (-1) = some l.length := by
    unfold ixN
    rw [List.length_append, List.length_singleton, if_neg (by omega), if_pos (by omega)]
    congr 1
    omega
  unfold atI
  rw [h1]
  show (l ++ [x])[l.length]? = _
  rw [List.getElem?_append_right (Nat.le_refl _), Nat.sub_self]; rfl
theorem laysD_last (E : Edges) (s : Node) (i : Nat) : atI (laysD E s i) (-1) = some (.dict (lay E s i).tb) := by
  unfold laysD
  rw [List.range_succ, List.map_append]
  exact atI_last _ _
theorem items_tb (y : Layer) : itemsD y.tb = y.L.map fun n => .tuple [eN n, .tuple [.int (y.T n).1, eO (y.T n).2]] := by
  unfold itemsD Layer.tb tab
  rw [List.map_map]; rfl
theorem tb_is {y : Layer} {n : Node} : (dGet y.tb (eN n)).isSome = decide (n ∈ y.L) := by
  unfold Layer.tb
  by_cases h : n ∈ y.L
  · rw [tab_get inj_N h, decide_eq_true h]; rfl
  · rw [tab_none inj_N h, decide_eq_false h]; rfl
theorem tb_get {y : Layer} {n : Node} (h : n ∈ y.L) : dGet y.tb (eN n) = some (.tuple [.int (y.T n).1, eO (y.T n).2]) := tab_get inj_N h
def gWalks : Con := fun rs C => ∃ (E : Edges) (U : List Node) (st0 : Node) (most : Nat), EdgesOk E U ∧ st0 ∈ U ∧ most ≤ 1000 ∧ rs = [.val (.dict E.tb), .val (eN st0), .val (.int most)] ∧
  (∀ k, 1 ≤ k → k ≤ most → goodL E st0 k = true → (∀ j, 1 ≤ j → j < k → goodL E st0 j = false) → C (.list (laysD E st0 k))) ∧ ((∀ j, 1 ≤ j → j ≤ most → goodL E st0 j = false) → C .none)
theorem can_best_walks (B : Bd K mg) : Can P w K mg base W0 1 "best_walks" 3 gWalks [] := by
  refine can_body (N := ["edges", "start", "most", "found", "_", "later", "node", "gain", "exchange", "phase", "advance", "end"]) (ps := ["edges", "start", "most"]) B.best_walks ⟨rfl, rfl, rfl, by decide +kernel, rfl, by decide +kernel, by decide +kernel⟩ (fun _ _ _ _ _ _ us hl => match us, hl with | [_, _, _], _ => rfl) ?_
  intro f cdv A outer s H E Wl rs C hr hW ⟨E, U, st0, most, ok, hs, hm, e, hY, hX⟩
  subst e
  have hN : (["edges", "start", "most", "found", "_", "later", "node", "gain", "exchange", "phase", "advance", "end"] : List Str).Nodup := by decide +kernel
  have hu := hu_of hr
  have hlk := fun k => lay_ok ok hs k
  refine wss_cons (ws_own 3 (wn_lst (wa_cons (WN.we (wn_d1 hu (we_var 1 rfl ⟨rfl, we_tup (wa_cons (we_int (wa_cons (we_none (wa_nil ⟨(show 2 ≤ sizeLine by decide), wa_nil ⟨(show 1 ≤ sizeLine by decide), ?_⟩⟩)))))⟩))))) hN)
  refine wss_cons (ws_for (js := [4]) (by passes_own) rfl (wi_range1 B.bare.range (we_var 2 rfl ⟨by omega, by omega, fun i ρ => ∃ r4 r5 r6 r7 r8 r9 r10 r11, ρ = [some (.val (.dict E.tb)), some (.val (eN st0)), some (.val (.int most)), some (.own (.list (laysD E st0 i))), r4, r5, r6, r7, r8, r9, r10, r11] ∧ ∀ j, 1 ≤ j → j ≤ i → goodL E st0 j = false, ⟨_, _, _, _, _, _, _, _, rfl, fun j h1 h2 => absurd h1 (by omega)⟩, ?_, ?_⟩)))
  · rintro i d ρ' hd ⟨r4, r5, r6, r7, r8, r9, r10, r11, rfl, hno⟩
    rw [rangeD_nat] at hd
    obtain ⟨hi, rfl⟩ := range_at hd
    refine wg_name 4 ?_ hN
    refine wss_cons (ws_own 5 (wn_d0 ?_) hN)
    have hlast : atI (laysD E st0 i) (-1) = some (.dict (lay E st0 i).tb)  := laysD_last E st0 i
    generalize hy : lay E st0 i = y at hlast
    have yk : LayOk U y := by rw [← hy]; exact hlk i
    refine wss_cons (ws_for (js := [6, 7, 4]) (by passes_own) rfl (wi_items (we_ix (we_var 3 rfl (we_neg (we_int ⟨_, hlast, _, rfl, fun k ρ => ∃ r4 r6 r7 r8 r9 r10 r11, ρ = [some (.val (.dict E.tb)), some (.val (eN st0)), some (.val (.int most)), some (.own (.list (laysD E st0 i))), r4, some (.own (.dict (Layer.tb ((y.L.take k).foldl (addN E y) emptyL)))), r6, r7, r8, r9, r10, r11], ⟨_, _, _, _, _, _, _, rfl⟩, ?_, ?_⟩))))))
    · rintro k d ρ' hd ⟨r4, r6, r7, r8, r9, r10, r11, rfl⟩
      rw [items_tb, List.getElem?_map] at hd
      obtain ⟨n, hn, rfl⟩ := Option.map_eq_some_iff.mp hd
      have ak : LayOk U ((y.L.take k).foldl (addN E y) emptyL) := LayOk.foldN ok .empty
      have astep : (y.L.take (k + 1)).foldl (addN E y) emptyL = (E.succ n).foldl (addE n (y.T n).1) ((y.L.take k).foldl (addN E y) emptyL) := by
        have e1 : y.L.take (k + 1) = y.L.take k ++ [n] := by rw [List.take_succ, hn]; rfl
        rw [e1, List.foldl_append]; rfl
      generalize (y.L.take k).foldl (addN E y) emptyL = acc at ak astep ⊢
      generalize (y.T n).1 = gn at astep ⊢
      refine wg_tup rfl (wgs_cons (js := [6]) (wg_name 6 (wgs_cons (js := [7, 4]) (js' := []) (wg_tup rfl (wgs_cons (js := [7]) (wg_name 7 (wgs_cons (js := [4]) (js' := []) (wg_name 4 (wgs_nil (wgs_nil ?_)) hN)) hN))) ) hN))
      refine wss_one (ws_for (js := [8, 9, 10]) (by passes_own) rfl (WI.mono (Q := fun ds => ds = (E.succ n).map eE) (wi_list (we_dGet hu (we_var 0 rfl ⟨⟨_, rfl⟩, we_var 6 rfl (we_lst (wa_nil ⟨Nat.zero_le _, _, _, _, rfl, rfl, rfl, rfl, ?_⟩))⟩))) fun ds hds => ?_))
      · rw [succ_get]; exact rfl
      subst hds
      refine ⟨fun j ρ => ∃ r4 r8 r9 r10 r11, ρ = [some (.val (.dict E.tb)), some (.val (eN st0)), some (.val (.int most)), some (.own (.list (laysD E st0 i))), r4, some (.own (.dict (Layer.tb (((E.succ n).take j).foldl (addE n gn) acc)))), some (.val (eN n)), some (.val (.int gn)), r8, r9, r10, r11], ⟨_, _, _, _, _, rfl⟩, ?_, ?_⟩
      · rintro j d ρ' hd ⟨r4, r8, r9, r10, r11, rfl⟩
        rw [List.getElem?_map] at hd
        obtain ⟨e, he, rfl⟩ := Option.map_eq_some_iff.mp hd
        have zk : LayOk U (((E.succ n).take j).foldl (addE n gn) acc) := LayOk.fold ak fun e he => ok.ends n e (List.mem_of_mem_take he)
        have zstep : ((E.succ n).take (j + 1)).foldl (addE n gn) acc = addE n gn (((E.succ n).take j).foldl (addE n gn) acc) e := by
          have e1 : (E.succ n).take (j + 1) = (E.succ n).take j ++ [e] := by rw [List.take_succ, he]; rfl
          rw [e1, List.foldl_append]; rfl
        generalize ((E.succ n).take j).foldl (addE n gn) acc = z at zk zstep ⊢
        have zl : z.tb.length < sizeLine := by
          unfold Layer.tb
          rw [tab_len]
          exact Nat.lt_of_le_of_lt (zk.len ok.small) (by decide)
        refine wg_tup rfl (wgs_cons (js := [8]) (js' := [9, 10]) (wg_name 8 (wgs_cons (js := [9]) (js' := [10]) (wg_name 9 (wgs_cons (js := [10]) (js' := []) (wg_name 10 (wgs_nil ?_) hN)) hN)) hN))
        refine wss_cons (ws_asg 11 (we_tup (wa_cons (we_var 8 rfl (wa_cons (we_var 9 rfl (wa_nil ⟨(show 2 ≤ sizeLine by decide), ?_⟩)))))) hN)
        refine wss_one (ws_if (wt_or (ww_or (wt_dNotIn hu (we_var 11 rfl (we_var 5 rfl ⟨z.tb, eN (endOf e), rfl, rfl, rfl, ?_⟩))))))
        show ((!(dGet z.tb (eN (endOf e))).isSome) = false → _) ∧ ((!(dGet z.tb (eN (endOf e))).isSome) = true → _)
        rw [tb_is]
        by_cases hm : endOf e ∈ z.L
        · refine ⟨fun _ => ww_or1 (wt_gt (we_add (we_var 7 rfl (we_var 10 rfl (we_at (j := 0) (we_dIx hu (we_var 5 rfl (we_var 11 rfl ⟨_, _, _, rfl, rfl, rfl, tb_get hm, rfl⟩))) rfl ⟨fun q => ?_, fun q => ?_⟩))))), fun q => absurd q (by simp [hm])⟩
          · have q : (z.T (endOf e)).1 < gn + e.2.2 := of_decide_eq_true q
            have hp : dPut z.tb (eN (endOf e)) (.tuple [.int (gn + e.2.2), eN n]) = (addE n gn z e).tb := by
              unfold addE
              rw [if_neg fun h => h hm, if_pos q]
              exact (put_tb (v := (gn + e.2.2, some n))).1 hm
            refine wss_one (ws_dPut 5 hu rfl (we_tup (wa_cons (we_add (we_var 7 rfl (we_var 10 rfl (wa_cons (we_var 6 rfl (wa_nil ⟨(show 2 ≤ sizeLine by decide), we_var 11 rfl ⟨rfl, zl, r4, some (.val (eX e.1)), some (.val (.int e.2.1)), some (.val (.int e.2.2)), some (.val (eN (endOf e))), ?_⟩⟩)))))))))
            rw [zstep, ← hp]
            rfl
          · have q : ¬ (z.T (endOf e)).1 < gn + e.2.2 := of_decide_eq_false q
            have hp : addE n gn z e = z := by
              unfold addE
              rw [if_neg fun h => h hm, if_neg q]
            refine wss_nil ⟨r4, some (.val (eX e.1)), some (.val (.int e.2.1)), some (.val (.int e.2.2)), some (.val (eN (endOf e))), ?_⟩
            rw [zstep, hp]
            rfl
        · refine ⟨fun q => absurd q (by simp [hm]), fun _ => ⟨fun _ => ?_, fun q => Bool.noConfusion q⟩⟩
          have hp : dPut z.tb (eN (endOf e)) (.tuple [.int (gn + e.2.2), eN n]) = (addE n gn z e).tb := by
            unfold addE
            rw [if_pos hm]
            exact (put_tb (v := (gn + e.2.2, some n))).2 hm
          refine wss_one (ws_dPut 5 hu rfl (we_tup (wa_cons (we_add (we_var 7 rfl (we_var 10 rfl (wa_cons (we_var 6 rfl (wa_nil ⟨(show 2 ≤ sizeLine by decide), we_var 11 rfl ⟨rfl, zl, r4, some (.val (eX e.1)), some (.val (.int e.2.1)), some (.val (.int e.2.2)), some (.val (eN (endOf e))), ?_⟩⟩)))))))))
          rw [zstep, ← hp]
          rfl
      · rintro ρ' ⟨r4, r8, r9, r10, r11, rfl⟩
        refine ⟨r4, some (.val (eN n)), some (.val (.int gn)), r8, r9, r10, r11, ?_⟩
        rw [astep, List.length_map, List.take_length]
    · rintro ρ' ⟨r4, r6, r7, r8, r9, r10, r11, rfl⟩
      have e1 : (y.L.take (itemsD y.tb).length).foldl (addN E y) emptyL = lay E st0 (i + 1) := by rw [items_tb, List.length_map, List.take_length, ← hy]; rfl
      rw [e1]
      have stay : goodL E st0 (i + 1) = false → ∀ j, 1 ≤ j → j ≤ i + 1 → goodL E st0 j = false := fun h j h1 h2 => by
        rcases Nat.lt_or_ge i j with z | z
        · have : j = i + 1 := by omega
          rw [this]; exact h
        · exact hno j h1 z
      refine wss_freezeD 5 rfl (wss_cons (ws_app 3 rfl (we_var 5 rfl ⟨?_, ?_⟩)))
      · unfold laysD
        rw [List.length_map, List.length_range]
        exact Nat.lt_of_lt_of_le (show i + 1 < 1002 by omega) (by decide)
      have e2 : laysD E st0 i ++ [.dict (lay E st0 (i + 1)).tb] = laysD E st0 (i + 1) := (laysD_succ E st0 i).symm
      show WSs _ _ (List.set _ 3 (some (.own (.list (laysD E st0 i ++ [.dict (lay E st0 (i + 1)).tb]))))) _ _
      rw [e2]
      refine wss_one (ws_if (wt_and (ww_and (wt_dIn hu (we_var 1 rfl (we_var 5 rfl ⟨(lay E st0 (i + 1)).tb, eN st0, rfl, rfl, rfl, ?_⟩))))))
      show ((dGet (lay E st0 (i + 1)).tb (eN st0)).isSome = true → _) ∧ ((dGet (lay E st0 (i + 1)).tb (eN st0)).isSome = false → _)
      rw [tb_is]
      by_cases hm : st0 ∈ (lay E st0 (i + 1)).L
      · refine ⟨fun _ => ww_and1 (wt_gt (we_at (j := 0) (we_dIx hu (we_var 5 rfl (we_var 1 rfl ⟨_, _, _, rfl, rfl, rfl, tb_get hm, rfl⟩))) rfl (we_int ⟨fun q => ?_, fun q => ?_⟩))), fun q => absurd q (by simp [hm])⟩
        · have q : 0 < ((lay E st0 (i + 1)).T st0).1 := of_decide_eq_true q
          have hg : goodL E st0 (i + 1) = true := by unfold goodL; rw [Bool.and_eq_true]; exact ⟨decide_eq_true hm, decide_eq_true q⟩
          exact wss_freezeL 3 rfl (wss_one (ws_ret (we_var 3 rfl (hY (i + 1) (by omega) (by omega) hg fun j h1 h2 => hno j h1 (by omega)))))
        · have q : ¬ 0 < ((lay E st0 (i + 1)).T st0).1 := of_decide_eq_false q
          have hg : goodL E st0 (i + 1) = false := by unfold goodL; rw [decide_eq_false q, Bool.and_false]
          exact wss_nil ⟨_, _, _, _, _, _, _, _, rfl, stay hg⟩
      · refine ⟨fun q => absurd q (by simp [hm]), fun _ => ⟨fun q => Bool.noConfusion q, fun _ => ?_⟩⟩
        have hg : goodL E st0 (i + 1) = false := by
          unfold goodL
          rw [show decide (st0 ∈ (lay E st0 (i + 1)).L) = false from decide_eq_false hm, Bool.false_and]
        exact wss_nil ⟨_, _, _, _, _, _, _, _, rfl, stay hg⟩
  · rintro ρ' ⟨r4, r5, r6, r7, r8, r9, r10, r11, rfl, hno⟩
    refine wss_one (ws_ret (we_none (hX fun j h1 h2 => hno j h1 ?_)))
    rw [rangeD_nat, List.length_map, List.length_range]; exact h2
end
end LC
/-! xs[:0:-1], xs[::-1]. -/
namespace LC
open PySem L2 PySem.Spec PyProof.Rows
theorem rev0_bounds (n : Nat) (hn : 0 < n) : sliceBounds none (some 0) (some (-1)) n = ((n : Int) - 1, 0, -1) := by
  unfold sliceBounds
  simp
  omega
theorem rev0_range (n : Nat) (hn : 0 < n) : sliceRange ((n : Int) - 1) 0 (-1) = ((List.range (n - 1)).map fun k => k + 1).reverse := by
  unfold sliceRange
  have h1 : ¬ ((-1 : Int) > 0) := by decide
  have e : ((if (-1 : Int) > 0 then (if (n : Int) - 1 < 0 then (0 - ((n : Int) - 1) + -1 - 1) / -1 else 0) else (if (n : Int) - 1 > 0 then ((n : Int) - 1 - 0 - -1 - 1) / (- -1) else 0)) : Int) = ((n - 1 : Nat) : Int) := by
    rw [if_neg h1]
    by_cases h : (n : Int) - 1 > 0
    · rw [if_pos h, show (- -1 : Int) = 1 by decide, Int.ediv_one]; omega
    · rw [if_neg h]; omega
  show (List.range (Int.toNat (if (-1 : Int) > 0 then (if (n : Int) - 1 < 0 then (0 - ((n : Int) - 1) + -1 - 1) / -1 else 0) else (if (n : Int) - 1 > 0 then ((n : Int) - 1 - 0 - -1 - 1) / (- -1) else 0)))).map _ = _
  rw [e, Int.toNat_natCast]
  apply List.ext_getElem
  · simp
  · intro i h1 h2
    rw [List.getElem_map, List.getElem_reverse, List.getElem_map, List.getElem_range, List.getElem_range]
    simp only [List.length_map, List.length_range] at h1 h2 ⊢
    omega
theorem rev0_pick (items : Array Value) (hn : 0 < items.size) : slicePick items none (some 0) (some (-1)) = (items.toList.drop 1).reverse.toArray := by
  unfold slicePick
  rw [rev0_bounds _ hn]
  show ((sliceRange ((items.size : Int) - 1) 0 (-1)).filterMap (items[·]?)).toArray = _
  rw [rev0_range _ hn, List.filterMap_reverse]
  congr 2
  have h := pick_run items 1 (items.size - 1)
  have e2 : (items.toList.drop 1).take (items.size - 1) = items.toList.drop 1 := List.take_of_length_le (by simp)
  rw [e2] at h
  rw [← h]
  congr 1
  refine List.map_congr_left fun k _ => ?_
  omega
section
variable {X : Cx} {Wl : Wild} {ρ : Env'} {e : Expr} {Q : R → Prop}
def tRev0 (K : PySem.W.Frag) (te : TE) : TE := fun σ H Q => te σ H fun x H1 => ∃ a xs, x = .ref a ∧ 0 < xs.length ∧ SqL K H1 a xs ∧ ∀ p, H1 p = none → Q (.ref p) (upd H1 p (.lst (xs.drop 1).reverse))
theorem pe_rev0 {te : TE} {k k0 : Nat} {p0 p1 p2 p3 pos : Pos} (he : PE X e te) : PE X (.Subscript e (.Slice none (some (.Constant (.int 0) k0 p0)) (some (.UnaryOp .USub (.Constant (.int 1) k p1) p2)) p3) pos) (tRev0 X.K te) := by
  refine ⟨fun pins s σ H Q I h => ?_⟩
  refine Subscript_ (thn (he.run pins s σ H _ I h) fun v s1 ⟨x, H1, I1, r1, q1⟩ => ?_)
  obtain ⟨a, xs, ex, h0, hx, q⟩ := q1
  subst ex
  cases r1
  have hst : PO X (some (.UnaryOp .USub (.Constant (.int 1) k p1) p2)) (tPart (tUn (rU fun i => .int (-i)) (tC (.int 1)))) := po_some (pe_un un_neg pe_int)
  have hup : PO X (some (.Constant (.int 0) k0 p0)) (tPart (tC (.int 0))) := po_some pe_int
  refine wpAny_Slice (thn (po_none.run pins s1 σ H1 (fun o H2 => o = none ∧ H2 = H1) I1 ⟨rfl, rfl⟩) fun vl s2 ⟨l, H2, I2, pl, el, e2⟩ => ?_)
  subst el e2
  refine thn (hup.run pins s2 σ H2 (fun o H3 => o = some 0 ∧ H3 = H2) I2 ⟨0, rfl, rfl, rfl⟩) fun vu s3 ⟨u, H3, I3, pu, eu, e3⟩ => ?_
  subst eu e3
  refine thn (hst.run pins s3 σ H3 (fun o H4 => o = some (-1) ∧ H4 = H3) I3 ⟨1, rfl, -1, rfl, rfl, rfl⟩) fun vs s4 ⟨o, H4, I4, ps, eo, e4⟩ => ?_
  subst eo e4
  have I5 : Inv X pins σ H4 { s4 with heap := s4.heap.push { cls := .type "slice", data := .fields #[vl, vu, vs] } } := I4.kept (t' := s4.toks) fun b ob q => Heap.get?_push_of_some _ q
  obtain ⟨its, r, ht, hz⟩ := I5.list hx
  have hlen := r.length
  show wpAny (model X.prog X.w) X.A (subscriptTail e (.Slice none (some (.Constant (.int 0) k0 p0)) (some (.UnaryOp .USub (.Constant (.int 1) k p1) p2)) p3) (.ref a) (.ref s4.heap.objs.size)) (EP X pins σ Q) X.xe { s4 with heap := s4.heap.push { cls := .type "slice", data := .fields #[vl, vu, vs] } }
  refine tail_any (ops := [.ref a, .ref s4.heap.objs.size]) ht.isList.typeIs (PySem.slot_list_getitem.lookup) ?_ (by with_unfolding_all rfl)
  refine wpAny_getItem_list_slice ht.isList (Heap.IsSliceOf.new _ vl vu vs) pl pu ps (by decide) ?_ (by rw [List.size_toArray]; omega)
  rw [rev0_pick _ (by rw [List.size_toArray]; omega)]
  refine ⟨.ref _, _, I5.laid (t' := s4.toks) (o := .lst (xs.drop 1).reverse) (fun b ob q => Heap.get?_push_of_some _ q) (Nat.le_refl _) ?_, rfl, q _ (I5.hok.fresh (Nat.le_refl _))⟩
  exact ⟨by rw [List.length_reverse, List.length_drop]; omega, _, 0, (r.drop 1).reverse, Heap.get?_push_size _ rfl⟩
/-- xs[:0:-1] -/
theorem we_rev0 {k k0 : Nat} {p0 p1 p2 p3 pos : Pos} (h : WE X Wl ρ e fun r => ∃ ds, listOfR r = some ds ∧ 0 < ds.length ∧ Q (.val (.list (ds.drop 1).reverse))) : WE X Wl ρ (.Subscript e (.Slice none (some (.Constant (.int 0) k0 p0)) (some (.UnaryOp .USub (.Constant (.int 1) k p1) p2)) p3) pos) Q := fun F H σ C ha hs hc =>
  (pe_rev0 (pe_sem (e := e))).sem (h F H σ _ ha hs fun r v F1 H1 ⟨ds, hl, h0, q⟩ g rr => by
    obtain ⟨p, xs, rfl, hp, ra⟩ := seq_of g.at_ hl rr
    refine ⟨p, xs, rfl, by rw [← ra.length]; exact h0, SqL.of hp, fun z hz => ?_⟩
    have g2 := Gr.new (o := .lst (xs.drop 1).reverse) g.at_ hz
    exact hc _ _ _ _ q (g.trans g2) (.list upd_same (((ra.drop 1).reverse).mono g2.ff)))
/-- xs[::-1] -/
theorem we_rev {k : Nat} {p1 p2 p3 pos : Pos} (h : WE X Wl ρ e fun r => ∃ ds, listOfR r = some ds ∧ Q (.val (.list ds.reverse))) : WE X Wl ρ (.Subscript e (.Slice none none (some (.UnaryOp .USub (.Constant (.int 1) k p1) p2)) p3) pos) Q := fun F H σ C ha hs hc =>
  (pe_revL (pe_sem (e := e))).sem (h F H σ _ ha hs fun r v F1 H1 ⟨ds, hl, q⟩ g rr => by
    obtain ⟨p, xs, rfl, hp, ra⟩ := seq_of g.at_ hl rr
    refine ⟨p, xs, rfl, SqL.of hp, fun z hz => ?_⟩
    have g2 := Gr.new (o := .lst xs.reverse) g.at_ hz
    exact hc _ _ _ _ q (g.trans g2) (.list upd_same ((ra.reverse).mono g2.ff)))
end
end LC
/-! The walk of walk_of. -/
namespace LC
open PySem L2 PySem.Spec PyProof.Rows
/-- each node of a later layer has one that it came from -/
def PrevOk (E : Edges) (f y : Layer) : Prop := ∀ x ∈ y.L, ∃ g p e, y.T x = (g, some p) ∧ p ∈ f.L ∧ e ∈ E.succ p ∧ endOf e = x ∧ g = (f.T p).1 + e.2.2
theorem PrevOk.addE {E : Edges} {f y : Layer} (h : PrevOk E f y) {n : Node} (hn : n ∈ f.L) {e : Edge} (he : e ∈ E.succ n) : PrevOk E f (addE n (f.T n).1 y e) := by
  have key : ∀ L : List Node, (∀ x ∈ L, x = endOf e ∨ x ∈ y.L) → PrevOk E f ⟨L, putT y.T (endOf e) ((f.T n).1 + e.2.2, some n)⟩ := fun L hL x hx => by
    show ∃ g p e', putT y.T (endOf e) ((f.T n).1 + e.2.2, some n) x = (g, some p) ∧ _
    unfold putT
    by_cases z : x = endOf e
    · rw [if_pos z]; exact ⟨_, n, e, rfl, hn, he, z.symm, rfl⟩
    · rw [if_neg z]
      exact h x ((hL x hx).resolve_left z)
  unfold LC.addE
  split
  · exact key _ fun x hx => (List.mem_append.mp hx).elim .inr fun h => .inl (by simpa using h)
  · split
    · exact key _ fun x hx => .inr hx
    · exact h
theorem PrevOk.fold {E : Edges} {f : Layer} {n : Node} (hn : n ∈ f.L) : ∀ {es : List Edge} {y : Layer}, PrevOk E f y → (∀ e ∈ es, e ∈ E.succ n) → PrevOk E f (es.foldl (LC.addE n (f.T n).1) y)
  | [], _, h, _ => h
  | e :: es, y, h, he => PrevOk.fold hn (es := es) (y := LC.addE n (f.T n).1 y e) (h.addE hn (he e List.mem_cons_self)) fun e' h' => he e' (List.mem_cons_of_mem _ h')
theorem PrevOk.foldN {E : Edges} {f : Layer} : ∀ {ns : List Node} {y : Layer}, PrevOk E f y → (∀ n ∈ ns, n ∈ f.L) → PrevOk E f (ns.foldl (addN E f) y)
  | [], _, h, _ => h
  | n :: ns, y, h, hn => PrevOk.foldN (ns := ns) (PrevOk.fold (hn n List.mem_cons_self) h fun _ h => h) fun m hm => hn m (List.mem_cons_of_mem _ hm)
theorem lay_prev (E : Edges) (s : Node) (k : Nat) : PrevOk E (lay E s k) (lay E s (k + 1)) := PrevOk.foldN (fun _ h => by cases h) fun _ h => h
/-- from a node of layer k back to the start -/
def back (E : Edges) (s : Node) : Nat → Node → List Node
  | 0, x => [x]
  | k + 1, x => x :: back E s k (((lay E s (k + 1)).T x).2.getD x)
/-- the node that is i steps back -/
def bk (E : Edges) (s : Node) (k : Nat) : Nat → Node
  | 0 => s
  | i + 1 => ((lay E s (k - i)).T (bk E s k i)).2.getD s
theorem bk_in {E : Edges} {s : Node} {k : Nat} (h : s ∈ (lay E s k).L) : ∀ i, i ≤ k → bk E s k i ∈ (lay E s (k - i)).L
  | 0, _ => h
  | i + 1, hi => by
    have ih := bk_in h i (by omega)
    have e : k - i = (k - (i + 1)) + 1 := by omega
    obtain ⟨g, p, ed, h1, h2, _⟩ := lay_prev E s (k - (i + 1)) (bk E s k i) (by rw [← e]; exact ih)
    show ((lay E s (k - i)).T (bk E s k i)).2.getD s ∈ _
    rw [e, h1]
    exact h2
theorem bk_some {E : Edges} {s : Node} {k i : Nat} (h : s ∈ (lay E s k).L) (hi : i < k) : eO ((lay E s (k - i)).T (bk E s k i)).2 = eN (bk E s k (i + 1)) := by
  have ih := bk_in h i (by omega)
  have e : k - i = (k - (i + 1)) + 1 := by omega
  obtain ⟨g, p, ed, h1, h2, _⟩ := lay_prev E s (k - (i + 1)) (bk E s k i) (by rw [← e]; exact ih)
  show _ = eN (((lay E s (k - i)).T (bk E s k i)).2.getD s)
  rw [e, h1]; rfl
theorem rev_at {E : Edges} {s : Node} {k i : Nat} {d : D} (h : (((laysD E s k).drop 1).reverse)[i]? = some d) : i < k ∧ d = .dict (lay E s (k - i)).tb := by
  have hl : ((laysD E s k).drop 1).length = k := by unfold laysD; simp
  obtain ⟨hi, e⟩ := List.getElem?_eq_some_iff.mp h
  rw [List.length_reverse, hl] at hi
  refine ⟨hi, ?_⟩
  rw [List.getElem_reverse, List.getElem_drop] at e
  subst e
  unfold laysD
  rw [List.getElem_map, List.getElem_range]
  have : 1 + ((List.drop 1 (List.map (fun i => PyData.dict (lay E s i).tb) (List.range (k + 1)))).length - 1 - i) = k - i := by
    have hl2 : (List.drop 1 (List.map (fun i => PyData.dict (lay E s i).tb) (List.range (k + 1)))).length = k := by simp
    rw [hl2]; omega
  rw [this]
def walkL (E : Edges) (s : Node) (k : Nat) : List Node := ((List.range (k + 1)).map (bk E s k)).reverse
section
variable {P : Program} {w : World} {K : PySem.W.Frag} {mg : Str → Option Value} {base : Heap} {W0 : Wild}
def gWalkOf : Con := fun rs C => ∃ (E : Edges) (s : Node) (k : Nat), s ∈ (lay E s k).L ∧ k ≤ 1000 ∧ rs = [.val (.list (laysD E s k)), .val (eN s)] ∧ C (.list ((walkL E s k).map eN))
theorem can_walk_of (B : Bd K mg) : Can P w K mg base W0 1 "walk_of" 2 gWalkOf [] := by
  refine can_body (N := ["walks", "start", "node", "found", "layer"]) (ps := ["walks", "start"]) B.walk_of ⟨rfl, rfl, rfl, by decide +kernel, rfl, by decide +kernel, by decide +kernel⟩ (fun _ _ _ _ _ _ us hl => match us, hl with | [_, _], _ => rfl) ?_
  intro f cdv A outer s H E Wl rs C hr hW ⟨E, st0, k, hs, hk, e, hC⟩
  subst e
  have hN : (["walks", "start", "node", "found", "layer"] : List Str).Nodup := by decide +kernel
  have hu := hu_of hr
  refine wss_cons (ws_parN 2 3 (we_var 1 rfl (wn_lst (wa_cons (we_var 1 rfl (wa_nil ⟨(show 1 ≤ sizeLine by decide), ?_⟩))))) rfl hN)
  have hl : (laysD E st0 k).length = k + 1 := by unfold laysD; simp
  refine wss_cons (ws_for (js := [4]) (by passes_own) rfl (WI.mono (Q := fun ds => ds = ((laysD E st0 k).drop 1).reverse) (wi_list (we_rev0 (we_var 0 rfl ⟨_, rfl, by rw [hl]; omega, rfl⟩))) fun ds hds => ?_))
  subst hds
  refine ⟨fun i ρ => ∃ r4, ρ = [some (.val (.list (laysD E st0 k))), some (.val (eN st0)), some (.val (eN (bk E st0 k i))), some (.own (.list (((List.range (i + 1)).map (bk E st0 k)).map eN))), r4], ⟨_, rfl⟩, ?_, ?_⟩
  · rintro i d ρ' hd ⟨r4, rfl⟩
    obtain ⟨hi, rfl⟩ := rev_at hd
    refine wg_name 4 ?_ hN
    refine wss_cons (ws_asg 2 (we_at (j := 1) (we_dIx hu (we_var 4 rfl (we_var 2 rfl ⟨_, _, _, rfl, rfl, rfl, tb_get (bk_in hs i (by omega)), rfl⟩))) rfl ?_) hN)
    rw [bk_some hs hi]
    refine wss_one (ws_app 3 rfl (we_var 2 rfl ⟨?_, some (.val (.dict (lay E st0 (k - i)).tb)), ?_⟩))
    · rw [List.length_map, List.length_map, List.length_range]
      exact Nat.lt_of_lt_of_le (show i + 1 < 1002 by omega) (by decide)
    · have e2 : ((List.range (i + 1 + 1)).map (bk E st0 k)).map eN = ((List.range (i + 1)).map (bk E st0 k)).map eN ++ [eN (bk E st0 k (i + 1))] := by rw [List.range_succ, List.map_append, List.map_append]; rfl
      rw [e2]; rfl
  · rintro ρ' ⟨r4, rfl⟩
    have hl2 : (((laysD E st0 k).drop 1).reverse).length = k := by rw [List.length_reverse, List.length_drop, hl]; omega
    rw [hl2]
    refine wss_one (ws_ret (we_rev (we_var 3 rfl ⟨_, rfl, ?_⟩)))
    unfold walkL at hC
    rw [List.map_reverse] at hC
    exact hC
end
end LC
/-! The walk of shortest_ring. -/
namespace LC
open PySem L2 PySem.Spec PyProof.Rows
/-- the graph of pushes -/
structure EdgesIs (c : Clock) (E : Edges) : Prop where
  nd : E.L.Nodup
  small : E.L.length ≤ 300
  some : ∀ n ∈ E.L, E.S n ≠ []
  succ : ∀ n e, e ∈ E.succ n ↔ (e.1, n.1) ∈ leansOf c ∧ 0 ≤ n.2 ∧ n.2 < c.P ∧ e.2.1 = pushed c e.1 n.1 n.2 % c.P ∧ e.2.2 = pushed c e.1 n.1 n.2 - n.2
def nodesOf (c : Clock) : List Node := (everyX c).flatMap fun e => (iRange 0 c.P).map fun p => (e, p)
theorem nodes_mem {c : Clock} {n : Node} (h : n.1 ∈ everyX c) (h0 : 0 ≤ n.2) (h1 : n.2 < c.P) : n ∈ nodesOf c := by
  unfold nodesOf
  exact List.mem_flatMap.mpr ⟨n.1, h, List.mem_map.mpr ⟨n.2, iRange_mem.mpr ⟨h0, h1⟩, rfl⟩⟩
theorem EdgesIs.ok {c : Clock} {E : Edges} (ok : c.Ok) (h : EdgesIs c E) : EdgesOk E (nodesOf c) := by
  refine ⟨fun n e he => ?_, ?_⟩
  · obtain ⟨a1, a2, a3, a4, a5⟩ := (h.succ n e).mp he
    have hP : 0 < c.P := by have := ok.p1; omega
    refine nodes_mem (leans_in ok a1).1 ?_ ?_
    · show 0 ≤ e.2.1
      rw [a4]; exact Int.emod_nonneg _ (by omega)
    · show e.2.1 < c.P
      rw [a4]; exact Int.emod_lt_of_pos _ hP
  · unfold nodesOf
    have h1 := flat_len2 (m := 12) (l := everyX c) (f := fun e => (iRange 0 c.P).map fun p => (e, p)) fun e _ => by
      unfold iRange
      rw [List.length_map, List.length_map, List.length_range]
      have := ok.p2
      omega
    have h2 := everyX_len ok
    omega
theorem chain_bk {c : Clock} {E : Edges} (h : EdgesIs c E) {s : Node} {k i : Nat} (hs : s ∈ (lay E s k).L) (hi : i < k) : ((bk E s k i).1, (bk E s k (i + 1)).1) ∈ leansOf c := by
  have ih := bk_in hs i (by omega)
  have e : k - i = (k - (i + 1)) + 1 := by omega
  obtain ⟨g, p, ed, h1, h2, h3, h4, h5⟩ := lay_prev E s (k - (i + 1)) (bk E s k i) (by rw [← e]; exact ih)
  have e2 : bk E s k (i + 1) = p := by
    show ((lay E s (k - i)).T (bk E s k i)).2.getD s = p
    rw [e, h1]; rfl
  rw [e2, ← h4]
  exact ((h.succ p ed).mp h3).1
theorem walk_chain {c : Clock} {E : Edges} (h : EdgesIs c E) {s : Node} {k : Nat} (hs : s ∈ (lay E s k).L) : ChainOk c (walkL E s k) := by
  intro i a b ha hb
  unfold walkL at ha hb
  obtain ⟨hi, ea⟩ := List.getElem?_eq_some_iff.mp ha
  obtain ⟨hi2, eb⟩ := List.getElem?_eq_some_iff.mp hb
  rw [List.getElem_reverse, List.getElem_map, List.getElem_range] at ea eb
  simp only [List.length_reverse, List.length_map, List.length_range] at hi hi2 ea eb
  subst ea eb
  have := chain_bk h (i := k - (i + 1)) hs (by omega)
  rw [show k - (i + 1) + 1 = k + 1 - 1 - i by omega] at this
  rw [show k + 1 - 1 - (i + 1) = k - (i + 1) by omega]
  exact this
section
variable {P : Program} {w : World} {K : PySem.W.Frag} {mg : Str → Option Value} {base : Heap} {W0 : Wild}
def gEdges : Con := fun rs C => ∃ c : Clock, c.Ok ∧ rs = [.val c.enc] ∧ ∀ E, EdgesIs c E → C (.dict E.tb)
def ringOut (c : Clock) (l : List Node) : List Node := match l with
  | [] => []
  | n0 :: rest => seenR c n0 rest rest.length
def gShort : Con := fun rs C => ∃ c : Clock, c.Ok ∧ rs = [.val c.enc] ∧ (∀ T, Fix c T → C .none) ∧ ((∃ e v, Reach c e v ∧ mostOf c ≤ v) → (∀ E, EdgesIs c E → ∃ s ∈ E.L, ∃ k, 1 ≤ k ∧ k ≤ E.L.length ∧ goodL E s k = true) ∧
  ∀ E s k, EdgesIs c E → s ∈ E.L → 1 ≤ k → k ≤ 300 → goodL E s k = true → C (.tuple ((ringOut c (walkL E s k)).map eN)))
theorem can_shortest_ring (B : Bd K mg) (hEd : Can P w K mg base W0 5 "every_edge" 1 gEdges []) : Can P w K mg base W0 6 "shortest_ring" 1 gShort [] := by
  refine can_body (N := ["clock", "edges", "best", "most", "start", "walks"]) (ps := ["clock"]) B.shortest_ring ⟨rfl, rfl, rfl, by decide +kernel, rfl, by decide +kernel, by decide +kernel⟩ (fun _ _ _ _ _ _ us hl => match us, hl with | [_], _ => rfl) ?_
  intro f cdv A outer s H E0 Wl rs C hr hW ⟨c, ok, e, hF, hR⟩
  subst e
  have hN : (["clock", "edges", "best", "most", "start", "walks"] : List Str).Nodup := by decide +kernel
  have hu := hu_of hr
  refine wss_cons (ws_if (wt_notN (we_call (can_least_ticks B) hr (by decide) hW (wa_cons (we_var 0 rfl (wa_nil ⟨rfl, rfl, c, ok, rfl, fun T fx => we_none ⟨fun _ => wss_one (ws_ret (we_none (hF T fx))), fun z => Bool.noConfusion z⟩, fun rr => we_none ⟨fun z => Bool.noConfusion z, fun _ => wss_nil ?_⟩⟩))))))
  obtain ⟨hex, hout⟩ := hR rr
  refine wss_cons (ws_asg 1 (we_call hEd hr (by decide) hW (wa_cons (we_var 0 rfl (wa_nil ⟨rfl, rfl, c, ok, rfl, fun E hE => ?_⟩)))) hN)
  obtain ⟨s0, hs0, k0, hk0, hk1, hg0⟩ := hex E hE
  have eok := hE.ok ok
  refine wss_cons (ws_par 2 3 (we_none (we_lenD B.bare (we_var 1 rfl ⟨_, rfl, ?_⟩))) rfl hN)
  have htl : (E.tb.length : Int) = ((E.L.length : Nat) : Int) := by
    show ((tab eN E.L _).length : Int) = _
    rw [tab_len]
  have hkeys : E.tb.map (·.1) = E.L.map eN := by
    show (tab eN E.L _).map (·.1) = _
    unfold tab
    rw [List.map_map]; rfl
  obtain ⟨so, sd⟩ := sort_enc enc_N (by decide) (fun b => ⟨_, _, rfl⟩) E.L
  generalize hL : E.L.mergeSort (PySem.W.dataLe false eN) = L' at sd
  have hLm : ∀ x, x ∈ L' ↔ x ∈ E.L := fun x => by rw [← hL]; exact (List.mergeSort_perm _ _).mem_iff
  let J : Nat → D → Nat → Prop := fun i b m => (b = .none ∧ m = E.L.length ∧ ∀ j s, j < i → L'[j]? = some s → ∀ k, 1 ≤ k → k ≤ E.L.length → goodL E s k = false) ∨
    (∃ s k, s ∈ E.L ∧ 1 ≤ k ∧ k ≤ 300 ∧ goodL E s k = true ∧ b = .list ((walkL E s k).map eN) ∧ m = k - 1)
  refine wss_cons (ws_for (js := [4]) (by passes_own) rfl (WI.mono (Q := fun ds => ds = L'.map eN) (wi_list (we_sortedD B.bare hu (we_var 1 rfl ⟨_, rfl, by rw [hkeys]; exact so, by rw [hkeys, sd]; exact rfl⟩))) fun ds hds => ?_))
  subst hds
  refine ⟨fun i ρ => ∃ b m r4 r5, ρ = [some (.val c.enc), some (.val (.dict E.tb)), some (.val b), some (.val (.int ((m : Nat) : Int))), r4, r5] ∧ J i b m, ⟨.none, E.L.length, none, none, by rw [← htl]; rfl, .inl ⟨rfl, rfl, fun j s hj => absurd hj (Nat.not_lt_zero _)⟩⟩, ?_, ?_⟩
  · rintro i d ρ' hd ⟨b, m, r4, r5, rfl, hJ⟩
    rw [List.getElem?_map] at hd
    obtain ⟨s, hs, rfl⟩ := Option.map_eq_some_iff.mp hd
    have hsE : s ∈ E.L := (hLm s).mp (List.mem_of_getElem? hs)
    have hm : m ≤ 300 := by
      rcases hJ with ⟨_, e, _⟩ | ⟨_, k, _, _, h, _, _, e⟩
      · rw [e]; exact hE.small
      · omega
    have hsU : s ∈ nodesOf c := by
      obtain ⟨e, he⟩ := List.exists_mem_of_ne_nil _ (hE.some s hsE)
      have he : e ∈ E.succ s := by unfold Edges.succ; rw [if_pos hsE]; exact he
      obtain ⟨a1, a2, a3, _⟩ := (hE.succ s e).mp he
      obtain ⟨l1, l2⟩ := leans_in ok a1
      exact nodes_mem (needs_in ok l1 l2).1 a2 a3
    refine wg_name 4 ?_ hN
    refine wss_cons (ws_asg 5 (we_call (can_best_walks B) hr (by decide) hW (wa_cons (we_var 1 rfl (wa_cons (we_var 4 rfl (wa_cons (we_var 3 rfl (wa_nil ⟨rfl, rfl, E, nodesOf c, s, m, eok, hsU, by omega, rfl, fun k h1 h2 h3 h4 => ?_, fun hno => ?_⟩)))))))) hN)
    · refine wss_one (ws_if (wt_notN (we_var 5 rfl (we_none ⟨fun _ => ?_, fun z => Bool.noConfusion z⟩))))
      have hsk : s ∈ (lay E s k).L := by
        unfold goodL at h3
        rw [Bool.and_eq_true] at h3
        exact of_decide_eq_true h3.1
      refine wss_one (ws_par 2 3 (we_call (can_walk_of B) hr (by decide) hW (wa_cons (we_var 5 rfl (wa_cons (we_var 4 rfl (wa_nil ⟨rfl, rfl, E, s, k, hsk, by omega, rfl, we_sub (we_len B.bare (wa_cons (we_var 5 rfl (wa_nil (we_int ?_)))))⟩)))))) rfl hN)
      have e : ((laysD E s k).length : Int) - 2 = ((k - 1 : Nat) : Int) := by
        unfold laysD
        rw [List.length_map, List.length_range]
        omega
      refine ⟨_, k - 1, some (.val (eN s)), some (.val (.list (laysD E s k))), ?_, .inr ⟨s, k, hsE, h1, by omega, h3, rfl, rfl⟩⟩
      rw [← e]; rfl
    · refine wss_one (ws_if (wt_notN (we_var 5 rfl (we_none ⟨fun z => Bool.noConfusion z, fun _ => wss_nil ⟨b, m, _, _, rfl, ?_⟩⟩))))
      rcases hJ with ⟨e1, e2, e3⟩ | hJ
      · refine .inl ⟨e1, e2, fun j s' hj hs' k h1 h2 => ?_⟩
        rcases Nat.lt_or_ge j i with z | z
        · exact e3 j s' z hs' k h1 h2
        · have : j = i := by omega
          subst this
          rw [hs] at hs'
          cases hs'
          exact hno k h1 (by omega)
      · exact .inr hJ
  · rintro ρ' ⟨b, m, r4, r5, rfl, hJ⟩
    rcases hJ with ⟨_, _, e3⟩ | ⟨s, k, h1, h2, h3, h4, e1, e2⟩
    · obtain ⟨j, hj⟩ := List.getElem?_of_mem ((hLm s0).mpr hs0)
      have := e3 j s0 (by rw [List.length_map]; exact (List.getElem?_eq_some_iff.mp hj).1) hj k0 hk0 hk1
      rw [hg0] at this; cases this
    · subst e1
      have hsk : s ∈ (lay E s k).L := by
        unfold goodL at h4
        rw [Bool.and_eq_true] at h4
        exact of_decide_eq_true h4.1
      have ch := walk_chain hE hsk
      have hlen : (walkL E s k).length = k + 1 := by unfold walkL; simp
      have ho := hout E s k hE h1 h2 h3 h4
      generalize walkL E s k = l at ch hlen ho
      match l, hlen with
      | n0 :: rest, hlen =>
        rw [List.length_cons] at hlen
        exact wss_one (ws_ret (we_call (can_ring_of B) hr (by decide) hW (wa_cons (we_var 0 rfl (wa_cons (we_var 2 rfl (wa_nil ⟨rfl, rfl, c, n0, rest, ok, ch, by omega, rfl, ho⟩)))))))
end
end LC
/-! The walk of ring. -/
namespace LC
open PySem L2 PySem.Spec PyProof.Rows
section
variable {P : Program} {w : World} {K : PySem.W.Frag} {mg : Str → Option Value} {base : Heap} {W0 : Wild}
theorem can_ring (B : Bd K mg) (G : Bg K mg base W0) (hEd : Can P w K mg base W0 5 "every_edge" 1 gEdges []) : Can P w K mg base W0 7 "ring" 1 gShort [] := by
  refine can_body (N := ["clock"]) (ps := ["clock"]) B.ring ⟨rfl, rfl, rfl, by decide +kernel, rfl, by decide +kernel, by decide +kernel⟩ (fun _ _ _ _ _ _ us hl => match us, hl with | [_], _ => rfl) ?_
  intro f cdv A outer s H E Wl rs C hr hW ⟨c, ok, e, hF, hR⟩
  subst e
  refine wss_cons (ws_expr (we_call (can_need_clock B G) hr (by decide) hW (wa_cons (we_var 0 rfl (wa_nil ⟨rfl, rfl, c, ok, rfl, ?_⟩)))))
  exact wss_one (ws_ret (we_call (can_shortest_ring B hEd) hr (by decide) hW (wa_cons (we_var 0 rfl (wa_nil ⟨rfl, rfl, c, ok, rfl, hF, hR⟩)))))
end
end LC
/-! The walks of the law's own small defs. -/
namespace LC
open PySem L2 PySem.Spec PyProof.Rows
theorem maxL_snoc (l : List Int) (x : Int) : maxL (l ++ [x]) = max (maxL l) x := by
  unfold maxL
  rw [List.foldl_append]; rfl
def needTo (l : List (Int × Int × Int × Int)) (w a j : Int) : Int := maxL (((l.filter fun b => decide (b.1 = w) && decide (b.2.2.1 = j)).filter fun b => decide (b.2.1 ≤ a)).map (·.2.2.2))
theorem needTo_snoc (l : List (Int × Int × Int × Int)) (b : Int × Int × Int × Int) (w a j : Int) : needTo (l ++ [b]) w a j = if b.1 = w ∧ b.2.2.1 = j ∧ b.2.1 ≤ a then max (needTo l w a j) b.2.2.2 else needTo l w a j := by
  unfold needTo
  rw [List.filter_append, List.filter_append, List.map_append]
  by_cases h1 : b.1 = w
  · by_cases h2 : b.2.2.1 = j
    · by_cases h3 : b.2.1 ≤ a
      · rw [if_pos ⟨h1, h2, h3⟩]
        rw [show [b].filter (fun b => decide (b.1 = w) && decide (b.2.2.1 = j)) = [b] by simp [h1, h2], show [b].filter (fun b => decide (b.2.1 ≤ a)) = [b] by simp [h3]]
        exact maxL_snoc _ _
      · rw [if_neg fun z => h3 z.2.2]
        rw [show [b].filter (fun b => decide (b.1 = w) && decide (b.2.2.1 = j)) = [b] by simp [h1, h2], show [b].filter (fun b => decide (b.2.1 ≤ a)) = [] by simp [h3]]
        simp
    · rw [if_neg fun z => h2 z.2.1]
      rw [show [b].filter (fun b => decide (b.1 = w) && decide (b.2.2.1 = j)) = [] by simp [h2]]
      simp
  · rw [if_neg fun z => h1 z.1]
    rw [show [b].filter (fun b => decide (b.1 = w) && decide (b.2.2.1 = j)) = [] by simp [h1]]
    simp
section
variable {P : Program} {w : World} {K : PySem.W.Frag} {mg : Str → Option Value} {base : Heap} {W0 : Wild}
theorem can_k_needed (B : Bd K mg) : Can P w K mg base W0 1 "_law_needed" 4 gNeed [] := by
  refine can_body (N := ["_law_clock_here", "_law_wheel", "_law_edition", "_law_other", "_law_least", "_law_i", "_law_a", "_law_j", "_law_b"]) (ps := ["_law_clock_here", "_law_wheel", "_law_edition", "_law_other"]) B.k_needed ⟨rfl, rfl, rfl, by decide +kernel, rfl, by decide +kernel, by decide +kernel⟩ (fun _ _ _ _ _ _ us hl => match us, hl with | [_, _, _, _], _ => rfl) ?_
  intro f cdv A outer s H E Wl rs C hr hW ⟨c, w, a, j, ok, e, hC⟩
  subst e
  have hN : (["_law_clock_here", "_law_wheel", "_law_edition", "_law_other", "_law_least", "_law_i", "_law_a", "_law_j", "_law_b"] : List Str).Nodup := by decide +kernel
  have hu := hu_of hr
  refine wss_cons (ws_asg 4 (we_int ?_) hN)
  refine wss_cons (ws_for (js := [5, 6, 7, 8]) (by passes_own) rfl (wi_tup (we_at (j := 4) (we_var 0 rfl rfl) rfl ⟨fun i ρ => ∃ r5 r6 r7 r8, ρ = [some (.val c.enc), some (.val (.int w)), some (.val (.int a)), some (.val (.int j)), some (.val (.int (needTo (c.bo.take i) w a j))), r5, r6, r7, r8], ⟨_, _, _, _, rfl⟩, ?_, ?_⟩)))
  · rintro i d ρ' hd ⟨r5, r6, r7, r8, rfl⟩
    rw [List.getElem?_map] at hd
    obtain ⟨b, hb, rfl⟩ := Option.map_eq_some_iff.mp hd
    have st : needTo (c.bo.take (i + 1)) w a j = if b.1 = w ∧ b.2.2.1 = j ∧ b.2.1 ≤ a then max (needTo (c.bo.take i) w a j) b.2.2.2 else needTo (c.bo.take i) w a j := by
      rw [← needTo_snoc, List.take_succ, hb]; rfl
    generalize needTo (c.bo.take i) w a j = m at st ⊢
    refine wg_tup rfl (wgs_cons (js := [5]) (wg_name 5 (wgs_cons (js := [6]) (wg_name 6 (wgs_cons (js := [7]) (wg_name 7 (wgs_cons (js := [8]) (js' := []) (wg_name 8 (wgs_nil ?_) hN)) hN)) hN)) hN))
    have fin : ∀ m' : Int, m' = needTo (c.bo.take (i + 1)) w a j → ∃ r5' r6' r7' r8', [some (R.val c.enc), some (.val (.int w)), some (.val (.int a)), some (.val (.int j)), some (.val (.int m')), some (.val (.int b.1)), some (.val (.int b.2.1)), some (.val (.int b.2.2.1)), some (.val (.int b.2.2.2))] = [some (R.val c.enc), some (.val (.int w)), some (.val (.int a)), some (.val (.int j)), some (.val (.int (needTo (c.bo.take (i + 1)) w a j))), r5', r6', r7', r8'] := fun m' e => by
      subst e; exact ⟨_, _, _, _, rfl⟩
    refine wss_one (ws_if (wt_and (ww_and (wt_eq hu (we_tup (wa_cons (we_var 5 rfl (wa_cons (we_var 7 rfl (wa_nil ⟨(show 2 ≤ sizeLine by decide), we_tup (wa_cons (we_var 1 rfl (wa_cons (we_var 3 rfl (wa_nil ⟨(show 2 ≤ sizeLine by decide), rfl, rfl, ?_⟩)))))⟩))))))))))
    show (PyData.eqv (eX (b.1, b.2.2.1)) (eX (w, j)) = true → _) ∧ (PyData.eqv (eX (b.1, b.2.2.1)) (eX (w, j)) = false → _)
    rw [enc_X.eq]
    refine ⟨fun q => ww_and (wt_le (we_var 6 rfl (we_var 2 rfl ⟨fun q2 => ww_and1 (wt_gt (we_var 8 rfl (we_var 4 rfl ⟨fun q3 => ?_, fun q3 => ?_⟩))), fun q2 => ?_⟩))), fun q => ?_⟩
    · have q := of_decide_eq_true q
      have q2 := of_decide_eq_true q2
      have q3 : m < b.2.2.2 := of_decide_eq_true q3
      refine wss_one (ws_asg 4 (we_var 8 rfl (fin _ ?_)) hN)
      rw [st, if_pos ⟨congrArg Prod.fst q, congrArg Prod.snd q, q2⟩]; omega
    · have q := of_decide_eq_true q
      have q2 := of_decide_eq_true q2
      have q3 : ¬ m < b.2.2.2 := of_decide_eq_false q3
      refine wss_nil (fin _ ?_)
      rw [st, if_pos ⟨congrArg Prod.fst q, congrArg Prod.snd q, q2⟩]; omega
    · have q2 : ¬ b.2.1 ≤ a := of_decide_eq_false q2
      refine ⟨fun z => Bool.noConfusion z, fun _ => wss_nil (fin _ ?_)⟩
      rw [st, if_neg fun z => q2 z.2.2]
    · have q := of_decide_eq_false q
      refine ⟨fun z => Bool.noConfusion z, fun _ => wss_nil (fin _ ?_)⟩
      rw [st, if_neg fun z => q (Prod.ext z.1 z.2.1)]
  · rintro ρ' ⟨r5, r6, r7, r8, rfl⟩
    rw [List.length_map, List.take_length]
    exact wss_one (ws_ret (we_var 4 rfl hC))
end
end LC
/-! The walks of the law's own defs: standings. -/
namespace LC
open PySem L2 PySem.Spec PyProof.Rows
section
variable {P : Program} {w : World} {K : PySem.W.Frag} {mg : Str → Option Value} {base : Heap} {W0 : Wild}
def cnt (g : List Int) (t : Int) : Int := (((g.filter fun x => decide (x ≤ t)).length : Nat) : Int)
def gKStand : Con := fun rs C => ∃ (pl : Plan) (t : Int), pl.length ≤ 1000 ∧ (∀ g ∈ pl, g.length ≤ 1000) ∧ rs = [.val (encPl pl), .val (.int t)] ∧ C (.list (pl.map fun g => .int (cnt g t)))
theorem can_k_standing (B : Bd K mg) : Can P w K mg base W0 1 "_law_standing" 2 gKStand [] := by
  refine can_body (N := ["_law_plan", "_law_tick", "_law_ticks", "_law_one"]) (ps := ["_law_plan", "_law_tick"]) B.k_standing ⟨rfl, rfl, rfl, by decide +kernel, rfl, by decide +kernel, by decide +kernel⟩ (fun _ _ _ _ _ _ us hl => match us, hl with | [_, _], _ => rfl) ?_
  intro f cdv A outer s H E Wl rs C hr hW ⟨pl, t, hz, hg, e, hC⟩
  subst e
  have hN : (["_law_plan", "_law_tick", "_law_ticks", "_law_one"] : List Str).Nodup := by decide +kernel
  have hu := hu_of hr
  refine wss_one (ws_ret (WN.we (wn_lcM (f := eG) (own := [("_law_ticks", 2), ("_law_one", 3)]) (js := [2]) pl (fun _ => true) (fun g => .int (cnt g t)) rfl hN (blkOk_by (N := ["_law_plan", "_law_tick", "_law_ticks", "_law_one"]) (sc := defScope s_k_standing) (by decide +kernel)) (by decide) (Nat.le_trans hz (by decide)) (wi_tup (we_var 0 rfl rfl)) (fun g hgm => ?_) ?_)))
  · intro _ _ _ _ _
    refine wg_name 2 (maps_keep ?_) hN
    intro _ _ _ _ _
    refine we_len B.bare (wa_cons (WN.we (wn_lcM (f := eI) (own := [("_law_one", 3)]) (js := [3]) g (fun x => decide (x ≤ t)) eI rfl hN (blkOk_by (by rfl)) (by decide) (Nat.le_trans (hg g hgm) (by decide)) (wi_tup (we_var 2 rfl rfl)) (fun x hx => ?_) (wa_nil ?_))))
    · intro _ _ _ _ _
      refine wg_name 3 (maps_if ?_ ?_) hN
      · intro _ _ _ _ _
        exact wt_le (we_var 3 rfl (we_var 1 rfl rfl))
      · intro _ _ _ _ _ _
        exact we_var 3 rfl rfl
    · show PyData.int _ = _
      rw [List.length_map]; rfl
  · rw [filter_all]; exact hC
end
end LC
/-! The walks of the law's own defs: what does not fit. -/
namespace LC
open PySem L2 PySem.Spec PyProof.Rows
section
variable {P : Program} {w : World} {K : PySem.W.Frag} {mg : Str → Option Value} {base : Heap} {W0 : Wild}
def gKBad : Con := fun rs C => ∃ (c : Clock) (st : List Int) (t : Int), c.Ok ∧ st.length = c.n ∧ notFit c st (t % c.P) = [] ∧ rs = [.val c.enc, .val (.list (st.map eI)), .val (.int t)] ∧ C (.list [])
theorem can_k_bad (B : Bd K mg) : Can P w K mg base W0 2 "_law_bad" 3 gKBad [] := by
  refine can_body (N := ["_law_clock_here", "_law_standing_here", "_law_tick", "_law_found", "_law_phase", "_law_one", "_law_other", "_law_low"]) (ps := ["_law_clock_here", "_law_standing_here", "_law_tick"]) B.k_bad ⟨rfl, rfl, rfl, by decide +kernel, rfl, by decide +kernel, by decide +kernel⟩ (fun _ _ _ _ _ _ us hl => match us, hl with | [_, _, _], _ => rfl) ?_
  intro f cdv A outer s H E Wl rs C hr hW ⟨c, st, t, ok, hl, hf, e, hC⟩
  subst e
  have hN : (["_law_clock_here", "_law_standing_here", "_law_tick", "_law_found", "_law_phase", "_law_one", "_law_other", "_law_low"] : List Str).Nodup := by decide +kernel
  have hu := hu_of hr
  have hP := ok.p1
  refine wss_cons (ws_own 3 (wn_lst (wa_nil ⟨Nat.zero_le _, ?_⟩)) hN)
  refine wss_cons (ws_for (js := [4, 5, 6]) (by passes_own) rfl (wi_tup (we_at (j := 2) (we_var 0 rfl rfl) rfl ⟨fun i ρ => ∃ r4 r5 r6 r7, ρ = [some (.val c.enc), some (.val (.list (st.map eI))), some (.val (.int t)), some (.own (.list [])), r4, r5, r6, r7], ⟨_, _, _, _, rfl⟩, ?_, ?_⟩)))
  · rintro i d ρ' hd ⟨r4, r5, r6, r7, rfl⟩
    obtain ⟨x, hx, rfl⟩ := List.mem_map.mp (List.mem_of_getElem? hd)
    obtain ⟨a1, a2, a3, a4, a5⟩ := ok.to x hx
    refine wg_tup rfl (wgs_cons (js := [4]) (wg_name 4 (wgs_cons (js := [5]) (wg_name 5 (wgs_cons (js := [6]) (js' := []) (wg_name 6 (wgs_nil ?_) hN)) hN)) hN))
    refine wss_one (ws_if (wt_eq hu (we_var 4 rfl (we_mod (we_int1 B.bare (wa_cons (we_var 2 rfl (wa_nil (we_at (j := 0) (we_var 0 rfl rfl) rfl ⟨by omega, rfl, rfl, ?_⟩)))))))))
    show (PyData.eqv (.int x.1) (.int (t % c.P)) = true → _) ∧ (PyData.eqv (.int x.1) (.int (t % c.P)) = false → _)
    rw [int_eqv]
    refine ⟨fun q => ?_, fun _ => wss_nil ⟨_, _, _, _, rfl⟩⟩
    have q := of_decide_eq_true q
    have hp : x.2 ∈ pairsAt c (t % c.P) := List.mem_map.mpr ⟨x, List.mem_filter.mpr ⟨hx, decide_eq_true q⟩, rfl⟩
    have hfit : fitB c st x.2 = true := by
      unfold notFit at hf
      have := List.filter_eq_nil_iff.mp hf x.2 hp
      simpa using this
    unfold fitB at hfit
    rw [Bool.and_eq_true, Bool.not_eq_true', decide_eq_true_eq] at hfit
    obtain ⟨w1, w2⟩ := pairs_ok ok hp
    refine wss_cons (ws_asg 7 (we_lt hu (we_ix (we_var 1 rfl (we_var 6 rfl ⟨_, at_st hl w2, ?_⟩)))) hN)
    refine we_call (can_k_needed B) hr (by decide) hW (wa_cons (we_var 0 rfl (wa_cons (we_var 5 rfl (wa_cons (we_ix (we_var 1 rfl (we_var 5 rfl ⟨_, at_st hl w1, wa_cons (we_var 6 rfl (wa_nil ⟨rfl, rfl, c, x.2.1, _, x.2.2, ok, rfl, ?_⟩))⟩))))))))
    have h1 : decide (atW st x.2.2 < needed c x.2.1 (atW st x.2.1) x.2.2) = false := hfit.1
    show WSs _ _ (List.set _ 7 (some (.val (.bool (decide (atW st x.2.2 < needed c x.2.1 (atW st x.2.1) x.2.2)))))) _ _
    rw [h1]
    refine wss_one (ws_ifF (wt_or (gd (wt_val (we_var 7 rfl rfl)) (gd_1 (wt_lt hu (we_ix (we_var 1 rfl (we_var 5 rfl ⟨_, at_st hl w1, ?_⟩))))))) (wss_nil ⟨_, _, _, _, rfl⟩))
    refine we_call (can_k_needed B) hr (by decide) hW (wa_cons (we_var 0 rfl (wa_cons (we_var 6 rfl (wa_cons (we_ix (we_var 1 rfl (we_var 6 rfl ⟨_, at_st hl w2, wa_cons (we_var 5 rfl (wa_nil ⟨rfl, rfl, c, x.2.2, _, x.2.1, ok, rfl, ?_⟩))⟩))))))))
    show decide (atW st x.2.1 < needed c x.2.2 (atW st x.2.2) x.2.1) = false
    have := hfit.2
    exact decide_eq_false (by omega)
  · rintro ρ' ⟨r4, r5, r6, r7, rfl⟩
    exact wss_freezeL 3 rfl (wss_one (ws_ret (we_var 3 rfl hC)))
end
end LC
/-! The walks of the law's own defs: the first bad tick. -/
namespace LC
open PySem L2 PySem.Spec PyProof.Rows
theorem stand_cnt {c : Clock} {pl : Plan} (hl : pl.length = c.n) (t : Int) : (pl.map fun g => PyData.int (cnt g t)) = (standing c pl t).map eI := by
  unfold standing
  rw [List.map_map]
  apply List.ext_getElem
  · simp [hl]
  · intro i h1 h2
    rw [List.getElem_map, List.getElem_map, List.getElem_range]
    have hi : i < pl.length := by simpa using h1
    show PyData.int (cnt (pl[i]'hi) t) = .int (edAt pl (i : Int) t)
    unfold edAt cnt
    rw [Int.toNat_natCast, getD_at hi]
section
variable {P : Program} {w : World} {K : PySem.W.Frag} {mg : Str → Option Value} {base : Heap} {W0 : Wild}
def gKFirst : Con := fun rs C => ∃ (c : Clock) (pl : Plan), c.Ok ∧ PlanOk c pl ∧ RightAt c pl ∧ rs = [.val c.enc, .val (encPl pl), .val (.int 0)] ∧ C .none
theorem can_k_first_bad (B : Bd K mg) : Can P w K mg base W0 3 "_law_first_bad" 3 gKFirst [] := by
  refine can_body (N := ["_law_clock_here", "_law_plan", "_law_start", "_law_last", "_law_ticks", "_law_tick"]) (ps := ["_law_clock_here", "_law_plan", "_law_start"]) B.k_first_bad ⟨rfl, rfl, rfl, by decide +kernel, rfl, by decide +kernel, by decide +kernel⟩ (fun _ _ _ _ _ _ us hl => match us, hl with | [_, _, _], _ => rfl) ?_
  intro f cdv A outer s H E Wl rs C hr hW ⟨c, pl, ok, pk, rt, e, hC⟩
  subst e
  have hN : (["_law_clock_here", "_law_plan", "_law_start", "_law_last", "_law_ticks", "_law_tick"] : List Str).Nodup := by decide +kernel
  have hu := hu_of hr
  have hP := ok.p1
  have hP2 := ok.p2
  refine wss_cons (ws_asg 3 (we_var 2 rfl ?_) hN)
  refine wss_cons (ws_for (js := [4]) (by passes_own) rfl (wi_tup (we_var 1 rfl ⟨fun i ρ => ∃ (m : Int) (r4 r5 : Option R), ρ = [some (.val c.enc), some (.val (encPl pl)), some (.val (.int 0)), some (.val (.int m)), r4, r5] ∧ 0 ≤ m ∧ m ≤ 100000, ⟨0, _, _, rfl, by omega, by omega⟩, ?_, ?_⟩)))
  · rintro i d ρ' hd ⟨m, r4, r5, rfl, m0, m1⟩
    obtain ⟨g, hg, rfl⟩ := List.mem_map.mp (List.mem_of_getElem? hd)
    have gb : ∀ x ∈ g, 0 ≤ x ∧ x ≤ 100000 := fun x hx => pk.tick (List.mem_flatMap.mpr ⟨g, hg, hx⟩)
    refine wg_name 4 ?_ hN
    refine wss_one (ws_asg 3 (we_maxL B.bare (wa_cons (we_add (we_lst (wa_cons (we_var 3 rfl (wa_nil ⟨(show 1 ≤ sizeLine by decide), we_list B.bare (wa_cons (we_var 4 rfl (wa_nil ⟨?_, wa_nil ⟨m :: g, rfl, Nat.succ_pos _, fun k hk hy => ⟨k, _, _, rfl, ?_, ?_⟩⟩⟩)))⟩))))))) hN)
    · show 1 + (g.map eI).length ≤ sizeLine
      rw [List.length_map]
      exact Nat.le_trans (show 1 + g.length ≤ 5 by have := pk.few ok hg; omega) (by decide)
    · rcases List.mem_cons.mp hk with e | e
      · omega
      · exact (gb k e).1
    · rcases List.mem_cons.mp hk with e | e
      · omega
      · exact (gb k e).2
  · rintro ρ' ⟨m, r4, r5, rfl, m0, m1⟩
    refine wss_cons (ws_for (js := [5]) (by passes_own) rfl (wi_range2 B.bare.range (we_var 2 rfl ⟨by decide, by decide, we_add (we_add (we_var 3 rfl (we_at (j := 0) (we_var 0 rfl rfl) rfl (we_int ⟨?_, ?_, fun i ρ => ∃ r5, ρ = [some (.val c.enc), some (.val (encPl pl)), some (.val (.int 0)), some (.val (.int m)), r4, r5], ⟨_, rfl⟩, ?_, ?_⟩))))⟩)))
    · show -(2 ^ 62) ≤ m + c.P + 1
      omega
    · show m + c.P + 1 < 2 ^ 62
      omega
    · rintro i d ρ' hd ⟨r5, rfl⟩
      rw [rangeD_i] at hd
      obtain ⟨t, ht, rfl⟩ := List.mem_map.mp (List.mem_of_getElem? hd)
      have htb := iRange_mem.mp ht
      refine wg_name 5 ?_ hN
      have hl : (standing c pl t).length = c.n := by unfold standing; rw [List.length_map, List.length_range]
      refine wss_one (ws_ifF (wt_ne hu (we_call (can_k_bad B) hr (by decide) hW (wa_cons (we_var 0 rfl (wa_cons (we_call (can_k_standing B) hr (by decide) hW (wa_cons (we_var 1 rfl (wa_cons (we_var 5 rfl (wa_nil ⟨rfl, rfl, pl, t, ?_, ?_, rfl, wa_cons (we_var 5 rfl (wa_nil ⟨rfl, rfl, c, standing c pl t, t, ok, hl, rt t htb.1, ?_, we_lst (wa_nil ⟨Nat.zero_le _, rfl, rfl, rfl⟩)⟩))⟩))))))))))) (wss_nil ⟨_, rfl⟩))
      · rw [pk.len]; exact Nat.le_trans ok.n2 (by decide)
      · intro g hg
        exact Nat.le_trans (pk.few ok hg) (by decide)
      · rw [stand_cnt pk.len]; rfl
    · rintro ρ' ⟨r5, rfl⟩
      exact wss_one (ws_ret (we_none hC))
end
end LC
/-! The walks of the law's own defs: leans. -/
namespace LC
open PySem L2 PySem.Spec PyProof.Rows
def lsOf (c : Clock) (l : List Xg) : List (Xg × Xg) := l.flatMap fun e => (needsTo c e c.n).map fun o => (e, o)
theorem lsOf_snoc (c : Clock) (l : List Xg) (e : Xg) : lsOf c (l ++ [e]) = lsOf c l ++ (needsTo c e c.n).map fun o => (e, o) := by
  unfold lsOf
  rw [List.flatMap_append]
  simp
theorem lsOf_len (c : Clock) (l : List Xg) : (lsOf c l).length ≤ l.length * (c.n + 1) := flat_len2 fun e _ => by rw [List.length_map]; exact needsTo_len c e c.n
def upTo (c : Clock) (i : Nat) : List Xg := (List.range i).flatMap fun (w : Nat) => (iRange 1 (c.edOf w + 1)).map fun a => ((w : Int), a)
theorem upTo_succ (c : Clock) (i : Nat) : upTo c (i + 1) = upTo c i ++ (iRange 1 (c.edOf i + 1)).map fun a => ((i : Int), a) := by
  unfold upTo
  rw [List.range_succ, List.flatMap_append]
  simp
theorem upTo_len {c : Clock} (ok : c.Ok) {i : Nat} (hi : i ≤ c.n) : (upTo c i).length ≤ 24 := by
  have h := flat_len2 (m := 4) (l := List.range i) (f := fun (w : Nat) => (iRange 1 (c.edOf w + 1)).map fun a => ((w : Int), a)) fun w hw => by
    have hw := List.mem_range.mp hw
    have := (ok.edOf (w := w) ⟨by omega, by omega⟩).2
    unfold iRange
    rw [List.length_map, List.length_map, List.length_range]
    omega
  rw [List.length_range] at h
  have := ok.n2
  unfold upTo
  omega
def kLeans (c : Clock) : List (Xg × Xg) := (lsOf c (everyX c)).mergeSort (PySem.W.dataLe false eL)
theorem kLeans_mem {c : Clock} {l : Xg × Xg} (h : l ∈ leansOf c) : l ∈ kLeans c := by
  unfold kLeans
  refine (List.mergeSort_perm _ _).mem_iff.mpr ?_
  unfold leansOf at h
  obtain ⟨e, he, h⟩ := List.mem_flatMap.mp h
  obtain ⟨o, ho, rfl⟩ := List.mem_map.mp h
  exact List.mem_flatMap.mpr ⟨e, he, List.mem_map.mpr ⟨o, (needsS_perm c e).mem_iff.mp ho, rfl⟩⟩
section
variable {P : Program} {w : World} {K : PySem.W.Frag} {mg : Str → Option Value} {base : Heap} {W0 : Wild}
def gKLeans : Con := fun rs C => ∃ c : Clock, c.Ok ∧ rs = [.val c.enc] ∧ C (.list ((kLeans c).map eL))
theorem can_k_leans (B : Bd K mg) : Can P w K mg base W0 2 "_law_leans" 1 gKLeans [] := by
  refine can_body (N := ["_law_clock_here", "_law_found", "_law_i", "_law_a", "_law_j", "_law_meets", "_law_one"]) (ps := ["_law_clock_here"]) B.k_leans ⟨rfl, rfl, rfl, by decide +kernel, rfl, by decide +kernel, by decide +kernel⟩ (fun _ _ _ _ _ _ us hl => match us, hl with | [_], _ => rfl) ?_
  intro f cdv A outer s H E Wl rs C hr hW ⟨c, ok, e, hC⟩
  subst e
  have hN : (["_law_clock_here", "_law_found", "_law_i", "_law_a", "_law_j", "_law_meets", "_law_one"] : List Str).Nodup := by decide +kernel
  have hu := hu_of hr
  have n2 := ok.n2
  refine wss_cons (ws_own 1 (wn_lst (wa_nil ⟨Nat.zero_le _, ?_⟩)) hN)
  refine wss_cons (ws_for (js := [2]) (by passes_own) rfl (WI.mono (wi_whl B.bare ok (we_var 0 rfl rfl)) fun ds hds => ⟨fun i ρ => ∃ r2 r3 r4 r5 r6, ρ = [some (.val c.enc), some (.own (.list ((lsOf c (upTo c i)).map eL))), r2, r3, r4, r5, r6], ⟨_, _, _, _, _, rfl⟩, ?_, ?_⟩))
  · rintro i d ρ' hd ⟨r2, r3, r4, r5, r6, rfl⟩
    rw [hds] at hd
    obtain ⟨hi, rfl⟩ := range_at hd
    have hw : c.whl (i : Int) := ⟨by omega, by omega⟩
    have hb := ok.edOf hw
    refine wg_name 2 ?_ hN
    refine wss_one (ws_for (js := [3]) (by passes_own) rfl (wi_range2 B.bare.range (we_int ⟨by decide, by decide, we_add (we_ix (we_at (j := 1) (we_var 0 rfl rfl) rfl (we_var 2 rfl ⟨_, Clock.Ok.at_ed hw, we_int ⟨?_, ?_, fun k ρ => ∃ r3 r4 r5 r6, ρ = [some (.val c.enc), some (.own (.list ((lsOf c (upTo c i ++ ((iRange 1 (c.edOf i + 1)).take k).map fun a => ((i : Int), a))).map eL))), some (.val (.int i)), r3, r4, r5, r6], ⟨r3, r4, r5, r6, ?_⟩, ?_, ?_⟩⟩)))⟩)))
    · show -(2 ^ 62) ≤ c.edOf i + 1
      omega
    · show c.edOf i + 1 < 2 ^ 62
      omega
    · rw [List.take_zero, List.map_nil, List.append_nil]; rfl
    · rintro k d ρ' hd ⟨r3, r4, r5, r6, rfl⟩
      rw [rangeD_i, List.getElem?_map] at hd
      obtain ⟨a, ha, rfl⟩ := Option.map_eq_some_iff.mp hd
      have ham := iRange_mem.mp (List.mem_of_getElem? ha)
      have step : upTo c i ++ ((iRange 1 (c.edOf i + 1)).take (k + 1)).map (fun a => ((i : Int), a)) = (upTo c i ++ ((iRange 1 (c.edOf i + 1)).take k).map fun a => ((i : Int), a)) ++ [((i : Int), a)] := by
        rw [List.take_succ, ha, List.map_append, ← List.append_assoc]; rfl
      have pl : (upTo c i ++ ((iRange 1 (c.edOf i + 1)).take k).map fun a => ((i : Int), a)).length ≤ 28 := by
        rw [List.length_append, List.length_map]
        have h1 := upTo_len ok (i := i) (by omega)
        have h2 := List.length_take_le k (iRange 1 (c.edOf i + 1))
        have h3 : (iRange 1 (c.edOf i + 1)).length ≤ 4 := by
          unfold iRange
          rw [List.length_map, List.length_range]; omega
        have h4 : ((iRange 1 (c.edOf i + 1)).take k).length ≤ (iRange 1 (c.edOf i + 1)).length := List.length_take_le' ..
        omega
      generalize upTo c i ++ ((iRange 1 (c.edOf i + 1)).take k).map (fun a => ((i : Int), a)) = pre at step pl ⊢
      have small : ∀ j, j ≤ c.n → (lsOf c pre ++ (needsTo c ((i : Int), a) j).map fun o => (((i : Int), a), o)).length ≤ 300 := fun j hj => by
        rw [List.length_append, List.length_map]
        have h1 := lsOf_len c pre
        have h2 := needsTo_len c ((i : Int), a) j
        have h3 : pre.length * (c.n + 1) ≤ 28 * 7 := Nat.mul_le_mul pl (by omega)
        omega
      refine wg_name 3 ?_ hN
      refine wss_cons (ws_ifJ (fun ρ => ρ = [some (.val c.enc), some (.own (.list ((lsOf c pre ++ (needsTo c ((i : Int), a) 0).map fun o => (((i : Int), a), o)).map eL))), some (.val (.int i)), some (.val (.int a)), r4, r5, r6]) (wt_gt (we_var 3 rfl (we_int ⟨fun q => ?_, fun q => ?_⟩))) ?_)
      · have q : 1 < a := of_decide_eq_true q
        have e0 : needsTo c ((i : Int), a) 0 = [((i : Int), a - 1)] := by
          unfold needsTo
          rw [if_pos q]; rfl
        refine wss_one (ws_app 1 rfl (we_tup (wa_cons (we_tup (wa_cons (we_var 2 rfl (wa_cons (we_var 3 rfl (wa_nil ⟨(show 2 ≤ sizeLine by decide), ?_⟩)))))))))
        refine wa_cons (we_tup (wa_cons (we_var 2 rfl (wa_cons (we_sub (we_var 3 rfl (we_int (wa_nil ⟨(show 2 ≤ sizeLine by decide), wa_nil ⟨(show 2 ≤ sizeLine by decide), ?_, ?_⟩⟩))))))))
        · have := small 0 (Nat.zero_le _)
          rw [List.length_append] at this
          rw [List.length_map]
          exact Nat.lt_of_le_of_lt (show (lsOf c pre).length ≤ 300 by omega) (by decide)
        · rw [e0, List.map_append]; rfl
      · have q : ¬ 1 < a := of_decide_eq_false q
        have e0 : needsTo c ((i : Int), a) 0 = [] := by
          unfold needsTo
          rw [if_neg q]; rfl
        refine wss_nil ?_
        rw [e0, List.map_nil, List.append_nil]; rfl
      rintro ρ2 rfl
      refine wss_one (ws_for (js := [4]) (by passes_own) rfl (WI.mono (wi_whl B.bare ok (we_var 0 rfl rfl)) fun ds2 hds2 => ⟨fun j ρ => ∃ r4 r5 r6, ρ = [some (.val c.enc), some (.own (.list ((lsOf c pre ++ (needsTo c ((i : Int), a) j).map fun o => (((i : Int), a), o)).map eL))), some (.val (.int i)), some (.val (.int a)), r4, r5, r6], ⟨_, _, _, rfl⟩, ?_, ?_⟩))
      · rintro j d ρ' hd ⟨r4, r5, r6, rfl⟩
        rw [hds2] at hd
        obtain ⟨hj, rfl⟩ := range_at hd
        have sm := small j (by omega)
        have sc := needsTo_succ c ((i : Int), a) j
        generalize hm : needsTo c ((i : Int), a) j = nj at sc sm ⊢
        refine wg_name 4 ?_ hN
        refine wss_cons ?_
        refine ws_setLcM (f := eT) 5 (own := [("_law_one", 6)]) (js := [6]) c.to (fun t => decide (t.2 = (min (i : Int) j, max (i : Int) j))) eT rfl hN (blkOk_by (N := ["_law_clock_here", "_law_found", "_law_i", "_law_a", "_law_j", "_law_meets", "_law_one"]) (sc := defScope s_k_leans) (by decide +kernel)) (by decide) (Nat.le_trans ok.toL (by decide)) (wi_tup (we_at (j := 2) (we_var 0 rfl rfl) rfl rfl)) (fun t ht => ?_) ?_ (sw_true rfl rfl rfl (by decide +kernel))
        · intro _ _ _ _ _
          refine wg_name 6 (maps_if ?_ ?_) hN
          · intro _ _ _ _ _
            refine wt_eq hu (we_sl10 (we_var 6 rfl (we_int (we_tup (wa_cons (we_min2 B.bare (wa_cons (we_var 2 rfl (wa_cons (we_var 4 rfl (wa_nil (wa_cons (we_max2 B.bare (wa_cons (we_var 2 rfl (wa_cons (we_var 4 rfl (wa_nil (wa_nil ⟨(show 2 ≤ sizeLine by decide), rfl, rfl, ?_⟩)))))))))))))))))))
            show PyData.eqv (eX t.2) (.tuple [.int (if (j : Int) < (i : Int) then (j : Int) else (i : Int)), .int (if (j : Int) > (i : Int) then (j : Int) else (i : Int))]) = decide _
            rw [min_is, max_is]
            exact enc_X.eq t.2 (min (i : Int) j, max (i : Int) j)
          · intro _ _ _ _ _ _
            exact we_var 6 rfl rfl
        refine wss_freezeL 5 rfl ?_
        have hme : PyData.eqv (.list ((c.to.filter fun t => decide (t.2 = (min (i : Int) j, max (i : Int) j))).map eT)) (.list []) = (phasesOf c i j).isEmpty := by
          have h1 : PyData.eqv (.list ((c.to.filter fun t => decide (t.2 = (min (i : Int) j, max (i : Int) j))).map eT)) (.list []) = decide ((c.to.filter fun t => decide (t.2 = (min (i : Int) j, max (i : Int) j))) = []) := (enc_lst enc_T).eq _ []
          rw [h1]
          unfold phasesOf
          cases c.to.filter fun t => decide (t.2 = (min (i : Int) j, max (i : Int) j)) with
          | nil => rfl
          | cons x r => exact decide_eq_false (by simp)
        have hpm : LC.pl 8 (.list ((c.to.filter fun t => decide (t.2 = (min (i : Int) j, max (i : Int) j))).map eT)) = true := (enc_lst enc_T).pl _ _ (by decide)
        show WSs _ _ [some (.val c.enc), some (.own (.list ((lsOf c pre ++ nj.map fun o => (((i : Int), a), o)).map eL))), some (.val (.int i)), some (.val (.int a)), some (.val (.int j)), some (.val (.list ((c.to.filter fun t => decide (t.2 = (min (i : Int) j, max (i : Int) j))).map eT))), r6] _ _
        generalize c.to.filter (fun t => decide (t.2 = (min (i : Int) j, max (i : Int) j))) = ms at hme hpm ⊢
        have stay : keepN c ((i : Int), a) j = false → ∃ r4' r5' r6', [some (R.val c.enc), some (.own (.list ((lsOf c pre ++ nj.map fun o => (((i : Int), a), o)).map eL))), some (.val (.int i)), some (.val (.int a)), some (.val (.int j)), some (.val (.list (ms.map eT))), r6] = [some (.val c.enc), some (.own (.list ((lsOf c pre ++ (needsTo c ((i : Int), a) (j + 1)).map fun o => (((i : Int), a), o)).map eL))), some (.val (.int i)), some (.val (.int a)), r4', r5', r6'] := fun k => by
          rw [sc, if_neg (by rw [k]; exact Bool.false_ne_true)]
          exact ⟨_, _, _, rfl⟩
        have kn : keepN c ((i : Int), a) j = (!decide ((j : Int) = (i : Int)) && (!(phasesOf c i j).isEmpty && decide (0 < needed c i a j))) := rfl
        refine wss_one (ws_if (wt_and (ww_and (wt_ne hu (we_var 2 rfl (we_var 4 rfl ⟨rfl, rfl, fun q => ?_, fun q => ?_⟩))))))
        · have q : (!PyData.eqv (.int i) (.int j)) = true := q
          rw [int_eqv] at q
          have q : decide ((j : Int) = (i : Int)) = false := by
            have : ¬ (i : Int) = j := by simpa using q
            exact decide_eq_false fun z => this z.symm
          refine ww_and (wt_ne hu (we_var 5 rfl (we_lst (wa_nil ⟨Nat.zero_le _, hpm, rfl, fun q2 => ?_, fun q2 => ?_⟩))))
          · have q2 : (!PyData.eqv (.list (ms.map eT)) (.list [])) = true := q2
            rw [hme] at q2
            refine ww_and1 (wt_gt (we_call (can_k_needed B) hr (by decide) hW (wa_cons (we_var 0 rfl (wa_cons (we_var 2 rfl (wa_cons (we_var 3 rfl (wa_cons (we_var 4 rfl (wa_nil ⟨rfl, rfl, c, (i : Int), a, (j : Int), ok, rfl, we_int ⟨fun q3 => ?_, fun q3 => ?_⟩⟩)))))))))))
            · have q3 : decide (0 < needed c i a j) = true := q3
              have k : keepN c ((i : Int), a) j = true := by rw [kn, q, q2, q3]; rfl
              rw [if_pos k] at sc
              refine wss_one (ws_app 1 rfl (we_tup (wa_cons (we_tup (wa_cons (we_var 2 rfl (wa_cons (we_var 3 rfl (wa_nil ⟨(show 2 ≤ sizeLine by decide), wa_cons (we_tup (wa_cons (we_var 4 rfl (wa_cons (we_call (can_k_needed B) hr (by decide) hW (wa_cons (we_var 0 rfl (wa_cons (we_var 2 rfl (wa_cons (we_var 3 rfl (wa_cons (we_var 4 rfl (wa_nil ⟨rfl, rfl, c, (i : Int), a, (j : Int), ok, rfl, wa_nil ⟨(show 2 ≤ sizeLine by decide), wa_nil ⟨(show 2 ≤ sizeLine by decide), ?_, ?_⟩⟩⟩))))))))))))))⟩)))))))))
              · rw [List.length_map]
                exact Nat.lt_of_le_of_lt sm (by decide)
              · have e3 : (lsOf c pre ++ (needsTo c ((i : Int), a) (j + 1)).map fun o => (((i : Int), a), o)).map eL = (lsOf c pre ++ nj.map fun o => (((i : Int), a), o)).map eL ++ [eL (((i : Int), a), ((j : Int), needed c i a j))] := by
                  rw [sc]
                  simp only [List.map_append, List.map_cons, List.map_nil, List.append_assoc]
                refine ⟨some (.val (.int j)), some (.val (.list (ms.map eT))), r6, ?_⟩
                rw [e3]
                rfl
            · have q3 : decide (0 < needed c i a j) = false := q3
              exact wss_nil (stay (by rw [kn, q3, Bool.and_false, Bool.and_false]))
          · have q2 : (!PyData.eqv (.list (ms.map eT)) (.list [])) = false := q2
            rw [hme] at q2
            exact ⟨fun z => Bool.noConfusion z, fun _ => wss_nil (stay (by rw [kn, q2, Bool.false_and, Bool.and_false]))⟩
        · have q : (!PyData.eqv (.int i) (.int j)) = false := q
          rw [int_eqv] at q
          have q : decide ((j : Int) = (i : Int)) = true := by
            have : (i : Int) = j := by simpa using q
            exact decide_eq_true this.symm
          exact ⟨fun z => Bool.noConfusion z, fun _ => wss_nil (stay (by rw [kn, q]; rfl))⟩
      · rintro ρ' ⟨r4, r5, r6, rfl⟩
        have hl : ds2.length = c.n := by rw [hds2, List.length_map, List.length_range]
        rw [hl]
        refine ⟨some (.val (.int a)), r4, r5, r6, ?_⟩
        rw [step, lsOf_snoc]
    · rintro ρ' ⟨r3, r4, r5, r6, rfl⟩
      have e0 : (rangeD 1 (c.edOf i + 1)).length = (iRange 1 (c.edOf i + 1)).length := by rw [rangeD_i, List.length_map]
      refine ⟨some (.val (.int i)), r3, r4, r5, r6, ?_⟩
      show [_, some (R.own (.list ((lsOf c (upTo c i ++ ((iRange 1 (c.edOf i + 1)).take (rangeD 1 (c.edOf i + 1)).length).map fun a => ((i : Int), a))).map eL))), _, _, _, _, _] = _
      rw [e0, List.take_length, ← upTo_succ]
  · rintro ρ' ⟨r2, r3, r4, r5, r6, rfl⟩
    have hl : ds.length = c.n := by rw [hds, List.length_map, List.length_range]
    rw [hl]
    have e0 : upTo c c.n = everyX c := rfl
    rw [e0]
    obtain ⟨so, e2⟩ := sort_enc enc_L (by decide) (fun b => ⟨_, _, rfl⟩) (lsOf c (everyX c))
    refine wss_one (ws_ret (we_sorted B.bare hu (we_var 1 rfl ⟨_, rfl, so, ?_⟩)))
    rw [e2]
    exact hC
end
end LC
/-! Pushes in plain words; fixed ticks make a right plan. -/
namespace LC
open PySem
theorem lt_ge (a b : Int) : a < b ∨ b ≤ a := by omega
theorem md (t k P : Int) : (t + k * P) % P = t % P := Int.add_mul_emod_self_right t k P
theorem gap_uniq {c : Clock} {w : Int} (ok : c.Ok) (hw : c.whl w) {t g : Int} (h1 : t ≤ g) (h2 : g % c.P ∈ c.gaOf w) (h3 : ∀ s, t ≤ s → s < g → s % c.P ∉ c.gaOf w) : gapFrom c w t = g := by
  obtain ⟨g1, g2, g3, g4⟩ := gap_spec ok hw t
  rcases Int.lt_trichotomy (gapFrom c w t) g with z | z | z
  · exact absurd g3 (h3 _ g1 z)
  · exact z
  · exact absurd h2 (g4 _ h1 z)
theorem gap_shift {c : Clock} {w : Int} (ok : c.Ok) (hw : c.whl w) (t k : Int) : gapFrom c w (t + k * c.P) = gapFrom c w t + k * c.P := by
  obtain ⟨g1, g2, g3, g4⟩ := gap_spec ok hw t
  refine gap_uniq ok hw (by omega) (by rw [md]; exact g3) fun s a b z => ?_
  have e : (s - k * c.P) + k * c.P = s := by omega
  rw [← e, md] at z
  exact g4 (s - k * c.P) (by omega) (by omega) z
theorem gap_mono {c : Clock} {w : Int} (ok : c.Ok) (hw : c.whl w) {s t : Int} (h : s ≤ t) : gapFrom c w s ≤ gapFrom c w t := by
  obtain ⟨g1, g2, g3, g4⟩ := gap_spec ok hw s
  obtain ⟨k1, k2, k3, k4⟩ := gap_spec ok hw t
  rcases lt_ge (gapFrom c w t) (gapFrom c w s) with z | z
  · exact absurd k3 (g4 _ (by omega) z)
  · exact z
theorem above_uniq {c : Clock} {i j : Int} (ok : c.Ok) (hp : phasesOf c i j ≠ []) {t a : Int} (h1 : a ≤ t) (h2 : (a - 1) % c.P ∈ phasesOf c i j) (h3 : ∀ s, a ≤ s → s < t → s % c.P ∉ phasesOf c i j) : above c i j t = a := by
  obtain ⟨g1, g2, g3, g4⟩ := above_spec ok hp t
  rcases Int.lt_trichotomy (above c i j t) a with z | z | z
  · exact absurd h2 (g4 (a - 1) (by omega) (by omega))
  · exact z
  · exact absurd g3 (h3 (above c i j t - 1) (by omega) (by omega))
theorem above_shift {c : Clock} {i j : Int} (ok : c.Ok) (hp : phasesOf c i j ≠ []) (t k : Int) : above c i j (t + k * c.P) = above c i j t + k * c.P := by
  obtain ⟨g1, g2, g3, g4⟩ := above_spec ok hp t
  refine above_uniq ok hp (by omega) ?_ fun s a b z => ?_
  · have e : above c i j t + k * c.P - 1 = (above c i j t - 1) + k * c.P := by omega
    rw [e, md]; exact g3
  · have e : (s - k * c.P) + k * c.P = s := by omega
    rw [← e, md] at z
    exact g4 (s - k * c.P) (by omega) (by omega) z
theorem above_mono {c : Clock} {i j : Int} (ok : c.Ok) (hp : phasesOf c i j ≠ []) {s t : Int} (h : s ≤ t) : above c i j s ≤ above c i j t := by
  obtain ⟨g1, g2, g3, g4⟩ := above_spec ok hp s
  obtain ⟨k1, k2, k3, k4⟩ := above_spec ok hp t
  rcases lt_ge (above c i j t) (above c i j s) with z | z
  · exact absurd g3 (k4 (above c i j s - 1) (by omega) (by omega))
  · exact z
theorem lean_facts {c : Clock} (ok : c.Ok) {a b : Xg} (h : (a, b) ∈ leansOf c) : c.whl a.1 ∧ a ∈ everyX c ∧ b ∈ everyX c ∧ (a.1 ≠ b.1 → phasesOf c a.1 b.1 ≠ []) := by
  obtain ⟨h1, h2⟩ := leans_in ok h
  obtain ⟨h3, h4, _⟩ := needs_in ok h1 h2
  exact ⟨(everyX_in h1).1, h1, h3, h4⟩
theorem pushed_shift {c : Clock} (ok : c.Ok) {a b : Xg} (h : (a, b) ∈ leansOf c) (t k : Int) : pushed c a b (t + k * c.P) = pushed c a b t + k * c.P := by
  obtain ⟨hw, _, _, hp⟩ := lean_facts ok h
  unfold pushed
  by_cases z : a.1 = b.1
  · rw [if_pos z, if_pos z, show t + k * c.P + 1 = (t + 1) + k * c.P by omega, gap_shift ok hw]
  · rw [if_neg z, if_neg z, above_shift ok (hp z), gap_shift ok hw]
theorem pushed_mono {c : Clock} (ok : c.Ok) {a b : Xg} (h : (a, b) ∈ leansOf c) {s t : Int} (st : s ≤ t) : pushed c a b s ≤ pushed c a b t := by
  obtain ⟨hw, _, _, hp⟩ := lean_facts ok h
  unfold pushed
  by_cases z : a.1 = b.1
  · rw [if_pos z, if_pos z]; exact gap_mono ok hw (by omega)
  · rw [if_neg z, if_neg z]; exact gap_mono ok hw (above_mono ok (hp z) st)
theorem pushed_bd {c : Clock} (ok : c.Ok) {a b : Xg} (h : (a, b) ∈ leansOf c) (t : Int) : t - c.P < pushed c a b t ∧ pushed c a b t ≤ t + c.P := by
  obtain ⟨hw, _, _, hp⟩ := lean_facts ok h
  have := ok.p1
  unfold pushed
  by_cases z : a.1 = b.1
  · rw [if_pos z]
    obtain ⟨g1, g2, _⟩ := gap_spec ok hw (t + 1)
    omega
  · rw [if_neg z]
    obtain ⟨g1, g2, _⟩ := above_spec ok (hp z) t
    obtain ⟨g3, g4, _⟩ := gap_spec ok hw (above c a.1 b.1 t)
    omega
theorem pushed_gap {c : Clock} (ok : c.Ok) {a b : Xg} (h : (a, b) ∈ leansOf c) (t : Int) : pushed c a b t % c.P ∈ c.gaOf a.1 := by
  obtain ⟨hw, _, _, hp⟩ := lean_facts ok h
  unfold pushed
  by_cases z : a.1 = b.1
  · rw [if_pos z]; exact (gap_spec ok hw _).2.2.1
  · rw [if_neg z]; exact (gap_spec ok hw _).2.2.1
theorem reach_gap {c : Clock} (ok : c.Ok) {e : Xg} {v : Int} (h : Reach c e v) : e ∈ everyX c ∧ v % c.P ∈ c.gaOf e.1 := by
  cases h with
  | first he => exact ⟨he, (gap_spec ok (everyX_in he).1 0).2.2.1⟩
  | push hl _ => exact ⟨(lean_facts ok hl).2.1, pushed_gap ok hl _⟩
theorem reach_le {c : Clock} (ok : c.Ok) {T : Xg → Int} (fx : Fix c T) {e : Xg} {v : Int} (h : Reach c e v) : v ≤ T e := by
  induction h with
  | first he => exact fx.good.first _ he
  | push hl _ ih => exact Int.le_trans (pushed_mono ok hl ih) (fx.push _ hl)
theorem not_both {c : Clock} (ok : c.Ok) {T : Xg → Int} (fx : Fix c T) : ¬ ∃ e v, Reach c e v ∧ mostOf c ≤ v := by
  rintro ⟨e, v, h, hm⟩
  have h1 := reach_le ok fx h
  have h2 := fx.good.low e (reach_gap ok h).1
  omega
theorem lean_of {c : Clock} {e : Xg} (he : e ∈ everyX c) {o : Xg} (h : o ∈ needsOf c e) : (e, o) ∈ leansOf c := by
  unfold leansOf
  exact List.mem_flatMap.mpr ⟨e, he, List.mem_map.mpr ⟨o, (needsS_perm c e).mem_iff.mpr h, rfl⟩⟩
theorem lean_down {c : Clock} {w a : Int} (he : (w, a + 1) ∈ everyX c) (h : 1 ≤ a) : ((w, a + 1), (w, a)) ∈ leansOf c := by
  refine lean_of he ?_
  unfold needsOf needsTo
  refine List.mem_append.mpr (.inl ?_)
  rw [if_pos (show 1 < a + 1 by omega)]
  simp
theorem lean_keep {c : Clock} {e : Xg} (he : e ∈ everyX c) {j : Nat} (hj : j < c.n) (k : keepN c e j = true) : (e, ((j : Int), needed c e.1 e.2 j)) ∈ leansOf c := by
  refine lean_of he ?_
  unfold needsOf needsTo
  refine List.mem_append.mpr (.inr ?_)
  exact List.mem_map.mpr ⟨j, List.mem_filter.mpr ⟨List.mem_range.mpr hj, k⟩, rfl⟩
theorem T_step {c : Clock} (ok : c.Ok) {T : Xg → Int} (fx : Fix c T) {w a : Int} (he : (w, a + 1) ∈ everyX c) (h : 1 ≤ a) : T (w, a) < T (w, a + 1) := by
  have hl := lean_down he h
  have h1 := fx.push _ hl
  have h2 : pushed c (w, a + 1) (w, a) (T (w, a)) = gapFrom c w (T (w, a) + 1) := by unfold pushed; rw [if_pos rfl]
  have h3 : T (w, a) + 1 ≤ gapFrom c w (T (w, a) + 1) := (gap_spec ok (everyX_in he).1 (T (w, a) + 1)).1
  have h1 : pushed c (w, a + 1) (w, a) (T (w, a)) ≤ T (w, a + 1) := h1
  omega
theorem T_rise {c : Clock} (ok : c.Ok) {T : Xg → Int} (fx : Fix c T) {w a : Int} (h : 1 ≤ a) : ∀ k : Nat, (w, a + k + 1) ∈ everyX c → T (w, a) < T (w, a + k + 1)
  | 0, he => by
    have he : (w, a + ((0 : Nat) : Int) + 1) ∈ everyX c := he
    rw [show a + ((0 : Nat) : Int) + 1 = a + 1 by omega] at he ⊢
    exact T_step ok fx he h
  | k + 1, he => by
    have hi := everyX_in he
    have e0 : a + ((k + 1 : Nat) : Int) = a + k + 1 := by omega
    rw [e0] at he ⊢
    have h1 := T_rise ok fx h k (everyX_of hi.1 (by show 1 ≤ a + k + 1; omega) (by have := hi.2.2; have : a + ((k + 1 : Nat) : Int) + 1 ≤ c.edOf w := this; show a + k + 1 ≤ c.edOf w; omega))
    have h2 := T_step ok fx he (by omega)
    omega
theorem T_lt {c : Clock} (ok : c.Ok) {T : Xg → Int} (fx : Fix c T) {w a b : Int} (h : 1 ≤ a) (hab : a < b) (he : (w, b) ∈ everyX c) : T (w, a) < T (w, b) := by
  have e0 : b = a + (b - a - 1).toNat + 1 := by omega
  rw [e0] at he ⊢
  exact T_rise ok fx h _ he
theorem most_le {c : Clock} (ok : c.Ok) : mostOf c ≤ 100000 := by
  have h1 := everyX_len ok
  have h2 := ok.p1
  have h3 := ok.p2
  unfold mostOf
  have h4 : (if ((everyX c).length : Int) > 1 then ((everyX c).length : Int) else 1) ≤ 24 := by split <;> omega
  have h5 : 0 ≤ (if ((everyX c).length : Int) > 1 then ((everyX c).length : Int) else 1) := by split <;> omega
  generalize (if ((everyX c).length : Int) > 1 then ((everyX c).length : Int) else 1) = m at h4 h5
  have : 2 * c.P * m ≤ 24 * 24 := Int.mul_le_mul (by omega) h4 h5 (by omega)
  omega
theorem plan_at {c : Clock} {T : Xg → Int} {w : Nat} (h : w < c.n) : (planOf c T).getD w [] = (List.range (c.edOf w).toNat).map fun (k : Nat) => T ((w : Int), (k : Int) + 1) := by
  have hl : w < ((List.range c.n).map fun (w : Nat) => (iRange 0 (c.edOf w)).map fun a => T ((w : Int), a + 1)).length := by rw [List.length_map, List.length_range]; exact h
  unfold planOf
  rw [getD_at hl, List.getElem_map, List.getElem_range]
  unfold iRange
  rw [List.map_map, show (c.edOf w - 0).toNat = (c.edOf w).toNat by omega]
  refine List.map_congr_left fun k _ => ?_
  show T ((w : Int), 0 + (k : Int) + 1) = _
  rw [Int.zero_add]
theorem fix_plan {c : Clock} (ok : c.Ok) {T : Xg → Int} (fx : Fix c T) : PlanOk c (planOf c T) := by
  refine ⟨by unfold planOf; rw [List.length_map, List.length_range], fun w hw => ?_⟩
  have hww : c.whl (w : Int) := ⟨by omega, by omega⟩
  have hb := ok.edOf hww
  rw [plan_at hw]
  refine ⟨by rw [List.length_map, List.length_range]; omega, ?_, fun t ht => ?_⟩
  · unfold rising
    rw [List.pairwise_map]
    refine List.Pairwise.imp_of_mem (R := fun a b => a < b) (fun {a b} ha hb2 hab => ?_) List.pairwise_lt_range
    have hb2 := List.mem_range.mp hb2
    exact T_lt ok fx (by omega) (by omega) (everyX_of hww (by show 1 ≤ (b : Int) + 1; omega) (by show (b : Int) + 1 ≤ c.edOf w; omega))
  · obtain ⟨k, hk, rfl⟩ := List.mem_map.mp ht
    have hk := List.mem_range.mp hk
    have he : ((w : Int), (k : Int) + 1) ∈ everyX c := everyX_of hww (by show 1 ≤ (k : Int) + 1; omega) (by show (k : Int) + 1 ≤ c.edOf w; omega)
    have h1 := fx.good.first _ he
    have h2 := fx.good.low _ he
    have h3 := most_le ok
    have h4 := (gap_spec ok hww 0).1
    have h1 : gapFrom c w 0 ≤ T ((w : Int), (k : Int) + 1) := h1
    exact ⟨by omega, by omega, (reach_gap ok (fx.good.reach _ he)).2⟩
theorem count_down {p : Nat → Bool} : ∀ {n : Nat}, (∀ i j, i < j → j < n → p j = true → p i = true) → ∀ k, k < n → (p k = true ↔ k < ((List.range n).filter p).length)
  | 0, _, k, hk => absurd hk (Nat.not_lt_zero _)
  | n + 1, h, k, hk => by
    have ih := count_down (n := n) fun i j a b => h i j a (by omega)
    rw [List.range_succ, List.filter_append, List.length_append]
    by_cases z : p n = true
    · have hall : ∀ i, i < n → p i = true := fun i hi => h i n hi (by omega) z
      have e1 : (List.range n).filter p = List.range n := List.filter_eq_self.mpr fun a ha => hall a (List.mem_range.mp ha)
      rw [e1, List.length_range, List.filter_cons_of_pos z]
      have : p k = true := by
        rcases Nat.lt_or_ge k n with y | y
        · exact hall k y
        · have : k = n := by omega
          rw [this]; exact z
      simp [this]; omega
    · rw [List.filter_cons_of_neg z]
      rcases Nat.lt_or_ge k n with y | y
      · rw [ih k y]; simp
      · have e1 : k = n := by omega
        have := List.length_filter_le p (List.range n)
        rw [List.length_range] at this
        rw [e1]
        simp [z]; omega
theorem edAt_is {c : Clock} (ok : c.Ok) {T : Xg → Int} (fx : Fix c T) {w : Int} (hw : c.whl w) (t : Int) : 0 ≤ edAt (planOf c T) w t ∧ edAt (planOf c T) w t ≤ c.edOf w ∧ ∀ a, 1 ≤ a → a ≤ c.edOf w → (T (w, a) ≤ t ↔ a ≤ edAt (planOf c T) w t) := by
  have hb := ok.edOf hw
  have hww := hw
  obtain ⟨h0, h1⟩ := hw
  have e0 : ((w.toNat : Nat) : Int) = w := Int.toNat_of_nonneg h0
  unfold edAt
  rw [plan_at (by omega), e0, List.filter_map, List.length_map]
  have hc := count_down (p := (fun x => decide (x ≤ t)) ∘ fun (k : Nat) => T (w, (k : Int) + 1)) (n := (c.edOf w).toNat) fun i j a b q => by
    have q : T (w, (j : Int) + 1) ≤ t := of_decide_eq_true q
    have he : (w, (j : Int) + 1) ∈ everyX c := everyX_of hww (by show 1 ≤ (j : Int) + 1; omega) (by show (j : Int) + 1 ≤ c.edOf w; omega)
    have := T_lt ok fx (w := w) (a := (i : Int) + 1) (b := (j : Int) + 1) (by omega) (by omega) he
    exact decide_eq_true (by show T (w, (i : Int) + 1) ≤ t; omega)
  have hl := List.length_filter_le ((fun x => decide (x ≤ t)) ∘ fun (k : Nat) => T (w, (k : Int) + 1)) (List.range (c.edOf w).toNat)
  rw [List.length_range] at hl
  refine ⟨by omega, by omega, fun a a1 a2 => ?_⟩
  have := hc (a - 1).toNat (by omega)
  have e1 : (((a - 1).toNat : Nat) : Int) + 1 = a := by omega
  have e2 : (((fun x => decide (x ≤ t)) ∘ fun (k : Nat) => T (w, (k : Int) + 1)) (a - 1).toNat = true) ↔ T (w, a) ≤ t := by
    show decide (T (w, (((a - 1).toNat : Nat) : Int) + 1) ≤ t) = true ↔ _
    rw [e1]; exact decide_eq_true_iff
  rw [← e2, this]
  omega
theorem needed_pos {c : Clock} (ok : c.Ok) {w a j : Int} (h : 0 < needed c w a j) : 1 ≤ a := by
  unfold needed at h
  rcases maxL_mem (((entriesOf c w j).filter fun b => decide (b.2.1 ≤ a)).map (·.2.2.2)) with z | z
  · rw [z] at h; exact absurd h (by omega)
  · obtain ⟨b, hb, e⟩ := List.mem_map.mp z
    obtain ⟨h1, h2⟩ := List.mem_filter.mp hb
    have h2 : b.2.1 ≤ a := of_decide_eq_true h2
    unfold entriesOf at h1
    have := (ok.bo b (List.mem_filter.mp h1).1).2.1
    omega
theorem need_ok {c : Clock} (ok : c.Ok) {T : Xg → Int} (fx : Fix c T) {i j t : Int} (hi : c.whl i) (hj : c.whl j) (ij : i ≠ j) (ht : t % c.P ∈ phasesOf c i j) : needed c i (edAt (planOf c T) i t) j ≤ edAt (planOf c T) j t := by
  obtain ⟨i1, i2, i3⟩ := edAt_is ok fx hi t
  obtain ⟨j1, j2, j3⟩ := edAt_is ok fx hj t
  generalize edAt (planOf c T) i t = a at i1 i2 i3 ⊢
  generalize edAt (planOf c T) j t = b at j1 j2 j3 ⊢
  rcases lt_ge b (needed c i a j) with z | z
  · exfalso
    have np : 0 < needed c i a j := by omega
    have a1 := needed_pos ok np
    have nl := (needed_le ok np).2
    have hia : (i, a) ∈ everyX c := everyX_of hi a1 i2
    have ha : T (i, a) ≤ t := (i3 a a1 i2).mpr (Int.le_refl _)
    have hb : ¬ T (j, needed c i a j) ≤ t := fun q => by
      have := (j3 _ (by omega) nl).mp q
      omega
    have e0 : ((j.toNat : Nat) : Int) = j := Int.toNat_of_nonneg hj.1
    have hp : phasesOf c i j ≠ [] := fun q => by rw [q] at ht; cases ht
    have hl : ((i, a), (j, needed c i a j)) ∈ leansOf c := by
      have := lean_keep (c := c) hia (j := j.toNat) (by have := hj.2; omega) (by
        unfold keepN
        rw [e0]
        show (!decide (j = i) && (!(phasesOf c i j).isEmpty && decide (0 < needed c i a j))) = true
        rw [decide_eq_true np, decide_eq_false (fun q => ij q.symm)]
        cases e : phasesOf c i j with
        | nil => exact absurd e hp
        | cons x r => rfl)
      rw [e0] at this
      exact this
    have h1 : pushed c (i, a) (j, needed c i a j) (T (j, needed c i a j)) ≤ T (i, a) := fx.push _ hl
    have h2 : pushed c (i, a) (j, needed c i a j) (T (j, needed c i a j)) = gapFrom c i (above c i j (T (j, needed c i a j))) := by unfold pushed; rw [if_neg ij]
    obtain ⟨s1, s2, s3, s4⟩ := above_spec ok hp (T (j, needed c i a j))
    have h3 := (gap_spec ok hi (above c i j (T (j, needed c i a j)))).1
    exact s4 t (by omega) (by omega) ht
  · exact z
theorem stand_at {c : Clock} {pl : Plan} {w t : Int} (hw : c.whl w) : atW (standing c pl t) w = edAt pl w t := by
  have e0 : ((w.toNat : Nat) : Int) = w := Int.toNat_of_nonneg hw.1
  unfold atW standing
  rw [getD_at (by rw [List.length_map, List.length_range]; have := hw.2; have := hw.1; omega), List.getElem_map, List.getElem_range, e0]
theorem fix_right {c : Clock} (ok : c.Ok) {T : Xg → Int} (fx : Fix c T) : RightAt c (planOf c T) := by
  intro t _
  unfold notFit
  rw [List.filter_eq_nil_iff]
  intro p hp
  unfold pairsAt at hp
  obtain ⟨x, hx, rfl⟩ := List.mem_map.mp hp
  obtain ⟨hx, hph⟩ := List.mem_filter.mp hx
  have hph : x.1 = t % c.P := of_decide_eq_true hph
  obtain ⟨b1, b2, b3, b4, b5⟩ := ok.to x hx
  have hi : c.whl x.2.1 := ⟨b3, by omega⟩
  have hj : c.whl x.2.2 := ⟨by omega, b5⟩
  have hp1 : t % c.P ∈ phasesOf c x.2.1 x.2.2 := by
    unfold phasesOf
    refine List.mem_map.mpr ⟨x, List.mem_filter.mpr ⟨hx, decide_eq_true ?_⟩, hph⟩
    rw [Int.min_eq_left (by omega), Int.max_eq_right (by omega)]
  have hp2 : t % c.P ∈ phasesOf c x.2.2 x.2.1 := by
    unfold phasesOf
    refine List.mem_map.mpr ⟨x, List.mem_filter.mpr ⟨hx, decide_eq_true ?_⟩, hph⟩
    rw [Int.min_eq_right (by omega), Int.max_eq_left (by omega)]
  have h1 := need_ok ok fx hi hj (by omega) hp1
  have h2 := need_ok ok fx hj hi (by omega) hp2
  have : fitB c (standing c (planOf c T) t) x.2 = true := by
    unfold fitB
    rw [stand_at hi, stand_at hj, decide_eq_false (by omega), decide_eq_true h2]; rfl
  rw [this]; simp
end LC
/-! A tick that is reached too high gives a closed walk that gains. -/
namespace LC
open PySem
/-- each is a push of the one ahead -/
def Seq (c : Clock) (f : Nat → Node) (n : Nat) : Prop := ∀ i, i < n → ((f (i + 1)).1, (f i).1) ∈ leansOf c ∧ (f (i + 1)).2 = pushed c (f (i + 1)).1 (f i).1 (f i).2
theorem reach_seq {c : Clock} {e : Xg} {v : Int} (h : Reach c e v) : ∃ f n, Seq c f n ∧ (f 0).1 ∈ everyX c ∧ (f 0).2 = gapFrom c (f 0).1.1 0 ∧ f n = (e, v) := by
  induction h with
  | @first e he => exact ⟨fun _ => (e, gapFrom c e.1 0), 0, fun i hi => absurd hi (Nat.not_lt_zero _), he, rfl, rfl⟩
  | @push one other v hl _ ih =>
    obtain ⟨f, n, h1, h2, h3, h4⟩ := ih
    obtain ⟨g, g1, g2⟩ : ∃ g : Nat → Node, (∀ i, i ≤ n → g i = f i) ∧ g (n + 1) = (one, pushed c one other v) := ⟨fun i => if i ≤ n then f i else (one, pushed c one other v), fun i hi => if_pos hi, if_neg (by omega)⟩
    refine ⟨g, n + 1, fun i hi => ?_, by rw [g1 0 (Nat.zero_le _)]; exact h2, by rw [g1 0 (Nat.zero_le _)]; exact h3, g2⟩
    rcases Nat.lt_or_ge i n with z | z
    · rw [g1 (i + 1) z, g1 i (by omega)]; exact h1 i z
    · have : i = n := by omega
      subst this
      rw [g2, g1 i (Nat.le_refl _), h4]; exact ⟨hl, rfl⟩
theorem pigeon {α : Type} [DecidableEq α] {f : Nat → α} {n : Nat} {U : List α} (hU : ∀ i, i < n → f i ∈ U) (hn : U.length < n) : ∃ i j, i < j ∧ j < n ∧ f i = f j := by
  by_cases h : ∃ i j, i < j ∧ j < n ∧ f i = f j
  · exact h
  · exfalso
    have nd : ((List.range n).map f).Nodup := by
      rw [List.Nodup, List.pairwise_map]
      exact List.Pairwise.imp_of_mem (R := fun a b => a < b) (fun {a b} _ hb hab e => h ⟨a, b, hab, List.mem_range.mp hb, e⟩) List.pairwise_lt_range
    have := nodup_len nd (U := U) fun x hx => by
      obtain ⟨i, hi, rfl⟩ := List.mem_map.mp hx
      exact hU i (List.mem_range.mp hi)
    rw [List.length_map, List.length_range] at this
    omega
theorem last_of {p : Nat → Prop} {i : Nat} : ∀ {m : Nat}, i ≤ m → p i → ∃ j, i ≤ j ∧ j ≤ m ∧ p j ∧ ∀ k, j < k → k ≤ m → ¬ p k
  | 0, h, hp => ⟨i, Nat.le_refl _, h, hp, fun k a b => by omega⟩
  | m + 1, h, hp => by
    by_cases q : p (m + 1)
    · exact ⟨m + 1, h, Nat.le_refl _, q, fun k a b => by omega⟩
    · have hi : i ≤ m := by
        rcases Nat.lt_or_ge m i with z | z
        · have : i = m + 1 := by omega
          rw [this] at hp; exact absurd hp q
        · exact z
      obtain ⟨j, j1, j2, j3, j4⟩ := last_of hi hp
      refine ⟨j, j1, by omega, j3, fun k a b => ?_⟩
      rcases Nat.lt_or_ge m k with z | z
      · have : k = m + 1 := by omega
        rw [this]; exact q
      · exact j4 k a z
theorem climb {c : Clock} (ok : c.Ok) {f : Nat → Node} {m : Nat} (sq : Seq c f m) : ∀ (k : Nat) (S : List Xg), S.length = k → ∀ i, i ≤ m → (∀ j, i ≤ j → j ≤ m → (f j).1 ∈ S) → (∀ a b, i ≤ a → a ≤ b → b ≤ m → (f a).1 = (f b).1 → (f b).2 < (f a).2 + c.P) → (f m).2 + c.P ≤ (f i).2 + (k : Int) * (2 * c.P - 1)
  | 0, S, hS, i, hi, hin, _ => by
    have := hin i (Nat.le_refl _) hi
    rw [List.length_eq_zero_iff.mp hS] at this; cases this
  | k + 1, S, hS, i, hi, hin, hg => by
    obtain ⟨j, j1, j2, j3, j4⟩ := last_of (p := fun j => (f j).1 = (f i).1) hi rfl
    have g1 := hg i j (Nat.le_refl _) j1 j2 j3.symm
    have hP := ok.p1
    have e : ((k + 1 : Nat) : Int) * (2 * c.P - 1) = (k : Int) * (2 * c.P - 1) + (2 * c.P - 1) := by rw [Int.natCast_succ, Int.add_mul, Int.one_mul]
    rw [e]
    rcases Nat.lt_or_ge j m with z | z
    · have ih := climb ok sq k (S.erase (f i).1) (by rw [List.length_erase_of_mem (hin i (Nat.le_refl _) hi)]; omega) (j + 1) z (fun b b1 b2 => (List.mem_erase_of_ne (j4 b (by omega) b2)).mpr (hin b (by omega) b2)) (fun a b a1 a2 a3 => hg a b (by omega) a2 a3)
      obtain ⟨l1, l2⟩ := sq j z
      have := (pushed_bd ok l1 (f j).2).2
      rw [← l2] at this
      generalize (k : Int) * (2 * c.P - 1) = w at ih ⊢
      omega
    · have : j = m := by omega
      subst this
      have : 0 ≤ (k : Int) * (2 * c.P - 1) := Int.mul_nonneg (by omega) (by omega)
      generalize (k : Int) * (2 * c.P - 1) = w at this ⊢
      omega
theorem high_visit {c : Clock} (ok : c.Ok) {e : Xg} {v : Int} (h : Reach c e v) (hm : mostOf c ≤ v) : ∃ f n i j, Seq c f n ∧ i < j ∧ j ≤ n ∧ (f i).1 = (f j).1 ∧ (f i).2 + c.P ≤ (f j).2 := by
  obtain ⟨f, n, sq, h0, h1, h2⟩ := reach_seq h
  have hP := ok.p1
  by_cases q : ∃ i j, i < j ∧ j ≤ n ∧ (f i).1 = (f j).1 ∧ (f i).2 + c.P ≤ (f j).2
  · obtain ⟨i, j, q⟩ := q
    exact ⟨f, n, i, j, sq, q⟩
  · exfalso
    have hin : ∀ j, 0 ≤ j → j ≤ n → (f j).1 ∈ everyX c := fun j _ hj => by
      match j with
      | 0 => exact h0
      | j + 1 => exact (lean_facts ok (sq j hj).1).2.1
    have key := climb ok sq _ (everyX c) rfl 0 (Nat.zero_le _) hin fun a b _ hab hb e => by
      rcases Nat.lt_or_ge a b with z | z
      · rcases lt_ge (f b).2 ((f a).2 + c.P) with y | y
        · exact y
        · exact absurd ⟨a, b, z, hb, e, y⟩ q
      · have : a = b := by omega
        subst this
        omega
    have hg := (gap_spec ok (everyX_in h0).1 0).2.1
    rw [h2] at key
    have key : v + c.P ≤ (f 0).2 + ((everyX c).length : Int) * (2 * c.P - 1) := key
    rw [Int.mul_sub, Int.mul_one] at key
    have hn : 1 ≤ ((everyX c).length : Int) := by
      have := List.length_pos_of_mem h0
      omega
    unfold mostOf at hm
    have hle : ((everyX c).length : Int) ≤ (if ((everyX c).length : Int) > 1 then ((everyX c).length : Int) else 1) := by split <;> omega
    have h3 : 2 * c.P * ((everyX c).length : Int) ≤ 2 * c.P * (if ((everyX c).length : Int) > 1 then ((everyX c).length : Int) else 1) := Int.mul_le_mul_of_nonneg_left hle (by omega)
    rw [Int.mul_comm (2 * c.P) ((everyX c).length : Int)] at h3
    generalize ((everyX c).length : Int) * (2 * c.P) = w at key h3
    generalize 2 * c.P * (if ((everyX c).length : Int) > 1 then ((everyX c).length : Int) else 1) = w2 at hm h3
    omega
/-- the ticks along the exchanges y, from z on -/
def runX (c : Clock) (y : Nat → Xg) (z : Int) : Nat → Int
  | 0 => z
  | n + 1 => pushed c (y (n + 1)) (y n) (runX c y z n)
theorem runX_mono {c : Clock} (ok : c.Ok) {y : Nat → Xg} (hy : ∀ n, (y (n + 1), y n) ∈ leansOf c) {z z' : Int} (h : z ≤ z') : ∀ n, runX c y z n ≤ runX c y z' n
  | 0 => h
  | n + 1 => pushed_mono ok (hy n) (runX_mono ok hy h n)
theorem runX_shift {c : Clock} (ok : c.Ok) {y : Nat → Xg} (hy : ∀ n, (y (n + 1), y n) ∈ leansOf c) (z k : Int) : ∀ n, runX c y (z + k * c.P) n = runX c y z n + k * c.P
  | 0 => rfl
  | n + 1 => by
    show pushed c (y (n + 1)) (y n) (runX c y (z + k * c.P) n) = pushed c (y (n + 1)) (y n) (runX c y z n) + k * c.P
    rw [runX_shift ok hy z k n, pushed_shift ok (hy n)]
theorem runX_add {c : Clock} {y : Nat → Xg} {q : Nat} (hp : ∀ n, y (q + n) = y n) (z : Int) : ∀ n, runX c y z (q + n) = runX c y (runX c y z q) n
  | 0 => rfl
  | n + 1 => by
    show pushed c (y (q + n + 1)) (y (q + n)) (runX c y z (q + n)) = pushed c (y (n + 1)) (y n) (runX c y (runX c y z q) n)
    rw [runX_add hp z n, show q + n + 1 = q + (n + 1) by omega, hp, hp]
/-- a walk that is back at its exchange and phase, and later -/
structure Closed (c : Clock) (f : Nat → Node) (n : Nat) : Prop where
  sq : Seq c f n
  x : (f 0).1 = (f n).1
  ph : (f 0).2 % c.P = (f n).2 % c.P
  up : (f 0).2 < (f n).2
theorem high_closed {c : Clock} (ok : c.Ok) {e : Xg} {v : Int} (h : Reach c e v) (hm : mostOf c ≤ v) : ∃ f n, Closed c f n := by
  obtain ⟨f, n, i, j, sq, hij, hjn, hx, hv⟩ := high_visit ok h hm
  have hP := ok.p1
  obtain ⟨q, hq⟩ : ∃ q, q = j - i := ⟨_, rfl⟩
  have q0 : 0 < q := by omega
  obtain ⟨y, ey⟩ : ∃ y : Nat → Xg, ∀ m, y m = (f (i + m % q)).1 := ⟨fun m => (f (i + m % q)).1, fun _ => rfl⟩
  have yq : ∀ m, m ≤ q → y m = (f (i + m)).1 := fun m hm => by
    rw [ey]
    rcases Nat.lt_or_ge m q with z | z
    · rw [Nat.mod_eq_of_lt z]
    · have : m = q := by omega
      rw [this, Nat.mod_self, Nat.add_zero, show i + q = j by omega]
      exact hx
  have hy : ∀ m, (y (m + 1), y m) ∈ leansOf c := fun m => by
    have hr := Nat.mod_lt m q0
    have e1 : y (m + 1) = (f (i + m % q + 1)).1 := by
      have : y (m + 1) = y (m % q + 1) := by rw [ey, ey, Nat.mod_add_mod]
      rw [this, yq _ (by omega)]; rfl
    rw [e1, ey]
    exact (sq (i + m % q) (by omega)).1
  have hper : ∀ k m, y (k * q + m) = y m := fun k m => by rw [ey, ey, Nat.mul_add_mod']
  obtain ⟨a, ha⟩ : ∃ a, a = (f i).2 := ⟨_, rfl⟩
  have hrun : ∀ m, m ≤ q → runX c y a m = (f (i + m)).2 := by
    intro m
    induction m with
    | zero => intro _; exact ha
    | succ m ih =>
      intro hm
      show pushed c (y (m + 1)) (y m) (runX c y a m) = _
      rw [ih (by omega), yq _ hm, yq m (by omega)]
      exact (sq (i + m) (by omega)).2.symm
  have h1 : a + c.P ≤ runX c y a q := by
    rw [hrun q (Nat.le_refl _), show i + q = j by omega, ha]; exact hv
  have gain : ∀ z, z < runX c y z q := fun z => by
    have k1 := Int.ediv_mul_le (z - a) (b := c.P) (by omega)
    have k2 := Int.lt_ediv_add_one_mul_self (z - a) (b := c.P) (by omega)
    have k3 := runX_mono ok hy (show a + (z - a) / c.P * c.P ≤ z by omega) q
    rw [runX_shift ok hy] at k3
    rw [Int.add_mul, Int.one_mul] at k2
    omega
  have hZ : ∀ k, runX c y a ((k + 1) * q) = runX c y (runX c y a (k * q)) q := fun k => by
    rw [Nat.add_mul, Nat.one_mul]
    exact runX_add (hper k) a q
  have up : ∀ d k, runX c y a (k * q) < runX c y a ((k + d + 1) * q) := by
    intro d k
    induction d with
    | zero => rw [Nat.add_zero, hZ]; exact gain _
    | succ d ih =>
      rw [show k + (d + 1) + 1 = (k + d + 1) + 1 by omega, hZ]
      exact Int.lt_trans ih (gain _)
  obtain ⟨k, k', hk, _, he⟩ := pigeon (f := fun k => runX c y a (k * q) % c.P) (n := c.P.toNat + 1) (U := iRange 0 c.P) (fun i _ => iRange_mem.mpr ⟨Int.emod_nonneg _ (by omega), Int.emod_lt_of_pos _ (by omega)⟩) (by unfold iRange; rw [List.length_map, List.length_range]; omega)
  refine ⟨fun m => (y (k * q + m), runX c y a (k * q + m)), (k' - k) * q, fun m _ => ⟨hy (k * q + m), rfl⟩, ?_, ?_, ?_⟩
  · show y (k * q + 0) = y (k * q + (k' - k) * q)
    rw [hper, hper]
    have := hper (k' - k) 0
    rw [Nat.add_zero] at this
    exact this.symm
  · show runX c y a (k * q + 0) % c.P = runX c y a (k * q + (k' - k) * q) % c.P
    rw [← Nat.add_mul, show k + (k' - k) = k' by omega]
    exact he
  · show runX c y a (k * q + 0) < runX c y a (k * q + (k' - k) * q)
    rw [← Nat.add_mul, show k + (k' - k) = k + (k' - k - 1) + 1 by omega]
    exact up _ _
end LC
/-! A closed walk that gains gives a short one; the layers find it; what they find is a ring. -/
namespace LC
open PySem
def phK (c : Clock) (x : Node) : Node := (x.1, x.2 % c.P)
theorem mod_split (t P : Int) : t % P + t / P * P = t := Int.emod_add_ediv_mul t P
theorem pushed_ph {c : Clock} (ok : c.Ok) {a b : Xg} (h : (a, b) ∈ leansOf c) (t : Int) : pushed c a b t = pushed c a b (t % c.P) + (t - t % c.P) := by
  have h1 := mod_split t c.P
  have h2 := pushed_shift ok h (t % c.P) (t / c.P)
  rw [h1] at h2
  omega
theorem edge_at {c : Clock} (ok : c.Ok) {E : Edges} (hE : EdgesIs c E) {x y : Node} (h : (y.1, x.1) ∈ leansOf c) (hy : y.2 = pushed c y.1 x.1 x.2) : phK c x ∈ E.L ∧ ((y.1, y.2 % c.P, y.2 - x.2) : Edge) ∈ E.succ (phK c x) := by
  have hP := ok.p1
  have h2 : ((y.1, y.2 % c.P, y.2 - x.2) : Edge) ∈ E.succ (phK c x) := by
    refine (hE.succ _ _).mpr ⟨h, Int.emod_nonneg _ (by omega), Int.emod_lt_of_pos _ (by omega), ?_, ?_⟩
    · show y.2 % c.P = pushed c y.1 x.1 (x.2 % c.P) % c.P
      have h1 := mod_split x.2 c.P
      have h2 := pushed_shift ok h (x.2 % c.P) (x.2 / c.P)
      rw [h1] at h2
      rw [hy, h2, md]
    · show y.2 - x.2 = pushed c y.1 x.1 (x.2 % c.P) - x.2 % c.P
      rw [hy, pushed_ph ok h x.2]
      omega
  refine ⟨?_, h2⟩
  unfold Edges.succ at h2
  by_cases z : phK c x ∈ E.L
  · exact z
  · rw [if_neg z] at h2; cases h2
theorem short_closed {c : Clock} (ok : c.Ok) {E : Edges} (hE : EdgesIs c E) : ∀ (m n : Nat) (f : Nat → Node), n ≤ m → Closed c f n → ∃ f' n', n' ≤ E.L.length ∧ Closed c f' n'
  | 0, n, f, hm, h => by
    have : n = 0 := by omega
    subst this
    have := h.up
    omega
  | m + 1, n, f, hm, h => by
    rcases Nat.lt_or_ge E.L.length n with z | z
    · obtain ⟨i, j, hij, hj, he⟩ := pigeon (f := fun i => phK c (f i)) (n := n) (U := E.L) (fun i hi => (edge_at ok hE (h.sq i hi).1 (h.sq i hi).2).1) z
      obtain ⟨e1, e2⟩ := Prod.mk.inj (show ((f i).1, (f i).2 % c.P) = ((f j).1, (f j).2 % c.P) from he)
      rcases lt_ge (f i).2 (f j).2 with y | y
      · refine short_closed ok hE m (j - i) (fun k => f (i + k)) (by omega) ⟨fun k hk => h.sq (i + k) (by omega), ?_, ?_, ?_⟩
        · show (f (i + 0)).1 = (f (i + (j - i))).1
          rw [show i + (j - i) = j by omega]; exact e1
        · show (f (i + 0)).2 % c.P = (f (i + (j - i))).2 % c.P
          rw [show i + (j - i) = j by omega]; exact e2
        · show (f (i + 0)).2 < (f (i + (j - i))).2
          rw [show i + (j - i) = j by omega]; exact y
      · obtain ⟨d, hd⟩ : ∃ d, (f j).2 = (f i).2 + d * c.P := by
          have a1 := mod_split (f i).2 c.P
          have a2 := mod_split (f j).2 c.P
          refine ⟨(f j).2 / c.P - (f i).2 / c.P, ?_⟩
          rw [Int.sub_mul]
          omega
        obtain ⟨g, g1, g2⟩ : ∃ g : Nat → Node, (∀ k, k ≤ i → g k = f k) ∧ ∀ k, i < k → g k = ((f (k + (j - i))).1, (f (k + (j - i))).2 + (-d) * c.P) := ⟨fun k => if k ≤ i then f k else ((f (k + (j - i))).1, (f (k + (j - i))).2 + (-d) * c.P), fun k hk => if_pos hk, fun k hk => if_neg (by omega)⟩
        have g3 : ∀ k, i ≤ k → g k = ((f (k + (j - i))).1, (f (k + (j - i))).2 + (-d) * c.P) := fun k hk => by
          rcases Nat.lt_or_ge i k with z | z
          · exact g2 k z
          · have : k = i := by omega
            subst this
            rw [g1 k (Nat.le_refl _), show k + (j - k) = j by omega, hd]
            refine Prod.ext e1 ?_
            show (f k).2 = (f k).2 + d * c.P + -d * c.P
            rw [Int.neg_mul]
            omega
        refine short_closed ok hE m (n - (j - i)) g (by omega) ⟨fun k hk => ?_, ?_, ?_, ?_⟩
        · rcases Nat.lt_or_ge k i with z | z
          · rw [g1 k (by omega), g1 (k + 1) z]; exact h.sq k (by omega)
          · obtain ⟨s1, s2⟩ := h.sq (k + (j - i)) (by omega)
            rw [g3 k z, g3 (k + 1) (by omega), show k + 1 + (j - i) = k + (j - i) + 1 by omega]
            refine ⟨s1, ?_⟩
            show (f (k + (j - i) + 1)).2 + (-d) * c.P = pushed c (f (k + (j - i) + 1)).1 (f (k + (j - i))).1 ((f (k + (j - i))).2 + (-d) * c.P)
            rw [pushed_shift ok s1, s2]
        · rw [g1 0 (Nat.zero_le _), g3 (n - (j - i)) (by omega), show n - (j - i) + (j - i) = n by omega]
          exact h.x
        · rw [g1 0 (Nat.zero_le _), g3 (n - (j - i)) (by omega), show n - (j - i) + (j - i) = n by omega]
          show (f 0).2 % c.P = ((f n).2 + (-d) * c.P) % c.P
          rw [md]; exact h.ph
        · rw [g1 0 (Nat.zero_le _), g3 (n - (j - i)) (by omega), show n - (j - i) + (j - i) = n by omega]
          show (f 0).2 < (f n).2 + (-d) * c.P
          have := h.up
          rw [Int.neg_mul]
          omega
    · exact ⟨f, n, z, h⟩
/-! ### the layers hold the most that a walk gains -/
def Has (y : Layer) (x : Node) (b : Int) : Prop := x ∈ y.L ∧ b ≤ (y.T x).1
theorem Has.addE {y : Layer} {x : Node} {b : Int} (h : Has y x b) (n : Node) (g : Int) (e : Edge) : Has (addE n g y e) x b := by
  obtain ⟨h1, h2⟩ := h
  unfold LC.addE
  split
  · rename_i q
    refine ⟨List.mem_append.mpr (.inl h1), ?_⟩
    show b ≤ (putT y.T (endOf e) _ x).1
    unfold putT
    rw [if_neg (show ¬ x = endOf e from fun z => q (z ▸ h1))]
    exact h2
  · split
    · rename_i q
      refine ⟨h1, ?_⟩
      show b ≤ (putT y.T (endOf e) _ x).1
      unfold putT
      by_cases z : x = endOf e
      · rw [if_pos z]
        rw [z] at h2
        show b ≤ g + e.2.2
        omega
      · rw [if_neg z]; exact h2
    · exact ⟨h1, h2⟩
theorem has_got (y : Layer) (n : Node) (g : Int) (e : Edge) : Has (addE n g y e) (endOf e) (g + e.2.2) := by
  unfold LC.addE
  split
  · refine ⟨List.mem_append.mpr (.inr List.mem_cons_self), ?_⟩
    show _ ≤ (putT y.T (endOf e) _ (endOf e)).1
    unfold putT
    rw [if_pos rfl]
    exact Int.le_refl _
  · rename_i q
    have q : endOf e ∈ y.L := Decidable.not_not.mp q
    split
    · refine ⟨q, ?_⟩
      show _ ≤ (putT y.T (endOf e) _ (endOf e)).1
      unfold putT
      rw [if_pos rfl]
      exact Int.le_refl _
    · exact ⟨q, by omega⟩
theorem Has.fold {x : Node} {b : Int} {n : Node} {g : Int} : ∀ {es : List Edge} {y : Layer}, Has y x b → Has (es.foldl (LC.addE n g) y) x b
  | [], _, h => h
  | e :: es, y, h => Has.fold (es := es) (h.addE n g e)
theorem fold_got {n : Node} {g : Int} {e : Edge} : ∀ {es : List Edge} {y : Layer}, e ∈ es → Has (es.foldl (LC.addE n g) y) (endOf e) (g + e.2.2)
  | e' :: es, y, h => by
    rcases List.mem_cons.mp h with rfl | h
    · exact Has.fold (es := es) (y := addE n g y e) (has_got y n g e)
    · exact fold_got (es := es) h
theorem Has.foldN {E : Edges} {f : Layer} {x : Node} {b : Int} : ∀ {ns : List Node} {y : Layer}, Has y x b → Has (ns.foldl (addN E f) y) x b
  | [], _, h => h
  | n :: ns, y, h => Has.foldN (ns := ns) (y := addN E f y n) (Has.fold h)
theorem foldN_got {E : Edges} {f : Layer} {n : Node} {e : Edge} (he : e ∈ E.succ n) : ∀ {ns : List Node} {y : Layer}, n ∈ ns → Has (ns.foldl (addN E f) y) (endOf e) ((f.T n).1 + e.2.2)
  | n' :: ns, y, h => by
    rcases List.mem_cons.mp h with rfl | h
    · exact Has.foldN (ns := ns) (y := addN E f y n) (fold_got he)
    · exact foldN_got he (ns := ns) h
theorem next_got {E : Edges} {y : Layer} {n : Node} {e : Edge} {b : Int} (h : Has y n b) (he : e ∈ E.succ n) : Has (nextL E y) (endOf e) (b + e.2.2) := by
  obtain ⟨h1, h2⟩ := h
  obtain ⟨k1, k2⟩ := foldN_got (f := y) he (ns := y.L) (y := emptyL) h1
  exact ⟨k1, Int.le_trans (by omega) k2⟩
theorem lay_got {c : Clock} (ok : c.Ok) {E : Edges} (hE : EdgesIs c E) {f : Nat → Node} {m : Nat} (sq : Seq c f m) : ∀ i, i ≤ m → Has (lay E (phK c (f 0)) i) (phK c (f i)) ((f i).2 - (f 0).2)
  | 0, _ => ⟨List.mem_cons_self, by show (f 0).2 - (f 0).2 ≤ 0; omega⟩
  | i + 1, hi => by
    have ih := lay_got ok hE sq i (by omega)
    obtain ⟨_, h2⟩ := edge_at ok hE (sq i hi).1 (sq i hi).2
    obtain ⟨k1, k2⟩ := next_got ih h2
    refine ⟨k1, ?_⟩
    have k2 : (f i).2 - (f 0).2 + ((f (i + 1)).2 - (f i).2) ≤ ((lay E (phK c (f 0)) (i + 1)).T (phK c (f (i + 1)))).1 := k2
    omega
theorem ring_exists {c : Clock} (ok : c.Ok) (h : ∃ e v, Reach c e v ∧ mostOf c ≤ v) (E : Edges) (hE : EdgesIs c E) : ∃ s ∈ E.L, ∃ k, 1 ≤ k ∧ k ≤ E.L.length ∧ goodL E s k = true := by
  obtain ⟨e, v, hr, hm⟩ := h
  obtain ⟨f0, n0, h0⟩ := high_closed ok hr hm
  obtain ⟨f, n, hn, cl⟩ := short_closed ok hE n0 n0 f0 (Nat.le_refl _) h0
  have n1 : 1 ≤ n := by
    rcases Nat.lt_or_ge 0 n with z | z
    · exact z
    · have : n = 0 := by omega
      subst this
      have := cl.up
      omega
  have e0 : phK c (f n) = phK c (f 0) := Prod.ext cl.x.symm cl.ph.symm
  obtain ⟨k1, k2⟩ := lay_got ok hE cl.sq n (Nat.le_refl _)
  rw [e0] at k1 k2
  have up := cl.up
  refine ⟨phK c (f 0), (edge_at ok hE (cl.sq 0 n1).1 (cl.sq 0 n1).2).1, n, n1, hn, ?_⟩
  unfold goodL
  rw [Bool.and_eq_true]
  exact ⟨decide_eq_true k1, decide_eq_true (by omega)⟩
/-! ### what the layers find is a ring -/
theorem bk_step {E : Edges} {s : Node} {k i : Nat} (hs : s ∈ (lay E s k).L) (hi : i < k) : ∃ e, e ∈ E.succ (bk E s k (k - i)) ∧ endOf e = bk E s k (k - (i + 1)) ∧ ((lay E s (i + 1)).T (bk E s k (k - (i + 1)))).1 = ((lay E s i).T (bk E s k (k - i))).1 + e.2.2 := by
  have hin := bk_in hs (k - (i + 1)) (by omega)
  rw [show k - (k - (i + 1)) = i + 1 by omega] at hin
  obtain ⟨g, p, ed, h1, h2, h3, h4, h5⟩ := lay_prev E s i (bk E s k (k - (i + 1))) hin
  have e2 : bk E s k (k - i) = p := by
    rw [show k - i = (k - (i + 1)) + 1 by omega]
    show ((lay E s (k - (k - (i + 1)))).T (bk E s k (k - (i + 1)))).2.getD s = p
    rw [show k - (k - (i + 1)) = i + 1 by omega, h1]; rfl
  rw [e2]
  exact ⟨ed, h3, h4, by rw [h1]; exact h5⟩
theorem walk_at {E : Edges} {s : Node} {k i : Nat} (hi : i ≤ k) : (walkL E s k)[i]? = some (bk E s k (k - i)) := by
  unfold walkL
  have hl : ((List.range (k + 1)).map (bk E s k)).length = k + 1 := by rw [List.length_map, List.length_range]
  rw [List.getElem?_eq_getElem (by rw [List.length_reverse, hl]; omega), List.getElem_reverse, List.getElem_map, List.getElem_range]
  congr 2
  rw [hl]
  omega
theorem ring_nums {c : Clock} (ok : c.Ok) {E : Edges} (hE : EdgesIs c E) {s : Node} {k : Nat} (hs : s ∈ (lay E s k).L) (hk : 1 ≤ k) {rest : List Node} (hw : walkL E s k = s :: rest) : ∀ i, i ≤ k →
    curR c s rest i = ((bk E s k (k - i)).1, s.2 + ((lay E s i).T (bk E s k (k - i))).1) ∧ (s.2 + ((lay E s i).T (bk E s k (k - i))).1) % c.P = (bk E s k (k - i)).2 ∧
      -(12 * (i : Int)) ≤ ((lay E s i).T (bk E s k (k - i))).1 ∧ ((lay E s i).T (bk E s k (k - i))).1 ≤ 12 * (i : Int)
  | 0, _ => by
    have e0 : bk E s k k = s := by
      have := walk_at (E := E) (s := s) (k := k) (i := 0) (Nat.zero_le _)
      rw [hw] at this
      exact (Option.some.inj this).symm
    obtain ⟨ed, d1, _⟩ := bk_step (i := 0) hs hk
    rw [show k - 0 = k from rfl, e0] at d1 ⊢
    obtain ⟨_, b1, b2, _⟩ := (hE.succ s ed).mp d1
    have z : ((lay E s 0).T s).1 = 0 := rfl
    rw [z, Int.add_zero]
    exact ⟨rfl, Int.emod_eq_of_lt b1 b2, by omega, by omega⟩
  | i + 1, hi => by
    obtain ⟨ih1, ih2, ih3, ih4⟩ := ring_nums ok hE hs hk hw i (by omega)
    obtain ⟨ed, d1, d2, d3⟩ := bk_step (i := i) hs hi
    have hx : rest[i]? = some (bk E s k (k - (i + 1))) := by
      have := walk_at (E := E) (s := s) (k := k) (i := i + 1) hi
      rw [hw] at this
      simpa using this
    rw [curR_succ hx, ih1, d3]
    generalize bk E s k (k - (i + 1)) = b at d2 ⊢
    generalize bk E s k (k - i) = a at d1 ih1 ih2 ih3 ih4 ⊢
    generalize ((lay E s i).T a).1 = G at ih1 ih2 ih3 ih4 ⊢
    obtain ⟨l1, b1, b2, f1, f2⟩ := (hE.succ a ed).mp d1
    have e1 : b.1 = ed.1 := by rw [← d2]; rfl
    have e2 : b.2 = ed.2.1 := by rw [← d2]; rfl
    have hp := pushed_ph ok l1 (s.2 + G)
    rw [ih2] at hp
    have hb := pushed_bd ok l1 a.2
    have p2 := ok.p2
    have key : pushed c b.1 a.1 (s.2 + G) = s.2 + (G + ed.2.2) := by rw [e1, hp, f2]; omega
    refine ⟨?_, ?_, by omega, by omega⟩
    · show (b.1, pushed c b.1 a.1 (s.2 + G)) = _
      rw [key]
    · rw [← key, e2, f1, e1, hp]
      have h1 := mod_split (s.2 + G) c.P
      rw [ih2] at h1
      rw [show pushed c ed.1 a.1 a.2 + (s.2 + G - a.2) = pushed c ed.1 a.1 a.2 + (s.2 + G) / c.P * c.P by omega, md]
theorem seen_at {c : Clock} {n0 : Node} {rest : List Node} {m i : Nat} (hi : i ≤ m) : (seenR c n0 rest m)[i]? = some (curR c n0 rest i) := by
  unfold seenR
  rw [List.getElem?_map, List.getElem?_range (by omega)]; rfl
theorem ring_ok {c : Clock} (ok : c.Ok) {E : Edges} (hE : EdgesIs c E) {s : Node} {k : Nat} (h1 : 1 ≤ k) (h2 : k ≤ 300) (hg : goodL E s k = true) : RingOk c (ringOut c (walkL E s k)) := by
  unfold goodL at hg
  rw [Bool.and_eq_true] at hg
  have hs : s ∈ (lay E s k).L := of_decide_eq_true hg.1
  have hgn : 0 < ((lay E s k).T s).1 := of_decide_eq_true hg.2
  have hlen : (walkL E s k).length = k + 1 := by unfold walkL; simp
  have e0 : bk E s k k = s := by
    have := bk_in hs k (Nat.le_refl _)
    rw [Nat.sub_self] at this
    rcases List.mem_cons.mp this with z | z
    · exact z
    · cases z
  obtain ⟨rest, hw⟩ : ∃ rest, walkL E s k = s :: rest := by
    have h0 := walk_at (E := E) (s := s) (k := k) (i := 0) (Nat.zero_le _)
    rw [show k - 0 = k from rfl, e0] at h0
    cases e : walkL E s k with
    | nil => rw [e] at h0; cases h0
    | cons a r =>
      rw [e] at h0
      have : a = s := Option.some.inj h0
      exact ⟨r, by rw [this]⟩
  have hr : rest.length = k := by rw [hw] at hlen; simpa using hlen
  have nums := ring_nums ok hE hs h1 hw
  have n2 := ok.n2
  have p2 := ok.p2
  rw [hw]
  show RingOk c (seenR c s rest rest.length)
  rw [hr]
  have hl : (seenR c s rest k).length = k + 1 := by unfold seenR; rw [List.length_map, List.length_range]
  have s0 : 0 ≤ s.2 ∧ s.2 < c.P := by
    obtain ⟨ed, d1, _⟩ := bk_step (i := 0) hs h1
    rw [show k - 0 = k from rfl, e0] at d1
    obtain ⟨_, b1, b2, _⟩ := (hE.succ s ed).mp d1
    exact ⟨b1, b2⟩
  have lean : ∀ i, i < k → ((bk E s k (k - (i + 1))).1, (bk E s k (k - i)).1) ∈ leansOf c := fun i hi => by
    obtain ⟨ed, d1, d2, _⟩ := bk_step (i := i) hs hi
    rw [← d2]
    exact ((hE.succ _ ed).mp d1).1
  have evx : ∀ i, i ≤ k → (bk E s k (k - i)).1 ∈ everyX c := fun i hi => by
    rcases Nat.lt_or_ge i k with z | z
    · exact (lean_facts ok (lean i z)).2.2.1
    · obtain ⟨i, rfl⟩ : ∃ j, i = j + 1 := ⟨i - 1, by omega⟩
      exact (lean_facts ok (lean i (by omega))).2.1
  refine ⟨by omega, by omega, fun p hp => ?_, fun i a b ha hb => ?_, ?_⟩
  · obtain ⟨i, hi⟩ := List.getElem?_of_mem hp
    have hik : i ≤ k := by have := (List.getElem?_eq_some_iff.mp hi).1; omega
    rw [seen_at hik] at hi
    have hi : curR c s rest i = p := Option.some.inj hi
    obtain ⟨m1, _, m3, m4⟩ := nums i hik
    rw [m1] at hi
    subst hi
    have hx := everyX_in (evx i hik)
    have hed := ok.edOf hx.1
    have hw0 := hx.1.1
    have hw1 := hx.1.2
    intro x hx2
    rcases List.mem_cons.mp hx2 with rfl | hx2
    · show _ ≤ (bk E s k (k - i)).1.1 ∧ (bk E s k (k - i)).1.1 ≤ _
      omega
    · rcases List.mem_cons.mp hx2 with rfl | hx2
      · show _ ≤ (bk E s k (k - i)).1.2 ∧ (bk E s k (k - i)).1.2 ≤ _
        omega
      · rcases List.mem_cons.mp hx2 with rfl | hx2
        · show _ ≤ s.2 + ((lay E s i).T (bk E s k (k - i))).1 ∧ s.2 + ((lay E s i).T (bk E s k (k - i))).1 ≤ _
          omega
        · cases hx2
  · have hik : i + 1 ≤ k := by have := (List.getElem?_eq_some_iff.mp hb).1; omega
    rw [seen_at (by omega)] at ha
    rw [seen_at hik] at hb
    have ha : curR c s rest i = a := Option.some.inj ha
    have hb : curR c s rest (i + 1) = b := Option.some.inj hb
    have hx : rest[i]? = some (bk E s k (k - (i + 1))) := by
      have := walk_at (E := E) (s := s) (k := k) (i := i + 1) hik
      rw [hw] at this
      simpa using this
    have hb2 := hb
    rw [curR_succ hx, ha] at hb2
    obtain ⟨m1, _⟩ := nums i (by omega)
    rw [ha] at m1
    have l := lean i hik
    have a1 : a.1 = (bk E s k (k - i)).1 := by rw [m1]
    rw [← hb2]
    exact ⟨by show ((bk E s k (k - (i + 1))).1, a.1) ∈ _; rw [a1]; exact l, rfl⟩
  · obtain ⟨m1, m2, _⟩ := nums k (Nat.le_refl _)
    obtain ⟨z1, z2, _⟩ := nums 0 (Nat.zero_le _)
    rw [Nat.sub_self] at m1 m2
    have b0 : bk E s k 0 = s := rfl
    rw [b0] at m1 m2
    refine ⟨s, (s.1, s.2 + ((lay E s k).T s).1), ?_, ?_, rfl, s0.1, s0.2, ?_, ?_⟩
    · rw [seen_at (Nat.zero_le _)]; rfl
    · rw [hl, Nat.add_sub_cancel, seen_at (Nat.le_refl _), m1]
    · show 0 < s.2 + ((lay E s k).T s).1 - s.2
      omega
    · show (s.2 + ((lay E s k).T s).1 - s.2) % c.P = 0
      rw [Int.sub_emod, m2, Int.emod_eq_of_lt s0.1 s0.2, Int.sub_self, Int.zero_emod]
end LC
/-! What the law asks of a plan and of a ring, in plain words. -/
namespace LC
open PySem
theorem ring_small {c : Clock} (ok : c.Ok) {E : Edges} (hE : EdgesIs c E) {s : Node} {k : Nat} (h1 : 1 ≤ k) (h2 : k ≤ 300) (hg : goodL E s k = true) : ∀ p ∈ ringOut c (walkL E s k), -100000 ≤ p.2 ∧ p.2 ≤ 100000 := by
  unfold goodL at hg
  rw [Bool.and_eq_true] at hg
  have hs : s ∈ (lay E s k).L := of_decide_eq_true hg.1
  have hlen : (walkL E s k).length = k + 1 := by unfold walkL; simp
  have e0 : bk E s k k = s := by
    have := bk_in hs k (Nat.le_refl _)
    rw [Nat.sub_self] at this
    rcases List.mem_cons.mp this with z | z
    · exact z
    · cases z
  obtain ⟨rest, hw⟩ : ∃ rest, walkL E s k = s :: rest := by
    have h0 := walk_at (E := E) (s := s) (k := k) (i := 0) (Nat.zero_le _)
    rw [show k - 0 = k from rfl, e0] at h0
    cases e : walkL E s k with
    | nil => rw [e] at h0; cases h0
    | cons a r =>
      rw [e] at h0
      have : a = s := Option.some.inj h0
      exact ⟨r, by rw [this]⟩
  have hr : rest.length = k := by rw [hw] at hlen; simpa using hlen
  have nums := ring_nums ok hE hs h1 hw
  have p2 := ok.p2
  have s0 : 0 ≤ s.2 ∧ s.2 < c.P := by
    obtain ⟨ed, d1, _⟩ := bk_step (i := 0) hs h1
    rw [show k - 0 = k from rfl, e0] at d1
    obtain ⟨_, b1, b2, _⟩ := (hE.succ s ed).mp d1
    exact ⟨b1, b2⟩
  rw [hw]
  show ∀ p ∈ seenR c s rest rest.length, _
  rw [hr]
  intro p hp
  obtain ⟨i, hi⟩ := List.getElem?_of_mem hp
  have hik : i ≤ k := by
    have := (List.getElem?_eq_some_iff.mp hi).1
    unfold seenR at this
    rw [List.length_map, List.length_range] at this
    omega
  rw [seen_at hik] at hi
  have hi : curR c s rest i = p := Option.some.inj hi
  obtain ⟨m1, _, m3, m4⟩ := nums i hik
  rw [m1] at hi
  subst hi
  show -100000 ≤ s.2 + ((lay E s i).T (bk E s k (k - i))).1 ∧ s.2 + ((lay E s i).T (bk E s k (k - i))).1 ≤ 100000
  omega
theorem plan_lens {c : Clock} {pl : Plan} (pk : PlanOk c pl) : (pl.map fun g => (g.length : Int)) = c.ed := by
  apply List.ext_getElem
  · rw [List.length_map, pk.len]; rfl
  · intro i h1 h2
    have hi : i < c.n := h2
    have hp : i < pl.length := by rw [pk.len]; exact hi
    rw [List.getElem_map]
    have := (pk.at_ i hi).1
    rw [getD_at hp] at this
    rw [this]
    unfold Clock.edOf
    rw [Int.toNat_natCast, getD_at h2]
theorem flat_sum {α β : Type} {f : α → List β} : ∀ l : List α, ((l.flatMap f).length : Int) = (l.map fun a => ((f a).length : Int)).sum
  | [] => rfl
  | a :: l => by
    rw [List.flatMap_cons, List.length_append, List.map_cons, List.sum_cons, ← flat_sum l]
    omega
theorem everyX_sum {c : Clock} (ok : c.Ok) : ((everyX c).length : Int) = c.ed.sum := by
  unfold everyX
  rw [flat_sum]
  congr 1
  apply List.ext_getElem
  · rw [List.length_map, List.length_range]; rfl
  · intro i h1 h2
    rw [List.getElem_map, List.getElem_range, List.length_map]
    have hb := ok.edOf (w := i) ⟨by omega, by have : i < c.n := h2; omega⟩
    have e : c.edOf i = c.ed[i] := by unfold Clock.edOf; rw [Int.toNat_natCast, getD_at h2]
    unfold iRange
    rw [List.length_map, List.length_range, ← e]
    omega
theorem most_sum {c : Clock} (ok : c.Ok) {e : Xg} (he : e ∈ everyX c) : mostOf c = 2 * c.P * c.ed.sum := by
  have h1 := everyX_sum ok
  have h2 := List.length_pos_of_mem he
  unfold mostOf
  have e1 : (if ((everyX c).length : Int) > 1 then ((everyX c).length : Int) else 1) = c.ed.sum := by split <;> omega
  rw [e1, Int.zero_add]
theorem rise_unique : ∀ {a b : List Int}, a.Pairwise (· < ·) → b.Pairwise (· < ·) → (∀ x, x ∈ a ↔ x ∈ b) → a = b
  | [], [], _, _, _ => rfl
  | [], y :: b, _, _, h => by have := (h y).mpr List.mem_cons_self; cases this
  | x :: a, [], _, _, h => by have := (h x).mp List.mem_cons_self; cases this
  | x :: a, y :: b, ha, hb, h => by
    have ha' := List.pairwise_cons.mp ha
    have hb' := List.pairwise_cons.mp hb
    have e : x = y := by
      rcases List.mem_cons.mp ((h x).mp List.mem_cons_self) with z | z
      · exact z
      · rcases List.mem_cons.mp ((h y).mpr List.mem_cons_self) with z2 | z2
        · exact z2.symm
        · have h1 := hb'.1 x z
          have h2 := ha'.1 y z2
          omega
    subst e
    rw [rise_unique ha'.2 hb'.2 fun z => ?_]
    constructor
    · intro hz
      rcases List.mem_cons.mp ((h z).mp (List.mem_cons_of_mem _ hz)) with q | q
      · have := ha'.1 z hz
        omega
      · exact q
    · intro hz
      rcases List.mem_cons.mp ((h z).mpr (List.mem_cons_of_mem _ hz)) with q | q
      · have := hb'.1 z hz
        omega
      · exact q
/-- each planned tick is below two rounds for each exchange -/
theorem plan_low {c : Clock} (ok : c.Ok) {T : Xg → Int} (fx : Fix c T) {w : Nat} (hw : w < c.n) {t : Int} (ht : t ∈ (planOf c T).getD w []) : t < 2 * c.P * c.ed.sum := by
  rw [plan_at hw] at ht
  obtain ⟨k, hk, rfl⟩ := List.mem_map.mp ht
  have hk := List.mem_range.mp hk
  have hww : c.whl (w : Int) := ⟨by omega, by omega⟩
  have he : ((w : Int), (k : Int) + 1) ∈ everyX c := everyX_of hww (by show 1 ≤ (k : Int) + 1; omega) (by show (k : Int) + 1 ≤ c.edOf w; omega)
  have := fx.good.low _ he
  rw [most_sum ok he] at this
  exact this
end LC
/-! The walks of the law's own defs: a push. -/
namespace LC
open PySem L2 PySem.Spec PyProof.Rows
/-- the law's search for the last touch ahead of t, i steps on -/
def Seen (c : Clock) (i j t : Int) (k : Nat) (L : Int) : Prop :=
  (L = t - 2 * c.P ∧ ∀ s, t - c.P ≤ s → s < t - c.P + k → s % c.P ∉ phasesOf c i j) ∨ (t - c.P < L ∧ L ≤ t - c.P + k ∧ (L - 1) % c.P ∈ phasesOf c i j ∧ ∀ s, L ≤ s → s < t - c.P + k → s % c.P ∉ phasesOf c i j)
theorem Seen.last {c : Clock} {i j t L : Int} (ok : c.Ok) (hp : phasesOf c i j ≠ []) {k : Nat} (hk : (k : Int) = c.P) (h : Seen c i j t k L) : L = above c i j t := by
  have hP := ok.p1
  rcases h with ⟨_, h⟩ | ⟨h1, h2, h3, h4⟩
  · obtain ⟨a1, a2, a3, _⟩ := above_spec ok hp t
    exact absurd a3 (h (above c i j t - 1) (by omega) (by omega))
  · exact (above_uniq ok hp (by omega) h3 fun s a b => h4 s a (by omega)).symm
theorem Seen.hit {c : Clock} {i j t L : Int} (ok : c.Ok) {k : Nat} (h : Seen c i j t k L) (hp : (t - c.P + k) % c.P ∈ phasesOf c i j) : Seen c i j t (k + 1) (t - c.P + k + 1) ∧ L ≤ t - c.P + k + 1 := by
  have hP := ok.p1
  refine ⟨.inr ⟨by omega, by omega, by rw [show t - c.P + k + 1 - 1 = t - c.P + k by omega]; exact hp, fun s a b => by omega⟩, ?_⟩
  rcases h with ⟨e, _⟩ | ⟨_, e, _⟩
  · omega
  · omega
theorem Seen.miss {c : Clock} {i j t L : Int} {k : Nat} (h : Seen c i j t k L) (hp : (t - c.P + k) % c.P ∉ phasesOf c i j) : Seen c i j t (k + 1) L := by
  rcases h with ⟨e, h⟩ | ⟨h1, h2, h3, h4⟩
  · refine .inl ⟨e, fun s a b => ?_⟩
    rcases lt_ge s (t - c.P + k) with z | z
    · exact h s a z
    · have : s = t - c.P + k := by omega
      rw [this]; exact hp
  · refine .inr ⟨h1, by omega, h3, fun s a b => ?_⟩
    rcases lt_ge s (t - c.P + k) with z | z
    · exact h4 s a z
    · have : s = t - c.P + k := by omega
      rw [this]; exact hp
section
variable {P : Program} {w : World} {K : PySem.W.Frag} {mg : Str → Option Value} {base : Heap} {W0 : Wild}
def gKPush : Con := fun rs C => ∃ (c : Clock) (a b : Xg) (t : Int), c.Ok ∧ c.whl a.1 ∧ (a.1 ≠ b.1 → phasesOf c a.1 b.1 ≠ []) ∧ -100000 ≤ t ∧ t ≤ 100000 ∧ rs = [.val c.enc, .val (eX a), .val (eX b), .val (.int t)] ∧ C (.int (pushed c a b t))
theorem can_k_push (B : Bd K mg) : Can P w K mg base W0 1 "_law_push" 4 gKPush [] := by
  refine can_body (N := ["_law_clock_here", "_law_one", "_law_other", "_law_tick", "_law_period", "_law_found", "_law_pair", "_law_phases", "_law_touch", "_law_least", "_law_c"]) (ps := ["_law_clock_here", "_law_one", "_law_other", "_law_tick"]) B.k_push ⟨rfl, rfl, rfl, by decide +kernel, rfl, by decide +kernel, by decide +kernel⟩ (fun _ _ _ _ _ _ us hl => match us, hl with | [_, _, _, _], _ => rfl) ?_
  intro f cdv A outer s H E Wl rs C hr hW ⟨c, a, b, t, ok, hw, hp, t0, t1, e, hC⟩
  subst e
  have hN : (["_law_clock_here", "_law_one", "_law_other", "_law_tick", "_law_period", "_law_found", "_law_pair", "_law_phases", "_law_touch", "_law_least", "_law_c"] : List Str).Nodup := by decide +kernel
  have hu := hu_of hr
  have hP := ok.p1
  have hP2 := ok.p2
  refine wss_cons (ws_par 4 5 (we_at (j := 0) (we_var 0 rfl rfl) rfl (we_sub (we_var 3 rfl (we_mul (we_int (we_at (j := 0) (we_var 0 rfl rfl) rfl ⟨.inl ⟨by decide, by decide⟩, ?_⟩)))))) rfl hN)
  refine wss_cons (ws_asg 6 (we_tup (wa_cons (we_min2 B.bare (wa_cons (we_at (j := 0) (we_var 1 rfl rfl) rfl (wa_cons (we_at (j := 0) (we_var 2 rfl rfl) rfl (wa_nil (wa_cons (we_max2 B.bare (wa_cons (we_at (j := 0) (we_var 1 rfl rfl) rfl (wa_cons (we_at (j := 0) (we_var 2 rfl rfl) rfl (wa_nil (wa_nil ⟨(show 2 ≤ sizeLine by decide), ?_⟩)))))))))))))))) hN)
  show WSs _ _ [some (.val c.enc), some (.val (eX a)), some (.val (eX b)), some (.val (.int t)), some (.val (.int c.P)), some (.val (.int (t - 2 * c.P))), some (.val (.tuple [.int (if b.1 < a.1 then b.1 else a.1), .int (if b.1 > a.1 then b.1 else a.1)])), none, none, none, none] _ _
  rw [min_is, max_is]
  refine wss_cons ?_
  refine ws_setLcM (f := eT) 7 (own := [("_law_touch", 8)]) (js := [8]) c.to (fun t => decide (t.2 = (min a.1 b.1, max a.1 b.1))) (fun t => .int t.1) rfl hN (blkOk_by (N := ["_law_clock_here", "_law_one", "_law_other", "_law_tick", "_law_period", "_law_found", "_law_pair", "_law_phases", "_law_touch", "_law_least", "_law_c"]) (sc := defScope s_k_push) (by decide +kernel)) (by decide) (Nat.le_trans ok.toL (by decide)) (wi_tup (we_at (j := 2) (we_var 0 rfl rfl) rfl rfl)) (fun t ht => ?_) ?_ (sw_true rfl rfl rfl (by decide +kernel))
  · intro _ _ _ _ _
    refine wg_name 8 (maps_if ?_ ?_) hN
    · intro _ _ _ _ _
      refine wt_eq hu (we_sl10 (we_var 8 rfl (we_int (we_var 6 rfl ⟨rfl, rfl, ?_⟩))))
      exact enc_X.eq t.2 (min a.1 b.1, max a.1 b.1)
    · intro _ _ _ _ _ _
      exact we_at (j := 0) (we_var 8 rfl rfl) rfl rfl
  have eph : (c.to.filter fun t => decide (t.2 = (min a.1 b.1, max a.1 b.1))).map (fun t => PyData.int t.1) = (phasesOf c a.1 b.1).map eI := by unfold phasesOf; rw [List.map_map]; rfl
  rw [eph]
  refine wss_freezeL 7 rfl ?_
  obtain ⟨L0, hL0⟩ : ∃ L0, L0 = if a.1 = b.1 then t + 1 else t - 2 * c.P := ⟨_, rfl⟩
  refine wss_cons (ws_asg 9 (WE.mono (Q := fun r => r = .val (.int L0)) ?_ fun r hr => ?_) hN)
  · refine we_if (wt_eq hu (we_at (j := 0) (we_var 1 rfl rfl) rfl (we_at (j := 0) (we_var 2 rfl rfl) rfl ⟨rfl, rfl, fun q => ?_, fun q => ?_⟩)))
    · have q : PyData.eqv (.int a.1) (.int b.1) = true := q
      rw [int_eqv] at q
      exact we_add (we_var 3 rfl (we_int (by rw [hL0, if_pos (of_decide_eq_true q)]; rfl)))
    · have q : PyData.eqv (.int a.1) (.int b.1) = false := q
      rw [int_eqv] at q
      exact we_var 5 rfl (by rw [hL0, if_neg (of_decide_eq_false q)])
  subst hr
  have ln : (t - (t - c.P)).toNat = c.P.toNat := by omega
  refine wss_cons (ws_for (js := [10]) (by passes_own) rfl (wi_range2 B.bare.range (we_sub (we_var 3 rfl (we_var 4 rfl ⟨?_, ?_, we_var 3 rfl ⟨?_, ?_, fun k ρ => ∃ (L : Int) (r8 r10 : Option R), ρ = [some (.val c.enc), some (.val (eX a)), some (.val (eX b)), some (.val (.int t)), some (.val (.int c.P)), some (.val (.int (t - 2 * c.P))), some (.val (.tuple [.int (min a.1 b.1), .int (max a.1 b.1)])), some (.val (.list ((phasesOf c a.1 b.1).map eI))), r8, some (.val (.int L)), r10] ∧ (if a.1 = b.1 then L = t + 1 else Seen c a.1 b.1 t k L), ⟨L0, _, _, rfl, ?_⟩, ?_, ?_⟩⟩)))))
  · show -(2 ^ 62) ≤ t - c.P
    omega
  · show t - c.P < 2 ^ 62
    omega
  · show -(2 ^ 62) ≤ t
    omega
  · show t < 2 ^ 62
    omega
  · by_cases z : a.1 = b.1
    · rw [if_pos z] at hL0 ⊢; exact hL0
    · rw [if_neg z] at hL0 ⊢; exact .inl ⟨hL0, fun s h1 h2 => by omega⟩
  · rintro k d ρ' hd ⟨L, r8, r10, rfl, hL⟩
    unfold rangeD at hd
    rw [List.getElem?_map] at hd
    obtain ⟨k', hk', rfl⟩ := Option.map_eq_some_iff.mp hd
    obtain ⟨hk, e⟩ := List.getElem?_eq_some_iff.mp hk'
    rw [List.getElem_range] at e
    rw [List.length_range] at hk
    subst e
    refine wg_name 10 ?_ hN
    refine wss_one (ws_if (wt_and (ww_and (wt_ne hu (we_at (j := 0) (we_var 1 rfl rfl) rfl (we_at (j := 0) (we_var 2 rfl rfl) rfl ⟨rfl, rfl, fun q => ?_, fun q => ?_⟩))))))
    · have q : (!PyData.eqv (.int a.1) (.int b.1)) = true := q
      rw [int_eqv] at q
      have q : ¬ a.1 = b.1 := by simpa using q
      rw [if_neg q] at hL
      refine ww_and1 (wt_in hu (we_mod (we_int1 B.bare (wa_cons (we_var 10 rfl (wa_nil (we_var 4 rfl ⟨?_, we_var 7 rfl ⟨rfl, (enc_lst enc_int).pl (phasesOf c a.1 b.1) _ (by decide), rfl, ?_⟩⟩)))))))
      · exact (show 0 < c.P by omega)
      show (inB false (eI ((t - c.P + (k : Int)) % c.P)) (.list ((phasesOf c a.1 b.1).map eI)) = true → _) ∧ (inB false (eI ((t - c.P + (k : Int)) % c.P)) (.list ((phasesOf c a.1 b.1).map eI)) = false → _)
      rw [inB_lst enc_int]
      refine ⟨fun q2 => ?_, fun q2 => ?_⟩
      · obtain ⟨h1, h2⟩ := hL.hit ok (of_decide_eq_true q2)
        have hmax : (if t - c.P + (k : Int) + 1 > L then t - c.P + (k : Int) + 1 else L) = t - c.P + k + 1 := by split <;> omega
        exact wss_one (ws_asg 9 (we_max2 B.bare (wa_cons (we_var 9 rfl (wa_cons (we_add (we_var 10 rfl (we_int (wa_nil ⟨(if t - c.P + (k : Int) + 1 > L then t - c.P + (k : Int) + 1 else L), r8, some (.val (.int (t - c.P + (k : Int)))), rfl, by rw [if_neg q, hmax]; exact h1⟩)))))))) hN)
      · exact wss_nil ⟨L, r8, some (.val (.int (t - c.P + (k : Int)))), rfl, by rw [if_neg q]; exact hL.miss (of_decide_eq_false q2)⟩
    · have q : (!PyData.eqv (.int a.1) (.int b.1)) = false := q
      rw [int_eqv] at q
      have q : a.1 = b.1 := by simpa using q
      rw [if_pos q] at hL
      exact ⟨fun z => Bool.noConfusion z, fun _ => wss_nil ⟨L, r8, some (.val (.int (t - c.P + (k : Int)))), rfl, by rw [if_pos q]; exact hL⟩⟩
  · rintro ρ' ⟨L, r8, r10, rfl, hL⟩
    have hLG : pushed c a b t = gapFrom c a.1 L := by
      unfold pushed
      by_cases z : a.1 = b.1
      · rw [if_pos z] at hL ⊢
        rw [hL]
      · rw [if_neg z] at hL ⊢
        rw [hL.last ok (hp z) (by unfold rangeD; rw [List.length_map, List.length_range]; omega)]
    rw [hLG] at hC
    obtain ⟨g1, g2, g3, g4⟩ := gap_spec ok hw L
    refine wss_cons (ws_asg 5 (we_var 9 rfl ?_) hN)
    refine wss_cons (ws_while (by passes_own) (fun m ρ => ∃ f, ρ = [some (.val c.enc), some (.val (eX a)), some (.val (eX b)), some (.val (.int t)), some (.val (.int c.P)), some (.val (.int f)), some (.val (.tuple [.int (min a.1 b.1), .int (max a.1 b.1)])), some (.val (.list ((phasesOf c a.1 b.1).map eI))), r8, some (.val (.int L)), r10] ∧ L ≤ f ∧ f ≤ gapFrom c a.1 L ∧ m = (gapFrom c a.1 L - f).toNat) _ ⟨L, rfl, Int.le_refl _, g1, rfl⟩ ?_)
    rintro m ρ ⟨f, rfl, f1, f2, rfl⟩
    refine wt_notin hu (we_mod (we_int1 B.bare (wa_cons (we_var 5 rfl (wa_nil (we_var 4 rfl ⟨?_, we_ix (we_at (j := 3) (we_var 0 rfl rfl) rfl (we_at (j := 0) (we_var 1 rfl rfl) rfl ⟨_, ok.at_ga hw, rfl, enc_G.pl _ _ (by decide), rfl, ?_⟩))⟩))))))
    · exact (show 0 < c.P by omega)
    show (inB true (eI (f % c.P)) (.tuple ((c.gaOf a.1).map eI)) = true → _) ∧ (inB true (eI (f % c.P)) (.tuple ((c.gaOf a.1).map eI)) = false → _)
    rw [ninB_tup enc_int]
    refine ⟨fun q => ?_, fun q => ?_⟩
    · have q : f % c.P ∉ c.gaOf a.1 := by simpa using q
      have hne : f ≠ gapFrom c a.1 L := fun e => q (e ▸ g3)
      exact wss_one (ws_asg 5 (we_add (we_var 5 rfl (we_int ⟨(gapFrom c a.1 L - (f + 1)).toNat, by omega, f + 1, rfl, by omega, by omega, rfl⟩))) hN)
    · have q : f % c.P ∈ c.gaOf a.1 := by simpa using q
      have hfe : f = gapFrom c a.1 L := by
        by_cases z : f < gapFrom c a.1 L
        · exact absurd q (g4 f f1 z)
        · omega
      subst hfe
      exact wss_one (ws_ret (we_var 5 rfl hC))
end
end LC
/-! The walks of the law's own defs: a ring. -/
namespace LC
open PySem L2 PySem.Spec PyProof.Rows
section
variable {P : Program} {w : World} {K : PySem.W.Frag} {mg : Str → Option Value} {base : Heap} {W0 : Wild}
def gKIsRing : Con := fun rs C => ∃ (c : Clock) (v : List Node), c.Ok ∧ RingOk c v ∧ (∀ p ∈ v, -100000 ≤ p.2 ∧ p.2 ≤ 100000) ∧ rs = [.val c.enc, .val (.tuple (v.map eN))] ∧ C (.bool true)
theorem can_k_is_ring (B : Bd K mg) : Can P w K mg base W0 3 "_law_is_ring" 2 gKIsRing [] := by
  refine can_body (N := ["_law_clock_here", "_law_value", "_law_leans_here", "_law_other", "_law_number", "_law_one", "_law_later", "_law_gain"]) (ps := ["_law_clock_here", "_law_value"]) B.k_is_ring ⟨rfl, rfl, rfl, by decide +kernel, rfl, by decide +kernel, by decide +kernel⟩ (fun _ _ _ _ _ _ us hl => match us, hl with | [_, _], _ => rfl) ?_
  intro f cdv A outer s H E Wl rs C hr hW ⟨c, v, ok, rk, sm, e, hC⟩
  subst e
  have hN : (["_law_clock_here", "_law_value", "_law_leans_here", "_law_other", "_law_number", "_law_one", "_law_later", "_law_gain"] : List Str).Nodup := by decide +kernel
  have hu := hu_of hr
  have hP := ok.p1
  obtain ⟨a, b, ha, hb, e1, e2, e3, e4, e5⟩ := rk.ends
  have l2 := rk.len2
  have l4 := rk.len
  have ha' : atI (v.map eN) 0 = some (eN a) := by
    rw [atI_nn (by omega) (by rw [List.length_map]; omega), List.getElem?_map, show (0 : Int).toNat = 0 from rfl, ha]; rfl
  have hb' : atI (v.map eN) (-1) = some (eN b) := by
    have h1 : ixN (v.map eN).length (-1) = some (v.length - 1) := by
      unfold ixN
      rw [List.length_map, if_neg (by omega), if_pos (by omega)]
      congr 1
      omega
    unfold atI
    rw [h1]
    show (v.map eN)[v.length - 1]? = _
    rw [List.getElem?_map, hb]; rfl
  have hl : ((v.map eN).length : Int) = v.length := by rw [List.length_map]
  refine wss_cons (ws_asg 2 (we_call (can_k_leans B) hr (by decide) hW (wa_cons (we_var 0 rfl (wa_nil ⟨rfl, rfl, c, ok, rfl, ?_⟩)))) hN)
  refine wss_cons (ws_for (js := [3, 4, 5, 6]) (by passes_own) rfl (wi_zipT B.bare.zip (we_var 1 rfl (we_sl10 (we_var 1 rfl (we_int ⟨fun _ ρ => ∃ r3 r4 r5 r6 r7, ρ = [some (.val c.enc), some (.val (.tuple (v.map eN))), some (.val (.list ((kLeans c).map eL))), r3, r4, r5, r6, r7], ⟨_, _, _, _, _, rfl⟩, ?_, ?_⟩))))))
  · rintro i d ρ' hd ⟨r3, r4, r5, r6, r7, rfl⟩
    obtain ⟨i, x, y, h1, h2, rfl⟩ := zip_next (List.mem_of_getElem? hd)
    rw [List.getElem?_map] at h1 h2
    obtain ⟨p, hp, rfl⟩ := Option.map_eq_some_iff.mp h1
    obtain ⟨q, hq, rfl⟩ := Option.map_eq_some_iff.mp h2
    obtain ⟨s1, s2⟩ := rk.step i p q hp hq
    obtain ⟨k1, k2⟩ := leans_in ok s1
    obtain ⟨k3, k4, _⟩ := needs_in ok k1 k2
    refine wg_tup rfl (wgs_cons (js := [3, 4]) (wg_tup rfl (wgs_cons (js := [3]) (wg_name 3 (wgs_cons (js := [4]) (js' := []) (wg_name 4 (wgs_nil ?_) hN)) hN))))
    refine wgs_cons (js := [5, 6]) (js' := []) (wg_tup rfl (wgs_cons (js := [5]) (wg_name 5 (wgs_cons (js := [6]) (js' := []) (wg_name 6 (wgs_nil (wgs_nil ?_)) hN)) hN)))
    refine wss_one (ws_ifF (wt_or (gd (wt_notin hu (we_tup (wa_cons (we_var 5 rfl (wa_cons (we_var 3 rfl (wa_nil ⟨(show 2 ≤ sizeLine by decide), we_var 2 rfl ⟨?_, ?_, rfl, ?_⟩⟩))))))) (gd_1 (wt_ne hu (we_call (can_k_push B) hr (by decide) hW (wa_cons (we_var 0 rfl (wa_cons (we_var 5 rfl (wa_cons (we_var 3 rfl (wa_cons (we_var 4 rfl (wa_nil ⟨rfl, rfl, c, q.1, p.1, p.2, ok, (everyX_in k1).1, k4, (sm p (List.mem_of_getElem? hp)).1, (sm p (List.mem_of_getElem? hp)).2, rfl, we_var 6 rfl ⟨rfl, rfl, ?_⟩⟩)))))))))))))) (wss_nil ⟨_, _, _, _, _, rfl⟩))
    · exact enc_L.pl (q.1, p.1) _ (by decide)
    · exact (enc_lst enc_L).pl (kLeans c) _ (by decide)
    · show inB true (eL (q.1, p.1)) (.list ((kLeans c).map eL)) = false
      rw [ninB_lst enc_L]
      simp only [Bool.not_eq_eq_eq_not, Bool.not_false, decide_eq_true_eq]
      exact kLeans_mem s1
    · show (!PyData.eqv (.int (pushed c q.1 p.1 p.2)) (.int q.2)) = false
      rw [int_eqv, decide_eq_true s2]; rfl
  · rintro ρ' ⟨r3, r4, r5, r6, r7, rfl⟩
    refine wss_cons (ws_asg 7 (we_sub (we_at (j := 1) (we_ix (we_var 1 rfl (we_neg (we_int ⟨_, hb', rfl⟩)))) rfl (we_at (j := 1) (we_ix (we_var 1 rfl (we_int ⟨_, ha', rfl⟩))) rfl ?_))) hN)
    refine wss_cons (ws_ifF (wt_or (gd (wt_nt (wt_le_lt (we_int (we_at (j := 1) (we_ix (we_var 1 rfl (we_int ⟨_, ha', rfl⟩))) rfl ⟨fun _ => we_at (j := 0) (we_var 0 rfl rfl) rfl ?_, fun q => ?_⟩)))) (gd_1 (wt_ne hu (we_at (j := 0) (we_ix (we_var 1 rfl (we_int ⟨_, ha', rfl⟩))) rfl (we_at (j := 0) (we_ix (we_var 1 rfl (we_neg (we_int ⟨_, hb', rfl⟩)))) rfl ⟨rfl, rfl, ?_⟩)))))) (wss_nil ?_))
    · exact decide_eq_true e3
    · exact absurd e2 (of_decide_eq_false q)
    · show (!PyData.eqv (eX a.1) (eX b.1)) = false
      rw [enc_X.eq, decide_eq_true e1]; rfl
    refine wss_one (ws_ret (we_andY (we_gt (we_var 7 rfl (we_int ?_))) (we_one (we_eq hu (we_mod (we_int1 B.bare (wa_cons (we_var 7 rfl (wa_nil (we_at (j := 0) (we_var 0 rfl rfl) rfl ⟨by omega, we_int ⟨rfl, rfl, ?_⟩⟩))))))))))
    · exact decide_eq_true e4
    · show C (.bool (PyData.eqv (.int ((b.2 - a.2) % c.P)) (.int 0)))
      rw [int_eqv, decide_eq_true e5]; exact hC
end
end LC
/-! A dict whose lists grow: d.setdefault(k, []).append(v). -/
namespace LC
open PySem L2 PySem.Spec PyProof.Rows
def noOwn (ρ : Env') : Prop := ∀ (i : Nat) (d : D), ρ[i]? ≠ some (some (R.own d))
/-- an entry: the key, where its tuple stands, where its list stands -/
abbrev LEnt := D × Addr × Addr
def entX (x : LEnt) : NestedKey × Addr × V := (keyOf x.1, x.2.1, .ref x.2.2)
def putS (S : D → List D) (k : D) (l : List D) : D → List D := fun m => if keyOf m = keyOf k then l else S m
structure LedE (en : En) (Wl : Wild) (H0 F H : Hp) (p : Addr) (ent : List LEnt) (S : D → List D) : Prop where
  dic : H p = some (dictAt en p (ent.map entX))
  own : F p = none ∧ Tame Wl p ∧ H0 p = none
  key : ∀ x ∈ ent, keyOk x.1 = true ∧ Rep en F x.1 (.ref x.2.1)
  lst : ∀ x ∈ ent, ∃ xs, H x.2.2 = some (.lst xs) ∧ RepA en F (S x.1) xs
  frs : ∀ x ∈ ent, F x.2.2 = none ∧ Tame Wl x.2.2 ∧ H0 x.2.2 = none
  sep : ∀ x ∈ ent, ∀ y ∈ ent, x.2.2 = y.2.2 → keyOf x.1 = keyOf y.1
  uq : ∀ x ∈ ent, ∀ y ∈ ent, keyOf x.1 = keyOf y.1 → x.2.2 = y.2.2
section
variable {en : En} {Wl : Wild} {H0 F H F' H' : Hp} {p : Addr} {ent : List LEnt} {S : D → List D}
theorem LedE.mono (l : LedE en Wl H0 F H p ent S) (g : Gr Wl F H F' H') : LedE en Wl H0 F' H' p ent S := by
  refine ⟨g.hh p _ l.dic l.own.2.1, ⟨g.nw p (by rw [l.dic]; simp) l.own.1, l.own.2⟩, fun x hx => ⟨(l.key x hx).1, Rep.mono g.ff (l.key x hx).2⟩, fun x hx => ?_, fun x hx => ?_, l.sep, l.uq⟩
  · obtain ⟨xs, h1, h2⟩ := l.lst x hx
    exact ⟨xs, g.hh _ _ h1 (l.frs x hx).2.1, h2.mono g.ff⟩
  · obtain ⟨xs, h1, _⟩ := l.lst x hx
    exact ⟨g.nw _ (by rw [h1]; simp) (l.frs x hx).1, (l.frs x hx).2⟩
theorem LedE.apart (l : LedE en Wl H0 F H p ent S) {x : LEnt} (hx : x ∈ ent) : x.2.2 ≠ p := fun z => by
  obtain ⟨xs, h1, _⟩ := l.lst x hx
  rw [z, l.dic] at h1
  unfold dictAt at h1
  cases h1
theorem LedE.app (l : LedE en Wl H0 F H p ent S) {x : LEnt} (hx : x ∈ ent) {xs : List V} (hxs : H x.2.2 = some (.lst xs)) {d : D} {w : V} (r : Rep en F d w) : LedE en Wl H0 F (upd H x.2.2 (.lst (xs ++ [w]))) p ent (putS S x.1 (S x.1 ++ [d])) := by
  refine ⟨by rw [upd_ne (l.apart hx).symm]; exact l.dic, l.own, l.key, fun y hy => ?_, l.frs, l.sep, l.uq⟩
  unfold putS
  by_cases z : y.2.2 = x.2.2
  · rw [if_pos (l.sep y hy x hx z), z, upd_same]
    obtain ⟨xs', h1, h2⟩ := l.lst x hx
    rw [hxs] at h1
    cases h1
    exact ⟨_, rfl, h2.append (.cons r .nil)⟩
  · rw [if_neg fun e => z (l.uq y hy x hx e), upd_ne z]
    exact l.lst y hy
theorem LedE.new (l : LedE en Wl H0 F H p ent S) {kd : D} {b q : Addr} (hk : keyOk kd = true) (rk : Rep en F kd (.ref b)) (hno : ∀ x ∈ ent, keyOf x.1 ≠ keyOf kd) (hq : H q = some (.lst [])) (fq : F q = none ∧ Tame Wl q ∧ H0 q = none) (hne : ∀ x ∈ ent, x.2.2 ≠ q) (hqp : q ≠ p) :
    LedE en Wl H0 F (upd H p (dictAt en p ((ent ++ [(kd, b, q)]).map entX))) p (ent ++ [(kd, b, q)]) (putS S kd []) := by
  have cs : ∀ x ∈ ent ++ [(kd, b, q)], x ∈ ent ∨ x = (kd, b, q) := fun x hx => (List.mem_append.mp hx).elim .inl fun h => .inr (by simpa using h)
  refine ⟨upd_same, l.own, fun x hx => ?_, fun x hx => ?_, fun x hx => ?_, fun x hx y hy z => ?_, fun x hx y hy z => ?_⟩
  · rcases cs x hx with h | rfl
    · exact l.key x h
    · exact ⟨hk, rk⟩
  · unfold putS
    rcases cs x hx with h | rfl
    · rw [if_neg (hno x h), upd_ne (l.apart h)]; exact l.lst x h
    · rw [if_pos rfl, upd_ne hqp]; exact ⟨[], hq, .nil⟩
  · rcases cs x hx with h | rfl
    · exact l.frs x h
    · exact fq
  · rcases cs x hx with h | rfl
    · rcases cs y hy with h' | rfl
      · exact l.sep x h y h' z
      · exact absurd z (hne x h)
    · rcases cs y hy with h' | rfl
      · exact absurd z.symm (hne y h')
      · rfl
  · rcases cs x hx with h | rfl
    · rcases cs y hy with h' | rfl
      · exact l.uq x h y h' z
      · exact absurd z (hno x h)
    · rcases cs y hy with h' | rfl
      · exact absurd z.symm (hno y h')
      · rfl
theorem ent_get {nk : NestedKey} : ∀ {ent : List LEnt}, (∀ c w, kGet (ent.map entX) nk = some (c, w) → ∃ x ∈ ent, keyOf x.1 = nk ∧ w = .ref x.2.2) ∧ (kGet (ent.map entX) nk = none → ∀ x ∈ ent, keyOf x.1 ≠ nk)
  | [] => ⟨fun c w h => by simp [kGet] at h, fun _ x hx => by cases hx⟩
  | y :: ent => by
    have ih := ent_get (nk := nk) (ent := ent)
    have e0 : kGet ((y :: ent).map entX) nk = if keyOf y.1 = nk then some (y.2.1, .ref y.2.2) else kGet (ent.map entX) nk := by
      unfold kGet
      rw [List.map_cons, List.find?_cons]
      show Option.map _ (match decide (keyOf y.1 = nk) with | true => _ | false => _) = _
      by_cases z : keyOf y.1 = nk
      · rw [if_pos z, decide_eq_true z]; rfl
      · rw [if_neg z, decide_eq_false z]
    rw [e0]
    by_cases z : keyOf y.1 = nk
    · rw [if_pos z]
      refine ⟨fun c w h => ?_, fun h => by cases h⟩
      cases h
      exact ⟨y, List.mem_cons_self, z, rfl⟩
    · rw [if_neg z]
      refine ⟨fun c w h => ?_, fun h x hx => ?_⟩
      · obtain ⟨x, hx, h1⟩ := ih.1 c w h
        exact ⟨x, List.mem_cons_of_mem _ hx, h1⟩
      · rcases List.mem_cons.mp hx with rfl | hx
        · exact z
        · exact ih.2 h x hx
theorem ent_keys (l : LedE en Wl H0 F H p ent S) : KeysOk en F (ent.map entX) := fun e he => by
  obtain ⟨x, hx, rfl⟩ := List.mem_map.mp he
  exact ⟨x.1, (l.key x hx).1, rfl, (l.key x hx).2⟩
end
section
variable {X : Cx} {Wl : Wild} {ρ ρ' : Env'} {F0 H0 F H F' H' : Hp} {σ σ' : L2.St} {p : Addr} {ks : List D} {S : D → List D} {ent : List LEnt} {st : Stmt} {rest : List Stmt} {Φ : Env' → List D → (D → List D) → Prop} {pos : Pos} {js : List Nat}
theorem Sta.base (s : Sta X Wl ρ F0 H0 F H σ) (n : noOwn ρ) : Sta X Wl ρ F H F H σ := ⟨Gr.refl s.at_, s.sl, fun i d a h _ => absurd h (n i d), fun i j d d' _ h _ => absurd h (n i d)⟩
theorem Sta.over (s : Sta X Wl ρ F0 H0 F H σ) (t : Sta X Wl ρ' F H F' H' σ') : Sta X Wl ρ' F0 H0 F' H' σ' := ⟨s.gr.trans t.gr, t.sl, fun i d a h1 h2 => by
  have h3 := t.fr i d a h1 h2
  cases z : H0 a with
  | none => rfl
  | some o => exact absurd h3 (s.gr.there a (by rw [z]; simp)), t.sep⟩
theorem Sta.raw (s : Sta X Wl ρ F0 H0 F H σ) (n : noOwn ρ) {a : Addr} (fa : F a = none) (t : Tame Wl a) (h0 : H0 a = none) (o : HO) : Sta X Wl ρ F0 H0 F (upd H a o) σ := by
  have g : Gr Wl F0 H0 F (upd H a o) := by
    refine ⟨s.gr.ff, fun b u e tb => ?_, s.gr.nw, fun b u e => ?_, fun q hq => ?_⟩
    · rw [upd_ne fun z => by rw [z, h0] at e; cases e]; exact s.gr.hh b u e tb
    · rw [upd_ne fun z => by rw [z, fa] at e; cases e]; exact s.at_.fh b u e
    · obtain ⟨q1, u, q2, q3⟩ := s.at_.wl q hq
      exact ⟨q1, u, by rw [upd_ne (t q hq)]; exact q2, q3⟩
  refine ⟨g, ⟨s.sl.len, fun j r e => ?_⟩, s.fr, s.sep⟩
  obtain ⟨v, e2, q⟩ := s.sl.at_ j r e
  refine ⟨v, e2, ?_⟩
  cases r with
  | val d => exact q
  | adr b => exact q
  | own d => exact absurd e (n j d)
/-- a statement with a ledger at p behind it -/
def LS (X : Cx) (Wl : Wild) (p : Addr) (ρ : Env') (ks : List D) (S : D → List D) (st : Stmt) (Φ : Env' → List D → (D → List D) → Prop) : Prop :=
  ∀ F0 H0 F H σ E ent, ent.map (·.1) = ks → Sta X Wl ρ F0 H0 F H σ → LedE (cxEn X) Wl H0 F H p ent S → (∀ ρ' F' H' σ' ent' S', Φ ρ' (ent'.map (·.1)) S' → Sta X Wl ρ' F0 H0 F' H' σ' → LedE (cxEn X) Wl H0 F' H' p ent' S' → E.nx σ' H') → tSemS X st E σ H
def LSs (X : Cx) (Wl : Wild) (p : Addr) (ρ : Env') (ks : List D) (S : D → List D) (st : List Stmt) (Φ : Env' → List D → (D → List D) → Prop) : Prop :=
  ∀ F0 H0 F H σ E ent, ent.map (·.1) = ks → Sta X Wl ρ F0 H0 F H σ → LedE (cxEn X) Wl H0 F H p ent S → (∀ ρ' F' H' σ' ent' S', Φ ρ' (ent'.map (·.1)) S' → Sta X Wl ρ' F0 H0 F' H' σ' → LedE (cxEn X) Wl H0 F' H' p ent' S' → E.nx σ' H') → tSemSs X st E σ H
theorem lss_nil (h : Φ ρ ks S) : LSs X Wl p ρ ks S [] Φ := fun F0 H0 F H σ E ent e s l m => pss_nil.sem (m ρ F H σ ent S (by rw [e]; exact h) s l)
theorem lss_cons (h : LS X Wl p ρ ks S st fun ρ' ks' S' => LSs X Wl p ρ' ks' S' rest Φ) : LSs X Wl p ρ ks S (st :: rest) Φ := fun F0 H0 F H σ E ent e s l m =>
  (pss_cons (ps_sem (st := st)) (pss_sem (st := rest))).sem (h F0 H0 F H σ { E with nx := tSemSs X rest E } ent e s l fun ρ' F' H' σ' ent' S' q s' l' => q F0 H0 F' H' σ' E ent' rfl s' l' m)
theorem lss_one (h : LS X Wl p ρ ks S st Φ) : LSs X Wl p ρ ks S [st] Φ := fun F0 H0 F H σ E ent e s l m => (pss_one (ps_sem (st := st))).sem (h F0 H0 F H σ E ent e s l m)
theorem ls_ws (n : noOwn ρ) (h : WS X Wl ρ st { nx := fun ρ' => Φ ρ' ks S, rt := fun _ => False }) : LS X Wl p ρ ks S st Φ := fun F0 H0 F H σ E ent e s l m =>
  h F H F H σ E (s.base n) ⟨fun ρ' F' H' σ' q s' => m ρ' F' H' σ' ent S (by rw [e]; exact q) (s.over s') (l.mono s'.gr), fun _ _ _ _ q => q.elim, fun _ _ _ _ q => q.elim, fun _ _ _ _ q => q.elim⟩
theorem ls_for {tg iter : Expr} {body : List Stmt} (hp : PassesOwn (model X.prog X.w) X.A X.env X.xe) (hcm : X.calm = true)
    (h : WI X Wl ρ tg iter fun ds => ∃ P : Nat → Env' → List D → (D → List D) → Prop, P 0 ρ ks S ∧ (∀ i d ρ' ks' S', ds[i]? = some d → P i ρ' ks' S' → WG X Wl js ρ' tg d fun ρ2 => LSs X Wl p ρ2 ks' S' body (P (i + 1))) ∧ ∀ ρ' ks' S', P ds.length ρ' ks' S' → Φ ρ' ks' S')
    (hs : ∀ x, foldedSetIterable iter X.env x = pure x := by intro _; rfl) : LS X Wl p ρ ks S (.For tg iter body [] pos) Φ := fun F0 H0 F H σ E ent e s l m =>
  (ps_for hp hcm (pi_sem (tg := tg) (iter := iter)) pg_sem (pss_sem (st := body)) hs).sem (h F H σ _ s.at_ s.sl fun ds J F1 H1 q g wk => by
    obtain ⟨P, h0, step, last⟩ := q
    have s1 := s.grow g
    have l1 := l.mono g
    let Pv : Nat → L2.St → Hp → Prop := fun i σ H => ∃ ρ F ent S, P i ρ (ent.map (·.1)) S ∧ Sta X Wl ρ F1 H0 F H σ ∧ LedE (cxEn X) Wl H0 F H p ent S
    refine ⟨fun i m σ H => m = ds.length - i ∧ i ≤ ds.length ∧ Pv i σ H, ⟨_, rfl, Nat.zero_le _, ρ, F1, ent, S, by rw [e]; exact h0, ⟨s1.gr.rebase s1.gr (Evl.Ex.refl _), s1.sl, s1.fr, s1.sep⟩, l1⟩, ?_⟩
    rintro i m' σ2 H2 ⟨rfl, hi, ρ2, F2, ent2, S2, p2, s2, l2⟩
    by_cases hlt : i < ds.length
    · obtain ⟨go, yl⟩ := wk.go F2 H2 i ds[i] s2.gr.ff s2.at_ (List.getElem?_eq_getElem hlt)
      refine .inr ⟨go, Pv (i + 1), fun σ' H' p' => ⟨_, by omega, rfl, hlt, p'⟩, fun x H3 y => ?_⟩
      obtain ⟨F3, g3, rx⟩ := yl x H3 y
      refine step i _ ρ2 _ S2 (List.getElem?_eq_getElem hlt) p2 F3 H3 σ2 x _ g3.at_ (s2.sl.mono g3) rx fun ρ' σ' k o => ?_
      exact k F1 H0 F3 H3 σ' _ ent2 rfl ((s2.grow g3).goes o) (l2.mono g3) fun ρ4 F4 H4 σ4 ent4 S4 q4 s4 l4 => ⟨ρ4, F4, ent4, S4, q4, s4, l4⟩
    · have e : i = ds.length := by omega
      subst e
      exact .inl ⟨wk.stop F2 H2 s2.gr.ff s2.at_, m ρ2 F2 H2 σ2 ent2 S2 (last ρ2 _ S2 p2) ⟨s1.gr.unbase s2.gr, s2.sl, s2.fr, s2.sep⟩ l2⟩)
/-! ### setdefault -/
def tSetD (en : En) (to tk tx : TE) : TE := fun σ H Q => to σ H fun x H1 => ∃ a kx0, x = .ref a ∧ Rd H1 a (dictAt en a kx0) ∧ tk σ H1 fun y H2 => tx σ H2 fun z H3 => ∃ kx kd b F, y = .ref b ∧ DK en H3 a kx kd b F ∧ H3 a = some (dictAt en a kx) ∧ kx.length < sizeLine ∧
  (∀ c w, kGet kx (keyOf kd) = some (c, w) → Q w H3) ∧ (kGet kx (keyOf kd) = none → Q z (upd H3 a (dictAt en a (kPut kx (keyOf kd) b z))))
theorem pe_setD {o k x : Expr} {to tk tx : TE} {apos cpos : Pos} (hu : X.A.units + 100 < cLine) (ho : PE X o to) (hk : PE X k tk) (hx : PE X x tx) (m : M2 X o "setdefault" apos k x cpos) : PE X (.Call (.Attribute o "setdefault" apos) [k, x] [] cpos) (tSetD (cxEn X) to tk tx) := by
  refine ⟨fun pins s σ H Q I h => wpAny_Call_method m.base m.few m.line PySem.F.plainAttrs_dict PySem.F.slot_dict_setdefault PySem.F.type_dict_setdefault (thn (ho.run pins s σ H _ I h) fun u s1 ⟨y, H1, I1, ry, a, kx0, ey, rd, q1⟩ => ?_)⟩
  subst ey
  cases ry
  refine ⟨(dict_ty I1 rd).1, (dict_ty I1 rd).2, ?_⟩
  rw [m.trees]
  refine Calls.callWith_builtin rfl (Calls.evalArgs_plain (Calls.spliced_cons (thn (hk.run pins s1 σ H1 _ I1 q1) fun kv s2 ⟨yk, H2, I2, rk, q2⟩ => Calls.spliced_cons (thn (hx.run pins s2 σ H2 _ I2 q2) fun xv s3 ⟨z, H3, I3, rz, kx, kd, b, F, eb, dk, ha, hz, g1, g2⟩ => Calls.spliced_nil ?_))))
  subst eb
  cases rk
  obtain ⟨hzz, hsys, xs, r, hd⟩ := dict_of I3 dk.ex dk.rd dk.ks
  refine call_setdefault_heap (room8 hu) (key_is I3 dk.ex dk.ok dk.rk) hsys hd (fun pr hp => ?_) (fun hn h' hd' sb => ?_) (by rw [← pk_len r]; exact hzz)
  · cases q : kGet kx (keyOf kd) with
    | none => rw [(pk_get r).2 q] at hp; cases hp
    | some pp =>
      obtain ⟨u, h1, h2⟩ := (pk_get r).1 pp.1 pp.2 q
      rw [h1] at hp
      cases hp
      exact ⟨pp.2, H3, I3.tok _, h2, g1 _ _ q⟩
  · have hg : kGet kx (keyOf kd) = none := by
      cases q : kGet kx (keyOf kd) with
      | none => rfl
      | some pp =>
        obtain ⟨u, h1, h2⟩ := (pk_get r).1 pp.1 pp.2 q
        rw [h1] at hn; cases hn
    have z' : (kPut kx (keyOf kd) b z).length ≤ sizeLine := Nat.le_trans (kPut_len ..) hz
    have he : ∃ u, h'.get? a = some u := by obtain ⟨o, _, _, e, _⟩ := id hd'; exact ⟨o, e⟩
    exact ⟨z, _, I3.write (x := a) (e := a) (o := dictAt (cxEn X) a (kPut kx (keyOf kd) b z)) (t' := s3.toks + (nestedKind X.prog X.w).draws (keyOf kd)) (by rw [ha]; trivial) (.inl rfl) (fun c u hc e => (sb.2 c hc).trans e) he (dict_ok z' hsys (pk_put r rz) hd'), rz, g2 hg⟩
theorem ls_setdef (i : Nat) {k v xe : Expr} {pl pa1 pc1 pa pc : Pos} (hu : X.A.units + 100 < cLine) (hi : ρ[i]? = some (some (.adr p))) (n : noOwn ρ) (hz : ks.length < sizeLine)
    (h : WE X Wl ρ k (valK fun kd => keyOk kd = true ∧ WE X Wl ρ v (valK fun d => (kd ∈ ks → (S kd).length < sizeLine ∧ Φ ρ ks (putS S kd (S kd ++ [d]))) ∧ (kd ∉ ks → Φ ρ (ks ++ [kd]) (putS S kd [d])))))
    (hpe : PE X (.Call (.Attribute (.Call (.Attribute xe "setdefault" pa1) [k, .List [] pl] [] pc1) "append" pa) [v] [] pc) (tBM X.K "list" rAppend (tSetD (cxEn X) (tVar i) (tSem X k) (tSem X (.List [] pl))) (tCons (tSem X v) tNil)))
    (hs : swapsWith (.Call (.Attribute (.Call (.Attribute xe "setdefault" pa1) [k, .List [] pl] [] pc1) "append" pa) [v] [] pc) none pos.line X.env = pure false := by rfl) :
    LS X Wl p ρ ks S (.Expr (.Call (.Attribute (.Call (.Attribute xe "setdefault" pa1) [k, .List [] pl] [] pc1) "append" pa) [v] [] pc) pos) Φ := fun F0 H0 F H σ E ent e s l m =>
  (ps_expr hpe hs).sem (by
    obtain ⟨vv, ev, q⟩ := s.sl.at_ i _ hi
    have q : vv = .ref p := q
    subst q
    refine ⟨_, ev, p, _, rfl, .inl l.dic, h F H σ _ s.at_ s.sl fun r kv F1 H1 q1 g1 r1 => ?_⟩
    match r, q1, r1 with
    | .val kd, ⟨hk, q1⟩, r1 =>
    have s1 := s.grow g1
    have l1 := l.mono g1
    refine (wn_lst (Q := fun d => d = .list []) (wa_nil ⟨Nat.zero_le _, rfl⟩)) F1 H1 σ _ s1.at_ s1.sl fun d0 q0 F2 H2 e0 g2 hn2 f2 t2 o2 => ?_
    subst e0
    obtain ⟨xs0, hq0, ra0⟩ := o2
    cases ra0
    have s2 := s1.grow g2
    have l2 := l1.mono g2
    have r2 := Rep.mono g2.ff r1
    obtain ⟨b, rfl⟩ := key_ref hk r2
    have hzz : (ent.map entX).length < sizeLine := by
      rw [List.length_map]
      have := congrArg List.length e
      rw [List.length_map] at this
      rw [this]; exact hz
    have kin : ∀ x ∈ ent, keyOf x.1 = keyOf kd → x.1 = kd := fun x hx q => keyOf_inj _ _ (keyOk_isK (l2.key x hx).1).1 (keyOk_isK hk).1 q
    refine ⟨ent.map entX, kd, b, F2, rfl, ⟨g2.at_.fh, .inl l2.dic, ent_keys l2, hk, r2⟩, l2.dic, hzz, fun c w hg => ?_, fun hg => ?_⟩
    · obtain ⟨x, hx, hkx, rfl⟩ := (ent_get (nk := keyOf kd)).1 c w hg
      have ekd := kin x hx hkx
      subst ekd
      obtain ⟨xs, hxs, rxs⟩ := l2.lst x hx
      refine ⟨.inl ⟨rfl, _, SqL.of hxs⟩, q1 F2 H2 σ _ s2.at_ s2.sl fun r3 w3 F3 H3 q3 g3 r3' => ?_⟩
      match r3, q3, r3' with
      | .val d, q3, r3' =>
      have s3 := s2.grow g3
      have l3 := l2.mono g3
      have hin : x.1 ∈ ks := by rw [← e]; exact List.mem_map.mpr ⟨x, hx, rfl⟩
      obtain ⟨hlen, q3⟩ := q3.1 hin
      have hx3 := g3.hh _ _ hxs (l2.frs x hx).2.1
      refine ⟨x.2.2, xs, w3, rfl, rfl, hx3, by rw [← rxs.length]; exact hlen, ?_⟩
      exact m ρ F3 _ σ ent _ (by rw [e]; exact q3) (s3.raw n (l3.frs x hx).1 (l3.frs x hx).2.1 (l3.frs x hx).2.2 _) (l3.app hx hx3 r3')
    · have hno := (ent_get (nk := keyOf kd)).2 hg
      have hp1 : H1 p ≠ none := by rw [l1.dic]; simp
      have hqp : q0 ≠ p := fun z => hp1 (by rw [← z]; exact hn2)
      have hne : ∀ x ∈ ent, x.2.2 ≠ q0 := fun x hx z => by
        obtain ⟨xs, h1, _⟩ := l1.lst x hx
        rw [z, hn2] at h1; cases h1
      have h00 : H0 q0 = none := by
        cases z : H0 q0 with
        | none => rfl
        | some o => exact absurd hn2 (s1.gr.there q0 (by rw [z]; simp))
      have eput : kPut (ent.map entX) (keyOf kd) b (.ref q0) = (ent ++ [(kd, b, q0)]).map entX := by
        unfold kPut
        rw [hg, List.map_append]; rfl
      rw [eput]
      have l2' := l2.new hk r2 hno hq0 ⟨f2, t2, h00⟩ hne hqp
      have s2' := s2.raw n l2.own.1 l2.own.2.1 l2.own.2.2 (dictAt (cxEn X) p ((ent ++ [(kd, b, q0)]).map entX))
      have hq1 : (upd H2 p (dictAt (cxEn X) p ((ent ++ [(kd, b, q0)]).map entX))) q0 = some (.lst []) := by rw [upd_ne hqp]; exact hq0
      refine ⟨.inl ⟨rfl, _, SqL.of hq1⟩, q1 F2 _ σ _ s2'.at_ s2'.sl fun r3 w3 F3 H3 q3 g3 r3' => ?_⟩
      match r3, q3, r3' with
      | .val d, q3, r3' =>
      have s3 := s2'.grow g3
      have l3 := l2'.mono g3
      have hnin : kd ∉ ks := fun z => by
        rw [← e] at z
        obtain ⟨x, hx, e1⟩ := List.mem_map.mp z
        exact hno x hx (by rw [e1])
      have q3 := q3.2 hnin
      have hx3 := g3.hh _ _ hq1 t2
      have hmem : (kd, b, q0) ∈ ent ++ [(kd, b, q0)] := List.mem_append.mpr (.inr List.mem_cons_self)
      refine ⟨q0, [], w3, rfl, rfl, hx3, by decide, ?_⟩
      have eS : putS (putS S kd []) kd (putS S kd [] kd ++ [d]) = putS S kd [d] := by
        funext z
        unfold putS
        by_cases y : keyOf z = keyOf kd
        · rw [if_pos y, if_pos y, if_pos rfl]; rfl
        · rw [if_neg y, if_neg y, if_neg y]
      have l4 := l3.app hmem hx3 r3'
      rw [show putS (putS S kd []) ((kd, b, q0) : LEnt).1 (putS S kd [] ((kd, b, q0) : LEnt).1 ++ [d]) = putS S kd [d] from eS] at l4
      exact m ρ F3 _ σ _ _ (by rw [List.map_append, e]; exact q3) (s3.raw n (l3.frs _ hmem).1 t2 h00 _) l4)
/-! ### the ledger is opened and closed -/
theorem LedE.close (l : LedE (cxEn X) Wl H0 F H p ent S) (s : Sta X Wl ρ F0 H0 F H σ) (n : noOwn ρ) {i : Nat} (hi : ρ[i]? = some (some (.adr p))) (od : Obj) :
    ∃ F2, Sta X Wl (ρ.set i (some (.val (.dict ((ent.map (·.1)).map fun k => (k, .list (S k))))))) F0 H0 F2 (upd H p (.frz od (dictAt (cxEn X) p (ent.map entX)))) σ := by
  classical
  obtain ⟨F1, f1, f2, f3⟩ : ∃ F1 : Hp, (∀ a o, F a = some o → F1 a = some o) ∧ (∀ x ∈ ent, F1 x.2.2 = H x.2.2) ∧ ∀ a, F a = none → (∀ x ∈ ent, x.2.2 ≠ a) → F1 a = none := by
    refine ⟨fun a => match F a with | some o => some o | none => if ∃ x ∈ ent, x.2.2 = a then H a else none, fun a o e => ?_, fun x hx => ?_, fun a e h => ?_⟩
    · simp only [e]
    · simp only [(l.frs x hx).1]
      exact if_pos ⟨x, hx, rfl⟩
    · simp only [e]
      exact if_neg fun ⟨x, hx, z⟩ => h x hx z
  have f4 : ∀ a o, F1 a = some o → H a = some o := fun a o e => by
    cases q : F a with
    | some u =>
      rw [f1 a u q] at e
      injection e with e
      rw [← e]
      exact s.at_.fh a u q
    | none =>
      by_cases z : ∃ x ∈ ent, x.2.2 = a
      · obtain ⟨x, hx, rfl⟩ := z
        rw [← f2 x hx]; exact e
      · rw [f3 a q fun x hx y => z ⟨x, hx, y⟩] at e; cases e
  have f1p : F1 p = none := f3 p l.own.1 fun x hx => l.apart hx
  have ex : Ex F (upd F1 p (.frz od (dictAt (cxEn X) p (ent.map entX)))) := fun a o e => by
    rw [upd_ne fun z => by rw [z, l.own.1] at e; cases e]
    exact f1 a o e
  have g : Gr Wl F0 H0 (upd F1 p (.frz od (dictAt (cxEn X) p (ent.map entX)))) (upd H p (.frz od (dictAt (cxEn X) p (ent.map entX)))) := by
    refine ⟨s.gr.ff.trans ex, fun a o e t => ?_, fun a h1 h2 => ?_, fun a o e => ?_, fun q hq => ?_⟩
    · rw [upd_ne fun z => by rw [z, l.own.2.2] at e; cases e]; exact s.gr.hh a o e t
    · rw [upd_ne fun z => h1 (by rw [z]; exact l.own.2.2)]
      exact f3 a (s.gr.nw a h1 h2) fun x hx z => h1 (by rw [← z]; exact (l.frs x hx).2.2)
    · by_cases z : a = p
      · subst z; rw [upd_same] at e ⊢; exact e
      · rw [upd_ne z] at e ⊢; exact f4 a o e
    · obtain ⟨q1, u, q2, q3⟩ := s.at_.wl q hq
      have hne : q.1 ≠ p := l.own.2.1 q hq
      refine ⟨?_, u, by rw [upd_ne hne]; exact q2, q3⟩
      rw [upd_ne hne]
      exact f3 q.1 q1 fun x hx z => (l.frs x hx).2.1 q hq z.symm
  have rk : ∀ e2 : List LEnt, (∀ x ∈ e2, x ∈ ent) → RepK (cxEn X) (upd F1 p (.frz od (dictAt (cxEn X) p (ent.map entX)))) ((e2.map (·.1)).map fun k => (k, .list (S k))) (e2.map entX) := by
    intro e2
    induction e2 with
    | nil => intro _; exact .nil
    | cons x r ih =>
      intro hsub
      have hx := hsub x List.mem_cons_self
      obtain ⟨xs, h1, h2⟩ := l.lst x hx
      refine .cons (l.key x hx).1 (Rep.mono ex (l.key x hx).2) (.list (xs := xs) ?_ (h2.mono ex)) (ih fun y hy => hsub y (List.mem_cons_of_mem _ hy))
      rw [upd_ne (l.apart hx), f2 x hx]; exact h1
  refine ⟨_, g, ⟨by rw [List.length_set]; exact s.sl.len, fun j r e => ?_⟩, fun j d a h1 h2 => ?_, fun j k d d' hjk h1 h2 => ?_⟩
  · rcases get_set e with ⟨z, z2⟩ | ⟨z, e⟩
    · subst z; cases z2
      obtain ⟨v, e2, q⟩ := s.sl.at_ i _ hi
      have q : v = .ref p := q
      subst q
      exact ⟨_, e2, .dict upd_same (rk ent fun _ h => h)⟩
    · obtain ⟨v, e2, q⟩ := s.sl.at_ j r e
      refine ⟨v, e2, ?_⟩
      cases r with
      | val d => exact Rep.mono ex q
      | adr b => exact q
      | own d => exact absurd e (n j d)
  · rcases get_set h1 with ⟨_, z⟩ | ⟨_, h1⟩
    · cases z
    · exact absurd h1 (n j d)
  · rcases get_set h1 with ⟨_, z⟩ | ⟨_, h1⟩
    · cases z
    · exact absurd h1 (n j d)
theorem wss_led (i : Nat) {Φ : Wish} (hr : ρ[i]? = some (some (.own (.dict [])))) (h : ∀ p, LS X Wl p (ρ.set i (some (.adr p))) [] (fun _ => []) st fun ρ' ks S => noOwn ρ' ∧ ρ'[i]? = some (some (.adr p)) ∧ WSs X Wl (ρ'.set i (some (.val (.dict (ks.map fun k => (k, .list (S k))))))) rest Φ) : WSs X Wl ρ (st :: rest) Φ := fun F0 H0 F H σ E s m =>
  (pss_cons (ps_sem (st := st)) (pss_sem (st := rest))).sem (by
    obtain ⟨v, ev, p, rfl, fp, t, kx, hp, rk⟩ := s.sl.at_ i _ hr
    cases rk
    have h0 := s.fr i _ p hr ev
    have es : σ.set i (some (.ref p)) = σ := by
      apply List.ext_getElem?
      intro j
      by_cases z : i = j
      · subst z
        rw [List.getElem?_set_self (List.getElem?_eq_some_iff.mp ev).1, ev]
      · rw [List.getElem?_set_ne z]
    have s1 := s.setVal i (r := .adr p) (v := .ref p) rfl (fun d z => by cases z)
    rw [es] at s1
    have l1 : LedE (cxEn X) Wl H0 F H p [] (fun _ => []) := ⟨hp, ⟨fp, t, h0⟩, fun x hx => (by cases hx), fun x hx => (by cases hx), fun x hx => (by cases hx), fun x hx => (by cases hx), fun x hx => (by cases hx)⟩
    refine h p F0 H0 F H σ { E with nx := tSemSs X rest E } [] rfl s1 l1 fun ρ' F' H' σ' ent S ⟨n', hi', q⟩ s' l' pins sh I => ?_
    obtain ⟨od, I'⟩ := I.lock l'.dic trivial
    obtain ⟨F2, s2⟩ := l'.close s' n' hi' od
    exact q F0 H0 F2 _ σ' E s2 m pins sh I')
end
end LC
/-! The walk of every_edge. -/
namespace LC
open PySem L2 PySem.Spec PyProof.Rows
def addEd (E : Edges) (n : Node) (e : Edge) : Edges := if n ∈ E.L then ⟨E.L, fun m => if m = n then E.S n ++ [e] else E.S m⟩ else ⟨E.L ++ [n], fun m => if m = n then [e] else E.S m⟩
abbrev LP := (Xg × Xg) × Int
def nodeAt (x : LP) : Node := (x.1.2, x.2)
def edgeAt (c : Clock) (x : LP) : Edge := (x.1.1, pushed c x.1.1 x.1.2 x.2 % c.P, pushed c x.1.1 x.1.2 x.2 - x.2)
structure EInv (c : Clock) (done : List LP) (E : Edges) : Prop where
  nd : E.L.Nodup
  some : ∀ n ∈ E.L, E.S n ≠ []
  len : ∀ n ∈ E.L, (E.S n).length ≤ done.length
  iff : ∀ n e, (n ∈ E.L ∧ e ∈ E.S n) ↔ ∃ x ∈ done, nodeAt x = n ∧ edgeAt c x = e
theorem EInv.nil (c : Clock) : EInv c [] ⟨[], fun _ => []⟩ := ⟨List.nodup_nil, fun n h => (by cases h), fun n h => (by cases h), fun n e => ⟨fun h => (by cases h.1), fun ⟨x, h, _⟩ => (by cases h)⟩⟩
theorem EInv.step {c : Clock} {done : List LP} {E : Edges} (h : EInv c done E) (x : LP) : EInv c (done ++ [x]) (addEd E (nodeAt x) (edgeAt c x)) := by
  have ex : ∀ n e, (∃ y ∈ done ++ [x], nodeAt y = n ∧ edgeAt c y = e) ↔ (∃ y ∈ done, nodeAt y = n ∧ edgeAt c y = e) ∨ (nodeAt x = n ∧ edgeAt c x = e) := fun n e => by
    constructor
    · rintro ⟨y, hy, h1⟩
      rcases List.mem_append.mp hy with hy | hy
      · exact .inl ⟨y, hy, h1⟩
      · have : y = x := by simpa using hy
        subst this
        exact .inr h1
    · rintro (⟨y, hy, h1⟩ | h1)
      · exact ⟨y, List.mem_append.mpr (.inl hy), h1⟩
      · exact ⟨x, List.mem_append.mpr (.inr List.mem_cons_self), h1⟩
  have hl : (done ++ [x]).length = done.length + 1 := by rw [List.length_append]; rfl
  unfold addEd
  by_cases q : nodeAt x ∈ E.L
  · rw [if_pos q]
    refine ⟨h.nd, fun n hn => ?_, fun n hn => ?_, fun n e => ?_⟩
    · show (if n = nodeAt x then _ else _) ≠ []
      by_cases z : n = nodeAt x
      · rw [if_pos z]; simp
      · rw [if_neg z]; exact h.some n hn
    · show (if n = nodeAt x then _ else _ : List Edge).length ≤ _
      by_cases z : n = nodeAt x
      · rw [if_pos z, List.length_append, hl]
        have := h.len _ q
        rw [List.length_singleton]; omega
      · rw [if_neg z, hl]
        have := h.len n hn
        omega
    · rw [ex, ← h.iff]
      show (n ∈ E.L ∧ e ∈ (if n = nodeAt x then E.S (nodeAt x) ++ [edgeAt c x] else E.S n)) ↔ _
      by_cases z : n = nodeAt x
      · subst z
        rw [if_pos rfl, List.mem_append, List.mem_singleton]
        constructor
        · rintro ⟨h1, h2 | h2⟩
          · exact .inl ⟨h1, h2⟩
          · exact .inr ⟨rfl, h2.symm⟩
        · rintro (⟨h1, h2⟩ | ⟨_, h2⟩)
          · exact ⟨h1, .inl h2⟩
          · exact ⟨q, .inr h2.symm⟩
      · rw [if_neg z]
        exact ⟨fun h1 => .inl h1, fun h1 => h1.elim id fun h2 => absurd h2.1.symm z⟩
  · rw [if_neg q]
    have hno : ∀ e, ¬ ∃ y ∈ done, nodeAt y = nodeAt x ∧ edgeAt c y = e := fun e hy => q ((h.iff _ _).mpr hy).1
    refine ⟨?_, fun n hn => ?_, fun n hn => ?_, fun n e => ?_⟩
    · show (E.L ++ [nodeAt x]).Nodup
      rw [List.nodup_append]
      refine ⟨h.nd, by simp, fun a ha b hb z => ?_⟩
      have : b = nodeAt x := by simpa using hb
      rw [this] at z
      exact q (z ▸ ha)
    · show (if n = nodeAt x then _ else _) ≠ []
      by_cases z : n = nodeAt x
      · rw [if_pos z]; simp
      · rw [if_neg z]
        exact h.some n ((List.mem_append.mp hn).resolve_right fun y => z (by simpa using y))
    · show (if n = nodeAt x then _ else _ : List Edge).length ≤ _
      by_cases z : n = nodeAt x
      · rw [if_pos z, hl]; simp
      · rw [if_neg z, hl]
        have := h.len n ((List.mem_append.mp hn).resolve_right fun y => z (by simpa using y))
        omega
    · rw [ex, ← h.iff]
      show (n ∈ E.L ++ [nodeAt x] ∧ e ∈ (if n = nodeAt x then [edgeAt c x] else E.S n)) ↔ _
      by_cases z : n = nodeAt x
      · subst z
        rw [if_pos rfl, List.mem_singleton]
        constructor
        · rintro ⟨_, h2⟩
          exact .inr ⟨rfl, h2.symm⟩
        · rintro (h1 | ⟨_, h2⟩)
          · exact absurd h1.1 q
          · exact ⟨List.mem_append.mpr (.inr List.mem_cons_self), h2.symm⟩
      · rw [if_neg z, List.mem_append, List.mem_singleton]
        constructor
        · rintro ⟨h1 | h1, h2⟩
          · exact .inl ⟨h1, h2⟩
          · exact absurd h1 z
        · rintro (h1 | h1)
          · exact ⟨.inl h1.1, h1.2⟩
          · exact absurd h1.1.symm z
/-- told as data -/
def EData (E : Edges) (ks : List D) (S : D → List D) : Prop := ks = E.L.map eN ∧ ∀ n ∈ E.L, S (eN n) = (E.S n).map eE
theorem EData.in_ {E : Edges} {ks : List D} {S : D → List D} (h : EData E ks S) {n : Node} : eN n ∈ ks ↔ n ∈ E.L := by
  rw [h.1]
  constructor
  · intro q
    obtain ⟨m, hm, e⟩ := List.mem_map.mp q
    rw [← enc_N.inj _ _ e]; exact hm
  · exact fun q => List.mem_map.mpr ⟨n, q, rfl⟩
theorem putS_N (S : D → List D) (n m : Node) (l : List D) : putS S (eN n) l (eN m) = if m = n then l else S (eN m) := by
  unfold putS
  by_cases z : m = n
  · rw [if_pos z, z, if_pos rfl]
  · rw [if_neg z, if_neg fun q => z (inj_N _ _ q)]
theorem EData.old {E : Edges} {ks : List D} {S : D → List D} (h : EData E ks S) {n : Node} (hn : n ∈ E.L) (e : Edge) : EData (addEd E n e) ks (putS S (eN n) (S (eN n) ++ [eE e])) := by
  unfold addEd
  rw [if_pos hn]
  refine ⟨h.1, fun m hm => ?_⟩
  rw [putS_N]
  show _ = (if m = n then E.S n ++ [e] else E.S m).map eE
  by_cases z : m = n
  · rw [if_pos z, if_pos z, h.2 n hn, List.map_append]; rfl
  · rw [if_neg z, if_neg z]; exact h.2 m hm
theorem EData.fresh {E : Edges} {ks : List D} {S : D → List D} (h : EData E ks S) {n : Node} (hn : n ∉ E.L) (e : Edge) : EData (addEd E n e) (ks ++ [eN n]) (putS S (eN n) [eE e]) := by
  unfold addEd
  rw [if_neg hn]
  refine ⟨by rw [h.1]; show _ = (E.L ++ [n]).map eN; rw [List.map_append]; rfl, fun m hm => ?_⟩
  rw [putS_N]
  show _ = (if m = n then [e] else E.S m).map eE
  by_cases z : m = n
  · rw [if_pos z, if_pos z]; rfl
  · rw [if_neg z, if_neg z]
    exact h.2 m ((List.mem_append.mp hm).resolve_right fun y => z (by simpa using y))
def doneTo (c : Clock) (i : Nat) : List LP := ((leansOf c).take i).flatMap fun l => (iRange 0 c.P).map fun t => (l, t)
theorem doneTo_succ {c : Clock} {i : Nat} {l : Xg × Xg} (h : (leansOf c)[i]? = some l) : doneTo c (i + 1) = doneTo c i ++ (iRange 0 c.P).map fun t => (l, t) := by
  unfold doneTo
  rw [List.take_succ, h, List.flatMap_append]
  simp
def DoneOk (c : Clock) (done : List LP) : Prop := (∀ x ∈ done, x.1 ∈ leansOf c ∧ 0 ≤ x.2 ∧ x.2 < c.P) ∧ done.length ≤ 13000
theorem done_ok {c : Clock} (ok : c.Ok) {i : Nat} {l : Xg × Xg} (h : (leansOf c)[i]? = some l) (k : Nat) : DoneOk c (doneTo c i ++ ((iRange 0 c.P).take k).map fun t => (l, t)) := by
  have p2 := ok.p2
  have hr : (iRange 0 c.P).length ≤ 12 := by unfold iRange; rw [List.length_map, List.length_range]; omega
  refine ⟨fun x hx => ?_, ?_⟩
  · rcases List.mem_append.mp hx with hx | hx
    · unfold doneTo at hx
      obtain ⟨l', hl', hx⟩ := List.mem_flatMap.mp hx
      obtain ⟨t, ht, rfl⟩ := List.mem_map.mp hx
      exact ⟨List.mem_of_mem_take hl', iRange_mem.mp ht⟩
    · obtain ⟨t, ht, rfl⟩ := List.mem_map.mp hx
      exact ⟨List.mem_of_getElem? h, iRange_mem.mp (List.mem_of_mem_take ht)⟩
  · rw [List.length_append, List.length_map]
    have h1 := flat_len2 (m := 12) (l := (leansOf c).take i) (f := fun l => (iRange 0 c.P).map fun t => (l, t)) fun a _ => by rw [List.length_map]; exact hr
    have h2 := leans_len ok
    have h3 : ((leansOf c).take i).length ≤ (leansOf c).length := List.length_take_le' ..
    have h4 : ((iRange 0 c.P).take k).length ≤ (iRange 0 c.P).length := List.length_take_le' ..
    unfold doneTo
    omega
theorem EInv.nodes {c : Clock} (ok : c.Ok) {done : List LP} {E : Edges} (h : EInv c done E) (dn : ∀ x ∈ done, x.1 ∈ leansOf c ∧ 0 ≤ x.2 ∧ x.2 < c.P) : E.L.length ≤ 300 := by
  have p2 := ok.p2
  have h1 := nodup_len h.nd (U := nodesOf c) fun n hn => by
    obtain ⟨e, he⟩ := List.exists_mem_of_ne_nil _ (h.some n hn)
    obtain ⟨x, hx, e1, _⟩ := (h.iff n e).mp ⟨hn, he⟩
    obtain ⟨d1, d2, d3⟩ := dn x hx
    obtain ⟨k1, k2⟩ := leans_in ok d1
    rw [← e1]
    exact nodes_mem (needs_in ok k1 k2).1 d2 d3
  have h2 := flat_len2 (m := 12) (l := everyX c) (f := fun e => (iRange 0 c.P).map fun p => (e, p)) fun e _ => by
    unfold iRange
    rw [List.length_map, List.length_map, List.length_range]
    omega
  have h3 := everyX_len ok
  unfold nodesOf at h1
  omega
theorem EInv.edges {c : Clock} (ok : c.Ok) {E : Edges} (h : EInv c (doneTo c (leansOf c).length) E) : EdgesIs c E := by
  have dn : ∀ x : LP, x ∈ doneTo c (leansOf c).length ↔ x.1 ∈ leansOf c ∧ 0 ≤ x.2 ∧ x.2 < c.P := fun x => by
    unfold doneTo
    rw [List.take_length]
    constructor
    · intro hx
      obtain ⟨l', hl', hx⟩ := List.mem_flatMap.mp hx
      obtain ⟨t, ht, rfl⟩ := List.mem_map.mp hx
      exact ⟨hl', iRange_mem.mp ht⟩
    · rintro ⟨h1, h2⟩
      exact List.mem_flatMap.mpr ⟨x.1, h1, List.mem_map.mpr ⟨x.2, iRange_mem.mpr h2, rfl⟩⟩
  refine ⟨h.nd, h.nodes ok fun x hx => (dn x).mp hx, h.some, fun n e => ?_⟩
  have e0 : e ∈ E.succ n ↔ (n ∈ E.L ∧ e ∈ E.S n) := by
    unfold Edges.succ
    by_cases z : n ∈ E.L
    · rw [if_pos z]; exact ⟨fun q => ⟨z, q⟩, fun q => q.2⟩
    · rw [if_neg z]; exact ⟨fun q => (by cases q), fun q => absurd q.1 z⟩
  rw [e0, h.iff]
  constructor
  · rintro ⟨x, hx, rfl, rfl⟩
    obtain ⟨d1, d2, d3⟩ := (dn x).mp hx
    exact ⟨d1, d2, d3, rfl, rfl⟩
  · rintro ⟨a1, a2, a3, a4, a5⟩
    refine ⟨((e.1, n.1), n.2), (dn _).mpr ⟨a1, a2, a3⟩, rfl, ?_⟩
    refine Prod.ext rfl (Prod.ext a4.symm a5.symm)
theorem no_nil : noOwn [] := fun i d h => by simp at h
theorem no_cons {x : Option R} {ρ : Env'} (hx : ∀ d, x ≠ some (.own d)) (h : noOwn ρ) : noOwn (x :: ρ) := fun i d e => by
  cases i with
  | zero =>
    have e : x = some (.own d) := by simpa using e
    exact hx d e
  | succ i => exact h i d (by simpa using e)
theorem noOwn.put {ρ : Env'} (h : noOwn ρ) (i : Nat) (v : D) : noOwn (ρ.set i (some (.val v))) := fun j d e => by
  rcases get_set e with ⟨_, z⟩ | ⟨_, z⟩
  · cases z
  · exact h j d z
section
variable {P : Program} {w : World} {K : PySem.W.Frag} {mg : Str → Option Value} {base : Heap} {W0 : Wild}
theorem can_every_edge (B : Bd K mg) : Can P w K mg base W0 5 "every_edge" 1 gEdges [] := by
  refine can_body (N := ["clock", "found", "one", "other", "phase", "number"]) (ps := ["clock"]) B.every_edge ⟨rfl, rfl, rfl, by decide +kernel, rfl, by decide +kernel, by decide +kernel⟩ (fun _ _ _ _ _ _ us hl => match us, hl with | [_], _ => rfl) ?_
  intro f cdv A outer s H E Wl rs C hr hW ⟨c, ok, e, hC⟩
  subst e
  have hN : (["clock", "found", "one", "other", "phase", "number"] : List Str).Nodup := by decide +kernel
  have hu := hu_of hr
  have hP := ok.p1
  have hP2 := ok.p2
  refine wss_cons (ws_own 1 (wn_d0 ?_) hN)
  refine wss_led 1 rfl fun p => ?_
  refine ls_for (js := [2, 3]) (by passes_own) rfl (wi_list (we_call (can_every_lean B) hr (by decide) hW (wa_cons (we_var 0 rfl (wa_nil ⟨rfl, rfl, c, ok, rfl, fun i ρ ks S => noOwn ρ ∧ ∃ (E : Edges) (r2 r3 r4 r5 : Option R), ρ = [some (.val c.enc), some (.adr p), r2, r3, r4, r5] ∧ EInv c (doneTo c i) E ∧ EData E ks S, ⟨?_, ⟨[], fun _ => []⟩, none, none, none, none, rfl, EInv.nil c, rfl, fun n hn => (by cases hn)⟩, ?_, ?_⟩)))))
  · exact no_cons (fun d h => (by cases h)) (no_cons (fun d h => (by cases h)) (no_cons (fun d h => (by cases h)) (no_cons (fun d h => (by cases h)) (no_cons (fun d h => (by cases h)) (no_cons (fun d h => (by cases h)) no_nil)))))
  · rintro i d ρ' ks' S' hd ⟨no, E, r2, r3, r4, r5, rfl, ei, ed⟩
    rw [List.getElem?_map] at hd
    obtain ⟨l, hl, rfl⟩ := Option.map_eq_some_iff.mp hd
    obtain ⟨l1, l2⟩ := leans_in ok (List.mem_of_getElem? hl)
    obtain ⟨l3, l4, _⟩ := needs_in ok l1 l2
    refine wg_tup rfl (wgs_cons (js := [2]) (wg_name 2 (wgs_cons (js := [3]) (js' := []) (wg_name 3 (wgs_nil ?_) hN)) hN))
    have no2 := (no.put 2 (eX l.1)).put 3 (eX l.2)
    refine lss_one (ls_for (js := [4]) (by passes_own) rfl (wi_range1 B.bare.range (we_at (j := 0) (we_var 0 rfl rfl) rfl ⟨by omega, by omega, fun k ρ ks S => noOwn ρ ∧ ∃ (E : Edges) (r4 r5 : Option R), ρ = [some (.val c.enc), some (.adr p), some (.val (eX l.1)), some (.val (eX l.2)), r4, r5] ∧ EInv c (doneTo c i ++ ((iRange 0 c.P).take k).map fun t => (l, t)) E ∧ EData E ks S, ⟨no2, E, r4, r5, rfl, ?_, ed⟩, ?_, ?_⟩)))
    · rw [List.take_zero, List.map_nil, List.append_nil]; exact ei
    · rintro k d ρ' ks' S' hd ⟨no3, E, r4, r5, rfl, ei, ed⟩
      rw [rangeD_i, List.getElem?_map] at hd
      obtain ⟨t, ht, rfl⟩ := Option.map_eq_some_iff.mp hd
      have htb := iRange_mem.mp (List.mem_of_getElem? ht)
      have dk := done_ok ok hl k
      have step : doneTo c i ++ ((iRange 0 c.P).take (k + 1)).map (fun t => (l, t)) = (doneTo c i ++ ((iRange 0 c.P).take k).map fun t => (l, t)) ++ [(l, t)] := by
        rw [List.take_succ, ht, List.map_append, ← List.append_assoc]; rfl
      generalize doneTo c i ++ ((iRange 0 c.P).take k).map (fun t => (l, t)) = done at ei dk step
      have es := ei.step (l, t)
      rw [← step] at es
      have ksl : ks'.length ≤ 300 := by
        rw [ed.1, List.length_map]; exact ei.nodes ok dk.1
      refine wg_name 4 ?_ hN
      have no4 := no3.put 4 (.int t)
      refine lss_cons (ls_ws no4 (ws_asg 5 (we_call (can_pushed B) hr (by decide) hW (wa_cons (we_var 0 rfl (wa_cons (we_var 2 rfl (wa_cons (we_var 3 rfl (wa_cons (we_var 4 rfl (wa_nil ⟨rfl, rfl, c, l.1, l.2, t, ok, (everyX_in l1).1, l4, rfl, ?_⟩)))))))))) hN))
      have no5 := no4.put 5 (.int (pushed c l.1 l.2 t))
      dsimp only [valK, List.set]
      refine lss_one ?_
      refine ls_setdef 1 hu rfl no5 (Nat.lt_of_le_of_lt ksl (by decide)) ?_ (pe_bm PySem.F.plainAttrs_list PySem.F.slot_list_append PySem.F.type_list_append mt_append (pe_setD hu (pe_var rfl (Or.inl rfl) (by decide) (by decide)) pe_sem pe_sem ⟨rfl, rfl, rfl, rfl⟩) (pa_cons pe_sem pa_nil))
      refine we_tup (wa_cons (we_var 3 rfl (wa_cons (we_var 4 rfl (wa_nil ⟨(show 2 ≤ sizeLine by decide), rfl, ?_⟩)))))
      refine we_tup (wa_cons (we_var 2 rfl (wa_cons (we_mod (we_var 5 rfl (we_at (j := 0) (we_var 0 rfl rfl) rfl ⟨?_, wa_cons (we_sub (we_var 5 rfl (we_var 4 rfl (wa_nil ⟨(show 3 ≤ sizeLine by decide), fun hin => ?_, fun hin => ?_⟩))))⟩))))))
      · exact (show 0 < c.P by omega)
      · have hin : nodeAt (l, t) ∈ E.L := (ed.in_ (n := nodeAt (l, t))).mp hin
        refine ⟨?_, no5, _, _, _, rfl, es, ed.old hin (edgeAt c (l, t))⟩
        show (S' (eN (nodeAt (l, t)))).length < sizeLine
        rw [ed.2 _ hin, List.length_map]
        have := ei.len _ hin
        exact Nat.lt_of_le_of_lt (show (E.S (nodeAt (l, t))).length ≤ 13000 by have := dk.2; omega) (by decide)
      · have hin : nodeAt (l, t) ∉ E.L := fun q => hin ((ed.in_ (n := nodeAt (l, t))).mpr q)
        exact ⟨no5, _, _, _, rfl, es, ed.fresh hin (edgeAt c (l, t))⟩
    · rintro ρ' ks' S' ⟨no3, E, r4, r5, rfl, ei, ed⟩
      refine ⟨no3, E, _, _, r4, r5, rfl, ?_, ed⟩
      rw [rangeD_i, List.length_map, List.take_length, ← doneTo_succ hl] at ei
      exact ei
  · rintro ρ' ks' S' ⟨no, E, r2, r3, r4, r5, rfl, ei, ed⟩
    rw [List.length_map] at ei
    refine ⟨no, rfl, wss_one (ws_ret (we_var 1 rfl ?_))⟩
    have et : (ks'.map fun k => (k, PyData.list (S' k))) = E.tb := by
      rw [ed.1, List.map_map]
      unfold Edges.tb tab
      refine List.map_congr_left fun n hn => ?_
      show (eN n, PyData.list (S' (eN n))) = _
      rw [ed.2 n hn]
    show C (.dict _)
    rw [et]
    exact hC E (ei.edges ok)
end
end LC
/-! A place whose word is known exactly for a while: the row of the draws. -/
namespace LC
open PySem L2 PySem.Spec PyProof.Rows
def exact_ (Wl : Wild) (r : Addr) (xs : List V) : Wild := Wl.map fun p => if p.1 = r then (r, fun o => o = .lst xs) else p
/-- every word on r is kept by xs -/
def RowP (Wl : Wild) (r : Addr) (xs : List V) : Prop := ∀ q ∈ Wl, q.1 = r → q.2 (.lst xs)
section
variable {Wl : Wild} {r : Addr} {xs : List V} {F0 H0 F H : Hp}
theorem exact_mem {Q : HO → Prop} (h : (r, Q) ∈ Wl) : (r, fun o => o = .lst xs) ∈ exact_ Wl r xs := List.mem_map.mpr ⟨(r, Q), h, if_pos rfl⟩
theorem exact_out {p : Addr × (HO → Prop)} (h : p ∈ Wl) (hn : p.1 ≠ r) : p ∈ exact_ Wl r xs := List.mem_map.mpr ⟨p, h, if_neg hn⟩
theorem exact_tame {a : Addr} : Tame (exact_ Wl r xs) a ↔ Tame Wl a := by
  constructor
  · intro h p hp z
    by_cases q : p.1 = r
    · exact h (r, fun o => o = .lst xs) (List.mem_map.mpr ⟨p, hp, if_pos q⟩) (q.symm.trans z)
    · exact h p (exact_out hp q) z
  · intro h p hp z
    obtain ⟨p', hp', e⟩ := List.mem_map.mp hp
    by_cases q : p'.1 = r
    · rw [if_pos q] at e
      subst e
      exact h p' hp' (q.trans z)
    · rw [if_neg q] at e
      subst e
      exact h p' hp' z
theorem At.unexact (h : At (exact_ Wl r xs) F H) (hp : RowP Wl r xs) : At Wl F H := by
  refine ⟨h.fh, fun p hm => ?_⟩
  by_cases q : p.1 = r
  · obtain ⟨h1, o, h2, h3⟩ := h.wl (r, fun o => o = .lst xs) (List.mem_map.mpr ⟨p, hm, if_pos q⟩)
    have h3 : o = .lst xs := h3
    subst h3
    rw [q]
    exact ⟨h1, _, h2, hp p hm q⟩
  · exact h.wl p (exact_out hm q)
theorem At.exact (h : At Wl F H) (hr : H r = some (.lst xs)) : At (exact_ Wl r xs) F H := by
  refine ⟨h.fh, fun p hm => ?_⟩
  obtain ⟨p', hm', e⟩ := List.mem_map.mp hm
  by_cases q : p'.1 = r
  · rw [if_pos q] at e
    subst e
    have := (h.wl p' hm').1
    rw [q] at this
    exact ⟨this, _, hr, rfl⟩
  · rw [if_neg q] at e
    subst e
    exact h.wl p' hm'
theorem Gr.unexact (g : Gr (exact_ Wl r xs) F0 H0 F H) (hp : RowP Wl r xs) : Gr Wl F0 H0 F H := ⟨g.ff, fun a o e t => g.hh a o e (exact_tame.mpr t), g.nw, g.at_.unexact hp⟩
theorem Gr.exact (g : Gr Wl F0 H0 F H) (hr : H r = some (.lst xs)) : Gr (exact_ Wl r xs) F0 H0 F H := ⟨g.ff, fun a o e t => g.hh a o e (exact_tame.mp t), g.nw, g.at_.exact hr⟩
end
section
variable {X : Cx} {Wl Wl' : Wild} {ρ : Env'} {r : Addr} {xs : List V} {F0 H0 F H : Hp} {σ : L2.St} {E : Ends} {st : Stmt} {sts rest : List Stmt} {e a b c : Expr} {pos : Pos} {nx : Env' → List V → Prop} {rt : D → Prop} {Φ : Wish} {Q : R → Prop}
theorem Slots.tameTo {en : En} (s : Slots en Wl ρ F H σ) (h : ∀ a, Tame Wl a → Tame Wl' a) : Slots en Wl' ρ F H σ := by
  refine ⟨s.len, fun i q e => ?_⟩
  obtain ⟨v, e2, z⟩ := s.at_ i q e
  refine ⟨v, e2, ?_⟩
  cases q with
  | val d => exact z
  | adr b => exact z
  | own d => obtain ⟨b, e3, fb, tb, ob⟩ := z; exact ⟨b, e3, fb, h b tb, ob⟩
theorem Sta.unexact (s : Sta X (exact_ Wl r xs) ρ F0 H0 F H σ) (hp : RowP Wl r xs) : Sta X Wl ρ F0 H0 F H σ := ⟨s.gr.unexact hp, s.sl.tameTo fun a t => exact_tame.mp t, s.fr, s.sep⟩
theorem Sta.exact (s : Sta X Wl ρ F0 H0 F H σ) (hr : H r = some (.lst xs)) : Sta X (exact_ Wl r xs) ρ F0 H0 F H σ := ⟨s.gr.exact hr, s.sl.tameTo fun a t => exact_tame.mpr t, s.fr, s.sep⟩
/-- a statement, the row's word known -/
def XS (X : Cx) (Wl : Wild) (r : Addr) (xs : List V) (ρ : Env') (st : Stmt) (nx : Env' → List V → Prop) (rt : D → Prop) : Prop :=
  ∀ F0 H0 F H σ E, Sta X (exact_ Wl r xs) ρ F0 H0 F H σ → (∀ ρ' xs' F' H' σ', nx ρ' xs' → Sta X (exact_ Wl r xs') ρ' F0 H0 F' H' σ' → E.nx σ' H') → (∀ d v F' H', rt d → Gr Wl F0 H0 F' H' → Rep (cxEn X) F' d v → E.rt v H') → tSemS X st E σ H
def XSs (X : Cx) (Wl : Wild) (r : Addr) (xs : List V) (ρ : Env') (sts : List Stmt) (nx : Env' → List V → Prop) (rt : D → Prop) : Prop :=
  ∀ F0 H0 F H σ E, Sta X (exact_ Wl r xs) ρ F0 H0 F H σ → (∀ ρ' xs' F' H' σ', nx ρ' xs' → Sta X (exact_ Wl r xs') ρ' F0 H0 F' H' σ' → E.nx σ' H') → (∀ d v F' H', rt d → Gr Wl F0 H0 F' H' → Rep (cxEn X) F' d v → E.rt v H') → tSemSs X sts E σ H
theorem xss_nil (h : nx ρ xs) : XSs X Wl r xs ρ [] nx rt := fun F0 H0 F H σ E s m1 m2 => pss_nil.sem (m1 ρ xs F H σ h s)
theorem xss_cons (h : XS X Wl r xs ρ st (fun ρ' xs' => XSs X Wl r xs' ρ' rest nx rt) rt) : XSs X Wl r xs ρ (st :: rest) nx rt := fun F0 H0 F H σ E s m1 m2 =>
  (pss_cons (ps_sem (st := st)) (pss_sem (st := rest))).sem (h F0 H0 F H σ { E with nx := tSemSs X rest E } s (fun ρ' xs' F' H' σ' q s' => q F0 H0 F' H' σ' E s' m1 m2) m2)
theorem xss_one (h : XS X Wl r xs ρ st nx rt) : XSs X Wl r xs ρ [st] nx rt := fun F0 H0 F H σ E s m1 m2 => (pss_one (ps_sem (st := st))).sem (h F0 H0 F H σ E s m1 m2)
theorem x_ws (hp : RowP Wl r xs) (h : WS X (exact_ Wl r xs) ρ st { nx := fun ρ' => nx ρ' xs, rt := rt }) : XS X Wl r xs ρ st nx rt := fun F0 H0 F H σ E s m1 m2 =>
  h F0 H0 F H σ E s ⟨fun ρ' F' H' σ' q s' => m1 ρ' xs F' H' σ' q s', fun d v F' H' q g rr => m2 d v F' H' q (g.unexact hp) rr, fun _ _ _ _ q => q.elim, fun _ _ _ _ q => q.elim⟩
theorem x_if {sa sb : List Stmt} (h : WT X (exact_ Wl r xs) ρ c fun x => (x = true → XSs X Wl r xs ρ sa nx rt) ∧ (x = false → XSs X Wl r xs ρ sb nx rt)) : XS X Wl r xs ρ (.If c sa sb pos) nx rt := fun F0 H0 F H σ E s m1 m2 =>
  (ps_if pt_sem (pss_sem (st := sa)) (pss_sem (st := sb))).sem (h F H σ _ s.at_ s.sl fun x F1 H1 q g => by
    cases x with
    | true => rw [if_pos rfl]; exact q.1 rfl F0 H0 F1 H1 σ E (s.grow g) m1 m2
    | false => rw [if_neg Bool.false_ne_true]; exact q.2 rfl F0 H0 F1 H1 σ E (s.grow g) m1 m2)
theorem row_at {Q0 : HO → Prop} (hm : (r, Q0) ∈ Wl) (s : At (exact_ Wl r xs) F H) : F r = none ∧ H r = some (.lst xs) := by
  obtain ⟨h1, o, h2, h3⟩ := s.wl _ (exact_mem (xs := xs) hm)
  have h3 : o = .lst xs := h3
  subst h3
  exact ⟨h1, h2⟩
/-- row[k] = e -/
theorem x_set (i k : Nat) {x : Str} {px sp kp : Pos} {kj : Nat} {Q0 : HO → Prop} (hm : (r, Q0) ∈ Wl) (hr : ρ[i]? = some (some (.adr r))) (hk : k < xs.length) (h : WE X (exact_ Wl r xs) ρ e (valK fun d => ∃ n, d = .int n ∧ nx ρ (xs.set k (.int n))))
    (hsub : PG X (.Subscript (.Name x px) (.Constant (.int (k : Int)) kj kp) sp) (gSub (tVar i) (tC (.int (k : Int))) rSetL))
    (hs : swapsWithSole [.Subscript (.Name x px) (.Constant (.int (k : Int)) kj kp) sp] e pos.line X.env = pure false := by rfl) (hw : swappedStores [.Subscript (.Name x px) (.Constant (.int (k : Int)) kj kp) sp] e X.env = pure none := by rfl)
    (h1 : (assignEach [.Subscript (.Name x px) (.Constant (.int (k : Int)) kj kp) sp] X.env).map (·.2) = [assign (.Subscript (.Name x px) (.Constant (.int (k : Int)) kj kp) sp) X.env] := by rfl) :
    XS X Wl r xs ρ (.Assign [.Subscript (.Name x px) (.Constant (.int (k : Int)) kj kp) sp] e pos) nx rt := fun F0 H0 F H σ E s m1 m2 =>
  (ps_asg (pe_sem (e := e)) hsub hs hw h1).sem (h F H σ _ s.at_ s.sl fun rv vv F1 H1 q g rr => by
    match rv, q, rr with
    | .val d, ⟨n, e1, q⟩, rr =>
      subst e1
      cases rr
      have s1 := s.grow g
      obtain ⟨u, eu, z⟩ := s1.sl.at_ i _ hr
      have z : u = .ref r := z
      subst z
      obtain ⟨fr, hH⟩ := row_at hm s1.at_
      refine ⟨.ref r, eu, r, xs, k, k, rfl, rfl, hH, by unfold ixN; rw [if_pos (by omega), if_pos (by omega)]; rfl, ?_⟩
      have ht : ∀ {a : Addr}, Tame (exact_ Wl r xs) a → a ≠ r := fun {a} t z => t _ (exact_mem (xs := xs) hm) z.symm
      have ht2 : ∀ {a : Addr}, Tame (exact_ Wl r (xs.set k (.int n))) a → a ≠ r := fun {a} t z => t _ (exact_mem hm) z.symm
      have at2 : At (exact_ Wl r (xs.set k (.int n))) F1 (upd H1 r (.lst (xs.set k (.int n)))) := by
        refine ⟨fun a o e => ?_, fun p hpm => ?_⟩
        · rw [upd_ne fun z => by rw [z, fr] at e; cases e]; exact s1.at_.fh a o e
        · obtain ⟨p', hm', e⟩ := List.mem_map.mp hpm
          by_cases q : p'.1 = r
          · rw [if_pos q] at e
            subst e
            exact ⟨fr, _, upd_same, rfl⟩
          · rw [if_neg q] at e
            subst e
            obtain ⟨w1, o, w2, w3⟩ := s1.at_.wl p' (exact_out hm' q)
            exact ⟨w1, o, by rw [upd_ne q]; exact w2, w3⟩
      refine m1 ρ _ F1 _ σ q ⟨⟨s1.gr.ff, fun a o e t => ?_, s1.gr.nw, at2⟩, ⟨s1.sl.len, fun j q e => ?_⟩, s1.fr, s1.sep⟩
      · rw [upd_ne (ht2 t)]; exact s1.gr.hh a o e (exact_tame.mpr (exact_tame.mp t))
      · obtain ⟨v, e2, z⟩ := s1.sl.at_ j q e
        refine ⟨v, e2, ?_⟩
        cases q with
        | val d => exact z
        | adr b => exact z
        | own d =>
          obtain ⟨b, e3, fb, tb, ob⟩ := z
          exact ⟨b, e3, fb, exact_tame.mpr (exact_tame.mp tb), ob.mono (Evl.Ex.refl _) fun o ho => by rw [upd_ne (ht tb)]; exact ho⟩)
/-- from here on the row's word is known -/
theorem xss_open {Q0 : HO → Prop} (hm : (r, Q0) ∈ Wl) (hu : ∀ q ∈ Wl, q.1 = r → q.2 = Q0) (hl : ∀ o, Q0 o → ∃ xs, o = .lst xs) (h : ∀ xs, Q0 (.lst xs) → XSs X Wl r xs ρ sts (fun ρ' xs' => Q0 (.lst xs') ∧ Φ.nx ρ') Φ.rt) : WSs X Wl ρ sts Φ := fun F0 H0 F H σ E s m => by
  obtain ⟨h1, o, h2, h3⟩ := s.at_.wl _ hm
  obtain ⟨xs, rfl⟩ := hl o h3
  refine h xs h3 F0 H0 F H σ E (s.exact h2) (fun ρ' xs' F' H' σ' q s' => m.nx ρ' F' H' σ' q.2 (s'.unexact fun p hp e => ?_)) m.rt
  have := hu p hp e
  rw [this]; exact q.1
/-! ### reading -/
/-- a place whose list is known -/
def ListAt (en : En) (Wl : Wild) (a : Addr) (xs : List V) : Prop := ∀ F H, At Wl F H → SqL en.K H a xs
theorem ListAt.row {en : En} {Q0 : HO → Prop} (hm : (r, Q0) ∈ Wl) : ListAt en (exact_ Wl r xs) r xs := fun F H a => SqL.of (row_at hm a).2
def aixK (en : En) (Wl : Wild) : R → R → (R → Prop) → Prop
  | .adr a, .val (.int j), Q => ∃ (xs : List V) (u : V), ListAt en Wl a xs ∧ 0 ≤ j ∧ xs[j.toNat]? = some u ∧ ((∃ n, u = .int n ∧ Q (.val (.int n))) ∨ (∃ b, u = .ref b ∧ Q (.adr b)))
  | _, _, _ => False
theorem d_aix {en : En} : DOp en Wl (rIx2 en.K) (aixK en Wl) := by
  intro F H x y v u Q C a rx ry h hc
  match x, y, h, rx, ry with
  | .adr p, .val (.int j), ⟨xs, w, hL, j0, hw, h⟩, rx, ry =>
    cases ry
    have rx : v = .ref p := rx
    subst rx
    have hl := (List.getElem?_eq_some_iff.mp hw).1
    have ha : atI xs j = some w := by
      unfold atI ixN
      rw [if_pos j0, if_pos (by omega)]; exact hw
    refine .inl ⟨p, xs, j, w, rfl, rfl, hL F H a, ha, ?_⟩
    rcases h with ⟨n, rfl, h⟩ | ⟨b, rfl, h⟩
    · exact hc _ _ F H h (Gr.refl a) (Rep.int n)
    · exact hc (.adr b) _ F H h (Gr.refl a) rfl
theorem we_aix (h : WE X Wl ρ a fun x => WE X Wl ρ b fun y => aixK (cxEn X) Wl x y Q) (hs : PlainIx b := by exact fun _ _ => rfl) : WE X Wl ρ (.Subscript a b pos) Q :=
  fun F H σ C ha hs' hc => (pe_ix ix_2 pe_sem pe_sem hs).sem (two_sem d_aix ha hs' h hc)
def fdivK : R → R → (R → Prop) → Prop
  | .val (.int i), .val (.int j), Q => CDiv i j ∧ Q (.val (.int (i / j)))
  | _, _, _ => False
theorem d_fdiv {en : En} : DOp en Wl (rI CDiv fun i j => V.int (i / j)) fdivK := by
  intro F H x y v u Q C a rx ry h hc
  match x, y, h, rx, ry with
  | .val (.int i), .val (.int j), ⟨h1, h⟩, rx, ry =>
    cases rx; cases ry
    exact ⟨i, j, rfl, rfl, h1, hc _ _ F H h (Gr.refl a) (Rep.int _)⟩
theorem we_fdiv (h : WE X Wl ρ a fun x => WE X Wl ρ b fun y => fdivK x y Q) : WE X Wl ρ (.BinOp a .FloorDiv b pos) Q := we_bin op_fdiv d_fdiv h
def powK : R → R → (R → Prop) → Prop
  | .val (.int i), .val (.int j), Q => CPow i j ∧ Q (.val (.int (i ^ j.toNat)))
  | _, _, _ => False
theorem d_pow {en : En} : DOp en Wl (rI CPow fun i j => V.int (i ^ j.toNat)) powK := by
  intro F H x y v u Q C a rx ry h hc
  match x, y, h, rx, ry with
  | .val (.int i), .val (.int j), ⟨h1, h⟩, rx, ry =>
    cases rx; cases ry
    exact ⟨i, j, rfl, rfl, h1, hc _ _ F H h (Gr.refl a) (Rep.int _)⟩
theorem we_pow (h : WE X Wl ρ a fun x => WE X Wl ρ b fun y => powK x y Q) : WE X Wl ρ (.BinOp a .Pow b pos) Q := we_bin op_pow d_pow h
/-- len of a place's list -/
theorem we_lenA (B : Bare X.mg) {p : Pos} (h : WE X Wl ρ a fun x => ∃ b xs, x = .adr b ∧ ListAt (cxEn X) Wl b xs ∧ Q (.val (.int (xs.length : Nat)))) (hg : Gl X "len" := by rfl) (he : starEach [a] X.env = (false, eval a X.env) :: starEach [] X.env := by rfl) : WE X Wl ρ (.Call (.Name "len" p) [a] [] pos) Q := fun F H σ C ha hs hc =>
  (pe_callB call_len_seq hg B.len PySem.boot_len (pa_cons pe_sem pa_nil he) (by decide) (by decide) he (by rfl)).sem (h F H σ _ ha hs fun rv v F1 H1 ⟨b, xs, e, hL, q⟩ g rr => by
    subst e
    have rr : v = .ref b := rr
    subst rr
    exact ⟨b, xs, rfl, .inl (hL F1 H1 g.at_), hc _ _ F1 H1 q g (Rep.int _)⟩)
end
end LC
/-! The walk of the law's draw. -/
namespace LC
open PySem L2 PySem.Spec PyProof.Rows
def rowL (sc : Addr) (i s t : Int) : List V := [.ref sc, .int i, .int s, .int t]
/-- the row: the script's place, what is drawn so far, the seed, what is left of a huge number -/
def RowQ (sc : Addr) : HO → Prop := fun o => ∃ i s t : Int, o = .lst (rowL sc i s t) ∧ 0 ≤ i ∧ 0 ≤ s ∧ s < 2147483647
section
variable {P : Program} {w : World} {K : PySem.W.Frag} {mg : Str → Option Value} {base : Heap} {W0 : Wild} {r sc : Addr} {zs : List Int}
structure RowIn (K : PySem.W.Frag) (W0 : Wild) (r sc : Addr) (zs : List Int) : Prop where
  row : (r, RowQ sc) ∈ W0
  scr : ∀ Wl F H, Incl W0 Wl → At Wl F H → SqL K H sc (zs.map V.int)
def gTaken (r : Addr) : Con := fun rs C => ∃ many : Int, 1 ≤ many ∧ many ≤ 1000000 ∧ rs = [.adr r, .val (.int many)] ∧ ∀ k, 0 ≤ k → k < many → C (.int k)
theorem can_k_taken (B : Bd K mg) (hR : RowIn K W0 r sc zs) : Can P w K mg base W0 1 "_law_taken" 2 (gTaken r) [] := by
  refine can_body (N := ["_law_row", "_law_many", "_law_found", "_law_cell"]) (ps := ["_law_row", "_law_many"]) B.k_taken ⟨rfl, rfl, rfl, by decide +kernel, rfl, by decide +kernel, by decide +kernel⟩ (fun _ _ _ _ _ _ us hl => match us, hl with | [_, _], _ => rfl) ?_
  intro f cdv A outer s H E Wl rs C hr hW ⟨many, m1, m2, e, hC⟩
  subst e
  have hN : (["_law_row", "_law_many", "_law_found", "_law_cell"] : List Str).Nodup := by decide +kernel
  have hu := hu_of hr
  have hm := hW.1 _ hR.row
  have hP : ∀ i s t : Int, 0 ≤ i → 0 ≤ s → s < 2147483647 → RowP Wl r (rowL sc i s t) := fun i s t h1 h2 h3 q hq e => by
    have := hW.2 _ hR.row q hq e
    rw [this]
    exact ⟨i, s, t, rfl, h1, h2, h3⟩
  have hx : ∀ xs, ListAt ⟨P, w, K⟩ (exact_ Wl r xs) r xs := fun xs => ListAt.row hm
  have hsc : ∀ i s t : Int, 0 ≤ i → 0 ≤ s → s < 2147483647 → ListAt ⟨P, w, K⟩ (exact_ Wl r (rowL sc i s t)) sc (zs.map V.int) := fun i s t h1 h2 h3 F H a => hR.scr Wl F H hW (a.unexact (hP i s t h1 h2 h3))
  refine xss_open hm (fun q hq e => hW.2 _ hR.row q hq e) (fun o ⟨i, s, t, e, _⟩ => ⟨_, e⟩) fun xs ⟨i, s, t, e, i0, s0, s1⟩ => ?_
  injection e with e
  subst e
  refine xss_cons (x_if (wt_gt (we_aix (we_var 0 rfl (we_int ⟨_, _, hx _, by omega, rfl, .inl ⟨t, rfl, we_int ⟨fun q => ?_, fun q => ?_⟩⟩⟩)))))
  · have q : 0 < t := of_decide_eq_true q
    refine xss_cons (x_ws (hP _ _ _ i0 s0 s1) (ws_asg 2 (we_mod (we_int1 B.bare (wa_cons (we_aix (we_var 0 rfl (we_int ⟨_, _, hx _, by omega, rfl, .inl ⟨t, rfl, wa_nil (we_var 1 rfl ⟨?_, ?_⟩)⟩⟩)))))) hN))
    · exact (show 0 < many by omega)
    refine xss_cons (x_set 0 3 hm rfl (show 3 < 4 by decide) (we_fdiv (we_aix (we_var 0 rfl (we_int ⟨_, _, hx _, by omega, rfl, .inl ⟨t, rfl, we_var 1 rfl ⟨⟨by omega, by omega⟩, _, rfl, ?_⟩⟩⟩)))) (pg_sub (pe_var rfl (Or.inl rfl) (by decide) (by decide)) pe_int set_list))
    exact xss_one (x_ws (hP i s (t / many) i0 s0 s1) (ws_ret (we_var 2 rfl (hC _ (Int.emod_nonneg _ (by omega)) (Int.emod_lt_of_pos _ (by omega))))))
  · refine xss_nil ?_
    refine xss_cons (x_set 0 1 hm rfl (show 1 < 4 by decide) (we_add (we_aix (we_var 0 rfl (we_int ⟨_, _, hx _, by omega, rfl, .inl ⟨i, rfl, we_int ⟨_, rfl, ?_⟩⟩⟩)))) (pg_sub (pe_var rfl (Or.inl rfl) (by decide) (by decide)) pe_int set_list))
    show XSs _ Wl r (rowL sc (i + 1) s t) _ _ _ _
    have mb : ∀ z : Int, 0 ≤ z % 2147483647 ∧ z % 2147483647 < 2147483647 := fun z => ⟨Int.emod_nonneg _ (by decide), Int.emod_lt_of_pos _ (by decide)⟩
    refine xss_cons (x_if (wt_gt (we_aix (we_var 0 rfl (we_int ⟨_, _, hx _, by omega, rfl, .inl ⟨i + 1, rfl, we_lenA B.bare (we_aix (we_var 0 rfl (we_int ⟨_, _, hx _, by omega, rfl, .inr ⟨sc, rfl, sc, _, rfl, hsc _ _ _ (by omega) s0 s1, fun q => ?_, fun q => ?_⟩⟩)))⟩⟩)))))
    · refine xss_cons (x_set 0 2 hm rfl (show 2 < 4 by decide) (we_mod (we_int1 B.bare (wa_cons (we_add (we_mul (we_aix (we_var 0 rfl (we_int ⟨_, _, hx _, by omega, rfl, .inl ⟨s, rfl, we_int ⟨.inr ⟨by decide, by decide⟩, we_int (wa_nil (we_int ⟨by decide, _, rfl, ?_⟩))⟩⟩⟩)))))))) (pg_sub (pe_var rfl (Or.inl rfl) (by decide) (by decide)) pe_int set_list))
      show XSs _ Wl r (rowL sc (i + 1) ((s * 48271 + 11) % 2147483647) t) _ _ _ _
      have hb := mb (s * 48271 + 11)
      generalize (s * 48271 + 11) % 2147483647 = s' at hb ⊢
      exact xss_one (x_ws (hP _ _ _ (by omega) hb.1 hb.2) (ws_ret (we_mod (we_int1 B.bare (wa_cons (we_fdiv (we_aix (we_var 0 rfl (we_int ⟨_, _, hx _, by omega, rfl, .inl ⟨s', rfl, we_int ⟨⟨by decide, by decide⟩, wa_nil (we_var 1 rfl ⟨(show 0 < many by omega), hC _ (Int.emod_nonneg _ (by omega)) (Int.emod_lt_of_pos _ (by omega))⟩)⟩⟩⟩)))))))))
    · refine xss_nil ?_
      have q : ¬ ((zs.map V.int).length : Int) < i + 1 := of_decide_eq_false q
      rw [List.length_map] at q
      obtain ⟨n, hn⟩ : ∃ n, (zs.map V.int)[(i + 1 - 1).toNat]? = some (.int n) := by
        rw [List.getElem?_map, List.getElem?_eq_getElem (show (i + 1 - 1).toNat < zs.length by omega)]
        exact ⟨_, rfl⟩
      refine xss_cons (x_ws (hP _ _ _ (by omega) s0 s1) (ws_asg 3 (we_aix (we_aix (we_var 0 rfl (we_int ⟨_, _, hx _, by omega, rfl, .inr ⟨sc, rfl, we_sub (we_aix (we_var 0 rfl (we_int ⟨_, _, hx _, by omega, rfl, .inl ⟨i + 1, rfl, we_int ⟨_, _, hsc _ _ _ (by omega) s0 s1, by omega, hn, .inl ⟨n, rfl, ?_⟩⟩⟩⟩)))⟩⟩)))) hN))
      refine xss_cons (x_set 0 2 hm rfl (show 2 < 4 by decide) (we_mod (we_int1 B.bare (wa_cons (we_add (we_add (we_mul (we_aix (we_var 0 rfl (we_int ⟨_, _, hx _, by omega, rfl, .inl ⟨s, rfl, we_int ⟨.inr ⟨by decide, by decide⟩, we_var 3 rfl (we_int (wa_nil (we_int ⟨by decide, _, rfl, ?_⟩)))⟩⟩⟩))))))))) (pg_sub (pe_var rfl (Or.inl rfl) (by decide) (by decide)) pe_int set_list))
      show XSs _ Wl r (rowL sc (i + 1) ((s * 48271 + n + 11) % 2147483647) t) _ _ _ _
      have hb := mb (s * 48271 + n + 11)
      generalize (s * 48271 + n + 11) % 2147483647 = s' at hb ⊢
      refine xss_cons (x_if (wt_ge (we_var 3 rfl (we_pow (we_int (we_int ⟨⟨by decide, by decide, by decide⟩, fun q => ?_, fun q => ?_⟩))))))
      · refine xss_one (x_set 0 3 hm rfl (show 3 < 4 by decide) (we_fdiv (we_var 3 rfl (we_var 1 rfl ⟨⟨by omega, by omega⟩, _, rfl, ?_⟩))) (pg_sub (pe_var rfl (Or.inl rfl) (by decide) (by decide)) pe_int set_list))
        show XSs _ Wl r (rowL sc (i + 1) s' (n / many)) _ _ _ _
        exact xss_one (x_ws (hP _ _ _ (by omega) hb.1 hb.2) (ws_ret (we_mod (we_int1 B.bare (wa_cons (we_var 3 rfl (wa_nil (we_var 1 rfl ⟨(show 0 < many by omega), hC _ (Int.emod_nonneg _ (by omega)) (Int.emod_lt_of_pos _ (by omega))⟩))))))))
      · refine xss_nil ?_
        exact xss_one (x_ws (hP _ _ _ (by omega) hb.1 hb.2) (ws_ret (we_mod (we_int1 B.bare (wa_cons (we_var 3 rfl (wa_nil (we_var 1 rfl ⟨(show 0 < many by omega), hC _ (Int.emod_nonneg _ (by omega)) (Int.emod_lt_of_pos _ (by omega))⟩))))))))
end
end LC
/-! What the law's drawing of a clock needs: name.index(x), name[k] = v on a list, sorted keys rise. -/
namespace LC
open PySem L2 PySem.Spec PyProof.Rows
theorem first_at {m : Int} : ∀ {l : List Int}, m ∈ l → ∃ j : Nat, l[j]? = some m ∧ ∀ i : Nat, i < j → l[i]? ≠ some m
  | x :: l, h => by
    by_cases z : x = m
    · exact ⟨0, by rw [z]; rfl, fun i hi => absurd hi (Nat.not_lt_zero _)⟩
    · obtain ⟨j, h1, h2⟩ := first_at ((List.mem_cons.mp h).resolve_left fun e => z e.symm)
      refine ⟨j + 1, by simpa using h1, fun i hi => ?_⟩
      cases i with
      | zero => simpa using z
      | succ i => simpa using h2 i (by omega)
section
variable {X : Cx} {Wl : Wild} {ρ : Env'} {e k v : Expr} {pos : Pos} {Φ : Wish} {Q : R → Prop}
theorem we_index (i : Nat) {xe : Expr} {pa pc : Pos} {l : List Int} (hr : ρ[i]? = some (some (.own (.list (l.map eI))))) (h : WE X Wl ρ e (valK fun d => ∃ m : Int, d = .int m ∧ m ∈ l ∧ ∀ j : Nat, l[j]? = some m → Q (.val (.int (j : Nat)))))
    (hpe : PE X (.Call (.Attribute xe "index" pa) [e] [] pc) (tBM X.K "list" (rIndex X.K) (tVar i) (tCons (tSem X e) tNil))) : WE X Wl ρ (.Call (.Attribute xe "index" pa) [e] [] pc) Q := fun F H σ C ha hs hc =>
  hpe.sem (by
    obtain ⟨vv, ev, q⟩ := hs.at_ i _ hr
    obtain ⟨a, rfl, fa, t, xs, hH, ra⟩ := id q
    refine ⟨_, ev, .inl ⟨rfl, _, SqL.of hH⟩, h F H σ _ ha hs fun r w F1 H1 q1 g1 rr => ?_⟩
    match r, q1, rr with
    | .val d, ⟨m, e1, hm, q1⟩, rr =>
      subst e1
      cases rr
      have hx := ra.ints
      subst hx
      have hH1 := g1.hh a _ hH t
      obtain ⟨j, hj, hlt⟩ := first_at hm
      refine ⟨a, l.map V.int, .int m, j, .int m, rfl, rfl, SqL.of hH1, rfl, ?_, by rw [List.getElem?_map, hj]; rfl, ?_, fun i z' hi hz => ?_, hc _ _ F1 H1 (q1 j hj) g1 (Rep.int _)⟩
      · rw [List.all_map, List.all_eq_true]; intro _ _; rfl
      · simp [eqV]
      · rw [List.getElem?_map] at hz
        obtain ⟨n, hn, rfl⟩ := Option.map_eq_some_iff.mp hz
        have : n ≠ m := fun z => hlt i hi (by rw [hn, z])
        simp [eqV, this])
/-- name[k] = v on a list of the frame's own -/
theorem ws_lPut (i : Nat) {x : Str} {px sp : Pos} {ds : List D} (hr : ρ[i]? = some (some (.own (.list ds)))) (h : WE X Wl ρ v (valK fun d => WE X Wl ρ k (valK fun kd => ∃ j : Nat, kd = .int (j : Nat) ∧ j < ds.length ∧ Φ.nx (ρ.set i (some (.own (.list (ds.set j d))))))))
    (hN : X.N[i]? = some x := by rfl) (hv : Vis X.env.scope x := by first | exact Or.inl rfl | exact Or.inr (Or.inl rfl) | exact Or.inr (Or.inr rfl)) (hd : (x == ("__debug__" : Str)) = false := by decide) (hcd : (x == ("__classdict__" : Str)) = false := by decide)
    (hs : swapsWithSole [.Subscript (.Name x px) k sp] v pos.line X.env = pure false := by rfl) (hw : swappedStores [.Subscript (.Name x px) k sp] v X.env = pure none := by rfl) (h1 : (assignEach [.Subscript (.Name x px) k sp] X.env).map (·.2) = [assign (.Subscript (.Name x px) k sp) X.env] := by rfl)
    (ha : ∀ w, assign (.Subscript (.Name x px) k sp) X.env w = (do
      let ov ← holding [w] (eval (.Name x px) X.env)
      let iv ← holding [w, ov] (eval k X.env)
      standAt sp
      holding [w, ov, iv] (setItem ov iv w)
      release [w, ov, iv] []) := by exact fun _ => rfl) : WS X Wl ρ (.Assign [.Subscript (.Name x px) k sp] v pos) Φ := fun F0 H0 F H σ E s m =>
  (ps_asg (pe_sem (e := v)) (pg_sub (pe_var hN hv hd hcd) pe_sem set_list ha) hs hw h1).sem (h F H σ _ s.at_ s.sl fun r vv F1 H1 q g rr => by
    match r, q, rr with
    | .val d, q, rr =>
      have s1 := s.grow g
      obtain ⟨u, eu, p, e0, fp, t, xs, hp, rk⟩ := s1.sl.at_ i _ hr
      subst e0
      refine ⟨.ref p, eu, q F1 H1 σ _ g.at_ s1.sl fun r2 v2 F2 H2 q2 g2 rr2 => ?_⟩
      match r2, q2, rr2 with
      | .val kd, ⟨j, e1, hj, q2⟩, rr2 =>
        subst e1
        cases rr2
        have s2 := s1.grow g2
        have hp2 : H2 p = some (.lst xs) := g2.hh p _ hp t
        have rk2 := rk.mono g2.ff
        refine ⟨p, xs, (j : Nat), j, rfl, rfl, hp2, by unfold ixN; rw [if_pos (by omega), if_pos (by rw [← rk.length]; omega)]; rfl, ?_⟩
        exact m.nx _ F2 _ σ q2 (s2.putL hr eu (rk2.set j (Rep.mono g2.ff rr))))
end
theorem inj_T : KeyInj eT := fun a b h => by
  have h : NestedKey.tup [.num a.1, .num a.2.1, .num a.2.2] = .tup [.num b.1, .num b.2.1, .num b.2.2] := h
  injection h with h
  injection h with h1 h2
  injection h2 with h2 h3
  injection h3 with h3 h4
  injection h1 with h1
  injection h2 with h2
  injection h3 with h3
  exact Prod.ext h1 (Prod.ext h2 h3)
theorem sum_set : ∀ {l : List Int} {j : Nat} {m : Int}, l[j]? = some m → (l.set j 0).sum = l.sum - m
  | [], j, m, h => by simp at h
  | x :: l, 0, m, h => by
    have : x = m := by simpa using h
    rw [List.set_cons_zero, List.sum_cons, List.sum_cons, this]; omega
  | x :: l, j + 1, m, h => by
    rw [List.set_cons_succ, List.sum_cons, List.sum_cons, sum_set (l := l) (j := j) (m := m) (by simpa using h)]; omega
theorem sum_pos {l : List Int} {m : Int} (h : ∀ x ∈ l, x ≤ m) (hm : m ≤ 0) : l.sum ≤ 0 := by
  induction l with
  | nil => simp
  | cons x l ih =>
    rw [List.sum_cons]
    have h1 := h x List.mem_cons_self
    have h2 := ih fun y hy => h y (List.mem_cons_of_mem _ hy)
    omega
theorem lex_lt3 {a b : Int × Int × Int} (h : lexB (t3 b) (t3 a) = false) (hn : a ≠ b) : lexB (t3 a) (t3 b) = true := by
  obtain ⟨a1, a2, a3⟩ := a
  obtain ⟨b1, b2, b3⟩ := b
  simp only [t3, lexB, Bool.or_eq_true, Bool.and_eq_true, decide_eq_true_eq, Bool.or_eq_false_iff, Bool.and_eq_false_imp, decide_eq_false_iff_not, Bool.and_false, Bool.or_false] at h ⊢
  have hn : ¬ (a1 = b1 ∧ a2 = b2 ∧ a3 = b3) := fun z => hn (by rw [z.1, z.2.1, z.2.2])
  obtain ⟨h1, h2⟩ := h
  by_cases e1 : a1 = b1
  · have h2 := h2 e1.symm
    obtain ⟨h3, h4⟩ := h2
    by_cases e2 : a2 = b2
    · have h4 := h4 e2.symm
      right
      refine ⟨e1, .inr ⟨e2, ?_⟩⟩
      have : a3 ≠ b3 := fun z => hn ⟨e1, e2, z⟩
      omega
    · exact .inr ⟨e1, .inl (by omega)⟩
  · exact .inl (by omega)
def sortT (L : List (Int × Int × Int)) : List (Int × Int × Int) := L.mergeSort (PySem.W.dataLe false eT)
theorem sortT_mem {L : List (Int × Int × Int)} {t : Int × Int × Int} : t ∈ sortT L ↔ t ∈ L := (List.mergeSort_perm _ _).mem_iff
theorem sortT_len {L : List (Int × Int × Int)} : (sortT L).length = L.length := (List.mergeSort_perm _ _).length_eq
theorem sortT_rise {L : List (Int × Int × Int)} (nd : L.Nodup) : ((sortT L).map t3).Pairwise fun a b => lexB a b = true := by
  rw [List.pairwise_map]
  have h1 : (sortT L).Pairwise fun a b => PySem.W.dataLe false eT a b = true := PySem.W.sort_pairwise (PySem.W.sortLe_total _ false _) L
  have h2 : (sortT L).Nodup := (List.mergeSort_perm L _).symm.nodup nd
  refine (h1.and h2).imp fun {a b} h => ?_
  obtain ⟨h3, h4⟩ := h
  have h3 : (!PySem.W.dataLt (eT b) (eT a)) = true := h3
  have h5 : PySem.W.dataLt (eT b) (eT a) = lexB (t3 b) (t3 a) := dataLt_ints (t3 b) (t3 a)
  rw [h5] at h3
  exact lex_lt3 (by simpa using h3) h4
/-- a dict's entry is put -/
theorem tab_step {f : Int × Int × Int → D} (hf : KeyInj f) {L : List (Int × Int × Int)} (T : Int × Int × Int → D) (t : Int × Int × Int) (v : D) (nd : L.Nodup) : ∃ L', dPut (tab f L T) (f t) v = tab f L' (putF T t v) ∧ L'.Nodup ∧ L'.length ≤ L.length + 1 ∧ t ∈ L' ∧ ∀ x, x ∈ L' → x ∈ L ∨ x = t := by
  by_cases h : t ∈ L
  · exact ⟨L, tab_put hf v h, nd, by omega, h, fun x hx => .inl hx⟩
  · refine ⟨L ++ [t], tab_new hf v h, ?_, by rw [List.length_append]; simp, List.mem_append.mpr (.inr List.mem_cons_self), fun x hx => (List.mem_append.mp hx).elim .inl fun z => .inr (by simpa using z)⟩
    rw [List.nodup_append]
    refine ⟨nd, by simp, fun a ha b hb z => ?_⟩
    have : b = t := by simpa using hb
    rw [this] at z
    exact h (z ▸ ha)
end LC
/-! The walk of the law's drawing of a clock. -/
namespace LC
open PySem L2 PySem.Spec PyProof.Rows
def ok3 (per wh : Int) (t : Int × Int × Int) : Prop := 0 ≤ t.1 ∧ t.1 < per ∧ 0 ≤ t.2.1 ∧ t.2.1 < t.2.2 ∧ t.2.2 < wh
def edL (l : List Int) (w : Int) : Int := l.getD w.toNat 0
def ok4 (l : List Int) (wh : Int) (k : Int × Int × Int) (b : Int) : Prop := (0 ≤ k.1 ∧ k.1 < wh) ∧ 1 ≤ k.2.1 ∧ k.2.1 ≤ edL l k.1 ∧ (0 ≤ k.2.2 ∧ k.2.2 < wh) ∧ k.1 ≠ k.2.2 ∧ 1 ≤ b ∧ b ≤ edL l k.2.2
def okG (per : Int) (g : List Int) : Prop := g ≠ [] ∧ rising g ∧ ∀ p ∈ g, 0 ≤ p ∧ p < per
def bookOf (L : List (Int × Int × Int)) (T : Int × Int × Int → Int) : List (Int × Int × Int × Int) := (sortT L).map fun k => (k.1, k.2.1, k.2.2, T k)
theorem low_ok {per wh mo : Int} {l : List Int} {L L2 : List (Int × Int × Int)} {gs : List (List Int)} {T : Int × Int × Int → Int} (p1 : 1 ≤ per) (p2 : per ≤ 12) (h1 : 1 ≤ wh) (h2 : wh ≤ 6) (o4 : mo ≤ 4) (hl : l.length = wh.toNat) (hb : ∀ x ∈ l, 0 ≤ x ∧ x ≤ mo) (hs : l.sum ≤ 12)
    (nd : L.Nodup) (hL : ∀ t ∈ L, ok3 per wh t) (hLl : L.length ≤ 500) (hgl : gs.length = l.length) (hg : ∀ g ∈ gs, okG per g) (nd2 : L2.Nodup) (hL2 : ∀ k ∈ L2, ok4 l wh k (T k)) (hL2l : L2.length ≤ 500) : Clock.Ok ⟨per, l, sortT L, gs, bookOf L2 T⟩ := by
  have hn : (Clock.n ⟨per, l, sortT L, gs, bookOf L2 T⟩ : Int) = wh := by show (l.length : Int) = wh; omega
  refine ⟨p1, p2, by show 1 ≤ l.length; omega, by show l.length ≤ 6; omega, fun e he => ?_, hs, fun t ht => ?_, sortT_rise nd, ?_, hgl, fun g hgm => hg g hgm, fun b hbm => ?_, ?_, ?_⟩
  · have := hb e he
    omega
  · rw [hn]
    exact hL t (sortT_mem.mp ht)
  · show (sortT L).length ≤ 1000
    rw [sortT_len]; omega
  · obtain ⟨k, hk, rfl⟩ := List.mem_map.mp hbm
    obtain ⟨a1, a2, a3, a4, a5, a6, a7⟩ := hL2 k (sortT_mem.mp hk)
    unfold Clock.whl
    rw [hn]
    exact ⟨a1, a2, a3, a4, a5, a6, a7⟩
  · have e : (bookOf L2 T).map b3 = (sortT L2).map t3 := by
      unfold bookOf
      rw [List.map_map]; rfl
    show ((bookOf L2 T).map b3).Pairwise _
    rw [e]
    exact sortT_rise nd2
  · show (bookOf L2 T).length ≤ 1000
    unfold bookOf
    rw [List.length_map, sortT_len]; omega
section
variable {P : Program} {w : World} {K : PySem.W.Frag} {mg : Str → Option Value} {base : Heap} {W0 : Wild} {r sc : Addr} {zs : List Int}
def gLow (r : Addr) : Con := fun rs C => ∃ per wh mo en : Int, 1 ≤ per ∧ per ≤ 12 ∧ 1 ≤ wh ∧ wh ≤ 6 ∧ 0 ≤ mo ∧ mo ≤ 4 ∧ 0 ≤ en ∧ en ≤ 100 ∧ rs = [.adr r, .val (.int per), .val (.int wh), .val (.int mo), .val (.int en)] ∧ ∀ c : Clock, c.Ok → C c.enc
theorem can_k_low_clock (B : Bd K mg) (hR : RowIn K W0 r sc zs) : Can P w K mg base W0 2 "_law_low_clock" 5 (gLow r) [] := by
  refine can_body (N := ["_law_row", "_law_period", "_law_wheels", "_law_most", "_law_entries", "_law_editions", "_law_wheel", "_law_touches", "_law_turn", "_law_one", "_law_other", "_law_gaps", "_law_last", "_law_some", "_law_phase", "_law_book", "_law_entry", "_law_key"]) (ps := ["_law_row", "_law_period", "_law_wheels", "_law_most", "_law_entries"]) B.k_low_clock ⟨rfl, rfl, rfl, by decide +kernel, rfl, by decide +kernel, by decide +kernel⟩ (fun _ _ _ _ _ _ us hl => match us, hl with | [_, _, _, _, _], _ => rfl) ?_
  intro f cdv A outer s H E Wl rs C hr hW ⟨per, wh, mo, en, p1, p2, h1, h2, o0, o4, n0, n1, e, hC⟩
  subst e
  have hN : (["_law_row", "_law_period", "_law_wheels", "_law_most", "_law_entries", "_law_editions", "_law_wheel", "_law_touches", "_law_turn", "_law_one", "_law_other", "_law_gaps", "_law_last", "_law_some", "_law_phase", "_law_book", "_law_entry", "_law_key"] : List Str).Nodup := by decide +kernel
  have hu := hu_of hr
  refine wss_cons (ws_setLc 5 (own := [("_law_wheel", 6)]) (js := [6]) rfl hN (blkOk_by (N := ["_law_row", "_law_period", "_law_wheels", "_law_most", "_law_entries", "_law_editions", "_law_wheel", "_law_touches", "_law_turn", "_law_one", "_law_other", "_law_gaps", "_law_last", "_law_some", "_law_phase", "_law_book", "_law_entry", "_law_key"]) (sc := defScope s_k_low_clock) (by decide +kernel)) (by decide) (wi_range1 B.bare.range (we_var 2 rfl ⟨by omega, by omega, fun i acc => ∃ l : List Int, acc = l.map eI ∧ l.length = i ∧ ∀ x ∈ l, 0 ≤ x ∧ x ≤ mo, ⟨[], rfl, rfl, fun x h => (by cases h)⟩, ?_, ?_⟩)) (sw_true rfl rfl rfl (by decide +kernel)))
  · rintro i d acc hd ⟨l, rfl, hl, hb⟩
    obtain ⟨hi, _⟩ := List.getElem?_eq_some_iff.mp hd
    unfold rangeD at hi
    rw [List.length_map, List.length_range] at hi
    intro _ _ _ _ _
    refine wg_name 6 ?_ hN
    intro _ _ _ _ _
    refine wf_nil ⟨fun _ => ?_, fun z => Bool.noConfusion z⟩
    intro _ _ _ _ _
    refine we_call (can_k_taken B hR) hr (by decide) hW (wa_cons (we_var 0 rfl (wa_cons (we_add (we_var 3 rfl (we_int (wa_nil ⟨rfl, rfl, mo + 1, by omega, by omega, rfl, fun k k0 k1 => ⟨?_, l ++ [k], ?_, ?_, ?_⟩⟩)))))))
    · rw [List.length_map]
      exact Nat.lt_of_le_of_lt (show l.length ≤ 6 by omega) (by decide)
    · rw [List.map_append]; rfl
    · rw [List.length_append, hl]; rfl
    · intro x hx
      rcases List.mem_append.mp hx with hx | hx
      · exact hb x hx
      · have : x = k := by simpa using hx
        omega
  rintro acc ⟨l0, rfl, hl0, hb0⟩
  have hl0 : l0.length = wh.toNat := by
    unfold rangeD at hl0
    rw [List.length_map, List.length_range] at hl0
    omega
  refine wss_cons (ws_while (by passes_own) (fun m ρ => ∃ l : List Int, ρ = [some (.adr r), some (.val (.int per)), some (.val (.int wh)), some (.val (.int mo)), some (.val (.int en)), some (.own (.list (l.map eI))), none, none, none, none, none, none, none, none, none, none, none, none] ∧ l.length = wh.toNat ∧ (∀ x ∈ l, 0 ≤ x ∧ x ≤ mo) ∧ m = l.sum.toNat) _ ⟨l0, rfl, hl0, hb0, rfl⟩ ?_)
  rintro m ρ ⟨l, rfl, hl, hb, rfl⟩
  refine wt_gt (we_sum B.bare (wa_cons (we_var 5 rfl (wa_nil ⟨l, rfl, we_int ⟨fun q => ?_, fun q => ?_⟩⟩))))
  · have q : 12 < l.sum := of_decide_eq_true q
    refine wss_one (ws_lPut 5 rfl (we_int (we_index 5 rfl (we_maxL B.bare (wa_cons (we_var 5 rfl (wa_nil ⟨l, rfl, by omega, fun m hm hmax => ⟨m, rfl, hm, fun j hj => ⟨j, rfl, ?_, ?_⟩⟩⟩)))) (pe_bm PySem.F.plainAttrs_list PySem.F.slot_list_index PySem.F.type_list_index mt_index (pe_var rfl (Or.inl rfl) (by decide) (by decide)) (pa_cons pe_sem pa_nil)))))
    · rw [List.length_map]
      exact (List.getElem?_eq_some_iff.mp hj).1
    · have hss := sum_set hj
      have hpos : 0 < m := by
        rcases lt_ge 0 m with z | z
        · exact z
        · have := sum_pos hmax z
          omega
      refine ⟨(l.set j 0).sum.toNat, by omega, l.set j 0, ?_, by rw [List.length_set]; exact hl, fun x hx => ?_, rfl⟩
      · rw [List.map_set]; rfl
      · rcases List.mem_or_eq_of_mem_set hx with hx | rfl
        · exact hb x hx
        · omega
  have q : ¬ 12 < l.sum := of_decide_eq_false q
  refine wss_freezeL 5 rfl ?_
  refine wss_cons (ws_own 7 (wn_d0 ?_) hN)
  refine wss_cons (ws_for (js := [8]) (by passes_own) rfl (wi_range1 B.bare.range (we_call (can_k_taken B hR) hr (by decide) hW (wa_cons (we_var 0 rfl (wa_cons (we_add (we_int (we_mul (we_int (we_var 2 rfl ⟨.inl ⟨by decide, by decide⟩, wa_nil ⟨rfl, rfl, 2 + 2 * wh, by omega, by omega, rfl, fun kt kt0 kt1 => ⟨by omega, by omega, fun i ρ => ∃ (L : List (Int × Int × Int)) (r8 r9 r10 : Option R), ρ = [some (.adr r), some (.val (.int per)), some (.val (.int wh)), some (.val (.int mo)), some (.val (.int en)), some (.val (.list (l.map eI))), none, some (.own (.dict (tab eT L fun _ => .bool true))), r8, r9, r10, none, none, none, none, none, none, none] ∧ L.Nodup ∧ L.length ≤ i ∧ ∀ t ∈ L, ok3 per wh t, ⟨[], _, _, _, rfl, List.nodup_nil, Nat.le_refl _, fun t h => (by cases h)⟩, ?_, ?_⟩⟩⟩)))))))))))
  · rintro i d ρ' hd ⟨L, r8, r9, r10, rfl, nd, hLl, hL⟩
    unfold rangeD at hd
    rw [List.getElem?_map] at hd
    obtain ⟨ix, hix, rfl⟩ := Option.map_eq_some_iff.mp hd
    have hi := (List.getElem?_eq_some_iff.mp hix).1
    rw [List.length_range] at hi
    refine wg_name 8 ?_ hN
    refine wss_cons (ws_asg 9 (we_call (can_k_taken B hR) hr (by decide) hW (wa_cons (we_var 0 rfl (wa_cons (we_var 2 rfl (wa_nil ⟨rfl, rfl, wh, by omega, by omega, rfl, fun a a0 a1 => ?_⟩)))))) hN)
    refine wss_cons (ws_asg 10 (we_call (can_k_taken B hR) hr (by decide) hW (wa_cons (we_var 0 rfl (wa_cons (we_var 2 rfl (wa_nil ⟨rfl, rfl, wh, by omega, by omega, rfl, fun b b0 b1 => ?_⟩)))))) hN)
    refine wss_one (ws_if (wt_lt hu (we_var 9 rfl (we_var 10 rfl ⟨fun q => ?_, fun q => ?_⟩))))
    · have q : a < b := of_decide_eq_true q
      refine wss_one (ws_dPut 7 hu rfl (we_bool (we_tup (wa_cons (we_call (can_k_taken B hR) hr (by decide) hW (wa_cons (we_var 0 rfl (wa_cons (we_var 1 rfl (wa_nil ⟨rfl, rfl, per, p1, by omega, rfl, fun p p0 pp => wa_cons (we_var 9 rfl (wa_cons (we_var 10 rfl (wa_nil ⟨(show 3 ≤ sizeLine by decide), rfl, ?_, ?_⟩))))⟩))))))))))
      · show (tab eT L _).length < sizeLine
        rw [tab_len]
        exact Nat.lt_of_le_of_lt (show L.length ≤ 500 by omega) (by decide)
      · obtain ⟨L', e1, nd', hl', hm', hs'⟩ := tab_step inj_T (fun _ => .bool true) (p, a, b) (.bool true) nd
        have e0 : (putF (fun _ : Int × Int × Int => (.bool true : D)) (p, a, b) (.bool true)) = fun _ => .bool true := by
          funext z
          unfold putF
          split <;> rfl
        rw [e0] at e1
        refine ⟨L', some (.val (.int (0 + (ix : Int)))), some (.val (.int a)), some (.val (.int b)), ?_, nd', by omega, fun t ht => ?_⟩
        · rw [← e1]; rfl
        · rcases hs' t ht with h | rfl
          · exact hL t h
          · exact ⟨p0, pp, a0, q, b1⟩
    · exact wss_nil ⟨L, _, _, _, rfl, nd, by omega, hL⟩
  rintro ρ' ⟨L, r8, r9, r10, rfl, nd, hLl, hL⟩
  have hLl : L.length ≤ 500 := by
    unfold rangeD at hLl
    rw [List.length_map, List.length_range] at hLl
    omega
  refine wss_freezeD 7 rfl ?_
  refine wss_cons (ws_own 11 (wn_lst (wa_nil ⟨Nat.zero_le _, ?_⟩)) hN)
  refine wss_cons (ws_for (js := [12]) (by passes_own) rfl (wi_list (we_var 5 rfl ⟨fun i ρ => ∃ (gs : List (List Int)) (r12 r13 : Option R), ρ = [some (.adr r), some (.val (.int per)), some (.val (.int wh)), some (.val (.int mo)), some (.val (.int en)), some (.val (.list (l.map eI))), none, some (.val (.dict (tab eT L fun _ => .bool true))), r8, r9, r10, some (.own (.list (gs.map eG))), r12, r13, none, none, none, none] ∧ gs.length = i ∧ ∀ g ∈ gs, okG per g, ⟨[], _, _, rfl, rfl, fun g h => (by cases h)⟩, ?_, ?_⟩)))
  · rintro i d ρ' hd ⟨gs, r12, r13, rfl, hgl, hg⟩
    have hi : i < l.length := by
      have := (List.getElem?_eq_some_iff.mp hd).1
      rw [List.length_map] at this
      exact this
    rw [List.getElem?_map] at hd
    obtain ⟨last, hlast, rfl⟩ := Option.map_eq_some_iff.mp hd
    refine wg_name 12 ?_ hN
    refine wss_cons (ws_setLc 13 (own := [("_law_phase", 14)]) (js := [14]) rfl hN (blkOk_by (N := ["_law_row", "_law_period", "_law_wheels", "_law_most", "_law_entries", "_law_editions", "_law_wheel", "_law_touches", "_law_turn", "_law_one", "_law_other", "_law_gaps", "_law_last", "_law_some", "_law_phase", "_law_book", "_law_entry", "_law_key"]) (sc := defScope s_k_low_clock) (by decide +kernel)) (by decide) (wi_range1 B.bare.range (we_var 1 rfl ⟨by omega, by omega, fun k acc => ∃ g : List Int, acc = g.map eI ∧ rising g ∧ ∀ x ∈ g, 0 ≤ x ∧ x < (k : Int), ⟨[], rfl, List.Pairwise.nil, fun x h => (by cases h)⟩, ?_, ?_⟩)) (sw_true rfl rfl rfl (by decide +kernel)))
    · rintro k d acc hd ⟨g, rfl, hr1, hb1⟩
      unfold rangeD at hd
      rw [List.getElem?_map] at hd
      obtain ⟨ix, hix, rfl⟩ := Option.map_eq_some_iff.mp hd
      obtain ⟨hk, e⟩ := List.getElem?_eq_some_iff.mp hix
      rw [List.getElem_range] at e
      rw [List.length_range] at hk
      subst e
      have hgl2 : g.length ≤ k := by
        have nd : g.Nodup := List.Pairwise.imp (fun h => Int.ne_of_lt h) hr1
        have := nodup_len nd (U := iRange 0 k) fun x hx => iRange_mem.mpr (hb1 x hx)
        unfold iRange at this
        rw [List.length_map, List.length_range] at this
        omega
      intro _ _ _ _ _
      refine wg_name 14 ?_ hN
      intro _ _ _ _ _
      refine wf_one (wt_gt (we_call (can_k_taken B hR) hr (by decide) hW (wa_cons (we_var 0 rfl (wa_cons (we_int (wa_nil ⟨rfl, rfl, 3, by omega, by omega, rfl, fun z z0 z1 => we_int ⟨fun _ => ?_, fun _ => ?_⟩⟩)))))))
      · intro _ _ _ _ _
        refine we_var 14 rfl ⟨?_, g ++ [0 + (k : Int)], ?_, ?_, fun x hx => ?_⟩
        · rw [List.length_map]
          exact Nat.lt_of_le_of_lt (show g.length ≤ 12 by omega) (by decide)
        · rw [List.map_append]; rfl
        · unfold rising
          rw [List.pairwise_append]
          refine ⟨hr1, List.pairwise_singleton .., fun a ha b hb => ?_⟩
          have hb : b = 0 + (k : Int) := by simpa using hb
          have := (hb1 a ha).2
          omega
        · rcases List.mem_append.mp hx with hx | hx
          · have := hb1 x hx
            omega
          · have hx : x = 0 + (k : Int) := by simpa using hx
            omega
      · exact ⟨g, rfl, hr1, fun x hx => by have := hb1 x hx; omega⟩
    rintro acc ⟨g, rfl, hr1, hb1⟩
    have hb1 : ∀ x ∈ g, 0 ≤ x ∧ x < per := fun x hx => by
      have := hb1 x hx
      unfold rangeD at this
      rw [List.length_map, List.length_range] at this
      omega
    have hgz : ((gs.map eG).length : Nat) < sizeLine := by
      rw [List.length_map]
      exact Nat.lt_of_le_of_lt (show gs.length ≤ 6 by omega) (by decide)
    have hall : ∀ g', okG per g' → (gs ++ [g']).length = i + 1 ∧ ∀ g ∈ gs ++ [g'], okG per g := fun g' h' => by
      refine ⟨by rw [List.length_append, hgl]; rfl, fun x hx => ?_⟩
      rcases List.mem_append.mp hx with hx | hx
      · exact hg x hx
      · have : x = g' := by simpa using hx
        rw [this]; exact h'
    refine wss_freezeL 13 rfl ?_
    refine wss_one (ws_app 11 rfl (we_tuple B.bare (wa_cons (we_if (wt_ne hu (we_var 13 rfl (we_lst (wa_nil ⟨Nat.zero_le _, (enc_lst enc_int).pl g _ (by decide), rfl, fun q => ?_, fun q => ?_⟩))))))))
    · have q : (!PyData.eqv (.list (g.map eI)) (.list [])) = true := q
      have e1 : PyData.eqv (.list (g.map eI)) (.list []) = decide (g = []) := (enc_lst enc_int).eq g []
      rw [e1] at q
      have q : g ≠ [] := by simpa using q
      obtain ⟨a1, a2⟩ := hall g ⟨q, hr1, hb1⟩
      refine we_var 13 rfl (wa_nil ⟨hgz, gs ++ [g], some (.val (.int last)), some (.val (.list (g.map eI))), ?_, a1, a2⟩)
      rw [List.map_append]; rfl
    · refine we_lst (wa_cons (we_call (can_k_taken B hR) hr (by decide) hW (wa_cons (we_var 0 rfl (wa_cons (we_var 1 rfl (wa_nil ⟨rfl, rfl, per, p1, by omega, rfl, fun p p0 pp => wa_nil ⟨(show 1 ≤ sizeLine by decide), wa_nil ⟨hgz, gs ++ [[p]], some (.val (.int last)), some (.val (.list (g.map eI))), ?_, (hall [p] ⟨by simp, List.pairwise_singleton .., fun x hx => ?_⟩).1, (hall [p] ⟨by simp, List.pairwise_singleton .., fun x hx => ?_⟩).2⟩⟩⟩)))))))
      · rw [List.map_append]; rfl
      · have : x = p := by simpa using hx
        omega
      · have : x = p := by simpa using hx
        omega
  rintro ρ' ⟨gs, r12, r13, rfl, hgl, hg⟩
  rw [List.length_map] at hgl
  refine wss_freezeL 11 rfl ?_
  refine wss_cons (ws_own 15 (wn_d0 ?_) hN)
  have edv : ∀ x : Int, 0 ≤ x → x < wh → atI (l.map eI) x = some (.int (edL l x)) := fun x x0 x1 => at_map x0 (by omega)
  have edb : ∀ x : Int, 0 ≤ x → x < wh → edL l x ≤ 4 := fun x x0 x1 => by
    have hx : x.toNat < l.length := by omega
    unfold edL
    rw [getD_at hx]
    have := hb _ (List.getElem_mem hx)
    omega
  refine wss_cons (ws_for (js := [8]) (by passes_own) rfl (wi_range1 B.bare.range (we_call (can_k_taken B hR) hr (by decide) hW (wa_cons (we_var 0 rfl (wa_cons (we_add (we_var 4 rfl (we_int (wa_nil ⟨rfl, rfl, en + 1, by omega, by omega, rfl, fun kt kt0 kt1 => ⟨by omega, by omega, fun i ρ => ∃ (L2 : List (Int × Int × Int)) (T : Int × Int × Int → Int) (r8 r9 r10 : Option R), ρ = [some (.adr r), some (.val (.int per)), some (.val (.int wh)), some (.val (.int mo)), some (.val (.int en)), some (.val (.list (l.map eI))), none, some (.val (.dict (tab eT L fun _ => .bool true))), r8, r9, r10, some (.val (.list (gs.map eG))), r12, r13, none, some (.own (.dict (tab eT L2 fun k => .int (T k)))), none, none] ∧ L2.Nodup ∧ L2.length ≤ i ∧ ∀ k ∈ L2, ok4 l wh k (T k), ⟨[], fun _ => 0, _, _, _, rfl, List.nodup_nil, Nat.le_refl _, fun t h => (by cases h)⟩, ?_, ?_⟩⟩))))))))))
  · rintro i d ρ' hd ⟨L2, T, r8, r9, r10, rfl, nd2, hL2l, hL2⟩
    unfold rangeD at hd
    rw [List.getElem?_map] at hd
    obtain ⟨ix, hix, rfl⟩ := Option.map_eq_some_iff.mp hd
    have hi := (List.getElem?_eq_some_iff.mp hix).1
    rw [List.length_range] at hi
    refine wg_name 8 ?_ hN
    refine wss_cons (ws_par 9 10 (we_call (can_k_taken B hR) hr (by decide) hW (wa_cons (we_var 0 rfl (wa_cons (we_var 2 rfl (wa_nil ⟨rfl, rfl, wh, by omega, by omega, rfl, fun a a0 a1 => we_call (can_k_taken B hR) hr (by decide) hW (wa_cons (we_var 0 rfl (wa_cons (we_var 2 rfl (wa_nil ⟨rfl, rfl, wh, by omega, by omega, rfl, fun b b0 b1 => ?_⟩)))))⟩)))))) rfl hN)
    refine wss_one (ws_if (wt_and (ww_and (wt_ne hu (we_var 9 rfl (we_var 10 rfl ⟨rfl, rfl, fun q => ?_, fun q => ?_⟩))))))
    · have q : (!PyData.eqv (.int a) (.int b)) = true := q
      rw [int_eqv] at q
      have q : ¬ a = b := by simpa using q
      refine ww_and (wt_gt (we_ix (we_var 5 rfl (we_var 9 rfl ⟨_, edv a a0 a1, we_int ⟨fun q2 => ?_, fun q2 => ?_⟩⟩))))
      · have q2 : 0 < edL l a := of_decide_eq_true q2
        refine ww_and1 (wt_gt (we_ix (we_var 5 rfl (we_var 10 rfl ⟨_, edv b b0 b1, we_int ⟨fun q3 => ?_, fun q3 => ?_⟩⟩))))
        · have q3 : 0 < edL l b := of_decide_eq_true q3
          have ea := edb a a0 a1
          have eb := edb b b0 b1
          refine wss_one (ws_dPut 15 hu rfl (we_add (we_int (we_call (can_k_taken B hR) hr (by decide) hW (wa_cons (we_var 0 rfl (wa_cons (we_ix (we_var 5 rfl (we_var 10 rfl ⟨_, edv b b0 b1, wa_nil ⟨rfl, rfl, edL l b, by omega, by omega, rfl, fun vb vb0 vb1 => ?_⟩⟩))))))))))
          refine we_tup (wa_cons (we_var 9 rfl (wa_cons (we_add (we_int (we_call (can_k_taken B hR) hr (by decide) hW (wa_cons (we_var 0 rfl (wa_cons (we_ix (we_var 5 rfl (we_var 9 rfl ⟨_, edv a a0 a1, wa_nil ⟨rfl, rfl, edL l a, by omega, by omega, rfl, fun va va0 va1 => wa_cons (we_var 10 rfl (wa_nil ⟨(show 3 ≤ sizeLine by decide), rfl, ?_, ?_⟩))⟩⟩))))))))))))
          · show (tab eT L2 _).length < sizeLine
            rw [tab_len]
            exact Nat.lt_of_le_of_lt (show L2.length ≤ 500 by omega) (by decide)
          · obtain ⟨L', e1, nd', hl', hm', hs'⟩ := tab_step inj_T (fun k => .int (T k)) (a, 1 + va, b) (.int (1 + vb)) nd2
            have e0 : (putF (fun k : Int × Int × Int => (.int (T k) : D)) (a, 1 + va, b) (.int (1 + vb))) = fun k => .int (if k = (a, 1 + va, b) then 1 + vb else T k) := by
              funext z
              unfold putF
              by_cases y : z = (a, 1 + va, b)
              · rw [if_pos y, if_pos y]
              · rw [if_neg y, if_neg y]
            rw [e0] at e1
            refine ⟨L', fun k => if k = (a, 1 + va, b) then 1 + vb else T k, some (.val (.int (0 + (ix : Int)))), some (.val (.int a)), some (.val (.int b)), ?_, nd', by omega, fun k hk => ?_⟩
            · rw [← e1]; rfl
            · show ok4 l wh k (if k = (a, 1 + va, b) then 1 + vb else T k)
              by_cases y : k = (a, 1 + va, b)
              · rw [if_pos y, y]
                exact ⟨⟨a0, a1⟩, by show 1 ≤ 1 + va; omega, by show 1 + va ≤ edL l a; omega, ⟨b0, b1⟩, q, by omega, by show 1 + vb ≤ edL l b; omega⟩
              · rw [if_neg y]
                exact hL2 k ((hs' k hk).resolve_right y)
        · exact wss_nil ⟨L2, T, _, _, _, rfl, nd2, by omega, hL2⟩
      · exact ⟨fun z => Bool.noConfusion z, fun _ => wss_nil ⟨L2, T, _, _, _, rfl, nd2, by omega, hL2⟩⟩
    · exact ⟨fun z => Bool.noConfusion z, fun _ => wss_nil ⟨L2, T, _, _, _, rfl, nd2, by omega, hL2⟩⟩
  rintro ρ' ⟨L2, T, r8, r9, r10, rfl, nd2, hL2l, hL2⟩
  have hL2l : L2.length ≤ 500 := by
    unfold rangeD at hL2l
    rw [List.length_map, List.length_range] at hL2l
    omega
  refine wss_freezeD 15 rfl ?_
  obtain ⟨so1, e1⟩ := sort_enc enc_T (by decide) (fun b => ⟨_, _, rfl⟩) L
  obtain ⟨so2, e2⟩ := sort_enc enc_T (by decide) (fun b => ⟨_, _, rfl⟩) L2
  have hk1 : (tab eT L fun _ => (.bool true : D)).map (·.1) = L.map eT := by unfold tab; rw [List.map_map]; rfl
  have hk2 : (tab eT L2 fun k => (.int (T k) : D)).map (·.1) = L2.map eT := by unfold tab; rw [List.map_map]; rfl
  refine wss_cons (ws_asg 16 (we_tuple B.bare (wa_cons (WN.we (wn_lcM (f := eT) (own := [("_law_key", 17)]) (js := [17]) (sortT L2) (fun _ => true) (fun k => eB (k.1, k.2.1, k.2.2, T k)) rfl hN (blkOk_by (N := ["_law_row", "_law_period", "_law_wheels", "_law_most", "_law_entries", "_law_editions", "_law_wheel", "_law_touches", "_law_turn", "_law_one", "_law_other", "_law_gaps", "_law_last", "_law_some", "_law_phase", "_law_book", "_law_entry", "_law_key"]) (sc := defScope s_k_low_clock) (by decide +kernel)) (by decide) ?_ (wi_list (we_sorted B.bare hu (we_listD B.bare (we_var 15 rfl ⟨_, rfl, _, rfl, ?_, ?_⟩)))) (fun x hx => ?_) (wa_nil ?_))))) hN)
  · rw [sortT_len]
    exact Nat.le_trans hL2l (by decide)
  · rw [hk2]; exact so2
  · show sortD ((tab eT L2 fun k => (.int (T k) : D)).map (·.1)) = _
    rw [hk2, e2]; rfl
  · intro _ _ _ _ _
    refine wg_name 17 (maps_keep ?_) hN
    intro _ _ _ _ _
    exact we_add (we_var 17 rfl (we_tup (wa_cons (we_dIx hu (we_var 15 rfl (we_var 17 rfl ⟨_, _, _, rfl, rfl, rfl, tab_get inj_T (sortT_mem.mp hx), wa_nil ⟨(show 1 ≤ sizeLine by decide), (show 3 + 1 ≤ sizeLine by decide), rfl⟩⟩))))))
  rw [filter_all]
  refine wss_one (ws_ret (we_tup (wa_cons (we_var 1 rfl (wa_cons (we_tuple B.bare (wa_cons (we_var 5 rfl (wa_nil (wa_cons (we_tuple B.bare (wa_cons (we_sorted B.bare hu (we_listD B.bare (we_var 7 rfl ⟨_, rfl, _, rfl, ?_, wa_nil (wa_cons (we_tuple B.bare (wa_cons (we_var 11 rfl (wa_nil (wa_cons (we_var 16 rfl (wa_nil ⟨(show 5 ≤ sizeLine by decide), ?_⟩))))))))⟩)))))))))))))))
  · rw [hk1]; exact so1
  · have he : (PyData.tuple [.int per, .tuple (l.map eI), .tuple (sortD ((tab eT L fun _ => (.bool true : D)).map (·.1))), .tuple (gs.map eG), .tuple ((sortT L2).map fun k => eB (k.1, k.2.1, k.2.2, T k))]) = Clock.enc ⟨per, l, sortT L, gs, bookOf L2 T⟩ := by
      rw [hk1, e1]
      unfold Clock.enc bookOf
      rw [List.map_map]; rfl
    show C (.tuple [.int per, .tuple (l.map eI), .tuple (sortD ((tab eT L fun _ => (.bool true : D)).map (·.1))), .tuple (gs.map eG), .tuple ((sortT L2).map fun k => eB (k.1, k.2.1, k.2.2, T k))])
    rw [he]
    exact hC _ (low_ok p1 p2 h1 h2 o4 hl hb (by omega) nd hL hLl hgl hg nd2 hL2 hL2l)
end
end LC
/-! A new list becomes a place under a word. -/
namespace LC
open PySem L2 PySem.Spec PyProof.Rows
section
variable {X : Cx} {Wl : Wild} {ρ : Env'} {es : List Expr} {rest : List Stmt} {Φ : Wish} {pos pos2 px : Pos}
theorem wss_row (i : Nat) {x : Str} {rs0 : List R} {Q0 : HO → Prop} (h : WA X Wl ρ es fun rs => rs = rs0) (hz : rs0.length ≤ sizeLine) (hQ : ∀ F H vs, RepRs (cxEn X) Wl F H rs0 vs → Q0 (.lst vs))
    (k : ∀ a, (∀ p ∈ Wl, p.1 ≠ a) → WSs X ((a, Q0) :: Wl) (ρ.set i (some (.adr a))) rest Φ) (hN : X.N.Nodup) (hi : X.N[i]? = some x := by rfl) (hx : Loc X.env.scope x := by first | exact Or.inl rfl | exact Or.inr rfl)
    (hs : swapsWith (.List es pos2) (some (.Name x px)) pos.line X.env = pure false := by rfl) (hf : X.fn x = true ∨ X.env.scope.names.lookup x = some .local := by first | exact .inl rfl | exact .inr rfl) : WSs X Wl ρ (.Assign [.Name x px] (.List es pos2) pos :: rest) Φ := fun F0 H0 F H σ E s m =>
  (pss_cons (ps_set hN hi hx (pe_lst (pa_sem (es := es))) hs hf) (pss_sem (st := rest))).sem (h F H σ _ s.at_ s.sl fun rs vs F1 H1 q g1 r1 => by
    subst q
    refine ⟨by rw [← r1.length]; exact hz, fun p hp => ?_⟩
    have s1 := s.grow g1
    have h0 : H0 p = none := by
      cases z : H0 p with
      | none => rfl
      | some o => exact absurd hp (s1.gr.there p (by rw [z]; simp))
    have f1 : F1 p = none := by
      cases z : F1 p with
      | none => rfl
      | some o => rw [s1.at_.fh p o z] at hp; cases hp
    have tp : ∀ q ∈ Wl, q.1 ≠ p := fun z hz e => by
      obtain ⟨_, o, e1, _⟩ := s1.at_.wl z hz
      rw [e, hp] at e1; cases e1
    have tt : ∀ {a : Addr}, Tame ((p, Q0) :: Wl) a → Tame Wl a := fun {a} t q hq => t q (List.mem_cons_of_mem _ hq)
    have tb : ∀ {a : Addr}, Tame Wl a → a ≠ p → Tame ((p, Q0) :: Wl) a := fun {a} t n q hq => by
      rcases List.mem_cons.mp hq with rfl | hq
      · exact n.symm
      · exact t q hq
    have g : Gr ((p, Q0) :: Wl) F0 H0 F1 (upd H1 p (.lst vs)) := by
      refine ⟨s1.gr.ff, fun a o e t => ?_, s1.gr.nw, fun a o e => ?_, fun q hq => ?_⟩
      · rw [upd_ne fun z => by rw [z, h0] at e; cases e]
        exact s1.gr.hh a o e (tt t)
      · rw [upd_ne fun z => by rw [z, f1] at e; cases e]
        exact s1.at_.fh a o e
      · rcases List.mem_cons.mp hq with rfl | hq
        · exact ⟨f1, _, upd_same, hQ F1 H1 vs r1⟩
        · obtain ⟨q1, u, q2, q3⟩ := s1.at_.wl q hq
          exact ⟨q1, u, by rw [upd_ne (tp q hq)]; exact q2, q3⟩
    refine k p tp F0 H0 F1 _ _ E ⟨g, ⟨by rw [List.length_set, List.length_set]; exact s1.sl.len, fun j r e => ?_⟩, fun j d a e1 e2 => ?_, fun j j' d d' n e1 e2 => ?_⟩ ⟨fun ρ' F' H' σ' q s' => m.nx ρ' F' H' σ' q ?_, fun d v F' H' q g' rr => m.rt d v F' H' q ?_ rr, fun ρ' F' H' σ' q s' => m.bk ρ' F' H' σ' q ?_, fun ρ' F' H' σ' q s' => m.ct ρ' F' H' σ' q ?_⟩
    · rcases get_set e with ⟨z, z2⟩ | ⟨z, e⟩
      · subst z; cases z2
        have hl : i < ρ.length := by
          have := (List.getElem?_eq_some_iff.mp e).1
          rwa [List.length_set] at this
        exact ⟨.ref p, by rw [List.getElem?_set_self (by rw [← s1.sl.len]; exact hl)], rfl⟩
      · obtain ⟨v, e2, q⟩ := s1.sl.at_ j r e
        refine ⟨v, by rw [List.getElem?_set_ne z]; exact e2, ?_⟩
        cases r with
        | val d => exact q
        | adr b => exact q
        | own d =>
          obtain ⟨b, e3, fb, t3, ob⟩ := q
          have hb : b ≠ p := fun z => ob.there (by rw [z]; exact hp)
          exact ⟨b, e3, fb, tb t3 hb, ob.mono (Evl.Ex.refl _) fun o ho => by rw [upd_ne hb]; exact ho⟩
    · rcases get_set e1 with ⟨_, z⟩ | ⟨n, e1⟩
      · cases z
      · rw [List.getElem?_set_ne n] at e2
        exact s1.fr j d a e1 e2
    · rcases get_set e1 with ⟨_, z⟩ | ⟨n1, e1⟩
      · cases z
      · rcases get_set e2 with ⟨_, z⟩ | ⟨n2, e2⟩
        · cases z
        · rw [List.getElem?_set_ne n1, List.getElem?_set_ne n2]
          exact s1.sep j j' d d' n e1 e2
    all_goals
      have back : ∀ {F' H' : Hp}, Gr ((p, Q0) :: Wl) F0 H0 F' H' → Gr Wl F0 H0 F' H' := fun {F' H'} g' => ⟨g'.ff, fun a o e t => g'.hh a o e (tb t fun z => by rw [z, h0] at e; cases e), g'.nw, g'.at_.fh, fun q hq => g'.at_.wl q (List.mem_cons_of_mem _ hq)⟩
      first
        | exact back g'
        | exact ⟨back s'.gr, s'.sl.tameTo fun a t => tt t, s'.fr, s'.sep⟩)
end
end LC
/-! The walk of the law's clock. -/
namespace LC
open PySem L2 PySem.Spec PyProof.Rows
section
variable {P : Program} {w : World} {K : PySem.W.Frag} {mg : Str → Option Value} {base : Heap} {W0 : Wild} {r sc : Addr} {zs : List Int}
def gClock (r : Addr) : Con := fun rs C => rs = [.adr r] ∧ ∀ c : Clock, c.Ok → C c.enc
theorem can_k_clock (B : Bd K mg) (hR : RowIn K W0 r sc zs) : Can P w K mg base W0 3 "_law_clock" 1 (gClock r) [] := by
  refine can_body (N := ["_law_row", "_law_way"]) (ps := ["_law_row"]) B.k_clock ⟨rfl, rfl, rfl, by decide +kernel, rfl, by decide +kernel, by decide +kernel⟩ (fun _ _ _ _ _ _ us hl => match us, hl with | [_], _ => rfl) ?_
  intro f cdv A outer s H E Wl rs C hr hW ⟨e, hC⟩
  subst e
  have hN : (["_law_row", "_law_way"] : List Str).Nodup := by decide +kernel
  have hu := hu_of hr
  refine wss_cons (ws_asg 1 (we_call (can_k_taken B hR) hr (by decide) hW (wa_cons (we_var 0 rfl (wa_cons (we_int (wa_nil ⟨rfl, rfl, 4, by omega, by omega, rfl, fun k k0 k1 => ?_⟩)))))) hN)
  refine wss_cons (ws_if (wt_eq hu (we_var 1 rfl (we_int ⟨rfl, rfl, fun q => ?_, fun q => wss_nil ?_⟩))))
  · exact wss_one (ws_ret (we_call (can_k_low_clock B hR) hr (by decide) hW (wa_cons (we_var 0 rfl (wa_cons (we_add (we_int (we_call (can_k_taken B hR) hr (by decide) hW (wa_cons (we_var 0 rfl (wa_cons (we_int (wa_nil ⟨rfl, rfl, 12, by omega, by omega, rfl, fun a a0 a1 => wa_cons (we_add (we_int (we_call (can_k_taken B hR) hr (by decide) hW (wa_cons (we_var 0 rfl (wa_cons (we_int (wa_nil ⟨rfl, rfl, 6, by omega, by omega, rfl, fun b b0 b1 => wa_cons (we_int (wa_cons (we_int (wa_nil ⟨rfl, rfl, 1 + a, 1 + b, 4, 8, by omega, by omega, by omega, by omega, by omega, by omega, by omega, by omega, rfl, hC⟩))))⟩))))))))⟩)))))))))))))
  · exact wss_one (ws_ret (we_call (can_k_low_clock B hR) hr (by decide) hW (wa_cons (we_var 0 rfl (wa_cons (we_add (we_int (we_call (can_k_taken B hR) hr (by decide) hW (wa_cons (we_var 0 rfl (wa_cons (we_int (wa_nil ⟨rfl, rfl, 5, by omega, by omega, rfl, fun a a0 a1 => wa_cons (we_add (we_int (we_call (can_k_taken B hR) hr (by decide) hW (wa_cons (we_var 0 rfl (wa_cons (we_int (wa_nil ⟨rfl, rfl, 3, by omega, by omega, rfl, fun b b0 b1 => wa_cons (we_int (wa_cons (we_add (we_int (we_mul (we_int (we_var 1 rfl ⟨.inl ⟨by decide, by decide⟩, wa_nil ⟨rfl, rfl, 1 + a, 2 + b, 2, 3 + 3 * k, by omega, by omega, by omega, by omega, by omega, by omega, by omega, by omega, rfl, hC⟩⟩)))))))⟩))))))))⟩)))))))))))))
end
end LC
/-! The walk of the law. -/
namespace LC
open PySem L2 PySem.Spec PyProof.Rows
theorem enum_last {l : List Int} (h : l ≠ []) : ∃ t, t ∈ l ∧ atI (l.map eI) (-1) = some (.int t) := by
  have hl : 0 < l.length := List.length_pos_iff.mpr h
  have h1 : ixN (l.map eI).length (-1) = some (l.length - 1) := by
    unfold ixN
    rw [List.length_map, if_neg (by omega), if_pos (by omega)]
    congr 1
    omega
  refine ⟨l[l.length - 1], List.getElem_mem _, ?_⟩
  unfold atI
  rw [h1]
  show (l.map eI)[l.length - 1]? = _
  rw [List.getElem?_map, List.getElem?_eq_getElem (by omega)]; rfl
section
variable {P : Program} {w : World} {K : PySem.W.Frag} {mg : Str → Option Value} {base : Heap} {W0 W1 : Wild} {r sc : Addr} {zs : List Int}
theorem DefG.mono {x : Str} {st : Stmt} (h : DefG K mg base W0 x st) (hs : ∀ p ∈ W0, p ∈ W1) : DefG K mg base W1 x st := by
  obtain ⟨f, fd, c, h1, h2, h3, T⟩ := h.ex
  obtain ⟨Pp, t1, t2⟩ := T.ex
  exact ⟨f, fd, c, h1, h2, h3, ⟨Pp, t1, hs _ t2⟩⟩
theorem Bg.mono (h : Bg K mg base W0) (hs : ∀ p ∈ W0, p ∈ W1) : Bg K mg base W1 := ⟨h.are_rising.mono hs, h.are_editions.mono hs, h.are_gaps.mono hs, h.is_book.mono hs, h.need_plan.mono hs, h.is_exchange_pair.mono hs, h.holds.mono hs⟩
abbrev lawN : List Str := ["_law_script", "_law_row", "_law_turn", "_law_clock_here", "_law_plan", "_law_found", "_law_wheel", "_law_ticks", "_law_tick"]
theorem law_walk (B : Bd K mg) (G : Bg K mg base W0) (hS : ∀ Wl F H, Incl W0 Wl → At Wl F H → SqL K H sc (zs.map V.int)) (hU : Incl W0 W0) {f : Addr} {cdv : Value} {A : Around} {outer : List Env} {s : Shared} {H : Hp} {E : XK}
    (hr : Room 7 (A.deeper (envOfC "law" (defScope s_law) s.heap.objs.size f cdv))) :
    WSs (frame P w K mg base lawN "law" (defScope s_law) f cdv A outer s H E) W0 (startR lawN [.adr sc]) (defBody s_law) { nx := fun _ => False, rt := fun d => d = .bool true } := by
  have hN : lawN.Nodup := by decide +kernel
  have hu := hu_of hr
  refine wss_row 1 (rs0 := [.adr sc, .val (.int 0), .val (.int 6000), .val (.int 0)]) (Q0 := RowQ sc) (wa_cons (we_var 0 rfl (wa_cons (we_int (wa_cons (we_int (wa_cons (we_int (wa_nil rfl))))))))) (show 4 ≤ sizeLine by decide) (fun F H vs hv => ?_) (fun r hf => ?_) hN
  · cases hv with
    | cons a1 hv =>
      cases hv with
      | cons a2 hv =>
        cases hv with
        | cons a3 hv =>
          cases hv with
          | cons a4 hv =>
            cases hv
            cases a2
            cases a3
            cases a4
            have a1 : _ = V.ref sc := a1
            subst a1
            exact ⟨0, 6000, 0, rfl, by decide, by decide, by decide⟩
  have hsub : ∀ p ∈ W0, p ∈ (r, RowQ sc) :: W0 := fun p hp => List.mem_cons_of_mem _ hp
  have G1 : Bg K mg base ((r, RowQ sc) :: W0) := G.mono hsub
  have hW : Incl ((r, RowQ sc) :: W0) ((r, RowQ sc) :: W0) := by
    refine ⟨fun p hp => hp, fun p hp q hq e => ?_⟩
    rcases List.mem_cons.mp hp with rfl | hp
    · rcases List.mem_cons.mp hq with rfl | hq
      · rfl
      · exact absurd e (hf q hq)
    · rcases List.mem_cons.mp hq with rfl | hq
      · exact absurd e.symm (hf p hp)
      · exact hU.2 p hp q hq e
  have hR : RowIn K ((r, RowQ sc) :: W0) r sc zs := ⟨List.mem_cons_self, fun Wl F H hI ha => hS Wl F H ⟨fun p hp => hI.1 p (hsub p hp), fun p hp => hI.2 p (hsub p hp)⟩ ha⟩
  refine wss_cons (ws_for (js := [2]) (by passes_own) rfl (wi_range1 B.bare.range (we_int ⟨by decide, by decide, fun i ρ => ∃ r2 r3 r4 r5 r6 r7, ρ = [some (.adr sc), some (.adr r), r2, r3, r4, r5, r6, r7, none], ⟨_, _, _, _, _, _, rfl⟩, ?_, fun ρ' _ => wss_one (ws_ret (we_bool rfl))⟩)))
  rintro i d ρ' hd ⟨r2, r3, r4, r5, r6, r7, rfl⟩
  refine wg_name 2 ?_ hN
  refine wss_cons (ws_asg 3 (we_call (can_k_clock B hR) hr (by decide) hW (wa_cons (we_var 1 rfl (wa_nil ⟨rfl, rfl, rfl, fun c ok => ?_⟩)))) hN)
  refine wss_cons (ws_par 4 5 (we_call (can_earliest B G1) hr (by decide) hW (wa_cons (we_var 3 rfl (wa_nil ⟨rfl, rfl, c, ok, rfl, fun T fx => ?_, fun rr => ?_⟩)))) rfl hN)
  · refine we_call (can_ring B G1 (can_every_edge B)) hr (by decide) hW (wa_cons (we_var 3 rfl (wa_nil ⟨rfl, rfl, c, ok, rfl, fun T' fx' => ?_, fun rr => absurd rr (not_both ok fx)⟩)))
    have pk := fix_plan ok fx
    have rt := fix_right ok fx
    have low : ∀ w : Nat, w < c.n → ∀ t ∈ (planOf c T).getD w [], t < 2 * c.P * c.ed.sum := fun w hw t ht => plan_low ok fx hw ht
    show WSs _ _ [some (.adr sc), some (.adr r), some (.val d), some (.val c.enc), some (.val (encPl (planOf c T))), some (.val .none), r6, r7, none] _ _
    generalize planOf c T = pl at pk rt low ⊢
    refine wss_cons (ws_ifF (wt_ne hu (we_isN (we_var 4 rfl (we_none (we_notN (we_var 5 rfl (we_none ⟨rfl, rfl, ?_⟩))))))) (wss_nil ?_))
    · show (!PyData.eqv (.bool false) (.bool false)) = false
      decide +kernel
    refine wss_one (ws_if (wt_isN (we_var 4 rfl (we_none ⟨fun z => Bool.noConfusion z, fun _ => ?_⟩))))
    have pl6 : pl.length ≤ 6 := by rw [pk.len]; exact ok.n2
    refine wss_cons (ws_ifF (wt_or (gd (wt_ne hu (WN.we (wn_lcM (f := eG) (own := [("_law_ticks", 7)]) (js := [7]) pl (fun _ => true) (fun g => .int (g.length : Nat)) rfl hN (blkOk_by (N := lawN) (sc := defScope s_law) (by decide +kernel)) (by decide) (Nat.le_trans pl6 (by decide)) (wi_tup (we_var 4 rfl rfl)) (fun g hg => ?_) ?_))) (gd_1 (wt_notN (we_call (can_k_first_bad B) hr (by decide) hW (wa_cons (we_var 3 rfl (wa_cons (we_var 4 rfl (wa_cons (we_int (wa_nil ⟨rfl, rfl, c, pl, ok, pk, rt, rfl, we_none rfl⟩)))))))))))) (wss_nil ?_))
    · intro _ _ _ _ _
      refine wg_name 7 (maps_keep ?_) hN
      intro _ _ _ _ _
      refine we_len B.bare (wa_cons (we_var 7 rfl (wa_nil ?_)))
      show PyData.int ((g.map eI).length : Nat) = .int (g.length : Nat)
      rw [List.length_map]
    · rw [filter_all]
      have e1 : (pl.map fun g => PyData.int (g.length : Nat)) = c.ed.map eI := by
        rw [← plan_lens pk, List.map_map]; rfl
      rw [e1]
      refine we_list B.bare (wa_cons (we_at (j := 1) (we_var 3 rfl rfl) rfl (wa_nil ⟨(enc_lst enc_int).pl c.ed _ (by decide), (enc_lst enc_int).pl c.ed _ (by decide), ?_⟩)))
      show (!PyData.eqv (.list (c.ed.map eI)) (.list (c.ed.map eI))) = false
      rw [show PyData.eqv (.list (c.ed.map eI)) (.list (c.ed.map eI)) = decide (c.ed = c.ed) from (enc_lst enc_int).eq c.ed c.ed, decide_eq_true rfl]; rfl
    refine wss_cons (ws_ifF (wt_or (gd (wt_notB (we_call (can_is_right B G1) hr (by decide) hW (wa_cons (we_var 3 rfl (wa_cons (we_var 4 rfl (wa_nil ⟨rfl, rfl, c, pl, ok, pk, rt, rfl, we_bool rfl⟩))))))) (gd_1 (wt_notN (we_call (can_first_wrong B G1) hr (by decide) hW (wa_cons (we_var 3 rfl (wa_cons (we_var 4 rfl (wa_nil ⟨rfl, rfl, c, pl, ok, pk, rt, rfl, we_none rfl⟩)))))))))) (wss_nil ?_))
    refine wss_one (ws_for (js := [6, 7]) (by passes_own) rfl (wi_enumT B.bare.enum (we_var 4 rfl ⟨fun _ ρ => ∃ r6 r7, ρ = [some (.adr sc), some (.adr r), some (.val d), some (.val c.enc), some (.val (encPl pl)), some (.val .none), r6, r7, none], ⟨_, _, rfl⟩, ?_, ?_⟩)))
    · rintro i' d' ρ' hd' ⟨r6', r7', rfl⟩
      obtain ⟨hi, rfl⟩ := enum_at (z := []) hd'
      rw [pk.len] at hi
      have hww : c.whl (i' : Int) := ⟨by omega, by omega⟩
      obtain ⟨k1, k2, k3⟩ := pk.at_ i' hi
      have hb := ok.edOf hww
      have lowi := low i' hi
      have hP := ok.p1
      generalize pl.getD i' [] = g at k1 k2 k3 lowi
      have gl : g.length ≤ 4 := by omega
      refine wg_tup rfl (wgs_cons (js := [6]) (wg_name 6 (wgs_cons (js := [7]) (js' := []) (wg_name 7 (wgs_nil ?_) hN)) hN))
      refine wss_cons (ws_ifF (wt_ne hu (WN.we (wn_lcM (f := eI) (own := [("_law_tick", 8)]) (js := [8]) g (fun t => !decide (t % c.P ∈ c.gaOf i')) eI rfl hN (blkOk_by (N := lawN) (sc := defScope s_law) (by decide +kernel)) (by decide) (Nat.le_trans gl (by decide)) (wi_tup (we_var 7 rfl rfl)) (fun t ht => ?_) ?_))) (wss_nil ?_))
      · intro _ _ _ _ _
        refine wg_name 8 (maps_if ?_ ?_) hN
        · intro _ _ _ _ _
          refine wt_notin hu (we_mod (we_int1 B.bare (wa_cons (we_var 8 rfl (wa_nil (we_at (j := 0) (we_var 3 rfl rfl) rfl ⟨?_, we_ix (we_at (j := 3) (we_var 3 rfl rfl) rfl (we_var 6 rfl ⟨_, ok.at_ga hww, rfl, enc_G.pl _ _ (by decide), rfl, ?_⟩))⟩))))))
          · exact (show 0 < c.P by omega)
          · exact ninB_tup enc_int (t % c.P) (c.gaOf i')
        · intro _ _ _ _ _ _
          exact we_var 8 rfl rfl
      · have e1 : g.filter (fun t => !decide (t % c.P ∈ c.gaOf i')) = [] := by
          rw [List.filter_eq_nil_iff]
          intro t ht
          simp [(k3 t ht).2.2]
        rw [e1]
        exact we_lst (wa_nil ⟨Nat.zero_le _, rfl, rfl, rfl⟩)
      refine wss_cons (ws_ifF (wt_or (gd (wt_ne hu (we_list B.bare (wa_cons (we_var 7 rfl (wa_nil (we_sortSet B.bare (we_var 7 rfl ⟨g, .inr (.inr rfl), by omega, fun out ho hm => ⟨(enc_lst enc_int).pl g _ (by decide), (enc_lst enc_int).pl out _ (by decide), ?_⟩⟩))))))) (gd_1 (wt_ne hu (WN.we (wn_lcM (f := eI) (own := [("_law_tick", 8)]) (js := [8]) g (fun t => decide (t < 0)) eI rfl hN (blkOk_by (N := lawN) (sc := defScope s_law) (by decide +kernel)) (by decide) (Nat.le_trans gl (by decide)) (wi_tup (we_var 7 rfl rfl)) (fun t ht => ?_) ?_)))))) (wss_nil ?_))
      · have e1 : out = g := rise_unique ho k2 hm
        show (!PyData.eqv (.list (g.map eI)) (.list (out.map eI))) = false
        rw [show PyData.eqv (.list (g.map eI)) (.list (out.map eI)) = decide (g = out) from (enc_lst enc_int).eq g out, decide_eq_true e1.symm]; rfl
      · intro _ _ _ _ _
        refine wg_name 8 (maps_if ?_ ?_) hN
        · intro _ _ _ _ _
          exact wt_lt hu (we_var 8 rfl (we_int rfl))
        · intro _ _ _ _ _ _
          exact we_var 8 rfl rfl
      · have e1 : g.filter (fun t => decide (t < 0)) = [] := by
          rw [List.filter_eq_nil_iff]
          intro t ht
          have := (k3 t ht).1
          simp; omega
        rw [e1]
        exact we_lst (wa_nil ⟨Nat.zero_le _, rfl, rfl, rfl⟩)
      refine wss_one (ws_ifF (wt_and (ww_and (wt_ne hu (we_var 7 rfl (we_tup (wa_nil ⟨Nat.zero_le _, enc_G.pl g _ (by decide), rfl, fun q => ?_, fun q => rfl⟩)))))) (wss_nil ⟨_, _, rfl⟩))
      have q : (!PyData.eqv (eG g) (.tuple [])) = true := q
      have e1 : PyData.eqv (eG g) (.tuple []) = decide (g = []) := enc_G.eq g []
      rw [e1] at q
      have q : g ≠ [] := by simpa using q
      obtain ⟨t, ht, hat⟩ := enum_last q
      refine ww_and1 (wt_ge (we_ix (we_var 7 rfl (we_neg (we_int ⟨_, hat, we_mul (we_mul (we_int (we_at (j := 0) (we_var 3 rfl rfl) rfl ⟨.inl ⟨by decide, by decide⟩, we_sum B.bare (wa_cons (we_at (j := 1) (we_var 3 rfl rfl) rfl (wa_nil ⟨c.ed, rfl, sum_small ok.ed ok.n2, .inl ⟨?_, ?_⟩, ?_⟩)))⟩)))⟩)))))
      · have := ok.p2
        omega
      · have := ok.p2
        omega
      · exact decide_eq_false (by have := lowi t ht; omega)
    · rintro ρ' ⟨r6', r7', rfl⟩
      exact ⟨_, _, _, _, _, _, rfl⟩
  · refine we_call (can_ring B G1 (can_every_edge B)) hr (by decide) hW (wa_cons (we_var 3 rfl (wa_nil ⟨rfl, rfl, c, ok, rfl, fun T' fx' => absurd rr (not_both ok fx'), fun _ => ⟨ring_exists ok rr, fun E s k hE hs h1 h2 hg => ?_⟩⟩)))
    have rk := ring_ok ok hE h1 h2 hg
    have sm := ring_small ok hE h1 h2 hg
    show WSs _ _ [some (.adr sc), some (.adr r), some (.val d), some (.val c.enc), some (.val .none), some (.val (.tuple ((ringOut c (walkL E s k)).map eN))), r6, r7, none] _ _
    generalize ringOut c (walkL E s k) = v at rk sm ⊢
    refine wss_cons (ws_ifF (wt_ne hu (we_isN (we_var 4 rfl (we_none (we_notN (we_var 5 rfl (we_none ⟨rfl, rfl, ?_⟩))))))) (wss_nil ?_))
    · show (!PyData.eqv (.bool true) (.bool true)) = false
      decide +kernel
    refine wss_one (ws_if (wt_isN (we_var 4 rfl (we_none ⟨fun _ => ?_, fun z => Bool.noConfusion z⟩))))
    exact wss_one (ws_ifF (wt_or (gd (wt_nt (wt_val (we_call (can_k_is_ring B) hr (by decide) hW (wa_cons (we_var 3 rfl (wa_cons (we_var 5 rfl (wa_nil ⟨rfl, rfl, c, v, ok, rk, sm, rfl, rfl⟩)))))))) (gd_1 (wt_notB (we_call (can_is_ring B G1) hr (by decide) hW (wa_cons (we_var 3 rfl (wa_cons (we_var 5 rfl (wa_nil ⟨rfl, rfl, c, v, ok, rk, rfl, we_bool rfl⟩)))))))))) (wss_nil ⟨_, _, _, _, _, _, rfl⟩))
end
end LC
/-! The head: what stands at the call of the law, and the law's promise. -/
namespace LC
open PySem L2 PySem.Spec PyProof.Rows
/-- an empty tuple stands there -/
def tupE (K : PySem.W.Frag) (a : Addr) : Bool := match K.lookup a with
  | some ⟨.type c, _, .seq its _, _⟩ => decide (c = "tuple") && its.isEmpty
  | _ => false
theorem tupE_ok {K : PySem.W.Frag} {a : Addr} (h : tupE K a = true) (F : Hp) : SqT K F a [] := by
  unfold tupE at h
  cases q : K.lookup a with
  | none => rw [q] at h; cases h
  | some o =>
    obtain ⟨oc, od, dt, osl⟩ := o
    rw [q] at h
    cases oc with
    | type c =>
      cases dt with
      | seq its n =>
        have h : (decide (c = "tuple") && its.isEmpty) = true := h
        rw [Bool.and_eq_true] at h
        have h1 := of_decide_eq_true h.1
        have h2 := Array.isEmpty_iff.mp h.2
        subst h1 h2
        exact .inr ⟨_, #[], n, q, rfl, rfl, by decide, .nil⟩
      | _ => cases h
    | _ => cases dt <;> cases h
def exE (K : PySem.W.Frag) : Bool := tupE K (He.dflAt ("least_ticks", none) 1 K)
abbrev hkE : PySem.W.Hook := He.hookX 4 fa fn [] tf exE
def obE (s : PySem.W.SharedT) : He.AlX := He.obsX 4 fa fn [] tf exE (HandSHeadRun.getT s)
theorem obE_eq (s : PySem.W.SharedT) : obE s = hkE.obs s.abs := He.obsX_eq (HandSHeadRun.getT_eq s)
theorem runE (w : World) : HandSHeadRun.RunEq Rw (PySem.W.view Rw.prog [64]) hkE obE 3000 loose w := by
  intro os
  kernel_rfl
section
variable {w : World} {h : Heap} {K : PySem.W.Frag} {mg : Str → Option Value} {base : Heap}
theorem defAt_of (X : K.In h) (G : h.Ns mainGlobals mg) (c : He.SaysD fa fn K) (x : Str) (st : Stmt) (i j : Nat) (hd : fn[i]? = some ⟨(x, none), x, x, defArgs st, defBody st, defScope st, [], []⟩) (hf : fa[j]? = some (.glo x)) : DefAt K mg x st := by
  obtain ⟨fd, F⟩ := c.def_ i hd
  exact ⟨_, fd, F, He.glo_ok X G (c.fact j hf)⟩
theorem bd_of (X : K.In h) (G : h.Ns mainGlobals mg) (c : He.SaysX fa fn [] tf exE w h K) : Bd K mg where
  bare := ⟨He.free_ok X G (c.t.d.fact 48 (f := .free "isinstance") rfl), He.free_ok X G (c.t.d.fact 49 (f := .free "int") rfl), He.free_ok X G (c.t.d.fact 50 (f := .free "bool") rfl), He.free_ok X G (c.t.d.fact 51 (f := .free "tuple") rfl), He.free_ok X G (c.t.d.fact 52 (f := .free "all") rfl), He.free_ok X G (c.t.d.fact 53 (f := .free "zip") rfl), He.free_ok X G (c.t.d.fact 54 (f := .free "len") rfl), He.free_ok X G (c.t.d.fact 55 (f := .free "sum") rfl), He.free_ok X G (c.t.d.fact 56 (f := .free "range") rfl), He.free_ok X G (c.t.d.fact 57 (f := .free "enumerate") rfl), He.free_ok X G (c.t.d.fact 58 (f := .free "max") rfl), He.free_ok X G (c.t.d.fact 59 (f := .free "min") rfl), He.free_ok X G (c.t.d.fact 60 (f := .free "sorted") rfl), He.free_ok X G (c.t.d.fact 61 (f := .free "set") rfl), He.free_ok X G (c.t.d.fact 62 (f := .free "list") rfl)⟩
  least_ticks := by
    obtain ⟨fd, F⟩ := c.t.d.def_ 26 (d := d_least_ticks) rfl
    refine ⟨_, fd, _, F, He.glo_ok X G (c.t.d.fact 26 (f := .glo "least_ticks") rfl), fun e => (by cases e), fun P w F => .cons (.int 0) (.cons (.tuple (tupE_ok c.more F) .nil) .nil)⟩
  is_number := defAt_of X G c.t.d "is_number" s_is_number 0 0 rfl rfl
  are_rising := defAt_of X G c.t.d "are_rising" s_are_rising 1 1 rfl rfl
  are_editions := defAt_of X G c.t.d "are_editions" s_are_editions 2 2 rfl rfl
  are_touches := defAt_of X G c.t.d "are_touches" s_are_touches 3 3 rfl rfl
  are_gaps := defAt_of X G c.t.d "are_gaps" s_are_gaps 4 4 rfl rfl
  is_entry := defAt_of X G c.t.d "is_entry" s_is_entry 5 5 rfl rfl
  is_book := defAt_of X G c.t.d "is_book" s_is_book 6 6 rfl rfl
  need_clock := defAt_of X G c.t.d "need_clock" s_need_clock 7 7 rfl rfl
  every_exchange := defAt_of X G c.t.d "every_exchange" s_every_exchange 8 8 rfl rfl
  least_needed := defAt_of X G c.t.d "least_needed" s_least_needed 9 9 rfl rfl
  pairs_at := defAt_of X G c.t.d "pairs_at" s_pairs_at 10 10 rfl rfl
  phases_of := defAt_of X G c.t.d "phases_of" s_phases_of 11 11 rfl rfl
  need_plan := defAt_of X G c.t.d "need_plan" s_need_plan 12 12 rfl rfl
  edition_of := defAt_of X G c.t.d "edition_of" s_edition_of 13 13 rfl rfl
  fit := defAt_of X G c.t.d "fit" s_fit 14 14 rfl rfl
  standing_of := defAt_of X G c.t.d "standing_of" s_standing_of 15 15 rfl rfl
  not_fitting := defAt_of X G c.t.d "not_fitting" s_not_fitting 16 16 rfl rfl
  first_bad := defAt_of X G c.t.d "first_bad" s_first_bad 17 17 rfl rfl
  plan_of := defAt_of X G c.t.d "plan_of" s_plan_of 18 18 rfl rfl
  first_wrong := defAt_of X G c.t.d "first_wrong" s_first_wrong 19 19 rfl rfl
  is_right := defAt_of X G c.t.d "is_right" s_is_right 20 20 rfl rfl
  needs_of := defAt_of X G c.t.d "needs_of" s_needs_of 21 21 rfl rfl
  every_lean := defAt_of X G c.t.d "every_lean" s_every_lean 22 22 rfl rfl
  gap_from := defAt_of X G c.t.d "gap_from" s_gap_from 23 23 rfl rfl
  above_touches := defAt_of X G c.t.d "above_touches" s_above_touches 24 24 rfl rfl
  pushed := defAt_of X G c.t.d "pushed" s_pushed 25 25 rfl rfl
  earliest := defAt_of X G c.t.d "earliest" s_earliest 27 27 rfl rfl
  every_edge := defAt_of X G c.t.d "every_edge" s_every_edge 28 28 rfl rfl
  best_walks := defAt_of X G c.t.d "best_walks" s_best_walks 29 29 rfl rfl
  walk_of := defAt_of X G c.t.d "walk_of" s_walk_of 30 30 rfl rfl
  shortest_ring := defAt_of X G c.t.d "shortest_ring" s_shortest_ring 31 31 rfl rfl
  ring_of := defAt_of X G c.t.d "ring_of" s_ring_of 32 32 rfl rfl
  is_exchange_pair := defAt_of X G c.t.d "is_exchange_pair" s_is_exchange_pair 33 33 rfl rfl
  holds := defAt_of X G c.t.d "holds" s_holds 34 34 rfl rfl
  ring := defAt_of X G c.t.d "ring" s_ring 35 35 rfl rfl
  is_ring := defAt_of X G c.t.d "is_ring" s_is_ring 36 36 rfl rfl
  k_taken := defAt_of X G c.t.d "_law_taken" s_k_taken 37 37 rfl rfl
  k_low_clock := defAt_of X G c.t.d "_law_low_clock" s_k_low_clock 38 38 rfl rfl
  k_clock := defAt_of X G c.t.d "_law_clock" s_k_clock 39 39 rfl rfl
  k_needed := defAt_of X G c.t.d "_law_needed" s_k_needed 40 40 rfl rfl
  k_leans := defAt_of X G c.t.d "_law_leans" s_k_leans 41 41 rfl rfl
  k_push := defAt_of X G c.t.d "_law_push" s_k_push 42 42 rfl rfl
  k_is_ring := defAt_of X G c.t.d "_law_is_ring" s_k_is_ring 43 43 rfl rfl
  k_bad := defAt_of X G c.t.d "_law_bad" s_k_bad 44 44 rfl rfl
  k_standing := defAt_of X G c.t.d "_law_standing" s_k_standing 45 45 rfl rfl
  k_first_bad := defAt_of X G c.t.d "_law_first_bad" s_k_first_bad 46 46 rfl rfl
  law_ := defAt_of X G c.t.d "law" s_law 47 47 rfl rfl
  MOST_PERIOD := He.int_ok X G (c.t.d.fact 63 (f := .int "MOST_PERIOD" 12) rfl)
  MOST_WHEELS := He.int_ok X G (c.t.d.fact 64 (f := .int "MOST_WHEELS" 12) rfl)
  MOST_EDITIONS := He.int_ok X G (c.t.d.fact 65 (f := .int "MOST_EDITIONS" 4) rfl)
  MOST_EXCHANGES := He.int_ok X G (c.t.d.fact 66 (f := .int "MOST_EXCHANGES" 24) rfl)
  MOST_TICK := He.int_ok X G (c.t.d.fact 67 (f := .int "MOST_TICK" 1000000000000000000000000000000) rfl)
  MOST_PLANNED := He.int_ok X G (c.t.d.fact 68 (f := .int "MOST_PLANNED" 100000) rfl)
  MOST_RING := He.int_ok X G (c.t.d.fact 69 (f := .int "MOST_RING" 400) rfl)
/-- the defs' code objects, their tables -/
def csK (K : PySem.W.Frag) : List (Addr × Addr) := tf.map (He.cT K)
theorem defG_of {W0 : Wild} {x : Str} {st : Stmt} {f : Addr} {fd : FuncData} (F : FunD K x x (defArgs st) (defBody st) (defScope st) [] [] f fd) (hf : f = He.fAd K (x, none)) (hm : mg x = some (.ref f)) (ht : (x, none) ∈ tf) (hT : ∀ p ∈ csK K, LamX.TabB base mg p.1 p.2) (hW : ∀ p ∈ csK K, (p.2, TblW) ∈ W0) : DefG K mg base W0 x st := by
  obtain ⟨oc, od, dV, kV, doc, pm, an, cdv, ct, osl, e, lk, hcd, _, _⟩ := id F.ex
  obtain ⟨c, e2⟩ := He.codeIn_ref hcd
  subst e2
  have hm2 : He.cT K (x, none) ∈ csK K := List.mem_map.mpr ⟨_, ht, rfl⟩
  have e3 : fd.code = .ref c := by rw [e]
  have e4 : He.codeOf K (x, none) = c := He.codeOf_eq (by rw [← hf]; exact lk) e3
  have t := hT _ hm2
  have t1 : LamX.TabB base mg (He.codeOf K (x, none)) (He.cT K (x, none)).2 := t
  rw [e4] at t1
  exact ⟨f, fd, c, F, hm, e3, ⟨_, ⟨t1.code, t1.bm, t1.gP⟩, hW _ hm2⟩⟩
theorem bg_of {W0 : Wild} (X : K.In h) (G : h.Ns mainGlobals mg) (c : He.SaysX fa fn [] tf exE w h K) (hT : ∀ p ∈ csK K, LamX.TabB base mg p.1 p.2) (hW : ∀ p ∈ csK K, (p.2, TblW) ∈ W0) : Bg K mg base W0 := by
  obtain ⟨fd_are_rising, F_are_rising⟩ := c.t.d.def_ 1 (d := d_are_rising) rfl
  obtain ⟨fd_are_editions, F_are_editions⟩ := c.t.d.def_ 2 (d := d_are_editions) rfl
  obtain ⟨fd_are_gaps, F_are_gaps⟩ := c.t.d.def_ 4 (d := d_are_gaps) rfl
  obtain ⟨fd_is_book, F_is_book⟩ := c.t.d.def_ 6 (d := d_is_book) rfl
  obtain ⟨fd_need_plan, F_need_plan⟩ := c.t.d.def_ 12 (d := d_need_plan) rfl
  obtain ⟨fd_is_exchange_pair, F_is_exchange_pair⟩ := c.t.d.def_ 33 (d := d_is_exchange_pair) rfl
  obtain ⟨fd_holds, F_holds⟩ := c.t.d.def_ 34 (d := d_holds) rfl
  exact ⟨defG_of F_are_rising rfl (He.glo_ok X G (c.t.d.fact 1 (f := .glo "are_rising") rfl)) (by decide +kernel) hT hW, defG_of F_are_editions rfl (He.glo_ok X G (c.t.d.fact 2 (f := .glo "are_editions") rfl)) (by decide +kernel) hT hW, defG_of F_are_gaps rfl (He.glo_ok X G (c.t.d.fact 4 (f := .glo "are_gaps") rfl)) (by decide +kernel) hT hW, defG_of F_is_book rfl (He.glo_ok X G (c.t.d.fact 6 (f := .glo "is_book") rfl)) (by decide +kernel) hT hW, defG_of F_need_plan rfl (He.glo_ok X G (c.t.d.fact 12 (f := .glo "need_plan") rfl)) (by decide +kernel) hT hW, defG_of F_is_exchange_pair rfl (He.glo_ok X G (c.t.d.fact 33 (f := .glo "is_exchange_pair") rfl)) (by decide +kernel) hT hW, defG_of F_holds rfl (He.glo_ok X G (c.t.d.fact 34 (f := .glo "holds") rfl)) (by decide +kernel) hT hW⟩
end
/-! ### the law's promise -/
def spLaw (K : PySem.W.Frag) (cs : List (Addr × Addr)) : Sp := fun vs H Q _ => ∃ (a : Addr) (zs : List Int), vs = [.ref a] ∧ SqL K H a (zs.map V.int) ∧ (∀ p ∈ cs, H p.2 = some (.tbl #[])) ∧ ∀ H', Q (.bl true) H'
/-- the script's place, if its list is told -/
def scrW (H : Hp) (a : Addr) : Wild := match H a with
  | some u => [(a, fun o => o = u)]
  | none => []
theorem scrW_mem {H : Hp} {a : Addr} {p : Addr × (HO → Prop)} (h : p ∈ scrW H a) : ∃ u, H a = some u ∧ p = (a, fun o => o = u) := by
  unfold scrW at h
  cases q : H a with
  | none => rw [q] at h; cases h
  | some u =>
    rw [q] at h
    exact ⟨u, rfl, by simpa using h⟩
theorem scrW_in {H : Hp} {a : Addr} {u : HO} (h : H a = some u) : (a, fun o => o = u) ∈ scrW H a := by
  unfold scrW
  rw [h]
  exact List.mem_cons_self
section
variable {P : Program} {w : World} {K : PySem.W.Frag} {mg : Str → Option Value} {base : Heap} {f : Addr} {fd : FuncData} {cs : List (Addr × Addr)}
theorem ok_law (F : FunD K "law" "law" (defArgs s_law) (defBody s_law) (defScope s_law) [] [] f fd) (B : Bd K mg) (nT : ∀ p ∈ cs, K.lookup p.2 = none) (hG : ∀ W0 : Wild, (∀ p ∈ cs, (p.2, TblW) ∈ W0) → Bg K mg base W0) : FnOk P w K mg base L2.CX0 8 f fd ["_law_script"] (spLaw K cs) := by
  refine F.ok (N := lawN) ⟨rfl, rfl, rfl, by decide +kernel, rfl, by decide +kernel, by decide +kernel⟩ (fun vs H Q E h => ?_) (fun cdv A outer s H vs Q E hr h => ⟨_, PSs.nox (pss_sem (st := defBody s_law)), ?_⟩)
  · obtain ⟨a, zs, rfl, _⟩ := h
    rfl
  · obtain ⟨a, zs, rfl, hS, hT, hQ⟩ := h
    have hW : ∀ p ∈ cs, (p.2, TblW) ∈ scrW H a ++ cs.map fun p => (p.2, TblW) := fun p hp => List.mem_append.mpr (.inr (List.mem_map.mpr ⟨p, hp, rfl⟩))
    have hne : ∀ p ∈ cs, p.2 ≠ a := fun p hp z => by
      have h1 := hT p hp
      rw [z] at h1
      rcases hS with (hS | ⟨o, hS⟩) | ⟨o, its, n, hS, _⟩
      · rw [h1] at hS; cases hS
      · rw [h1] at hS; cases hS
      · have := nT p hp
        rw [z, hS] at this; cases this
    have hU : Incl (scrW H a ++ cs.map fun p => (p.2, TblW)) (scrW H a ++ cs.map fun p => (p.2, TblW)) := by
      refine ⟨fun p hp => hp, fun p hp q hq e => ?_⟩
      rcases List.mem_append.mp hp with hp | hp
      · obtain ⟨u, hu, rfl⟩ := scrW_mem hp
        rcases List.mem_append.mp hq with hq | hq
        · obtain ⟨u', hu', rfl⟩ := scrW_mem hq
          rw [hu] at hu'
          cases hu'
          rfl
        · obtain ⟨q', hq', rfl⟩ := List.mem_map.mp hq
          exact absurd e (hne q' hq')
      · obtain ⟨p', hp', rfl⟩ := List.mem_map.mp hp
        rcases List.mem_append.mp hq with hq | hq
        · obtain ⟨u', hu', rfl⟩ := scrW_mem hq
          exact absurd e.symm (hne p' hp')
        · obtain ⟨q', hq', rfl⟩ := List.mem_map.mp hq
          rfl
    have hSS : ∀ Wl F H', Incl (scrW H a ++ cs.map fun p => (p.2, TblW)) Wl → At Wl F H' → SqL K H' a (zs.map V.int) := fun Wl F H' hI ha => by
      rcases hS with hS | hS
      · refine .inl ?_
        have key : ∀ u, H a = some u → H' a = some u := fun u hu => by
          obtain ⟨_, o, h2, h3⟩ := ha.wl _ (hI.1 _ (List.mem_append.mpr (.inl (scrW_in hu))))
          have h3 : o = u := h3
          rw [← h3]; exact h2
        rcases hS with hS | ⟨o, hS⟩
        · exact .inl (key _ hS)
        · exact .inr ⟨o, key _ hS⟩
      · exact .inr hS
    have hat : At (scrW H a ++ cs.map fun p => (p.2, TblW)) (fun _ => none) H := by
      refine ⟨fun a o e => (by cases e), fun p hp => ⟨rfl, ?_⟩⟩
      rcases List.mem_append.mp hp with hp | hp
      · obtain ⟨u, hu, rfl⟩ := scrW_mem hp
        exact ⟨u, hu, rfl⟩
      · obtain ⟨p', hp', rfl⟩ := List.mem_map.mp hp
        exact ⟨_, hT p' hp', #[], rfl, trivial⟩
    have hrep : RepRs ⟨P, w, K⟩ (scrW H a ++ cs.map fun p => (p.2, TblW)) (fun _ => none) H [.adr a] [.ref a] := .cons rfl .nil
    refine law_walk (zs := zs) B (hG _ hW) hSS hU hr (fun _ => none) H (fun _ => none) H _ _ ⟨Gr.refl hat, slots_start hrep, fun i d a e => absurd e (startR_own rfl), fun i j d d' _ e => absurd e (startR_own rfl)⟩ ⟨fun ρ' F' H' σ' q s => q.elim, fun d v F' H' q g r => ?_, fun _ _ _ _ q => q.elim, fun _ _ _ _ q => q.elim⟩
    have q : d = .bool true := q
    subst q
    cases r
    exact hQ H'
end
theorem facts {P : Program} {w : World} {K : PySem.W.Frag} {h : Heap} {mg : Str → Option Value} {f : Addr} (X : K.In h) (G : h.Ns mainGlobals mg) (hfa : mg ("law" : Str) = some (.ref f)) (c : He.SaysX fa fn [] tf exE w h K) :
    ∃ fd : FuncData, (∀ (s : Shared) (v : Value), BindsTo s fd ⟨[v], []⟩ [("_law_script", v)]) ∧ ∀ base : Heap, K.In base → base.Ns mainGlobals mg → (∀ p ∈ csK K, LamX.TabB base mg p.1 p.2) → FnOk P w K mg base L2.CX0 8 f fd ["_law_script"] (spLaw K (csK K)) := by
  obtain ⟨fd, F⟩ := c.t.d.def_ 47 (d := d_law) rfl
  have e := hfa.symm.trans (He.glo_ok X G (c.t.d.fact 47 (f := .glo "law") rfl))
  cases e
  have b := FunD.bindsA (ps := ["_law_script"]) F fun _ _ _ _ _ _ us hl => match us, hl with | [_], _ => rfl
  refine ⟨fd, fun s v => b s [v] rfl, fun base _ _ hT => ok_law F (bd_of X G c) (fun p hp => ?_) fun W0 hW => bg_of X G c hT hW⟩
  obtain ⟨q, hq, rfl⟩ := List.mem_map.mp hp
  exact c.out q hq
end LC

open PySem PySem.W PySem.Calls PyProof.Rows
theorem PySem.Challenge.cw_livingclock_k00_whole_law_holds : PySem.Challenge.rw_livingclock_k00_whole_law.Holds := by
  w_on; o_law
  refine HandSHeadRun.head_any (r := OpenLaw.row PySem.Challenge.rw_livingclock_k00_whole_law) (q := view (OpenLaw.row PySem.Challenge.rw_livingclock_k00_whole_law).prog [64]) (H := LC.hkE) (ob := LC.obE) (M := 3000) (loose := LC.loose) (d := HandSHeadRun.topDef (OpenLaw.row PySem.Challenge.rw_livingclock_k00_whole_law).prog 64) (kwd := []) LC.obE_eq
    (by kernel_rfl) (fun s => by kernel_rfl) LC.runE (by kernel_rfl) (by kernel_rfl) (by kernel_rfl) (by rfl) (by first | assumption | decide +kernel) (by decide +kernel) ⟨rfl, rfl, rfl, rfl, rfl, by decide +kernel⟩ ?hw ?hc
  case hw => w_witness2
  case hc =>
    refine LamX.walk_ofTsE (l := PySem.Challenge.rw_livingclock_k00_whole_law) (n := 63) (k := 8) (x := "_law_script") (CX := fun _ => L2.CX0) rfl (by decide) (by kernel_rfl) ⟨rfl, by decide, by decide⟩ ?F (fun _ _ _ _ _ z => z)
    intro w mg fa h Y G hmg0
    obtain ⟨K, KX, c⟩ := Y
    have hmg : mg ("law" : PySem.Str) = some (.ref fa) := by
      have e : (HandSHeadRun.topDef (OpenLaw.row PySem.Challenge.rw_livingclock_k00_whole_law).prog 64).name = ("law" : PySem.Str) := by kernel_rfl
      rw [← e]
      exact hmg0
    obtain ⟨fd, hb, hF⟩ := LC.facts (P := (PySem.Challenge.rw_livingclock_k00_whole_law).prog) (w := w) KX G hmg c
    refine ⟨K, KX, fd, LC.csK K, LC.spLaw K (LC.csK K), fun p hp => ?_, fun p hp => ?_, fun p hp => ?_, hb, fun H a zs hl _ hT hS => ⟨a, zs, rfl, hS, hT, fun _ => rfl⟩, hF⟩
    · obtain ⟨q, hq, rfl⟩ := List.mem_map.mp hp
      exact c.empty q hq
    · obtain ⟨q, hq, rfl⟩ := List.mem_map.mp hp
      exact c.out q hq
    · obtain ⟨q, hq, rfl⟩ := List.mem_map.mp hp
      exact PySem.W.codeHd_of_K KX (c.hd q hq)
