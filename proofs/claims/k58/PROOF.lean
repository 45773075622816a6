import PyProof.Rows.All
import Wide.All
import OpenK.AllK
import Wide.FinOn
import KE.KStateDown
import Lean
import HandS.ForMost
import HandS.Words
import HandS.WordsExc
import HandS.Defaults
import HandS.Head0
import HandS.Head1
import HandS.Head2
import HandS.HeadEnd
import HandS.HeadHook1
import HandS.HeadHook2
import HandS.HeadHook3
import HandS.HeadHook4
import HandS.HeadWalk
import PySem.Challenge.RW_backmaps_k58_whole_rounds_by_events
import HandS.WordsList
import HandS.Walk
import HandS.IsInst
import HandS.Codes
import HandS.Lambda
import HandS.TupSets
import HandS.Flow
import KE.KSortTup
import KE.KSortKey
import KE.KDictCopyH
import KE.KDictSum
import KE.KDictKeyed
import KE.KDictWalk
import KE.KeyNested
import KE.SortData
import KE.SortKeyHeap
import HandS.Set
import HandS.Strs
import HandS.SetBool
import HandS.SortKw
import HandS.DictComp
import PyProof.DictCompW
import HandS.TupAny
import HandS.SortInts
import KE.KMinKey
import KE.KLam
import HandS.List
import HandS.Comp
import HandS.Conv
import HandS.Style
import HandS.Wide
import HandS.NoneIn
set_option Elab.async false
set_option maxRecDepth 100000
/-! The defs of the text by places. -/
namespace B58
open PySem L2
def top (i : Nat) : Stmt := PySem.Challenge.pw_backmaps_k58_whole_rounds_by_events.main.body.getD i (.Pass ⟨0, 0, 0, 0⟩)
abbrev sTrInit : Stmt := inClass (top 10) 0
abbrev sTrGap : Stmt := inClass (top 10) 1
abbrev s_is_integer : Stmt := top 7
abbrev s_are_different : Stmt := top 8
abbrev s_need_first : Stmt := top 9
abbrev s_is_begin : Stmt := top 11
abbrev s_takes : Stmt := top 12
abbrev s_transfers_of : Stmt := top 13
abbrev s_under_way : Stmt := top 14
abbrev s_spread : Stmt := top 15
abbrev s_dirty : Stmt := top 16
abbrev s_state_behind : Stmt := top 17
abbrev s_carried : Stmt := top 18
abbrev s_spread_ways : Stmt := top 19
abbrev s_ways_behind : Stmt := top 20
abbrev s_all_ways : Stmt := top 21
abbrev s_closed : Stmt := top 22
abbrev s_possible : Stmt := top 23
abbrev s_journey : Stmt := top 24
abbrev s_are_steps : Stmt := top 25
abbrev s_stays_of : Stmt := top 26
abbrev s_is_left_alone : Stmt := top 27
abbrev s_is_journey : Stmt := top 28
abbrev s_is_triple : Stmt := top 30
abbrev s_need_transfers : Stmt := top 31
abbrev s_need_net : Stmt := top 32
abbrev s_is_against : Stmt := top 33
abbrev s_best_way : Stmt := top 34
abbrev s_rounds : Stmt := top 35
abbrev s_missing : Stmt := top 36
abbrev s_begun : Stmt := top 38
abbrev s_draw : Stmt := top 39
abbrev s_pick : Stmt := top 40
abbrev s_shuffled : Stmt := top 41
abbrev s_areas : Stmt := top 42
abbrev s_triples : Stmt := top 43
abbrev s_some : Stmt := top 44
abbrev s_rows : Stmt := top 45
abbrev s_shown : Stmt := top 46
abbrev s_missing_right : Stmt := top 47
abbrev s_law : Stmt := top 48
end B58
set_option Elab.async false
set_option linter.all false
set_option maxRecDepth 100000
set_option maxHeartbeats 0
/-! The head: the top run in the kernel, its facts by names. -/
namespace B58
open PySem PySem.Spec PyProof.Rows L2
def dTrInit : He.DefD := ⟨("Transfer", some "__init__"), "__init__", "Transfer.__init__", defArgs sTrInit, defBody sTrInit, defScope sTrInit, [], []⟩
def dTrGap : He.DefD := ⟨("Transfer", some "last_gap"), "last_gap", "Transfer.last_gap", defArgs sTrGap, defBody sTrGap, defScope sTrGap, [], []⟩
def d_is_integer : He.DefD := ⟨("is_integer", none), "is_integer", "is_integer", defArgs s_is_integer, defBody s_is_integer, defScope s_is_integer, [], []⟩
def d_are_different : He.DefD := ⟨("are_different", none), "are_different", "are_different", defArgs s_are_different, defBody s_are_different, defScope s_are_different, [], []⟩
def d_need_first : He.DefD := ⟨("need_first", none), "need_first", "need_first", defArgs s_need_first, defBody s_need_first, defScope s_need_first, [], []⟩
def d_is_begin : He.DefD := ⟨("is_begin", none), "is_begin", "is_begin", defArgs s_is_begin, defBody s_is_begin, defScope s_is_begin, [], []⟩
def d_takes : He.DefD := ⟨("takes", none), "takes", "takes", defArgs s_takes, defBody s_takes, defScope s_takes, [], []⟩
def d_transfers_of : He.DefD := ⟨("transfers_of", none), "transfers_of", "transfers_of", defArgs s_transfers_of, defBody s_transfers_of, defScope s_transfers_of, [], []⟩
def d_under_way : He.DefD := ⟨("under_way", none), "under_way", "under_way", defArgs s_under_way, defBody s_under_way, defScope s_under_way, [], []⟩
def d_spread : He.DefD := ⟨("spread", none), "spread", "spread", defArgs s_spread, defBody s_spread, defScope s_spread, [], []⟩
def d_dirty : He.DefD := ⟨("dirty", none), "dirty", "dirty", defArgs s_dirty, defBody s_dirty, defScope s_dirty, [], []⟩
def d_state_behind : He.DefD := ⟨("state_behind", none), "state_behind", "state_behind", defArgs s_state_behind, defBody s_state_behind, defScope s_state_behind, [], []⟩
def d_carried : He.DefD := ⟨("carried", none), "carried", "carried", defArgs s_carried, defBody s_carried, defScope s_carried, [], []⟩
def d_spread_ways : He.DefD := ⟨("spread_ways", none), "spread_ways", "spread_ways", defArgs s_spread_ways, defBody s_spread_ways, defScope s_spread_ways, [], []⟩
def d_ways_behind : He.DefD := ⟨("ways_behind", none), "ways_behind", "ways_behind", defArgs s_ways_behind, defBody s_ways_behind, defScope s_ways_behind, [], []⟩
def d_all_ways : He.DefD := ⟨("all_ways", none), "all_ways", "all_ways", defArgs s_all_ways, defBody s_all_ways, defScope s_all_ways, [], []⟩
def d_closed : He.DefD := ⟨("closed", none), "closed", "closed", defArgs s_closed, defBody s_closed, defScope s_closed, [], []⟩
def d_possible : He.DefD := ⟨("possible", none), "possible", "possible", defArgs s_possible, defBody s_possible, defScope s_possible, [], []⟩
def d_journey : He.DefD := ⟨("journey", none), "journey", "journey", defArgs s_journey, defBody s_journey, defScope s_journey, [], []⟩
def d_are_steps : He.DefD := ⟨("are_steps", none), "are_steps", "are_steps", defArgs s_are_steps, defBody s_are_steps, defScope s_are_steps, [], []⟩
def d_stays_of : He.DefD := ⟨("stays_of", none), "stays_of", "stays_of", defArgs s_stays_of, defBody s_stays_of, defScope s_stays_of, [], []⟩
def d_is_left_alone : He.DefD := ⟨("is_left_alone", none), "is_left_alone", "is_left_alone", defArgs s_is_left_alone, defBody s_is_left_alone, defScope s_is_left_alone, [], []⟩
def d_is_journey : He.DefD := ⟨("is_journey", none), "is_journey", "is_journey", defArgs s_is_journey, defBody s_is_journey, defScope s_is_journey, [], []⟩
def d_is_triple : He.DefD := ⟨("is_triple", none), "is_triple", "is_triple", defArgs s_is_triple, defBody s_is_triple, defScope s_is_triple, [], []⟩
def d_need_transfers : He.DefD := ⟨("need_transfers", none), "need_transfers", "need_transfers", defArgs s_need_transfers, defBody s_need_transfers, defScope s_need_transfers, [], []⟩
def d_need_net : He.DefD := ⟨("need_net", none), "need_net", "need_net", defArgs s_need_net, defBody s_need_net, defScope s_need_net, [], []⟩
def d_is_against : He.DefD := ⟨("is_against", none), "is_against", "is_against", defArgs s_is_against, defBody s_is_against, defScope s_is_against, [], []⟩
def d_best_way : He.DefD := ⟨("best_way", none), "best_way", "best_way", defArgs s_best_way, defBody s_best_way, defScope s_best_way, [], []⟩
def d_rounds : He.DefD := ⟨("rounds", none), "rounds", "rounds", defArgs s_rounds, defBody s_rounds, defScope s_rounds, [], []⟩
def d_missing : He.DefD := ⟨("missing", none), "missing", "missing", defArgs s_missing, defBody s_missing, defScope s_missing, [], []⟩
def d_begun : He.DefD := ⟨("_law_begun", none), "_law_begun", "_law_begun", defArgs s_begun, defBody s_begun, defScope s_begun, [], []⟩
def d_draw : He.DefD := ⟨("_law_draw", none), "_law_draw", "_law_draw", defArgs s_draw, defBody s_draw, defScope s_draw, [], []⟩
def d_pick : He.DefD := ⟨("_law_pick", none), "_law_pick", "_law_pick", defArgs s_pick, defBody s_pick, defScope s_pick, [], []⟩
def d_shuffled : He.DefD := ⟨("_law_shuffled", none), "_law_shuffled", "_law_shuffled", defArgs s_shuffled, defBody s_shuffled, defScope s_shuffled, [], []⟩
def d_areas : He.DefD := ⟨("_law_areas", none), "_law_areas", "_law_areas", defArgs s_areas, defBody s_areas, defScope s_areas, [], []⟩
def d_triples : He.DefD := ⟨("_law_triples", none), "_law_triples", "_law_triples", defArgs s_triples, defBody s_triples, defScope s_triples, [], []⟩
def d_some : He.DefD := ⟨("_law_some", none), "_law_some", "_law_some", defArgs s_some, defBody s_some, defScope s_some, [], []⟩
def d_rows : He.DefD := ⟨("_law_rows", none), "_law_rows", "_law_rows", defArgs s_rows, defBody s_rows, defScope s_rows, [], []⟩
def d_shown : He.DefD := ⟨("_law_shown", none), "_law_shown", "_law_shown", defArgs s_shown, defBody s_shown, defScope s_shown, [], []⟩
def d_missing_right : He.DefD := ⟨("_law_missing_right", none), "_law_missing_right", "_law_missing_right", defArgs s_missing_right, defBody s_missing_right, defScope s_missing_right, [], []⟩
def d_law : He.DefD := ⟨("law", none), "law", "law", defArgs s_law, defBody s_law, defScope s_law, [], []⟩
def fns : List He.DefD := [dTrInit, dTrGap, d_is_integer, d_are_different, d_need_first, d_is_begin, d_takes, d_transfers_of, d_under_way, d_spread, d_dirty, d_state_behind, d_carried, d_spread_ways, d_ways_behind, d_all_ways, d_closed, d_possible, d_journey, d_are_steps, d_stays_of, d_is_left_alone, d_is_journey, d_is_triple, d_need_transfers, d_need_net, d_is_against, d_best_way, d_rounds, d_missing, d_begun, d_draw, d_pick, d_shuffled, d_areas, d_triples, d_some, d_rows, d_shown, d_missing_right, d_law]
def fas : List He.Fa := [.glo "is_integer", .glo "are_different", .glo "need_first", .glo "is_begin", .glo "takes", .glo "transfers_of", .glo "under_way", .glo "spread", .glo "dirty", .glo "state_behind", .glo "carried", .glo "spread_ways", .glo "ways_behind", .glo "all_ways", .glo "closed", .glo "possible", .glo "journey", .glo "are_steps", .glo "stays_of", .glo "is_left_alone", .glo "is_journey", .glo "is_triple", .glo "need_transfers", .glo "need_net", .glo "is_against", .glo "best_way", .glo "rounds", .glo "missing", .glo "_law_begun", .glo "_law_draw", .glo "_law_pick", .glo "_law_shuffled", .glo "_law_areas", .glo "_law_triples", .glo "_law_some", .glo "_law_rows", .glo "_law_shown", .glo "_law_missing_right", .glo "law", .glo "Transfer", .glo "KINDS", .free "isinstance", .free "int", .free "bool", .free "list", .free "tuple", .free "str", .free "all", .free "any", .free "len", .free "set", .free "sorted", .free "enumerate", .free "range", .free "max", .free "min", .free "abs", .int "NEVER" (-1), .cls "Transfer", .noat "Transfer" "kind", .noat "Transfer" "source", .noat "Transfer" "target", .noat "Transfer" "began", .noat "Transfer" "ended", .meth "Transfer" "last_gap", .mkr "Transfer"]
def tfs : List He.Defn := [("spread_ways", none), ("rounds", none)]
def exB (K : PySem.W.Frag) : Bool := He.tupB K "KINDS" [.str "copy", .str "move"] && !decide ((He.cT K ("spread_ways", none)).2 = (He.cT K ("rounds", none)).2)
abbrev R : PySem.W.OpenRow := PySem.W.OpenLaw.row PySem.Challenge.rw_backmaps_k58_whole_rounds_by_events
abbrev hk : PySem.W.Hook := He.hookX 5 fas fns [] tfs exB
def ob (s : PySem.W.SharedT) : He.AlX := He.obsX 5 fas fns [] tfs exB (HandSHeadRun.getT s)
theorem ob_eq (s : PySem.W.SharedT) : ob s = hk.obs s.abs := He.obsX_eq (HandSHeadRun.getT_eq s)
def loose1 : List PySem.Str := ["MapError", "BadEvents", "BadNet", "KINDS", "NEVER", "Transfer", "is_integer", "are_different", "need_first", "is_begin", "takes", "transfers_of", "under_way", "spread", "dirty", "state_behind", "carried", "spread_ways", "ways_behind", "all_ways", "closed", "possible", "journey", "are_steps", "stays_of", "is_left_alone"]
def loose2 : List PySem.Str := ["is_journey", "is_triple", "need_transfers", "need_net", "is_against", "best_way", "rounds", "missing", "_law_begun", "_law_draw", "_law_pick", "_law_shuffled", "_law_areas", "_law_triples", "_law_some", "_law_rows", "_law_shown", "_law_missing_right"]
theorem run (w : World) : HandSHeadRun.RunEq R (PySem.W.view R.prog [48]) hk ob 4000 (loose1 ++ loose2) w := by
  intro os
  kernel_rfl
end B58
set_option Elab.async false
set_option maxRecDepth 100000
/-! Plain mathematics: nets of transfers, ways, states, what may be reached. No program here. -/
namespace B58
/-- a transfer: number, source, target -/
structure Tr where
  n : Int
  s : Int
  t : Int
deriving DecidableEq
/-- a state: area, used, bound -/
structure St3 where
  a : Int
  u : List Int
  b : List Int
deriving DecidableEq
/-- an event -/
inductive Ev where
  | beg (n : Int) (mv : Bool) (s t : Int)
  | vis (v : Int)
deriving DecidableEq

/-! ### sorting -/
def srt (l : List Int) : List Int := l.mergeSort fun x y => decide (x ≤ y)
theorem srt_perm (l : List Int) : (srt l).Perm l := List.mergeSort_perm l _
theorem srt_sorted (l : List Int) : (srt l).Pairwise (· ≤ ·) := by
  have h : (srt l).Pairwise (fun a b => decide (a ≤ b) = true) := List.pairwise_mergeSort (le := fun x y : Int => decide (x ≤ y)) (fun a b c h1 h2 => by simp only [decide_eq_true_eq] at *; omega) (fun a b => by simp only [Bool.or_eq_true, decide_eq_true_eq]; omega) l
  exact h.imp fun h => of_decide_eq_true h
theorem sorted_unique : ∀ {l m : List Int}, l.Perm m → l.Pairwise (· ≤ ·) → m.Pairwise (· ≤ ·) → l = m
  | [], m, p, _, _ => by
    have : m = [] := List.nil_perm.mp p
    rw [this]
  | x :: l, [], p, _, _ => by
    have h := p.length_eq
    simp at h
  | x :: l, y :: m, p, hl, hm => by
    rw [List.pairwise_cons] at hl hm
    have h1 : x ∈ y :: m := p.mem_iff.mp List.mem_cons_self
    have h2 : y ∈ x :: l := p.mem_iff.mpr List.mem_cons_self
    have e : x = y := by
      rcases List.mem_cons.mp h1 with e | h1
      · exact e
      · rcases List.mem_cons.mp h2 with e | h2
        · exact e.symm
        · have a1 := hl.1 y h2
          have a2 := hm.1 x h1
          omega
    subst e
    rw [sorted_unique ((List.perm_cons x).mp p) hl.2 hm.2]
theorem srt_of {l m : List Int} (p : m.Perm l) (h : m.Pairwise (· ≤ ·)) : m = srt l := sorted_unique (p.trans (srt_perm l).symm) h (srt_sorted l)
theorem srt_congr {l m : List Int} (p : l.Perm m) : srt l = srt m := srt_of ((srt_perm l).trans p) (srt_sorted l)
theorem mem_srt {l : List Int} {x : Int} : x ∈ srt l ↔ x ∈ l := (srt_perm l).mem_iff
theorem srt_nodup {l : List Int} (h : l.Nodup) : (srt l).Nodup := (srt_perm l).nodup_iff.mpr h
theorem srt_length (l : List Int) : (srt l).length = l.length := (srt_perm l).length_eq
theorem srt_nil : srt [] = [] := List.perm_nil.mp (srt_perm [])
/-- sorting behind one more -/
theorem srt_snoc (l : List Int) (x : Int) : srt (srt l ++ [x]) = srt (l ++ [x]) := srt_congr ((srt_perm l).append_right [x])

/-! ### as many as there may be -/
theorem nodup_len {α : Type} [DecidableEq α] : ∀ {ks l : List α}, ks.Nodup → (∀ x ∈ ks, x ∈ l) → ks.length ≤ l.length
  | [], _, _, _ => Nat.zero_le _
  | k :: ks, l, hn, hs => by
    rw [List.nodup_cons] at hn
    have hk : k ∈ l := hs k List.mem_cons_self
    have ih := nodup_len (ks := ks) (l := l.erase k) hn.2 fun x hx => by
      have hne : x ≠ k := fun e => hn.1 (e ▸ hx)
      exact (List.mem_erase_of_ne hne).mpr (hs x (List.mem_cons_of_mem _ hx))
    have hl := List.length_erase_of_mem hk
    have hp : 0 < l.length := List.length_pos_of_mem hk
    simp only [List.length_cons]
    omega
/-- the lists of some of the items, in their order -/
def subl : List Int → List (List Int)
  | [] => [[]]
  | x :: l => subl l ++ (subl l).map (x :: ·)
theorem subl_length : ∀ l : List Int, (subl l).length = 2 ^ l.length
  | [] => rfl
  | x :: l => by
    show (subl l ++ (subl l).map (x :: ·)).length = 2 ^ (l.length + 1)
    rw [List.length_append, List.length_map, subl_length l, Nat.pow_succ]
    omega
theorem filter_subl (p : Int → Bool) : ∀ l : List Int, l.filter p ∈ subl l
  | [] => List.mem_singleton.mpr rfl
  | x :: l => by
    have ih := filter_subl p l
    cases h : p x with
    | true =>
      rw [List.filter_cons_of_pos h]
      exact List.mem_append_right _ (List.mem_map.mpr ⟨_, ih, rfl⟩)
    | false =>
      rw [List.filter_cons_of_neg (by rw [h]; decide)]
      exact List.mem_append_left _ ih
/-- ascending, different, among the numbers -/
structure Good (ns l : List Int) : Prop where
  asc : l.Pairwise (· ≤ ·)
  nd : l.Nodup
  sub : ∀ x ∈ l, x ∈ ns
theorem Good.nil (ns : List Int) : Good ns [] := ⟨List.Pairwise.nil, List.nodup_nil, fun _ h => nomatch h⟩
theorem nodup_filter_mem {ns l : List Int} (hn : ns.Nodup) (hl : l.Nodup) (hs : ∀ x ∈ l, x ∈ ns) : l.Perm (ns.filter fun x => decide (x ∈ l)) := by
  refine (List.perm_ext_iff_of_nodup hl (hn.filter _)).mpr fun x => ?_
  rw [List.mem_filter, decide_eq_true_eq]
  exact ⟨fun h => ⟨hs x h, h⟩, fun h => h.2⟩
theorem Good.among {ns l : List Int} (hn : ns.Nodup) (g : Good ns l) : l ∈ (subl ns).map srt :=
  List.mem_map.mpr ⟨_, filter_subl (fun x => decide (x ∈ l)) ns, (srt_of (nodup_filter_mem hn g.nd g.sub) g.asc).symm⟩
theorem Good.mono {ns ms l : List Int} (g : Good ns l) (h : ∀ x ∈ ns, x ∈ ms) : Good ms l := ⟨g.asc, g.nd, fun x hx => h x (g.sub x hx)⟩
theorem Good.add {ns l : List Int} {x : Int} (g : Good ns l) (hx : x ∈ ns) (h : x ∉ l) : Good ns (srt (l ++ [x])) := by
  refine ⟨srt_sorted _, srt_nodup ?_, fun y hy => ?_⟩
  · rw [List.nodup_append]
    exact ⟨g.nd, List.nodup_cons.mpr ⟨(fun z => nomatch z), List.nodup_nil⟩, fun a ha b hb e => h (by rw [List.mem_singleton.mp hb] at e; exact e ▸ ha)⟩
  · rcases List.mem_append.mp (mem_srt.mp hy) with z | z
    · exact g.sub y z
    · rw [List.mem_singleton.mp z]
      exact hx
theorem Good.len {ns l : List Int} (g : Good ns l) : l.length ≤ ns.length := nodup_len g.nd g.sub
/-- all states that may be -/
def allSt (o ns : List Int) : List St3 := o.flatMap fun a => ((subl ns).map srt).flatMap fun u => ((subl ns).map srt).map fun b => ⟨a, u, b⟩
theorem flatMap_len {α β : Type} {f : α → List β} {m : Nat} : ∀ {l : List α}, (∀ x, (f x).length = m) → (l.flatMap f).length = l.length * m
  | [], _ => by simp
  | x :: l, h => by
    rw [List.flatMap_cons, List.length_append, h x, flatMap_len h, List.length_cons, Nat.succ_mul]
    omega
theorem allSt_len (o ns : List Int) : (allSt o ns).length = o.length * (2 ^ ns.length * 2 ^ ns.length) := by
  unfold allSt
  rw [flatMap_len (m := 2 ^ ns.length * 2 ^ ns.length) fun a => ?_]
  rw [flatMap_len (m := 2 ^ ns.length) fun u => ?_]
  · rw [List.length_map, subl_length]
  · rw [List.length_map, List.length_map, subl_length]

/-! ### nets -/
def nums (ts : List Tr) : List Int := ts.map fun e => e.n
structure Net (o : List Int) (ts : List Tr) (first : List Int) : Prop where
  o_nd : o.Nodup
  o_len : o.length ≤ 5
  t_len : ts.length ≤ 5
  t_nd : (nums ts).Nodup
  src : ∀ e ∈ ts, e.s ∈ o
  tgt : ∀ e ∈ ts, e.t ∈ o
  ne : ∀ e ∈ ts, e.s ≠ e.t
  f_nd : first.Nodup
  f_in : ∀ a ∈ first, a ∈ o
theorem nums_inj {ts : List Tr} (h : (nums ts).Nodup) {e e' : Tr} (he : e ∈ ts) (he' : e' ∈ ts) (en : e.n = e'.n) : e = e' := by
  induction ts with
  | nil => cases he
  | cons x ts ih =>
    unfold nums at h
    rw [List.map_cons, List.nodup_cons] at h
    rcases List.mem_cons.mp he with e1 | h1
    · rcases List.mem_cons.mp he' with e2 | h2
      · rw [e1, e2]
      · exact absurd (List.mem_map.mpr ⟨e', h2, by rw [← en, e1]⟩) h.1
    · rcases List.mem_cons.mp he' with e2 | h2
      · exact absurd (List.mem_map.mpr ⟨e, h1, by rw [en, e2]⟩) h.1
      · exact ih h.2 h1 h2
theorem mem_nums {ts : List Tr} {e : Tr} (h : e ∈ ts) : e.n ∈ nums ts := List.mem_map.mpr ⟨e, h, rfl⟩
/-- the place in the order -/
abbrev ix (o : List Int) (x : Int) : Nat := o.idxOf x
/-- against the order -/
def ag (o : List Int) (e : Tr) : Bool := decide (ix o e.t < ix o e.s)
def cnt (o : List Int) (es : List Tr) : Nat := (es.filter (ag o)).length
theorem cnt_nil (o : List Int) : cnt o [] = 0 := rfl
theorem cnt_cons (o : List Int) (e : Tr) (es : List Tr) : cnt o (e :: es) = cnt o es + (if ag o e = true then 1 else 0) := by
  unfold cnt
  cases h : ag o e with
  | true =>
    rw [List.filter_cons_of_pos h, if_pos rfl]
    rfl
  | false =>
    rw [List.filter_cons_of_neg (by rw [h]; decide), if_neg (by decide)]
    rfl
theorem cnt_app (o : List Int) (es fs : List Tr) : cnt o (es ++ fs) = cnt o es + cnt o fs := by
  unfold cnt
  rw [List.filter_append, List.length_append]
def Path (ts : List Tr) : Int → List Tr → Int → Prop
  | a, [], b => a = b
  | a, e :: es, b => e ∈ ts ∧ e.s = a ∧ Path ts e.t es b
theorem Path.app {ts : List Tr} : ∀ {es fs : List Tr} {a b c : Int}, Path ts a es b → Path ts b fs c → Path ts a (es ++ fs) c
  | [], _, _, _, _, h, g => by
    cases (show _ = _ from h)
    exact g
  | _ :: _, _, _, _, _, h, g => ⟨h.1, h.2.1, Path.app h.2.2 g⟩
theorem Path.split {ts : List Tr} : ∀ {es fs : List Tr} {a c : Int}, Path ts a (es ++ fs) c → ∃ b, Path ts a es b ∧ Path ts b fs c
  | [], _, a, _, h => ⟨a, rfl, h⟩
  | _ :: _, _, _, _, h => let ⟨b, h1, h2⟩ := Path.split h.2.2; ⟨b, ⟨h.1, h.2.1, h1⟩, h2⟩
theorem Path.mem {ts : List Tr} : ∀ {es : List Tr} {a b : Int}, Path ts a es b → ∀ e ∈ es, e ∈ ts
  | _ :: _, _, _, h, e, he => by
    rcases List.mem_cons.mp he with rfl | he
    · exact h.1
    · exact Path.mem h.2.2 e he
theorem Path.len {ts : List Tr} {es : List Tr} {a b : Int} (h : Path ts a es b) (hn : (nums es).Nodup) : es.length ≤ ts.length := by
  have := nodup_len (ks := nums es) (l := nums ts) hn fun x hx => by
    obtain ⟨e, he, rfl⟩ := List.mem_map.mp hx
    exact mem_nums (h.mem e he)
  unfold nums at this
  simpa using this
theorem cnt_le (o : List Int) (es : List Tr) : cnt o es ≤ es.length := List.length_filter_le _ _

/-! ### the best way -/
/-- c against on w, the most on ways from a without the used -/
structure Best (ts : List Tr) (o used : List Int) (a : Int) (c : Nat) (w : List Int) : Prop where
  wit : ∃ es b, Path ts a es b ∧ (nums es).Nodup ∧ (∀ e ∈ es, e.n ∉ used) ∧ w = nums es ∧ c = cnt o es
  max : ∀ es b, Path ts a es b → (nums es).Nodup → (∀ e ∈ es, e.n ∉ used) → cnt o es ≤ c
/-- .. among those that begin with one of p -/
structure BestP (ts : List Tr) (o used : List Int) (a : Int) (p : List Tr) (c : Nat) (w : List Int) : Prop where
  wit : ∃ es b, Path ts a es b ∧ (nums es).Nodup ∧ (∀ e ∈ es, e.n ∉ used) ∧ w = nums es ∧ c = cnt o es
  max : ∀ e es b, e ∈ p → Path ts a (e :: es) b → (nums (e :: es)).Nodup → (∀ f ∈ e :: es, f.n ∉ used) → cnt o (e :: es) ≤ c
theorem BestP.start (ts : List Tr) (o used : List Int) (a : Int) : BestP ts o used a [] 0 [] :=
  ⟨⟨[], a, rfl, List.nodup_nil, (fun _ h => nomatch h), rfl, rfl⟩, (fun _ _ _ h => nomatch h)⟩
theorem BestP.skip {ts : List Tr} {o used : List Int} {a : Int} {p : List Tr} {c : Nat} {w : List Int} (h : BestP ts o used a p c w) {e : Tr} (he : ¬ (e.s = a ∧ e.n ∉ used)) : BestP ts o used a (p ++ [e]) c w := by
  refine ⟨h.wit, fun f es b hf hp hn hu => ?_⟩
  rcases List.mem_append.mp hf with hf | hf
  · exact h.max f es b hf hp hn hu
  · cases List.mem_singleton.mp hf
    exact absurd ⟨hp.2.1, hu e List.mem_cons_self⟩ he
theorem best_sub {ts : List Tr} {o used : List Int} {e : Tr} {c' : Nat} {w' : List Int} (g : Best ts o (used ++ [e.n]) e.t c' w') {es : List Tr} {b : Int} (hp : Path ts e.t es b) (hn : (nums (e :: es)).Nodup) (hu : ∀ f ∈ e :: es, f.n ∉ used) : cnt o (e :: es) ≤ c' + (if ag o e = true then 1 else 0) := by
  have hn' : e.n ∉ nums es ∧ (nums es).Nodup := by
    unfold nums at hn ⊢
    rw [List.map_cons, List.nodup_cons] at hn
    exact hn
  have := g.max es b hp hn'.2 fun f hf z => by
    rcases List.mem_append.mp z with z | z
    · exact hu f (List.mem_cons_of_mem _ hf) z
    · exact hn'.1 (List.mem_singleton.mp z ▸ mem_nums hf)
  rw [cnt_cons]
  omega
theorem BestP.keep {ts : List Tr} {o used : List Int} {a : Int} {p : List Tr} {c : Nat} {w : List Int} (h : BestP ts o used a p c w) {e : Tr} {c' : Nat} {w' : List Int} (g : Best ts o (used ++ [e.n]) e.t c' w')
    (hle : ¬ c < c' + (if ag o e = true then 1 else 0)) : BestP ts o used a (p ++ [e]) c w := by
  refine ⟨h.wit, fun f es b hf hp hn hu => ?_⟩
  rcases List.mem_append.mp hf with hf | hf
  · exact h.max f es b hf hp hn hu
  · cases List.mem_singleton.mp hf
    have := best_sub g hp.2.2 hn hu
    omega
theorem BestP.take {ts : List Tr} {o used : List Int} {a : Int} {p : List Tr} {c : Nat} {w : List Int} (h : BestP ts o used a p c w) {e : Tr} {c' : Nat} {w' : List Int} (he : e ∈ ts) (hs : e.s = a) (hu : e.n ∉ used) (g : Best ts o (used ++ [e.n]) e.t c' w')
    (hlt : c < c' + (if ag o e = true then 1 else 0)) : BestP ts o used a (p ++ [e]) (c' + (if ag o e = true then 1 else 0)) (e.n :: w') := by
  refine ⟨?_, fun f es b hf hp hn hu => ?_⟩
  · obtain ⟨es, b, h1, h2, h3, h4, h5⟩ := g.wit
    refine ⟨e :: es, b, ⟨he, hs, h1⟩, ?_, fun f hf => ?_, by rw [h4]; rfl, by rw [cnt_cons, h5]⟩
    · unfold nums
      rw [List.map_cons, List.nodup_cons]
      refine ⟨fun z => ?_, h2⟩
      obtain ⟨f, hf, ef⟩ := List.mem_map.mp z
      exact h3 f hf (List.mem_append_right _ (List.mem_singleton.mpr ef))
    · rcases List.mem_cons.mp hf with rfl | hf
      · exact hu
      · exact fun z => h3 f hf (List.mem_append_left _ z)
  · rcases List.mem_append.mp hf with hf | hf
    · have := h.max f es b hf hp hn hu
      omega
    · cases List.mem_singleton.mp hf
      exact best_sub g hp.2.2 hn hu
theorem BestP.fin {ts : List Tr} {o used : List Int} {a : Int} {c : Nat} {w : List Int} (h : BestP ts o used a ts c w) : Best ts o used a c w := by
  refine ⟨h.wit, fun es b hp hn hu => ?_⟩
  cases es with
  | nil => exact Nat.zero_le _
  | cons e es => exact h.max e es b hp.1 hp hn hu
/-- what is left to be used -/
def leftN (ts : List Tr) (used : List Int) : Nat := (ts.filter fun e => decide (e.n ∉ used)).length
theorem leftN_le (ts : List Tr) (used : List Int) : leftN ts used ≤ ts.length := List.length_filter_le _ _
theorem filter_lt {α : Type} {p q : α → Bool} {x : α} : ∀ {l : List α}, (∀ y ∈ l, q y = true → p y = true) → x ∈ l → p x = true → q x = false → (l.filter q).length < (l.filter p).length
  | y :: l, h, hx, hp, hq => by
    have hle : (l.filter q).length ≤ (l.filter p).length := by
      have hl : ∀ y ∈ l, q y = true → p y = true := fun y hy => h y (List.mem_cons_of_mem _ hy)
      clear hx h
      induction l with
      | nil => exact Nat.le_refl _
      | cons z l ih =>
        have ih := ih fun y hy => hl y (List.mem_cons_of_mem _ hy)
        cases e1 : q z with
        | true =>
          rw [List.filter_cons_of_pos e1, List.filter_cons_of_pos (hl z List.mem_cons_self e1)]
          exact Nat.succ_le_succ ih
        | false =>
          rw [List.filter_cons_of_neg (by rw [e1]; decide)]
          cases e2 : p z with
          | true =>
            rw [List.filter_cons_of_pos e2]
            exact Nat.le_succ_of_le ih
          | false =>
            rw [List.filter_cons_of_neg (by rw [e2]; decide)]
            exact ih
    rcases List.mem_cons.mp hx with e | hx
    · rw [← e, List.filter_cons_of_pos hp, List.filter_cons_of_neg (by rw [hq]; decide)]
      exact Nat.lt_succ_of_le hle
    · have ih := filter_lt (l := l) (fun y hy => h y (List.mem_cons_of_mem _ hy)) hx hp hq
      cases e1 : q y with
      | true =>
        rw [List.filter_cons_of_pos e1, List.filter_cons_of_pos (h y List.mem_cons_self e1)]
        exact Nat.succ_lt_succ ih
      | false =>
        rw [List.filter_cons_of_neg (by rw [e1]; decide)]
        cases e2 : p y with
        | true =>
          rw [List.filter_cons_of_pos e2]
          exact Nat.lt_succ_of_lt ih
        | false =>
          rw [List.filter_cons_of_neg (by rw [e2]; decide)]
          exact ih
theorem leftN_lt {ts : List Tr} {used : List Int} {e : Tr} (he : e ∈ ts) (hu : e.n ∉ used) : leftN ts (used ++ [e.n]) < leftN ts used := by
  refine filter_lt (x := e) (fun y _ h => ?_) he (decide_eq_true hu) (decide_eq_false fun h => h (List.mem_append_right _ (List.mem_singleton.mpr rfl)))
  rw [decide_eq_true_eq] at h ⊢
  exact fun z => h (List.mem_append_left _ z)
/-- what rounds hands back -/
inductive Rnd (o : List Int) (ts : List Tr) (first : List Int) : Nat → List Int → Prop
  | nil : first = [] → Rnd o ts first 0 []
  | some {c : Nat} {f : Int} {es : List Tr} {b : Int} : f ∈ first → Path ts f es b → (nums es).Nodup → c = cnt o es →
      (∀ g ∈ first, ∀ fs b, Path ts g fs b → (nums fs).Nodup → cnt o fs ≤ c) → Rnd o ts first (c + 1) (nums es)
theorem Rnd.inj {o : List Int} {ts : List Tr} {first : List Int} {n m : Nat} {w v : List Int} (h : Rnd o ts first n w) (g : Rnd o ts first m v) : n = m := by
  cases h with
  | nil e =>
    cases g with
    | nil _ => rfl
    | some hf => rw [e] at hf; cases hf
  | some hf hp hn hc hm =>
    cases g with
    | nil e => rw [e] at hf; cases hf
    | some hf' hp' hn' hc' hm' =>
      have h1 := hm _ hf' _ _ hp' hn'
      have h2 := hm' _ hf _ _ hp hn
      omega
theorem Rnd.le {o : List Int} {ts : List Tr} {first : List Int} {n : Nat} {w : List Int} (h : Rnd o ts first n w) : n ≤ ts.length + 1 := by
  cases h with
  | nil e => exact Nat.zero_le _
  | some hf hp hn hc hm =>
    rw [hc]
    exact Nat.succ_le_succ (Nat.le_trans (cnt_le _ _) (hp.len hn))
end B58
set_option Elab.async false
set_option maxRecDepth 100000
/-! What the events let be reached; rounds. -/
namespace B58
/-- what becomes of a state by an event -/
def sb : Ev → St3 → Option St3
  | .vis v, st => if v = st.a then none else some st
  | .beg n mv s _, st => if mv = true ∧ s = st.a then some ⟨st.a, st.u, srt (st.b ++ [n])⟩ else some st
/-- a transfer that has begun carries -/
def Car (ts : List Tr) (m : Nat) (st st' : St3) : Prop := ∃ e ∈ ts.take m, e.s = st.a ∧ e.n ∉ st.u ∧ st' = ⟨e.t, srt (st.u ++ [e.n]), []⟩
inductive Reach (first : List Int) (ts : List Tr) (evs : List Ev) : Nat → St3 → Prop
  | init {a : Int} : a ∈ first → Reach first ts evs 0 ⟨a, [], []⟩
  | step {k : Nat} {st st' : St3} {ev : Ev} : Reach first ts evs k st → evs[k]? = some ev → sb ev st = some st' → Reach first ts evs (k + 1) st'
  | car {k : Nat} {st st' : St3} : Reach first ts evs (k + 1) st → Car ts (k + 1) st st' → Reach first ts evs (k + 1) st'
def begs (ts : List Tr) (ks : List Bool) : List Ev := List.zipWith (fun e k => Ev.beg e.n k e.s e.t) ts ks
def evsOf (ts : List Tr) (ks : List Bool) (vs : List Int) : List Ev := begs ts ks ++ vs.map Ev.vis
def rep (o : List Int) (m : Nat) : List Int := (List.replicate m o).flatten
theorem rep_length (o : List Int) : ∀ m : Nat, (rep o m).length = m * o.length
  | 0 => by simp [rep]
  | m + 1 => by
    have ih := rep_length o m
    unfold rep at ih ⊢
    rw [List.replicate_succ, List.flatten_cons, List.length_append, ih, Nat.succ_mul]
    omega
theorem rep_get (o : List Int) : ∀ (m q : Nat), q < m * o.length → (rep o m)[q]? = o[q % o.length]?
  | 0, q, h => by omega
  | m + 1, q, h => by
    unfold rep
    rw [List.replicate_succ, List.flatten_cons]
    by_cases hq : q < o.length
    · rw [List.getElem?_append_left hq, Nat.mod_eq_of_lt hq]
    · have hq' : o.length ≤ q := Nat.le_of_not_lt hq
      rw [List.getElem?_append_right hq']
      have ih := rep_get o m (q - o.length) (by rw [Nat.succ_mul] at h; omega)
      unfold rep at ih
      rw [ih, ← Nat.mod_eq_sub_mod hq']
theorem begs_length {ts : List Tr} {ks : List Bool} (h : ks.length = ts.length) : (begs ts ks).length = ts.length := by
  unfold begs
  rw [List.length_zipWith, h, Nat.min_self]
theorem evsOf_length {ts : List Tr} {ks : List Bool} (h : ks.length = ts.length) (vs : List Int) : (evsOf ts ks vs).length = ts.length + vs.length := by
  unfold evsOf
  rw [List.length_append, begs_length h, List.length_map]
theorem evs_beg {ts : List Tr} {ks : List Bool} (h : ks.length = ts.length) (vs : List Int) {k : Nat} {e : Tr} (he : ts[k]? = some e) : ∃ mv, (evsOf ts ks vs)[k]? = some (.beg e.n mv e.s e.t) := by
  have hk : k < ts.length := (List.getElem?_eq_some_iff.mp he).1
  refine ⟨ks[k]'(by omega), ?_⟩
  unfold evsOf
  rw [List.getElem?_append_left (by rw [begs_length h]; exact hk)]
  unfold begs
  rw [List.getElem?_zipWith, he, List.getElem?_eq_getElem (by omega)]
theorem evs_vis {ts : List Tr} {ks : List Bool} (h : ks.length = ts.length) (vs : List Int) (q : Nat) : (evsOf ts ks vs)[ts.length + q]? = (vs[q]?).map Ev.vis := by
  unfold evsOf
  rw [List.getElem?_append_right (by rw [begs_length h]; omega), begs_length h, List.getElem?_map]
  congr 2
  omega
/-- an event is a begin or a visit -/
theorem evs_cases {ts : List Tr} {ks : List Bool} (h : ks.length = ts.length) {vs : List Int} {k : Nat} {ev : Ev} (he : (evsOf ts ks vs)[k]? = some ev) :
    (∃ e mv, ts[k]? = some e ∧ ev = .beg e.n mv e.s e.t) ∨ (ts.length ≤ k ∧ ∃ v, vs[k - ts.length]? = some v ∧ ev = .vis v) := by
  by_cases hk : k < ts.length
  · obtain ⟨mv, e⟩ := evs_beg h vs (List.getElem?_eq_getElem hk)
    rw [e] at he
    exact .inl ⟨_, mv, List.getElem?_eq_getElem hk, (Option.some.inj he).symm⟩
  · have hk' : ts.length ≤ k := Nat.le_of_not_lt hk
    have e := evs_vis h vs (k - ts.length)
    rw [Nat.add_sub_cancel' hk', he] at e
    cases hv : vs[k - ts.length]? with
    | none => rw [hv] at e; cases e
    | some v =>
      rw [hv] at e
      exact .inr ⟨hk', v, rfl, Option.some.inj e⟩
theorem mem_take_succ {α : Type} {l : List α} {k : Nat} {x : α} (h : x ∈ l.take k) : x ∈ l.take (k + 1) := by
  rw [List.take_add_one]
  exact List.mem_append_left _ h
theorem nums_take {ts : List Tr} {k : Nat} {x : Int} (h : x ∈ nums (ts.take k)) : x ∈ nums (ts.take (k + 1)) := by
  obtain ⟨e, he, rfl⟩ := List.mem_map.mp h
  exact mem_nums (mem_take_succ he)
theorem sb_au {ev : Ev} {st st' : St3} (h : sb ev st = some st') : st'.a = st.a ∧ st'.u = st.u := by
  cases ev with
  | vis v =>
    simp only [sb] at h
    split at h
    · cases h
    · cases h; exact ⟨rfl, rfl⟩
  | beg n mv s t =>
    simp only [sb] at h
    split at h <;> (cases h; exact ⟨rfl, rfl⟩)
section
variable {o first : List Int} {ts : List Tr} {ks : List Bool} {vs : List Int}
theorem reach_wf (N : Net o ts first) (h : ks.length = ts.length) {k : Nat} {st : St3} (R : Reach first ts (evsOf ts ks vs) k st) :
    st.a ∈ o ∧ Good (nums ts) st.u ∧ Good (nums (ts.take k)) st.b := by
  induction R with
  | init ha => exact ⟨N.f_in _ ha, Good.nil _, Good.nil _⟩
  | @step k st st' ev R he hs ih =>
    obtain ⟨h1, h2, h3⟩ := ih
    obtain ⟨e1, e2⟩ := sb_au hs
    rw [e1, e2]
    refine ⟨h1, h2, ?_⟩
    rcases evs_cases h he with ⟨e, mv, ee, rfl⟩ | ⟨_, v, _, rfl⟩
    · simp only [sb] at hs
      split at hs
      · cases hs
        have hm : ts.take (k + 1) = ts.take k ++ [e] := by rw [List.take_add_one, ee]; rfl
        refine (h3.mono (ms := nums (ts.take (k + 1))) fun x hx => nums_take hx).add ?_ fun hb => ?_
        · rw [hm]
          exact mem_nums (List.mem_append_right _ (List.mem_singleton.mpr rfl))
        · obtain ⟨f, hf, ef⟩ := List.mem_map.mp (h3.sub _ hb)
          have hn : (nums (ts.take (k + 1))).Nodup := by
            unfold nums
            rw [List.map_take]
            exact N.t_nd.sublist (List.take_sublist _ _)
          unfold nums at hn
          rw [hm, List.map_append, List.nodup_append] at hn
          exact hn.2.2 f.n (List.mem_map.mpr ⟨f, hf, rfl⟩) e.n (List.mem_singleton.mpr rfl) ef
      · cases hs
        exact h3.mono fun x hx => nums_take hx
    · simp only [sb] at hs
      split at hs
      · cases hs
      · cases hs
        exact h3.mono fun x hx => nums_take hx
  | @car k st st' R hc ih =>
    obtain ⟨h1, h2, h3⟩ := ih
    obtain ⟨e, he, es, eu, rfl⟩ := hc
    have hm : e ∈ ts := List.mem_of_mem_take he
    exact ⟨N.tgt e hm, h2.add (mem_nums hm) eu, Good.nil _⟩
theorem reach_all (N : Net o ts first) (h : ks.length = ts.length) {k : Nat} {st : St3} (R : Reach first ts (evsOf ts ks vs) k st) : st ∈ allSt o (nums ts) := by
  obtain ⟨h1, h2, h3⟩ := reach_wf N h R
  unfold allSt
  refine List.mem_flatMap.mpr ⟨st.a, h1, List.mem_flatMap.mpr ⟨st.u, h2.among N.t_nd, List.mem_map.mpr ⟨st.b, (h3.mono fun x hx => ?_).among N.t_nd, rfl⟩⟩⟩
  obtain ⟨e, he, rfl⟩ := List.mem_map.mp hx
  exact mem_nums (List.mem_of_mem_take he)
theorem allSt_few (N : Net o ts first) : (allSt o (nums ts)).length ≤ 5120 := by
  rw [allSt_len]
  have h1 := N.o_len
  have h2 : (nums ts).length ≤ 5 := by
    unfold nums
    rw [List.length_map]
    exact N.t_len
  have h3 : 2 ^ (nums ts).length ≤ 2 ^ 5 := Nat.pow_le_pow_right (by decide) h2
  calc o.length * (2 ^ (nums ts).length * 2 ^ (nums ts).length) ≤ 5 * (2 ^ 5 * 2 ^ 5) := Nat.mul_le_mul h1 (Nat.mul_le_mul h3 h3)
    _ ≤ 5120 := by decide
theorem few_keys (N : Net o ts first) (h : ks.length = ts.length) {k : Nat} {l : List St3} (hn : l.Nodup) (hr : ∀ st ∈ l, Reach first ts (evsOf ts ks vs) k st) : l.length ≤ 5120 :=
  Nat.le_trans (nodup_len hn fun st hs => reach_all N h (hr st hs)) (allSt_few N)

/-! ### no more than the rounds -/
/-- how often the order was begun when area a is held -/
def pot (o : List Int) (T k : Nat) (a : Int) : Nat := if k ≤ T then 0 else (k - T) / o.length + (if a ∈ o.take ((k - T) % o.length) then 1 else 0)
theorem mem_take_ix {o : List Int} {a : Int} {j : Nat} (h : a ∈ o) : a ∈ o.take j ↔ ix o a < j := by
  constructor
  · intro hm
    have h1 : o.idxOf a = (o.take j).idxOf a := by
      conv => lhs; rw [← List.take_append_drop j o]
      rw [List.idxOf_append, if_pos hm]
    show o.idxOf a < j
    rw [h1]
    have := List.idxOf_lt_length_of_mem hm
    rw [List.length_take] at this
    omega
  · intro hl
    have hlt : o.idxOf a < o.length := List.idxOf_lt_length_of_mem h
    refine List.mem_of_getElem? (i := o.idxOf a) ?_
    rw [List.getElem?_take_of_lt hl, List.getElem?_eq_getElem hlt, List.getElem_idxOf hlt]
theorem ix_of {o : List Int} (hn : o.Nodup) {j : Nat} {v : Int} (h : o[j]? = some v) : ix o v = j := by
  obtain ⟨hj, e⟩ := List.getElem?_eq_some_iff.mp h
  have := hn.idxOf_getElem j hj
  rw [e] at this
  exact this
theorem pot_visit {T k : Nat} {a v : Int} (ha : a ∈ o) (hn : o.Nodup) (hT : T ≤ k) (hv : o[(k - T) % o.length]? = some v) (hne : v ≠ a) : pot o T (k + 1) a = pot o T k a := by
  have hL : 0 < o.length := List.length_pos_of_mem ha
  have hiv := ix_of hn hv
  have hia : ix o a < o.length := List.idxOf_lt_length_of_mem ha
  have hia' : ix o a ≠ (k - T) % o.length := fun e => hne (by
    have h1 : o[ix o a]? = some a := by rw [List.getElem?_eq_getElem hia, List.getElem_idxOf hia]
    rw [e, hv] at h1
    exact Option.some.inj h1)
  have hlt : (k - T) % o.length < o.length := Nat.mod_lt _ hL
  have hdm := Nat.div_add_mod (k - T) o.length
  have e1 : k + 1 - T = (k - T) + 1 := by omega
  unfold pot
  rw [if_neg (by omega : ¬ k + 1 ≤ T), e1]
  have hz : (if k ≤ T then 0 else (k - T) / o.length + (if a ∈ o.take ((k - T) % o.length) then 1 else 0)) = (k - T) / o.length + (if a ∈ o.take ((k - T) % o.length) then 1 else 0) := by
    split
    · have : k - T = 0 := by omega
      rw [this]
      simp
    · rfl
  rw [hz]
  by_cases hl : (k - T) % o.length + 1 = o.length
  · have e2 : ((k - T) + 1) = o.length * ((k - T) / o.length + 1) := by rw [Nat.mul_succ]; omega
    have e3 : ((k - T) + 1) / o.length = (k - T) / o.length + 1 := by
      conv => lhs; rw [e2]
      exact Nat.mul_div_cancel_left _ hL
    have e4 : ((k - T) + 1) % o.length = 0 := by
      conv => lhs; rw [e2]
      exact Nat.mul_mod_right _ _
    have hin : a ∈ o.take ((k - T) % o.length) := (mem_take_ix ha).mpr (by omega)
    rw [e3, e4, if_pos hin]
    simp
  · have e3 : ((k - T) + 1) / o.length = (k - T) / o.length := by
      refine (Nat.div_eq_iff hL).mpr ?_
      rw [Nat.mul_comm]
      constructor
      · omega
      · have := Nat.mul_succ o.length ((k - T) / o.length)
        omega
    have e4 : ((k - T) + 1) % o.length = (k - T) % o.length + 1 := by
      have := Nat.div_add_mod ((k - T) + 1) o.length
      rw [e3] at this
      omega
    rw [e3, e4]
    congr 1
    by_cases hm : ix o a < (k - T) % o.length
    · rw [if_pos ((mem_take_ix ha).mpr hm), if_pos ((mem_take_ix ha).mpr (by omega))]
    · rw [if_neg (fun z => hm ((mem_take_ix ha).mp z)), if_neg (fun z => ?_)]
      have := (mem_take_ix ha).mp z
      omega
theorem pot_carry {T k : Nat} {e : Tr} (hs : e.s ∈ o) (ht : e.t ∈ o) : pot o T k e.t ≤ pot o T k e.s + (if ag o e = true then 1 else 0) := by
  unfold pot
  split
  · exact Nat.zero_le _
  · by_cases h1 : e.t ∈ o.take ((k - T) % o.length)
    · rw [if_pos h1]
      by_cases h2 : e.s ∈ o.take ((k - T) % o.length)
      · rw [if_pos h2]
        omega
      · have h3 := (mem_take_ix ht).mp h1
        have h4 : ¬ ix o e.s < (k - T) % o.length := fun z => h2 ((mem_take_ix hs).mpr z)
        have h5 : ag o e = true := decide_eq_true (by omega)
        rw [if_neg h2, if_pos h5]
        omega
    · rw [if_neg h1]
      omega
theorem pot_early {T k : Nat} {a : Int} (h : k ≤ T) : pot o T k a = 0 := if_pos h
/-- each state that is reached has a way with as many against the order -/
theorem reach_way {m : Nat} (N : Net o ts first) (h : ks.length = ts.length) {k : Nat} {st : St3} (R : Reach first ts (evsOf ts ks (rep o m)) k st) :
    ∃ f ∈ first, ∃ es, Path ts f es st.a ∧ (nums es).Nodup ∧ st.u = srt (nums es) ∧ pot o ts.length k st.a ≤ cnt o es := by
  induction R with
  | @init a ha => exact ⟨a, ha, [], rfl, List.nodup_nil, srt_nil.symm, Nat.le_of_eq (pot_early (Nat.zero_le _))⟩
  | @step k st st' ev R he hs ih =>
    obtain ⟨f, hf, es, h1, h2, h3, h4⟩ := ih
    obtain ⟨e1, e2⟩ := sb_au hs
    refine ⟨f, hf, es, by rw [e1]; exact h1, h2, by rw [e2]; exact h3, ?_⟩
    rw [e1]
    rcases evs_cases h he with ⟨e, mv, ee, rfl⟩ | ⟨hk, v, hv, rfl⟩
    · have hk : k < ts.length := (List.getElem?_eq_some_iff.mp ee).1
      rw [pot_early (by omega)]
      exact Nat.zero_le _
    · have hq : k - ts.length < (rep o m).length := (List.getElem?_eq_some_iff.mp hv).1
      rw [rep_length] at hq
      rw [rep_get o m _ hq] at hv
      have hne : v ≠ st.a := fun z => by
        simp only [sb] at hs
        rw [if_pos z] at hs
        cases hs
      rw [pot_visit (reach_wf N h R).1 N.o_nd hk hv hne]
      exact h4
  | @car k st st' R hc ih =>
    obtain ⟨f, hf, es, h1, h2, h3, h4⟩ := ih
    obtain ⟨e, he, es', eu, rfl⟩ := hc
    have hm : e ∈ ts := List.mem_of_mem_take he
    refine ⟨f, hf, es ++ [e], h1.app ⟨hm, es', rfl⟩, ?_, ?_, ?_⟩
    · unfold nums at h2 ⊢
      rw [List.map_append, List.nodup_append]
      refine ⟨h2, List.nodup_cons.mpr ⟨(fun z => nomatch z), List.nodup_nil⟩, fun a ha b hb z => ?_⟩
      rw [h3] at eu
      refine eu (mem_srt.mpr ?_)
      have : b = e.n := List.mem_singleton.mp hb
      rw [← this, ← z]
      exact ha
    · show srt (st.u ++ [e.n]) = srt (nums (es ++ [e]))
      rw [h3, srt_snoc]
      unfold nums
      rw [List.map_append]
      rfl
    · have hp := pot_carry (o := o) (T := ts.length) (k := k + 1) (N.src e hm) (N.tgt e hm)
      rw [es'] at hp
      rw [cnt_app, cnt_cons, cnt_nil]
      show pot o ts.length (k + 1) e.t ≤ _
      omega

/-! ### as many as the rounds -/
theorem reach_begin (h : ks.length = ts.length) {f : Int} (hf : f ∈ first) : ∀ k : Nat, k ≤ ts.length → ∃ b, Reach first ts (evsOf ts ks vs) k ⟨f, [], b⟩
  | 0, _ => ⟨[], .init hf⟩
  | k + 1, hk => by
    obtain ⟨b, R⟩ := reach_begin h hf k (by omega)
    obtain ⟨mv, ee⟩ := evs_beg h vs (List.getElem?_eq_getElem (show k < ts.length by omega))
    by_cases hc : mv = true ∧ (ts[k]'(by omega)).s = f
    · exact ⟨_, R.step ee (by simp only [sb]; rw [if_pos hc])⟩
    · exact ⟨_, R.step ee (by simp only [sb]; rw [if_neg hc])⟩
/-- behind so many events the page may be at the end of the way -/
def At (first : List Int) (ts : List Tr) (evs : List Ev) (k : Nat) (es : List Tr) (x : Int) : Prop := ∃ b, Reach first ts evs k ⟨x, srt (nums es), b⟩
theorem At.ext {evs : List Ev} {k : Nat} {es : List Tr} {x : Int} (h : At first ts evs k es x) (hk : ts.length ≤ k) {e : Tr} (he : e ∈ ts) (hs : e.s = x) (hn : e.n ∉ nums es) : At first ts evs k (es ++ [e]) e.t := by
  obtain ⟨b, R⟩ := h
  have hp : 0 < ts.length := List.length_pos_of_mem he
  obtain ⟨k, rfl⟩ : ∃ k', k = k' + 1 := ⟨k - 1, by omega⟩
  have hc : Car ts (k + 1) ⟨x, srt (nums es), b⟩ ⟨e.t, srt (srt (nums es) ++ [e.n]), []⟩ := ⟨e, by rw [List.take_of_length_le hk]; exact he, hs, fun z => hn (mem_srt.mp z), rfl⟩
  refine ⟨[], ?_⟩
  have := R.car hc
  rw [srt_snoc] at this
  unfold nums at this ⊢
  rw [List.map_append]
  exact this
theorem At.way {evs : List Ev} {k : Nat} (hk : ts.length ≤ k) : ∀ {fs es : List Tr} {x y : Int}, At first ts evs k es x → Path ts x fs y → (nums (es ++ fs)).Nodup → At first ts evs k (es ++ fs) y
  | [], es, x, y, h, p, _ => by
    cases (show x = y from p)
    rw [List.append_nil]
    exact h
  | e :: fs, es, x, y, h, p, hn => by
    have hn' : (nums ((es ++ [e]) ++ fs)).Nodup := by rw [List.append_assoc]; exact hn
    have hne : e.n ∉ nums es := fun z => by
      unfold nums at hn z
      rw [List.map_append, List.nodup_append] at hn
      exact hn.2.2 e.n z e.n List.mem_cons_self rfl
    have := At.way hk (h.ext hk p.1 p.2.1 hne) p.2.2 hn'
    rw [List.append_assoc] at this
    exact this
theorem At.visit {k : Nat} {es : List Tr} {x v : Int} (h : ks.length = ts.length) (A : At first ts (evsOf ts ks vs) (ts.length + k) es x) (hv : vs[k]? = some v) (hne : v ≠ x) : At first ts (evsOf ts ks vs) (ts.length + (k + 1)) es x := by
  obtain ⟨b, R⟩ := A
  have ee : (evsOf ts ks vs)[ts.length + k]? = some (.vis v) := by rw [evs_vis h, hv]; rfl
  refine ⟨b, R.step ee ?_⟩
  simp only [sb]
  rw [if_neg hne]
theorem At.visits {es : List Tr} {x : Int} {q : Nat} (h : ks.length = ts.length) : ∀ {n : Nat}, At first ts (evsOf ts ks vs) (ts.length + q) es x → (∀ i, i < n → ∃ v, vs[q + i]? = some v ∧ v ≠ x) → At first ts (evsOf ts ks vs) (ts.length + (q + n)) es x
  | 0, A, _ => A
  | n + 1, A, hv => by
    obtain ⟨v, e, ne⟩ := hv n (Nat.lt_succ_self n)
    exact (At.visits h A fun i hi => hv i (Nat.lt_succ_of_lt hi)).visit h e ne
/-- the first one against -/
theorem first_ag (o : List Int) : ∀ {es : List Tr}, 0 < cnt o es → ∃ p e s, es = p ++ e :: s ∧ cnt o p = 0 ∧ ag o e = true
  | [], h => absurd h (Nat.lt_irrefl 0)
  | e :: es, h => by
    cases he : ag o e with
    | true => exact ⟨[], e, es, rfl, rfl, he⟩
    | false =>
      have h' : 0 < cnt o es := by
        rw [cnt_cons, he, if_neg (by decide)] at h
        exact h
      obtain ⟨p, f, s, e1, e2, e3⟩ := first_ag o h'
      exact ⟨e :: p, f, s, by rw [e1]; rfl, by rw [cnt_cons, he, e2]; rfl, e3⟩
theorem At.round {m r : Nat} (N : Net o ts first) (h : ks.length = ts.length) (hr : r < m) {es : List Tr} {x : Int} (A : At first ts (evsOf ts ks (rep o m)) (ts.length + r * o.length) es x) {p : List Tr} {e : Tr} {y : Int}
    (hp : Path ts x p y) (he : e ∈ ts) (hs : e.s = y) (ha : ag o e = true) (hn : (nums (es ++ (p ++ [e]))).Nodup) : At first ts (evsOf ts ks (rep o m)) (ts.length + (r + 1) * o.length) (es ++ (p ++ [e])) e.t := by
  have hlt : ix o e.t < ix o e.s := of_decide_eq_true ha
  have hsl : ix o e.s < o.length := List.idxOf_lt_length_of_mem (N.src e he)
  have hn0 : (nums ((es ++ p) ++ [e])).Nodup := by rw [List.append_assoc]; exact hn
  have hn1 : (nums (es ++ p)).Nodup ∧ e.n ∉ nums (es ++ p) := by
    unfold nums at hn0 ⊢
    rw [List.map_append, List.nodup_append] at hn0
    exact ⟨hn0.1, fun z => hn0.2.2 e.n z e.n (List.mem_singleton.mpr rfl) rfl⟩
  have A1 := A.way (Nat.le_add_right _ _) hp hn1.1
  have hb : ∀ i, i < o.length → r * o.length + i < m * o.length := fun i hi => by
    have h1 : (r + 1) * o.length ≤ m * o.length := Nat.mul_le_mul_right _ hr
    rw [Nat.succ_mul] at h1
    omega
  have hat : ∀ i, i < o.length → (rep o m)[r * o.length + i]? = o[i]? := fun i hi => by
    rw [rep_get o m _ (hb i hi)]
    congr 1
    rw [Nat.add_comm, Nat.mul_comm, Nat.add_mul_mod_self_left, Nat.mod_eq_of_lt hi]
  -- up to the visit of the target
  have A2 : At first ts (evsOf ts ks (rep o m)) (ts.length + (r * o.length + (ix o e.t + 1))) (es ++ p) y := A1.visits h fun i hi => by
    have hil : i < o.length := by omega
    refine ⟨o[i], by rw [hat i hil, List.getElem?_eq_getElem hil], fun z => ?_⟩
    have := ix_of N.o_nd (List.getElem?_eq_getElem hil)
    rw [z, ← hs] at this
    omega
  have A3 := A2.ext (Nat.le_add_right _ _) he hs hn1.2
  -- the rest of the round
  have A4 := A3.visits h (n := o.length - (ix o e.t + 1)) fun i hi => by
    have hil : ix o e.t + 1 + i < o.length := by omega
    refine ⟨o[ix o e.t + 1 + i], by rw [Nat.add_assoc, hat _ hil, List.getElem?_eq_getElem hil], fun z => ?_⟩
    have := ix_of N.o_nd (List.getElem?_eq_getElem hil)
    rw [z] at this
    omega
  have e1 : r * o.length + (ix o e.t + 1) + (o.length - (ix o e.t + 1)) = (r + 1) * o.length := by
    rw [Nat.succ_mul]
    omega
  rw [e1, List.append_assoc] at A4
  exact A4
theorem reach_rounds {M : Nat} (N : Net o ts first) (h : ks.length = ts.length) {f b : Int} {es : List Tr} (hf : f ∈ first) (hp : Path ts f es b) (hn : (nums es).Nodup) :
    ∀ m, m ≤ cnt o es → m ≤ M → ∃ p s x, es = p ++ s ∧ cnt o p = m ∧ Path ts f p x ∧ Path ts x s b ∧ At first ts (evsOf ts ks (rep o M)) (ts.length + m * o.length) p x
  | 0, _, _ => by
    obtain ⟨bb, R⟩ := reach_begin (vs := rep o M) h hf ts.length (Nat.le_refl _)
    refine ⟨[], es, f, rfl, rfl, rfl, hp, bb, ?_⟩
    rw [Nat.zero_mul]
    unfold nums
    rw [List.map_nil, srt_nil]
    exact R
  | m + 1, hm, hM => by
    obtain ⟨p, s, x, e1, e2, h1, h2, A⟩ := reach_rounds (M := M) N h hf hp hn m (by omega) (by omega)
    have hpos : 0 < cnt o s := by
      have : cnt o es = cnt o p + cnt o s := by rw [e1, cnt_app]
      omega
    obtain ⟨q, e, r, e3, e4, e5⟩ := first_ag o hpos
    rw [e3] at h2
    obtain ⟨y, h3, h4⟩ := h2.split
    have e6 : es = (p ++ (q ++ [e])) ++ r := by rw [e1, e3]; simp
    have hn' : (nums (p ++ (q ++ [e]))).Nodup := by
      rw [e6] at hn
      unfold nums at hn ⊢
      rw [List.map_append] at hn
      exact (List.nodup_append.mp hn).1
    have A' := A.round N h (show m < M by omega) h3 h4.1 h4.2.1 e5 hn'
    refine ⟨p ++ (q ++ [e]), r, e.t, e6, ?_, h1.app (h3.app ⟨h4.1, h4.2.1, rfl⟩), h4.2.2, A'⟩
    rw [cnt_app, cnt_app, cnt_cons, cnt_nil, e4, e5, if_pos rfl, e2]
/-- THE LAW: behind m rounds the page may be somewhere exactly if m is less than the number -/
theorem reach_iff (N : Net o ts first) (h : ks.length = ts.length) {n m : Nat} {w : List Int} (R : Rnd o ts first n w) :
    (∃ st, Reach first ts (evsOf ts ks (rep o m)) (ts.length + m * o.length) st) ↔ m < n := by
  constructor
  · rintro ⟨st, hst⟩
    obtain ⟨f, hf, es, h1, h2, h3, h4⟩ := reach_way N h hst
    have hL : 0 < o.length := List.length_pos_of_mem (N.f_in f hf)
    cases R with
    | nil e => rw [e] at hf; cases hf
    | @some c g fs b hg hp hn hc hm =>
      have h5 := hm f hf es _ h1 h2
      have h6 : m ≤ pot o ts.length (ts.length + m * o.length) st.a := by
        unfold pot
        split
        · rename_i hle
          have h0 : m * o.length = 0 := by omega
          rcases Nat.mul_eq_zero.mp h0 with z | z <;> omega
        · rw [Nat.add_sub_cancel_left, Nat.mul_div_cancel _ hL]
          exact Nat.le_add_right _ _
      omega
  · intro hlt
    cases R with
    | nil e => omega
    | @some c g fs b hg hp hn hc hm =>
      obtain ⟨p, s, x, _, _, _, _, bb, A⟩ := reach_rounds (ks := ks) (M := m) N h hg hp hn m (by omega) (Nat.le_refl _)
      exact ⟨_, A⟩
end
/-! ### the simple rule -/
inductive Dirt (first : List Int) (ts : List Tr) (evs : List Ev) : Nat → Int → Prop
  | init {a : Int} : a ∈ first → Dirt first ts evs 0 a
  | step {k : Nat} {a : Int} {ev : Ev} : Dirt first ts evs k a → evs[k]? = some ev → ev ≠ .vis a → Dirt first ts evs (k + 1) a
  | car {k : Nat} {e : Tr} : Dirt first ts evs (k + 1) e.s → e ∈ ts.take (k + 1) → Dirt first ts evs (k + 1) e.t
theorem reach_dirt {first : List Int} {ts : List Tr} {evs : List Ev} {k : Nat} {st : St3} (R : Reach first ts evs k st) : Dirt first ts evs k st.a := by
  induction R with
  | init ha => exact .init ha
  | @step k st st' ev R he hs ih =>
    rw [(sb_au hs).1]
    refine ih.step he fun z => ?_
    subst z
    simp [sb] at hs
  | @car k st st' R hc ih =>
    obtain ⟨e, he, es, eu, rfl⟩ := hc
    rw [← es] at ih
    exact ih.car he
end B58
set_option Elab.async false
set_option linter.all false
set_option maxRecDepth 100000
set_option maxHeartbeats 4000000
/-! Rules of our own: sorted of anything gathered. -/
namespace B58
open PySem PySem.Spec PyProof.Rows PySem.Calls L2
section
variable {prog : Program} {w : World} {A : Around} {E : Value → Shared → Prop} {s : Shared}
/-- all that stood stands -/
abbrev Old (h h' : Heap) : Prop := ∀ b o, h.get? b = some o → h'.get? b = some o
/-- what gathers: x's items as vs, whatever stands being kept -/
def Cols (prog : Program) (w : World) (A : Around) (s : Shared) (x : Addr) (Pv : List Value → Prop) : Prop :=
  ∀ (R : List Value → Shared → Prop) (E : Value → Shared → Prop), (∀ (h' : Heap) (tk : Nat) (vs : List Value), Old s.heap h' → Pv vs → R vs { s with heap := h', toks := tk }) → wpAny (model prog w) A (collect (.ref x)) R E s
theorem cols_tup {x : Addr} {vs : List Value} (ht : IsTup s.heap x vs.toArray) (hz : vs.length ≤ sizeLine) : Cols prog w A s x (fun us => us = vs) := by
  intro R E h
  obtain ⟨o, ho, hc, n, hd⟩ := id ht
  unfold collect
  refine wpAny_bind (wpAny_runValue (codeAny_builtin entry_proto_collect' ?_))
  show wpAny _ _ (do again (.builtin "list.__iadd__" ⟨[← newList [], .ref x], []⟩)) _ _ s
  refine wpAny_bind (wpAny_newList (wpAny_pure ⟨Code.quiet_builtin _ (by decide +kernel), codeAny_builtin entry_list_iadd' ?_⟩))
  show wpAny _ _ (Builtin.List.listExtendWith (.ref s.heap.objs.size) (.ref x) (.ref s.heap.objs.size)) _ _ { s with heap := s.heap.push (seqObj "list" #[] 0) }
  unfold Builtin.List.listExtendWith
  have ho' : (s.heap.push (seqObj "list" #[] 0)).get? x = some o := Heap.get?_push_of_some _ ho
  refine wpAny_bind (wpAny_typeOf (T := "tuple") ⟨o, ho', hc⟩ ?_)
  have ht : (Value.type "tuple" == Value.type "tuple") = true := by rfl
  rw [if_pos (by rw [ht]; simp)]
  refine wpAny_bind (listItems_at ho' hd ?_)
  refine wpAny_bind (listItems_at (xs := #[]) (n := 0) (Heap.get?_push_size _ rfl) rfl ?_)
  rw [if_neg (by simp)]
  refine wpAny_bind (listUpdate_at (xs := #[]) (n := 0) (Heap.get?_push_size _ rfl) rfl ?_ (Nat.zero_le _) (by show (#[] ++ vs.toArray).size ≤ sizeLine + 1; simp only [Array.size_append, List.size_toArray, List.length_nil]; omega))
  refine wpAny_pure ?_
  show wpAny (model prog w) A (do
      let o ← load s.heap.objs.size
      match o.data with
      | .seq xs _ => pure xs.toList
      | _ => unsupported "internal:collect") R E { s with heap := (s.heap.push (seqObj "list" #[] 0)).update s.heap.objs.size (Obj.mapSeq (· ++ vs.toArray)) }
  refine wpAny_bind (wpAny_load (get?_update_seq (Heap.get?_push_size _ rfl) _) ?_)
  show wpAny _ _ (pure ((#[] : Array Value) ++ vs.toArray).toList) R E _
  rw [show ((#[] : Array Value) ++ vs.toArray).toList = vs by simp]
  refine wpAny_pure (h _ s.toks vs (fun b u e => ?_) rfl)
  rw [Heap.get?_update_ne _ _ _ _ (Nat.ne_of_lt (Heap.lt_size e))]
  exact Heap.get?_push_of_some _ e
/-- the keys of a dict -/
theorem cols_dict {d : Addr} {es : Array DictEntry} {ep : Nat} (hh : A.handled = none) (hd : (d == sysModules) = false) (hm : s.heap.DictRaw d es ep) (hz : es.size ≤ sizeLine) : Cols prog w A s d (fun us => us = es.toList.map (·.key)) := by
  intro R E h
  refine PySem.W.kdu_collect (PySem.KdlSrc.rawDict (prog := prog) (w := w) (es := es) (ep := ep) hd) hh hm hz fun h' tk acc hk hacc => h h' tk _ hk ?_
  apply List.ext_getElem
  · rw [Array.length_toList, hacc.1, List.length_map, Array.length_toList]
  · intro i h1 h2
    have hi : i < acc.size := by rw [Array.length_toList] at h1; exact h1
    obtain ⟨hi', e⟩ := hacc.2 i _ (Array.getElem?_eq_getElem hi)
    rw [Array.getElem_toList, e, List.getElem_map, Array.getElem_toList]
/-- sorted(x, ..): the items gathered, then list.sort of a new list of them -/
theorem sorted_cols {x : Addr} {kw : List (Str × Value)} {Pv : List Value → Prop} {Q : Value → Shared → Prop} (ha1 : argsOk "sorted" ⟨[.ref x], kw⟩) (ha2 : ∀ y, argsOk "list.sort" ⟨[.ref y], kw⟩)
    (col : Cols prog w A.in1 s x Pv) (hz : ∀ vs, Pv vs → vs.length ≤ sizeLine)
    (body : ∀ (h' : Heap) (tk : Nat) (vs : List Value), Old s.heap h' → Pv vs → ∀ E' : Value → Shared → Prop,
      wpAny (model prog w) A.in1.in1 (Builtin.«list.sort» ⟨[.ref h'.objs.size], kw⟩) (fun f s' => f = .done (.ret .none) ∧ Q (.ref h'.objs.size) s') E' { s with heap := h'.push (seqObj "list" vs.toArray 0), toks := tk }) :
    wpAny (model prog w) A (call (.builtin "sorted") [.ref x] kw) Q E s := by
  refine call_function_entry_kw kind_sorted plain_sorted entry_sorted ha1 ?_
  unfold Builtin.«sorted»
  refine wpAny_bind (m := checkCount "sorted" 1 1 _) (wpAny_pure ?_)
  refine wpAny_bind (col _ _ fun h' tk vs hk hp => ?_)
  refine wpAny_bind (wpAny_newList ?_ (hz vs hp))
  show wpAny _ _ _ _ _ { s with heap := h'.push (seqObj "list" vs.toArray 0), toks := tk }
  refine wpAny_bind (wpAny_holding (wpAny_call_entry_kw slot_list_sort ⟨_, Heap.get?_push_size _ rfl, rfl⟩ entry_list_sort ?body (ha2 _)))
  case body =>
    show wpAny (model prog w) A.in1.in1 (Builtin.«list.sort» ⟨[.ref h'.objs.size], kw⟩) _ _ _
    refine wpAny_mono (body h' tk vs hk hp _) (fun f s' hf => ?_) fun _ _ e => e
    obtain ⟨rfl, hq⟩ := hf
    exact ⟨_, rfl, wpAny_pure ⟨_, rfl, hq⟩⟩
end
/-! ### sorted(t), a tuple of ints -/
def rSortedTI (K : PySem.W.Frag) : List V → Hp → VK → Prop := fun vs H Q => ∃ (a : Addr) (ns : List Int), vs = [V.ref a] ∧ SqT K H a (ns.map V.int) ∧
  ∀ (ns' : List Int) (p : Addr), ns'.Perm ns → ns'.Pairwise (· ≤ ·) → H p = none → Q (.ref p) (upd H p (.lst (ns'.map V.int)))
section
variable {X : Cx}
theorem cr_sortedTI : CallR X (.builtin "sorted") (rSortedTI X.K) := by
  intro pins s σ H vs us Q I r h
  obtain ⟨a, ns, rfl, hs, q⟩ := h
  obtain ⟨its, rv, ht, hz⟩ := I.tuple hs
  rw [Vals.ref1 r]
  have hi := rv.ints
  have hzl : its.length ≤ sizeLine := by rw [← rv.length]; exact hz
  refine sorted_cols (args_sorted1 _) (fun _ => args_list_sort _) (cols_tup ht hzl) (fun vs e => by rw [e]; exact hzl) fun h' tk vs hk e E' => ?_
  subst e
  have hg : (h'.push (seqObj "list" vs.toArray 0)).get? h'.objs.size = some (seqObj "list" vs.toArray 0) := Heap.get?_push_size _ rfl
  refine SrtO.list_sort_ord (s := { s with heap := h'.push (seqObj "list" vs.toArray 0), toks := tk }) SrtO.swo_int hg hzl (fun h2 => SrtO.ints_sortable hi h2) fun out h1 h2 => ⟨rfl, ?_⟩
  obtain ⟨k1, k2, k3⟩ := SrtO.ints_out hi h1 h2
  obtain ⟨ep, he'⟩ := PyProof.Rows.sortedHeap_at (vs := vs) (out := out.toArray) hg
  have hlen : ((out.map SrtO.iv).map V.int).length ≤ sizeLine := by
    rw [List.length_map, k2.length_eq]
    rw [List.length_map] at hz
    exact hz
  have I' := I.kept (t' := tk) hk
  exact ⟨.ref _, upd H h'.objs.size (.lst ((out.map SrtO.iv).map V.int)), I'.laid (t' := tk) (fun b u e => by
    rw [PyProof.Rows.sortedHeap_old (Nat.ne_of_lt (Heap.lt_size e)) (by rw [Heap.size_push]; exact Nat.lt_succ_of_lt (Heap.lt_size e))]
    exact Heap.get?_push_of_some _ e) (Nat.le_refl _) ⟨hlen, out, ep, vals_of_ints k1, he'⟩, rfl, q _ _ k2 k3 (I'.hok.fresh (Nat.le_refl _))⟩
end
end B58
set_option Elab.async false
set_option linter.all false
set_option maxRecDepth 100000
set_option maxHeartbeats 4000000
/-! Rules of our own: a comprehension's block in general; sets of ints as lists of their members. -/
namespace B58
open PySem PySem.Spec PyProof.Rows PySem.Calls L2
/-! ### a block of one clause, whatever it gathers into -/
/-- mk: what stands at the new thing's address at first; B: what is asked where an element is put in -/
def tBk (mk : Addr → HO) (wi : TI) (g : TG) (tt : TT) (B : Addr → (Hp → Prop) → L2.St → Hp → Prop) (vs : List Nat) : TE := fun σ H Q => wi σ H fun J H1 => ∀ D, H1 D = none → ∃ W : Nat → Nat → Hp → Prop, (∃ m, W 0 m (upd H1 D (mk D))) ∧ ∀ i m H, W i m H →
  (J.stop i H ∧ Q (.ref D) H) ∨ (J.go i H ∧ ∃ Nx : Hp → Prop, (∀ H', Nx H' → ∃ m', m' < m ∧ W (i + 1) m' H') ∧ ∀ x H', J.yld i H x H' → g x (wipe σ vs) H' fun σ2 H2 => wipe σ2 vs = wipe σ vs ∧ tt σ2 H2 fun b H3 =>
    if b = true then B D Nx σ2 H3 else Nx H3)
/-- by a walk -/
theorem bk_it {J : It} {n : Nat} {G : Hp → Prop} {Y : Nat → Hp → V → Hp → Prop} (w : Walk J n G Y) {g : TG} {tt : TT} {B : Addr → (Hp → Prop) → L2.St → Hp → Prop} {vs : List Nat} {σ : L2.St} {Hs : Hp} {D : Addr} {Qd : Hp → Prop} (Pv : Nat → Hp → Prop) (h0 : Pv 0 Hs) (hG : ∀ i H, i ≤ n → Pv i H → G H)
    (hs : ∀ i x H H', i < n → Pv i H → Y i H x H' → g x (wipe σ vs) H' fun σ2 H2 => wipe σ2 vs = wipe σ vs ∧ tt σ2 H2 fun b H3 => if b = true then B D (Pv (i + 1)) σ2 H3 else Pv (i + 1) H3) (hd : ∀ H, Pv n H → Qd H) :
    ∃ W : Nat → Nat → Hp → Prop, (∃ m, W 0 m Hs) ∧ ∀ i m H, W i m H →
      (J.stop i H ∧ Qd H) ∨ (J.go i H ∧ ∃ Nx : Hp → Prop, (∀ H', Nx H' → ∃ m', m' < m ∧ W (i + 1) m' H') ∧ ∀ x H', J.yld i H x H' → g x (wipe σ vs) H' fun σ2 H2 => wipe σ2 vs = wipe σ vs ∧ tt σ2 H2 fun b H3 =>
        if b = true then B D Nx σ2 H3 else Nx H3) := by
  refine ⟨fun i m H => m = n - i ∧ i ≤ n ∧ Pv i H, ⟨n, (Nat.sub_zero n).symm, Nat.zero_le _, h0⟩, ?_⟩
  rintro i m H ⟨em, hi, p⟩
  have q := hG i H hi p
  rcases Nat.lt_or_ge i n with hlt | hge
  · refine .inr ⟨w.goes i H hlt q, Pv (i + 1), fun H' p' => ⟨n - (i + 1), by omega, rfl, hlt, p'⟩, fun x H' y => ?_⟩
    exact hs i x H H' hlt p (w.yields i H x H' hlt q y)
  · obtain rfl : i = n := Nat.le_antisymm hi hge
    exact .inl ⟨w.stops H q, hd H p⟩
/-- the kind of a comprehension, as its rules know it: fresh lays the new thing, elem puts an element in -/
structure BkKind (X : Cx) (comp : Expr) (tg iter : Expr) (ifs : List Expr) (newAcc : Sem Value) (mk : Addr → HO) (o0 : Obj) (EL : Addr → Env → (Shared → Prop) → Shared → Prop) : Prop where
  clauses : clausesOf comp = [⟨tg, iter, ifs, 0⟩]
  fresh : ∀ (s : Shared) (E : Value → Shared → Prop) (Q : Value → Shared → Prop), Q (.ref s.heap.objs.size) { s with heap := s.heap.push o0 } → wpAny (model X.prog X.w) X.A newAcc Q E s
  new : ∀ (H : Hp) (h : Heap), sysModules < h.objs.size → ObjOk X.prog X.w H (h.push o0) h.objs.size (mk h.objs.size)
  loop : ∀ {R : Result → Shared → Prop} {s : Shared} {it : Value} {D : Addr} {env : Env} (I : Nat → Shared → Prop) (E0 : Value → Shared → Prop),
    (∀ e s', E0 e s' → notedBy (model X.prog X.w) X.A env (fun e s' => R (.error e) s') e s') →
    (∀ n s, I n s → wpAny (model X.prog X.w) X.A (pyNext it) (fun r s₁ => match r with
      | none => R (.ok .next) s₁
      | some v => wpAny (model X.prog X.w) X.A (letOwnedTupleGo tg it v) (fun _ s₁' => wpAny (model X.prog X.w) X.A (assign tg env v) (fun _ s₂ =>
          wpAny (model X.prog X.w) X.A (forIn ifs true fun c r => if r = true then do let ok ← isTrue c env (eval c env); pure (ForInStep.yield ok) else pure (ForInStep.yield r)) (fun ok s₃ =>
            if ok = true then EL D env (fun s' => ∃ m, m < n ∧ I m s') s₃ else ∃ m, m < n ∧ I m s₃) E0 s₂) E0 s₁') E0 s₁) E0 s) →
    ∀ (n : Nat), I n s → codeAny (model X.prog X.w) X.A (.compLoop comp 0 it (.ref D) env) R s
  start : ∀ {R : Result → Shared → Prop} {s : Shared} {it acc : Value} {env : Env}, codeAny (model X.prog X.w) X.A (.compLoop comp 0 it acc env) R s →
    wpAny (model X.prog X.w) X.A (pyIter it) (fun it' s' => codeAny (model X.prog X.w) X.A (.compLoop comp 0 it' acc env) R s') (notedBy (model X.prog X.w) X.A env fun x s' => R (.error x) s') s → codeAny (model X.prog X.w) X.A (.compStart comp 0 it acc env) R s
/-- an element's part, in the block's context -/
def BkElem (X : Cx) (EL : Addr → Env → (Shared → Prop) → Shared → Prop) (B : Addr → (Hp → Prop) → L2.St → Hp → Prop) : Prop :=
  ∀ (D : Addr) (pins : List (Addr × Obj)) (s : Shared) (σ : L2.St) (H : Hp) (Nx : Hp → Prop) (K : Shared → Prop), Inv X pins σ H s → B D Nx σ H → (∀ s' H', Inv X pins σ H' s' → Nx H' → K s') → EL D X.env K s
section
variable {X : Cx}
theorem bk_core {pins : List (Addr × Obj)} {s : Shared} {σ : L2.St} {H : Hp} {Q : VK} {comp tg iter : Expr} {ifs : List Expr} {scope : Scope} {own : List (Str × Nat)} {pos' : Pos} {wi : TI} {g : TG} {tt : TT} {newAcc : Sem Value} {mk : Addr → HO} {o0 : Obj}
    {EL : Addr → Env → (Shared → Prop) → Shared → Prop} {B : Addr → (Hp → Prop) → L2.St → Hp → Prop} {Qf : Value → Shared → Prop} (kd : BkKind X comp tg iter ifs newAcc mk o0 EL)
    (hc : X.calm = true) (hN : X.N.Nodup) (I : Inv X pins σ H s) (hi : PI X tg iter wi) (ok : BlkOk X.N X.env.scope scope own)
    (hg : ∀ (s : Shared) (H : Hp) (C : Addr) (cl : List (Str × Addr)) (fp : List Addr), PG (X.blk s H scope (compEnvC scope cl C X.env) fp) tg g)
    (ht : ∀ (s : Shared) (H : Hp) (C : Addr) (cl : List (Str × Addr)) (fp : List Addr), PTs (X.blk s H scope (compEnvC scope cl C X.env) fp) ifs tt)
    (he : ∀ (s : Shared) (H : Hp) (C : Addr) (cl : List (Str × Addr)) (fp : List Addr), BkElem (X.blk s H scope (compEnvC scope cl C X.env) fp) EL B)
    (hs : ∀ x, foldedSetIterable iter X.env x = pure x) (h : tBk mk wi g tt B (own.map (·.2)) σ H Q)
    (hRR : ∀ D C s' m H', Inv X pins σ H' s' → Q (.ref D) H' → s'.heap.Ns C m → FpOk X pins H' C → compPost (model X.prog X.w) X.A X.xe none Qf (.ref D) C (.ok .next) s') :
    wpAny (model X.prog X.w) X.A (comprehension comp scope X.env pos' newAcc false (eval iter X.env)) Qf X.xe s := by
  have hcap : ∀ y ∈ scope.names, y.2 = .free → ∃ c, X.env.cells.lookup y.1 = some c := fun y hy e => (ok.free y hy e).elim (fun k => I.ok.has _ (.inl k)) fun k => I.ok.has _ (.inr k)
  refine wpAny_comprehension_free (use := none) kd.clauses hs (closure_ok hcap) ok.kind (fun y hy e => (ok.uniq y hy).trans (congrArg some e)) (thn (hi.run pins s σ H _ I h) fun xv s1 hx => thn hx fun itv s2 h2 => ?_)
  obtain ⟨it, fp, tn, J, H2, rfl, I2, T, st2, f2, q⟩ := h2
  refine kd.fresh s2 _ _ (newEnv_comp ?_)
  have hDn : H2 s2.heap.objs.size = none := I2.hok.fresh (Nat.le_refl _)
  generalize hD : s2.heap.objs.size = D at hDn ⊢
  obtain ⟨W, ⟨m0, w0⟩, turn⟩ := q D hDn
  -- the new thing
  generalize hs3 : ({ s2 with heap := s2.heap.push o0 } : Shared) = s3
  generalize hH3 : upd H2 D (mk D) = H3 at w0
  have h3 : s3.heap = s2.heap.push o0 := by rw [← hs3]
  have I3 : Inv X pins σ H3 s3 := by
    rw [← hs3, ← hH3]
    have nw := kd.new (upd H2 D (mk D)) s2.heap I2.big
    rw [hD] at nw
    exact I2.laid (t' := s2.toks) (fun b o e => Heap.get?_push_of_some _ e) (Nat.le_of_eq hD) nw
  have fp3 : ∀ b ∈ fp, FpOk X pins H3 b ∧ b < s3.heap.objs.size := fun b hb => by
    obtain ⟨o, e, _⟩ := T.obj _ _ st2 b hb
    have hlt : b < D := by rw [← hD]; exact Heap.lt_size e
    refine ⟨⟨?_, (f2 b hb).2⟩, by rw [h3, Heap.size_push, hD]; exact Nat.lt_succ_of_lt hlt⟩
    rw [← hH3, upd_ne (Nat.ne_of_lt hlt)]
    exact (f2 b hb).1
  have st3 : tn 0 s3.heap := T.keep _ _ _ st2 fun b _ o e => by rw [h3]; exact Heap.get?_push_of_some _ e
  have I4 := block_start I3 ok hN fp3
  have pg := hg s3 H3 s3.heap.objs.size (cellsFrom (s3.heap.objs.size + 1) scope.names (cloFrom X.env.cells scope.names [])) fp
  have pt := ht s3 H3 s3.heap.objs.size (cellsFrom (s3.heap.objs.size + 1) scope.names (cloFrom X.env.cells scope.names [])) fp
  have pe := he s3 H3 s3.heap.objs.size (cellsFrom (s3.heap.objs.size + 1) scope.names (cloFrom X.env.cells scope.names [])) fp
  show codeAny _ _ (.compStart comp 0 (.ref it) (.ref D) (compEnvC scope (cellsFrom (s3.heap.objs.size + 1) scope.names (cloFrom X.env.cells scope.names [])) s3.heap.objs.size X.env)) (compPost (model X.prog X.w) X.A X.xe none Qf (.ref D) s3.heap.objs.size) { s3 with heap := pushCells (s3.heap.push { cls := .type "dict", data := .dict #[] }) scope.names }
  generalize hce : compEnvC scope (cellsFrom (s3.heap.objs.size + 1) scope.names (cloFrom X.env.cells scope.names [])) s3.heap.objs.size X.env = ce at I4 pg pt pe ⊢
  have cL : ce.locals = s3.heap.objs.size := by rw [← hce] <;> rfl
  generalize hs4 : ({ s3 with heap := pushCells (s3.heap.push { cls := .type "dict", data := .dict #[] }) scope.names } : Shared) = s4 at I4 ⊢
  have st4 : tn 0 s4.heap := T.keep _ _ _ st3 fun b _ o e => by rw [← hs4]; exact pushCells_keeps _ _ _ _ (Heap.get?_push_of_some _ e)
  have nfp : ∀ b ∈ fp, H3 b = none := fun b hb => (fp3 b hb).1.1
  have stat : ∀ {σ' : L2.St} {H' : Hp} {s' : Shared}, Inv (X.blk s3 H3 scope ce fp) [] σ' H' s' → (∀ b ∈ fp, H' b = none) → ∀ b ∈ fp, FpOk (X.blk s3 H3 scope ce fp) [] H' b := fun {σ' H' s'} I' hn b hb =>
    ⟨hn b hb, (I'.ok.exf b hb).1, I'.ok.exfs b hb, .inl hb, (I'.ok.exf b hb).2, fun p hp => absurd (show p ∈ ([] : List (Addr × Obj)) ++ [] from hp) (by simp)⟩
  have loop : codeAny (model X.prog X.w) X.A (.compLoop comp 0 (.ref it) (.ref D) ce) (compPost (model X.prog X.w) X.A X.xe none Qf (.ref D) s3.heap.objs.size) s4 := by
    refine kd.loop (fun n s' => ∃ i H', Inv (X.blk s3 H3 scope ce fp) [] (wipe σ (own.map (·.2))) H' s' ∧ tn i s'.heap ∧ (∀ b ∈ fp, H' b = none) ∧ W i n H') (fun _ _ => False) (fun _ _ z => z.elim) ?_ m0 ⟨0, H3, I4, st4, nfp, w0⟩
    rintro n s5 ⟨i, H5, I5, st5, n5, w5⟩
    rcases turn i n H5 w5 with ⟨stop, qq⟩ | ⟨go, Nx, hNx, step⟩
    · refine thn (T.done (X.blk s3 H3 scope ce fp) rfl rfl rfl hc i [] s5 _ H5 (fun _ _ => False) I5 (stat I5 n5) st5 stop) fun r s6 ⟨hr, I6⟩ => ?_
      subst hr
      -- in the def's context again
      have I7 : Inv X pins σ H5 s6 := I3.call' (ch := fp) I6.os I6.base I6.hok I6.bare fun b hb => ⟨(fp3 b hb).1.2.2.2.1, (fp3 b hb).1.2.1, (fp3 b hb).1.2.2.2.2.1, (fp3 b hb).1.2.2.2.2.2⟩
      obtain ⟨m, hn, _⟩ := I6.loc
      have hn' : s6.heap.Ns s3.heap.objs.size m := by rw [← cL]; exact hn
      have nC : H5 s3.heap.objs.size = none := by rw [← cL]; exact I6.free
      exact hRR D s3.heap.objs.size s6 m H5 I7 qq hn' (I3.fpOk (Nat.le_refl _) nC)
    · refine thn (T.item (X.blk s3 H3 scope ce fp) rfl rfl rfl hc i [] s5 _ H5 (fun _ _ => False) I5 (stat I5 n5) st5 go) fun r s6 ⟨u, hr, h6⟩ => ?_
      subst hr
      refine thn h6 fun _ s7 ⟨x, H7, I7, r7, y7, st7, n7⟩ => ?_
      have I7' := I7.pinned (stat I7 n7) (T.obj _ _ st7)
      refine thn (pg.run _ s7 _ H7 x u _ I7' r7 (step x H7 y7)) fun _ s8 ⟨σ8, H8, I8, hw8, q8⟩ => ?_
      refine thn (pt.run _ s8 σ8 H8 _ I8 q8) fun b s9 ⟨H9, I9, q9⟩ => ?_
      -- a turn's end
      have fin : ∀ (s' : Shared) (H' : Hp), Inv (X.blk s3 H3 scope ce fp) ([] ++ pinsAt fp s7.heap) σ8 H' s' → Nx H' → ∃ m, m < n ∧ ∃ i H', Inv (X.blk s3 H3 scope ce fp) [] (wipe σ (own.map (·.2))) H' s' ∧ tn i s'.heap ∧ (∀ b ∈ fp, H' b = none) ∧ W i m H' := fun s' H' I' nx => by
        obtain ⟨m', hm, w'⟩ := hNx H' nx
        have pinned : ∀ b ∈ fp, ∀ o, s7.heap.get? b = some o → s'.heap.get? b = some o ∧ H' b = none := fun b hb o e =>
          let z := I'.pin (b, o) (List.mem_append_right _ (List.mem_append_right _ (mem_pinsAt hb e)))
          ⟨z.1, z.2.1⟩
        refine ⟨m', hm, i + 1, H', (I'.unpinned (pins := [])).weak (by rw [← hw8, wipe_length]) (fun j v e => ?_), T.keep _ _ _ st7 fun b hb o e => (pinned b hb o e).1, fun b hb => ?_, w'⟩
        · rw [← hw8] at e
          exact (wipe_some e).1
        · obtain ⟨o, e, _⟩ := T.obj _ _ st7 b hb
          exact (pinned b hb o e).2
      cases b with
      | false =>
        rw [if_neg Bool.false_ne_true] at q9 ⊢
        exact fin s9 H9 I9 q9
      | true =>
        rw [if_pos rfl] at q9 ⊢
        exact pe D _ s9 σ8 H9 Nx _ I9 q9 fin
  exact kd.start loop (T.self X.A 0 _ _ _ st4 loop)
/-- a comprehension as a value -/
theorem pe_bk {comp tg iter : Expr} {ifs : List Expr} {scope : Scope} {own : List (Str × Nat)} {pos' : Pos} {wi : TI} {g : TG} {tt : TT} {newAcc : Sem Value} {mk : Addr → HO} {o0 : Obj} {EL : Addr → Env → (Shared → Prop) → Shared → Prop} {B : Addr → (Hp → Prop) → L2.St → Hp → Prop}
    (kd : BkKind X comp tg iter ifs newAcc mk o0 EL) (hev : eval comp X.env = comprehension comp scope X.env pos' newAcc false (eval iter X.env)) (hc : X.calm = true) (hN : X.N.Nodup) (hi : PI X tg iter wi) (ok : BlkOk X.N X.env.scope scope own)
    (hg : ∀ (s : Shared) (H : Hp) (C : Addr) (cl : List (Str × Addr)) (fp : List Addr), PG (X.blk s H scope (compEnvC scope cl C X.env) fp) tg g)
    (ht : ∀ (s : Shared) (H : Hp) (C : Addr) (cl : List (Str × Addr)) (fp : List Addr), PTs (X.blk s H scope (compEnvC scope cl C X.env) fp) ifs tt)
    (he : ∀ (s : Shared) (H : Hp) (C : Addr) (cl : List (Str × Addr)) (fp : List Addr), BkElem (X.blk s H scope (compEnvC scope cl C X.env) fp) EL B)
    (hs : ∀ x, foldedSetIterable iter X.env x = pure x) : PE X comp (tBk mk wi g tt B (own.map (·.2))) := by
  refine ⟨fun pins s σ H Q I h => ?_⟩
  rw [hev]
  refine bk_core kd hc hN I hi ok hg ht he hs h fun D C s' m H' I' q hn f => ⟨m, hn, fun h'' sb => ?_⟩
  exact ⟨.ref D, H', I'.turned (t' := s'.toks) (fun b o hb e => (sb.2 b hb).trans e) f.1 f.2.1 f.2.2.2.1 f.2.2.2.2.1 f.2.2.2.2.2, rfl, q⟩
end
/-! ### sets of ints, by their members -/
def insL (l : List Int) (c : Int) : List Int := if c ∈ l then l else l ++ [c]
theorem insL_nodup {l : List Int} (h : l.Nodup) (c : Int) : (insL l c).Nodup := by
  unfold insL
  split
  · exact h
  · rename_i hc
    rw [List.nodup_append]
    exact ⟨h, List.nodup_cons.mpr ⟨(fun z => nomatch z), List.nodup_nil⟩, fun a ha b hb e => hc (by rw [List.mem_singleton.mp hb] at e; exact e ▸ ha)⟩
theorem mem_insL {l : List Int} {c x : Int} : x ∈ insL l c ↔ x ∈ l ∨ x = c := by
  unfold insL
  split
  · rename_i hc
    exact ⟨.inl, fun h => h.elim id fun e => e ▸ hc⟩
  · rw [List.mem_append, List.mem_singleton]
theorem insL_length (l : List Int) (c : Int) : (insL l c).length ≤ l.length + 1 := by
  unfold insL
  split
  · exact Nat.le_succ _
  · rw [List.length_append]
    exact Nat.le_refl _
theorem insL_new {l : List Int} {c : Int} (h : c ∉ l) : insL l c = l ++ [c] := if_neg h
/-- the set at a has the members l, each once -/
def SetL (w : World) (a : Addr) (l : List Int) : HO := SetO w a (fun j => decide (j ∈ l)) l.length
theorem setL_nil (w : World) (a : Addr) : SetL w a [] = SetO w a (fun _ => false) 0 := by
  unfold SetL
  congr 1
theorem setL_add (w : World) (a : Addr) (l : List Int) (c : Int) : SetO w a (fun j => decide (j ∈ l) || decide (j = c)) (if (decide (c ∈ l)) = true then l.length else l.length + 1) = SetL w a (insL l c) := by
  unfold SetL
  congr 1
  · funext j
    rw [show decide (j ∈ insL l c) = decide (j ∈ l ∨ j = c) from decide_eq_decide.mpr mem_insL]
    by_cases h1 : j ∈ l <;> by_cases h2 : j = c <;> simp [h1, h2]
  · unfold insL
    by_cases h : c ∈ l
    · rw [if_pos (decide_eq_true h), if_pos h]
    · rw [if_neg (by simpa using h), if_neg h, List.length_append]
      rfl
section
variable {X : Cx}
def elSet (X : Cx) (elt : Expr) (D : Addr) (env : Env) (K : Shared → Prop) (s : Shared) : Prop :=
  wpAny (model X.prog X.w) X.A (eval elt env) (fun x s4 => wpAny (model X.prog X.w) X.A (call (.builtin "set.add") [.ref D, x]) (fun _ s5 => K s5) (fun _ _ => False) s4) (fun _ _ => False) s
theorem kd_set {elt tg iter : Expr} {ifs : List Expr} {scope : Scope} {pos : Pos} :
    BkKind X (.SetComp elt [⟨tg, iter, ifs, 0⟩] scope pos) tg iter ifs (newSet (.type "set")) (fun a => SetL X.w a []) { cls := .type "set", dict := none, data := .set #[] 0 (.fresh 0 0 (!X.w.params.followText "set-order")) } (elSet X elt) where
  clauses := rfl
  fresh := fun s E Q h => PpSet.newSet_ok h
  new := fun H h _ => by
    show ObjOk X.prog X.w H _ h.objs.size (SetL X.w h.objs.size [])
    rw [setL_nil]
    exact setO_new (setR_fresh X.w)
  loop := fun {R s it D env} I E0 hE turn n h => by
    refine PpSet.compLoopS_any I (fun n s hI => ?_) n h
    refine wpAny_mono (turn n s hI) (fun r s₁ h₁ => ?_) hE
    cases r with
    | none => exact h₁
    | some v =>
      refine wpAny_mono h₁ (fun _ s₁' h₁' => wpAny_mono h₁' (fun _ s₂ h₂ => wpAny_mono h₂ (fun ok s₃ h₃ => ?_) hE) hE) hE
      cases ok with
      | false => exact h₃
      | true =>
        rw [if_pos rfl] at h₃ ⊢
        exact wpAny_mono h₃ (fun x s4 h4 => wpAny_mono h4 (fun _ _ k => k) fun _ _ z => z.elim) fun _ _ z => z.elim
  start := fun h0 h => PpSet.codeAny_compStart_set h0 h
/-- an element put into a set -/
def bSet (w : World) (te : TE) : Addr → (Hp → Prop) → L2.St → Hp → Prop := fun D Nx σ H => te σ H fun y H4 => ∃ (c : Int) (l : List Int), y = .int c ∧ H4 D = some (SetL w D l) ∧ l.length + 1 < scanBound ∧ Nx (upd H4 D (SetL w D (insL l c)))
theorem el_set {elt : Expr} {te : TE} {X' : Cx} (hp : X'.prog = X.prog) (hw : X'.w = X.w) (hA : X'.A = X.A) (hx : X'.xe = fun _ _ => False) (he : PE X' elt te) : BkElem X' (elSet X elt) (bSet X.w te) := by
  intro D pins s σ H Nx K I hB hK
  unfold elSet
  have hr := he.run pins s σ H _ I hB
  rw [hp, hw, hA, hx] at hr
  refine wpAny_mono hr (fun x s4 h4 => ?_) fun _ _ z => z
  obtain ⟨yv, H4, I4, r4, c, l, ey, hD, hz, nx⟩ := h4
  subst ey
  have ha := mt_sadd (X := X') pins s4 σ H4 (.ref D) [.int c] (.ref D) [x] (fun _ H' => H' = upd H4 D (SetL X.w D (insL l c))) I4 rfl (.cons r4 .nil)
    ⟨D, c, _, _, rfl, rfl, by rw [hw]; exact hD, hz, by rw [hw]; exact congrArg (upd H4 D) (setL_add X.w D l c)⟩
  rw [hp, hw, hA, hx] at ha
  refine wpAny_mono ha (fun x5 s5 h5 => ?_) fun _ _ z => z
  obtain ⟨v5, H5, I5, _, e5⟩ := h5
  exact hK s5 H5 I5 (by rw [e5]; exact nx)
/-- {elt for target in iter if ..} of ints -/
theorem pe_scI {elt tg iter : Expr} {ifs : List Expr} {scope : Scope} {own : List (Str × Nat)} {pos : Pos} {wi : TI} {g : TG} {tt : TT} {te : TE} (hc : X.calm = true) (hN : X.N.Nodup) (hi : PI X tg iter wi) (ok : BlkOk X.N X.env.scope scope own)
    (hg : ∀ (s : Shared) (H : Hp) (C : Addr) (cl : List (Str × Addr)) (fp : List Addr), PG (X.blk s H scope (compEnvC scope cl C X.env) fp) tg g)
    (ht : ∀ (s : Shared) (H : Hp) (C : Addr) (cl : List (Str × Addr)) (fp : List Addr), PTs (X.blk s H scope (compEnvC scope cl C X.env) fp) ifs tt)
    (he : ∀ (s : Shared) (H : Hp) (C : Addr) (cl : List (Str × Addr)) (fp : List Addr), PE (X.blk s H scope (compEnvC scope cl C X.env) fp) elt te)
    (hs : ∀ x, foldedSetIterable iter X.env x = pure x := by intro _; rfl) : PE X (.SetComp elt [⟨tg, iter, ifs, 0⟩] scope pos) (tBk (fun a => SetL X.w a []) wi g tt (bSet X.w te) (own.map (·.2))) :=
  pe_bk (pos' := firstIterPos [⟨tg, iter, ifs, 0⟩] pos) kd_set rfl hc hN hi ok hg ht (fun s H C cl fp => el_set (X := X) (X' := X.blk s H scope (compEnvC scope cl C X.env) fp) rfl rfl rfl rfl (he s H C cl fp)) hs
/-- len(a set) -/
def rLenSetL (w : World) : List V → Hp → VK → Prop := fun vs H Q => ∃ (a : Addr) (l : List Int), vs = [V.ref a] ∧ H a = some (SetL w a l) ∧ Q (.int l.length) H
theorem cr_lenSetL : CallR X (.builtin "len") (rLenSetL X.w) := by
  intro pins s σ H vs us Q I r h
  obtain ⟨a, l, rfl, ha, q⟩ := h
  rw [Vals.ref1 r]
  obtain ⟨o, es, ep, t, ho, hx, hd, _, _, _, hb, hf, hn, _⟩ := setO_get I ha
  exact call_len_set ho hx hd hf (by unfold scanBound at hb; omega) ⟨.int l.length, H, I.tok _, ⟨_, by rw [hn]⟩, q⟩
end
end B58
set_option Elab.async false
set_option linter.all false
set_option maxRecDepth 100000
set_option maxHeartbeats 4000000
/-! Rules of our own: dicts whose keys are states (area, used, bound), their values objects. -/
namespace B58
open PySem PySem.Spec PyProof.Rows PySem.Calls L2
/-! ### states as keys -/
def keyS (st : St3) : NestedKey := .tup [.num st.a, .tup (st.u.map .num), .tup (st.b.map .num)]
theorem num_map_inj : ∀ {l m : List Int}, l.map NestedKey.num = m.map NestedKey.num → l = m
  | [], [], _ => rfl
  | [], _ :: _, h => nomatch h
  | _ :: _, [], h => nomatch h
  | x :: l, y :: m, h => by
    rw [List.map_cons, List.map_cons] at h
    injection h with h1 h2
    injection h1 with h1
    rw [h1, num_map_inj h2]
theorem keyS_inj {st st' : St3} (h : keyS st = keyS st') : st = st' := by
  unfold keyS at h
  injection h with h
  injection h with h1 h
  injection h with h2 h
  injection h with h3 _
  injection h1 with h1
  injection h2 with h2
  injection h3 with h3
  have e2 := num_map_inj h2
  have e3 := num_map_inj h3
  cases st
  cases st'
  simp only at h1 e2 e3
  rw [h1, e2, e3]
theorem depthAll_nums : ∀ l : List Int, NestedKey.depthAll (l.map .num) = 0
  | [] => by rw [List.map_nil, NestedKey.depthAll]
  | x :: l => by rw [List.map_cons, NestedKey.depthAll, NestedKey.depth, depthAll_nums l]; rfl
theorem keyS_depth (st : St3) : (keyS st).depth ≤ 8 := by
  unfold keyS
  simp [NestedKey.depth, NestedKey.depthAll, depthAll_nums]
/-- at ka stands the state's tuple -/
def StAt (H : Hp) (ka : Addr) (st : St3) : Prop := ∃ pu pb, H ka = some (.tup [.int st.a, .ref pu, .ref pb]) ∧ H pu = some (.tup (st.u.map V.int)) ∧ H pb = some (.tup (st.b.map V.int))
theorem StAt.keeps {H H' : Hp} {ka : Addr} {st : St3} (s : StAt H ka st) (k : ∀ b xs, H b = some (.tup xs) → H' b = some (.tup xs)) : StAt H' ka st := by
  obtain ⟨pu, pb, h1, h2, h3⟩ := s
  exact ⟨pu, pb, k _ _ h1, k _ _ h2, k _ _ h3⟩
theorem map_int_inj : ∀ {l m : List Int}, l.map V.int = m.map V.int → l = m
  | [], [], _ => rfl
  | [], _ :: _, h => nomatch h
  | _ :: _, [], h => nomatch h
  | x :: l, y :: m, h => by
    rw [List.map_cons, List.map_cons] at h
    injection h with h1 h2
    injection h1 with h1
    rw [h1, map_int_inj h2]
theorem StAt.inj {H : Hp} {ka : Addr} {st st' : St3} (s : StAt H ka st) (s' : StAt H ka st') : st = st' := by
  obtain ⟨pu, pb, h1, h2, h3⟩ := s
  obtain ⟨pu', pb', h1', h2', h3'⟩ := s'
  have e1 := HO.tup.inj (Option.some.inj (h1.symm.trans h1'))
  simp only [List.cons.injEq, V.int.injEq, V.ref.injEq, and_true] at e1
  obtain ⟨e1, ep, eq⟩ := e1
  rw [← ep, h2] at h2'
  rw [← eq, h3] at h3'
  have e2 := map_int_inj (HO.tup.inj (Option.some.inj h2'))
  have e3 := map_int_inj (HO.tup.inj (Option.some.inj h3'))
  cases st
  cases st'
  simp only at e1 e2 e3
  rw [e1, e2, e3]
theorem nested_ints {h : Heap} : ∀ {l : List Int} {us : List Value}, Vals (l.map V.int) us → NestedAll h (l.map .num) us
  | [], _, .nil => .nil
  | x :: l, _, .cons r t => by
    obtain ⟨tk, rfl⟩ := r
    exact .cons (.int x tk) (nested_ints t)
theorem tup_at {P : Program} {w : World} {H : Hp} {h : Heap} {a : Addr} {xs : List V} (ok : HOk P w H h) (e : H a = some (.tup xs)) : ∃ (us : List Value) (o : Obj) (n : Nat), Vals xs us ∧ h.get? a = some o ∧ o.cls = .type "tuple" ∧ o.data = .seq us.toArray n := by
  obtain ⟨_, its, r, o, h1, h2, n, h3⟩ := (show ObjOk P w H h a (.tup xs) from ok a _ e)
  exact ⟨its, o, n, r, h1, h2, h3⟩
theorem nested_tup {P : Program} {w : World} {H : Hp} {h : Heap} {a : Addr} {l : List Int} (ok : HOk P w H h) (e : H a = some (.tup (l.map V.int))) : NestedIs h (.tup (l.map .num)) (.ref a) := by
  obtain ⟨us, o, n, r, h1, h2, h3⟩ := tup_at ok e
  exact .tup h1 h2 h3 (by simpa using nested_ints r)
theorem StAt.is {P : Program} {w : World} {H : Hp} {h : Heap} {ka : Addr} {st : St3} (ok : HOk P w H h) (s : StAt H ka st) : (nestedKind P w).is h (keyS st) ka := by
  obtain ⟨pu, pb, e1, e2, e3⟩ := s
  obtain ⟨us, o, n, r, h1, h2, h3⟩ := tup_at ok e1
  refine ⟨?_, keyS_depth st⟩
  cases r with
  | cons r1 r =>
    cases r with
    | cons r2 r =>
      cases r with
      | cons r3 r =>
        cases r
        obtain ⟨tk, rfl⟩ := r1
        cases r2
        cases r3
        exact .tup h1 h2 h3 (.cons (.int _ _) (.cons (nested_tup ok e2) (.cons (nested_tup ok e3) .nil)))
/-! ### the dict as a tracked thing: state, its tuple, the value's object -/
abbrev EnW : Type := St3 × Addr × Addr
def entW (e : EnW) : NestedKey × Addr × Value := (keyS e.1, e.2.1, .ref e.2.2)
def WDat (P : Program) (w : World) (h : Heap) (d : Addr) (L : List EnW) : Prop :=
  ∃ o es ep, h.get? d = some o ∧ o.ExactDict ∧ o.data = .dict es ep ∧ es.toList = (L.map entW).map (entryOfKey (nestedKind P w)) ∧ (L.map fun e => e.1).Nodup ∧ L.length ≤ sizeLine ∧ (d == sysModules) = false
def WD (P : Program) (w : World) (d : Addr) (L : List EnW) : HO := .ext fun h => WDat P w h d L
theorem WD.ok {P : Program} {w : World} {H : Hp} {h : Heap} {d : Addr} {L : List EnW} (x : WDat P w h d L) : ObjOk P w H h d (WD P w d L) := by
  have ⟨o, _, _, ho, _⟩ := x
  exact ⟨x, ⟨o, ho⟩, fun h1 h2 ⟨o, es, ep, e, r⟩ k => ⟨o, es, ep, k o e, r⟩⟩
theorem WD.get {P : Program} {w : World} {H : Hp} {h : Heap} {d : Addr} {L : List EnW} (ok : HOk P w H h) (r : Rd H d (WD P w d L)) : WDat P w h d L := (r.ok ok).1
/-- the entries' states stand -/
def EnAt (H : Hp) (L : List EnW) : Prop := ∀ e ∈ L, StAt H e.2.1 e.1
theorem EnAt.keeps {H H' : Hp} {L : List EnW} (s : EnAt H L) (k : ∀ b xs, H b = some (.tup xs) → H' b = some (.tup xs)) : EnAt H' L := fun e he => (s e he).keeps k
theorem EnAt.nil (H : Hp) : EnAt H [] := fun _ h => nomatch h
theorem EnAt.snoc {H : Hp} {L : List EnW} {st : St3} {ka va : Addr} (s : EnAt H L) (h : StAt H ka st) : EnAt H (L ++ [(st, ka, va)]) := fun e he => by
  rcases List.mem_append.mp he with he | he
  · exact s e he
  · rw [List.mem_singleton.mp he]
    exact h
def getW (L : List EnW) (st : St3) : Option (Addr × Addr) := (L.find? fun e => decide (e.1 = st)).map fun e => e.2
theorem getW_mem {L : List EnW} {st : St3} {p : Addr × Addr} (h : getW L st = some p) : (st, p) ∈ L := by
  unfold getW at h
  cases e : L.find? fun e => decide (e.1 = st) with
  | none => rw [e] at h; cases h
  | some x =>
    rw [e] at h
    have h1 := List.mem_of_find?_eq_some e
    have h2 : x.1 = st := by simpa using List.find?_some e
    have h3 : x.2 = p := Option.some.inj h
    rw [← h2, ← h3]
    exact h1
theorem getW_none {L : List EnW} {st : St3} : getW L st = none ↔ st ∉ L.map fun e => e.1 := by
  unfold getW
  rw [Option.map_eq_none_iff, List.find?_eq_none]
  constructor
  · intro h hm
    obtain ⟨e, he, es⟩ := List.mem_map.mp hm
    exact h e he (decide_eq_true es)
  · intro h e he hd
    exact h (List.mem_map.mpr ⟨e, he, of_decide_eq_true hd⟩)
theorem getW_of {L : List EnW} (hn : (L.map fun e => e.1).Nodup) {st : St3} {p : Addr × Addr} (h : (st, p) ∈ L) : getW L st = some p := by
  cases e : getW L st with
  | none => exact absurd (List.mem_map.mpr ⟨_, h, rfl⟩) (getW_none.mp e)
  | some q =>
    have hq := getW_mem e
    congr 1
    clear e
    induction L with
    | nil => cases h
    | cons x L ih =>
      rw [List.map_cons, List.nodup_cons] at hn
      rcases List.mem_cons.mp h with h1 | h1
      · rcases List.mem_cons.mp hq with h2 | h2
        · rw [← h2] at h1
          exact (congrArg (fun z : EnW => z.2) h1).symm
        · exact absurd (List.mem_map.mpr ⟨_, h2, by rw [← h1]⟩) hn.1
      · rcases List.mem_cons.mp hq with h2 | h2
        · exact absurd (List.mem_map.mpr ⟨_, h1, by rw [← h2]⟩) hn.1
        · exact ih hn.2 h1 h2
theorem atKey_entW (st : St3) : ∀ L : List EnW, atKey (L.map entW) (keyS st) = (getW L st).map fun p => (p.1, Value.ref p.2)
  | [] => rfl
  | e :: L => by
    have ih := atKey_entW st L
    unfold atKey getW at ih ⊢
    rw [List.map_cons]
    by_cases h : e.1 = st
    · have h1 : decide ((entW e).1 = keyS st) = true := decide_eq_true (show (entW e).1 = keyS st by rw [← h]; rfl)
      simp only [List.find?_cons, h1, decide_eq_true h]
      rfl
    · have h1 : decide ((entW e).1 = keyS st) = false := decide_eq_false fun z => h (keyS_inj z)
      simp only [List.find?_cons, h1, decide_eq_false h]
      exact ih
section
variable {X : Cx} {pins : List (Addr × Obj)} {σ : L2.St} {H : Hp} {s : Shared} {d ka : Addr} {L : List EnW} {st : St3} {A : Around} {E : Value → Shared → Prop}
theorem wd_of (I : Inv X pins σ H s) (r : Rd H d (WD X.prog X.w d L)) (en : EnAt H L) : s.heap.DictOfH (nestedKind X.prog X.w) d (L.map entW) := by
  obtain ⟨o, es, ep, ho, hx, hd, he, hn, _, _⟩ := WD.get I.hok r
  refine ⟨o, es, ep, ho, hx, hd, he, fun x hm => ?_, ?_⟩
  · obtain ⟨e, hm2, rfl⟩ := List.mem_map.mp hm
    exact (en e hm2).is I.hok
  · rw [List.map_map]
    have : (L.map ((fun x : NestedKey × Addr × Value => x.1) ∘ entW)) = (L.map fun e => e.1).map keyS := by
      rw [List.map_map]
      rfl
    rw [this]
    exact (List.pairwise_map.mpr (hn.imp fun h z => h (keyS_inj z)))
theorem roomW (hu : A.units + 16 < cLine) : (nestedKind X.prog X.w).room A := by
  show A.units + 8 < cLine
  omega
theorem roomW1 (hu : A.units + 16 < cLine) : (nestedKind X.prog X.w).room A.in1 := by
  show A.units + 1 + 8 < cLine
  omega
/-- d[k] = v, k not there -/
theorem wd_new {h' : Heap} {va : Addr} (h : h'.DictOfH (nestedKind X.prog X.w) d ((L ++ [(st, ka, va)]).map entW)) (hn : (L.map fun e => e.1).Nodup) (hs : st ∉ L.map fun e => e.1) (hz : L.length < sizeLine) (hd : (d == sysModules) = false) : WDat X.prog X.w h' d (L ++ [(st, ka, va)]) := by
  obtain ⟨o, es, ep, ho, hx, hdt, he, _, _⟩ := h
  refine ⟨o, es, ep, ho, hx, hdt, he, ?_, ?_, hd⟩
  · rw [List.map_append, List.nodup_append]
    exact ⟨hn, List.nodup_cons.mpr ⟨(fun z => nomatch z), List.nodup_nil⟩, fun a ha b hb e => hs (by
      have e' : a = st := e.trans (List.mem_singleton.mp hb)
      rw [← e']
      exact ha)⟩
  · rw [List.length_append]
    exact hz
theorem storedW (h : getW L st = none) (va : Addr) : storedH (L.map entW) (keyS st) ka (.ref va) = (L ++ [(st, ka, va)]).map entW := by
  rw [storedH_new (by rw [atKey_entW, h]; rfl), List.map_append]
  rfl
theorem wd_dictSet {va : Addr} {Q : Unit → Shared → Prop} (hu : A.units + 16 < cLine) (I : Inv X pins σ H s) (hD : H d = some (WD X.prog X.w d L)) (en : EnAt H L) (hk : StAt H ka st) (hs : st ∉ L.map fun e => e.1) (hz : L.length < sizeLine)
    (h : ∀ s', Inv X pins σ (upd H d (WD X.prog X.w d (L ++ [(st, ka, va)]))) s' → Q () s') : wpAny (model X.prog X.w) A (dictSet d (.ref ka) (.ref va)) Q E s := by
  have hW := WD.get I.hok (.inl hD)
  have hg := getW_none.mpr hs
  obtain ⟨_, _, _, _, _, _, _, hn, _, hsm⟩ := hW
  refine wpAny_dictSet_heap (roomW hu) (hk.is I.hok) (wd_of I (.inl hD) en) (fun h' dd sb => h _ ?_) (by rw [List.length_map]; exact Nat.le_of_lt hz)
  rw [storedW hg] at dd
  have nw := wd_new dd hn hs hz hsm
  have he : ∃ q, h'.get? d = some q := let ⟨q, _, _, hq, _⟩ := nw; ⟨q, hq⟩
  exact d_write I (by rw [hD]; exact True.intro) sb he (WD.ok nw)
theorem wd_setItem {va : Addr} {Q : Unit → Shared → Prop} (hu : A.units + 16 < cLine) (I : Inv X pins σ H s) (hD : H d = some (WD X.prog X.w d L)) (en : EnAt H L) (hk : StAt H ka st) (hs : st ∉ L.map fun e => e.1) (hz : L.length < sizeLine)
    (h : ∀ s', Inv X pins σ (upd H d (WD X.prog X.w d (L ++ [(st, ka, va)]))) s' → Q () s') : wpAny (model X.prog X.w) A (setItem (.ref d) (.ref ka) (.ref va)) Q E s := by
  have hW := WD.get I.hok (.inl hD)
  have hg := getW_none.mpr hs
  obtain ⟨_, _, _, _, _, _, _, hn, _, hsm⟩ := hW
  refine wpAny_setItem_heap (roomW1 hu) (hk.is I.hok) (wd_of I (.inl hD) en) (fun h' dd sb => h _ ?_) (by rw [List.length_map]; exact Nat.le_of_lt hz)
  rw [storedW hg] at dd
  have nw := wd_new dd hn hs hz hsm
  have he : ∃ q, h'.get? d = some q := let ⟨q, _, _, hq, _⟩ := nw; ⟨q, hq⟩
  exact d_write I (by rw [hD]; exact True.intro) sb he (WD.ok nw)
theorem wd_empty {P : Program} {w : World} (h : Heap) (hb : sysModules < h.objs.size) : WDat P w (h.push { cls := .type "dict", data := .dict #[] }) h.objs.size [] :=
  ⟨_, #[], 0, Heap.get?_push_size _ rfl, ⟨rfl, rfl, rfl⟩, rfl, rfl, List.nodup_nil, Nat.zero_le _, beq_eq_false_iff_ne.mpr (Ne.symm (Nat.ne_of_lt hb))⟩
end
/-! ### readings -/
section
variable {X : Cx} {o i e value : Expr} {pos pos' tpos : Pos} {td ty tv : TE}
/-- {}, keyed by states -/
def tDNewW (P : Program) (w : World) : TE := fun _ H Q => ∀ p, H p = none → Q (.ref p) (upd H p (WD P w p []))
theorem pe_dnewW : PE X (.Dict [] [] pos) (tDNewW X.prog X.w) := ⟨fun pins s σ H Q I h =>
  wpAny_Dict_empty ⟨.ref s.heap.objs.size, _, I.laid (a := s.heap.objs.size) (o := WD X.prog X.w s.heap.objs.size []) (t' := s.toks) (fun _ _ q => Heap.get?_push_of_some _ q) (Nat.le_refl _) (WD.ok (wd_empty s.heap I.big)), rfl, h _ (I.hok.fresh (Nat.le_refl _))⟩⟩
/-- d[k] -/
def tDGetW (P : Program) (w : World) (td ty : TE) : TE := fun σ H Q => td σ H fun x H1 => ty σ H1 fun y H2 => ∃ d L ka st p, x = .ref d ∧ y = .ref ka ∧ Rd H2 d (WD P w d L) ∧ EnAt H2 L ∧ StAt H2 ka st ∧ getW L st = some p ∧ Q (.ref p.2) H2
theorem pe_dgetW (hu : X.A.units + 16 < cLine) (ho : PE X o td) (hi : PE X i ty) (hs : NoSl i) : PE X (.Subscript o i pos) (tDGetW X.prog X.w td ty) := by
  refine ⟨fun pins s σ H Q I h => ?_⟩
  refine subD_of PySem.F.slot_dict_getitem.lookup hs (thn (ho.run pins s σ H _ I h) fun u s1 ⟨x, H1, I1, rx, q1⟩ => thn (hi.run pins s1 σ H1 _ I1 q1) fun iv s2 ⟨y, H2, I2, ry, q2⟩ => ?_)
  obtain ⟨d, L, ka, st, p, rfl, rfl, hd, en, hk, hg, q⟩ := q2
  cases rx
  cases ry
  have dd := wd_of I2 hd en
  exact ⟨dd.typeIs, wpAny_getItem_heap (p := (p.1, .ref p.2)) (roomW1 hu) (hk.is I2.hok) dd (by rw [atKey_entW, hg]; rfl) ⟨.ref p.2, H2, I2.tok _, rfl, q⟩⟩
/-- k not in d -/
def tDNotInW (P : Program) (w : World) (ty td : TE) : TE := fun σ H Q => ty σ H fun y H1 => td σ H1 fun x H2 => ∃ d L ka st, x = .ref d ∧ y = .ref ka ∧ Rd H2 d (WD P w d L) ∧ EnAt H2 L ∧ StAt H2 ka st ∧ Q (.bl (!(getW L st).isSome)) H2
theorem pc_dnotinW (hu : X.A.units + 16 < cLine) (hi : PE X i ty) (ho : PE X o td) : PC X .NotIn i o (tDNotInW X.prog X.w ty td) := by
  refine ⟨fun pins s σ H Q I h => ?_⟩
  refine thn (hi.run pins s σ H _ I h) fun iv s1 ⟨y, H1, I1, ry, q1⟩ => thn (ho.run pins s1 σ H1 _ I1 q1) fun u s2 ⟨x, H2, I2, rx, q2⟩ => ?_
  obtain ⟨d, L, ka, st, rfl, rfl, hd, en, hk, q⟩ := q2
  cases rx
  cases ry
  obtain ⟨_, _, _, _, _, _, _, _, _, hsm⟩ := WD.get I2.hok hd
  refine PyProof.Rows.wpAny_notIn_heap (roomW1 hu) (hk.is I2.hok) hsm (wd_of I2 hd en) ?_
  rw [atKey_entW, Option.isSome_map]
  exact ⟨.bl (!(getW L st).isSome), H2, I2.tok _, rfl, q⟩
/-- d[k] = v, k not there -/
def sDPutW (P : Program) (w : World) (td ty tv : TE) : TS := fun D σ H => tv σ H fun v H1 => td σ H1 fun x H2 => ty σ H2 fun y H3 => ∃ d L ka st va, x = .ref d ∧ y = .ref ka ∧ v = .ref va ∧ H3 d = some (WD P w d L) ∧ EnAt H3 L ∧ StAt H3 ka st ∧ (st ∉ L.map fun e => e.1) ∧ L.length < sizeLine ∧ D.nx σ (upd H3 d (WD P w d (L ++ [(st, ka, va)])))
theorem ps_dputW (hu : X.A.units + 16 < cLine) (ho : PE X o td) (hi : PE X i ty) (hv : PE X value tv) (hs : swapsWith value (some (.Subscript o i pos')) pos.line X.env = pure false) : PS X (.Assign [.Subscript o i pos'] value pos) (sDPutW X.prog X.w td ty tv) := by
  refine ⟨fun pins s σ H D I h => ?_⟩
  refine wpAny_Assign_Subscript (thn (hv.run pins s σ H _ I h) fun r s1 ⟨v, H1, I1, rv, q1⟩ => thn (ho.run pins s1 σ H1 _ I1 q1) fun u s2 ⟨x, H2, I2, rx, q2⟩ => thn (hi.run pins s2 σ H2 _ I2 q2) fun iv s3 ⟨y, H3, I3, ry, q3⟩ => ?_) hs
  obtain ⟨d, L, ka, st, va, rfl, rfl, rfl, hd, en, hk, hn, hz, q⟩ := q3
  cases rx
  cases ry
  cases rv
  exact wd_setItem hu I3 hd en hk hn hz fun s4 I4 => ⟨σ, _, I4, q⟩
/-- {k: v for ..}, keyed by states -/
def elDict (X : Cx) (kx vx : Expr) (D : Addr) (env : Env) (K : Shared → Prop) (s : Shared) : Prop :=
  wpAny (model X.prog X.w) X.A (eval kx env) (fun kv s4 => wpAny (model X.prog X.w) X.A (eval vx env) (fun vv s5 => wpAny (model X.prog X.w) X.A (dictSet D kv vv) (fun _ s6 => K s6) (fun _ _ => False) s5) (fun _ _ => False) s4) (fun _ _ => False) s
theorem kd_dictW {kx vx tg iter : Expr} {ifs : List Expr} {scope : Scope} :
    BkKind X (.DictComp kx vx [⟨tg, iter, ifs, 0⟩] scope pos) tg iter ifs newDict (fun a => WD X.prog X.w a []) { cls := .type "dict", data := .dict #[] } (elDict X kx vx) where
  clauses := rfl
  fresh := fun s E Q h => by
    unfold newDict
    exact wpAny_newObj_type h
  new := fun H h hb => WD.ok (wd_empty h hb)
  loop := fun {R s it D env} I E0 hE turn n h => by
    refine compLoop_anyD I (fun n s hI => ?_) n h
    refine wpAny_mono (turn n s hI) (fun r s₁ h₁ => ?_) hE
    cases r with
    | none => exact h₁
    | some v =>
      refine wpAny_mono h₁ (fun _ s₁' h₁' => wpAny_mono h₁' (fun _ s₂ h₂ => wpAny_mono h₂ (fun ok s₃ h₃ => ?_) hE) hE) hE
      cases ok with
      | false => exact h₃
      | true =>
        rw [if_pos rfl] at h₃ ⊢
        exact wpAny_mono h₃ (fun x s4 h4 => wpAny_mono h4 (fun y s5 h5 => wpAny_mono h5 (fun _ _ k => k) fun _ _ z => z.elim) fun _ _ z => z.elim) fun _ _ z => z.elim
  start := fun h0 h => codeAny_compStart_dict h0 h
def bDictW (P : Program) (w : World) (tk tv : TE) : Addr → (Hp → Prop) → L2.St → Hp → Prop := fun D Nx σ H => tk σ H fun y H4 => tv σ H4 fun z H5 => ∃ L ka st va, y = .ref ka ∧ z = .ref va ∧ H5 D = some (WD P w D L) ∧ EnAt H5 L ∧ StAt H5 ka st ∧ (st ∉ L.map fun e => e.1) ∧ L.length < sizeLine ∧ Nx (upd H5 D (WD P w D (L ++ [(st, ka, va)])))
theorem el_dictW {kx vx : Expr} {tk tv : TE} {X' : Cx} (hu : X.A.units + 16 < cLine) (hp : X'.prog = X.prog) (hw : X'.w = X.w) (hA : X'.A = X.A) (hx : X'.xe = fun _ _ => False) (hk : PE X' kx tk) (hv : PE X' vx tv) : BkElem X' (elDict X kx vx) (bDictW X.prog X.w tk tv) := by
  intro D pins s σ H Nx K I hB hK
  unfold elDict
  have hr := hk.run pins s σ H _ I hB
  rw [hp, hw, hA, hx] at hr
  refine wpAny_mono hr (fun kv s4 h4 => ?_) fun _ _ z => z
  obtain ⟨y, H4, I4, r4, q4⟩ := h4
  have hr2 := hv.run pins s4 σ H4 _ I4 q4
  rw [hp, hw, hA, hx] at hr2
  refine wpAny_mono hr2 (fun vv s5 h5 => ?_) fun _ _ z => z
  obtain ⟨z, H5, I5, r5, L, ka, st, va, rfl, rfl, hD, en, hs, hn, hz, nx⟩ := h5
  cases r4
  cases r5
  have hq := wd_dictSet (X := X') (A := X'.A) (E := fun _ _ => False) (va := va) (Q := fun _ s' => K s') (by rw [hA]; exact hu) I5 (by rw [hp, hw]; exact hD) en hs hn hz fun s6 I6 => hK s6 _ I6 (by rw [hp, hw]; exact nx)
  rw [hp, hw, hA] at hq
  exact hq
theorem pe_dcW {kx vx tg iter : Expr} {ifs : List Expr} {scope : Scope} {own : List (Str × Nat)} {wi : TI} {g : TG} {tt : TT} {tk tv : TE} (hu : X.A.units + 16 < cLine) (hc : X.calm = true) (hN : X.N.Nodup) (hi : PI X tg iter wi) (ok : BlkOk X.N X.env.scope scope own)
    (hg : ∀ (s : Shared) (H : Hp) (C : Addr) (cl : List (Str × Addr)) (fp : List Addr), PG (X.blk s H scope (compEnvC scope cl C X.env) fp) tg g)
    (ht : ∀ (s : Shared) (H : Hp) (C : Addr) (cl : List (Str × Addr)) (fp : List Addr), PTs (X.blk s H scope (compEnvC scope cl C X.env) fp) ifs tt)
    (hk : ∀ (s : Shared) (H : Hp) (C : Addr) (cl : List (Str × Addr)) (fp : List Addr), PE (X.blk s H scope (compEnvC scope cl C X.env) fp) kx tk)
    (hv : ∀ (s : Shared) (H : Hp) (C : Addr) (cl : List (Str × Addr)) (fp : List Addr), PE (X.blk s H scope (compEnvC scope cl C X.env) fp) vx tv)
    (hs : ∀ x, foldedSetIterable iter X.env x = pure x := by intro _; rfl) : PE X (.DictComp kx vx [⟨tg, iter, ifs, 0⟩] scope pos) (tBk (fun a => WD X.prog X.w a []) wi g tt (bDictW X.prog X.w tk tv) (own.map (·.2))) :=
  pe_bk (pos' := firstIterPos [⟨tg, iter, ifs, 0⟩] pos) kd_dictW rfl hc hN hi ok hg ht (fun s H C cl fp => el_dictW (X := X) (X' := X.blk s H scope (compEnvC scope cl C X.env) fp) hu rfl rfl rfl rfl (hk s H C cl fp) (hv s H C cl fp)) hs
end
end B58
set_option Elab.async false
set_option linter.all false
set_option maxRecDepth 100000
set_option maxHeartbeats 4000000
/-! The walks' common ground. -/
namespace B58
open PySem PySem.Spec PyProof.Rows PySem.Calls L2 C8
/-! ### a def under its name -/
structure Dd (K : PySem.W.Frag) (mg : Str → Option Value) (x : Str) (st : Stmt) : Prop where
  ex : ∃ f fd, FunD K x x (defArgs st) (defBody st) (defScope st) [] [] f fd ∧ mg x = some (.ref f)
section
variable {P : Program} {w : World} {K : PySem.W.Frag} {mg : Str → Option Value} {base : Heap}
theorem funD_ok0 {x qual : Str} {params : Arguments} {body : List Stmt} {scope : Scope} {f : Addr} {fd : FuncData} {N ps : List Str} {k : Nat} {sp : Sp} (F : FunD K x qual params body scope [] [] f fd) (S : FnScope N ps scope) (len : ∀ vs H Q E, sp vs H Q E → vs.length = ps.length)
    (hbody : ∀ (A : Around) (outer : List Env) (s : Shared) (H : Hp) (vs : List V) (Q : VK) (E : XK), Room k (A.deeper (envOfC qual scope s.heap.objs.size f fd.code)) → sp vs H Q E →
      ∃ t, PSs (cxOf C8.CX0 P w K mg base N qual scope f fd.code A outer s H E).nox body t ∧ t { nx := fun _ H' => Q .non H', rt := Q } (start N vs) H) : FnOk P w K mg base C8.CX0 (k + 1) f fd ps sp := by
  obtain ⟨oc, od, dV, kV, doc, pm, an, cdv, ct, osl, rfl, lk, hcd, _, _⟩ := F.ex
  refine fn_of lk hcd S len fun A outer s H vs Q E hr hsp => ?_
  obtain ⟨t, h, q⟩ := hbody A outer s H vs Q E hr hsp
  exact ⟨t, h.nox, q⟩
theorem Dd.cal {x : Str} {st : Stmt} {N ps : List Str} {k : Nat} {sp : Sp} (D : Dd K mg x st) (S : FnScope N ps (defScope st)) (len : ∀ vs H Q E, sp vs H Q E → vs.length = ps.length)
    (hb : ∀ (kV doc pm : Value) (an : Option Addr) (cdv ct : Value) (us : List Value), us.length = ps.length → bindArgs (PySem.W.fnOf x x (defArgs st) (defBody st) (defScope st) .none kV doc pm an cdv ct) ⟨us, []⟩ = pure (ps.zip us))
    (hbody : ∀ (f : Addr) (cdv : Value) (A : Around) (outer : List Env) (s : Shared) (H : Hp) (vs : List V) (Q : VK) (E : XK), Room k (A.deeper (envOfC x (defScope st) s.heap.objs.size f cdv)) → sp vs H Q E →
      ∃ t, PSs (cxOf C8.CX0 P w K mg base N x (defScope st) f cdv A outer s H E).nox (defBody st) t ∧ t { nx := fun _ H' => Q .non H', rt := Q } (start N vs) H) : Cal P w K mg base (k + 1) x sp [] := by
  obtain ⟨f, fd, F, hm⟩ := D.ex
  exact ⟨f, fd, ps, [], funD_ok0 F S len fun A outer s H vs Q E hr h => hbody f fd.code A outer s H vs Q E hr h, hm, F.kp, F.bindsN hb, .nil⟩
end
theorem cal_mono {P : Program} {w : World} {K : PySem.W.Frag} {mg : Str → Option Value} {base : Heap} {j k : Nat} {x : Str} {sp : Sp} {dvs : List V} (c : Cal P w K mg base j x sp dvs) (h : j ≤ k) : Cal P w K mg base k x sp dvs := by
  obtain ⟨f, fd, ps, ds, F, r⟩ := c.ex
  exact ⟨f, fd, ps, ds, F.mono h, r⟩
theorem cal_imp {P : Program} {w : World} {K : PySem.W.Frag} {mg : Str → Option Value} {base : Heap} {k : Nat} {x : Str} {sp sp' : Sp} {dvs : List V} (c : Cal P w K mg base k x sp dvs) (h : ∀ vs H Q E, sp' vs H Q E → sp vs H Q E) : Cal P w K mg base k x sp' dvs := by
  obtain ⟨f, fd, ps, ds, F, r⟩ := c.ex
  exact ⟨f, fd, ps, ds, F.imp h, r⟩
/-! ### the module's names -/
structure Txt (K : PySem.W.Frag) (mg : Str → Option Value) (C : Addr) : Prop where
  f_isinstance : mg "isinstance" = none
  f_int : mg "int" = none
  f_bool : mg "bool" = none
  f_list : mg "list" = none
  f_tuple : mg "tuple" = none
  f_str : mg "str" = none
  f_all : mg "all" = none
  f_any : mg "any" = none
  f_len : mg "len" = none
  f_set : mg "set" = none
  f_sorted : mg "sorted" = none
  f_enumerate : mg "enumerate" = none
  f_range : mg "range" = none
  f_max : mg "max" = none
  f_min : mg "min" = none
  f_abs : mg "abs" = none
  never : ∃ t, mg "NEVER" = some (.int (-1) t)
  kinds : ∃ a, mg "KINDS" = some (.ref a) ∧ ∀ H, SqT K H a [.str "copy", .str "move"]
  cls : Cls K C
  mgC : mg "Transfer" = some (.ref C)
  n_kind : NoAttr K C "kind"
  n_source : NoAttr K C "source"
  n_target : NoAttr K C "target"
  n_began : NoAttr K C "began"
  n_ended : NoAttr K C "ended"
theorem bo_isinstance : bootBuiltins "isinstance" = some (.builtin "isinstance") := by decide +kernel
theorem bo_int : bootBuiltins "int" = some (.type "int") := by decide +kernel
theorem bo_bool : bootBuiltins "bool" = some (.type "bool") := by decide +kernel
theorem bo_list : bootBuiltins "list" = some (.type "list") := by decide +kernel
theorem bo_tuple : bootBuiltins "tuple" = some (.type "tuple") := by decide +kernel
theorem bo_str : bootBuiltins "str" = some (.type "str") := by decide +kernel
theorem bo_all : bootBuiltins "all" = some (.builtin "all") := by decide +kernel
theorem bo_any : bootBuiltins "any" = some (.builtin "any") := by decide +kernel
theorem bo_len : bootBuiltins "len" = some (.builtin "len") := by decide +kernel
theorem bo_sorted : bootBuiltins "sorted" = some (.builtin "sorted") := by decide +kernel
theorem bo_abs : bootBuiltins "abs" = some (.builtin "abs") := by decide +kernel
/-! ### a list comprehension whose elements change nothing -/
def TupKeep (H H' : Hp) : Prop := ∀ b xs, H b = some (.tup xs) → H' b = some (.tup xs)
theorem same_tups {H H' : Hp} (e : Same H H') : TupKeep H H' := fun b xs h => e b _ h
theorem same_upd {H0 H : Hp} {D : Addr} {o : HO} (e : Same H0 H) (n : H0 D = none) : Same H0 (upd H D o) := fun b u h => by
  rw [upd_ne (ne_of_none h n)]
  exact e b u h
theorem same_new {H : Hp} {D : Addr} {o : HO} (n : H D = none) : Same H (upd H D o) := same_upd (Same.refl H) n
theorem tupKeep_upd {H : Hp} {D : Addr} {o u : HO} (h : H D = some u) (hu : ∀ xs, u ≠ .tup xs) : TupKeep H (upd H D o) := fun b xs e => by
  rw [upd_ne fun z => by rw [z, h] at e; exact hu xs (Option.some.inj e)]
  exact e
theorem lc_sameD {J : It} {n : Nat} {G : Hp → Prop} {Y : Nat → Hp → V → Hp → Prop} (wk : Walk J n G Y) {g : TG} {tt : TT} {te : TE} {vs : List Nat} {σ : L2.St} {H1 : Hp} {D : Addr} {Qd : Hp → Prop} (Rf : Nat → Option V → Hp → Prop)
    (stab : ∀ i y H H' acc, H D = some (.lst acc) → (∀ b o, H b = some o → b ≠ D → H' b = some o) → Rf i y H → Rf i y H') (nD : H1 D = none) (hz : n ≤ sizeLine) (hG : ∀ H, Same H1 H → G H)
    (hs : ∀ i x H H' (R : Option V → Hp → Prop), i < n → Same H1 H → (∃ acc, H D = some (.lst acc)) → Y i H x H' → (∀ y H'', Rf i y H'' → Same H H'' → R y H'') →
      g x (wipe σ vs) H' fun σ2 H2 => wipe σ2 vs = wipe σ vs ∧ tt σ2 H2 fun b H3 => if b = true then te σ2 H3 fun y H4 => R (some y) H4 else R none H3)
    (hd : ∀ (ys : List (Option V)) H, Same H1 H → H D = some (.lst (ys.filterMap id)) → ys.length = n → (∀ i y, ys[i]? = some y → Rf i y H) → Qd H) :
    ∃ W : Nat → Nat → Hp → Prop, (∃ m, W 0 m (upd H1 D (.lst []))) ∧ ∀ i m H, W i m H →
      (J.stop i H ∧ Qd H) ∨ (J.go i H ∧ ∃ Nx : Hp → Prop, (∀ H', Nx H' → ∃ m', m' < m ∧ W (i + 1) m' H') ∧ ∀ x H', J.yld i H x H' → g x (wipe σ vs) H' fun σ2 H2 => wipe σ2 vs = wipe σ vs ∧ tt σ2 H2 fun b H3 =>
        if b = true then te σ2 H3 fun y H4 => ∃ acc, H4 D = some (.lst acc) ∧ acc.length < sizeLine ∧ Nx (upd H4 D (.lst (acc ++ [y]))) else Nx H3) := by
  refine lc_it wk (fun i H => Same H1 H ∧ ∃ ys : List (Option V), ys.length = i ∧ H D = some (.lst (ys.filterMap id)) ∧ ∀ j y, ys[j]? = some y → Rf j y H) ⟨same_new nD, [], rfl, upd_same, fun j y e => by simp at e⟩ (fun i H _ p => hG H p.1) ?_ fun H p => ?_
  · rintro i x H H' hi ⟨sm, ys, hl, hD, hr⟩ y
    refine hs i x H H' (fun y H4 => match y with
      | some y => ∃ acc, H4 D = some (.lst acc) ∧ acc.length < sizeLine ∧ (Same H1 (L2.upd H4 D (.lst (acc ++ [y]))) ∧ ∃ ys : List (Option V), ys.length = i + 1 ∧ (L2.upd H4 D (.lst (acc ++ [y]))) D = some (.lst (ys.filterMap id)) ∧ ∀ j z, ys[j]? = some z → Rf j z (L2.upd H4 D (.lst (acc ++ [y]))))
      | none => Same H1 H4 ∧ ∃ ys : List (Option V), ys.length = i + 1 ∧ H4 D = some (.lst (ys.filterMap id)) ∧ ∀ j z, ys[j]? = some z → Rf j z H4) hi sm ⟨_, hD⟩ y fun y H4 hy s4 => ?_
    have s14 : Same H1 H4 := sm.trans s4
    have old : ∀ j z, (ys ++ [y])[j]? = some z → Rf j z H4 := fun j z e => by
      rcases Nat.lt_or_ge j ys.length with hj | hj
      · rw [List.getElem?_append_left hj] at e
        exact stab _ _ _ _ _ hD (fun b o e _ => s4 b o e) (hr j z e)
      · rw [List.getElem?_append_right hj] at e
        have : j - ys.length = 0 := by
          rcases Nat.eq_zero_or_pos (j - ys.length) with z | z
          · exact z
          · rw [List.getElem?_eq_none (by simp only [List.length_singleton]; omega)] at e
            cases e
        rw [this] at e
        have e' := Option.some.inj e
        have ej : j = i := by omega
        rw [← e', ej]
        exact hy
    cases y with
    | none => exact ⟨s14, ys ++ [none], by simp [hl], by rw [s4 _ _ hD]; simp, old⟩
    | some y =>
      refine ⟨_, s4 _ _ hD, ?_, same_upd s14 nD, ys ++ [some y], by simp [hl], by rw [upd_same]; simp, fun j z e => stab _ _ _ _ _ (s4 _ _ hD) (fun b o e n => by rw [upd_ne n]; exact e) (old j z e)⟩
      have : (ys.filterMap id).length ≤ ys.length := List.length_filterMap_le _ _
      omega
  · obtain ⟨sm, ys, hl, hD, hr⟩ := p
    exact hd ys H sm hD hl hr
theorem lc_same {J : It} {n : Nat} {G : Hp → Prop} {Y : Nat → Hp → V → Hp → Prop} (wk : Walk J n G Y) {g : TG} {tt : TT} {te : TE} {vs : List Nat} {σ : L2.St} {H1 : Hp} {D : Addr} {Qd : Hp → Prop} (Rf : Nat → Option V → Hp → Prop)
    (stab : ∀ i y H H', TupKeep H H' → Rf i y H → Rf i y H') (nD : H1 D = none) (hz : n ≤ sizeLine) (hG : ∀ H, Same H1 H → G H)
    (hs : ∀ i x H H' (R : Option V → Hp → Prop), i < n → Same H1 H → Y i H x H' → (∀ y H'', Rf i y H'' → Same H H'' → R y H'') →
      g x (wipe σ vs) H' fun σ2 H2 => wipe σ2 vs = wipe σ vs ∧ tt σ2 H2 fun b H3 => if b = true then te σ2 H3 fun y H4 => R (some y) H4 else R none H3)
    (hd : ∀ (ys : List (Option V)) H, Same H1 H → H D = some (.lst (ys.filterMap id)) → ys.length = n → (∀ i y, ys[i]? = some y → Rf i y H) → Qd H) :
    ∃ W : Nat → Nat → Hp → Prop, (∃ m, W 0 m (upd H1 D (.lst []))) ∧ ∀ i m H, W i m H →
      (J.stop i H ∧ Qd H) ∨ (J.go i H ∧ ∃ Nx : Hp → Prop, (∀ H', Nx H' → ∃ m', m' < m ∧ W (i + 1) m' H') ∧ ∀ x H', J.yld i H x H' → g x (wipe σ vs) H' fun σ2 H2 => wipe σ2 vs = wipe σ vs ∧ tt σ2 H2 fun b H3 =>
        if b = true then te σ2 H3 fun y H4 => ∃ acc, H4 D = some (.lst acc) ∧ acc.length < sizeLine ∧ Nx (upd H4 D (.lst (acc ++ [y]))) else Nx H3) :=
  lc_sameD wk Rf (fun i y H H' acc hD k r => stab i y H H' (fun b xs e => k b _ e fun z => by rw [z, hD] at e; cases e) r) nD hz hG (fun i x H H' R hi sm _ y hR => hs i x H H' R hi sm y hR) hd
/-- .. by a function of the place -/
theorem filterMap_range {α : Type} {n : Nat} {f : Nat → Option α} {ys : List (Option α)} (hl : ys.length = n) (h : ∀ (i : Nat) (y : Option α), ys[i]? = some y → y = f i) : ys.filterMap id = (List.range n).filterMap f := by
  have e : ys = (List.range n).map f := by
    apply List.ext_getElem
    · rw [hl, List.length_map, List.length_range]
    · intro i h1 h2
      rw [List.getElem_map, List.getElem_range]
      exact h i _ (List.getElem?_eq_getElem h1)
  rw [e, List.filterMap_map]
  rfl
theorem map_range_of {α β : Type} {l : List α} {f : α → β} {ys : List (Option β)} (hl : ys.length = l.length) (h : ∀ (i : Nat) (y : Option β), ys[i]? = some y → ∃ x : α, l[i]? = some x ∧ y = some (f x)) : ys.filterMap id = l.map f := by
  have e : ys = l.map fun x => some (f x) := by
    apply List.ext_getElem
    · rw [hl, List.length_map]
    · intro i h1 h2
      obtain ⟨x, hx, e⟩ := h i _ (List.getElem?_eq_getElem h1)
      obtain ⟨hi, e2⟩ := List.getElem?_eq_some_iff.mp hx
      rw [List.getElem_map, e, e2]
  rw [e, List.filterMap_map]
  induction l with
  | nil => rfl
  | cons x l ih => simp
theorem filter_of {α β : Type} {l : List α} {p : α → Bool} {f : α → β} {ys : List (Option β)} (hl : ys.length = l.length) (h : ∀ (i : Nat) (y : Option β), ys[i]? = some y → ∃ x : α, l[i]? = some x ∧ y = if p x = true then some (f x) else none) : ys.filterMap id = (l.filter p).map f := by
  have e : ys = l.map fun x => if p x = true then some (f x) else none := by
    apply List.ext_getElem
    · rw [hl, List.length_map]
    · intro i h1 h2
      obtain ⟨x, hx, e⟩ := h i _ (List.getElem?_eq_getElem h1)
      obtain ⟨hi, e2⟩ := List.getElem?_eq_some_iff.mp hx
      rw [List.getElem_map, e, e2]
  rw [e, List.filterMap_map]
  clear e h hl
  induction l with
  | nil => rfl
  | cons x l ih =>
    rw [List.filterMap_cons]
    cases hp : p x with
    | true =>
      rw [List.filter_cons_of_pos hp, List.map_cons, ← ih]
      simp [hp]
    | false =>
      rw [List.filter_cons_of_neg (by rw [hp]; decide), ← ih]
      simp [hp]
theorem tyes {σ : L2.St} {H : Hp} {A B : Hp → Prop} (h : A H) : tYes σ H (fun b H3 => if b = true then A H3 else B H3) := by
  show (if true = true then A H else B H)
  rw [if_pos rfl]
  exact h
theorem dec_self {α : Type} [DecidableEq α] (x : α) : decide (x = x) = true := decide_eq_true rfl
/-- a set comprehension of ints whose elements change nothing -/
theorem sc_same {w : World} {J : It} {n : Nat} {G : Hp → Prop} {Y : Nat → Hp → V → Hp → Prop} (wk : Walk J n G Y) {g : TG} {tt : TT} {te : TE} {vs : List Nat} {σ : L2.St} {H1 : Hp} {D : Addr} {Qd : Hp → Prop} (f : Nat → Int)
    (nD : H1 D = none) (hG : ∀ H, Same H1 H → G H) (hb : ∀ l : List Int, l.Nodup → (∀ x ∈ l, ∃ j, j < n ∧ x = f j) → l.length + 1 < scanBound)
    (hs : ∀ i x H H' (R : V → Hp → Prop) (Z : Hp → Prop), i < n → Same H1 H → Y i H x H' → (∀ H'', Same H H'' → R (.int (f i)) H'') →
      g x (wipe σ vs) H' fun σ2 H2 => wipe σ2 vs = wipe σ vs ∧ tt σ2 H2 fun b H3 => if b = true then te σ2 H3 R else Z H3)
    (hd : ∀ (l : List Int) H, Same H1 H → H D = some (SetL w D l) → l.Nodup → (∀ x, x ∈ l ↔ ∃ j, j < n ∧ x = f j) → Qd H) :
    ∃ W : Nat → Nat → Hp → Prop, (∃ m, W 0 m (upd H1 D (SetL w D []))) ∧ ∀ i m H, W i m H →
      (J.stop i H ∧ Qd H) ∨ (J.go i H ∧ ∃ Nx : Hp → Prop, (∀ H', Nx H' → ∃ m', m' < m ∧ W (i + 1) m' H') ∧ ∀ x H', J.yld i H x H' → g x (wipe σ vs) H' fun σ2 H2 => wipe σ2 vs = wipe σ vs ∧ tt σ2 H2 fun b H3 =>
        if b = true then bSet w te D Nx σ2 H3 else Nx H3) := by
  refine bk_it wk (fun i H => i ≤ n ∧ Same H1 H ∧ ∃ l : List Int, H D = some (SetL w D l) ∧ l.Nodup ∧ ∀ x, x ∈ l ↔ ∃ j, j < i ∧ x = f j) ⟨Nat.zero_le _, same_new nD, [], upd_same, List.nodup_nil, fun x => ⟨(fun z => nomatch z), fun ⟨j, hj, _⟩ => absurd hj (Nat.not_lt_zero j)⟩⟩ (fun i H _ p => hG H p.2.1) ?_ fun H p => ?_
  · rintro i x H H' hi ⟨_, sm, l, hD, nd, hm⟩ y
    refine hs i x H H' (fun y H4 => ∃ (c : Int) (l : List Int), y = .int c ∧ H4 D = some (SetL w D l) ∧ l.length + 1 < scanBound ∧ (i + 1 ≤ n ∧ Same H1 (L2.upd H4 D (SetL w D (insL l c))) ∧ ∃ l' : List Int, (L2.upd H4 D (SetL w D (insL l c))) D = some (SetL w D l') ∧ l'.Nodup ∧ ∀ x, x ∈ l' ↔ ∃ j, j < i + 1 ∧ x = f j)) _ hi sm y fun H4 s4 => ?_
    refine ⟨f i, l, rfl, s4 _ _ hD, hb l nd fun x hx => ?_, hi, same_upd (sm.trans s4) nD, insL l (f i), upd_same, insL_nodup nd _, fun x => ?_⟩
    · obtain ⟨j, hj, e⟩ := (hm x).mp hx
      exact ⟨j, Nat.lt_trans hj hi, e⟩
    · rw [mem_insL, hm]
      constructor
      · rintro (⟨j, hj, e⟩ | e)
        · exact ⟨j, Nat.lt_succ_of_lt hj, e⟩
        · exact ⟨i, Nat.lt_succ_self i, e⟩
      · rintro ⟨j, hj, e⟩
        rcases Nat.lt_succ_iff_lt_or_eq.mp hj with hj | hj
        · exact .inl ⟨j, hj, e⟩
        · exact .inr (by rw [e, hj])
  · obtain ⟨_, sm, l, hD, nd, hm⟩ := p
    exact hd l H sm hD nd hm
/-! ### tuples of the text -/
/-- a triple (number, source, target) -/
def TrTup (H : Hp) (p : Addr) (e : Tr) : Prop := H p = some (.tup [.int e.n, .int e.s, .int e.t])
/-- a list of triples -/
def TsAt (H : Hp) (b : Addr) (ts : List Tr) : Prop := ∃ ps : List Addr, H b = some (.lst (ps.map V.ref)) ∧ ps.length = ts.length ∧ ∀ (i : Nat) (p : Addr) (e : Tr), ps[i]? = some p → ts[i]? = some e → TrTup H p e
theorem TsAt.same {H H' : Hp} {b : Addr} {ts : List Tr} (h : TsAt H b ts) (s : Same H H') : TsAt H' b ts := by
  obtain ⟨ps, h1, h2, h3⟩ := h
  exact ⟨ps, s _ _ h1, h2, fun i p e a b => s _ _ (h3 i p e a b)⟩
/-- a list of ints -/
def IL (H : Hp) (a : Addr) (ns : List Int) : Prop := H a = some (.lst (ns.map V.int))
theorem eqV_int (i j : Int) : eqV (.int i) (.int j) = decide (i = j) := by
  unfold eqV
  first | rfl | (simp; done) | (simp [eq_comm]; done)
theorem inV_int (x : Int) : ∀ ns : List Int, inV (.int x) (ns.map V.int) = decide (x ∈ ns)
  | [] => rfl
  | n :: ns => by
    have ih := inV_int x ns
    unfold inV at ih ⊢
    rw [List.map_cons, List.any_cons, ih, eqV_int]
    by_cases h1 : n = x
    · rw [decide_eq_true h1, decide_eq_true (show x ∈ n :: ns by rw [h1]; exact List.mem_cons_self)]
      rfl
    · rw [decide_eq_false h1, Bool.false_or]
      exact decide_eq_decide.mpr ⟨List.mem_cons_of_mem _, fun h => (List.mem_cons.mp h).elim (fun z => absurd z.symm h1) id⟩
theorem flat_ints : ∀ ns : List Int, (ns.map V.int).all flatV = true
  | [] => rfl
  | n :: ns => by
    rw [List.map_cons, List.all_cons, flat_ints ns]
    rfl
end B58
set_option Elab.async false
set_option linter.all false
set_option maxRecDepth 100000
set_option maxHeartbeats 4000000
/-! The walks: checks of what is given. -/
namespace B58
open PySem PySem.Spec PyProof.Rows PySem.Calls L2 C8
section
variable {P : Program} {w : World} {K : PySem.W.Frag} {mg : Str → Option Value} {base : Heap} {C : Addr}
/-! ### is_integer, of an int -/
def spInt : Sp := fun vs H Q _ => ∃ n : Int, vs = [.int n] ∧ Q (.bl true) H
theorem sc_is_integer : FnScope ["value"] ["value"] (defScope s_is_integer) := ⟨rfl, rfl, rfl, by decide +kernel, rfl, by decide +kernel, by decide +kernel⟩
theorem isi_int (n : Int) : PySem.W.kitOne K (.type "int") (.type "int") = some true := kit_ty (by decide +kernel)
theorem isi_intbool : PySem.W.kitOne K (.type "int") (.type "bool") = some false := kit_ty (by decide +kernel)
theorem cal_is_integer (D : Dd K mg "is_integer" s_is_integer) (T : Txt K mg C) : Cal P w K mg base 2 "is_integer" spInt [] := by
  refine D.cal sc_is_integer (fun vs H Q E h => ?_) (fun _ _ _ _ _ _ us hl => match us, hl with | [_], _ => rfl) (fun f cdv A outer s H vs Q E hr h => ?_)
  · obtain ⟨n, rfl, _⟩ := h
    rfl
  · obtain ⟨n, rfl, q⟩ := h
    refine ⟨_, pss_one (ps_ret (pe_and (pe_callB call_isi rfl T.f_isinstance bo_isinstance (pa_cons (pv 0) (pa_cons (pe_bltn (v := .ty "int") rfl T.f_int bo_int rfl) pa_nil)))
      (pe_one (pe_not (pe_callB call_isi rfl T.f_isinstance bo_isinstance (pa_cons (pv 0) (pa_cons (pe_bltn (v := .ty "bool") rfl T.f_bool bo_bool rfl) pa_nil))))))), ?_⟩
    refine ⟨_, rfl, .int n, .ty "int", _, _, true, rfl, .ty _, .base (.int n), isi_int n, true, rfl, ?_⟩
    refine iteT ⟨_, rfl, .int n, .ty "bool", _, _, false, rfl, .ty _, .base (.int n), isi_intbool, false, rfl, q⟩
/-! ### are_different, of a list of different ints -/
def spDiff : Sp := fun vs H Q _ => ∃ (a : Addr) (ns : List Int), vs = [.ref a] ∧ H a = some (.lst (ns.map V.int)) ∧ ns.Nodup ∧ ns.length < 64 ∧ ∀ H', Same H H' → Q (.bl true) H'
theorem sc_are_different : FnScope ["value", "item"] ["value"] (defScope s_are_different) := ⟨rfl, rfl, rfl, by decide +kernel, rfl, by decide +kernel, by decide +kernel⟩
theorem isi_list : PySem.W.kitAny K (.type "list") [.type "list", .type "tuple"] = some true :=
  kitAny_cons (b := true) (kit_ty (by decide +kernel)) (fun h => by cases h) fun _ => rfl
theorem all_true : ∀ n : Nat, (List.replicate n true).all id = true
  | 0 => rfl
  | n + 1 => by rw [List.replicate_succ, List.all_cons, all_true n]; rfl
theorem get_int {ns : List Int} {i : Nat} {x : V} (h : (ns.map V.int)[i]? = some x) : ∃ n, ns[i]? = some n ∧ x = .int n := by
  rw [List.getElem?_map] at h
  cases e : ns[i]? with
  | none => rw [e] at h; cases h
  | some n => rw [e] at h; exact ⟨n, rfl, (Option.some.inj h).symm⟩
theorem all_bl {n : Nat} {ys : List (Option V)} (hl : ys.length = n) (h : ∀ (i : Nat) (y : Option V), ys[i]? = some y → y = some (.bl true)) : ys.filterMap id = (List.replicate n true).map V.bl := by
  have e : ys = List.replicate n (some (.bl true)) := List.eq_replicate_iff.mpr ⟨hl, fun y hy => by
    obtain ⟨i, hi, e⟩ := List.mem_iff_getElem.mp hy
    exact h i y (by rw [List.getElem?_eq_getElem hi, e])⟩
  rw [e]
  clear e h hl
  induction n with
  | zero => rfl
  | succ n ih => rw [List.replicate_succ, List.replicate_succ, List.map_cons, ← ih]; rfl
theorem cal_are_different (D : Dd K mg "are_different" s_are_different) (T : Txt K mg C) (c1 : Cal P w K mg base 2 "is_integer" spInt []) : Cal P w K mg base 4 "are_different" spDiff [] := by
  refine D.cal (k := 3) sc_are_different (fun vs H Q E h => ?_) (fun _ _ _ _ _ _ us hl => match us, hl with | [_], _ => rfl) (fun f cdv A outer s H vs Q E hr h => ?_)
  · obtain ⟨a, ns, rfl, _⟩ := h
    rfl
  · obtain ⟨a, ns, rfl, ha, nd, hz, q⟩ := h
    refine ⟨_, pss_cons (ps_if (PW.pt (pw_or (pt_not (pt_val (pe_callB call_isiT rfl T.f_isinstance bo_isinstance (pa_cons (pv 0) (pa_cons (pe_tup (pa_cons (pe_bltn (v := .ty "list") rfl T.f_list bo_list rfl) (pa_cons (pe_bltn (v := .ty "tuple") rfl T.f_tuple bo_tuple rfl) pa_nil))) pa_nil)))))
        (pw_or1 (pt_not (pt_val (pe_callB (cr_all rfl) rfl T.f_all bo_all (pa_cons (pe_lc (own := [("item", 1)]) rfl sc_are_different.nd (pi_list (pv 0)) (blkOk_by (by kernel_rfl)) (fun _ _ _ _ _ => pg_name (i := 1) sc_are_different.nd rfl (Or.inl rfl)) (fun _ _ _ _ _ => pts_nil)
          (fun _ _ _ _ _ => pe_c c1 hr (by decide) rfl (pa_cons (pv 1) pa_nil))) pa_nil))))))) (pss_one (ps_ret pe_bl)) pss_nil)
      (pss_one (ps_ret (pe_cmp (pc_eqI (L2.pe_lenSetI rfl rfl T.f_len rfl T.f_set (pv 0)) (pe_callB call_len_seq rfl T.f_len bo_len (pa_cons (pv 0) pa_nil)))))), ?_⟩
    refine ⟨_, rfl, (by show 2 ≤ sizeLine; decide), fun t ht => ?_⟩
    have s1 : Same H (upd H t (.tup [.ty "list", .ty "tuple"])) := same_new ht
    refine ⟨.ref a, t, [.ty "list", .ty "tuple"], _, [.type "list", .type "tuple"], true, rfl, upd_same, .cons (.ty _) (.cons (.ty _) .nil), .base (.lst (s1 _ _ ha)), isi_list, true, rfl, ?_⟩
    refine iteF ?_
    refine ⟨_, rfl, a, rfl, ⟨_, SqL.of (s1 _ _ ha)⟩, fun B hB => lc_same (walk_list (xs := ns.map V.int)) (fun _ y _ => y = some (.bl true)) (fun _ _ _ _ _ e => e) hB (by rw [List.length_map]; exact Nat.le_of_lt (Nat.lt_trans hz (by decide))) (fun H' s => SqL.of (s _ _ (s1 _ _ ha))) ?_ ?_⟩
    · intro i x H' H2 R hi sm y hR
      obtain ⟨rfl, hx⟩ := y
      obtain ⟨n, _, rfl⟩ := get_int hx
      exact ⟨rfl, tyes ⟨_, rfl, n, rfl, hR _ _ rfl (Same.refl _)⟩⟩
    · intro ys H' sm hB' hl hr'
      rw [all_bl hl hr'] at hB'
      refine ⟨B, _, rfl, SqL.of hB', true, by rw [all_true], ?_⟩
      refine iteF ?_
      have s2 : Same H H' := s1.trans sm
      refine ⟨_, rfl, a, ns, rfl, SqL.of (s2 _ _ ha), hz, nd, _, rfl, a, _, rfl, .inl (SqL.of (s2 _ _ ha)), _, _, rfl, rfl, ?_⟩
      show Q (.bl (decide ((ns.length : Int) = ((ns.map V.int).length : Int)))) H'
      rw [List.length_map, dec_self]
      exact q H' s2
/-! ### need_first -/
def spNeedF : Sp := fun vs H Q _ => ∃ (a : Addr) (ns : List Int), vs = [.ref a] ∧ IL H a ns ∧ ns.Nodup ∧ ns.length < 64 ∧ ∀ H', Same H H' → Q .non H'
theorem sc_need_first : FnScope ["first"] ["first"] (defScope s_need_first) := ⟨rfl, rfl, rfl, by decide +kernel, rfl, by decide +kernel, by decide +kernel⟩
theorem cal_need_first (D : Dd K mg "need_first" s_need_first) (T : Txt K mg C) (c1 : Cal P w K mg base 4 "are_different" spDiff []) : Cal P w K mg base 6 "need_first" spNeedF [] := by
  refine D.cal (k := 5) sc_need_first (fun vs H Q E h => ?_) (fun _ _ _ _ _ _ us hl => match us, hl with | [_], _ => rfl) (fun f cdv A outer s H vs Q E hr h => ?_)
  · obtain ⟨a, ns, rfl, _⟩ := h
    rfl
  · obtain ⟨a, ns, rfl, ha, nd, hz, q⟩ := h
    refine ⟨_, pss_one (ps_if (pt_not (pt_val (pe_c c1 hr (by decide) rfl (pa_cons (pv 0) pa_nil)))) (pss_one ps_never) pss_nil), ?_⟩
    exact ⟨_, rfl, a, ns, rfl, ha, nd, hz, fun H' sm => ⟨true, rfl, iteF (q H' sm)⟩⟩
/-! ### is_triple -/
def spTriple : Sp := fun vs H Q _ => ∃ (p a : Addr) (e : Tr) (o : List Int), vs = [.ref p, .ref a] ∧ TrTup H p e ∧ IL H a o ∧ e.s ∈ o ∧ e.t ∈ o ∧ e.s ≠ e.t ∧ ∀ H', Same H H' → Q (.bl true) H'
theorem sc_is_triple : FnScope ["value", "order", "part"] ["value", "order"] (defScope s_is_triple) := ⟨rfl, rfl, rfl, by decide +kernel, rfl, by decide +kernel, by decide +kernel⟩
theorem isi_tuple : PySem.W.kitOne K (.type "tuple") (.type "tuple") = some true := kit_ty (by decide +kernel)
theorem cal_is_triple (D : Dd K mg "is_triple" s_is_triple) (T : Txt K mg C) (c1 : Cal P w K mg base 2 "is_integer" spInt []) : Cal P w K mg base 4 "is_triple" spTriple [] := by
  refine D.cal (k := 3) sc_is_triple (fun vs H Q E h => ?_) (fun _ _ _ _ _ _ us hl => match us, hl with | [_, _], _ => rfl) (fun f cdv A outer s H vs Q E hr h => ?_)
  · obtain ⟨p, a, e, o, rfl, _⟩ := h
    rfl
  · obtain ⟨p, a, e, o, rfl, hp, ha, hs, ht, hne, q⟩ := h
    refine ⟨_, pss_cons (ps_if (PW.pt (pw_or (pt_not (pt_val (pe_callB call_isi rfl T.f_isinstance bo_isinstance (pa_cons (pv 0) (pa_cons (pe_bltn (v := .ty "tuple") rfl T.f_tuple bo_tuple rfl) pa_nil)))))
        (pw_or (pt_cmp (pc_neI (pe_callB call_len_seq rfl T.f_len bo_len (pa_cons (pv 0) pa_nil)) pe_int))
        (pw_or1 (pt_not (pt_val (pe_callB (cr_all rfl) rfl T.f_all bo_all (pa_cons (pe_lc (own := [("part", 2)]) rfl sc_is_triple.nd (pi_tup (pv 0)) (blkOk_by (by kernel_rfl)) (fun _ _ _ _ _ => pg_name (i := 2) sc_is_triple.nd rfl (Or.inl rfl)) (fun _ _ _ _ _ => pts_nil)
          (fun _ _ _ _ _ => pe_c c1 hr (by decide) rfl (pa_cons (pv 2) pa_nil))) pa_nil)))))))) (pss_one (ps_ret pe_bl)) pss_nil)
      (pss_one (ps_ret (pe_and (pe_cmpR op_in_seq (pe_ix ix_tup (pv 0) pe_int (fun _ _ => rfl)) (pv 1) rfl) (pe_and (pe_cmpR op_in_seq (pe_ix ix_tup (pv 0) pe_int (fun _ _ => rfl)) (pv 1) rfl) (pe_one (pe_cmp (pc_neI (pe_ix ix_tup (pv 0) pe_int (fun _ _ => rfl)) (pe_ix ix_tup (pv 0) pe_int (fun _ _ => rfl))))))))), ?_⟩
    refine ⟨_, rfl, .ref p, .ty "tuple", _, _, true, rfl, .ty _, .base (.tup hp), isi_tuple, true, rfl, ?_⟩
    refine iteF ?_
    refine ⟨_, rfl, p, _, rfl, .inr (SqT.of hp), _, _, rfl, rfl, false, rfl, ?_⟩
    refine iteF ?_
    refine ⟨_, rfl, p, rfl, ⟨_, SqT.of hp⟩, fun B hB => lc_same (walk_tup (xs := [.int e.n, .int e.s, .int e.t])) (fun _ y _ => y = some (.bl true)) (fun _ _ _ _ _ e => e) hB (by show 3 ≤ sizeLine; decide) (fun H' s => SqT.of (s _ _ hp)) ?_ ?_⟩
    · intro i x H' H2 R hi sm y hR
      obtain ⟨rfl, hx⟩ := y
      obtain ⟨n, _, rfl⟩ := get_int (ns := [e.n, e.s, e.t]) hx
      exact ⟨rfl, tyes ⟨_, rfl, n, rfl, hR _ _ rfl (Same.refl _)⟩⟩
    · intro ys H' sm hB' hl hr'
      rw [all_bl hl hr'] at hB'
      refine ⟨B, _, rfl, SqL.of hB', true, by rw [all_true], ?_⟩
      refine iteF ?_
      have hp' := sm _ _ hp
      have ha' : H' a = some (.lst (o.map V.int)) := sm _ _ ha
      have f0 : atI [V.int e.n, V.int e.s, V.int e.t] 1 = some (.int e.s) := atI_nat (j := 1) rfl
      have f1 : atI [V.int e.n, V.int e.s, V.int e.t] 2 = some (.int e.t) := atI_nat (j := 2) rfl
      refine ⟨_, rfl, p, _, _, _, rfl, rfl, SqT.of hp', f0, _, rfl, a, _, rfl, .inl (SqL.of ha'), rfl, flat_ints o, ?_⟩
      rw [if_neg Bool.false_ne_true, inV_int, decide_eq_true hs]
      refine ⟨true, rfl, iteT ?_⟩
      refine ⟨_, rfl, p, _, _, _, rfl, rfl, SqT.of hp', f1, _, rfl, a, _, rfl, .inl (SqL.of ha'), rfl, flat_ints o, ?_⟩
      rw [if_neg Bool.false_ne_true, inV_int, decide_eq_true ht]
      refine ⟨true, rfl, iteT ?_⟩
      refine ⟨_, rfl, p, _, _, _, rfl, rfl, SqT.of hp', f0, _, rfl, p, _, _, _, rfl, rfl, SqT.of hp', f1, _, _, rfl, rfl, ?_⟩
      show Q (.bl (!decide (e.s = e.t))) H'
      rw [decide_eq_false hne]
      exact q H' sm
/-! ### is_against -/
def spAgainst : Sp := fun vs H Q _ => ∃ (p a : Addr) (e : Tr) (o : List Int), vs = [.ref a, .ref p] ∧ TrTup H p e ∧ IL H a o ∧ e.s ∈ o ∧ e.t ∈ o ∧ Q (.bl (ag o e)) H
theorem sc_is_against : FnScope ["order", "transfer"] ["order", "transfer"] (defScope s_is_against) := ⟨rfl, rfl, rfl, by decide +kernel, rfl, by decide +kernel, by decide +kernel⟩
theorem index_ok {o : List Int} {x : Int} (h : x ∈ o) : ∃ z : V, (o.map V.int)[ix o x]? = some z ∧ eqV z (.int x) = true ∧ ∀ (m : Nat) (z' : V), m < ix o x → (o.map V.int)[m]? = some z' → eqV z' (.int x) = false := by
  have hlt : ix o x < o.length := List.idxOf_lt_length_of_mem h
  refine ⟨.int x, ?_, by rw [eqV_int, dec_self], fun m z' hm hz => ?_⟩
  · rw [List.getElem?_map, List.getElem?_eq_getElem hlt, List.getElem_idxOf hlt]
    rfl
  · obtain ⟨n, hn, rfl⟩ := get_int hz
    rw [eqV_int, decide_eq_false]
    rintro rfl
    have hm' : m < o.length := (List.getElem?_eq_some_iff.mp hn).1
    have e : o[m] = n := (List.getElem?_eq_some_iff.mp hn).2
    have := List.not_of_lt_findIdx (p := fun y => y == n) (xs := o) (i := m) hm
    rw [e] at this
    simp at this
theorem cal_is_against (D : Dd K mg "is_against" s_is_against) (T : Txt K mg C) : Cal P w K mg base 2 "is_against" spAgainst [] := by
  refine D.cal (k := 1) sc_is_against (fun vs H Q E h => ?_) (fun _ _ _ _ _ _ us hl => match us, hl with | [_, _], _ => rfl) (fun f cdv A outer s H vs Q E hr h => ?_)
  · obtain ⟨p, a, e, o, rfl, _⟩ := h
    rfl
  · obtain ⟨p, a, e, o, rfl, hp, ha, hs, ht, q⟩ := h
    have f0 : atI [V.int e.n, V.int e.s, V.int e.t] 1 = some (.int e.s) := atI_nat (j := 1) rfl
    have f1 : atI [V.int e.n, V.int e.s, V.int e.t] 2 = some (.int e.t) := atI_nat (j := 2) rfl
    obtain ⟨z1, g1, g2, g3⟩ := index_ok ht
    obtain ⟨z2, k1, k2, k3⟩ := index_ok hs
    refine ⟨_, pss_one (ps_ret (pe_cmp (pc_lt (pe_bm PySem.F.plainAttrs_list PySem.F.slot_list_index PySem.F.type_list_index mt_index (pv 0) (pa_cons (pe_ix ix_tup (pv 1) pe_int (fun _ _ => rfl)) pa_nil)) (pe_bm PySem.F.plainAttrs_list PySem.F.slot_list_index PySem.F.type_list_index mt_index (pv 0) (pa_cons (pe_ix ix_tup (pv 1) pe_int (fun _ _ => rfl)) pa_nil))))), ?_⟩
    refine ⟨_, rfl, .inl ⟨rfl, _, SqL.of ha⟩, _, rfl, p, _, _, _, rfl, rfl, SqT.of hp, f1, a, _, .int e.t, ix o e.t, z1, rfl, rfl, SqL.of ha, rfl, flat_ints o, g1, g2, g3, ?_⟩
    refine ⟨_, rfl, .inl ⟨rfl, _, SqL.of ha⟩, _, rfl, p, _, _, _, rfl, rfl, SqT.of hp, f0, a, _, .int e.s, ix o e.s, z2, rfl, rfl, SqL.of ha, rfl, flat_ints o, k1, k2, k3, ?_⟩
    refine ⟨_, _, rfl, rfl, ?_⟩
    have e : decide ((ix o e.t : Int) < (ix o e.s : Int)) = ag o e := decide_eq_decide.mpr Int.ofNat_lt
    show Q (.bl (decide ((ix o _ : Int) < (ix o _ : Int)))) H
    rw [e]
    exact q
end
end B58
set_option Elab.async false
set_option linter.all false
set_option maxRecDepth 100000
set_option maxHeartbeats 4000000
/-! The walks: nets and best ways. -/
namespace B58
open PySem PySem.Spec PyProof.Rows PySem.Calls L2 C8
section
variable {P : Program} {w : World} {K : PySem.W.Frag} {mg : Str → Option Value} {base : Heap} {C : Addr}
theorem get_ref {ps : List Addr} {i : Nat} {x : V} (h : (ps.map V.ref)[i]? = some x) : ∃ p, ps[i]? = some p ∧ x = .ref p := by
  rw [List.getElem?_map] at h
  cases e : ps[i]? with
  | none => rw [e] at h; cases h
  | some n => rw [e] at h; exact ⟨n, rfl, (Option.some.inj h).symm⟩
theorem get_same_len {α β : Type} {l : List α} {m : List β} (h : l.length = m.length) {i : Nat} {x : α} (e : l[i]? = some x) : ∃ y, m[i]? = some y := by
  have := (List.getElem?_eq_some_iff.mp e).1
  exact ⟨m[i]'(by omega), List.getElem?_eq_getElem (by omega)⟩
theorem perm_of_mem {l m : List Int} (h1 : l.Nodup) (h2 : m.Nodup) (h : ∀ x, x ∈ l ↔ x ∈ m) : l.Perm m := (List.perm_ext_iff_of_nodup h1 h2).mpr h
theorem mem_iff_get {α : Type} {l : List α} {x : α} : x ∈ l ↔ ∃ j, j < l.length ∧ l[j]? = some x := by
  rw [List.mem_iff_getElem?]
  exact ⟨fun ⟨i, e⟩ => ⟨i, (List.getElem?_eq_some_iff.mp e).1, e⟩, fun ⟨i, _, e⟩ => ⟨i, e⟩⟩
/-! ### need_transfers -/
def spNeedT : Sp := fun vs H Q _ => ∃ (a b : Addr) (o : List Int) (ts : List Tr) (first : List Int), vs = [.ref a, .ref b] ∧ IL H a o ∧ TsAt H b ts ∧ Net o ts first ∧ ∀ H', Same H H' → Q .non H'
theorem sc_need_transfers : FnScope ["order", "transfers", "one"] ["order", "transfers"] (defScope s_need_transfers) := ⟨rfl, rfl, rfl, by decide +kernel, rfl, by decide +kernel, by decide +kernel⟩
def nOf (ts : List Tr) (i : Nat) : Int := (ts[i]?.map fun e => e.n).getD 0
theorem nOf_get {ts : List Tr} {i : Nat} {e : Tr} (h : ts[i]? = some e) : nOf ts i = e.n := by
  show (ts[i]?.map fun e => e.n).getD 0 = e.n
  rw [h]
  rfl
theorem nOf_mem {ts : List Tr} {x : Int} : (∃ j, j < ts.length ∧ x = nOf ts j) ↔ x ∈ nums ts := by
  unfold nums
  rw [List.mem_map]
  constructor
  · rintro ⟨j, hj, e⟩
    refine ⟨ts[j], List.getElem_mem hj, ?_⟩
    rw [e, nOf_get (List.getElem?_eq_getElem hj)]
  · rintro ⟨e, he, rfl⟩
    obtain ⟨j, hj, h⟩ := mem_iff_get.mp he
    exact ⟨j, hj, (nOf_get h).symm⟩
theorem cal_need_transfers (D : Dd K mg "need_transfers" s_need_transfers) (T : Txt K mg C) (c1 : Cal P w K mg base 4 "are_different" spDiff []) (c2 : Cal P w K mg base 4 "is_triple" spTriple []) : Cal P w K mg base 6 "need_transfers" spNeedT [] := by
  refine D.cal (k := 5) sc_need_transfers (fun vs H Q E h => ?_) (fun _ _ _ _ _ _ us hl => match us, hl with | [_, _], _ => rfl) (fun f cdv A outer s H vs Q E hr h => ?_)
  · obtain ⟨a, b, o, ts, first, rfl, _⟩ := h
    rfl
  · obtain ⟨a, b, o, ts, first, rfl, ha, hb, N, q⟩ := h
    refine ⟨_, pss_cons (ps_if (pt_not (pt_val (pe_c c1 hr (by decide) rfl (pa_cons (pv 0) pa_nil)))) (pss_one ps_never) pss_nil)
      (pss_cons (ps_if (PW.pt (pw_or (pt_not (pt_val (pe_callB call_isiT rfl T.f_isinstance bo_isinstance (pa_cons (pv 1) (pa_cons (pe_tup (pa_cons (pe_bltn (v := .ty "list") rfl T.f_list bo_list rfl) (pa_cons (pe_bltn (v := .ty "tuple") rfl T.f_tuple bo_tuple rfl) pa_nil))) pa_nil)))))
        (pw_or1 (pt_not (pt_val (pe_callB (cr_all rfl) rfl T.f_all bo_all (pa_cons (pe_lc (own := [("one", 2)]) rfl sc_need_transfers.nd (pi_list (pv 1)) (blkOk_by (by kernel_rfl)) (fun _ _ _ _ _ => pg_name (i := 2) sc_need_transfers.nd rfl (Or.inl rfl)) (fun _ _ _ _ _ => pts_nil)
          (fun _ _ _ _ _ => pe_c c2 hr (by decide) rfl (pa_cons (pv 2) (pa_cons (pv 0) pa_nil)))) pa_nil))))))) (pss_one ps_never) pss_nil)
      (pss_one (ps_if (pt_cmp (pc_neI (pe_callB cr_lenSetL rfl T.f_len bo_len (pa_cons (pe_scI (own := [("one", 2)]) rfl sc_need_transfers.nd (pi_list (pv 1)) (blkOk_by (by kernel_rfl)) (fun _ _ _ _ _ => pg_name (i := 2) sc_need_transfers.nd rfl (Or.inl rfl)) (fun _ _ _ _ _ => pts_nil)
          (fun _ _ _ _ _ => pe_ix (ix_tup : IxR _ (rIxT K)) (pv 2) pe_int (fun _ _ => rfl))) pa_nil)) (pe_callB call_len_seq rfl T.f_len bo_len (pa_cons (pv 1) pa_nil)))) (pss_one ps_never) pss_nil))), ?_⟩
    refine ⟨_, rfl, a, o, rfl, ha, N.o_nd, Nat.lt_of_le_of_lt N.o_len (by decide), fun H1 s1 => ⟨true, rfl, iteF ?_⟩⟩
    refine ⟨_, rfl, (by show 2 ≤ sizeLine; decide), fun t ht => ?_⟩
    have s2 : Same H (upd H1 t (.tup [.ty "list", .ty "tuple"])) := s1.trans (same_new ht)
    generalize hH2 : upd H1 t (.tup [.ty "list", .ty "tuple"]) = H2 at s2 ⊢
    have ht2 : H2 t = some (.tup [.ty "list", .ty "tuple"]) := by rw [← hH2]; exact upd_same
    have hb2 := hb.same s2
    obtain ⟨ps, p1, p2, p3⟩ := id hb2
    refine ⟨.ref b, t, [.ty "list", .ty "tuple"], _, [.type "list", .type "tuple"], true, rfl, ht2, .cons (.ty _) (.cons (.ty _) .nil), .base (.lst p1), isi_list, true, rfl, ?_⟩
    refine iteF ?_
    have hz : (ps.map V.ref).length ≤ sizeLine := by
      rw [List.length_map, p2]
      exact Nat.le_trans N.t_len (by decide)
    refine ⟨_, rfl, b, rfl, ⟨_, SqL.of p1⟩, fun B hB => lc_same (walk_list (xs := ps.map V.ref)) (fun _ y _ => y = some (.bl true)) (fun _ _ _ _ _ e => e) hB hz (fun H' s => SqL.of (s _ _ p1)) ?_ ?_⟩
    · intro i x H' H'' R hi sm y hR
      obtain ⟨rfl, hx⟩ := y
      obtain ⟨p, hp, rfl⟩ := get_ref hx
      obtain ⟨e, he⟩ := get_same_len p2 hp
      have hm : e ∈ ts := List.mem_of_getElem? he
      exact ⟨rfl, tyes ⟨_, rfl, _, rfl, p, a, e, o, rfl, sm _ _ (p3 i p e hp he), sm _ _ (s2 _ _ ha), N.src e hm, N.tgt e hm, N.ne e hm, fun H3 s3 => hR _ _ rfl s3⟩⟩
    · intro ys H3 s3 hB3 hl hr'
      rw [all_bl hl hr'] at hB3
      refine ⟨B, _, rfl, SqL.of hB3, true, by rw [all_true], ?_⟩
      refine iteF ?_
      have p13 := s3 _ _ p1
      refine ⟨_, rfl, b, rfl, ⟨_, SqL.of p13⟩, fun B2 hB2 => sc_same (w := w) (walk_list (xs := ps.map V.ref)) (nOf ts) hB2 (fun H' s => SqL.of (s _ _ p13)) (fun l nd hm => ?_) ?_ ?_⟩
      · have : l.length ≤ (nums ts).length := nodup_len nd fun x hx => by
          obtain ⟨j, hj, e⟩ := hm x hx
          rw [List.length_map, p2] at hj
          exact nOf_mem.mp ⟨j, hj, e⟩
        have h5 := N.t_len
        unfold nums at this
        rw [List.length_map] at this
        show l.length + 1 < 4096
        omega
      · intro i x H' H'' R Z hi sm y hR
        obtain ⟨rfl, hx⟩ := y
        obtain ⟨p, hp, rfl⟩ := get_ref hx
        obtain ⟨e, he⟩ := get_same_len p2 hp
        refine ⟨rfl, tyes ⟨_, rfl, p, _, _, _, rfl, rfl, SqT.of (sm _ _ (s3 _ _ (p3 i p e hp he))), atI_nat (j := 0) rfl, ?_⟩⟩
        have := hR _ (Same.refl _)
        rw [nOf_get he] at this
        exact this
      · intro l H4 s4 hl4 nd hm
        refine ⟨B2, l, rfl, hl4, _, rfl, b, _, rfl, .inl (SqL.of (s4 _ _ p13)), _, _, rfl, rfl, ?_⟩
        have hlen : l.length = ts.length := by
          have hp : l.Perm (nums ts) := perm_of_mem nd N.t_nd fun x => by
            rw [hm, List.length_map, p2]
            exact nOf_mem
          rw [hp.length_eq]
          unfold nums
          rw [List.length_map]
        refine ⟨false, ?_, iteF (q H4 (s2.trans (s3.trans s4)))⟩
        show V.bl (!decide ((l.length : Int) = ((ps.map V.ref).length : Int))) = _
        rw [List.length_map, p2, hlen, dec_self]
        rfl
/-! ### need_net -/
def spNeedN : Sp := fun vs H Q _ => ∃ (a b c : Addr) (o : List Int) (ts : List Tr) (first : List Int), vs = [.ref a, .ref b, .ref c] ∧ IL H a o ∧ TsAt H b ts ∧ IL H c first ∧ Net o ts first ∧ ∀ H', Same H H' → Q .non H'
theorem sc_need_net : FnScope ["order", "transfers", "first", "area"] ["order", "transfers", "first"] (defScope s_need_net) := ⟨rfl, rfl, rfl, by decide +kernel, rfl, by decide +kernel, by decide +kernel⟩
theorem IL.same {H H' : Hp} {a : Addr} {ns : List Int} (h : IL H a ns) (s : Same H H') : IL H' a ns := s _ _ h
theorem Net.f_len {o : List Int} {ts : List Tr} {first : List Int} (N : Net o ts first) : first.length ≤ 5 := Nat.le_trans (nodup_len N.f_nd N.f_in) N.o_len
theorem cal_need_net (D : Dd K mg "need_net" s_need_net) (T : Txt K mg C) (c1 : Cal P w K mg base 4 "are_different" spDiff []) (c2 : Cal P w K mg base 6 "need_transfers" spNeedT []) : Cal P w K mg base 8 "need_net" spNeedN [] := by
  refine D.cal (k := 7) sc_need_net (fun vs H Q E h => ?_) (fun _ _ _ _ _ _ us hl => match us, hl with | [_, _, _], _ => rfl) (fun f cdv A outer s H vs Q E hr h => ?_)
  · obtain ⟨a, b, c, o, ts, first, rfl, _⟩ := h
    rfl
  · obtain ⟨a, b, c, o, ts, first, rfl, ha, hb, hc, N, q⟩ := h
    refine ⟨_, pss_cons (ps_expr (pe_c c2 hr (by decide) rfl (pa_cons (pv 0) (pa_cons (pv 1) pa_nil))))
      (pss_one (ps_if (PW.pt (pw_or (pt_not (pt_val (pe_c c1 hr (by decide) rfl (pa_cons (pv 2) pa_nil))))
        (pw_or1 (pt_not (pt_val (pe_callB (cr_all rfl) rfl T.f_all bo_all (pa_cons (pe_lc (own := [("area", 3)]) rfl sc_need_net.nd (pi_list (pv 2)) (blkOk_by (by kernel_rfl)) (fun _ _ _ _ _ => pg_name (i := 3) sc_need_net.nd rfl (Or.inl rfl)) (fun _ _ _ _ _ => pts_nil)
          (fun _ _ _ _ _ => pe_cmpR (op_in_seq : OpR _ _ (rIn K false)) (pv 3) (pv 0) rfl)) pa_nil))))))) (pss_one ps_never) pss_nil)), ?_⟩
    refine ⟨_, rfl, _, rfl, a, b, o, ts, first, rfl, ha, hb, N, fun H1 s1 => ?_⟩
    refine ⟨_, rfl, c, first, rfl, hc.same s1, N.f_nd, Nat.lt_of_le_of_lt N.f_len (by decide), fun H2 s2 => ⟨true, rfl, iteF ?_⟩⟩
    have hc2 : IL H2 c first := (hc.same s1).same s2
    have ha2 : IL H2 a o := (ha.same s1).same s2
    refine ⟨_, rfl, c, rfl, ⟨_, SqL.of hc2⟩, fun B hB => lc_same (walk_list (xs := first.map V.int)) (fun _ y _ => y = some (.bl true)) (fun _ _ _ _ _ e => e) hB (by rw [List.length_map]; exact Nat.le_trans N.f_len (by decide)) (fun H' s => SqL.of (s _ _ hc2)) ?_ ?_⟩
    · intro i x H' H'' R hi sm y hR
      obtain ⟨rfl, hx⟩ := y
      obtain ⟨n, hn, rfl⟩ := get_int hx
      refine ⟨rfl, tyes ⟨_, rfl, _, rfl, a, _, rfl, .inl (SqL.of (sm _ _ ha2)), rfl, flat_ints o, ?_⟩⟩
      rw [if_neg Bool.false_ne_true, inV_int, decide_eq_true (N.f_in n (List.mem_of_getElem? hn))]
      exact hR _ _ rfl (Same.refl _)
    · intro ys H3 s3 hB3 hl hr'
      rw [all_bl hl hr'] at hB3
      exact ⟨B, _, rfl, SqL.of hB3, true, by rw [all_true], iteF (q H3 (s1.trans (s2.trans s3)))⟩
end
end B58
set_option Elab.async false
set_option maxRecDepth 100000
/-! Plain mathematics, part 3: what is missing, what it shows. -/
namespace B58
inductive Act where
  | car (n : Int)
  | vis (a : Int)
deriving DecidableEq
/-- a round of visits, the carry behind the target's -/
def rnd1 (o : List Int) (e : Tr) : List Act := o.flatMap fun a => if a = e.t then [.vis a, .car e.n] else [.vis a]
/-- missing's list, the waiting ones ahead -/
def misW (o : List Int) : List Tr → List Tr → List Act
  | _, [] => []
  | wt, e :: es => if ag o e = true then (wt.map fun x => Act.car x.n) ++ (rnd1 o e ++ misW o [] es) else misW o (wt ++ [e]) es
def mis (o : List Int) (es : List Tr) : List Act := misW o [] es
theorem misW_nil {o : List Int} : ∀ {es wt : List Tr}, cnt o es = 0 → misW o wt es = []
  | [], _, _ => rfl
  | e :: es, wt, h => by
    rw [cnt_cons] at h
    by_cases ha : ag o e = true
    · rw [if_pos ha] at h
      omega
    · rw [if_neg ha] at h
      show (if ag o e = true then _ else misW o (wt ++ [e]) es) = []
      rw [if_neg ha]
      exact misW_nil h
/-- the numbers carried -/
def cars (l : List Act) : List Int := l.filterMap fun a => match a with
  | .car n => some n
  | .vis _ => none
theorem cars_app (l m : List Act) : cars (l ++ m) = cars l ++ cars m := List.filterMap_append
theorem cars_map (l : List Tr) : cars (l.map fun x => Act.car x.n) = nums l := by
  unfold cars nums
  rw [List.filterMap_map]
  induction l with
  | nil => rfl
  | cons x l ih =>
    rw [List.filterMap_cons, ih]
    rfl
theorem cars_rnd : ∀ {o : List Int} {e : Tr}, o.Nodup → (cars (rnd1 o e)) = if e.t ∈ o then [e.n] else []
  | [], _, _ => rfl
  | a :: o, e, h => by
    rw [List.nodup_cons] at h
    have ih := cars_rnd (e := e) h.2
    unfold rnd1 at ih ⊢
    rw [List.flatMap_cons, cars_app, ih]
    by_cases ha : a = e.t
    · rw [if_pos ha, if_neg (by rw [← ha]; exact h.1), if_pos (by rw [ha]; exact List.mem_cons_self)]
      rfl
    · rw [if_neg ha]
      by_cases hm : e.t ∈ o
      · rw [if_pos hm, if_pos (List.mem_cons_of_mem _ hm)]
        rfl
      · rw [if_neg hm, if_neg (fun z => (List.mem_cons.mp z).elim (fun z => ha z.symm) hm)]
        rfl
theorem cars_sub {o : List Int} (hn : o.Nodup) : ∀ {es wt : List Tr}, (cars (misW o wt es)).Sublist (nums (wt ++ es))
  | [], wt => by
    show List.Sublist [] _
    exact List.nil_sublist _
  | e :: es, wt => by
    show (cars (if ag o e = true then (wt.map fun x => Act.car x.n) ++ (rnd1 o e ++ misW o [] es) else misW o (wt ++ [e]) es)).Sublist _
    by_cases ha : ag o e = true
    · rw [if_pos ha, cars_app, cars_map, cars_app, cars_rnd hn]
      have ih := cars_sub hn (es := es) (wt := [])
      have e1 : nums (wt ++ e :: es) = nums wt ++ ([e.n] ++ nums es) := by
        unfold nums
        rw [List.map_append, List.map_cons]
        rfl
      rw [e1]
      refine List.Sublist.append (List.Sublist.refl _) (List.Sublist.append ?_ ih)
      split
      · exact List.Sublist.refl _
      · exact List.nil_sublist _
    · rw [if_neg ha]
      have ih := cars_sub hn (es := es) (wt := wt ++ [e])
      have e1 : (wt ++ [e]) ++ es = wt ++ e :: es := by simp
      rw [e1] at ih
      exact ih
/-! ### the simulation -/
/-- visits so far, way so far (with gaps), the place -/
def shn (ts : List Tr) : List Int → List (Tr × Nat) → Int → List Act → Option (List Int × List (Tr × Nat) × Int)
  | vs, wy, p, [] => some (vs, wy, p)
  | vs, wy, p, .vis a :: l => if a = p then none else shn ts (vs ++ [a]) wy p l
  | vs, wy, p, .car n :: l => match ts.find? fun e => decide (e.n = n ∧ e.s = p) with
    | some e => shn ts vs (wy ++ [(e, ts.length + vs.length)]) e.t l
    | none => shn ts vs wy p l
/-- the stays of a way: place, since, until -/
def stys : Int → List (Tr × Nat) → Int → Int → List (Int × Int × Int)
  | since, [], a, many => [(a, since, many + 1)]
  | since, x :: r, a, many => (x.1.s, since, (x.2 : Int)) :: stys x.2 r a many
/-- since when -/
def sinceOf : Int → List (Tr × Nat) → Int
  | s, [] => s
  | _, x :: r => sinceOf x.2 r
theorem shn_vis0 {ts : List Tr} {vs : List Int} {wy : List (Tr × Nat)} {a : Int} {l : List Act} : shn ts vs wy a (.vis a :: l) = none := if_pos rfl
theorem shn_vis1 {ts : List Tr} {vs : List Int} {wy : List (Tr × Nat)} {a p : Int} {l : List Act} (h : a ≠ p) : shn ts vs wy p (.vis a :: l) = shn ts (vs ++ [a]) wy p l := if_neg h
theorem shn_car0 {ts : List Tr} {vs : List Int} {wy : List (Tr × Nat)} {n p : Int} {l : List Act} (h : ts.find? (fun e => decide (e.n = n ∧ e.s = p)) = none) : shn ts vs wy p (.car n :: l) = shn ts vs wy p l := by
  show (match ts.find? fun e => decide (e.n = n ∧ e.s = p) with
    | some e => shn ts vs (wy ++ [(e, ts.length + vs.length)]) e.t l
    | none => shn ts vs wy p l) = _
  rw [h]
theorem shn_car1 {ts : List Tr} {vs : List Int} {wy : List (Tr × Nat)} {n p : Int} {l : List Act} {e : Tr} (h : ts.find? (fun e => decide (e.n = n ∧ e.s = p)) = some e) : shn ts vs wy p (.car n :: l) = shn ts vs (wy ++ [(e, ts.length + vs.length)]) e.t l := by
  show (match ts.find? fun e => decide (e.n = n ∧ e.s = p) with
    | some e => shn ts vs (wy ++ [(e, ts.length + vs.length)]) e.t l
    | none => shn ts vs wy p l) = _
  rw [h]
theorem sinceOf_snoc (s : Int) : ∀ (wy : List (Tr × Nat)) (x : Tr × Nat), sinceOf s (wy ++ [x]) = x.2
  | [], _ => rfl
  | y :: wy, x => sinceOf_snoc _ wy x
theorem stys_snoc : ∀ (s : Int) (wy : List (Tr × Nat)) (x : Tr × Nat) (a many : Int), stys s (wy ++ [x]) a many = (stys s wy a many).dropLast ++ [(x.1.s, sinceOf s wy, (x.2 : Int)), (a, (x.2 : Int), many + 1)]
  | s, [], x, a, many => rfl
  | s, y :: wy, x, a, many => by
    have ih := stys_snoc y.2 wy x a many
    show (y.1.s, s, (y.2 : Int)) :: stys y.2 (wy ++ [x]) a many = _
    rw [ih]
    show _ = ((y.1.s, s, (y.2 : Int)) :: stys y.2 wy a many).dropLast ++ _
    have hne : stys y.2 wy a many ≠ [] := by
      cases wy <;> (intro z; cases z)
    rw [List.dropLast_cons_of_ne_nil hne]
    rfl
theorem stys_last : ∀ (s : Int) (wy : List (Tr × Nat)) (a many : Int), stys s wy a many = (stys s wy a many).dropLast ++ [(a, sinceOf s wy, many + 1)]
  | s, [], a, many => rfl
  | s, y :: wy, a, many => by
    have ih := stys_last y.2 wy a many
    have hne : stys y.2 wy a many ≠ [] := by
      cases wy <;> (intro z; cases z)
    show (y.1.s, s, (y.2 : Int)) :: stys y.2 wy a many = ((y.1.s, s, (y.2 : Int)) :: stys y.2 wy a many).dropLast ++ _
    rw [List.dropLast_cons_of_ne_nil hne]
    show _ = (y.1.s, s, (y.2 : Int)) :: ((stys y.2 wy a many).dropLast ++ [(a, sinceOf y.2 wy, many + 1)])
    rw [← ih]
/-- the finished stays don't ask how many and where -/
theorem stys_drop : ∀ (s : Int) (wy : List (Tr × Nat)) (a many a' many' : Int), (stys s wy a many).dropLast = (stys s wy a' many').dropLast
  | _, [], _, _, _, _ => rfl
  | s, y :: wy, a, many, a', many' => by
    have h1 : stys y.2 wy a many ≠ [] := by cases wy <;> (intro z; cases z)
    have h2 : stys y.2 wy a' many' ≠ [] := by cases wy <;> (intro z; cases z)
    show ((y.1.s, s, (y.2 : Int)) :: stys y.2 wy a many).dropLast = ((y.1.s, s, (y.2 : Int)) :: stys y.2 wy a' many').dropLast
    rw [List.dropLast_cons_of_ne_nil h1, List.dropLast_cons_of_ne_nil h2, stys_drop y.2 wy a many a' many']
theorem path_snoc {ts : List Tr} {es : List Tr} {a b : Int} {e : Tr} (h : Path ts a es b) (he : e ∈ ts) (hs : e.s = b) : Path ts a (es ++ [e]) e.t := h.app ⟨he, hs, rfl⟩
/-- what holds of a way that is shown -/
structure Jr (ts : List Tr) (g : Int) (vs : List Int) (wy : List (Tr × Nat)) (p : Int) : Prop where
  path : Path ts g (wy.map Prod.fst) p
  gap : ∀ x ∈ wy, ts.length ≤ x.2 ∧ x.2 ≤ ts.length + vs.length
  asc : ∀ x ∈ wy, ∀ y : Tr × Nat, True
  pw : wy.Pairwise fun x y => x.2 ≤ y.2
  done : ∀ st ∈ (stys (-1) wy p ((ts.length + vs.length : Nat) : Int)).dropLast, ∀ (k : Nat) (v : Int), vs[k]? = some v → st.1 = v → ¬ (st.2.1 ≤ ((ts.length + k : Nat) : Int) ∧ ((ts.length + k : Nat) : Int) < st.2.2)
  now : ∀ (k : Nat) (v : Int), vs[k]? = some v → p = v → ¬ sinceOf (-1) wy ≤ ((ts.length + k : Nat) : Int)
theorem Jr.start (ts : List Tr) (g : Int) : Jr ts g [] [] g :=
  ⟨rfl, (fun _ h => nomatch h), (fun _ h => nomatch h), List.Pairwise.nil, (fun _ h => nomatch h), (fun k v h => nomatch h)⟩
/-- finished stays end by the gaps -/
theorem stays_until : ∀ {s : Int} {wy : List (Tr × Nat)} {a many M : Int}, (∀ x ∈ wy, (x.2 : Int) ≤ M) → ∀ st ∈ (stys s wy a many).dropLast, st.2.2 ≤ M
  | _, [], _, _, _, _, _, h => nomatch h
  | s, x :: wy, a, many, M, hM, st, h => by
    have hne : stys x.2 wy a many ≠ [] := by cases wy <;> (intro z; cases z)
    have h' : st ∈ (x.1.s, s, (x.2 : Int)) :: (stys x.2 wy a many).dropLast := by
      rw [← List.dropLast_cons_of_ne_nil hne]
      exact h
    rcases List.mem_cons.mp h' with e | h'
    · rw [e]
      exact hM x List.mem_cons_self
    · exact stays_until (fun y hy => hM y (List.mem_cons_of_mem _ hy)) st h'
theorem Jr.vis {ts : List Tr} {g : Int} {vs : List Int} {wy : List (Tr × Nat)} {p a : Int} (J : Jr ts g vs wy p) (h : a ≠ p) : Jr ts g (vs ++ [a]) wy p := by
  have hlast : ∀ {k : Nat} {v : Int}, (vs ++ [a])[k]? = some v → vs[k]? = some v ∨ (k = vs.length ∧ v = a) := fun {k v} e => by
    rcases Nat.lt_or_ge k vs.length with hk | hk
    · rw [List.getElem?_append_left hk] at e
      exact .inl e
    · rw [List.getElem?_append_right hk] at e
      have : k - vs.length = 0 := by
        rcases Nat.eq_zero_or_pos (k - vs.length) with z | z
        · exact z
        · rw [List.getElem?_eq_none (by simp only [List.length_singleton]; omega)] at e
          cases e
      rw [this] at e
      exact .inr ⟨by omega, (Option.some.inj e).symm⟩
  refine ⟨J.path, fun x hx => ?_, J.asc, J.pw, fun st hst k v hk e => ?_, fun k v hk e => ?_⟩
  · have := J.gap x hx
    rw [List.length_append]
    simp only [List.length_singleton]
    omega
  · rw [stys_drop (-1) wy p _ p ((ts.length + vs.length : Nat) : Int)] at hst
    rcases hlast hk with hk | ⟨hk, _⟩
    · exact J.done st hst k v hk e
    · have := stays_until (M := ((ts.length + vs.length : Nat) : Int)) (fun x hx => by have := (J.gap x hx).2; omega) st hst
      rw [hk]
      omega
  · rcases hlast hk with hk | ⟨_, hv⟩
    · exact J.now k v hk e
    · exact absurd (hv.symm.trans e.symm) h
theorem Jr.car {ts : List Tr} {g : Int} {vs : List Int} {wy : List (Tr × Nat)} {p : Int} (J : Jr ts g vs wy p) {e : Tr} (he : e ∈ ts) (hs : e.s = p) : Jr ts g vs (wy ++ [(e, ts.length + vs.length)]) e.t := by
  refine ⟨?_, fun x hx => ?_, (fun _ _ _ => True.intro), ?_, fun st hst k v hk ev => ?_, fun k v hk ev => ?_⟩
  · rw [List.map_append]
    exact path_snoc J.path he hs
  · rcases List.mem_append.mp hx with hx | hx
    · exact J.gap x hx
    · rw [List.mem_singleton.mp hx]
      exact ⟨Nat.le_add_right _ _, Nat.le_refl _⟩
  · rw [List.pairwise_append]
    refine ⟨J.pw, List.pairwise_singleton _ _, fun x hx y hy => ?_⟩
    rw [List.mem_singleton.mp hy]
    exact (J.gap x hx).2
  · rw [stys_snoc] at hst
    have e1 : ((stys (-1) wy e.t ((ts.length + vs.length : Nat) : Int)).dropLast ++ [(e.s, sinceOf (-1) wy, ((ts.length + vs.length : Nat) : Int)), (e.t, ((ts.length + vs.length : Nat) : Int), ((ts.length + vs.length : Nat) : Int) + 1)]).dropLast = (stys (-1) wy e.t ((ts.length + vs.length : Nat) : Int)).dropLast ++ [(e.s, sinceOf (-1) wy, ((ts.length + vs.length : Nat) : Int))] := by
      rw [List.dropLast_append_of_ne_nil (by intro z; cases z)]
      rfl
    rw [e1] at hst
    rcases List.mem_append.mp hst with hst | hst
    · rw [stys_drop (-1) wy e.t _ p ((ts.length + vs.length : Nat) : Int)] at hst
      exact J.done st hst k v hk ev
    · rw [List.mem_singleton.mp hst] at ev ⊢
      have := J.now k v hk (by rw [← hs]; exact ev)
      exact fun z => this z.1
  · rw [sinceOf_snoc]
    have : k < vs.length := (List.getElem?_eq_some_iff.mp hk).1
    show ¬ ((ts.length + vs.length : Nat) : Int) ≤ _
    omega
theorem shn_jr {ts : List Tr} {g : Int} : ∀ {l : List Act} {vs : List Int} {wy : List (Tr × Nat)} {p : Int} {r : List Int × List (Tr × Nat) × Int}, Jr ts g vs wy p → shn ts vs wy p l = some r →
    Jr ts g r.1 r.2.1 r.2.2 ∧ (nums (r.2.1.map Prod.fst)).Sublist (nums (wy.map Prod.fst) ++ cars l)
  | [], vs, wy, p, r, J, h => by
    cases (Option.some.inj h)
    refine ⟨J, ?_⟩
    show (nums (wy.map Prod.fst)).Sublist (nums (wy.map Prod.fst) ++ [])
    rw [List.append_nil]
    exact List.Sublist.refl _
  | .vis a :: l, vs, wy, p, r, J, h => by
    by_cases ha : a = p
    · rw [ha, shn_vis0] at h
      cases h
    · rw [shn_vis1 ha] at h
      exact shn_jr (l := l) (J.vis ha) h
  | .car n :: l, vs, wy, p, r, J, h => by
    cases hf : ts.find? fun e => decide (e.n = n ∧ e.s = p) with
    | none =>
      rw [shn_car0 hf] at h
      obtain ⟨h1, h2⟩ := shn_jr J h
      refine ⟨h1, h2.trans (List.Sublist.append (List.Sublist.refl _) ?_)⟩
      show (cars l).Sublist (n :: cars l)
      exact List.sublist_cons_self _ _
    | some e =>
      rw [shn_car1 hf] at h
      have hm := List.mem_of_find?_eq_some hf
      have hd := List.find?_some hf
      rw [decide_eq_true_eq] at hd
      obtain ⟨h1, h2⟩ := shn_jr (J.car hm hd.2) h
      refine ⟨h1, ?_⟩
      have e1 : nums ((wy ++ [(e, ts.length + vs.length)]).map Prod.fst) ++ cars l = nums (wy.map Prod.fst) ++ cars (.car n :: l) := by
        unfold nums
        rw [List.map_append, List.map_append, List.append_assoc]
        show _ ++ ([e.n] ++ cars l) = _ ++ (n :: cars l)
        rw [hd.1]
        rfl
      rw [e1] at h2
      exact h2
/-- the stays of what is shown are never hit -/
theorem Jr.free {ts : List Tr} {g : Int} {vs : List Int} {wy : List (Tr × Nat)} {p : Int} (J : Jr ts g vs wy p) : ∀ st ∈ stys (-1) wy p ((ts.length + vs.length : Nat) : Int), ∀ (k : Nat) (v : Int), vs[k]? = some v → st.1 = v → ¬ (st.2.1 ≤ ((ts.length + k : Nat) : Int) ∧ ((ts.length + k : Nat) : Int) < st.2.2) := by
  intro st hst k v hk e
  rw [stys_last] at hst
  rcases List.mem_append.mp hst with hst | hst
  · exact J.done st hst k v hk e
  · rw [List.mem_singleton.mp hst] at e ⊢
    exact fun z => J.now k v hk e z.1
/-! ### from the way's own start something is shown -/
theorem shn_app {ts : List Tr} : ∀ {l m : List Act} {vs : List Int} {wy : List (Tr × Nat)} {p : Int}, shn ts vs wy p (l ++ m) = (shn ts vs wy p l).bind fun r => shn ts r.1 r.2.1 r.2.2 m
  | [], m, vs, wy, p => rfl
  | .vis a :: l, m, vs, wy, p => by
    show shn ts vs wy p (.vis a :: (l ++ m)) = _
    by_cases ha : a = p
    · rw [ha, shn_vis0, shn_vis0]
      rfl
    · rw [shn_vis1 ha, shn_vis1 ha]
      exact shn_app
  | .car n :: l, m, vs, wy, p => by
    show shn ts vs wy p (.car n :: (l ++ m)) = _
    cases hf : ts.find? fun e => decide (e.n = n ∧ e.s = p) with
    | none =>
      rw [shn_car0 hf, shn_car0 hf]
      exact shn_app
    | some e =>
      rw [shn_car1 hf, shn_car1 hf]
      exact shn_app
theorem find_self {ts : List Tr} (hn : (nums ts).Nodup) {e : Tr} (he : e ∈ ts) : ts.find? (fun x => decide (x.n = e.n ∧ x.s = e.s)) = some e := by
  cases hf : ts.find? fun x => decide (x.n = e.n ∧ x.s = e.s) with
  | none =>
    have := List.find?_eq_none.mp hf e he
    simp at this
  | some x =>
    have hm := List.mem_of_find?_eq_some hf
    have hd := List.find?_some hf
    rw [decide_eq_true_eq] at hd
    rw [nums_inj hn hm he hd.1]
theorem shn_cars {ts : List Tr} (hn : (nums ts).Nodup) : ∀ {es : List Tr} {vs : List Int} {wy : List (Tr × Nat)} {p b : Int}, Path ts p es b → ∃ wy', shn ts vs wy p (es.map fun x => Act.car x.n) = some (vs, wy', b)
  | [], vs, wy, p, b, h => by
    cases (show p = b from h)
    exact ⟨wy, rfl⟩
  | e :: es, vs, wy, p, b, h => by
    obtain ⟨h1, h2, h3⟩ := h
    show ∃ wy', shn ts vs wy p (.car e.n :: es.map fun x => Act.car x.n) = _
    rw [← h2, shn_car1 (find_self hn h1)]
    exact shn_cars hn h3
theorem shn_viss {ts : List Tr} : ∀ {l : List Int} {vs : List Int} {wy : List (Tr × Nat)} {p : Int}, p ∉ l → shn ts vs wy p (l.map Act.vis) = some (vs ++ l, wy, p)
  | [], vs, wy, p, _ => by rw [List.append_nil]; rfl
  | a :: l, vs, wy, p, h => by
    show shn ts vs wy p (.vis a :: l.map Act.vis) = _
    rw [shn_vis1 (fun z => h (by rw [z]; exact List.mem_cons_self)), shn_viss (fun z => h (List.mem_cons_of_mem _ z))]
    simp
theorem rnd1_split {e : Tr} : ∀ {o : List Int}, o.Nodup → e.t ∈ o → ∃ l m, o = l ++ e.t :: m ∧ rnd1 o e = l.map Act.vis ++ (Act.vis e.t :: Act.car e.n :: m.map Act.vis) ∧ e.t ∉ l ∧ e.t ∉ m ∧ l.length = ix o e.t
  | a :: o, hn, hm => by
    rw [List.nodup_cons] at hn
    have other : ∀ {m : List Int}, e.t ∉ m → rnd1 m e = m.map Act.vis := fun {m} h => by
      induction m with
      | nil => rfl
      | cons x m ih =>
        unfold rnd1 at ih ⊢
        rw [List.flatMap_cons, if_neg (fun z => h (by rw [z]; exact List.mem_cons_self)), ih fun z => h (List.mem_cons_of_mem _ z)]
        rfl
    by_cases ha : a = e.t
    · refine ⟨[], o, by rw [ha]; rfl, ?_, (fun z => nomatch z), by rw [← ha]; exact hn.1, ?_⟩
      · have := other (m := o) (by rw [← ha]; exact hn.1)
        unfold rnd1 at this ⊢
        rw [List.flatMap_cons, if_pos ha, this, ha]
        rfl
      · show 0 = List.idxOf e.t (a :: o)
        rw [ha, List.idxOf_cons_self]
    · have hm' : e.t ∈ o := (List.mem_cons.mp hm).elim (fun z => absurd z.symm ha) id
      obtain ⟨l, m, h1, h2, h3, h4, h5⟩ := rnd1_split hn.2 hm'
      refine ⟨a :: l, m, by rw [h1]; rfl, ?_, fun z => (List.mem_cons.mp z).elim (fun z => ha z.symm) h3, h4, ?_⟩
      · unfold rnd1 at h2 ⊢
        rw [List.flatMap_cons, if_neg ha, h2]
        rfl
      · show l.length + 1 = List.idxOf e.t (a :: o)
        rw [List.idxOf_cons, h5]
        have : (a == e.t) = false := beq_false_of_ne ha
        rw [this]
        rfl
theorem shn_rnd {o : List Int} {ts : List Tr} (ho : o.Nodup) (hn : (nums ts).Nodup) {e : Tr} (he : e ∈ ts) (ht : e.t ∈ o) (ha : ag o e = true) {vs : List Int} {wy : List (Tr × Nat)} : ∃ vs' wy', shn ts vs wy e.s (rnd1 o e) = some (vs', wy', e.t) := by
  obtain ⟨l, m, h1, h2, h3, h4, h5⟩ := rnd1_split ho ht
  have hlt : ix o e.t < ix o e.s := of_decide_eq_true ha
  have hsl : e.s ∉ l := fun z => by
    have : ix o e.s < l.length := by
      show o.idxOf e.s < l.length
      rw [h1, List.idxOf_append, if_pos z]
      exact List.idxOf_lt_length_of_mem z
    omega
  have hne : e.t ≠ e.s := fun z => by
    rw [z] at hlt
    exact Nat.lt_irrefl _ hlt
  rw [h2, shn_app, shn_viss hsl]
  show ∃ vs' wy', shn ts (vs ++ l) wy e.s (.vis e.t :: .car e.n :: m.map Act.vis) = _
  rw [shn_vis1 hne, shn_car1 (find_self hn he)]
  exact ⟨_, _, shn_viss h4⟩
theorem shn_mis {o : List Int} {ts : List Tr} (ho : o.Nodup) (hn : (nums ts).Nodup) (hto : ∀ e ∈ ts, e.t ∈ o) : ∀ {es wt : List Tr} {vs : List Int} {wy : List (Tr × Nat)} {p q b : Int}, Path ts p wt q → Path ts q es b → ∃ r, shn ts vs wy p (misW o wt es) = some r
  | [], wt, vs, wy, p, q, b, _, _ => ⟨_, rfl⟩
  | e :: es, wt, vs, wy, p, q, b, h1, h2 => by
    obtain ⟨he, hs, h3⟩ := h2
    by_cases ha : ag o e = true
    · have e1 : misW o wt (e :: es) = (wt.map fun x => Act.car x.n) ++ (rnd1 o e ++ misW o [] es) := by
        show (if ag o e = true then _ else _) = _
        rw [if_pos ha]
      obtain ⟨wy1, g1⟩ := shn_cars hn (vs := vs) (wy := wy) h1
      obtain ⟨vs2, wy2, g2⟩ := shn_rnd ho hn he (hto e he) ha (vs := vs) (wy := wy1)
      obtain ⟨r, g3⟩ := shn_mis ho hn hto (es := es) (wt := []) (vs := vs2) (wy := wy2) (p := e.t) (q := e.t) rfl h3
      refine ⟨r, ?_⟩
      rw [e1, shn_app, g1]
      show shn ts vs wy1 q (rnd1 o e ++ misW o [] es) = _
      rw [← hs, shn_app, g2]
      exact g3
    · have e1 : misW o wt (e :: es) = misW o (wt ++ [e]) es := by
        show (if ag o e = true then _ else _) = _
        rw [if_neg ha]
      rw [e1]
      exact shn_mis ho hn hto (path_snoc h1 he hs) h3
/-! ### the number of rounds, with the way's edges -/
def RndE (o : List Int) (ts : List Tr) (first : List Int) (n : Nat) (es : List Tr) : Prop :=
  (first = [] ∧ n = 0 ∧ es = []) ∨ ∃ f b, f ∈ first ∧ Path ts f es b ∧ (nums es).Nodup ∧ n = cnt o es + 1 ∧ ∀ g ∈ first, ∀ fs b, Path ts g fs b → (nums fs).Nodup → cnt o fs ≤ cnt o es
theorem RndE.rnd {o : List Int} {ts : List Tr} {first : List Int} {n : Nat} {es : List Tr} (h : RndE o ts first n es) : Rnd o ts first n (nums es) := by
  rcases h with ⟨h1, rfl, rfl⟩ | ⟨f, b, hf, hp, hn, rfl, hm⟩
  · exact .nil h1
  · exact .some hf hp hn rfl hm
end B58
set_option Elab.async false
set_option linter.all false
set_option maxRecDepth 100000
set_option maxHeartbeats 4000000
/-! The walks: the best way. -/
namespace B58
open PySem PySem.Spec PyProof.Rows PySem.Calls L2 C8
/-- t + (x,) -/
def rSnoc : R2 := fun x y H Q => ∃ (a b : Addr) (xs : List V) (z : V), x = .ref a ∧ y = .ref b ∧ H a = some (.tup xs) ∧ H b = some (.tup [z]) ∧ xs.length + 1 ≤ sizeLine ∧ ∀ p H', Same H H' → H' p = some (.tup (xs ++ [z])) → Q (.ref p) H'
theorem op_snoc {X : Cx} : OpR X (binaryOp .Add) rSnoc := by
  intro pins s σ H x y v u Q I rx ry h
  obtain ⟨a, b, xs, z, rfl, rfl, ha, hb, hz, q⟩ := h
  refine op_catA pins s σ H _ _ v u Q I rx ry ⟨a, b, xs, [z], rfl, rfl, SqT.of ha, SqT.of hb, hz, fun e => ?_, fun _ e => by (cases e), fun _ _ p hp => q p _ (same_new hp) upd_same⟩
  subst e
  exact q b H (Same.refl _) hb
section
variable {P : Program} {w : World} {K : PySem.W.Frag} {mg : Str → Option Value} {base : Heap} {C : Addr}
def spBest (d : Nat) : Sp := fun vs H Q _ => ∃ (a b u : Addr) (o : List Int) (ts : List Tr) (first : List Int) (x : Int) (used : List Int), vs = [.ref a, .ref b, .int x, .ref u] ∧ IL H a o ∧ TsAt H b ts ∧ H u = some (.tup (used.map V.int)) ∧ Net o ts first ∧
  leftN ts used < d ∧ used.length + leftN ts used ≤ ts.length ∧ ∀ (H' : Hp) (p l : Addr) (c : Nat) (wl : List Int), Same H H' → H l = none → H' p = some (.tup [.int c, .ref l]) → IL H' l wl → Best ts o used x c wl → Q (.ref p) H'
theorem sc_best_way : FnScope ["order", "transfers", "area", "used", "best", "one", "count", "way"] ["order", "transfers", "area", "used"] (defScope s_best_way) := ⟨rfl, rfl, rfl, by decide +kernel, rfl, by decide +kernel, by decide +kernel⟩
theorem best_len {ts : List Tr} {o used : List Int} {x : Int} {c : Nat} {wl : List Int} (B : Best ts o used x c wl) : wl.length ≤ ts.length := by
  obtain ⟨es, b, h1, h2, _, rfl, _⟩ := B.wit
  have := h1.len h2
  unfold nums
  rw [List.length_map]
  exact this
theorem cal_best_way (D : Dd K mg "best_way" s_best_way) (T : Txt K mg C) (c1 : Cal P w K mg base 2 "is_against" spAgainst []) : ∀ d : Nat, Cal P w K mg base (4 + d) "best_way" (spBest d) []
  | 0 => by
    obtain ⟨f, fd, F, hm⟩ := D.ex
    have no : ∀ {vs H Q E}, spBest 0 vs H Q E → False := fun {vs H Q E} h => by
      obtain ⟨_, _, _, _, _, _, _, _, _, _, _, _, _, hd, _⟩ := h
      exact Nat.not_lt_zero _ hd
    exact ⟨f, fd, ["order", "transfers", "area", "used"], [], ⟨fun vs H Q E h => (no h).elim, fun A outer s H args us vs Q E _ _ _ _ h => (no h).elim⟩, hm, F.kp, F.bindsN fun _ _ _ _ _ _ us hl => (match us, hl with | [_, _, _, _], _ => rfl), .nil⟩
  | d + 1 => by
    have crec := cal_best_way D T c1 d
    refine D.cal (k := 4 + d) sc_best_way (fun vs H Q E h => ?_) (fun _ _ _ _ _ _ us hl => match us, hl with | [_, _, _, _], _ => rfl) (fun f cdv A outer s H vs Q E hr h => ?_)
    · obtain ⟨a, b, u, o, ts, first, x, used, rfl, _⟩ := h
      rfl
    · obtain ⟨a, b, u, o, ts, first, x, used, rfl, ha, hb, hu, N, hd, hl, q⟩ := h
      have nd := sc_best_way.nd
      refine ⟨_, pss_cons (ps_set (i := 4) nd rfl (Or.inl rfl) (pe_tup (pa_cons pe_int (pa_cons (pe_lst pa_nil) pa_nil))))
        (pss_cons (ps_for PassesOwn.never rfl (pi_list (pv 1)) (pg_name (i := 5) nd rfl (Or.inl rfl))
          (pss_one (ps_if (PW.pt (pw_and (pt_cmp (pc_eqI (pe_ix ix_tup (pv 5) pe_int (fun _ _ => rfl)) (pv 2))) (pw_and1 (pt_cmpR op_notIn_seq (pe_ix ix_tup (pv 5) pe_int (fun _ _ => rfl)) (pv 3) rfl))))
            (pss_cons (ps_asg (pe_c crec hr (Nat.le_refl _) rfl (pa_cons (pv 0) (pa_cons (pv 1) (pa_cons (pe_ix ix_tup (pv 5) pe_int (fun _ _ => rfl)) (pa_cons (pe_op op_snoc (pv 3) (pe_tup (pa_cons (pe_ix ix_tup (pv 5) pe_int (fun _ _ => rfl)) pa_nil))) pa_nil)))))
                (pg_tup rfl (pgs_cons (pg_name (i := 6) nd rfl (Or.inl rfl)) (pgs_cons (pg_name (i := 7) nd rfl (Or.inl rfl)) pgs_nil))))
            (pss_cons (ps_aug (i := 6) nd rfl (Or.inl rfl) (pe_callTy call_int1 rfl T.f_int bo_int (pa_cons (pe_c c1 hr (by omega) rfl (pa_cons (pv 0) (pa_cons (pv 5) pa_nil))) pa_nil)) ip_add)
            (pss_one (ps_if (pt_cmp (pc_gt (pv 6) (pe_ix ix_tup (pv 4) pe_int (fun _ _ => rfl))))
              (pss_one (ps_set (i := 4) nd rfl (Or.inl rfl) (pe_tup (pa_cons (pv 6) (pa_cons (pe_op op_cat (pe_lst (pa_cons (pe_ix ix_tup (pv 5) pe_int (fun _ _ => rfl)) pa_nil)) (pv 7)) pa_nil))))) pss_nil))))
            pss_nil)))
        (pss_one (ps_ret (pv 4)))), ?_⟩
      refine ⟨Nat.zero_le _, fun l0 hl0 => ⟨(by show 2 ≤ sizeLine; decide), fun p0 hp0 => ?_⟩⟩
      have s0 : Same H (upd (upd H l0 (.lst [])) p0 (.tup [.int 0, .ref l0])) := same_upd (same_new hl0) (by
        cases e : H p0 with
        | none => rfl
        | some z => rw [same_new hl0 _ _ e] at hp0; cases hp0)
      have nlp : l0 ≠ p0 := fun z => by
        rw [← z, upd_same] at hp0
        cases hp0
      have i0 : upd (upd H l0 (.lst [])) p0 (.tup [.int 0, .ref l0]) p0 = some (.tup [.int ((0 : Nat) : Int), .ref l0]) := upd_same
      have i1 : IL (upd (upd H l0 (.lst [])) p0 (.tup [.int 0, .ref l0])) l0 [] := by
        show upd (upd H l0 (.lst [])) p0 _ l0 = some (.lst [])
        rw [upd_ne nlp]
        exact upd_same
      generalize upd (upd H l0 (.lst [])) p0 (.tup [.int 0, .ref l0]) = H0 at s0 i0 i1 ⊢
      obtain ⟨ps, p1, p2, p3⟩ := id hb
      refine ⟨_, rfl, b, rfl, ⟨_, SqL.of (s0 _ _ p1)⟩, for_list (K := K) (a := b) (xs := ps.map V.ref) (fun i σ H' => Same H H' ∧ ∃ (p l : Addr) (c : Nat) (wl : List Int) (v5 v6 v7 : Option V), σ = [some (.ref a), some (.ref b), some (.int x), some (.ref u), some (.ref p), v5, v6, v7] ∧ H' p = some (.tup [.int c, .ref l]) ∧ IL H' l wl ∧ wl.length ≤ ts.length ∧ H l = none ∧ BestP ts o used x (ts.take i) c wl)
        ⟨s0, p0, l0, 0, [], none, none, none, rfl, i0, i1, Nat.zero_le _, hl0, BestP.start ts o used x⟩ (fun i σ H' _ p => SqL.of (p.1 _ _ p1)) ?_ ?_⟩
      · rintro i y σ H1 hi ⟨s1, p, l, c, wl, v5, v6, v7, rfl, hp, hwl, hwz, hln, B⟩
        obtain ⟨q1, hq1, rfl⟩ := get_ref hi
        obtain ⟨e, he⟩ := get_same_len p2 hq1
        have hm : e ∈ ts := List.mem_of_getElem? he
        have htk : ts.take (i + 1) = ts.take i ++ [e] := by
          rw [List.take_add_one, he]
          rfl
        have te : TrTup H1 q1 e := s1 _ _ (p3 i q1 e hq1 he)
        have f0 : atI [V.int e.n, V.int e.s, V.int e.t] 0 = some (.int e.n) := atI_nat (j := 0) rfl
        have f1 : atI [V.int e.n, V.int e.s, V.int e.t] 1 = some (.int e.s) := atI_nat (j := 1) rfl
        have f2 : atI [V.int e.n, V.int e.s, V.int e.t] 2 = some (.int e.t) := atI_nat (j := 2) rfl
        refine ⟨_, rfl, q1, _, _, _, rfl, rfl, SqT.of te, f1, _, rfl, _, _, rfl, rfl, _, rfl, ?_⟩
        refine ite2 (fun hsx => ?_) (fun hsx => ?_)
        · have hsx : e.s = x := of_decide_eq_true hsx
          refine ⟨_, rfl, q1, _, _, _, rfl, rfl, SqT.of te, f0, _, rfl, u, _, rfl, .inr (SqT.of (s1 _ _ hu)), rfl, flat_ints used, ?_⟩
          rw [if_pos rfl, inV_int]
          refine ⟨_, rfl, ite2 (fun hnu => ?_) (fun hnu => ?_)⟩
          · have hnu : e.n ∉ used := by
              intro z
              rw [decide_eq_true z] at hnu
              cases hnu
            refine ⟨_, rfl, _, rfl, _, rfl, q1, _, _, _, rfl, rfl, SqT.of te, f2, _, rfl, _, rfl, q1, _, _, _, rfl, rfl, SqT.of te, f0, (by show 1 ≤ sizeLine; decide), fun t ht => ?_⟩
            have s2 : Same H (upd H1 t (.tup [.int e.n])) := s1.trans (same_new ht)
            have hlu : used.length + 1 ≤ sizeLine := by
              have := N.t_len
              have hs : (5 : Nat) + 1 ≤ sizeLine := by decide
              omega
            refine ⟨u, t, _, .int e.n, rfl, rfl, s2 _ _ hu, upd_same, by rw [List.length_map]; exact hlu, fun u2 H2 s12 hu2 => ?_⟩
            have s3 : Same H H2 := s2.trans s12
            have s13 : Same H1 H2 := (same_new ht).trans s12
            have lt := leftN_lt hm hnu
            refine ⟨a, b, u2, o, ts, first, e.t, used ++ [e.n], rfl, ha.same s3, hb.same s3, by rw [hu2, List.map_append]; rfl, N, by omega, by rw [List.length_append, List.length_singleton]; omega, fun H3 p' l' c' wl' s4 _ hp' hwl' B' => ?_⟩
            have s5 : Same H H3 := s3.trans s4
            have te3 : TrTup H3 q1 e := s4 _ _ (s13 _ _ te)
            refine ⟨p', _, rfl, SqT.of hp', rfl, _, _, rfl, _, _, rfl, rfl, ?_⟩
            refine ⟨_, rfl, _, rfl, _, rfl, q1, a, e, o, rfl, te3, ha.same s5, N.src e hm, N.tgt e hm, .inr ⟨ag o e, rfl, _, _, rfl, rfl, ?_⟩⟩
            refine ⟨_, rfl, _, rfl, p, _, _, _, rfl, rfl, SqT.of (s4 _ _ (s13 _ _ hp)), atI_nat (j := 0) rfl, _, _, rfl, rfl, _, rfl, ?_⟩
            have ecast : ((c' : Int) + (if ag o e = true then 1 else 0)) = ((c' + (if ag o e = true then 1 else 0) : Nat) : Int) := by
              split <;> simp
            refine ite2 (fun hlt => ?_) (fun hlt => ?_)
            · have hlt : c < c' + (if ag o e = true then 1 else 0) := by
                have z : (c : Int) < (c' : Int) + (if ag o e = true then 1 else 0) := of_decide_eq_true hlt
                rw [ecast] at z
                exact Int.ofNat_lt.mp z
              have hz' := best_len B'
              refine ⟨_, rfl, _, rfl, q1, _, _, _, rfl, rfl, SqT.of te3, f0, (by show 1 ≤ sizeLine; decide), fun l1 hl1 => ?_⟩
              have s6 : Same H3 (upd H3 l1 (.lst [.int e.n])) := same_new hl1
              refine ⟨_, rfl, l1, l', [.int e.n], wl'.map V.int, rfl, rfl, upd_same, s6 _ _ hwl', ?_, fun l2 hl2 => ⟨(by show 2 ≤ sizeLine; decide), fun p2' hp2' => ?_⟩⟩
              · have := N.t_len
                have hs : (5 : Nat) + 1 ≤ sizeLine := by decide
                rw [List.length_map, List.length_singleton]
                omega
              have s7 : Same H3 (upd (upd H3 l1 (.lst [.int e.n])) l2 (.lst ([.int e.n] ++ wl'.map V.int))) := s6.trans (same_new hl2)
              have s8 := s7.trans (same_new (o := .tup [.int ((c' : Int) + (if ag o e = true then 1 else 0)), .ref l2]) hp2')
              have nlp2 : l2 ≠ p2' := fun z => by
                rw [← z, upd_same] at hp2'
                cases hp2'
              have j1 := nodup_len (ks := wl') (l := nums ts)
              refine ⟨s5.trans s8, p2', l2, c' + (if ag o e = true then 1 else 0), e.n :: wl', _, _, _, rfl, ?_, ?_, ?_, ?_, ?_⟩
              · rw [← ecast]
                exact upd_same
              · show upd _ p2' _ l2 = _
                rw [upd_ne nlp2, upd_same]
                rfl
              · have B2 := B.take hm hsx hnu B' hlt
                obtain ⟨es, bb, h1, h2, _, h3, _⟩ := B2.wit
                rw [h3]
                unfold nums
                rw [List.length_map]
                exact h1.len h2
              · exact (s5.trans s6).free hl2
              · rw [htk]
                exact B.take hm hsx hnu B' hlt
            · have hlt : ¬ c < c' + (if ag o e = true then 1 else 0) := fun z => hlt (decide_eq_true (by
                show (c : Int) < (c' : Int) + (if ag o e = true then 1 else 0)
                rw [ecast]
                exact Int.ofNat_lt.mpr z))
              refine ⟨s5, p, l, c, wl, _, _, _, rfl, s4 _ _ (s13 _ _ hp), (hwl.same s13).same s4, hwz, hln, ?_⟩
              rw [htk]
              exact B.keep B' hlt
          · refine ⟨s1, p, l, c, wl, _, _, _, rfl, hp, hwl, hwz, hln, ?_⟩
            rw [htk]
            refine B.skip fun z => hnu ?_
            rw [decide_eq_false z.2]
            rfl
        · refine iteF ⟨s1, p, l, c, wl, _, _, _, rfl, hp, hwl, hwz, hln, ?_⟩
          rw [htk]
          exact B.skip fun z => hsx (decide_eq_true z.1)
      · rintro σ H1 ⟨s1, p, l, c, wl, v5, v6, v7, rfl, hp, hwl, hwz, hln, B⟩
        rw [List.length_map, p2, List.take_length] at B
        exact ⟨_, rfl, q H1 p l c wl s1 hln hp hwl B.fin⟩
end
end B58
set_option Elab.async false
set_option linter.all false
set_option maxRecDepth 100000
set_option maxHeartbeats 4000000
/-! Rules of our own: a dict comprehension stored at once; int-keyed dicts by two lists. -/
namespace B58
open PySem PySem.Spec PyProof.Rows PySem.Calls L2
section
variable {X : Cx}
/-- y = {k: v for ..} on one line, y a local -/
theorem ps_setDc {i : Nat} {y : Str} {py : Pos} {kx vx tg iter : Expr} {ifs : List Expr} {scope : Scope} {own : List (Str × Nat)} {pos spos : Pos} {wi : TI} {g : TG} {tt : TT} {tk tv : TE} (hc : X.calm = true) (hN : X.N.Nodup) (hy : X.N[i]? = some y) (hyl : X.env.scope.names.lookup y = some .local)
    (hsw : swapsWith (.DictComp kx vx [⟨tg, iter, ifs, 0⟩] scope pos) (some (.Name y py)) spos.line X.env = pure true) (hi : PI X tg iter wi) (ok : BlkOk X.N X.env.scope scope own)
    (hg : ∀ (s : Shared) (H : Hp) (C : Addr) (cl : List (Str × Addr)) (fp : List Addr), PG (X.blk s H scope (compEnvC scope cl C X.env) fp) tg g) (ht : ∀ (s : Shared) (H : Hp) (C : Addr) (cl : List (Str × Addr)) (fp : List Addr), PTs (X.blk s H scope (compEnvC scope cl C X.env) fp) ifs tt)
    (hk : ∀ (s : Shared) (H : Hp) (C : Addr) (cl : List (Str × Addr)) (fp : List Addr), PE (X.blk s H scope (compEnvC scope cl C X.env) fp) kx tk)
    (he : ∀ (s : Shared) (H : Hp) (C : Addr) (cl : List (Str × Addr)) (fp : List Addr), PE (X.blk s H scope (compEnvC scope cl C X.env) fp) vx tv) (hs : ∀ x, foldedSetIterable iter X.env x = pure x := by intro _; rfl) :
    PS X (.Assign [.Name y py] (.DictComp kx vx [⟨tg, iter, ifs, 0⟩] scope pos) spos) (tAsg (tDc wi g tt tk tv (own.map (·.2))) (gName i)) := by
  refine ⟨fun pins s σ H D I h => ?_⟩
  rw [exec_Assign_Name_used _ _ _ _ hsw]
  refine wpAny_bind (wpAny_standAt (wpAny_bind ?_))
  show wpAny _ X.A (do let _ ← comprehension (.DictComp kx vx [⟨tg, iter, ifs, 0⟩] scope pos) scope X.env (firstIterPos [⟨tg, iter, ifs, 0⟩] pos) newDict false (eval iter X.env) (some (assign (.Name y py) X.env))) _ _ s
  have h : tDc wi g tt tk tv (own.map (·.2)) σ H (fun x H1 => gName i x σ H1 D.nx) := h
  refine wpAny_bind (thn (dc_core (Qf := fun _ s' => SP X pins D .next s') hc hN I hi ok hg ht hk he hs h fun L C s' m H' I' q hn f => ?_) fun _ s' hq => wpAny_pure (wpAny_pure hq))
  show wpAny _ _ (assign (.Name y py) X.env (.ref L)) _ _ _
  refine wpAny_assign_Name (store_ok2 (v := V.ref L) I' hN hy (.inl hyl) rfl (fun s2 I2 ⟨a, sb, ha⟩ => ?_) (.inr hyl))
  obtain ⟨f0, f1, f2, f3, f4, f5⟩ := f
  have haC : C ≠ a := by
    rcases ha with z | z
    · rw [z]; exact f1
    · exact fun e => f4 y a z e.symm
  refine ⟨m, hn.sameBut sb haC, fun h3 sb3 => ?_⟩
  exact ⟨_, H', I2.turned (t' := s2.toks) (fun b o hb e => (sb3.2 b hb).trans e) f0 f1 f3 f4 f5, q⟩
theorem sw_dc {kx vx : Expr} {gs : List Comprehension} {scope : Scope} {pos py : Pos} {y : Str} {l : Nat} {env : Env} (hk : env.scope.kind = .function) (hy : env.scope.names.lookup y = some .local) (hl : (py.line == pos.line) = true)
    (ha : (scope.names.any fun (n, k) => n == y && (k == .local || k == .cell)) = false) : swapsWith (.DictComp kx vx gs scope pos) (some (.Name y py)) l env = pure true := by
  have ky : env.kindOf y = some .local := hy
  have hb : env.blockKind = .function := by unfold Env.blockKind; rw [hk]; rfl
  unfold swapsWith
  simp only [hb, ky, ha, Expr.pos, hl]
  rfl
end
/-! ### int keys and their values -/
def dKz (ks : List Int) (vs : List V) : List (Key × V) := (ks.zip vs).map fun p => (Sum.inl p.1, p.2)
theorem dKz_length {ks : List Int} {vs : List V} (h : ks.length = vs.length) : (dKz ks vs).length = ks.length := by
  unfold dKz
  rw [List.length_map, List.length_zip, h, Nat.min_self]
theorem dKz_snoc {ks : List Int} {vs : List V} (h : ks.length = vs.length) (k : Int) (v : V) : dKz ks vs ++ [(Sum.inl k, v)] = dKz (ks ++ [k]) (vs ++ [v]) := by
  unfold dKz
  rw [List.zip_append h, List.map_append]
  rfl
theorem dKz_none : ∀ {ks : List Int} {vs : List V} {k : Int}, k ∉ ks → valV (dKz ks vs) (Sum.inl k) = none
  | [], _, _, _ => rfl
  | _ :: _, [], _, _ => rfl
  | x :: ks, v :: vs, k, h => by
    have ih := dKz_none (ks := ks) (vs := vs) fun z => h (List.mem_cons_of_mem _ z)
    show valV ((Sum.inl x, v) :: dKz ks vs) _ = none
    rw [valV_neg (fun z => h (by
      have z' : (Sum.inl x : Key) = Sum.inl k := z
      injection z' with z'
      rw [z']
      exact List.mem_cons_self))]
    exact ih
theorem dKz_get : ∀ {ks : List Int} {vs : List V} {i : Nat} {k : Int} {v : V}, ks.Nodup → ks[i]? = some k → vs[i]? = some v → valV (dKz ks vs) (Sum.inl k) = some v
  | [], _, _, _, _, _, h, _ => by simp at h
  | _ :: _, [], _, _, _, _, _, h => by simp at h
  | x :: ks, v :: vs, i, k, u, hn, h1, h2 => by
    rw [List.nodup_cons] at hn
    show valV ((Sum.inl x, v) :: dKz ks vs) _ = some u
    cases i with
    | zero =>
      have e1 : x = k := Option.some.inj h1
      have e2 : v = u := Option.some.inj h2
      rw [e1, e2]
      exact valV_pos rfl
    | succ i =>
      have h1 : ks[i]? = some k := by simpa using h1
      have h2 : vs[i]? = some u := by simpa using h2
      rw [valV_neg (fun z => hn.1 (by
        have z' : (Sum.inl x : Key) = Sum.inl k := z
        injection z' with z'
        rw [z']
        exact List.mem_of_getElem? h1))]
      exact dKz_get hn.2 h1 h2
/-- the dict of a comprehension whose keys are different and whose elements change nothing -/
theorem dc_same {J : It} {n : Nat} {G : Hp → Prop} {Y : Nat → Hp → V → Hp → Prop} (w : Walk J n G Y) {g : TG} {tt : TT} {tk tv : TE} {vs : List Nat} {σ : L2.St} {H1 : Hp} {D : Addr} {Qd : Hp → Prop} (ks : List Int) (us : List V)
    (hk : ks.length = n) (hu : us.length = n) (hn : ks.Nodup) (nD : H1 D = none) (hz : n ≤ sizeLine) (hG : ∀ H, Same H1 H → G H)
    (hs : ∀ i x H H' (k : Int) (u : V) (R : V → V → Hp → Prop) (Z : Hp → Prop), i < n → ks[i]? = some k → us[i]? = some u → Same H1 H → Y i H x H' → (∀ H'', Same H H'' → R (.int k) u H'') →
      g x (wipe σ vs) H' fun σ2 H2 => wipe σ2 vs = wipe σ vs ∧ tt σ2 H2 fun b H3 => if b = true then tk σ2 H3 fun y H4 => tv σ2 H4 fun z H5 => R y z H5 else Z H3)
    (hd : ∀ H, Same H1 H → H D = some (.dK (dKz ks us)) → Qd H) :
    ∃ W : Nat → Nat → Hp → Prop, (∃ m, W 0 m (upd H1 D (.dK []))) ∧ ∀ i m H, W i m H →
      (J.stop i H ∧ Qd H) ∨ (J.go i H ∧ ∃ Nx : Hp → Prop, (∀ H', Nx H' → ∃ m', m' < m ∧ W (i + 1) m' H') ∧ ∀ x H', J.yld i H x H' → g x (wipe σ vs) H' fun σ2 H2 => wipe σ2 vs = wipe σ vs ∧ tt σ2 H2 fun b H3 =>
        if b = true then tk σ2 H3 fun y H4 => tv σ2 H4 fun z H5 => ∃ kvs k, y = kV k ∧ H5 D = some (.dK kvs) ∧ kvs.length < sizeLine ∧ Nx (upd H5 D (.dK (putK kvs k z))) else Nx H3) := by
  refine ⟨fun i m H => m = n - i ∧ i ≤ n ∧ Same H1 H ∧ H D = some (.dK (dKz (ks.take i) (us.take i))), ⟨n, (Nat.sub_zero n).symm, Nat.zero_le _, same_new nD, upd_same⟩, ?_⟩
  rintro i m H ⟨em, hi, sm, hD⟩
  have q := hG H sm
  rcases Nat.lt_or_ge i n with hlt | hge
  · obtain ⟨k, ek⟩ : ∃ k, ks[i]? = some k := ⟨ks[i]'(by omega), List.getElem?_eq_getElem (by omega)⟩
    obtain ⟨u, eu⟩ : ∃ u, us[i]? = some u := ⟨us[i]'(by omega), List.getElem?_eq_getElem (by omega)⟩
    refine .inr ⟨w.goes i H hlt q, fun H' => i + 1 ≤ n ∧ Same H1 H' ∧ H' D = some (.dK (dKz (ks.take (i + 1)) (us.take (i + 1)))), fun H' p' => ⟨n - (i + 1), by omega, rfl, p'⟩, fun x H' y => ?_⟩
    refine hs i x H H' k u _ _ hlt ek eu sm (w.yields i H x H' hlt q y) fun H5 s5 => ?_
    have hlen : (ks.take i).length = (us.take i).length := by rw [List.length_take, List.length_take, hk, hu]
    have hnot : k ∉ ks.take i := fun z => by
      obtain ⟨j, hj, e⟩ := List.mem_iff_getElem.mp z
      rw [List.length_take] at hj
      rw [List.getElem_take] at e
      have h2 : ks[i]'(by omega) = k := by
        have := ek
        rw [List.getElem?_eq_getElem (by omega)] at this
        exact Option.some.inj this
      have := List.pairwise_iff_getElem.mp hn j i (by omega) (by omega) (by omega)
      exact this (by rw [e, h2])
    refine ⟨_, Sum.inl k, rfl, s5 _ _ hD, ?_, hlt, same_upd (sm.trans s5) nD, ?_⟩
    · rw [dKz_length hlen, List.length_take]
      omega
    · rw [upd_same, putK_new _ (dKz_none hnot), dKz_snoc hlen, List.take_add_one, List.take_add_one, ek, eu]
      rfl
  · obtain rfl : i = n := Nat.le_antisymm hi hge
    refine .inl ⟨w.stops H q, hd H sm ?_⟩
    rw [hD, List.take_of_length_le (Nat.le_of_eq hk), List.take_of_length_le (Nat.le_of_eq hu)]
end B58
set_option Elab.async false
set_option linter.all false
set_option maxRecDepth 100000
set_option maxHeartbeats 4000000
/-! The walks: transfers. -/
namespace B58
open PySem PySem.Spec PyProof.Rows PySem.Calls L2 C8
/-! ### events -/
def kS (mv : Bool) : Str := if mv = true then "move" else "copy"
def evTup : Ev → List V
  | .beg n mv s t => [.str "begin", .int n, .str (kS mv), .int s, .int t]
  | .vis v => [.str "visit", .int v]
def EvAt (H : Hp) (p : Addr) (e : Ev) : Prop := H p = some (.tup (evTup e))
def EvsAt (H : Hp) (b : Addr) (es : List Ev) : Prop := ∃ ps : List Addr, H b = some (.lst (ps.map V.ref)) ∧ ps.length = es.length ∧ ∀ (i : Nat) (p : Addr) (e : Ev), ps[i]? = some p → es[i]? = some e → EvAt H p e
theorem EvsAt.keep {H H' : Hp} {b : Addr} {es : List Ev} (h : EvsAt H b es) (hb : ∀ xs, H b = some (.lst xs) → H' b = some (.lst xs)) (k : TupKeep H H') : EvsAt H' b es := by
  obtain ⟨ps, h1, h2, h3⟩ := h
  exact ⟨ps, hb _ h1, h2, fun i p e a b => k _ _ (h3 i p e a b)⟩
theorem EvsAt.same {H H' : Hp} {b : Addr} {es : List Ev} (h : EvsAt H b es) (s : Same H H') : EvsAt H' b es := h.keep (fun xs e => s _ _ e) (same_tups s)
/-! ### instances -/
theorem sk_ks : ¬ (("source" : Str) = "kind") := by decide +kernel
def trF (mv : Bool) (s t : Int) (b : Nat) : List (Str × V) := putF "ended" .non (putF "began" (.int b) (putF "target" (.int t) (putF "source" (.int s) (putF "kind" (.str (kS mv)) []))))
theorem trF_ended (mv : Bool) (s t : Int) (b : Nat) : (trF mv s t b).lookup ("ended" : Str) = some (V.non) := by
  unfold trF
  rw [lookup_putF, if_pos rfl]
theorem trF_began (mv : Bool) (s t : Int) (b : Nat) : (trF mv s t b).lookup ("began" : Str) = some (V.int b) := by
  unfold trF
  rw [lookup_putF, if_neg (by decide +kernel), lookup_putF, if_pos rfl]
theorem trF_target (mv : Bool) (s t : Int) (b : Nat) : (trF mv s t b).lookup ("target" : Str) = some (V.int t) := by
  unfold trF
  rw [lookup_putF, if_neg (by decide +kernel), lookup_putF, if_neg (by decide +kernel), lookup_putF, if_pos rfl]
theorem trF_source (mv : Bool) (s t : Int) (b : Nat) : (trF mv s t b).lookup ("source" : Str) = some (V.int s) := by
  unfold trF
  rw [lookup_putF, if_neg (by decide +kernel), lookup_putF, if_neg (by decide +kernel), lookup_putF, if_neg (by decide +kernel), lookup_putF, if_pos rfl]
theorem trF_kind (mv : Bool) (s t : Int) (b : Nat) : (trF mv s t b).lookup ("kind" : Str) = some (V.str (kS mv)) := by
  unfold trF
  rw [lookup_putF, if_neg (by decide +kernel), lookup_putF, if_neg (by decide +kernel), lookup_putF, if_neg (by decide +kernel), lookup_putF, if_neg (by decide +kernel), lookup_putF, if_pos rfl]
theorem trF_no (mv : Bool) (s t : Int) (b : Nat) {m : Str} (h1 : ¬ m = "ended") (h2 : ¬ m = "began") (h3 : ¬ m = "target") (h4 : ¬ m = "source") (h5 : ¬ m = "kind") : (trF mv s t b).lookup m = none := by
  unfold trF
  rw [lookup_putF, if_neg h1, lookup_putF, if_neg h2, lookup_putF, if_neg h3, lookup_putF, if_neg h4, lookup_putF, if_neg h5]
  rfl
theorem length_putF (f : Str) (v : V) : ∀ fs : List (Str × V), (putF f v fs).length ≤ fs.length + 1
  | [] => Nat.le_refl _
  | (g, x) :: r => by
    have ih := length_putF f v r
    unfold putF
    split
    · exact Nat.le_succ _
    · rw [List.length_cons, List.length_cons]
      omega
/-- the instance at p -/
def InsAt (C : Addr) (H : Hp) (p : Addr) (e : Tr) (mv : Bool) (b : Nat) : Prop := ∃ dx, H p = some (.ins C dx (trF mv e.s e.t b))
/-- the dict of the transfers -/
def TrD (C : Addr) (H : Hp) (d : Addr) (ts : List Tr) (ks : List Bool) : Prop := ∃ ps : List Addr, H d = some (.dK (dKz (nums ts) (ps.map V.ref))) ∧ ps.length = ts.length ∧ ∀ (i : Nat) (p : Addr) (e : Tr) (mv : Bool), ps[i]? = some p → ts[i]? = some e → ks[i]? = some mv → InsAt C H p e mv i
theorem TrD.same {C : Addr} {H H' : Hp} {d : Addr} {ts : List Tr} {ks : List Bool} (h : TrD C H d ts ks) (s : Same H H') : TrD C H' d ts ks := by
  obtain ⟨ps, h1, h2, h3⟩ := h
  exact ⟨ps, s _ _ h1, h2, fun i p e mv a b c => let ⟨dx, g⟩ := h3 i p e mv a b c; ⟨dx, s _ _ g⟩⟩
structure Di (K : PySem.W.Frag) (C : Addr) : Prop where
  ex : ∃ f fd, Mk K C f ∧ FunD K "__init__" "Transfer.__init__" (defArgs sTrInit) (defBody sTrInit) (defScope sTrInit) [] [] f fd
section
variable {P : Program} {w : World} {K : PySem.W.Frag} {mg : Str → Option Value} {base : Heap} {C : Addr}
/-! ### Transfer.__init__ -/
def spTr (C : Addr) : Sp := fun vs H Q _ => ∃ (x p dx : Addr) (n : Int) (mv : Bool) (s t : Int) (b : Nat), vs = [.ref x, .ref p, .int b] ∧ H x = some (.ins C dx []) ∧ EvAt H p (.beg n mv s t) ∧ ∀ H' : Hp, (∀ q o, H q = some o → q ≠ x → H' q = some o) → H' x = some (.ins C dx (trF mv s t b)) → Q .non H'
theorem sc_init : FnScope ["self", "event", "began"] ["self", "event", "began"] (defScope sTrInit) := ⟨rfl, rfl, rfl, by decide +kernel, rfl, by decide +kernel, by decide +kernel⟩
theorem mak_tr (D : Di K C) (T : Txt K mg C) : Mak P w K mg base 2 "Transfer" C (spTr C) [] := by
  obtain ⟨f, fd, M, F⟩ := D.ex
  refine ⟨f, fd, ["self", "event", "began"], [], M, funD_ok0 (k := 1) F sc_init (fun vs H Q E h => ?_) (fun A outer s H vs Q E hr h => ?_), T.mgC, F.bindsN (fun _ _ _ _ _ _ us hl => match us, hl with | [_, _, _], _ => rfl), .nil⟩
  · obtain ⟨x, p, dx, n, mv, s, t, b, rfl, _⟩ := h
    rfl
  · obtain ⟨x, p, dx, n, mv, s, t, b, rfl, hx, hp, q⟩ := h
    refine ⟨_, pss_cons (ps_fld (pv 0) (pe_ix ix_tup (pv 1) pe_int (fun _ _ => rfl)) rfl) (pss_cons (ps_fld (pv 0) (pe_ix ix_tup (pv 1) pe_int (fun _ _ => rfl)) rfl) (pss_cons (ps_fld (pv 0) (pe_ix ix_tup (pv 1) pe_int (fun _ _ => rfl)) rfl) (pss_cons (ps_fld (pv 0) (pv 2) rfl) (pss_one (ps_fld (pv 0) pe_non rfl))))), ?_⟩
    have npx : p ≠ x := ne_of hp hx (by intro z; cases z)
    have e2 : atI (evTup (.beg n mv s t)) 2 = some (.str (kS mv)) := atI_nat (j := 2) rfl
    have e3 : atI (evTup (.beg n mv s t)) 3 = some (.int s) := atI_nat (j := 3) rfl
    have e4 : atI (evTup (.beg n mv s t)) 4 = some (.int t) := atI_nat (j := 4) rfl
    have keep : ∀ {H' : Hp} {o : HO}, EvAt H' p (.beg n mv s t) → EvAt (upd H' x o) p (.beg n mv s t) := fun {H' o} h => by
      show upd H' x o p = _
      rw [upd_ne npx]
      exact h
    have hp1 := keep (o := .ins C dx (putF "kind" (.str (kS mv)) [])) hp
    have hp2 := keep (o := .ins C dx (putF "source" (.int s) (putF "kind" (.str (kS mv)) []))) hp1
    refine ⟨_, rfl, p, _, _, _, rfl, rfl, SqT.of hp, e2, _, rfl, x, C, dx, _, rfl, hx, T.cls, T.n_kind, (by show 0 < 1000; decide), ?_⟩
    refine ⟨_, rfl, p, _, _, _, rfl, rfl, SqT.of hp1, e3, _, rfl, x, C, dx, _, rfl, upd_same, T.cls, T.n_source, (by show 1 < 1000; decide), ?_⟩
    refine ⟨_, rfl, p, _, _, _, rfl, rfl, SqT.of hp2, e4, _, rfl, x, C, dx, _, rfl, upd_same, T.cls, T.n_target, ?_, ?_⟩
    · have := length_putF "source" (.int s) (putF "kind" (.str (kS mv)) [])
      have h1 : (putF "kind" (.str (kS mv)) ([] : List (Str × V))).length = 1 := rfl
      omega
    refine ⟨_, rfl, _, rfl, x, C, dx, _, rfl, upd_same, T.cls, T.n_began, ?_, ?_⟩
    · have := length_putF "target" (.int t) (putF "source" (.int s) (putF "kind" (.str (kS mv)) []))
      have h2 := length_putF "source" (.int s) (putF "kind" (.str (kS mv)) [])
      have h1 : (putF "kind" (.str (kS mv)) ([] : List (Str × V))).length = 1 := rfl
      omega
    refine ⟨_, rfl, x, C, dx, _, rfl, upd_same, T.cls, T.n_ended, ?_, ?_⟩
    · have h4 := length_putF "began" (.int (b : Int)) (putF "target" (.int t) (putF "source" (.int s) (putF "kind" (.str (kS mv)) [])))
      have := length_putF "target" (.int t) (putF "source" (.int s) (putF "kind" (.str (kS mv)) []))
      have h2 := length_putF "source" (.int s) (putF "kind" (.str (kS mv)) [])
      have h1 : (putF "kind" (.str (kS mv)) ([] : List (Str × V))).length = 1 := rfl
      omega
    refine q _ (fun r o e hr => ?_) upd_same
    rw [upd_ne hr, upd_ne hr, upd_ne hr, upd_ne hr, upd_ne hr]
    exact e
/-! ### is_begin -/
def spBegin : Sp := fun vs H Q _ => ∃ (p : Addr) (n : Int) (mv : Bool) (s t : Int), vs = [.ref p] ∧ EvAt H p (.beg n mv s t) ∧ s ≠ t ∧ ∀ H', Same H H' → Q (.bl true) H'
theorem sc_is_begin : FnScope ["event", "at"] ["event"] (defScope s_is_begin) := ⟨rfl, rfl, rfl, by decide +kernel, rfl, by decide +kernel, by decide +kernel⟩
theorem isi_str : PySem.W.kitOne K (.type "str") (.type "str") = some true := kit_ty (by decide +kernel)
theorem in_kinds (mv : Bool) : inV (.str (kS mv)) [.str "copy", .str "move"] = true := by
  cases mv <;> decide +kernel
theorem cal_is_begin (D : Dd K mg "is_begin" s_is_begin) (T : Txt K mg C) (c1 : Cal P w K mg base 2 "is_integer" spInt []) : Cal P w K mg base 4 "is_begin" spBegin [] := by
  refine D.cal (k := 3) sc_is_begin (fun vs H Q E h => ?_) (fun _ _ _ _ _ _ us hl => match us, hl with | [_], _ => rfl) (fun f cdv A outer s H vs Q E hr h => ?_)
  · obtain ⟨p, n, mv, s, t, rfl, _⟩ := h
    rfl
  · obtain ⟨p, n, mv, s, t, rfl, hp, hne, q⟩ := h
    have nd := sc_is_begin.nd
    obtain ⟨ka, hka, hks⟩ := T.kinds
    refine ⟨_, pss_cons (ps_if (PW.pt (pw_or (pt_not (pt_val (pe_callB call_isi rfl T.f_isinstance bo_isinstance (pa_cons (pv 0) (pa_cons (pe_bltn (v := .ty "tuple") rfl T.f_tuple bo_tuple rfl) pa_nil)))))
        (pw_or (pt_cmp (pc_neI (pe_callB call_len_seq rfl T.f_len bo_len (pa_cons (pv 0) pa_nil)) pe_int))
        (pw_or (pt_not (pt_val (pe_callB call_isi rfl T.f_isinstance bo_isinstance (pa_cons (pe_ix ix_tup (pv 0) pe_int (fun _ _ => rfl)) (pa_cons (pe_bltn (v := .ty "str") rfl T.f_str bo_str rfl) pa_nil)))))
        (pw_or1 (pt_cmpR op_notIn_seq (pe_ix ix_tup (pv 0) pe_int (fun _ _ => rfl)) (pe_glob (v := .ref ka) rfl hka rfl) rfl)))))) (pss_one (ps_ret pe_bl)) pss_nil)
      (pss_one (ps_ret (pe_and (pe_callB (cr_all rfl) rfl T.f_all bo_all (pa_cons (pe_lc (own := [("at", 1)]) rfl nd (pi_tup (pe_tup (pa_cons pe_int (pa_cons pe_int (pa_cons pe_int pa_nil))))) (blkOk_by (by kernel_rfl)) (fun _ _ _ _ _ => pg_name (i := 1) nd rfl (Or.inl rfl)) (fun _ _ _ _ _ => pts_nil)
          (fun _ _ _ _ _ => pe_c c1 hr (by decide) rfl (pa_cons (pe_ix (ix_tup : IxR _ (rIxT K)) (pv 0) (pv 1) (fun _ _ => rfl)) pa_nil))) pa_nil))
        (pe_one (pe_cmp (pc_neI (pe_ix ix_tup (pv 0) pe_int (fun _ _ => rfl)) (pe_ix ix_tup (pv 0) pe_int (fun _ _ => rfl)))))))), ?_⟩
    refine ⟨_, rfl, .ref p, .ty "tuple", _, _, true, rfl, .ty _, .base (.tup hp), isi_tuple, true, rfl, iteF ?_⟩
    refine ⟨_, rfl, p, _, rfl, .inr (SqT.of hp), _, _, rfl, rfl, false, rfl, iteF ?_⟩
    refine ⟨_, rfl, p, _, _, _, rfl, rfl, SqT.of hp, atI_nat (j := 2) rfl, .str (kS mv), .ty "str", _, _, true, rfl, .ty _, .base (.str _), isi_str, true, rfl, iteF ?_⟩
    refine ⟨_, rfl, p, _, _, _, rfl, rfl, SqT.of hp, atI_nat (j := 2) rfl, ka, _, rfl, .inr (hks H), rfl, rfl, ?_⟩
    rw [if_pos rfl]
    refine ⟨false, ?_, iteF ?_⟩
    · show V.bl (!inV (.str (kS mv)) [.str "copy", .str "move"]) = _
      rw [in_kinds]
      rfl
    refine ⟨(by show 3 ≤ sizeLine; decide), fun t3 ht3 => ?_⟩
    have s1 : Same H (upd H t3 (.tup [.int 1, .int 3, .int 4])) := same_new ht3
    have hp1 := s1 _ _ hp
    have ht4 : upd H t3 (.tup [.int 1, .int 3, .int 4]) t3 = some (.tup [.int 1, .int 3, .int 4]) := upd_same
    generalize upd H t3 (.tup [.int 1, .int 3, .int 4]) = H1 at s1 hp1 ht4 ⊢
    refine ⟨t3, rfl, ⟨_, SqT.of ht4⟩, fun B hB => lc_same (walk_tup (xs := [.int 1, .int 3, .int 4])) (fun _ y _ => y = some (.bl true)) (fun _ _ _ _ _ e => e) hB (by show 3 ≤ sizeLine; decide) (fun H' s => SqT.of (s _ _ ht4)) ?_ ?_⟩
    · intro i x H' H2 R hi sm y hR
      obtain ⟨rfl, hx⟩ := y
      have hp2 := sm _ _ hp1
      have key : ∃ (k : Nat) (z : Int), x = .int (k : Int) ∧ (evTup (.beg n mv s t))[k]? = some (.int z) := by
        rcases i with _ | _ | _ | i
        · exact ⟨1, n, (Option.some.inj hx).symm, rfl⟩
        · exact ⟨3, s, (Option.some.inj hx).symm, rfl⟩
        · exact ⟨4, t, (Option.some.inj hx).symm, rfl⟩
        · simp at hx
      obtain ⟨k, z, rfl, hz⟩ := key
      exact ⟨rfl, tyes ⟨_, rfl, _, rfl, p, _, _, _, rfl, rfl, SqT.of hp2, atI_nat hz, z, rfl, hR _ _ rfl (Same.refl _)⟩⟩
    · intro ys H' sm hB' hl hr'
      rw [all_bl hl hr'] at hB'
      have hp2 := sm _ _ hp1
      refine ⟨B, _, rfl, SqL.of hB', true, by rw [all_true], iteT ?_⟩
      refine ⟨_, rfl, p, _, _, _, rfl, rfl, SqT.of hp2, atI_nat (j := 3) rfl, _, rfl, p, _, _, _, rfl, rfl, SqT.of hp2, atI_nat (j := 4) rfl, _, _, rfl, rfl, ?_⟩
      show Q (.bl (!decide (s = t))) H'
      rw [decide_eq_false hne]
      exact q H' (s1.trans sm)
end
end B58
set_option Elab.async false
set_option linter.all false
set_option maxRecDepth 100000
set_option maxHeartbeats 4000000
/-! The walks: takes, transfers_of, under_way. -/
namespace B58
open PySem PySem.Spec PyProof.Rows PySem.Calls L2 C8
structure Dg (K : PySem.W.Frag) (C : Addr) : Prop where
  ex : ∃ f fd, Meth K C "last_gap" f ∧ FunD K "last_gap" "Transfer.last_gap" (defArgs sTrGap) (defBody sTrGap) (defScope sTrGap) [] [] f fd
section
variable {P : Program} {w : World} {K : PySem.W.Frag} {mg : Str → Option Value} {base : Heap} {C : Addr}
/-! ### last_gap -/
def spGap (C : Addr) : Sp := fun vs H Q _ => ∃ (p : Addr) (e : Tr) (mv : Bool) (b : Nat) (m : Int), vs = [.ref p, .int m] ∧ InsAt C H p e mv b ∧ Q (.int m) H
theorem sc_gap : FnScope ["self", "many"] ["self", "many"] (defScope sTrGap) := ⟨rfl, rfl, rfl, by decide +kernel, rfl, by decide +kernel, by decide +kernel⟩
theorem met_gap (D : Dg K C) (T : Txt K mg C) : Met P w K mg base 2 C "last_gap" (spGap C) [] := by
  obtain ⟨f, fd, M, F⟩ := D.ex
  refine ⟨f, fd, ["self", "many"], [], T.cls, M, funD_ok0 (k := 1) F sc_gap (fun vs H Q E h => ?_) (fun A outer s H vs Q E hr h => ?_), F.bindsN (fun _ _ _ _ _ _ us hl => match us, hl with | [_, _], _ => rfl), .nil⟩
  · obtain ⟨p, e, mv, b, m, rfl, _⟩ := h
    rfl
  · obtain ⟨p, e, mv, b, m, rfl, ⟨dx, hp⟩, q⟩ := h
    refine ⟨_, pss_one (ps_ret (pe_ifExp (pt_cmp (pc_isN (pe_fld (pv 0) rfl))) (pv 1) (pe_fld (pv 0) rfl))), ?_⟩
    exact ⟨_, rfl, p, C, dx, _, _, rfl, hp, T.cls, T.n_ended, trF_ended _ _ _ _, true, rfl, iteT ⟨_, rfl, q⟩⟩
/-! ### takes -/
def spTakes (C : Addr) : Sp := fun vs H Q _ => ∃ (f p : Addr) (i : Nat), vs = [.ref f, .ref p, .int i] ∧ ((∃ (n : Int) (mv : Bool) (s t : Int) (kvs : List (Key × V)), EvAt H p (.beg n mv s t) ∧ s ≠ t ∧ H f = some (.dK kvs) ∧ valV kvs (Sum.inl n) = none ∧ kvs.length < 1000 ∧
    ∀ (H' : Hp) (x dx : Addr), (∀ b o, H b = some o → b ≠ f → H' b = some o) → H x = none → H' x = some (.ins C dx (trF mv s t i)) → H' f = some (.dK (kvs ++ [(Sum.inl n, .ref x)])) → Q (.bl true) H') ∨
  ∃ v : Int, EvAt H p (.vis v) ∧ ∀ H', Same H H' → Q (.bl true) H')
theorem sc_takes : FnScope ["found", "event", "at"] ["found", "event", "at"] (defScope s_takes) := ⟨rfl, rfl, rfl, by decide +kernel, rfl, by decide +kernel, by decide +kernel⟩
def evD : Ev → List PyData
  | .beg n mv s t => [.str "begin", .int n, .str (kS mv), .int s, .int t]
  | .vis v => [.str "visit", .int v]
theorem ev_dp {H : Hp} {p : Addr} {e : Ev} (h : EvAt H p e) : Dp K H (.ref p) (.tuple (evD e)) := by
  cases e with
  | beg n mv s t => exact .tup (SqT.of h) (.cons (.str _) (.cons (.int _) (.cons (.str _) (.cons (.int _) (.cons (.int _) .nil)))))
  | vis v => exact .tup (SqT.of h) (.cons (.str _) (.cons (.int _) .nil))
theorem ok_begin : PyData.canLay0 (.str "begin") = true := by decide +kernel
theorem ok_visit : PyData.canLay0 (.str "visit") = true := by decide +kernel
theorem ok_kS (mv : Bool) : PyData.canLay0 (.str (kS mv)) = true := by cases mv <;> decide +kernel
theorem ev_shaped (e : Ev) : SeqAt.shaped (.tuple (evD e)) = true := by
  unfold SeqAt.shaped
  cases e with
  | beg n mv s t =>
    have h1 : PyData.canLay0 (.tuple (evD (.beg n mv s t))) = true := by
      unfold evD
      rw [PyData.canLay0]
      simp only [PyData.canLayAll0, ok_begin, ok_kS, Bool.true_and, Bool.and_true]
      simp only [PyData.canLay0, Bool.true_and]
    have h2 : (PyData.tuple (evD (.beg n mv s t))).depth ≤ 64 := by
      simp [evD, PyData.depth, PyData.depthAll]
    rw [h1, decide_eq_true h2]
    rfl
  | vis v =>
    have h1 : PyData.canLay0 (.tuple (evD (.vis v))) = true := by
      unfold evD
      rw [PyData.canLay0]
      simp only [PyData.canLayAll0, ok_visit, Bool.true_and, Bool.and_true]
      simp only [PyData.canLay0, Bool.true_and]
    have h2 : (PyData.tuple (evD (.vis v))).depth ≤ 64 := by
      simp [evD, PyData.depth, PyData.depthAll]
    rw [h1, decide_eq_true h2]
    rfl
theorem ev_eqv (e : Ev) : PyData.eqv (.tuple (evD e)) (.tuple []) = false := by
  cases e with
  | beg n mv s t => rfl
  | vis v => rfl
def evW : Ev → Str
  | .beg _ _ _ _ => "begin"
  | .vis _ => "visit"
theorem ev_0 (e : Ev) : atI (evTup e) 0 = some (.str (evW e)) := by
  cases e with
  | beg n mv s t => exact atI_nat (j := 0) rfl
  | vis v => exact atI_nat (j := 0) rfl
theorem cal_takes (D : Dd K mg "takes" s_takes) (T : Txt K mg C) (c1 : Cal P w K mg base 2 "is_integer" spInt []) (c2 : Cal P w K mg base 4 "is_begin" spBegin []) (mk : Mak P w K mg base 2 "Transfer" C (spTr C) []) : Cal P w K mg base 6 "takes" (spTakes C) [] := by
  refine D.cal (k := 5) sc_takes (fun vs H Q E h => ?_) (fun _ _ _ _ _ _ us hl => match us, hl with | [_, _, _], _ => rfl) (fun f cdv A outer s H vs Q E hr h => ?_)
  · obtain ⟨f, p, i, rfl, _⟩ := h
    rfl
  · obtain ⟨fa, p, i, rfl, h⟩ := h
    have hu := hu_of hr
    refine ⟨_, pss_cons (ps_if (PW.pt (pw_or (pt_not (pt_val (pe_callB call_isi rfl T.f_isinstance bo_isinstance (pa_cons (pv 1) (pa_cons (pe_bltn (v := .ty "tuple") rfl T.f_tuple bo_tuple rfl) pa_nil)))))
        (pw_or (pt_cmpR (op_eqD hr.units) (pv 1) (pe_tup pa_nil) (nomark _))
        (pw_or1 (pt_not (pt_val (pe_callB call_isi rfl T.f_isinstance bo_isinstance (pa_cons (pe_ix ix_tup (pv 1) pe_int (fun _ _ => rfl)) (pa_cons (pe_bltn (v := .ty "str") rfl T.f_str bo_str rfl) pa_nil))))))))) (pss_one (ps_ret pe_bl)) pss_nil)
      (pss_cons (ps_if (pt_cmpR op_eq (pe_ix ix_tup (pv 1) pe_int (fun _ _ => rfl)) pe_str (nomark _))
        (pss_cons (ps_if (PW.pt (pw_or (pt_not (pt_val (pe_c c2 hr (by decide) rfl (pa_cons (pv 1) pa_nil)))) (pw_or1 (pt_cmp (pc_din hu (pe_ix ix_tup (pv 1) pe_int (fun _ _ => rfl)) (pv 0)))))) (pss_one (ps_ret pe_bl)) pss_nil)
        (pss_cons (ps_dput hu (pv 0) (pe_ix ix_tup (pv 1) pe_int (fun _ _ => rfl)) (pe_mk mk hr (by decide) rfl (pa_cons (pv 1) (pa_cons (pv 2) pa_nil))) rfl)
        (pss_one (ps_ret pe_bl)))) pss_nil)
      (pss_cons (ps_if (PW.pt (pw_or (pt_cmp (pc_neI (pe_callB call_len_seq rfl T.f_len bo_len (pa_cons (pv 1) pa_nil)) pe_int)) (pw_or1 (pt_not (pt_val (pe_c c1 hr (by decide) rfl (pa_cons (pe_ix ix_tup (pv 1) pe_int (fun _ _ => rfl)) pa_nil))))))) (pss_one (ps_ret pe_bl)) pss_nil)
      (pss_cons (ps_if (pt_cmpR op_eq (pe_ix ix_tup (pv 1) pe_int (fun _ _ => rfl)) pe_str (nomark _)) pss_never pss_nil)
      (pss_one (ps_ret (pe_cmpR op_eq (pe_ix ix_tup (pv 1) pe_int (fun _ _ => rfl)) pe_str (nomark _))))))), ?_⟩
    obtain ⟨e, he⟩ : ∃ e, EvAt H p e := by
      rcases h with ⟨n, mv, s, t, _, he, _⟩ | ⟨v, he, _⟩
      · exact ⟨_, he⟩
      · exact ⟨_, he⟩
    refine ⟨_, rfl, .ref p, .ty "tuple", _, _, true, rfl, .ty _, .base (.tup he), isi_tuple, true, rfl, iteF ?_⟩
    refine ⟨_, rfl, Nat.zero_le _, fun u hu0 => ?_⟩
    have s1 : Same H (upd H u (.tup [])) := same_new hu0
    have hu1 : upd H u (.tup []) u = some (.tup []) := upd_same
    have frees : ∀ {x : Addr}, upd H u (.tup []) x = none → H x = none := fun {x} hx => s1.free hx
    generalize hH1 : upd H u (.tup []) = H1 at s1 hu1 frees ⊢
    have he1 : EvAt H1 p e := s1 _ _ he
    refine ⟨.tuple (evD e), .tuple [], ev_dp he1, .tup (SqT.of hu1) .nil, ev_shaped e, rfl, false, by rw [ev_eqv], iteF ?_⟩
    refine ⟨_, rfl, p, _, _, _, rfl, rfl, SqT.of he1, ev_0 e, .str _, .ty "str", _, _, true, rfl, .ty _, .base (.str _), isi_str, true, rfl, iteF ?_⟩
    rcases h with ⟨n, mv, sx, tx, kvs, he', hne, hf, hv, hz, q⟩ | ⟨v, he', q⟩
    · have hp1 : EvAt H1 p (.beg n mv sx tx) := s1 _ _ he'
      have hf1 := s1 _ _ hf
      refine ⟨_, rfl, p, _, _, _, rfl, rfl, SqT.of hp1, ev_0 _, rfl, true, by show V.bl (decide (V.str "begin" = V.str "begin")) = _; rw [dec_self], iteT ?_⟩
      refine ⟨_, rfl, p, n, mv, sx, tx, rfl, hp1, hne, fun H2 s2 => ⟨true, rfl, iteF ?_⟩⟩
      have hp2 : EvAt H2 p (.beg n mv sx tx) := s2 _ _ hp1
      have hf2 := s2 _ _ hf1
      refine ⟨_, rfl, p, _, _, _, rfl, rfl, SqT.of hp2, atI_nat (j := 1) rfl, _, rfl, fa, _, rfl, DGet.k (k := Sum.inl n) hf2, false, by rw [hv]; rfl, iteF ?_⟩
      refine ⟨_, rfl, _, rfl, fun x dx hx hdx ndx => ?_⟩
      have s3 : Same H2 (upd (upd H2 dx (.own x)) x (.ins C dx [])) := same_upd (same_new hdx) hx
      refine ⟨x, p, dx, n, mv, sx, tx, i, rfl, upd_same, s3 _ _ hp2, fun H3 k3 hx3 => ⟨rfl, ?_⟩⟩
      have nfx : fa ≠ x := ne_of_none hf2 hx
      have hf3 : H3 fa = some (.dK kvs) := k3 _ _ (s3 _ _ hf2) nfx
      have npx : p ≠ x := ne_of_none hp2 hx
      have hp3 : EvAt H3 p (.beg n mv sx tx) := k3 _ _ (s3 _ _ hp2) npx
      refine ⟨_, rfl, _, rfl, p, _, _, _, rfl, rfl, SqT.of hp3, atI_nat (j := 1) rfl, fa, _, rfl, DPut.k (k := Sum.inl n) hf3 (Nat.lt_trans hz (by decide)), ?_⟩
      rw [putK_new _ hv]
      refine q _ x dx (fun b o eb hb => ?_) ?_ ?_ upd_same
      · rw [upd_ne hb]
        have eb2 := s2 _ _ (s1 _ _ eb)
        exact k3 _ _ (s3 _ _ eb2) (ne_of_none eb2 hx)
      · exact (s1.trans s2).free hx
      · rw [upd_ne (Ne.symm nfx)]
        exact hx3
    · have hp1 : EvAt H1 p (.vis v) := s1 _ _ he'
      refine ⟨_, rfl, p, _, _, _, rfl, rfl, SqT.of hp1, ev_0 _, rfl, false, by show V.bl (decide (V.str "visit" = V.str "begin")) = _; rw [decide_eq_false (by decide +kernel)], iteF ?_⟩
      refine ⟨_, rfl, p, _, rfl, .inr (SqT.of hp1), _, _, rfl, rfl, false, rfl, iteF ?_⟩
      refine ⟨_, rfl, p, _, _, _, rfl, rfl, SqT.of hp1, atI_nat (j := 1) rfl, v, rfl, true, rfl, iteF ?_⟩
      refine ⟨_, rfl, p, _, _, _, rfl, rfl, SqT.of hp1, ev_0 _, rfl, false, by show V.bl (decide (V.str "visit" = V.str "end")) = _; rw [decide_eq_false (by decide +kernel)], iteF ?_⟩
      refine ⟨_, rfl, p, _, _, _, rfl, rfl, SqT.of hp1, ev_0 _, rfl, ?_⟩
      show Q (.bl (decide (V.str "visit" = V.str "visit"))) H1
      rw [dec_self]
      exact q H1 s1
/-! ### transfers_of -/
def spTrOf (C : Addr) : Sp := fun vs H Q _ => ∃ (c ev : Addr) (first : List Int) (ts : List Tr) (ks : List Bool) (us : List Int), vs = [.ref c, .ref ev] ∧ IL H c first ∧ first.Nodup ∧ first.length < 64 ∧ EvsAt H ev (evsOf ts ks us) ∧ ks.length = ts.length ∧ (nums ts).Nodup ∧ ts.length ≤ 5 ∧ (∀ e ∈ ts, e.s ≠ e.t) ∧
  ∀ (H' : Hp) (d : Addr), Same H H' → H d = none → TrD C H' d ts ks → Q (.ref d) H'
theorem sc_transfers_of : FnScope ["first", "events", "found", "at", "event"] ["first", "events"] (defScope s_transfers_of) := ⟨rfl, rfl, rfl, by decide +kernel, rfl, by decide +kernel, by decide +kernel⟩
theorem cal_transfers_of (D : Dd K mg "transfers_of" s_transfers_of) (T : Txt K mg C) (c1 : Cal P w K mg base 6 "need_first" spNeedF []) (c2 : Cal P w K mg base 6 "takes" (spTakes C) []) : Cal P w K mg base 8 "transfers_of" (spTrOf C) [] := by
  refine D.cal (k := 7) sc_transfers_of (fun vs H Q E h => ?_) (fun _ _ _ _ _ _ us hl => match us, hl with | [_, _], _ => rfl) (fun f cdv A outer s H vs Q E hr h => ?_)
  · obtain ⟨c, ev, first, ts, ks, us, rfl, _⟩ := h
    rfl
  · obtain ⟨c, ev, first, ts, ks, us, rfl, hc, fnd, fl, hev, hkl, tnd, tl, tne, q⟩ := h
    have nd := sc_transfers_of.nd
    refine ⟨_, pss_cons (ps_expr (pe_c c1 hr (by decide) rfl (pa_cons (pv 0) pa_nil)))
      (pss_cons (ps_if (pt_not (pt_val (pe_callB call_isiT rfl T.f_isinstance bo_isinstance (pa_cons (pv 1) (pa_cons (pe_tup (pa_cons (pe_bltn (v := .ty "list") rfl T.f_list bo_list rfl) (pa_cons (pe_bltn (v := .ty "tuple") rfl T.f_tuple bo_tuple rfl) pa_nil))) pa_nil))))) (pss_one ps_never) pss_nil)
      (pss_cons (ps_set (i := 2) nd rfl (Or.inl rfl) pe_dnewK)
      (pss_cons (ps_for PassesOwn.never rfl (pi_enum rfl T.f_enumerate (pa_cons (pv 1) pa_nil)) (pg_tup rfl (pgs_cons (pg_name (i := 3) nd rfl (Or.inl rfl)) (pgs_cons (pg_name (i := 4) nd rfl (Or.inl rfl)) pgs_nil)))
        (pss_one (ps_if (pt_not (pt_val (pe_c c2 hr (by decide) rfl (pa_cons (pv 2) (pa_cons (pv 4) (pa_cons (pv 3) pa_nil)))))) (pss_one ps_never) pss_nil)))
      (pss_one (ps_ret (pv 2)))))), ?_⟩
    refine ⟨_, rfl, c, first, rfl, hc, fnd, fl, fun H1 s1 => ?_⟩
    have hev1 := hev.same s1
    refine ⟨_, rfl, (by show 2 ≤ sizeLine; decide), fun t ht => ?_⟩
    have s2 : Same H1 (upd H1 t (.tup [.ty "list", .ty "tuple"])) := same_new ht
    have ht2 : upd H1 t (.tup [.ty "list", .ty "tuple"]) t = some (.tup [.ty "list", .ty "tuple"]) := upd_same
    generalize upd H1 t (.tup [.ty "list", .ty "tuple"]) = H2 at s2 ht2 ⊢
    have hev2 := hev1.same s2
    obtain ⟨ps, p1, p2, p3⟩ := id hev2
    refine ⟨.ref ev, t, [.ty "list", .ty "tuple"], _, [.type "list", .type "tuple"], true, rfl, ht2, .cons (.ty _) (.cons (.ty _) .nil), .base (.lst p1), isi_list, true, rfl, iteF ?_⟩
    intro d hd
    have s3 : Same H2 (upd H2 d (.dK [])) := same_new hd
    refine ⟨_, rfl, ev, _, rfl, SqL.of (s3 _ _ p1), for_it (walk_enum (xs := ps.map V.ref)) (fun i σ H' => Same H2 H' ∧ ∃ v3 v4, σ = [some (.ref c), some (.ref ev), some (.ref d), v3, v4] ∧ TrD C H' d (ts.take i) (ks.take i))
      ⟨s3, none, none, rfl, [], upd_same, rfl, fun i p e mv h => by simp at h⟩ (fun i σ H' _ p => SqL.of (p.1 _ _ p1)) ?_ ?_⟩
    · rintro i x σ H3 H4 hi ⟨s4, v3, v4, rfl, R⟩ ⟨T1, x1, x2, rfl, hT1, rfl, e1, e2⟩
      have e1' := Option.some.inj e1
      obtain ⟨pe, hpe, rfl⟩ := get_ref e2
      obtain ⟨eve, heve⟩ := get_same_len p2 hpe
      subst e1'
      refine ⟨T1, _, rfl, SqT.of upd_same, rfl, _, _, rfl, _, _, rfl, rfl, ?_⟩
      have s5 := s4.trans (same_new (o := .tup [.int (i : Nat), .ref pe]) hT1)
      have R5 := R.same (same_new (o := .tup [.int (i : Nat), .ref pe]) hT1)
      generalize upd H3 T1 (.tup [.int (i : Nat), .ref pe]) = H5 at s5 R5 ⊢
      have hpe5 : EvAt H5 pe eve := s5 _ _ (p3 i pe eve hpe heve)
      refine ⟨_, rfl, _, rfl, _, rfl, d, pe, i, rfl, ?_⟩
      obtain ⟨qs, g1, g2, g3⟩ := R5
      rcases evs_cases hkl heve with ⟨e, mv, hte, rfl⟩ | ⟨hge, v, hv, rfl⟩
      · refine .inl ⟨e.n, mv, e.s, e.t, _, hpe5, tne e (List.mem_of_getElem? hte), g1, ?_, ?_, fun H6 xi dx k6 hx0 hx6 hd6 => ⟨true, rfl, iteF ?_⟩⟩
        · refine dKz_none fun z => ?_
          obtain ⟨e', he', en⟩ := List.mem_map.mp z
          obtain ⟨jj, hjj, hjm⟩ := List.mem_iff_getElem.mp he'
          rw [List.length_take] at hjj
          rw [List.getElem_take] at hjm
          have hti : i < ts.length := (List.getElem?_eq_some_iff.mp hte).1
          have h1 := (List.getElem?_eq_some_iff.mp hte).2
          have h2 := List.pairwise_iff_getElem.mp tnd jj i (by unfold nums; rw [List.length_map]; omega) (by unfold nums; rw [List.length_map]; omega) (by omega)
          apply h2
          unfold nums
          rw [List.getElem_map, List.getElem_map, hjm, h1, en]
        · have hq : (nums (ts.take i)).length = (qs.map V.ref).length := by
            unfold nums
            rw [List.length_map, List.length_map, g2]
          rw [dKz_length hq]
          unfold nums
          rw [List.length_map, List.length_take]
          omega
        · have hti : i < ts.length := (List.getElem?_eq_some_iff.mp hte).1
          have hkm : ks[i]? = some mv := by
            have hk : i < ks.length := by omega
            have h3 := heve
            unfold evsOf at h3
            rw [List.getElem?_append_left (by rw [begs_length hkl]; exact hti)] at h3
            unfold begs at h3
            rw [List.getElem?_zipWith, hte, List.getElem?_eq_getElem hk] at h3
            have h4 := Option.some.inj h3
            injection h4 with _ h4
            rw [List.getElem?_eq_getElem hk, h4]
          have s6 : Same H2 H6 := fun b o eb => k6 b o (s5 _ _ eb) (ne_of_none eb hd)
          refine ⟨s6, _, _, rfl, qs ++ [xi], ?_, ?_, fun j p e' mv' h1 h2 h3 => ?_⟩
          · rw [hd6]
            have hq : (nums (ts.take i)).length = (qs.map V.ref).length := by
              unfold nums
              rw [List.length_map, List.length_map, g2]
            rw [dKz_snoc hq, List.take_add_one, hte]
            unfold nums
            rw [List.map_append, List.map_append]
            rfl
          · rw [List.length_append, g2, List.take_add_one, hte, List.length_append]
            rfl
          · have hqi : qs.length = i := by
              rw [g2, List.length_take]
              omega
            rcases Nat.lt_or_ge j i with hj | hj
            · rw [List.getElem?_append_left (by omega)] at h1
              rw [List.getElem?_take_of_lt (by omega)] at h2 h3
              obtain ⟨dx', hins⟩ := g3 j p e' mv' h1 (by rw [List.getElem?_take_of_lt hj]; exact h2) (by rw [List.getElem?_take_of_lt hj]; exact h3)
              exact ⟨dx', k6 _ _ hins (ne_of hins g1 (by intro z; cases z))⟩
            · have hjl : j < i + 1 := by
                have := (List.getElem?_eq_some_iff.mp h2).1
                rw [List.length_take] at this
                omega
              obtain rfl : j = i := by omega
              rw [List.getElem?_append_right (by omega)] at h1
              rw [hqi, Nat.sub_self] at h1
              have h1' : xi = p := Option.some.inj h1
              rw [List.getElem?_take_of_lt (Nat.lt_succ_self _)] at h2 h3
              rw [hte] at h2
              rw [hkm] at h3
              have h2' : e = e' := Option.some.inj h2
              have h3' : mv = mv' := Option.some.inj h3
              rw [← h1', ← h2', ← h3']
              exact ⟨dx, hx6⟩
      · refine .inr ⟨v, hpe5, fun H6 s6 => ⟨true, rfl, iteF ⟨s5.trans s6, _, _, rfl, ?_⟩⟩⟩
        rw [List.take_of_length_le (by omega), List.take_of_length_le (by omega)]
        rw [List.take_of_length_le hge] at g1 g2
        refine TrD.same ⟨qs, g1, g2, fun j p e mv h1 h2 h3 => ?_⟩ s6
        refine g3 j p e mv h1 ?_ ?_
        · rw [List.take_of_length_le hge]
          exact h2
        · rw [List.take_of_length_le (by omega)]
          exact h3
    · rintro σ H3 ⟨s4, v3, v4, rfl, R⟩
      have hlen : (ps.map V.ref).length = ts.length + us.length := by rw [List.length_map, p2, evsOf_length hkl]
      rw [hlen, List.take_of_length_le (by omega), List.take_of_length_le (by omega)] at R
      exact ⟨_, rfl, q H3 d (s1.trans (s2.trans s4)) ((s1.trans s2).free hd) R⟩
end
end B58
set_option Elab.async false
set_option linter.all false
set_option maxRecDepth 100000
set_option maxHeartbeats 4000000
/-! The walks: under_way, state_behind, carried. -/
namespace B58
open PySem PySem.Spec PyProof.Rows PySem.Calls L2 C8
theorem dKz_at : ∀ {ks : List Int} {vs : List V} {i : Nat} {k : Int} {v : V}, ks[i]? = some k → vs[i]? = some v → (dKz ks vs)[i]? = some (Sum.inl k, v)
  | [], _, _, _, _, h, _ => by simp at h
  | _ :: _, [], _, _, _, _, h => by simp at h
  | x :: ks, v :: vs, i, k, u, h1, h2 => by
    show ((Sum.inl x, v) :: dKz ks vs)[i]? = _
    cases i with
    | zero =>
      have e1 : x = k := Option.some.inj h1
      have e2 : v = u := Option.some.inj h2
      rw [e1, e2]
      rfl
    | succ i =>
      have h1 : ks[i]? = some k := by simpa using h1
      have h2 : vs[i]? = some u := by simpa using h2
      rw [List.getElem?_cons_succ]
      exact dKz_at h1 h2
theorem take_of {α β : Type} {f : α → β} : ∀ {l : List α} {ys : List (Option β)} {m : Nat}, ys.length = l.length → (∀ (i : Nat) (y : Option β) (x : α), ys[i]? = some y → l[i]? = some x → y = if i < m then some (f x) else none) → ys.filterMap id = (l.take m).map f
  | [], [], m, _, _ => by simp
  | [], _ :: _, _, h, _ => by simp at h
  | _ :: _, [], _, h, _ => by simp at h
  | x :: l, y :: ys, m, h, g => by
    have h0 := g 0 y x rfl rfl
    cases m with
    | zero =>
      rw [if_neg (Nat.lt_irrefl 0)] at h0
      have ih := take_of (f := f) (l := l) (ys := ys) (m := 0) (by simpa using h) fun i y x e1 e2 => by
        have := g (i + 1) y x (by simpa using e1) (by simpa using e2)
        rw [if_neg (Nat.not_lt_zero _)] at this ⊢
        exact this
      rw [h0, List.filterMap_cons, List.take_zero]
      rw [List.take_zero] at ih
      exact ih
    | succ m =>
      rw [if_pos (Nat.succ_pos m)] at h0
      have ih := take_of (f := f) (l := l) (ys := ys) (m := m) (by simpa using h) fun i y x e1 e2 => by
        have := g (i + 1) y x (by simpa using e1) (by simpa using e2)
        rw [this]
        by_cases hi : i < m
        · rw [if_pos hi, if_pos (Nat.succ_lt_succ hi)]
        · rw [if_neg hi, if_neg (fun z => hi (Nat.lt_of_succ_lt_succ z))]
      rw [h0, List.filterMap_cons, List.take_succ_cons, List.map_cons, ← ih]
      rfl
/-- the transfers' dict, one by one -/
theorem TrD.get {C : Addr} {H : Hp} {d : Addr} {ts : List Tr} {ks : List Bool} (h : TrD C H d ts ks) (hk : ks.length = ts.length) (hn : (nums ts).Nodup) {e : Tr} (he : e ∈ ts) : ∃ (p : Addr) (i : Nat) (mv : Bool), ts[i]? = some e ∧ ks[i]? = some mv ∧ InsAt C H p e mv i ∧ DGet H d (.int e.n) (some (.ref p)) := by
  obtain ⟨ps, h1, h2, h3⟩ := h
  obtain ⟨i, hi, ei⟩ := mem_iff_get.mp he
  obtain ⟨p, hp⟩ := get_same_len h2.symm ei
  obtain ⟨mv, hm⟩ := get_same_len hk.symm ei
  refine ⟨p, i, mv, ei, hm, h3 i p e mv hp ei hm, ?_⟩
  have := DGet.k (k := Sum.inl e.n) h1
  rw [dKz_get (i := i) (v := .ref p) hn (by unfold nums; rw [List.getElem?_map, ei]; rfl) (by rw [List.getElem?_map, hp]; rfl)] at this
  exact this
theorem same_unlock {H H' : Hp} {d : Addr} {u : HO} {od : Obj} (h : H d = some u) (s : Same (upd H d (.frz od u)) H') : Same H (upd H' d u) := fun b o e => by
  by_cases hb : b = d
  · rw [hb] at e ⊢
    rw [h] at e
    rw [upd_same, e]
  · rw [upd_ne hb]
    exact s b o (by rw [upd_ne hb]; exact e)
section
variable {P : Program} {w : World} {K : PySem.W.Frag} {mg : Str → Option Value} {base : Heap} {C : Addr}
/-! ### under_way -/
def spUnder (C : Addr) : Sp := fun vs H Q _ => ∃ (d : Addr) (m : Nat) (ts : List Tr) (ks : List Bool), vs = [.ref d, .int m] ∧ TrD C H d ts ks ∧ ks.length = ts.length ∧ (nums ts).Nodup ∧ ts.length ≤ 5 ∧
  ∀ (H' : Hp) (p : Addr), Same H H' → H p = none → IL H' p (srt (nums (ts.take m))) → Q (.ref p) H'
theorem sc_under_way : FnScope ["transfers", "many", "some", "number", "one"] ["transfers", "many"] (defScope s_under_way) := ⟨rfl, rfl, rfl, by decide +kernel, rfl, by decide +kernel, by decide +kernel⟩
theorem cal_under_way (D : Dd K mg "under_way" s_under_way) (T : Txt K mg C) : Cal P w K mg base 2 "under_way" (spUnder C) [] := by
  refine D.cal (k := 1) sc_under_way (fun vs H Q E h => ?_) (fun _ _ _ _ _ _ us hl => match us, hl with | [_, _], _ => rfl) (fun f cdv A outer s H vs Q E hr h => ?_)
  · obtain ⟨d, m, ts, ks, rfl, _⟩ := h
    rfl
  · obtain ⟨d, m, ts, ks, rfl, hd, hkl, tnd, tl, q⟩ := h
    have nd := sc_under_way.nd
    have hu := hu_of hr
    refine ⟨_, pss_cons (ps_lock (ps_setLc (i := 2) (own := [("number", 3), ("one", 4)]) rfl nd rfl rfl (sw_true rfl rfl rfl (by decide +kernel)) (pi_items (pv 0)) (blkOk_by (by kernel_rfl)) (fun _ _ _ _ _ => (pg_tup rfl (pgs_cons (pg_name (i := 3) nd rfl (Or.inl rfl)) (pgs_cons (pg_name (i := 4) nd rfl (Or.inl rfl)) pgs_nil)) : PG _ _ (gTup K 2 _)))
          (fun _ _ _ _ _ => pts_one (pt_cmp (pc_lt (pe_fld (pv 4) rfl : PE _ _ (tFld K _ _)) (pv 1)))) (fun _ _ _ _ _ => pv 3)))
      (pss_one (ps_ret (pe_callB cr_sortedI rfl T.f_sorted bo_sorted (pa_cons (pe_lc (own := [("number", 3)]) rfl nd (pi_list (pv 2)) (blkOk_by (by kernel_rfl)) (fun _ _ _ _ _ => pg_name (i := 3) nd rfl (Or.inl rfl))
          (fun _ _ _ _ _ => pts_one (PW.pt (pw_or (pt_cmp (pc_isN (pe_fld (pe_dget hu (pv 0) (pv 3) (fun _ _ => rfl)) rfl : PE _ _ (tFld K _ _)))) (pw_or1 (pt_cmp (pc_ge (pe_fld (pe_dget hu (pv 0) (pv 3) (fun _ _ => rfl)) rfl : PE _ _ (tFld K _ _)) (pv 1)))))))
          (fun _ _ _ _ _ => pv 3)) pa_nil)))), ?_⟩
    obtain ⟨ps, p1, p2, p3⟩ := id hd
    have hnl : (nums ts).length = (ps.map V.ref).length := by
      unfold nums
      rw [List.length_map, List.length_map, p2]
    have hkn : (dKz (nums ts) (ps.map V.ref)).length = ts.length := by
      rw [dKz_length hnl, hnl, List.length_map, p2]
    refine ⟨d, _, p1, True.intro, fun od => ?_⟩
    refine ⟨_, rfl, d, od, _, rfl, upd_same, fun B hB => lc_same walk_items (fun i y _ => ∀ e, ts[i]? = some e → y = if i < m then some (V.int e.n) else none) (fun _ _ _ _ _ e => e) hB (by rw [hkn]; exact Nat.le_trans tl (by decide)) (fun H' s => s _ _ upd_same) ?_ ?_⟩
    · rintro i x H2 H3 R hi sm ⟨T1, k1, v1, rfl, hT1, rfl, e1, e2⟩ hR
      rw [hkn] at hi
      obtain ⟨e, he⟩ : ∃ e, ts[i]? = some e := ⟨ts[i], List.getElem?_eq_getElem hi⟩
      obtain ⟨p, hp⟩ := get_same_len p2.symm he
      obtain ⟨mv, hm⟩ := get_same_len hkl.symm he
      have hat := dKz_at (ks := nums ts) (vs := ps.map V.ref) (i := i) (k := e.n) (v := .ref p) (by unfold nums; rw [List.getElem?_map, he]; rfl) (by rw [List.getElem?_map, hp]; rfl)
      simp only [hat, Option.map_some] at e1 e2
      have ek : V.int e.n = k1 := Option.some.inj e1
      have ev : V.ref p = v1 := Option.some.inj e2
      subst ek ev
      obtain ⟨dx, hins⟩ := p3 i p e mv hp he hm
      have npd : p ≠ d := ne_of hins p1 (by intro z; cases z)
      have hins2 : H2 p = some (.ins C dx (trF mv e.s e.t i)) := sm _ _ (by rw [upd_ne npd]; exact hins)
      have s3 : Same H2 (upd H2 T1 (.tup [.int e.n, .ref p])) := same_new hT1
      refine ⟨T1, _, rfl, SqT.of upd_same, rfl, _, _, rfl, _, _, rfl, rfl, rfl, ?_⟩
      refine ⟨_, rfl, p, C, dx, _, _, rfl, s3 _ _ hins2, T.cls, T.n_began, trF_began _ _ _ _, _, rfl, _, _, rfl, rfl, _, rfl, ?_⟩
      refine ite2 (fun hlt => ?_) (fun hlt => ?_)
      · have hlt : i < m := Int.ofNat_lt.mp (of_decide_eq_true hlt)
        refine ⟨_, rfl, hR (some (.int e.n)) _ (fun e' he' => ?_) s3⟩
        rw [he] at he'
        rw [if_pos hlt, ← Option.some.inj he']
      · have hlt : ¬ i < m := fun z => hlt (decide_eq_true (Int.ofNat_lt.mpr z))
        refine hR none _ (fun e' he' => ?_) s3
        rw [if_neg hlt]
    · intro ys H2 s2 hB2 hl hr'
      rw [hkn] at hl
      have eys : ys.filterMap id = (nums (ts.take m)).map V.int := by
        rw [take_of (f := fun e : Tr => V.int e.n) hl fun i y x e1 e2 => hr' i y e1 x e2]
        unfold nums
        rw [List.map_map]
        rfl
      rw [eys] at hB2
      have s3 : Same H (upd H2 d (.dK (dKz (nums ts) (ps.map V.ref)))) := same_unlock p1 s2
      have hHB : H B = none := by
        cases hz : H B with
        | none => rfl
        | some z =>
          by_cases hbd : B = d
          · rw [hbd, upd_same] at hB
            cases hB
          · rw [upd_ne hbd, hz] at hB
            cases hB
      have nBd : B ≠ d := fun z => by
        rw [z, p1] at hHB
        cases hHB
      have hB3 : upd H2 d (.dK (dKz (nums ts) (ps.map V.ref))) B = some (.lst ((nums (ts.take m)).map V.int)) := by
        rw [upd_ne nBd]
        exact hB2
      have hfz : H2 d = some (.frz od (.dK (dKz (nums ts) (ps.map V.ref)))) := s2 _ _ upd_same
      refine ⟨hfz, ?_⟩
      generalize upd H2 d (.dK (dKz (nums ts) (ps.map V.ref))) = H3 at s3 hB3 ⊢
      have hd3 := hd.same s3
      have hlm : ((nums (ts.take m)).map V.int).length ≤ sizeLine := by
        unfold nums
        rw [List.length_map, List.length_map, List.length_take]
        have : (5 : Nat) ≤ sizeLine := by decide
        omega
      refine ⟨_, rfl, B, rfl, ⟨_, SqL.of hB3⟩, fun B2 hB2' => lc_same (walk_list (xs := (nums (ts.take m)).map V.int)) (fun i y _ => ∀ n, (nums (ts.take m))[i]? = some n → y = some (V.int n)) (fun _ _ _ _ _ e => e) hB2' hlm (fun H' s => SqL.of (s _ _ hB3)) ?_ ?_⟩
      · intro i x H4 H5 R hi sm y hR
        obtain ⟨rfl, hx⟩ := y
        obtain ⟨n, hn, rfl⟩ := get_int hx
        have hmem : n ∈ nums (ts.take m) := List.mem_of_getElem? hn
        obtain ⟨e, het, rfl⟩ := List.mem_map.mp hmem
        have he : e ∈ ts := List.mem_of_mem_take het
        obtain ⟨p, j, mv, hj, hm, ⟨dx, hins⟩, hget⟩ := (hd3.same sm).get hkl tnd he
        refine ⟨rfl, ⟨_, rfl, _, rfl, d, _, rfl, hget, p, C, dx, _, _, rfl, hins, T.cls, T.n_ended, trF_ended _ _ _ _, true, rfl, iteT ?_⟩⟩
        refine iteT ⟨_, rfl, hR _ _ (fun n' hn' => ?_) (Same.refl _)⟩
        rw [hn] at hn'
        rw [Option.some.inj hn']
      · intro ys2 H4 s4 hB4 hl2 hr2
        have eys2 : ys2.filterMap id = (nums (ts.take m)).map V.int := map_range_of (by rw [hl2, List.length_map]) fun i y e1 => by
          have hi : i < (nums (ts.take m)).length := by
            have := (List.getElem?_eq_some_iff.mp e1).1
            rw [hl2, List.length_map] at this
            exact this
          exact ⟨_, List.getElem?_eq_getElem hi, hr2 i y e1 _ (List.getElem?_eq_getElem hi)⟩
        rw [eys2] at hB4
        refine ⟨B2, _, rfl, SqL.of hB4, fun ns' p perm rising hp => ?_⟩
        have e := srt_of perm rising
        refine q _ p (s3.trans (s4.trans (same_new hp))) ((s3.trans s4).free hp) ?_
        rw [← e]
        exact upd_same
end
end B58
set_option Elab.async false
set_option linter.all false
set_option maxRecDepth 100000
set_option maxHeartbeats 4000000
/-! The walks: state_behind, carried. -/
namespace B58
open PySem PySem.Spec PyProof.Rows PySem.Calls L2 C8
theorem StAt.same {H H' : Hp} {ka : Addr} {st : St3} (h : StAt H ka st) (s : Same H H') : StAt H' ka st := h.keeps fun b xs e => s _ _ e
/-- an event that the transfers tell -/
def EvOk (ts : List Tr) (ks : List Bool) (ev : Ev) : Prop := (∃ (i : Nat) (e : Tr) (mv : Bool), ts[i]? = some e ∧ ks[i]? = some mv ∧ ev = .beg e.n mv e.s e.t) ∨ ∃ v, ev = .vis v
theorem kS_move (mv : Bool) : decide (V.str (kS mv) = V.str "move") = mv := by
  cases mv
  · exact decide_eq_false (by decide +kernel)
  · exact dec_self _
section
variable {P : Program} {w : World} {K : PySem.W.Frag} {mg : Str → Option Value} {base : Heap} {C : Addr}
/-- tuple(sorted(t + (n,))) -/
def spSB (C : Addr) : Sp := fun vs H Q _ => ∃ (ka p d : Addr) (st : St3) (ev : Ev) (ts : List Tr) (ks : List Bool), vs = [.ref ka, .ref p, .ref d] ∧ StAt H ka st ∧ EvAt H p ev ∧ TrD C H d ts ks ∧ ks.length = ts.length ∧ (nums ts).Nodup ∧ EvOk ts ks ev ∧ st.b.length ≤ 100 ∧
  (sb ev st = none → Q .non H) ∧ ∀ (st' : St3) (H' : Hp) (ka' : Addr), sb ev st = some st' → Same H H' → StAt H' ka' st' → Q (.ref ka') H'
theorem sc_state_behind : FnScope ["state", "event", "transfers", "area", "used", "bound", "number", "is_out", "other"] ["state", "event", "transfers"] (defScope s_state_behind) := ⟨rfl, rfl, rfl, by decide +kernel, rfl, by decide +kernel, by decide +kernel⟩
theorem cal_state_behind (D : Dd K mg "state_behind" s_state_behind) (T : Txt K mg C) : Cal P w K mg base 2 "state_behind" (spSB C) [] := by
  refine D.cal (k := 1) sc_state_behind (fun vs H Q E h => ?_) (fun _ _ _ _ _ _ us hl => match us, hl with | [_, _, _], _ => rfl) (fun f cdv A outer s H vs Q E hr h => ?_)
  · obtain ⟨ka, p, d, st, ev, ts, ks, rfl, _⟩ := h
    rfl
  · obtain ⟨ka, p, d, st, ev, ts, ks, rfl, hst, hev, hd, hkl, tnd, hok, hbl, qn, qs⟩ := h
    have nd := sc_state_behind.nd
    have hu := hu_of hr
    refine ⟨_, pss_cons (ps_asg (pv 0) (pg_tup rfl (pgs_cons (pg_name (i := 3) nd rfl (Or.inl rfl)) (pgs_cons (pg_name (i := 4) nd rfl (Or.inl rfl)) (pgs_cons (pg_name (i := 5) nd rfl (Or.inl rfl)) pgs_nil)))))
      (pss_cons (ps_set (i := 6) nd rfl (Or.inr rfl) (pe_ix ix_tup (pv 1) pe_int (fun _ _ => rfl)))
      (pss_cons (ps_if (pt_cmpR op_eq (pe_ix ix_tup (pv 1) pe_int (fun _ _ => rfl)) pe_str (nomark _)) (pss_one (ps_ret (pe_ifExp (pt_cmp (pc_eqI (pv 6) (pv 3))) pe_non (pv 0)))) pss_nil)
      (pss_cons (ps_if (pt_cmpR op_eq (pe_ix ix_tup (pv 1) pe_int (fun _ _ => rfl)) pe_str (nomark _))
        (pss_cons (ps_set (i := 7) nd rfl (Or.inl rfl) (pe_and (pe_cmpR op_eq (pe_fld (pe_dget hu (pv 2) (pv 6) (fun _ _ => rfl)) rfl) pe_str (nomark _)) (pe_one (pe_cmp (pc_eqI (pe_fld (pe_dget hu (pv 2) (pv 6) (fun _ _ => rfl)) rfl) (pv 3))))))
        (pss_one (ps_ret (pe_ifExp (pt_val (pv 7)) (pe_tup (pa_cons (pv 3) (pa_cons (pv 4) (pa_cons (pe_callTy call_tuple_of rfl T.f_tuple bo_tuple (pa_cons (pe_callB cr_sortedTI rfl T.f_sorted bo_sorted (pa_cons (pe_op op_snoc (pv 5) (pe_tup (pa_cons (pv 6) pa_nil))) pa_nil)) pa_nil)) pa_nil)))) (pv 0))))) pss_nil)
      pss_never))), ?_⟩
    obtain ⟨pu, pb, h1, h2, h3⟩ := id hst
    refine ⟨_, rfl, ka, _, rfl, SqT.of h1, rfl, _, _, rfl, _, _, rfl, _, _, rfl, rfl, ?_⟩
    rcases hok with ⟨i, e, mv, hi, hm, rfl⟩ | ⟨v, rfl⟩
    · refine ⟨_, rfl, p, _, _, _, rfl, rfl, SqT.of hev, atI_nat (j := 1) rfl, ?_⟩
      refine ⟨_, rfl, p, _, _, _, rfl, rfl, SqT.of hev, ev_0 _, rfl, false, by show V.bl (decide (V.str "begin" = V.str "visit")) = _; rw [decide_eq_false (by decide +kernel)], iteF ?_⟩
      refine ⟨_, rfl, p, _, _, _, rfl, rfl, SqT.of hev, ev_0 _, rfl, true, by show V.bl (decide (V.str "begin" = V.str "begin")) = _; rw [dec_self], iteT ?_⟩
      obtain ⟨ps, g1, g2, g3⟩ := id hd
      obtain ⟨q, hq⟩ := get_same_len g2.symm hi
      obtain ⟨dx, hins⟩ := g3 i q e mv hq hi hm
      have hget : DGet H d (.int e.n) (some (.ref q)) := by
        have := DGet.k (k := Sum.inl e.n) g1
        rw [dKz_get (i := i) (v := .ref q) tnd (by unfold nums; rw [List.getElem?_map, hi]; rfl) (by rw [List.getElem?_map, hq]; rfl)] at this
        exact this
      refine ⟨_, rfl, _, rfl, d, _, rfl, hget, q, C, dx, _, _, rfl, hins, T.cls, T.n_kind, trF_kind _ _ _ _, rfl, mv, by rw [kS_move], ?_⟩
      have hsb : sb (.beg e.n mv e.s e.t) st = if mv = true ∧ e.s = st.a then some ⟨st.a, st.u, srt (st.b ++ [e.n])⟩ else some st := rfl
      refine ite2 (fun hmv => ?_) (fun hmv => ?_)
      · refine ⟨_, rfl, _, rfl, d, _, rfl, hget, q, C, dx, _, _, rfl, hins, T.cls, T.n_source, trF_source _ _ _ _, _, rfl, _, _, rfl, rfl, ?_⟩
        refine ⟨_, rfl, _, rfl, ite2 (fun hsa => ?_) (fun hsa => ?_)⟩
        · have hsa : e.s = st.a := of_decide_eq_true hsa
          refine ⟨_, rfl, _, rfl, _, rfl, _, rfl, (by show 1 ≤ sizeLine; decide), fun t ht => ?_⟩
          have s1 : Same H (upd H t (.tup [.int e.n])) := same_new ht
          have big : (200 : Nat) ≤ sizeLine := by decide
          refine ⟨pb, t, _, .int e.n, rfl, rfl, s1 _ _ h3, upd_same, by rw [List.length_map]; omega, fun u2 H2 s2 hu2 => ?_⟩
          refine ⟨u2, st.b ++ [e.n], rfl, SqT.of (by rw [hu2, List.map_append]; rfl), fun ns' l perm rising hl => ?_⟩
          have en := srt_of perm rising
          have s3 : Same H2 (upd H2 l (.lst (ns'.map V.int))) := same_new hl
          refine ⟨l, _, rfl, .inl ⟨SqL.of upd_same, fun l2 hl2 => ?_⟩⟩
          have s4 := s3.trans (same_new (o := .tup (ns'.map V.int)) hl2)
          refine ⟨(by show 3 ≤ sizeLine; decide), fun k2 hk2 => ?_⟩
          have s5 := s4.trans (same_new (o := .tup [.int st.a, .ref pu, .ref l2]) hk2)
          have s6 := (s1.trans s2).trans s5
          refine qs ⟨st.a, st.u, srt (st.b ++ [e.n])⟩ _ k2 (by rw [hsb, if_pos ⟨hmv, hsa⟩]) s6 ⟨pu, l2, upd_same, s6 _ _ h2, ?_⟩
          rw [upd_ne (fun z => by rw [← z, upd_same] at hk2; cases hk2), upd_same, en]
        · have hsa : ¬ e.s = st.a := fun z => hsa (decide_eq_true z)
          exact ⟨_, rfl, qs st H ka (by rw [hsb, if_neg fun z => hsa z.2]) (Same.refl _) hst⟩
      · exact ⟨_, rfl, _, rfl, iteF ⟨_, rfl, qs st H ka (by rw [hsb, if_neg fun z => hmv z.1]) (Same.refl _) hst⟩⟩
    · refine ⟨_, rfl, p, _, _, _, rfl, rfl, SqT.of hev, atI_nat (j := 1) rfl, ?_⟩
      refine ⟨_, rfl, p, _, _, _, rfl, rfl, SqT.of hev, ev_0 _, rfl, true, by show V.bl (decide (V.str "visit" = V.str "visit")) = _; rw [dec_self], iteT ?_⟩
      refine ⟨_, rfl, _, rfl, _, _, rfl, rfl, _, rfl, ite2 (fun hva => ?_) (fun hva => ?_)⟩
      · have hva : v = st.a := of_decide_eq_true hva
        refine qn ?_
        show (if v = st.a then none else some st) = none
        rw [if_pos hva]
      · have hva : ¬ v = st.a := fun z => hva (decide_eq_true z)
        refine ⟨_, rfl, qs st H ka ?_ (Same.refl _) hst⟩
        show (if v = st.a then none else some st) = some st
        rw [if_neg hva]
/-! ### carried -/
/-- a list of pairs (number, state) -/
def CarR (H : Hp) (qs : List Addr) (l : List (Int × St3)) : Prop := qs.length = l.length ∧ ∀ (i : Nat) (q : Addr) (x : Int × St3), qs[i]? = some q → l[i]? = some x → ∃ kp, H q = some (.tup [.int x.1, .ref kp]) ∧ StAt H kp x.2
theorem CarR.keep {H H' : Hp} {qs : List Addr} {l : List (Int × St3)} (h : CarR H qs l) (k : TupKeep H H') : CarR H' qs l :=
  ⟨h.1, fun i q x e1 e2 => let ⟨kp, h1, h2⟩ := h.2 i q x e1 e2; ⟨kp, k _ _ h1, h2.keeps k⟩⟩
theorem CarR.snoc {H : Hp} {qs : List Addr} {l : List (Int × St3)} (h : CarR H qs l) {q kp : Addr} {n : Int} {st : St3} (hq : H q = some (.tup [.int n, .ref kp])) (hs : StAt H kp st) : CarR H (qs ++ [q]) (l ++ [(n, st)]) := by
  refine ⟨by rw [List.length_append, List.length_append, h.1]; rfl, fun i p x e1 e2 => ?_⟩
  rcases Nat.lt_or_ge i qs.length with hi | hi
  · rw [List.getElem?_append_left hi] at e1
    rw [List.getElem?_append_left (by rw [← h.1]; exact hi)] at e2
    exact h.2 i p x e1 e2
  · rw [List.getElem?_append_right hi] at e1
    rw [List.getElem?_append_right (by rw [← h.1]; exact hi), ← h.1] at e2
    have h0 : i - qs.length = 0 := by
      rcases Nat.eq_zero_or_pos (i - qs.length) with z | z
      · exact z
      · rw [List.getElem?_eq_none (by simp only [List.length_singleton]; omega)] at e1
        cases e1
    rw [h0] at e1 e2
    have e1' : q = p := Option.some.inj e1
    have e2' : (n, st) = x := Option.some.inj e2
    rw [← e1', ← e2']
    exact ⟨kp, hq, hs⟩
def spCar (C : Addr) : Sp := fun vs H Q _ => ∃ (ka d : Addr) (m : Nat) (st : St3) (ts : List Tr) (ks : List Bool), vs = [.ref ka, .ref d, .int m] ∧ StAt H ka st ∧ TrD C H d ts ks ∧ ks.length = ts.length ∧ (nums ts).Nodup ∧ ts.length ≤ 5 ∧ st.u.length ≤ 100 ∧
  ∀ (H' : Hp) (p : Addr) (qs : List Addr) (l : List (Int × St3)), Same H H' → H p = none → H' p = some (.lst (qs.map V.ref)) → CarR H' qs l → (∀ st', Car ts m st st' ↔ ∃ n, (n, st') ∈ l) → Q (.ref p) H'
theorem sc_carried : FnScope ["state", "transfers", "many", "area", "used", "bound", "found", "number"] ["state", "transfers", "many"] (defScope s_carried) := ⟨rfl, rfl, rfl, by decide +kernel, rfl, by decide +kernel, by decide +kernel⟩
theorem cal_carried (D : Dd K mg "carried" s_carried) (T : Txt K mg C) (c1 : Cal P w K mg base 2 "under_way" (spUnder C) []) : Cal P w K mg base 4 "carried" (spCar C) [] := by
  refine D.cal (k := 3) sc_carried (fun vs H Q E h => ?_) (fun _ _ _ _ _ _ us hl => match us, hl with | [_, _, _], _ => rfl) (fun f cdv A outer s H vs Q E hr h => ?_)
  · obtain ⟨ka, d, m, st, ts, ks, rfl, _⟩ := h
    rfl
  · obtain ⟨ka, d, m, st, ts, ks, rfl, hst, hd, hkl, tnd, tl, hul, q⟩ := h
    have nd := sc_carried.nd
    have hu := hu_of hr
    refine ⟨_, pss_cons (ps_asg (pv 0) (pg_tup rfl (pgs_cons (pg_name (i := 3) nd rfl (Or.inl rfl)) (pgs_cons (pg_name (i := 4) nd rfl (Or.inl rfl)) (pgs_cons (pg_name (i := 5) nd rfl (Or.inl rfl)) pgs_nil)))))
      (pss_cons (ps_set (i := 6) nd rfl (Or.inl rfl) (pe_lst pa_nil))
      (pss_cons (ps_for PassesOwn.never rfl (pi_list (pe_c c1 hr (by decide) rfl (pa_cons (pv 1) (pa_cons (pv 2) pa_nil)))) (pg_name (i := 7) nd rfl (Or.inl rfl))
        (pss_one (ps_if (PW.pt (pw_and (pt_cmp (pc_eqI (pe_fld (pe_dget hu (pv 1) (pv 7) (fun _ _ => rfl)) rfl) (pv 3))) (pw_and1 (pt_cmpR op_notIn_seq (pv 7) (pv 4) rfl))))
          (pss_one (ps_expr (pe_bm PySem.F.plainAttrs_list PySem.F.slot_list_append PySem.F.type_list_append mt_append (pv 6) (pa_cons (pe_tup (pa_cons (pv 7) (pa_cons (pe_tup (pa_cons (pe_fld (pe_dget hu (pv 1) (pv 7) (fun _ _ => rfl)) rfl)
              (pa_cons (pe_callTy call_tuple_of rfl T.f_tuple bo_tuple (pa_cons (pe_callB cr_sortedTI rfl T.f_sorted bo_sorted (pa_cons (pe_op op_snoc (pv 4) (pe_tup (pa_cons (pv 7) pa_nil))) pa_nil)) pa_nil)) (pa_cons (pe_tup pa_nil) pa_nil)))) pa_nil))) pa_nil)))) pss_nil)))
      (pss_one (ps_ret (pv 6))))), ?_⟩
    obtain ⟨pu, pb, h1, h2, h3⟩ := id hst
    refine ⟨_, rfl, ka, _, rfl, SqT.of h1, rfl, _, _, rfl, _, _, rfl, _, _, rfl, rfl, ?_⟩
    refine ⟨Nat.zero_le _, fun fa hfa => ?_⟩
    have s0 : Same H (upd H fa (.lst [])) := same_new hfa
    have hfa0 : upd H fa (.lst []) fa = some (.lst []) := upd_same
    generalize upd H fa (.lst []) = H0 at s0 hfa0 ⊢
    refine ⟨_, rfl, _, rfl, d, m, ts, ks, rfl, hd.same s0, hkl, tnd, tl, fun H1 up s1 hup hns => ?_⟩
    have hns' : H1 up = some (.lst ((srt (nums (ts.take m))).map V.int)) := hns
    have nfu : up ≠ fa := fun z => by
      rw [z, hfa0] at hup
      cases hup
    -- what stood ahead, and the numbers' list, are kept
    have big : (300 : Nat) ≤ sizeLine := by decide
    have nsl : (srt (nums (ts.take m))).length ≤ 5 := by
      rw [srt_length]
      unfold nums
      rw [List.length_map, List.length_take]
      omega
    refine ⟨up, rfl, ⟨_, SqL.of hns'⟩, for_list (K := K) (a := up) (xs := (srt (nums (ts.take m))).map V.int) (fun i σ H' => Same H H' ∧ H' up = some (.lst ((srt (nums (ts.take m))).map V.int)) ∧ ∃ (qs : List Addr) (l : List (Int × St3)) (v7 : Option V), σ = [some (.ref ka), some (.ref d), some (.int m), some (.int st.a), some (.ref pu), some (.ref pb), some (.ref fa), v7] ∧
        H' fa = some (.lst (qs.map V.ref)) ∧ CarR H' qs l ∧ qs.length ≤ i ∧ (∀ n st', (n, st') ∈ l → ∃ e ∈ ts, e.n ∈ (srt (nums (ts.take m))).take i ∧ e.s = st.a ∧ e.n ∉ st.u ∧ st' = ⟨e.t, srt (st.u ++ [e.n]), []⟩) ∧
        (∀ e ∈ ts, e.n ∈ (srt (nums (ts.take m))).take i → e.s = st.a → e.n ∉ st.u → (e.n, (⟨e.t, srt (st.u ++ [e.n]), []⟩ : St3)) ∈ l))
      ⟨s0.trans s1, hns', [], [], none, rfl, s1 _ _ hfa0, ⟨rfl, fun i q x e => by simp at e⟩, Nat.zero_le _, (fun n st' z => nomatch z), fun e _ z => by simp at z⟩ (fun i σ H' _ p => SqL.of p.2.1) ?_ ?_⟩
    · rintro i y σ H2 hi ⟨s2, hn2, qs, l, v7, rfl, hf2, R, hql, hsound, hcomp⟩
      obtain ⟨n, hn, rfl⟩ := get_int hi
      have hi5 : i < 5 := Nat.lt_of_lt_of_le (List.getElem?_eq_some_iff.mp hn).1 nsl
      have hmem : n ∈ nums (ts.take m) := mem_srt.mp (List.mem_of_getElem? hn)
      obtain ⟨e, het, rfl⟩ := List.mem_map.mp hmem
      have he : e ∈ ts := List.mem_of_mem_take het
      obtain ⟨p, j, mv, hj, hm, ⟨dx, hins⟩, hget⟩ := (hd.same s2).get hkl tnd he
      have hsucc : (srt (nums (ts.take m))).take (i + 1) = (srt (nums (ts.take m))).take i ++ [e.n] := by
        rw [List.take_add_one, hn]
        rfl
      have weaker : ∀ {x : Int}, x ∈ (srt (nums (ts.take m))).take i → x ∈ (srt (nums (ts.take m))).take (i + 1) := fun h => mem_take_succ h
      have hu2 := s2 _ _ h2
      refine ⟨_, rfl, _, rfl, d, _, rfl, hget, p, C, dx, _, _, rfl, hins, T.cls, T.n_source, trF_source _ _ _ _, _, rfl, _, _, rfl, rfl, _, rfl, ?_⟩
      have skip : ¬ (e.s = st.a ∧ e.n ∉ st.u) → (∀ n st', (n, st') ∈ l → ∃ e ∈ ts, e.n ∈ (srt (nums (ts.take m))).take (i + 1) ∧ e.s = st.a ∧ e.n ∉ st.u ∧ st' = ⟨e.t, srt (st.u ++ [e.n]), []⟩) ∧
          (∀ e ∈ ts, e.n ∈ (srt (nums (ts.take m))).take (i + 1) → e.s = st.a → e.n ∉ st.u → (e.n, (⟨e.t, srt (st.u ++ [e.n]), []⟩ : St3)) ∈ l) := fun hno => by
        refine ⟨fun n st' z => ?_, fun e' he' hm' hs' hu' => ?_⟩
        · obtain ⟨e', a1, a2, a3⟩ := hsound n st' z
          exact ⟨e', a1, weaker a2, a3⟩
        · rw [hsucc] at hm'
          rcases List.mem_append.mp hm' with z | z
          · exact hcomp e' he' z hs' hu'
          · have ee : e' = e := nums_inj tnd he' he (List.mem_singleton.mp z)
            rw [ee] at hs' hu'
            exact absurd ⟨hs', hu'⟩ hno
      refine ite2 (fun hsa => ?_) (fun hsa => ?_)
      · have hsa : e.s = st.a := of_decide_eq_true hsa
        refine ⟨_, rfl, _, rfl, pu, _, rfl, .inr (SqT.of hu2), rfl, flat_ints st.u, ?_⟩
        rw [if_pos rfl, inV_int]
        refine ⟨_, rfl, ite2 (fun hnu => ?_) (fun hnu => ?_)⟩
        · have hnu : e.n ∉ st.u := fun z => by
            rw [decide_eq_true z] at hnu
            cases hnu
          refine ⟨_, rfl, .inl ⟨rfl, _, SqL.of hf2⟩, _, rfl, _, rfl, _, rfl, d, _, rfl, hget, p, C, dx, _, _, rfl, hins, T.cls, T.n_target, trF_target _ _ _ _, ?_⟩
          refine ⟨_, rfl, _, rfl, (by show 1 ≤ sizeLine; decide), fun t ht => ?_⟩
          have s3 : Same H2 (upd H2 t (.tup [.int e.n])) := same_new ht
          refine ⟨pu, t, _, .int e.n, rfl, rfl, s3 _ _ hu2, upd_same, by rw [List.length_map]; omega, fun u2 H3 s4 hu3 => ?_⟩
          refine ⟨u2, st.u ++ [e.n], rfl, SqT.of (by rw [hu3, List.map_append]; rfl), fun ns' l1 perm rising hl1 => ?_⟩
          have en := srt_of perm rising
          have s5 : Same H3 (upd H3 l1 (.lst (ns'.map V.int))) := same_new hl1
          refine ⟨l1, _, rfl, .inl ⟨SqL.of upd_same, fun l2 hl2 => ?_⟩⟩
          have s6 := s5.trans (same_new (o := .tup (ns'.map V.int)) hl2)
          have hl2' : upd (upd H3 l1 (.lst (ns'.map V.int))) l2 (.tup (ns'.map V.int)) l2 = some (.tup (ns'.map V.int)) := upd_same
          generalize upd (upd H3 l1 (.lst (ns'.map V.int))) l2 (.tup (ns'.map V.int)) = H4 at s6 hl2' ⊢
          refine ⟨Nat.zero_le _, fun b0 hb0 => ?_⟩
          have s7 : Same H4 (upd H4 b0 (.tup [])) := same_new hb0
          have hb0' : upd H4 b0 (.tup []) b0 = some (.tup []) := upd_same
          generalize upd H4 b0 (.tup []) = H5 at s7 hb0' ⊢
          refine ⟨(by show 3 ≤ sizeLine; decide), fun kp hkp => ?_⟩
          have s8 : Same H5 (upd H5 kp (.tup [.int e.t, .ref l2, .ref b0])) := same_new hkp
          have hkp' : upd H5 kp (.tup [.int e.t, .ref l2, .ref b0]) kp = some (.tup [.int e.t, .ref l2, .ref b0]) := upd_same
          generalize upd H5 kp (.tup [.int e.t, .ref l2, .ref b0]) = H6 at s8 hkp' ⊢
          refine ⟨(by show 2 ≤ sizeLine; decide), fun q1 hq1 => ?_⟩
          have s9 : Same H6 (upd H6 q1 (.tup [.int e.n, .ref kp])) := same_new hq1
          have hq1' : upd H6 q1 (.tup [.int e.n, .ref kp]) q1 = some (.tup [.int e.n, .ref kp]) := upd_same
          generalize upd H6 q1 (.tup [.int e.n, .ref kp]) = H7 at s9 hq1' ⊢
          have s27 : Same H2 H7 := (s3.trans s4).trans (s6.trans (s7.trans (s8.trans s9)))
          have hf7 := s27 _ _ hf2
          refine ⟨fa, _, _, rfl, rfl, hf7, by rw [List.length_map]; omega, ?_⟩
          have tk : TupKeep H7 (upd H7 fa (.lst (qs.map V.ref ++ [V.ref q1]))) := tupKeep_upd hf7 fun xs z => by cases z
          have hfn : H fa = none := hfa
          refine ⟨same_upd (s2.trans s27) hfn, by rw [upd_ne nfu]; exact s27 _ _ hn2, qs ++ [q1], l ++ [(e.n, ⟨e.t, srt (st.u ++ [e.n]), []⟩)], _, rfl, ?_, ?_, ?_, ?_, ?_⟩
          · rw [upd_same, List.map_append]
            rfl
          · refine ((R.keep (same_tups s27)).snoc (kp := kp) hq1' ⟨l2, b0, s9 _ _ hkp', ?_, ?_⟩).keep tk
            · rw [← en]
              exact s9 _ _ (s8 _ _ (s7 _ _ hl2'))
            · exact s9 _ _ (s8 _ _ hb0')
          · rw [List.length_append, List.length_singleton]
            omega
          · intro n' st' z
            rcases List.mem_append.mp z with z | z
            · obtain ⟨e', a1, a2, a3⟩ := hsound n' st' z
              exact ⟨e', a1, weaker a2, a3⟩
            · have z' := List.mem_singleton.mp z
              injection z' with z1 z2
              refine ⟨e, he, ?_, hsa, hnu, z2⟩
              rw [hsucc]
              exact List.mem_append_right _ (List.mem_singleton.mpr rfl)
          · intro e' he' hm' hs' hu'
            rw [hsucc] at hm'
            rcases List.mem_append.mp hm' with z | z
            · exact List.mem_append_left _ (hcomp e' he' z hs' hu')
            · have ee : e' = e := nums_inj tnd he' he (List.mem_singleton.mp z)
              rw [ee]
              exact List.mem_append_right _ (List.mem_singleton.mpr rfl)
        · obtain ⟨k1, k2⟩ := skip fun z => hnu (by rw [decide_eq_false z.2]; rfl)
          exact ⟨s2, hn2, qs, l, _, rfl, hf2, R, Nat.le_succ_of_le hql, k1, k2⟩
      · obtain ⟨k1, k2⟩ := skip fun z => hsa (decide_eq_true z.1)
        exact iteF ⟨s2, hn2, qs, l, _, rfl, hf2, R, Nat.le_succ_of_le hql, k1, k2⟩
    · rintro σ H2 ⟨s2, hn2, qs, l, v7, rfl, hf2, R, hql, hsound, hcomp⟩
      rw [List.length_map, List.take_length] at hsound hcomp
      refine ⟨_, rfl, q H2 fa qs l s2 hfa hf2 R fun st' => ⟨?_, ?_⟩⟩
      · rintro ⟨e, het, hsa, hnu, rfl⟩
        exact ⟨e.n, hcomp e (List.mem_of_mem_take het) (mem_srt.mpr (mem_nums het)) hsa hnu⟩
      · rintro ⟨n, z⟩
        obtain ⟨e, he, hm', hsa, hnu, rfl⟩ := hsound n st' z
        obtain ⟨e', he', en⟩ := List.mem_map.mp (mem_srt.mp hm')
        have ee : e' = e := nums_inj tnd (List.mem_of_mem_take he') he en
        rw [ee] at he'
        exact ⟨e, he', hsa, hnu, rfl⟩
end
end B58
set_option Elab.async false
set_option linter.all false
set_option maxRecDepth 100000
set_option maxHeartbeats 4000000
/-! Rules of our own: dicts keyed by states, walked and sorted. -/
namespace B58
open PySem PySem.Spec PyProof.Rows PySem.Calls L2
section
variable {X : Cx} {pins : List (Addr × Obj)} {σ : L2.St} {H : Hp} {s : Shared} {d : Addr} {o : Obj}
theorem frzW {L : List EnW} (I : Inv X pins σ H s) (h : H d = some (.frz o (WD X.prog X.w d L))) :
    (d == sysModules) = false ∧ ∃ (es : Array DictEntry) (ep : Nat), o.data = .dict es ep ∧ s.heap.DictRaw d es ep ∧ es.size = L.length ∧ ∀ (i : Nat) (e : EnW) (hi : i < es.size), L[i]? = some e → es[i].key = .ref e.2.1 ∧ es[i].val = .ref e.2.2 := by
  obtain ⟨hd, x⟩ := I.hok d _ h
  obtain ⟨o', es, ep, ho, hx, hdt, he, _, _, hs⟩ := (show WDat X.prog X.w s.heap d L from x.1)
  rw [hd] at ho
  cases ho
  have hz : es.size = L.length := by
    have := size_of_entries he
    rw [this, List.length_map]
  refine ⟨hs, es, ep, hdt, ⟨o, hd, hx, hdt⟩, hz, fun i e hi hL => ?_⟩
  have q := entry_at he i
  rw [Array.getElem?_eq_getElem hi, List.getElem?_map, hL] at q
  have q' := Option.some.inj q
  exact ⟨by rw [q']; rfl, by rw [q']; rfl⟩
end
/-- the keys of the locked dict at d -/
def Itkw (P : Program) (w : World) (d : Addr) (o : Obj) (L : List EnW) : It :=
  ⟨fun i H => H d = some (.frz o (WD P w d L)) ∧ i < L.length, fun i H x H' => H' = H ∧ ∃ e, L[i]? = some e ∧ x = .ref e.2.1, fun i H => H d = some (.frz o (WD P w d L)) ∧ L.length ≤ i⟩
/-- its pairs, each a new tuple -/
def Itiw (P : Program) (w : World) (d : Addr) (o : Obj) (L : List EnW) : It :=
  ⟨fun i H => H d = some (.frz o (WD P w d L)) ∧ i < L.length, fun i H x H' => ∃ T e, L[i]? = some e ∧ x = .ref T ∧ H T = none ∧ H' = upd H T (.tup [.ref e.2.1, .ref e.2.2]), fun i H => H d = some (.frz o (WD P w d L)) ∧ L.length ≤ i⟩
section
variable {P : Program} {w : World} {K : PySem.W.Frag} {tg : Expr} {d : Addr} {o : Obj} {es : Array DictEntry} {ep : Nat} {L : List EnW}
theorem turn_keysW (it : Addr) (hod : o.data = .dict es ep) : Turn P w K tg (Itkw P w d o L) [it] it (fun i h => h.IsKeyIter it d i L.length ep) where
  mem := by simp
  obj := fun i h st b hb => by
    have e : b = it := by simpa using hb
    subst e
    obtain ⟨oi, e, c, dd⟩ := st
    exact ⟨oi, e, fun v z => by rw [dd] at z; cases z⟩
  keep := fun i h h' st k => st.at fun oi e => k it (by simp) oi e
  item := by
    intro X hP hw hK hc i pins s σ H E I hf st hg
    subst hP hw hK
    obtain ⟨hd, hi⟩ := hg
    obtain ⟨f0, f1, f2, f3, f4, f5⟩ := hf it (by simp)
    obtain ⟨hs, es', ep', hdt, hm, hz, ent⟩ := frzW I hd
    obtain ⟨rfl, rfl⟩ := dict_ep hod hdt
    have hi' : i < es'.size := by rw [hz]; exact hi
    rw [← hz] at st
    obtain ⟨e, he⟩ : ∃ e, L[i]? = some e := ⟨L[i], List.getElem?_eq_getElem hi⟩
    refine wpAny_pyNext_keys_item_raw st hm hi' fun h' st' sb => ?_
    have I1 : Inv X pins σ H { s with heap := h' } := I.turned (t' := s.toks) (fun b ob hb e => (sb.2 b hb).trans e) f0 f1 f3 f4 f5
    obtain ⟨oi, eo, c, dd⟩ := id st'
    rw [hz] at st'
    exact ⟨_, rfl, go_of (s := { s with heap := h' }) eo c dd (by decide) ⟨.ref e.2.1, H, I1, (ent i e hi' he).1, ⟨rfl, e, he, rfl⟩, st', fun b hb => (hf b hb).1⟩⟩
  done := by
    intro X hP hw hK hc i pins s σ H E I hf st hg
    subst hP hw hK
    obtain ⟨hd, hi⟩ := hg
    obtain ⟨f0, f1, f2, f3, f4, f5⟩ := hf it (by simp)
    obtain ⟨hs, es', ep', hdt, hm, hz, ent⟩ := frzW I hd
    obtain ⟨rfl, rfl⟩ := dict_ep hod hdt
    rw [← hz] at st hi
    exact wpAny_pyNext_keys_end_raw (I.ok.hd hc) st hm hi fun h' eb => ⟨rfl, I.turned (t' := s.toks) (fun b ob hb e => eb b ob hb e) f0 f1 f3 f4 f5⟩
  self := fun A i s Q E st h => wpAny_pyIter_keyiter st h
theorem turn_itemsW {elts : List Expr} {kk : Nat} {tpos : Pos} (it : Addr) (hod : o.data = .dict es ep) :
    Turn P w K (.Tuple elts kk tpos) (Itiw P w d o L) [it] it (fun i h => ∃ ok ov, IsItemIter h it d i L.length ep ok ov) where
  mem := by simp
  obj := fun i h st b hb => by
    have e : b = it := by simpa using hb
    subst e
    obtain ⟨ok, ov, e⟩ := st
    exact ⟨_, e, fun v z => nomatch z⟩
  keep := fun i h h' st k => let ⟨ok, ov, e⟩ := st; ⟨ok, ov, k it (by simp) _ e⟩
  item := by
    intro X hP hw hK hc i pins s σ H E I hf st hg
    subst hP hw hK
    obtain ⟨hd, hi⟩ := hg
    obtain ⟨hs, es', ep', hdt, hm, hz, ent⟩ := frzW I hd
    obtain ⟨rfl, rfl⟩ := dict_ep hod hdt
    have hi' : i < es'.size := by rw [hz]; exact hi
    rw [← hz] at st
    obtain ⟨e, he⟩ : ∃ e, L[i]? = some e := ⟨L[i], List.getElem?_eq_getElem hi⟩
    obtain ⟨ke, ve⟩ := ent i e hi' he
    obtain ⟨ok, ov, hit⟩ := st
    have hlt : it < s.heap.objs.size := Heap.lt_size hit
    refine wpAny_pyNext_items_item_raw hit hm hi' fun h' ho hT _ hk => ?_
    rw [ke, ve] at ho hT
    refine ⟨_, rfl, wpAny_letOwnedTupleGo_items (s := { s with heap := h' }) ho fun h'' he' sb => ?_⟩
    have hT2 : h''.get? s.heap.objs.size = some { cls := .type "tuple", data := .seq #[.ref e.2.1, .ref e.2.2] } := (sb.2 _ (Nat.ne_of_gt hlt)).trans hT
    have new : ObjOk X.prog X.w (upd H s.heap.objs.size (.tup [.ref e.2.1, .ref e.2.2])) h'' s.heap.objs.size (.tup [.ref e.2.1, .ref e.2.2]) :=
      ⟨by show 2 ≤ sizeLine; decide, [.ref e.2.1, .ref e.2.2], .cons rfl (.cons rfl .nil), ⟨_, hT2, rfl, _, rfl⟩⟩
    have I1 : Inv X pins σ (upd H s.heap.objs.size (.tup [.ref e.2.1, .ref e.2.2])) { s with heap := h'' } :=
      I.turnedNew (t' := s.toks) (ch := [it]) (fun b ob hb e => (sb.2 b (by simpa using hb)).trans (hk b ob (by simpa using hb) e)) hf (Nat.le_refl _) new
    rw [hz] at he'
    refine ⟨.ref s.heap.objs.size, _, I1, rfl, ⟨_, e, he, rfl, I.hok.fresh (Nat.le_refl _), rfl⟩, ⟨_, _, he'⟩, fun b hb => ?_⟩
    have e : b = it := by simpa using hb
    rw [e, upd_ne (Nat.ne_of_lt hlt)]
    exact (hf it (by simp)).1
  done := by
    intro X hP hw hK hc i pins s σ H E I hf st hg
    subst hP hw hK
    obtain ⟨hd, hi⟩ := hg
    obtain ⟨f0, f1, f2, f3, f4, f5⟩ := hf it (by simp)
    obtain ⟨hs, es', ep', hdt, hm, hz, ent⟩ := frzW I hd
    obtain ⟨rfl, rfl⟩ := dict_ep hod hdt
    obtain ⟨ok, ov, hit⟩ := st
    rw [← hz] at hit hi
    exact wpAny_pyNext_items_end_raw (I.ok.hd hc) hit hm hi fun h' eb => ⟨rfl, I.turned (t' := s.toks) (fun b ob hb e => eb b ob hb e) f0 f1 f3 f4 f5⟩
  self := fun A i s Q E st h => let ⟨_, _, e⟩ := st; PySem.W.kcp_self e h
theorem walk_keysW : Walk (Itkw P w d o L) L.length (fun H => H d = some (.frz o (WD P w d L))) (fun i H x H' => H' = H ∧ ∃ e, L[i]? = some e ∧ x = .ref e.2.1) :=
  ⟨fun _ _ hi q => ⟨q, hi⟩, fun _ q => ⟨q, Nat.le_refl _⟩, fun _ _ _ _ _ _ y => y⟩
theorem walk_itemsW : Walk (Itiw P w d o L) L.length (fun H => H d = some (.frz o (WD P w d L))) (fun i H x H' => ∃ T e, L[i]? = some e ∧ x = .ref T ∧ H T = none ∧ H' = upd H T (.tup [.ref e.2.1, .ref e.2.2])) :=
  ⟨fun _ _ hi q => ⟨q, hi⟩, fun _ q => ⟨q, Nat.le_refl _⟩, fun _ _ _ _ _ _ y => y⟩
end
/-- for k in d: d locked, or locked from now on -/
def iKeysW (P : Program) (w : World) (td : TE) : TI := fun σ H R => td σ H fun x H1 => ∃ d L, x = .ref d ∧ ((∃ o, H1 d = some (.frz o (WD P w d L)) ∧ R (Itkw P w d o L) H1) ∨ (H1 d = some (WD P w d L) ∧ ∀ o, R (Itkw P w d o L) (upd H1 d (.frz o (WD P w d L)))))
def iItemsW (P : Program) (w : World) (td : TE) : TI := fun σ H R => td σ H fun x H1 => ∃ d L, x = .ref d ∧ ((∃ o, H1 d = some (.frz o (WD P w d L)) ∧ R (Itiw P w d o L) H1) ∨ (H1 d = some (WD P w d L) ∧ ∀ o, R (Itiw P w d o L) (upd H1 d (.frz o (WD P w d L)))))
section
variable {X : Cx} {tg e : Expr} {td : TE} {apos cpos : Pos}
theorem pi_keysW (he : PE X e td) : PI X tg e (iKeysW X.prog X.w td) := by
  refine ⟨fun pins s σ H R I h => ?_⟩
  refine thn (he.run pins s σ H _ I h) fun u s1 ⟨x, H1, I1, rx, d, L, ex, q⟩ => ?_
  subst ex
  obtain rfl : u = Value.ref d := rx
  have go : ∀ (o : Obj) (H2 : Hp), Inv X pins σ H2 s1 → H2 d = some (.frz o (WD X.prog X.w d L)) → R (Itkw X.prog X.w d o L) H2 → wpAny (model X.prog X.w) X.A (pyIter (.ref d)) (PIE X pins σ tg R) X.xe s1 := fun o H2 I2 hd q => by
    obtain ⟨hs, es, ep, hdt, hm, hz, ent⟩ := frzW I2 hd
    refine wpAny_pyIter_dict_raw hs hm (pi_one (tk := s1.toks) I2 _ (turn_keysW _ hdt) ⟨_, Heap.get?_push_size _ rfl, rfl, ?_⟩ q)
    rw [hz] <;> rfl
  rcases q with ⟨o, hd, q⟩ | ⟨hd, q⟩
  · exact go o H1 I1 hd q
  · obtain ⟨od, I2⟩ := I1.lock hd True.intro
    exact go od _ I2 (upd_same ..) (q od)
theorem pi_itemsW {elts : List Expr} {kk : Nat} {tpos : Pos} (he : PE X e td) (hbase : attributeBase e "items" X.env (eval e X.env) = eval e X.env := by rfl) (hline : (apos.endLine == cpos.line) = true := by rfl) :
    PI X (.Tuple elts kk tpos) (.Call (.Attribute e "items" apos) [] [] cpos) (iItemsW X.prog X.w td) := by
  refine ⟨fun pins s σ H R I h => ?_⟩
  refine wpAny_Call_method (T := "dict") (id := "dict.items") hbase rfl hline F.plainAttrs_dict F.slot_dict_items F.type_dict_items (thn (he.run pins s σ H _ I h) fun u s1 ⟨x, H1, I1, rx, d, L, ex, q⟩ => ?_)
  subst ex
  obtain rfl : u = Value.ref d := rx
  have go : ∀ (o : Obj) (H2 : Hp), Inv X pins σ H2 s1 → H2 d = some (.frz o (WD X.prog X.w d L)) → R (Itiw X.prog X.w d o L) H2 →
      s1.TypeIs (.ref d) "dict" ∧ (∀ (a : Addr), Value.ref d = Value.ref a → ∃ ob, s1.heap.get? a = some ob ∧ ob.dict = none) ∧ wpAny (model X.prog X.w) X.A (callWith cpos (.builtin "dict.items") [.ref d] (backTo cpos (starEach [] X.env)) []) (fun v s1 => wpAny (model X.prog X.w) X.A (pyIter v) (PIE X pins σ (.Tuple elts kk tpos) R) X.xe s1) X.xe s1 := fun o H2 I2 hd q => by
    obtain ⟨hs, es, ep, hdt, hm, hz, ent⟩ := frzW I2 hd
    obtain ⟨o', ho', hx', _⟩ := id hm
    refine ⟨hm.typeIs, fun a ea => by cases ea; exact ⟨o', ho', hx'.2.1⟩, ?_⟩
    have I3 : Inv X pins σ H2 { s1 with heap := s1.heap.push { cls := .type "dict_items", data := .fields #[.ref d] } } := I2.kept (t' := s1.toks) fun b ob q => Heap.get?_push_of_some _ q
    have fin : wpAny (model X.prog X.w) X.A (pyIter (.ref s1.heap.objs.size)) (PIE X pins σ (.Tuple elts kk tpos) R) X.xe { s1 with heap := s1.heap.push { cls := .type "dict_items", data := .fields #[.ref d] } } := by
      refine wpAny_pyIter_items_raw (d := d) ⟨_, Heap.get?_push_size _ rfl, rfl, rfl⟩ (hm.at fun o e => Heap.get?_push_of_some _ e) (pi_one (tk := s1.toks) I3 _ (turn_itemsW _ hdt) ⟨.none, .none, ?_⟩ q)
      rw [← hz]
      exact Heap.get?_push_size _ rfl
    exact method_meetsIn F.slot_dict_items F.entry_dict_items rfl (PySem.evalArgs_none ⟨rfl, hm.typeIs, F.args_dict_items_1 _, _, meets_dict_items_raw d hs, ⟨es, ep, hm⟩, fin⟩)
  rcases q with ⟨o, hd, q⟩ | ⟨hd, q⟩
  · exact go o H1 I1 hd q
  · obtain ⟨od, I2⟩ := I1.lock hd True.intro
    exact go od _ I2 (upd_same ..) (q od)
end
end B58
set_option Elab.async false
set_option linter.all false
set_option maxRecDepth 100000
set_option maxHeartbeats 4000000
/-! Rules of our own: sorted of a dict keyed by states, plain and by a lambda's key. -/
namespace B58
open PySem PySem.Spec PyProof.Rows PySem.Calls L2
/-! ### sorted(d) -/
def encW (e : EnW) : PySem.PyData := .tuple [.int e.1.a, .tuple (e.1.u.map .int), .tuple (e.1.b.map .int)]
theorem alike_encW (e e' : EnW) : PySem.W.alike (encW e) (encW e') = true := by
  simp [encW, PySem.W.alike, PySem.W.alikeAll, PySem.W.alike_ints]
theorem depth_encW (e : EnW) : (encW e).depth ≤ 8 := by
  simp [encW, PyData.depth, PyData.depthAll, PySem.W.depth_ints]
theorem dp_int {K : PySem.W.Frag} {H : Hp} : ∀ l : List Int, DpAll K H (l.map V.int) (l.map .int)
  | [] => .nil
  | x :: l => .cons (.int x) (dp_int l)
theorem StAt.dp {K : PySem.W.Frag} {H : Hp} {ka : Addr} {st : St3} {va : Addr} (s : StAt H ka st) : Dp K H (.ref ka) (encW (st, ka, va)) := by
  obtain ⟨pu, pb, h1, h2, h3⟩ := s
  exact .tup (.inl (.inl h1)) (.cons (.int _) (.cons (.tup (.inl (.inl h2)) (dp_int _)) (.cons (.tup (.inl (.inl h3)) (dp_int _)) .nil)))
theorem each_keys (L : List EnW) : PySem.W.EachIs (fun (v : Value) (e : EnW) => v = .ref e.2.1) (L.map fun e => Value.ref e.2.1) L := by
  induction L with
  | nil => exact .nil
  | cons e L ih => exact .cons rfl ih
theorem each_keys_eq : ∀ {out : List Value} {L : List EnW}, PySem.W.EachIs (fun (v : Value) (e : EnW) => v = .ref e.2.1) out L → out = L.map fun e => Value.ref e.2.1
  | _, _, .nil => rfl
  | _, _, .cons h t => by rw [h, each_keys_eq t]; rfl
theorem vals_keys : ∀ L : List EnW, Vals (L.map fun e => V.ref e.2.1) (L.map fun e => Value.ref e.2.1)
  | [] => .nil
  | _ :: L => .cons rfl (vals_keys L)
theorem each_mem {α β : Type} {R R' : α → β → Prop} : ∀ {as : List α} {bs : List β}, PySem.W.EachIs R as bs → (∀ a b, b ∈ bs → R a b → R' a b) → PySem.W.EachIs R' as bs
  | _, _, .nil, _ => .nil
  | _, _, .cons h t, k => .cons (k _ _ List.mem_cons_self h) (each_mem t fun a b hb => k a b (List.mem_cons_of_mem _ hb))
section
variable {X : Cx} {pins : List (Addr × Obj)} {σ : L2.St} {H : Hp} {s : Shared} {d : Addr} {L : List EnW}
theorem rawW (I : Inv X pins σ H s) (r : Rd H d (WD X.prog X.w d L)) : (d == sysModules) = false ∧ ∃ es ep, s.heap.DictRaw d es ep ∧ es.size = L.length ∧ L.length ≤ sizeLine ∧ es.toList.map (·.key) = L.map fun e => Value.ref e.2.1 := by
  obtain ⟨o, es, ep, ho, hx, hdt, he, _, hz, hs⟩ := WD.get I.hok r
  refine ⟨hs, es, ep, ⟨o, ho, hx, hdt⟩, by rw [size_of_entries he, List.length_map], hz, ?_⟩
  rw [he, List.map_map, List.map_map]
  rfl
/-- sorted(d), d keyed by states -/
def rSortedW (P : Program) (w : World) : List V → Hp → VK → Prop := fun vs H Q => ∃ d L, vs = [V.ref d] ∧ Rd H d (WD P w d L) ∧ EnAt H L ∧ ∀ (L' : List EnW) (p : Addr), L'.Perm L → H p = none → Q (.ref p) (upd H p (.lst (L'.map fun e => V.ref e.2.1)))
theorem cr_sortedW (hc : X.calm = true) (hu : X.A.units + 16 < cLine) : CallR X (.builtin "sorted") (rSortedW X.prog X.w) := by
  intro pins s σ H vs us Q I r h
  obtain ⟨d, L, rfl, hd, en, q⟩ := h
  rw [Vals.ref1 r]
  obtain ⟨hs, es, ep, hm, hz, hzl, hkeys⟩ := rawW I hd
  refine sorted_cols (args_sorted1 _) (fun _ => args_list_sort _) (cols_dict (I.ok.hd hc) hs hm (by rw [hz]; exact hzl)) (fun vs e => by rw [e, hkeys, List.length_map]; exact hzl) fun h' tk vs hk e E' => ?_
  rw [hkeys] at e
  subst e
  have hg : (h'.push (seqObj "list" (L.map fun e => Value.ref e.2.1).toArray 0)).get? h'.objs.size = some (seqObj "list" (L.map fun e => Value.ref e.2.1).toArray 0) := Heap.get?_push_size _ rfl
  have I' := I.kept (t' := tk) hk
  have er : PySem.W.EachIs (fun v b => ∃ as, Reads (PySem.W.sortingHeap (h'.push (seqObj "list" (L.map fun e => Value.ref e.2.1).toArray 0)) h'.objs.size (L.map fun e => Value.ref e.2.1)) v (encW b) as) (L.map fun e => Value.ref e.2.1) L := by
    refine each_mem (each_keys L) fun v b hb e => ?_
    subst e
    obtain ⟨as, rd⟩ := Dp.reads I' _ _ _ (StAt.dp (K := X.K) (va := b.2.2) (en b hb)) rfl
    exact ⟨as, PyProof.Rows.Reads.keeps (fun b o e => PySem.W.sortingHeap_old (Nat.ne_of_lt (Heap.lt_size e)) (Heap.get?_push_of_some _ e)) rd⟩
  have hal : PySem.W.AllAlike (L.map encW) := PySem.W.AllAlike.of alike_encW
  refine PySem.W.list_sort_vals (s := { s with heap := h'.push (seqObj "list" (L.map fun e => Value.ref e.2.1).toArray 0), toks := tk }) (κ := PySem.W.dataKind (PySem.W.sortingHeap (h'.push (seqObj "list" (L.map fun e => Value.ref e.2.1).toArray 0)) h'.objs.size (L.map fun e => Value.ref e.2.1)) (L.map encW)) hg
    (PySem.W.SortsAt.data (s := { s with heap := PySem.W.sortingHeap (h'.push (seqObj "list" (L.map fun e => Value.ref e.2.1).toArray 0)) h'.objs.size (L.map fun e => Value.ref e.2.1), toks := tk }) (PySem.W.each_map (R := fun v d => ∃ as, Reads _ v d as) encW er) hal (PySem.W.Sortable.tuples fun b => ⟨_, _, rfl⟩) (fun d hd => ?_)) (by rw [List.length_map]; exact hzl) ⟨rfl, ?_⟩
  · obtain ⟨b, _, rfl⟩ := List.mem_map.mp hd
    have := depth_encW b
    show X.A.units + 1 + 1 + _ < cLine
    omega
  have eo := PySem.W.sortVals_data false (each_keys L) er hal
  have eo' := each_keys_eq eo
  obtain ⟨ep', he'⟩ := PyProof.Rows.sortedHeap_at (vs := L.map fun e => Value.ref e.2.1) (out := (PySem.W.sortVals (PySem.W.dataKind (PySem.W.sortingHeap (h'.push (seqObj "list" (L.map fun e => Value.ref e.2.1).toArray 0)) h'.objs.size (L.map fun e => Value.ref e.2.1)) (L.map encW)) false (L.map fun e => Value.ref e.2.1) (L.map fun e => Value.ref e.2.1)).toArray) hg
  generalize hL' : L.mergeSort (PySem.W.dataLe false encW) = L' at eo'
  have hp : L'.Perm L := by rw [← hL']; exact List.mergeSort_perm _ _
  refine ⟨.ref _, upd H h'.objs.size (.lst (L'.map fun e => V.ref e.2.1)), I'.laid (t' := tk) (fun b u e => by
    rw [PyProof.Rows.sortedHeap_old (Nat.ne_of_lt (Heap.lt_size e)) (by rw [Heap.size_push]; exact Nat.lt_succ_of_lt (Heap.lt_size e))]
    exact Heap.get?_push_of_some _ e) (Nat.le_refl _) ⟨by rw [List.length_map, hp.length_eq]; exact hzl, _, ep', ?_, he'⟩, rfl, q L' _ hp (I'.hok.fresh (Nat.le_refl _))⟩
  rw [eo']
  exact vals_keys L'
end
/-! ### a lambda of one parameter, called by a built-in -/
section
variable {prog : Program} {w : World} {A : Around} {s : Shared}
theorem lam1_pure {f c' : Addr} {v : Value} {a q : Str} {params : Arguments} {body : Expr} {scope : Scope} {cl : List (Str × Addr)} {pm ctv : Value} {k : PyData} (hroom : A.depth < recursionLimit) (lim : s.heap.NoLimit)
    (of1 : s.heap.get? f = some (PySem.W.kla_obj "<lambda>" q params body scope cl pm c' ctv)) (hcd : s.heap.CodeRec (.ref c') q) (hco : scope.isCoroutine = false) (hgen : scope.isGenerator = false) (hk : scope.kind = .function) (hcell : ∀ x ∈ scope.names, x.2 ≠ .cell)
    (hloc : scope.names.lookup a = some .local) (hbind : bindArgs (PySem.W.kla_fn "<lambda>" q params body scope cl pm (.ref c') ctv) ⟨[v], []⟩ = pure [(a, v)])
    (hbody : ∀ (L : Addr) (h₁ : Heap) (tk : Nat), h₁.Ns L (fun y => [(a, v)].reverse.lookup y) → Old s.heap h₁ → wpAny (model prog w) (A.deeper (PySem.W.envX q scope L f (.ref c') cl)) (eval body (PySem.W.envX q scope L f (.ref c') cl))
      (fun u s' => ∃ h' tk', s' = { s with heap := h', toks := tk' } ∧ Old h₁ h' ∧ Reads h' u k []) (fun _ _ => False) { s with heap := h₁, toks := tk }) :
    wpAny (model prog w) A (call (.ref f) [v]) (PySem.W.KeyPure k s) (fun _ _ => False) s := by
  refine wpAny_call ?_
  refine PySem.W.kla_callFunE hroom of1 rfl hco hgen rfl hcd ?_
  rw [hbind]
  refine wpAny_pure (wpAny_newFunctionEnv hcell (fun y hy => by rw [List.mem_singleton.mp hy]; exact hloc) (fun h₁ hns hsb => ⟨lim.fresh _ hsb, ?_⟩) hk)
  show codeAny _ _ (.expr body (PySem.W.envX q scope s.heap.objs.size f (.ref c') cl)) _ _
  have kp : Old s.heap h₁ := fun b o e => hsb.extBut b o (Nat.ne_of_lt (Heap.lt_size e)) (Heap.get?_push_of_some _ e)
  refine PySem.W.kla_codeExpr (wpAny_mono (hbody _ _ _ hns kp) (fun u s' hq => ?_) fun e s' hq => hq.elim)
  obtain ⟨h', tk', es, k', rd⟩ := hq
  exact ⟨h', tk', es, fun b o e => k' b o (kp b o e), rd⟩
/-- len(d[k]), d in a cell, k the parameter -/
theorem body_len {A : Around} {q xd xk : Str} {scope : Scope} {L fa c' cd d ka va : Addr} {cl : List (Str × Addr)} {h₁ : Heap} {p1 p2 p3 p4 p5 : Pos} {K : PySem.W.Frag} {mg : Str → Option Value} {base : Heap} {Ls : List EnW} {st : St3} {items : Array Value}
    (M : Mod K mg base) (hb : Old base h₁) (hk : scope.kind = .function) (hg : scope.names.lookup (Str.ofString "len") = some .globalImplicit) (hm : mg "len" = none) (hxd : scope.names.lookup xd = some .free) (hxk : scope.names.lookup xk = some .local) (hdb : (xd == ("__debug__" : Str)) = false) (hdk : (xk == ("__debug__" : Str)) = false) (hcdd : (xd == ("__classdict__" : Str)) = false)
    (hcl : cl.lookup xd = some cd) (hcell : h₁.IsCell cd (some (.ref d))) (hns : h₁.Ns L (fun y => [(xk, Value.ref ka)].reverse.lookup y))
    (hd : h₁.DictOfH (nestedKind prog w) d (Ls.map entW)) (hka : (nestedKind prog w).is h₁ (keyS st) ka) (hget : getW Ls st = some (ka, va)) (hva : h₁.IsList va items) (hfit : items.size ≤ sizeLine) (hu : A.units + 16 < cLine) {tk : Nat} :
    wpAny (model prog w) A (eval (.Call (.Name "len" p1) [.Subscript (.Name xd p2) (.Name xk p3) p4] [] p5) (PySem.W.envX q scope L fa (.ref c') cl))
      (fun u s' => ∃ h' tk', s' = { s with heap := h', toks := tk' } ∧ Old h₁ h' ∧ Reads h' u (.int items.size) []) (fun _ _ => False) { s with heap := h₁, toks := tk } := by
  obtain ⟨mb, b1, b2⟩ := M.blt
  refine wpAny_Call_Name_kw (Calls.Name_function_global hk hg (Calls.loadGlobal_builtin (mg := mg) (mb := mb) (M.glob.keeps hb) hm (b1.keeps hb) ((b2 "len" (by decide)).trans boot_len) ?_) (by decide))
  refine PyProof.Rows.callWith_builtin1 (e := .Subscript (.Name xd p2) (.Name xk p3) p4) (rest := []) ?_ rfl rfl
  refine Calls.spliced_cons (subD_of PySem.F.slot_dict_getitem.lookup (fun _ _ => rfl) ?_)
  refine wpAny_Name (wpAny_loadName_free hk hxd hcl hcell ?_ hcdd) hdb
  refine wpAny_Name (wpAny_loadName_local hk hxk hns (v := .ref ka) (by simp) ?_) hdk
  refine ⟨hd.typeIs, wpAny_getItem_heap (p := (ka, .ref va)) (show A.units + 1 + 8 < cLine by omega) hka hd (by rw [atKey_entW, hget]; rfl) ?_⟩
  refine Calls.spliced_nil ?_
  refine call_len_list (s := { s with heap := h₁, toks := _ }) hva (by have := sizeLine_eq; omega) ?_
  exact ⟨h₁, _, rfl, fun _ _ e => e, Reads.int _ _⟩
/-- p[0], p the parameter, a tuple -/
theorem body_first {A : Around} {q xk : Str} {scope : Scope} {L fa c' t : Addr} {cl : List (Str × Addr)} {h₁ : Heap} {p1 p2 p3 : Pos} {items : Array Value} {i : Int} {j : Nat} {tki : Tok}
    (hk : scope.kind = .function) (hxk : scope.names.lookup xk = some .local) (hdk : (xk == ("__debug__" : Str)) = false) (hns : h₁.Ns L (fun y => [(xk, Value.ref t)].reverse.lookup y)) (ht : IsTup h₁ t items) (h0 : items[0]? = some (.int i tki)) {tk : Nat} :
    wpAny (model prog w) A (eval (.Subscript (.Name xk p1) (.Constant (.int 0) j p2) p3) (PySem.W.envX q scope L fa (.ref c') cl))
      (fun u s' => ∃ h' tk', s' = { s with heap := h', toks := tk' } ∧ Old h₁ h' ∧ Reads h' u (.int i) []) (fun _ _ => False) { s with heap := h₁, toks := tk } := by
  have hsz : 0 < items.size := by
    rcases Nat.eq_zero_or_pos items.size with e | e
    · rw [Array.getElem?_eq_none (by omega)] at h0
      cases h0
    · exact e
  refine subD_of (T := "tuple") PyProof.Rows.slot_tuple_getitem.lookup (fun _ _ => rfl) ?_
  refine wpAny_Name (wpAny_loadName_local hk hxk hns (v := .ref t) (by simp) ?_) hdk
  refine wpAny_Constant_int ?_
  refine ⟨ht.typeIs, PyProof.Rows.getItem_tuple ht (by decide) (by decide) (j := 0) ?_ h0 ⟨h₁, _, rfl, fun _ _ e => e, Reads.int _ _⟩⟩
  unfold seqIndex?
  have e0 : (if (0 : Int) < 0 then (0 : Int) + (items.size : Int) else 0) = 0 := if_neg (by decide)
  have h1 : (decide ((0 : Int) ≤ 0) && decide ((0 : Int) < (items.size : Int))) = true := by
    rw [decide_eq_true (Int.le_refl 0), decide_eq_true (by omega : (0 : Int) < (items.size : Int))]
    rfl
  simp only [e0]
  rw [if_pos h1]
  rfl
end
end B58
set_option Elab.async false
set_option linter.all false
set_option maxRecDepth 100000
set_option maxHeartbeats 4000000
/-! Rules of our own: max by a lambda's key, min by len, whatever stands being kept. -/
namespace B58
open PySem PySem.Spec PyProof.Rows PySem.Calls L2
theorem args_min_kd (a v d : Value) : argsOk "min" ⟨[a], [(Str.ofString "key", v), (Str.ofString "default", d)]⟩ := by unfold argsOk; kernel_rfl
theorem old_but {h0 h h' : Heap} {a : Addr} (k : Old h0 h) (s : Heap.SameBut a h h') (n : h0.get? a = none) : Old h0 h' := fun b o e => (s.2 b (fun z => by rw [z, n] at e; cases e)).trans (k b o e)
section
variable {prog : Program} {w : World} {A : Around} {E : Value → Shared → Prop} {s : Shared} {h0 : Heap} {l q I S : Addr} {vs : List Value} {R : Result → Shared → Prop} {Q : Value → Shared → Prop}
theorem mx_loop (kf : Nat → Int) (hh : A.handled = none) (hl : ∀ h, Old h0 h → h.IsList l vs.toArray) (hlI : l ≠ I) (hSI : S ≠ I) (hS0 : h0.get? S = none) (hI0 : h0.get? I = none)
    (turn : ∀ (i : Nat) (v : Value), vs[i]? = some v → ∀ (h : Heap) (tk : Nat), Old h0 h → wpAny (model prog w) A.in1 (call (.ref q) [v]) (PySem.W.KeyPure (.int (kf i)) { s with heap := h, toks := tk }) (fun _ _ => False) { s with heap := h, toks := tk })
    (hR : ∀ i v h' tk', vs[i]? = some v → (∀ j, j < vs.length → kf j ≤ kf i) → Old h0 h' → R (.ok (.ret v)) { s with heap := h', toks := tk' }) :
    ∀ (r j i : Nat) (h : Heap) (tk : Nat) (vb : Value) (tb : Tok) (c : Nat), vs.length - (j + 1) = r → j + 1 ≤ vs.length → Old h0 h →
      h.get? S = some (seqObj "list" #[vb, .int (kf i) tb] c) → h.IsListIter I l (j + 1) → vs[i]? = some vb → (∀ j', j' ≤ j → kf j' ≤ kf i) →
      codeAny (model prog w) A (.builtin "max.loop" ⟨[.ref I, .ref q, .ref S], []⟩) R { s with heap := h, toks := tk } := by
  have hname : (toString "max" ++ toString ".loop" : String) = "max.loop" := by decide
  have W := Walks.list (prog := prog) (w := w) (A := A.in1) hh I l hlI vs.toArray
  have hsz : vs.toArray.size = vs.length := List.size_toArray ..
  have nb : ∀ {h h' : Heap}, Old h0 h → (∀ b o, b ∉ [I] → h.get? b = some o → h'.get? b = some o) → Old h0 h' := fun k hk b o e => hk b o (fun z => by rw [List.mem_singleton.mp z, hI0] at e; cases e) (k b o e)
  intro r
  induction r with
  | zero =>
    intro j i h tk vb tb c hr hj F nS hit hvb hbest
    have hin : j + 1 = vs.length := by omega
    refine codeAny_builtin PySem.F.entry_max_loop ?_
    rw [Around.under_plainId PySem.F.plain_max_loop _]
    show wpAny _ A.in1 (seqItems? (.ref S) >>= _) _ _ _
    refine wpAny_bind (wpAny_seqItems nS rfl ?_)
    show wpAny _ A.in1 (tryCatch (pyNext (.ref I)) _ >>= _) _ _ _
    refine wpAny_bind (wpAny_tryCatch (W.done _ _ _ ⟨by rw [hsz, ← hin]; exact hit, hl h F⟩ fun h' tk' hk' => ?_))
    have F1 := nb F hk'
    have hS' := hk' S _ (by simpa using hSI) nS
    have s1 := Heap.SameBut.update h' S (Obj.mapSeq fun _ => (#[] : Array Value))
    show wpAny _ A.in1 (updateSeq S (fun _ => #[]) >>= _) _ _ _
    refine wpAny_bind ?_
    refine wpAny_updateSeq hS' rfl (wpAny_bind (wpAny_letGo (wpAny_pure ?_)))
    exact hR i vb _ _ hvb (fun j' hj' => hbest j' (by omega)) (old_but F1 s1 hS0)
  | succ r ih =>
    intro j i h tk vb tb c hr hj F nS hit hvb hbest
    have hlt : j + 1 < vs.length := by omega
    refine codeAny_builtin PySem.F.entry_max_loop ?_
    rw [Around.under_plainId PySem.F.plain_max_loop _]
    show wpAny _ A.in1 (seqItems? (.ref S) >>= _) _ _ _
    refine wpAny_bind (wpAny_seqItems nS rfl ?_)
    show wpAny _ A.in1 (tryCatch (pyNext (.ref I)) _ >>= _) _ _ _
    refine wpAny_bind (wpAny_tryCatch (W.item (j + 1) _ _ _ (by rw [hsz]; exact hlt) ⟨hit, hl h F⟩ fun v h' tk' hP hst' hk' => ?_))
    have hv : vs[j + 1]? = some v := by simpa using hP
    obtain ⟨oI', hoI', hoc, hod⟩ := id hst'.1
    have F1 := nb F hk'
    have nS1 := hk' S _ (by simpa using hSI) nS
    show wpAny _ A.in1 (tryCatch (holding [v] (call (.ref q) [v])) _ >>= _) _ _ _
    refine wpAny_bind (wpAny_tryCatch (wpAny_holding (wpAny_mono (turn (j + 1) v hv h' tk' F1) (fun x s'' he => ?_) fun _ _ hF => hF.elim)))
    obtain ⟨h2, tk2, es, k2, rd⟩ := he
    subst es
    obtain ⟨t2, rfl⟩ : ∃ t2, x = .int (kf (j + 1)) t2 := by
      cases rd
      exact ⟨_, rfl⟩
    have F2 : Old h0 h2 := fun b o e => k2 b o (F1 b o e)
    have nS2 := k2 _ _ nS1
    have nI2 := k2 _ _ hoI'
    have hit2 : h2.IsListIter I l (j + 1 + 1) := ⟨oI', nI2, hoc, hod⟩
    show wpAny _ A.in1 (tryCatch (holding [v, .int (kf (j + 1)) t2] (richCompare .Gt (.int (kf (j + 1)) t2) (.int (kf i) tb) >>= _)) _ >>= _) _ _ _
    refine wpAny_bind (wpAny_tryCatch (wpAny_holding (wpAny_bind (CmpOf.ints_gt (prog := prog) (w := w) (A := A.in1) (P := fun i v => ∃ t, v = .int (kf i) t) kf (fun i v h => h) (j + 1) i _ _ _ _ _ ⟨t2, rfl⟩ ⟨tb, rfl⟩ ?_))))
    refine wpAny_bind (wpAny_holding (wpAny_truthy_bool ?_))
    refine wpAny_bind (wpAny_letGo (wpAny_pure ?_))
    by_cases hb' : kf (j + 1) > kf i
    ·
      have s1 := Heap.SameBut.update h2 S (Obj.mapSeq fun _ => #[v, .int (kf (j + 1)) t2])
      obtain ⟨c2, hc2⟩ : ∃ c2, (h2.update S (Obj.mapSeq fun _ => #[v, .int (kf (j + 1)) t2])).get? S = some (seqObj "list" #[v, .int (kf (j + 1)) t2] c2) := ⟨_, get?_update_seq nS2 fun _ => #[v, .int (kf (j + 1)) t2]⟩
      simp only [hb', decide_true, if_true]
      refine wpAny_bind ?_
      refine wpAny_updateSeq nS2 rfl (wpAny_bind (wpAny_letGo ?_))
      rw [hname]
      refine wpAny_pure ⟨plainId_quiet PySem.F.plain_max_loop _, ih (j + 1) (j + 1) _ _ v t2 c2 (by omega) hlt (old_but F2 s1 hS0) hc2 ⟨oI', (s1.2 I hSI.symm).trans nI2, hoc, hod⟩ hv fun j' hj' => ?_⟩
      by_cases e : j' = j + 1
      · rw [e]; exact Int.le_refl _
      · have hb1 := hbest j' (by omega)
        omega
    ·
      simp only [hb', decide_false, Bool.false_eq_true, if_false]
      refine wpAny_bind (wpAny_letGo ?_)
      rw [hname]
      refine wpAny_pure ⟨plainId_quiet PySem.F.plain_max_loop _, ih (j + 1) i _ _ vb tb c (by omega) hlt F2 nS2 hit2 hvb fun j' hj' => ?_⟩
      by_cases e : j' = j + 1
      · rw [e]; omega
      · exact hbest j' (by omega)
theorem mx_key (kf : Nat → Int) (hh : A.handled = none) (hls : s.heap.IsList l vs.toArray) (hne : 0 < vs.length)
    (turn : ∀ (i : Nat) (v : Value), vs[i]? = some v → ∀ (h : Heap) (tk : Nat), Old s.heap h → wpAny (model prog w) A.in1 (call (.ref q) [v]) (PySem.W.KeyPure (.int (kf i)) { s with heap := h, toks := tk }) (fun _ _ => False) { s with heap := h, toks := tk })
    (hQ : ∀ i v h' tk', vs[i]? = some v → (∀ j, j < vs.length → kf j ≤ kf i) → Old s.heap h' → Q v { s with heap := h', toks := tk' }) :
    wpAny (model prog w) A (call (.builtin "max") [.ref l] [(Str.ofString "key", .ref q)]) Q E s := by
  have hname : (toString "max" ++ toString ".loop" : String) = "max.loop" := by decide
  obtain ⟨ol, hol, _⟩ := id hls
  have hll : l < s.heap.objs.size := Heap.lt_size hol
  have hl : ∀ h, Old s.heap h → h.IsList l vs.toArray := fun h k => let ⟨o, ho, r⟩ := hls; ⟨o, k _ _ ho, r⟩
  refine kmk_tree PySem.F.kind_max PySem.F.plain_max PySem.F.entry_max (kmk_max_key _ _) ?_
  show wpAny _ A.in1 (Builtin.Builtins.bindParams "max" ["key", "default"] 0 ⟨[], [(Str.ofString "key", .ref q)]⟩ >>= _) _ _ s
  refine wpAny_bind (wpAny_of_eq (show Builtin.Builtins.bindParams "max" ["key", "default"] 0 ⟨[], [(Str.ofString "key", .ref q)]⟩ = pure [some (.ref q), none] from rfl) ?_)
  refine wpAny_bind (wpAny_pure ?_)
  refine wpAny_bind (wpAny_pyIter_list hls ?_)
  refine wpAny_bind (wpAny_newList ?_ (Nat.zero_le _))
  rw [hname]
  have hS : (s.heap.push { cls := .type "list_iterator", data := .fields #[.ref l, .int 0 0] }).objs.size = s.heap.objs.size + 1 := size_push' ..
  have hlI : l ≠ s.heap.objs.size := Nat.ne_of_lt hll
  have hSI : (s.heap.push { cls := .type "list_iterator", data := .fields #[.ref l, .int 0 0] }).objs.size ≠ s.heap.objs.size := by rw [hS]; exact Nat.ne_of_gt (Nat.lt_succ_self _)
  have hS0 : s.heap.get? (s.heap.push { cls := .type "list_iterator", data := .fields #[.ref l, .int 0 0] }).objs.size = none := by rw [hS]; exact Heap.get?_none_of_le (Nat.le_succ _)
  have hI0 : s.heap.get? s.heap.objs.size = none := Heap.get?_none_of_le (Nat.le_refl _)
  refine wpAny_pure ⟨plainId_quiet PySem.F.plain_max_loop _, ?_⟩
  have FH : Old s.heap ((s.heap.push { cls := .type "list_iterator", data := .fields #[.ref l, .int 0 0] }).push (seqObj "list" #[] 0)) := fun b x e => Heap.get?_push_of_some _ (Heap.get?_push_of_some _ e)
  have gI : ((s.heap.push { cls := .type "list_iterator", data := .fields #[.ref l, .int 0 0] }).push (seqObj "list" #[] 0)).get? s.heap.objs.size = some { cls := .type "list_iterator", data := .fields #[.ref l, .int 0 0] } :=
    Heap.get?_push_of_some _ (Heap.get?_push_size _ rfl)
  have gS : ((s.heap.push { cls := .type "list_iterator", data := .fields #[.ref l, .int 0 0] }).push (seqObj "list" #[] 0)).get? (s.heap.push { cls := .type "list_iterator", data := .fields #[.ref l, .int 0 0] }).objs.size = some (seqObj "list" #[] 0) := Heap.get?_push_size _ rfl
  generalize (s.heap.push { cls := .type "list_iterator", data := .fields #[.ref l, .int 0 0] }).objs.size = S at hSI hS0 gS ⊢
  generalize ((s.heap.push { cls := .type "list_iterator", data := .fields #[.ref l, .int 0 0] }).push (seqObj "list" #[] 0)) = hp at FH gI gS ⊢
  have W := Walks.list (prog := prog) (w := w) (A := A.in1) hh s.heap.objs.size l hlI vs.toArray
  have hsz : vs.toArray.size = vs.length := List.size_toArray ..
  refine codeAny_builtin PySem.F.entry_max_loop ?_
  rw [Around.under_plainId PySem.F.plain_max_loop _]
  show wpAny _ A.in1 (seqItems? (.ref _) >>= _) _ _ _
  refine wpAny_bind (wpAny_seqItems gS rfl ?_)
  show wpAny _ A.in1 (tryCatch (pyNext (.ref s.heap.objs.size)) _ >>= _) _ _ _
  refine wpAny_bind (wpAny_tryCatch (W.item 0 _ _ _ (by rw [hsz]; exact hne) ⟨⟨_, gI, rfl, rfl⟩, hl _ FH⟩ fun v h' tk' hP hst' hk' => ?_))
  have hv : vs[0]? = some v := by simpa using hP
  obtain ⟨oI', hoI', hoc, hod⟩ := id hst'.1
  have F1 : Old s.heap h' := fun b o e => hk' b o (fun z => by rw [List.mem_singleton.mp z, hI0] at e; cases e) (FH b o e)
  have nS1 := hk' S _ (by simpa using hSI) gS
  show wpAny _ A.in1 (tryCatch (holding [v] (call (.ref q) [v])) _ >>= _) _ _ _
  refine wpAny_bind (wpAny_tryCatch (wpAny_holding (wpAny_mono (turn 0 v hv h' tk' F1) (fun x s'' he => ?_) fun _ _ hF => hF.elim)))
  obtain ⟨h2, tk2, es, k2, rd⟩ := he
  subst es
  obtain ⟨t2, rfl⟩ : ∃ t2, x = .int (kf 0) t2 := by
    cases rd
    exact ⟨_, rfl⟩
  have F2 : Old s.heap h2 := fun b o e => k2 b o (F1 b o e)
  have nS2 := k2 _ _ nS1
  have nI2 := k2 _ _ hoI'
  have s1 := Heap.SameBut.update h2 S (Obj.mapSeq fun _ => #[v, .int (kf 0) t2])
  obtain ⟨c2, hc2⟩ : ∃ c2, (h2.update S (Obj.mapSeq fun _ => #[v, .int (kf 0) t2])).get? S = some (seqObj "list" #[v, .int (kf 0) t2] c2) := ⟨_, get?_update_seq nS2 fun _ => #[v, .int (kf 0) t2]⟩
  show wpAny _ A.in1 (updateSeq S (fun _ => #[v, .int (kf 0) t2]) >>= _) _ _ _
  refine wpAny_bind ?_
  refine wpAny_updateSeq nS2 rfl ?_
  rw [hname]
  refine wpAny_pure ⟨plainId_quiet PySem.F.plain_max_loop _, mx_loop kf hh hl hlI hSI hS0 hI0 turn hQ _ 0 0 _ _ v t2 c2 rfl hne (old_but F2 s1 hS0) hc2 ⟨oI', (s1.2 _ hSI.symm).trans nI2, hoc, hod⟩ hv fun j' hj' => ?_⟩
  have e : j' = 0 := by omega
  rw [e]
  exact Int.le_refl _
/-- the best so far, or nothing yet -/
def MnBest (vs : List Value) (j : Nat) (old : Array Value) : Prop := (old = #[] ∧ j = 0) ∨ ∃ vb k tb, old = #[vb, .int k tb] ∧ vb ∈ vs
theorem mn_loop {d : Value} (hh : A.handled = none) (hl : ∀ h, Old h0 h → h.IsList l vs.toArray) (hlI : l ≠ I) (hSI : S ≠ I) (hS0 : h0.get? S = none) (hI0 : h0.get? I = none)
    (items : ∀ v, v ∈ vs → ∃ a xs, v = .ref a ∧ h0.IsList a xs ∧ xs.size ≤ sizeLine)
    (hR : ∀ v h' tk', (vs = [] ∧ v = d) ∨ v ∈ vs → Old h0 h' → R (.ok (.ret v)) { s with heap := h', toks := tk' }) :
    ∀ (r j : Nat) (h : Heap) (tk : Nat) (old : Array Value) (c : Nat), vs.length - j = r → j ≤ vs.length → Old h0 h →
      h.get? S = some (seqObj "list" old c) → h.IsListIter I l j → MnBest vs j old →
      codeAny (model prog w) A (.builtin "min.loop" ⟨[.ref I, .builtin "len", .ref S], [(Str.ofString "default", d)]⟩) R { s with heap := h, toks := tk } := by
  have hname : (toString "min" ++ toString ".loop" : String) = "min.loop" := by decide
  have W := Walks.list (prog := prog) (w := w) (A := A.in1) hh I l hlI vs.toArray
  have hsz : vs.toArray.size = vs.length := List.size_toArray ..
  have nb : ∀ {h h' : Heap}, Old h0 h → (∀ b o, b ∉ [I] → h.get? b = some o → h'.get? b = some o) → Old h0 h' := fun k hk b o e => hk b o (fun z => by rw [List.mem_singleton.mp z, hI0] at e; cases e) (k b o e)
  intro r
  induction r with
  | zero =>
    intro j h tk old c hr hj F nS hit hb
    have hin : j = vs.length := by omega
    refine codeAny_builtin PySem.F.entry_min_loop ?_
    rw [Around.under_plainId PySem.F.plain_min_loop _]
    show wpAny _ A.in1 (seqItems? (.ref S) >>= _) _ _ _
    refine wpAny_bind (wpAny_seqItems nS rfl ?_)
    show wpAny _ A.in1 (tryCatch (pyNext (.ref I)) _ >>= _) _ _ _
    refine wpAny_bind (wpAny_tryCatch (W.done _ _ _ ⟨by rw [hsz, ← hin]; exact hit, hl h F⟩ fun h' tk' hk' => ?_))
    have F1 := nb F hk'
    have hS' := hk' S _ (by simpa using hSI) nS
    have s1 := Heap.SameBut.update h' S (Obj.mapSeq fun _ => (#[] : Array Value))
    rcases hb with ⟨rfl, hj0⟩ | ⟨vb, k, tb, rfl, hvb⟩
    · show wpAny (model prog w) A.in1 (do
        rule (toString "min" ++ toString ".default")
        pure (PySem.Fin.done (.ret d))) _ _ _
      refine wpAny_bind (wpAny_rule (wpAny_pure ?_))
      refine hR d _ _ (.inl ⟨?_, rfl⟩) F1
      exact List.eq_nil_of_length_eq_zero (by omega)
    · show wpAny _ A.in1 (updateSeq S (fun _ => #[]) >>= _) _ _ _
      refine wpAny_bind ?_
      refine wpAny_updateSeq hS' rfl (wpAny_bind (wpAny_letGo (wpAny_pure ?_)))
      exact hR vb _ _ (.inr hvb) (old_but F1 s1 hS0)
  | succ r ih =>
    intro j h tk old c hr hj F nS hit hb
    have hlt : j < vs.length := by omega
    refine codeAny_builtin PySem.F.entry_min_loop ?_
    rw [Around.under_plainId PySem.F.plain_min_loop _]
    show wpAny _ A.in1 (seqItems? (.ref S) >>= _) _ _ _
    refine wpAny_bind (wpAny_seqItems nS rfl ?_)
    show wpAny _ A.in1 (tryCatch (pyNext (.ref I)) _ >>= _) _ _ _
    refine wpAny_bind (wpAny_tryCatch (W.item j _ _ _ (by rw [hsz]; exact hlt) ⟨hit, hl h F⟩ fun v h' tk' hP hst' hk' => ?_))
    have hv : vs[j]? = some v := by simpa using hP
    have hvm : v ∈ vs := List.mem_of_getElem? hv
    obtain ⟨oI', hoI', hoc, hod⟩ := id hst'.1
    have F1 := nb F hk'
    have nS1 := hk' S _ (by simpa using hSI) nS
    obtain ⟨a, xs, rfl, ha, hxs⟩ := items v hvm
    show wpAny _ A.in1 (tryCatch (holding [.ref a] (call (.builtin "len") [.ref a])) _ >>= _) _ _ _
    refine wpAny_bind (wpAny_tryCatch (wpAny_holding (call_len_list (s := { s with heap := h', toks := tk' }) (items := xs) (let ⟨o, ho, r⟩ := ha; ⟨o, F1 _ _ ho, r⟩) (by have := sizeLine_eq; omega) ?_)))
    have hit2 : h'.IsListIter I l (j + 1) := ⟨oI', hoI', hoc, hod⟩
    rcases hb with ⟨rfl, hj0⟩ | ⟨vb, k, tb, rfl, hvb⟩
    · have s1 := Heap.SameBut.update h' S (Obj.mapSeq fun _ => #[.ref a, .int xs.size (tk' + 1)])
      obtain ⟨c2, hc2⟩ : ∃ c2, (h'.update S (Obj.mapSeq fun _ => #[.ref a, .int xs.size (tk' + 1)])).get? S = some (seqObj "list" #[.ref a, .int xs.size (tk' + 1)] c2) := ⟨_, get?_update_seq nS1 fun _ => #[.ref a, .int xs.size (tk' + 1)]⟩
      show wpAny _ A.in1 (updateSeq S (fun _ => #[.ref a, .int xs.size (tk' + 1)]) >>= _) _ _ _
      refine wpAny_bind ?_
      refine wpAny_updateSeq (s := { s with heap := h', toks := tk' + 1 + 1 }) nS1 rfl ?_
      rw [hname]
      exact wpAny_pure ⟨plainId_quiet PySem.F.plain_min_loop _, ih (j + 1) _ _ _ c2 (by omega) hlt (old_but F1 s1 hS0) hc2 ⟨oI', (s1.2 I hSI.symm).trans hoI', hoc, hod⟩ (.inr ⟨_, _, _, rfl, hvm⟩)⟩
    · show wpAny _ A.in1 (tryCatch (holding [.ref a, .int xs.size (tk' + 1)] (richCompare .Lt (.int xs.size (tk' + 1)) (.int k tb) >>= _)) _ >>= _) _ _ _
      refine wpAny_bind (wpAny_tryCatch (wpAny_holding (wpAny_bind (CmpOf.ints_lt (prog := prog) (w := w) (A := A.in1) (P := fun i v => ∃ t, v = .int (if i = 0 then (xs.size : Int) else k) t) (fun i => if i = 0 then (xs.size : Int) else k) (fun i v h => h) 0 1 _ _ _ _ _ ⟨_, rfl⟩ ⟨tb, rfl⟩ ?_))))
      refine wpAny_bind (wpAny_holding (wpAny_truthy_bool ?_))
      refine wpAny_bind (wpAny_letGo (wpAny_pure ?_))
      by_cases hb' : (xs.size : Int) < k
      ·
        have s1 := Heap.SameBut.update h' S (Obj.mapSeq fun _ => #[.ref a, .int xs.size (tk' + 1)])
        obtain ⟨c2, hc2⟩ : ∃ c2, (h'.update S (Obj.mapSeq fun _ => #[.ref a, .int xs.size (tk' + 1)])).get? S = some (seqObj "list" #[.ref a, .int xs.size (tk' + 1)] c2) := ⟨_, get?_update_seq nS1 fun _ => #[.ref a, .int xs.size (tk' + 1)]⟩
        simp only [hb', if_true, Nat.one_ne_zero, if_false, decide_true]
        refine wpAny_bind ?_
        refine wpAny_updateSeq nS1 rfl (wpAny_bind (wpAny_letGo ?_))
        rw [hname]
        exact wpAny_pure ⟨plainId_quiet PySem.F.plain_min_loop _, ih (j + 1) _ _ _ c2 (by omega) hlt (old_but F1 s1 hS0) hc2 ⟨oI', (s1.2 I hSI.symm).trans hoI', hoc, hod⟩ (.inr ⟨_, _, _, rfl, hvm⟩)⟩
      ·
        simp only [hb', if_true, Nat.one_ne_zero, if_false, decide_false, Bool.false_eq_true]
        refine wpAny_bind (wpAny_letGo ?_)
        rw [hname]
        exact wpAny_pure ⟨plainId_quiet PySem.F.plain_min_loop _, ih (j + 1) _ _ _ c (by omega) hlt F1 nS1 hit2 (.inr ⟨_, _, _, rfl, hvb⟩)⟩
theorem mn_len {d : Value} (hh : A.handled = none) (hls : s.heap.IsList l vs.toArray) (items : ∀ v, v ∈ vs → ∃ a xs, v = .ref a ∧ s.heap.IsList a xs ∧ xs.size ≤ sizeLine)
    (hQ : ∀ v h' tk', (vs = [] ∧ v = d) ∨ v ∈ vs → Old s.heap h' → Q v { s with heap := h', toks := tk' }) :
    wpAny (model prog w) A (call (.builtin "min") [.ref l] [(Str.ofString "key", .builtin "len"), (Str.ofString "default", d)]) Q E s := by
  have hname : (toString "min" ++ toString ".loop" : String) = "min.loop" := by decide
  obtain ⟨ol, hol, _⟩ := id hls
  have hll : l < s.heap.objs.size := Heap.lt_size hol
  have hl : ∀ h, Old s.heap h → h.IsList l vs.toArray := fun h k => let ⟨o, ho, r⟩ := hls; ⟨o, k _ _ ho, r⟩
  refine kmk_tree PySem.F.kind_min PySem.F.plain_min PySem.F.entry_min (args_min_kd _ _ _) ?_
  show wpAny _ A.in1 (Builtin.Builtins.bindParams "min" ["key", "default"] 0 ⟨[], [(Str.ofString "key", .builtin "len"), (Str.ofString "default", d)]⟩ >>= _) _ _ s
  refine wpAny_bind (wpAny_of_eq (show Builtin.Builtins.bindParams "min" ["key", "default"] 0 ⟨[], [(Str.ofString "key", .builtin "len"), (Str.ofString "default", d)]⟩ = pure [some (.builtin "len"), some d] from rfl) ?_)
  refine wpAny_bind (wpAny_pure ?_)
  refine wpAny_bind (wpAny_pyIter_list hls ?_)
  refine wpAny_bind (wpAny_newList ?_ (Nat.zero_le _))
  rw [hname]
  have hS : (s.heap.push { cls := .type "list_iterator", data := .fields #[.ref l, .int 0 0] }).objs.size = s.heap.objs.size + 1 := size_push' ..
  have hlI : l ≠ s.heap.objs.size := Nat.ne_of_lt hll
  have hSI : (s.heap.push { cls := .type "list_iterator", data := .fields #[.ref l, .int 0 0] }).objs.size ≠ s.heap.objs.size := by rw [hS]; exact Nat.ne_of_gt (Nat.lt_succ_self _)
  have hS0 : s.heap.get? (s.heap.push { cls := .type "list_iterator", data := .fields #[.ref l, .int 0 0] }).objs.size = none := by rw [hS]; exact Heap.get?_none_of_le (Nat.le_succ _)
  have hI0 : s.heap.get? s.heap.objs.size = none := Heap.get?_none_of_le (Nat.le_refl _)
  refine wpAny_pure ⟨plainId_quiet PySem.F.plain_min_loop _, ?_⟩
  have FH : Old s.heap ((s.heap.push { cls := .type "list_iterator", data := .fields #[.ref l, .int 0 0] }).push (seqObj "list" #[] 0)) := fun b x e => Heap.get?_push_of_some _ (Heap.get?_push_of_some _ e)
  have gI : ((s.heap.push { cls := .type "list_iterator", data := .fields #[.ref l, .int 0 0] }).push (seqObj "list" #[] 0)).get? s.heap.objs.size = some { cls := .type "list_iterator", data := .fields #[.ref l, .int 0 0] } :=
    Heap.get?_push_of_some _ (Heap.get?_push_size _ rfl)
  have gS : ((s.heap.push { cls := .type "list_iterator", data := .fields #[.ref l, .int 0 0] }).push (seqObj "list" #[] 0)).get? (s.heap.push { cls := .type "list_iterator", data := .fields #[.ref l, .int 0 0] }).objs.size = some (seqObj "list" #[] 0) := Heap.get?_push_size _ rfl
  exact mn_loop (s := s) hh hl hlI hSI hS0 hI0 items hQ _ 0 _ s.toks #[] 0 rfl (Nat.zero_le _) FH gS ⟨_, gI, rfl, rfl⟩ (.inl ⟨rfl, rfl⟩)
end
end B58
set_option Elab.async false
set_option linter.all false
set_option maxRecDepth 100000
set_option maxHeartbeats 4000000
/-! Rules of our own: sorted(d, key=lambda k: len(d[k])), max(l, key=lambda p: p[0]), min(l, key=len, default=None). -/
namespace B58
open PySem PySem.Spec PyProof.Rows PySem.Calls L2 LamX
/-- what a lambda's making asks -/
structure LamAt (X : Cx) (T : List (Addr × Str)) : Prop where
  tb : ∃ c P, TabB X.base X.mg c P ∧ X.env.code = .ref c ∧ (P, X.env.qual ++ "<lambda>") ∈ T ∧ ∀ p ∈ T, p.1 = P → p.2 = X.env.qual ++ "<lambda>"
def lenV (H : Hp) (a : Addr) : Nat := match H a with
  | some (.lst xs) => xs.length
  | _ => 0
section
variable {X : Cx}
theorem codeO_rec {P : Program} {w : World} {H : Hp} {h h' : Heap} {c : Addr} {q : Str} (ok : HOk P w H h) (e : H c = some (CodeO c q)) (k : Old h h') : h'.CodeRec (.ref c) q := by
  obtain ⟨⟨oc, vs, t, h1, h2, h3⟩, _, _⟩ := ok c _ e
  exact ⟨c, oc, vs, t, rfl, k _ _ h1, h2, h3⟩
theorem StAt.isOld {P : Program} {w : World} {H : Hp} {h h' : Heap} {ka : Addr} {st : St3} (ok : HOk P w H h) (s : StAt H ka st) (k : Old h h') : (nestedKind P w).is h' (keyS st) ka := by
  obtain ⟨pu, pb, e1, e2, e3⟩ := s
  obtain ⟨us, o, n, r, h1, h2, h3⟩ := tup_at ok e1
  have nt : ∀ {a : Addr} {l : List Int}, H a = some (.tup (l.map V.int)) → NestedIs h' (.tup (l.map .num)) (.ref a) := fun {a l} e => by
    obtain ⟨us, o, n, r, h1, h2, h3⟩ := tup_at ok e
    exact .tup (k _ _ h1) h2 h3 (by simpa using nested_ints r)
  refine ⟨?_, keyS_depth st⟩
  cases r with
  | cons r1 r =>
    cases r with
    | cons r2 r =>
      cases r with
      | cons r3 r =>
        cases r
        obtain ⟨tk, rfl⟩ := r1
        cases r2
        cases r3
        exact .tup (k _ _ h1) h2 h3 (.cons (.int _ _) (.cons (nt e2) (.cons (nt e3) .nil)))
/-- sorted(d, key=lambda k: len(d[k])): d in the slot i, a cell -/
def tSortKW (P : Program) (w : World) (T : List (Addr × Str)) (i : Nat) (td : TE) : TE := fun σ H Q => td σ H fun x H1 => Tabs T H1 ∧ ∃ d L, x = .ref d ∧ σ[i]? = some (some (.ref d)) ∧ H1 d = some (WD P w d L) ∧ EnAt H1 L ∧ (∀ e ∈ L, ∃ xs, H1 e.2.2 = some (.lst xs)) ∧
  ∀ H2, ExtN H1 H2 → Tabs T H2 → ∀ (L' : List EnW) (p : Addr), L'.Perm L → H2 p = none → Q (.ref p) (upd H2 p (.lst (L'.map fun e => V.ref e.2.1)))
theorem pe_sortKW {T : List (Addr × Str)} {e : Expr} {td : TE} {i : Nat} {xd xk : Str} {params : Arguments} {scope : Scope} {p p1 p2 p3 p4 p5 lpos kpos pos : Pos} (hc : X.calm = true) (hr : Room 1 X.A) (LA : LamAt X T) (hg : Gl X "sorted") (hm : X.mg "sorted" = none) (hml : X.mg "len" = none) (ha : PE X e td)
    (hN : X.N[i]? = some xd) (hcell : X.env.scope.names.lookup xd = some .cell) (hdef : defaultsOf params X.env = ([], []))
    (hfr : ∀ y ∈ scope.names, y.2 = .free → X.env.scope.names.lookup y.1 = some .cell ∨ X.env.scope.names.lookup y.1 = some .free)
    (hk : scope.kind = .function) (hco : scope.isCoroutine = false) (hgen : scope.isGenerator = false) (hnc : ∀ x ∈ scope.names, x.2 ≠ .cell) (hgl : scope.names.lookup (Str.ofString "len") = some .globalImplicit) (hxd : scope.names.lookup xd = some .free) (hxk : scope.names.lookup xk = some .local)
    (hdb : (xd == ("__debug__" : Str)) = false) (hdk : (xk == ("__debug__" : Str)) = false) (hcdd : (xd == ("__classdict__" : Str)) = false)
    (hbind : ∀ (q : Str) (body : Expr) (cl : List (Str × Addr)) (pm cv ctv v : Value), bindArgs (PySem.W.kla_fn "<lambda>" q params body scope cl pm cv ctv) ⟨[v], []⟩ = pure [(xk, v)])
    (hs : starEach [e] X.env = (false, eval e X.env) :: starEach [] X.env := by rfl) :
    PE X (.Call (.Name "sorted" p) [e] [⟨some "key", .Lambda params (.Call (.Name "len" p1) [.Subscript (.Name xd p2) (.Name xk p3) p4] [] p5) scope lpos, kpos⟩] pos) (tSortKW X.prog X.w T i td) := by
  refine ⟨fun pins s σ H Q I h => ?_⟩
  refine wpAny_Call_Name_kw (ld_blt I hg hm boot_sorted ?_ (by decide) (by decide))
  refine PyProof.Rows.callWith_kw (e := e) (rest := []) ?_ (by rw [hs]; rfl) (by rw [hs]; rfl) rfl rfl
  rw [hs]
  show wpAny _ _ (spliced ((false, eval e X.env) :: backTo pos (starEach [] X.env))) _ _ s
  refine Calls.spliced_cons (thn (ha.run pins s σ H _ I h) fun u s1 ⟨x, H1, I1, r1, hT, q1⟩ => Calls.spliced_nil ?_)
  obtain ⟨d, L, ex, hσ, hd, en, hv, q⟩ := q1
  subst ex
  obtain rfl : u = Value.ref d := r1
  obtain ⟨c, P, TB, hcode, hmT, hu⟩ := LA.tb
  generalize hbody : Expr.Call (.Name "len" p1) [.Subscript (.Name xd p2) (.Name xk p3) p4] [] p5 = body
  show wpAny _ _ (evalAll ((do let v ← eval (.Lambda params body scope lpos) X.env; standAt pos; pure v) :: [])) _ _ s1
  refine wpAny_evalAll_cons (wpAny_bind (lam_make2 I1 TB hcode hmT hu hT hdef (fun y hy e => (hfr y hy e).elim (fun k => I1.ok.has _ (.inl k)) fun k => I1.ok.has _ (.inr k)) fun f c' pm' ctv H2 s2 I2 eN T2 hf hfn hfr' hco' => wpAny_bind (wpAny_standAt (wpAny_pure (wpAny_evalAll_nil ?_)))))
  show wpAny _ _ (call (.builtin "sorted") [.ref d] [(Str.ofString "key", .ref f)]) _ _ s2
  have n1 : ∀ {b : Addr} {o : HO}, H1 b = some o → (∀ ps, o ≠ .tbl ps) → H2 b = some o := fun {b o} e n => eN b o e n
  have hd2 : H2 d = some (WD X.prog X.w d L) := n1 hd (fun ps z => by unfold WD at z; cases z)
  have en2 : EnAt H2 L := en.keeps fun b xs e => n1 e (fun ps z => by cases z)
  have hv2 : ∀ e ∈ L, ∃ xs, H2 e.2.2 = some (.lst xs) := fun e he => let ⟨xs, hx⟩ := hv e he; ⟨xs, n1 hx (fun ps z => by cases z)⟩
  have q2 := q H2 eN T2
  clear q hT hd en hv eN n1
  obtain ⟨hsm, es, ep, hraw, hz, hzl, hkeys⟩ := rawW I2 (.inl hd2)
  -- the cell
  obtain ⟨cd, hcl, hcel⟩ : ∃ cd, (cloFrom X.env.cells scope.names []).lookup xd = some cd ∧ s2.heap.IsCell cd (some (.ref d)) := by
    obtain ⟨m, hn, hl⟩ := I2.loc
    obtain ⟨w', r, z⟩ := hl i xd _ hN hσ (.inr (.inl hcell))
    have r' : w' = Value.ref d := r
    rcases z with ⟨k', _⟩ | ⟨_, c3, e', z⟩
    · rw [show X.env.scope.names.lookup xd = some .local from k'] at hcell
      cases hcell
    · obtain ⟨c2, h2⟩ := mem_lookup (cloFrom_has (cells := X.env.cells) (acc := []) (PySem.mem_of_lookup hxd))
      rcases cloFrom_mem (PySem.mem_of_lookup h2) with hm | ⟨_, h3⟩
      · cases hm
      · rw [e'] at h3
        have h4 : c2 = c3 := h3
        rw [h4] at h2
        rw [r'] at z
        exact ⟨c3, h2, z⟩
  have lim : s2.heap.NoLimit := I2.nolimit
  have turn : ∀ (v : Value) (e : EnW), v = .ref e.2.1 → e ∈ L → ∀ (h : Heap) (tk : Nat), Old s2.heap h → wpAny (model X.prog X.w) X.A.in1.in1 (call (.ref f) [v]) (PySem.W.KeyPure (.int (lenV H2 e.2.2)) { s2 with heap := h, toks := tk }) (fun _ _ => False) { s2 with heap := h, toks := tk } := by
    intro v e ev he h tk ko
    subst ev
    obtain ⟨xs, hx⟩ := hv2 e he
    have hgW : getW L e.1 = some (e.2.1, e.2.2) := getW_of (let ⟨_, _, _, _, _, _, _, hn, _⟩ := WD.get I2.hok (.inl hd2); hn) he
    refine lam1_pure (s := { s2 with heap := h, toks := tk }) (a := xk) hr.depth (lim.keeps ko) (ko _ _ hf) (codeO_rec I2.hok hco' ko) hco hgen hk hnc hxk (hbind _ _ _ _ _ _ _) fun Lf h₁ tk₁ hns k1 => ?_
    have k2 : Old s2.heap h₁ := fun b o e => k1 b o (ko b o e)
    obtain ⟨its, rv, hil, hz2⟩ := I2.list (xs := xs) (.inl (.inl hx))
    have hsz : its.toArray.size = lenV H2 e.2.2 := by
      unfold lenV
      rw [hx]
      simp [rv.length]
    subst hbody
    rw [← hsz]
    have hdd : h₁.DictOfH (nestedKind X.prog X.w) d (L.map entW) := by
      obtain ⟨o, es, ep, ho, hx, hdt, he, hi, hn⟩ := wd_of I2 (.inl hd2) en2
      refine ⟨o, es, ep, k2 _ _ ho, hx, hdt, he, fun y hy => ?_, hn⟩
      obtain ⟨e', he', rfl⟩ := List.mem_map.mp hy
      exact (en2 e' he').isOld I2.hok k2
    refine body_len (s := { s2 with heap := h, toks := tk }) I2.ok.mod (fun b o e => k2 b o (I2.bk b o e)) hk hgl hml hxd hxk hdb hdk hcdd hcl (let ⟨o, ho, hd⟩ := hcel; ⟨o, k2 _ _ ho, hd⟩) hns hdd ((en2 e he).isOld I2.hok k2) hgW (let ⟨o, ho, r⟩ := hil.isList; ⟨o, k2 _ _ ho, r⟩) (by rw [List.size_toArray, ← rv.length]; exact hz2) ?_
    have := hr.un
    show X.A.units + 1 + 1 + 3 + 16 < cLine
    omega
  refine sorted_cols (PyProof.Rows.ksk_s1 _ _) (fun _ => PyProof.Rows.ksk_l1 _ _) (cols_dict (I2.ok.hd hc) hsm hraw (by rw [hz]; exact hzl)) (fun vs e => by rw [e, hkeys, List.length_map]; exact hzl) fun h' tk vs ko e E' => ?_
  rw [hkeys] at e
  subst e
  rw [PyProof.Rows.ksk_t1]
  have hgl' : (h'.push (seqObj "list" (L.map fun e => Value.ref e.2.1).toArray 0)).get? h'.objs.size = some (seqObj "list" (L.map fun e => Value.ref e.2.1).toArray 0) := Heap.get?_push_size _ rfl
  have up : ∀ {g : Heap}, PySem.W.KeepsBut h'.objs.size (h'.push (seqObj "list" (L.map fun e => Value.ref e.2.1).toArray 0)) g → Old h' g := fun {g} kp b o e => kp b o (Nat.ne_of_lt (Heap.lt_size e)) (Heap.get?_push_of_some _ e)
  refine PySem.W.keyH_tree (b := false) (kz := L.map fun e => PyData.int (lenV H2 e.2.2)) (s := { s2 with heap := h'.push (seqObj "list" (L.map fun e => Value.ref e.2.1).toArray 0), toks := tk }) hgl' (by rw [List.length_map, List.length_map]) (by rw [List.length_map]; exact hzl) (PySem.W.AllAlike.of fun _ _ => by simp [PySem.W.alike]) (PySem.W.Sortable.others fun _ => ⟨by simp, by simp⟩) (fun y hy => ?_)
    (PySem.W.keyH_turns (s := { s2 with heap := h'.push (seqObj "list" (L.map fun e => Value.ref e.2.1).toArray 0), toks := tk }) (each_keys L) fun v e ev he h tk' kp => turn v e ev he h tk' fun b o z => up kp b o (ko b o z)) fun g tk' out cc kp hD kout => ⟨rfl, ?_⟩
  · obtain ⟨e, _, rfl⟩ := List.mem_map.mp hy
    have := hr.un
    show X.A.units + 1 + 1 + 0 < cLine
    omega
  have eo := each_keys_eq (PySem.W.keyedOut_each (fun e : EnW => PyData.int (lenV H2 e.2.2)) kout (each_keys L))
  generalize hL' : L.mergeSort (PySem.W.dataLe false fun e : EnW => PyData.int (lenV H2 e.2.2)) = L' at eo
  have hp : L'.Perm L := by rw [← hL']; exact List.mergeSort_perm _ _
  have I' := I2.kept (t' := tk') ko
  refine ⟨.ref _, upd H2 h'.objs.size (.lst (L'.map fun e => V.ref e.2.1)), I'.laid (t' := tk') (up kp) (Nat.le_refl _) ⟨by rw [List.length_map, hp.length_eq]; exact hzl, out, cc, ?_, hD⟩, rfl, q2 L' _ hp (I'.hok.fresh (Nat.le_refl _))⟩
  rw [eo]
  exact vals_keys L'
/-- max(l, key=lambda p: p[0]) of tuples that begin with ints -/
def tMaxK (T : List (Addr × Str)) (td : TE) : TE := fun σ H Q => td σ H fun x H1 => Tabs T H1 ∧ ∃ (a : Addr) (cs : List (Addr × Int)), x = .ref a ∧ H1 a = some (.lst (cs.map fun c => V.ref c.1)) ∧ cs ≠ [] ∧ (∀ c ∈ cs, ∃ rest, H1 c.1 = some (.tup (V.int c.2 :: rest))) ∧
  ∀ H2, ExtN H1 H2 → Tabs T H2 → ∀ c ∈ cs, (∀ c' ∈ cs, c'.2 ≤ c.2) → Q (.ref c.1) H2
theorem pe_maxK {T : List (Addr × Str)} {e : Expr} {td : TE} {xk : Str} {params : Arguments} {scope : Scope} {j : Nat} {p p1 p2 p3 lpos kpos pos : Pos} (hc : X.calm = true) (hr : Room 1 X.A) (LA : LamAt X T) (hg : Gl X "max") (hm : X.mg "max" = none) (ha : PE X e td)
    (hdef : defaultsOf params X.env = ([], []))
    (hfr : ∀ y ∈ scope.names, y.2 = .free → ∃ c, X.env.cells.lookup y.1 = some c)
    (hk : scope.kind = .function) (hco : scope.isCoroutine = false) (hgen : scope.isGenerator = false) (hnc : ∀ x ∈ scope.names, x.2 ≠ .cell) (hxk : scope.names.lookup xk = some .local) (hdk : (xk == ("__debug__" : Str)) = false)
    (hbind : ∀ (q : Str) (body : Expr) (cl : List (Str × Addr)) (pm cv ctv v : Value), bindArgs (PySem.W.kla_fn "<lambda>" q params body scope cl pm cv ctv) ⟨[v], []⟩ = pure [(xk, v)])
    (hs : starEach [e] X.env = (false, eval e X.env) :: starEach [] X.env := by rfl) :
    PE X (.Call (.Name "max" p) [e] [⟨some "key", .Lambda params (.Subscript (.Name xk p1) (.Constant (.int 0) j p2) p3) scope lpos, kpos⟩] pos) (tMaxK T td) := by
  refine ⟨fun pins s σ H Q I h => ?_⟩
  refine wpAny_Call_Name_kw (ld_blt I hg hm PyProof.Rows.boot_max ?_ (by decide) (by decide))
  refine PyProof.Rows.callWith_kw (e := e) (rest := []) ?_ (by rw [hs]; rfl) (by rw [hs]; rfl) rfl rfl
  rw [hs]
  show wpAny _ _ (spliced ((false, eval e X.env) :: backTo pos (starEach [] X.env))) _ _ s
  refine Calls.spliced_cons (thn (ha.run pins s σ H _ I h) fun u s1 ⟨x, H1, I1, r1, hT, q1⟩ => Calls.spliced_nil ?_)
  obtain ⟨a, cs, ex, hl, hne, hv, q⟩ := q1
  subst ex
  obtain rfl : u = Value.ref a := r1
  obtain ⟨c, P, TB, hcode, hmT, hu⟩ := LA.tb
  generalize hbody : Expr.Subscript (.Name xk p1) (.Constant (.int 0) j p2) p3 = body
  show wpAny _ _ (evalAll ((do let v ← eval (.Lambda params body scope lpos) X.env; standAt pos; pure v) :: [])) _ _ s1
  refine wpAny_evalAll_cons (wpAny_bind (lam_make2 I1 TB hcode hmT hu hT hdef hfr fun f c' pm' ctv H2 s2 I2 eN T2 hf hfn hfr' hco' => wpAny_bind (wpAny_standAt (wpAny_pure (wpAny_evalAll_nil ?_)))))
  show wpAny _ _ (call (.builtin "max") [.ref a] [(Str.ofString "key", .ref f)]) _ _ s2
  have n1 : ∀ {b : Addr} {o : HO}, H1 b = some o → (∀ ps, o ≠ .tbl ps) → H2 b = some o := fun {b o} e n => eN b o e n
  have hl2 : H2 a = some (.lst (cs.map fun c => V.ref c.1)) := n1 hl (fun ps z => by cases z)
  have hv2 : ∀ c ∈ cs, ∃ rest, H2 c.1 = some (.tup (V.int c.2 :: rest)) := fun c hc => let ⟨r, hx⟩ := hv c hc; ⟨r, n1 hx (fun ps z => by cases z)⟩
  have q2 := q H2 eN T2
  obtain ⟨its, rv, hil, hz⟩ := I2.list (xs := cs.map fun c => V.ref c.1) (.inl (.inl hl2))
  have eits : its = cs.map fun c => Value.ref c.1 := by
    clear hl hne hv q hl2 hv2 q2 hz hil n1
    induction cs generalizing its with
    | nil => cases rv; rfl
    | cons c cs ih =>
      cases rv with
      | cons r t =>
        rw [show _ = Value.ref c.1 from r, ih _ t]
        rfl
  subst eits
  have lim : s2.heap.NoLimit := I2.nolimit
  have hlen : (cs.map fun c => Value.ref c.1).length = cs.length := List.length_map ..
  have kf : ∀ i : Nat, i < cs.length → ∃ c, cs[i]? = some c := fun i hi => ⟨cs[i], List.getElem?_eq_getElem hi⟩
  refine mx_key (fun i => (cs[i]?.map (·.2)).getD 0) (I2.ok.hd hc) hil.isList (by rw [hlen]; exact List.length_pos_iff.mpr hne) (fun i v hv' h tk ko => ?_) fun i v h' tk' hv' hmax ko => ?_
  · rw [List.getElem?_map] at hv'
    cases hci : cs[i]? with
    | none => rw [hci] at hv'; cases hv'
    | some cc =>
      rw [hci] at hv'
      have ev := (Option.some.inj hv').symm
      subst ev
      obtain ⟨rest, hx⟩ := hv2 cc (List.mem_of_getElem? hci)
      obtain ⟨us, o, n, r, g1, g2, g3⟩ := tup_at I2.hok hx
      refine lam1_pure (s := { s2 with heap := h, toks := tk }) (a := xk) hr.depth (lim.keeps ko) (ko _ _ hf) (codeO_rec I2.hok hco' ko) hco hgen hk hnc hxk (hbind _ _ _ _ _ _ _) fun Lf h₁ tk₁ hns k1 => ?_
      subst hbody
      cases r with
      | cons r0 rr =>
        obtain ⟨tki, rfl⟩ := r0
        refine body_first (s := { s2 with heap := h, toks := tk }) hk hxk hdk hns (tki := tki) (items := (Value.int cc.2 tki :: _).toArray) ⟨o, k1 _ _ (ko _ _ g1), g2, n, g3⟩ ?_
        simp
  · rw [List.getElem?_map] at hv'
    cases hci : cs[i]? with
    | none => rw [hci] at hv'; cases hv'
    | some cc =>
      rw [hci] at hv'
      have ev := (Option.some.inj hv').symm
      subst ev
      refine ⟨.ref cc.1, H2, I2.kept (t' := tk') ko, rfl, q2 cc (List.mem_of_getElem? hci) fun c' hc' => ?_⟩
      obtain ⟨jj, hj, ej⟩ := List.mem_iff_getElem.mp hc'
      have := hmax jj (by rw [hlen]; exact hj)
      rw [hci, List.getElem?_eq_getElem hj, ej] at this
      exact this
/-- min(l, key=len, default=None) of lists -/
def tMinL (td : TE) : TE := fun σ H Q => td σ H fun x H1 => ∃ (a : Addr) (ps : List Addr), x = .ref a ∧ H1 a = some (.lst (ps.map V.ref)) ∧ (∀ p ∈ ps, ∃ xs, H1 p = some (.lst xs)) ∧ (ps = [] → Q .non H1) ∧ ∀ p ∈ ps, Q (.ref p) H1
theorem pe_minL {e : Expr} {td : TE} {j : Nat} {p p1 p2 kpos kpos2 pos : Pos} (hc : X.calm = true) (hg : Gl X "min") (hm : X.mg "min" = none) (hgl : Gl X "len") (hml : X.mg "len" = none) (ha : PE X e td) (hs : starEach [e] X.env = (false, eval e X.env) :: starEach [] X.env := by rfl) :
    PE X (.Call (.Name "min" p) [e] [⟨some "key", .Name "len" p1, kpos⟩, ⟨some "default", .Constant .none j p2, kpos2⟩] pos) (tMinL td) := by
  refine ⟨fun pins s σ H Q I h => ?_⟩
  refine wpAny_Call_Name_kw (ld_blt I hg hm PyProof.Rows.boot_min ?_ (by decide) (by decide))
  refine PyProof.Rows.callWith_kw (e := e) (rest := []) ?_ (by rw [hs]; rfl) (by rw [hs]; rfl) rfl rfl
  rw [hs]
  show wpAny _ _ (spliced ((false, eval e X.env) :: backTo pos (starEach [] X.env))) _ _ s
  refine Calls.spliced_cons (thn (ha.run pins s σ H _ I h) fun u s1 ⟨x, H1, I1, r1, q1⟩ => Calls.spliced_nil ?_)
  obtain ⟨a, ps, ex, hl, hv, qn, qs⟩ := q1
  subst ex
  obtain rfl : u = Value.ref a := r1
  show wpAny _ _ (evalAll ((do let v ← eval (.Name "len" p1) X.env; standAt pos; pure v) :: (do let v ← eval (.Constant .none j p2) X.env; standAt pos; pure v) :: [])) _ _ s1
  refine wpAny_evalAll_cons (wpAny_bind (ld_blt I1 hgl hml boot_len (wpAny_bind (wpAny_standAt (wpAny_pure ?_))) (by decide) (by decide)))
  refine wpAny_evalAll_cons (wpAny_bind (wpAny_Constant_none (wpAny_bind (wpAny_standAt (wpAny_pure (wpAny_evalAll_nil ?_))))))
  show wpAny _ _ (call (.builtin "min") [.ref a] [(Str.ofString "key", .builtin "len"), (Str.ofString "default", .none)]) _ _ s1
  obtain ⟨its, rv, hil, hz⟩ := I1.list (xs := ps.map V.ref) (.inl (.inl hl))
  have eits : its = ps.map Value.ref := by
    clear hl hv qn qs hz hil
    induction ps generalizing its with
    | nil => cases rv; rfl
    | cons c cs ih =>
      cases rv with
      | cons r t =>
        rw [show _ = Value.ref c from r, ih _ t]
        rfl
  subst eits
  refine mn_len (I1.ok.hd hc) hil.isList (fun v hv' => ?_) fun v h' tk' hv' ko => ?_
  · obtain ⟨p, hp, rfl⟩ := List.mem_map.mp hv'
    obtain ⟨xs, hx⟩ := hv p hp
    obtain ⟨its', rv', hil', hz'⟩ := I1.list (xs := xs) (.inl (.inl hx))
    exact ⟨p, its'.toArray, rfl, hil'.isList, by rw [List.size_toArray, ← rv'.length]; exact hz'⟩
  · rcases hv' with ⟨e0, rfl⟩ | hv'
    · exact ⟨.non, H1, I1.kept (t' := tk') ko, rfl, qn (List.map_eq_nil_iff.mp e0)⟩
    · obtain ⟨p, hp, rfl⟩ := List.mem_map.mp hv'
      exact ⟨.ref p, H1, I1.kept (t' := tk') ko, rfl, qs p hp⟩
end
end B58
set_option Elab.async false
set_option linter.all false
set_option maxRecDepth 100000
set_option maxHeartbeats 4000000
/-! The walks: rounds. -/
namespace B58
open PySem PySem.Spec PyProof.Rows PySem.Calls L2 C8 LamX
/-- a def that makes a lambda -/
structure Dl (K : PySem.W.Frag) (base : Heap) (mg : Str → Option Value) (x : Str) (st : Stmt) (TT : List (Addr × Str)) : Prop where
  ex : ∃ f fd c Pt, FunD K x x (defArgs st) (defBody st) (defScope st) [] [] f fd ∧ mg x = some (.ref f) ∧ fd.code = .ref c ∧ TabB base mg c Pt ∧ (Pt, (x ++ ".<locals>.") ++ "<lambda>") ∈ TT ∧ ∀ p ∈ TT, p.1 = Pt → p.2 = (x ++ ".<locals>.") ++ "<lambda>"
section
variable {P : Program} {w : World} {K : PySem.W.Frag} {mg : Str → Option Value} {base : Heap} {C : Addr} {TT : List (Addr × Str)}
theorem Dl.cal {x : Str} {st : Stmt} {N ps : List Str} {k : Nat} {sp : Sp} (D : Dl K base mg x st TT) (S : FnScope N ps (defScope st)) (len : ∀ vs H Q E, sp vs H Q E → vs.length = ps.length)
    (hb : ∀ (kV doc pm : Value) (an : Option Addr) (cdv ct : Value) (us : List Value), us.length = ps.length → bindArgs (PySem.W.fnOf x x (defArgs st) (defBody st) (defScope st) .none kV doc pm an cdv ct) ⟨us, []⟩ = pure (ps.zip us))
    (hbody : ∀ (f : Addr) (cdv : Value) (A : Around) (outer : List Env) (s : Shared) (H : Hp) (vs : List V) (Q : VK) (E : XK), LamAt (cxOf C8.CX0 P w K mg base N x (defScope st) f cdv A outer s H E).nox TT → Room k (A.deeper (envOfC x (defScope st) s.heap.objs.size f cdv)) → sp vs H Q E →
      ∃ t, PSs (cxOf C8.CX0 P w K mg base N x (defScope st) f cdv A outer s H E).nox (defBody st) t ∧ t { nx := fun _ H' => Q .non H', rt := Q } (start N vs) H) : Cal P w K mg base (k + 1) x sp [] := by
  obtain ⟨f, fd, c, Pt, F, hm, hc, tb, h1, h2⟩ := D.ex
  refine ⟨f, fd, ps, [], funD_ok0 F S len fun A outer s H vs Q E hr h => hbody f fd.code A outer s H vs Q E ⟨c, Pt, tb, hc, h1, h2⟩ hr h, hm, F.kp, F.bindsN hb, .nil⟩
theorem ExtN.seqL {H H' : Hp} {a : Addr} {xs : List V} (s : ExtN H H') (h : H a = some (.lst xs)) : H' a = some (.lst xs) := s _ _ h fun ps z => by cases z
theorem ExtN.tup {H H' : Hp} {a : Addr} {xs : List V} (s : ExtN H H') (h : H a = some (.tup xs)) : H' a = some (.tup xs) := s _ _ h fun ps z => by cases z
theorem TsAt.extN {H H' : Hp} {b : Addr} {ts : List Tr} (h : TsAt H b ts) (s : ExtN H H') : TsAt H' b ts := by
  obtain ⟨ps, h1, h2, h3⟩ := h
  exact ⟨ps, ExtN.seqL s h1, h2, fun i p e a b => ExtN.tup s (h3 i p e a b)⟩
def spRounds (TT : List (Addr × Str)) : Sp := fun vs H Q _ => ∃ (a b c : Addr) (o : List Int) (ts : List Tr) (first : List Int), vs = [.ref a, .ref b, .ref c] ∧ IL H a o ∧ TsAt H b ts ∧ IL H c first ∧ Net o ts first ∧ Tabs TT H ∧
  ∀ (H' : Hp) (p l : Addr) (n : Nat) (es : List Tr), ExtN H H' → Tabs TT H' → H' p = some (.tup [.int n, .ref l]) → IL H' l (nums es) → RndE o ts first n es → Q (.ref p) H'
theorem sc_rounds : FnScope ["order", "transfers", "first", "found", "count", "way", "area"] ["order", "transfers", "first"] (defScope s_rounds) := ⟨rfl, rfl, rfl, by decide +kernel, rfl, by decide +kernel, by decide +kernel⟩
theorem leftN_nil (ts : List Tr) : leftN ts [] = ts.length := by
  unfold leftN
  rw [List.filter_eq_self.mpr fun e _ => decide_eq_true (List.not_mem_nil (a := e.n))]
theorem choose_list {α β : Type} : ∀ (l : List α) {R : Nat → α → β → Prop}, (∀ (i : Nat) (x : α), l[i]? = some x → ∃ y, R i x y) → ∃ m : List β, m.length = l.length ∧ ∀ (i : Nat) (x : α) (y : β), l[i]? = some x → m[i]? = some y → R i x y
  | [], _, _ => ⟨[], rfl, fun i x y e => by simp at e⟩
  | a :: l, R, h => by
    obtain ⟨y, hy⟩ := h 0 a rfl
    obtain ⟨m, hl, hm⟩ := choose_list l (R := fun i x y => R (i + 1) x y) fun i x e => h (i + 1) x (by simpa using e)
    refine ⟨y :: m, by rw [List.length_cons, List.length_cons, hl], fun i x z e1 e2 => ?_⟩
    cases i with
    | zero =>
      have e1' := Option.some.inj e1
      have e2' := Option.some.inj e2
      rw [← e1', ← e2']
      exact hy
    | succ i => exact hm i x z (by simpa using e1) (by simpa using e2)
theorem cal_rounds (D : Dl K base mg "rounds" s_rounds TT) (T : Txt K mg C) (c1 : Cal P w K mg base 8 "need_net" spNeedN []) (c2 : Cal P w K mg base 10 "best_way" (spBest 6) []) : Cal P w K mg base 12 "rounds" (spRounds TT) [] := by
  refine D.cal (k := 11) sc_rounds (fun vs H Q E h => ?_) (fun _ _ _ _ _ _ us hl => match us, hl with | [_, _, _], _ => rfl) (fun f cdv A outer s H vs Q E LA hr h => ?_)
  · obtain ⟨a, b, c, o, ts, first, rfl, _⟩ := h
    rfl
  · obtain ⟨a, b, c, o, ts, first, rfl, ha, hb, hc, N, hT, q⟩ := h
    have nd := sc_rounds.nd
    refine ⟨_, pss_cons (ps_expr (pe_c c1 hr (by decide) rfl (pa_cons (pv 0) (pa_cons (pv 1) (pa_cons (pv 2) pa_nil)))))
      (pss_cons (ps_if (pt_cmp (pc_eqI (pe_callB call_len_seq rfl T.f_len bo_len (pa_cons (pv 2) pa_nil)) pe_int)) (pss_one (ps_ret (pe_tup (pa_cons pe_int (pa_cons (pe_lst pa_nil) pa_nil))))) pss_nil)
      (pss_cons (ps_setLc (i := 3) (own := [("area", 6)]) rfl nd rfl rfl (sw_true rfl rfl rfl (by decide +kernel)) (pi_list (pv 2)) (blkOk_by (by kernel_rfl)) (fun _ _ _ _ _ => pg_name (i := 6) nd rfl (Or.inl rfl)) (fun _ _ _ _ _ => pts_nil)
          (fun _ _ _ _ _ => pe_c c2 hr (by decide) rfl (pa_cons (pv 0) (pa_cons (pv 1) (pa_cons (pv 6) (pa_cons (pe_tup pa_nil) pa_nil))))))
      (pss_cons (ps_asg (pe_maxK (T := TT) (xk := "pair") rfl (hr.mono (by decide)) LA rfl T.f_max (pv 3) rfl (fun y hy e => by
            have hy' : y ∈ [((Str.ofString "pair"), NameKind.local)] := hy
            rw [List.mem_singleton.mp hy'] at e
            cases e) rfl rfl rfl (fun y hy => by
            have hy' : y ∈ [((Str.ofString "pair"), NameKind.local)] := hy
            rw [List.mem_singleton.mp hy']
            intro z
            cases z) rfl (by decide +kernel) (fun _ _ _ _ _ _ _ => rfl)) (pg_tup rfl (pgs_cons (pg_name (i := 4) nd rfl (Or.inl rfl)) (pgs_cons (pg_name (i := 5) nd rfl (Or.inl rfl)) pgs_nil))))
      (pss_one (ps_ret (pe_tup (pa_cons (pe_op op_add (pv 4) pe_int) (pa_cons (pv 5) pa_nil)))))))), ?_⟩
    refine ⟨_, rfl, _, rfl, _, rfl, a, b, c, o, ts, first, rfl, ha, hb, hc, N, fun H1 s1 => ?_⟩
    have hc1 := hc.same s1
    refine ⟨_, rfl, c, _, rfl, .inl (SqL.of hc1), _, _, rfl, rfl, _, rfl, ?_⟩
    refine ite2 (fun hz => ?_) (fun hz => ?_)
    · have hz : ((first.map V.int).length : Int) = 0 := of_decide_eq_true hz
      have e0 : first = [] := by
        rw [List.length_map] at hz
        exact List.eq_nil_of_length_eq_zero (by omega)
      refine ⟨Nat.zero_le _, fun l hl => ⟨(by show 2 ≤ sizeLine; decide), fun p hp => ?_⟩⟩
      have s2 : Same H1 (upd H1 l (.lst [])) := same_new hl
      have s3 := s2.trans (same_new (o := .tup [.int 0, .ref l]) hp)
      have nlp : l ≠ p := fun z => by
        rw [← z, upd_same] at hp
        cases hp
      refine q _ p l 0 [] (ExtN.of (s1.trans s3)) (hT.ext (s1.trans s3)) upd_same ?_ (.inl ⟨e0, rfl, rfl⟩)
      show upd _ p _ l = _
      rw [upd_ne nlp, upd_same]
      rfl
    · have hb1 := hb.same s1
      have ha1 := ha.same s1
      refine ⟨_, rfl, c, rfl, ⟨_, SqL.of hc1⟩, fun B hB => lc_sameD (walk_list (xs := first.map V.int)) (fun i y H' => ∃ (p l : Addr) (cc : Nat) (wl : List Int) (x : Int), y = some (.ref p) ∧ first[i]? = some x ∧ H' p = some (.tup [.int cc, .ref l]) ∧ IL H' l wl ∧ l ≠ B ∧ Best ts o [] x cc wl) ?_ hB ?_ (fun H' s => SqL.of (s _ _ hc1)) ?_ ?_⟩
      · rintro i y H2 H3 acc hD k ⟨p, l, cc, wl, x, rfl, hx, hp, hl, nl, Bt⟩
        exact ⟨p, l, cc, wl, x, rfl, hx, k _ _ hp (ne_of hp hD (by intro z; cases z)), k _ _ hl nl, nl, Bt⟩
      · rw [List.length_map]
        exact Nat.le_trans N.f_len (by decide)
      · intro i x H2 H3 R hi sm ⟨acc, hD⟩ y hR
        obtain ⟨rfl, hx⟩ := y
        obtain ⟨n, hn, rfl⟩ := get_int hx
        refine ⟨rfl, tyes ⟨_, rfl, _, rfl, _, rfl, Nat.zero_le _, fun u hu => ?_⟩⟩
        have s3 : Same H3 (upd H3 u (.tup [])) := same_new hu
        refine ⟨a, b, u, o, ts, first, n, [], rfl, ha1.same (sm.trans s3), hb1.same (sm.trans s3), upd_same, N, ?_, ?_, fun H4 p l cc wl s4 hln hp hl Bt => hR _ _ ⟨p, l, cc, wl, n, rfl, hn, hp, hl, ?_, Bt⟩ (s3.trans s4)⟩
        · rw [leftN_nil]
          have := N.t_len
          omega
        · rw [leftN_nil]
          show 0 + ts.length ≤ ts.length
          omega
        · intro z
          rw [z, s3 _ _ hD] at hln
          cases hln
      · intro ys H2 s2 hD hl hr'
        -- the pairs, as addresses and counts
        obtain ⟨cs, hcsl, hcs0⟩ := choose_list (β := Addr × Int) ys (R := fun i y c => y = some (.ref c.1) ∧ ∃ (l : Addr) (cc : Nat) (wl : List Int) (x : Int), c.2 = (cc : Int) ∧ first[i]? = some x ∧ H2 c.1 = some (.tup [.int cc, .ref l]) ∧ IL H2 l wl ∧ Best ts o [] x cc wl) fun i y e => by
          obtain ⟨p, l, cc, wl, x, e1, e2, e3, e4, _, e5⟩ := hr' i y e
          exact ⟨(p, cc), e1, l, cc, wl, x, rfl, e2, e3, e4, e5⟩
        have hcs : ys = cs.map fun c => some (V.ref c.1) := by
          apply List.ext_getElem
          · rw [List.length_map, hcsl]
          · intro i h1 h2
            rw [List.length_map] at h2
            rw [List.getElem_map]
            exact (hcs0 i _ _ (List.getElem?_eq_getElem h1) (List.getElem?_eq_getElem h2)).1
        have hcl : ∀ (i : Nat) (c : Addr × Int), cs[i]? = some c → ∃ (l : Addr) (cc : Nat) (wl : List Int) (x : Int), c.2 = (cc : Int) ∧ first[i]? = some x ∧ H2 c.1 = some (.tup [.int cc, .ref l]) ∧ IL H2 l wl ∧ Best ts o [] x cc wl := fun i c e => by
          obtain ⟨y, hy⟩ := get_same_len hcsl e
          exact (hcs0 i y c hy e).2
        have hlen : cs.length = first.length := by
          rw [hcs, List.length_map, List.length_map] at hl
          exact hl
        have hD' : H2 B = some (.lst (cs.map fun c => V.ref c.1)) := by
          rw [hD, hcs]
          congr 2
          clear hcs hcl hl hr' hD hlen hcs0 hcsl
          induction cs with
          | nil => rfl
          | cons c cs ih => rw [List.map_cons, List.map_cons, List.filterMap_cons, ih]; rfl
        have hT2 : Tabs TT H2 := hT.ext (s1.trans s2)
        have hne : cs ≠ [] := fun z => hz (by
          rw [z] at hlen
          have : (first.map V.int).length = 0 := by rw [List.length_map, ← hlen]; rfl
          rw [this]
          rfl)
        refine ⟨_, rfl, hT2, B, cs, rfl, hD', hne, fun c hc => ?_, fun H3 e3 T3 c hc hmax => ?_⟩
        · obtain ⟨i, hi, e⟩ := mem_iff_get.mp hc
          obtain ⟨l, cc, wl, x, e2, _, hp, _⟩ := hcl i c e
          exact ⟨_, by rw [hp, e2]⟩
        · obtain ⟨i, hi, e⟩ := mem_iff_get.mp hc
          obtain ⟨l, cc, wl, x, e2, hx, hp, hwl, Bt⟩ := hcl i c e
          refine ⟨c.1, _, rfl, SqT.of (ExtN.tup e3 hp), rfl, _, _, rfl, _, _, rfl, rfl, ?_⟩
          refine ⟨_, rfl, _, _, rfl, rfl, _, rfl, (by show 2 ≤ sizeLine; decide), fun p hp' => ?_⟩
          obtain ⟨es, bb, g1, g2, _, g4, g5⟩ := Bt.wit
          have s4 : Same H3 (upd H3 p (.tup [.int ((cc : Int) + 1), .ref l])) := same_new hp'
          refine q _ p l (cc + 1) es (((ExtN.of (s1.trans s2)).trans e3).trans (ExtN.of s4)) (T3.ext s4) upd_same ?_ (.inr ⟨x, bb, List.mem_of_getElem? hx, g1, g2, by rw [g5], fun g hg fs b' h1 h2 => ?_⟩)
          · have : IL H3 l wl := ExtN.seqL e3 hwl
            rw [g4] at this
            exact this.same s4
          · obtain ⟨j, hj, ej⟩ := mem_iff_get.mp hg
            obtain ⟨c', hc'⟩ := get_same_len hlen.symm ej
            obtain ⟨l', cc', wl', x', e2', hx', _, _, Bt'⟩ := hcl j c' hc'
            rw [ej] at hx'
            have ex : g = x' := Option.some.inj hx'
            have h3 := Bt'.max fs b' (by rw [← ex]; exact h1) h2 fun e _ z => nomatch z
            have h4 := hmax c' (List.mem_of_getElem? hc')
            rw [e2, e2'] at h4
            omega
end
end B58
set_option Elab.async false
set_option linter.all false
set_option maxRecDepth 100000
set_option maxHeartbeats 4000000
/-! The walks: spread_ways. -/
namespace B58
open PySem PySem.Spec PyProof.Rows PySem.Calls L2 C8 LamX
/-! ### a code object is no dict of ours -/
theorem codeO_ne_WD {c : Addr} {q : Str} {P : Program} {w : World} {d : Addr} {L : List EnW} : CodeO c q ≠ WD P w d L := fun z => by
  unfold CodeO WD at z
  injection z with z
  let ob : Obj := { cls := .none, data := .fields #[.none, .str q 0] }
  let hp : Heap := { objs := Array.replicate (c + 1) ob }
  have hg : hp.get? c = some ob := by
    show (match (Array.replicate (c + 1) ob)[c]? with
      | some ⟨_, _, .freed, _⟩ => none
      | o => o) = _
    rw [Array.getElem?_replicate, if_pos (Nat.lt_succ_self c)]
  have h1 : (fun h : Heap => ∃ (oc : Obj) (vs : Array Value) (t : Tok), h.get? c = some oc ∧ oc.data = .fields vs ∧ vs[1]? = some (.str q t)) hp := ⟨ob, _, 0, hg, rfl, rfl⟩
  rw [z] at h1
  obtain ⟨o, es, ep, ho, _, hd, _⟩ := h1
  have hall : ∀ a o, hp.get? a = some o → o = ob := fun a o e => by
    have e' : (match (Array.replicate (c + 1) ob)[a]? with
      | some ⟨_, _, .freed, _⟩ => none
      | o => o) = some o := e
    rw [Array.getElem?_replicate] at e'
    by_cases ha : a < c + 1
    · rw [if_pos ha] at e'
      exact (Option.some.inj e').symm
    · rw [if_neg ha] at e'
      cases e'
  rw [hall d o ho] at hd
  cases hd
/-- tables stay where what changes is none of theirs -/
theorem tabs_keep {TT : List (Addr × Str)} {H H' : Hp} {Sx : Addr → Prop} (t : Tabs TT H) (k : ∀ b o, H b = some o → ¬ Sx b → H' b = some o) (hS : ∀ a o, Sx a → H a = some o → (∀ ps, o ≠ .tbl ps) ∧ ∀ c q, o ≠ CodeO c q) : Tabs TT H' := fun p hp => by
  obtain ⟨ps, h1, h2, h3⟩ := t p hp
  refine ⟨ps, k _ _ h1 fun z => (hS _ _ z h1).1 ps rfl, h2, fun pos cv hc => ?_⟩
  obtain ⟨c, e1, e2⟩ := h3 pos cv hc
  exact ⟨c, e1, k _ _ e2 fun z => (hS _ _ z e2).2 c _ rfl⟩
theorem lst_ne_code {xs : List V} {c : Addr} {q : Str} : HO.lst xs ≠ CodeO c q := fun z => by
  unfold CodeO at z
  cases z
/-! ### the waiting list as data -/
def encS (st : St3) : PyData := .tuple [.int st.a, .tuple (st.u.map .int), .tuple (st.b.map .int)]
theorem canLay_ints : ∀ l : List Int, PyData.canLayAll0 (l.map .int) = true
  | [] => rfl
  | x :: l => by
    show PyData.canLayAll0 (.int x :: l.map .int) = true
    rw [PyData.canLayAll0, canLay_ints l]
    simp [PyData.canLay0]
theorem canLay_encS (st : St3) : PyData.canLay0 (encS st) = true := by
  unfold encS
  simp only [PyData.canLay0, PyData.canLayAll0, canLay_ints, Bool.and_true, Bool.true_and]
theorem canLay_all : ∀ l : List St3, PyData.canLayAll0 (l.map encS) = true
  | [] => rfl
  | x :: l => by
    show PyData.canLayAll0 (encS x :: l.map encS) = true
    rw [PyData.canLayAll0, canLay_all l, canLay_encS]
    rfl
theorem depth_encS (st : St3) : (encS st).depth ≤ 8 := by
  simp [encS, PyData.depth, PyData.depthAll, PySem.W.depth_ints]
theorem depth_all : ∀ l : List St3, PyData.depthAll (l.map encS) ≤ 8
  | [] => by simp [PyData.depthAll]
  | x :: l => by
    show PyData.depthAll (encS x :: l.map encS) ≤ 8
    rw [PyData.depthAll]
    exact Nat.max_le.mpr ⟨depth_encS x, depth_all l⟩
theorem shaped_sts (l : List St3) : SeqAt.shaped (.list (l.map encS)) = true := by
  unfold SeqAt.shaped
  have h1 : PyData.canLay0 (.list (l.map encS)) = true := by
    rw [PyData.canLay0]
    exact canLay_all l
  have h2 : (PyData.list (l.map encS)).depth ≤ 64 := by
    rw [PyData.depth]
    have := depth_all l
    omega
  rw [h1, decide_eq_true h2]
  rfl
theorem dp_st {K : PySem.W.Frag} {H : Hp} {ka : Addr} {st : St3} (s : StAt H ka st) : Dp K H (.ref ka) (encS st) := by
  obtain ⟨pu, pb, h1, h2, h3⟩ := s
  have di : ∀ l : List Int, DpAll K H (l.map V.int) (l.map .int) := fun l => by
    induction l with
    | nil => exact .nil
    | cons x l ih => exact .cons (.int x) ih
  exact .tup (SqT.of h1) (.cons (.int _) (.cons (.tup (SqT.of h2) (di _)) (.cons (.tup (SqT.of h3) (di _)) .nil)))
theorem dp_sts {K : PySem.W.Frag} {H : Hp} : ∀ l : List (Addr × St3), (∀ x ∈ l, StAt H x.1 x.2) → DpAll K H (l.map fun x => V.ref x.1) ((l.map fun x => x.2).map encS)
  | [], _ => .nil
  | x :: l, h => .cons (dp_st (h x List.mem_cons_self)) (dp_sts l fun y hy => h y (List.mem_cons_of_mem _ hy))
/-! ### the ways -/
structure WaysOk (P : Program) (w : World) (H : Hp) (d : Addr) (L : List EnW) (Rp : St3 → Prop) (Vp : Addr → Prop) : Prop where
  dict : H d = some (WD P w d L)
  nd : (L.map fun e => e.1).Nodup
  en : EnAt H L
  ln : ∀ e ∈ L, ∃ ws : List V, H e.2.2 = some (.lst ws) ∧ ws.length = e.1.u.length
  rp : ∀ e ∈ L, Rp e.1
  vp : ∀ e ∈ L, Vp e.2.2
abbrev keysW (L : List EnW) : List St3 := L.map fun e => e.1
/-- kept: all but tables and d -/
def KeptD (d : Addr) (H H' : Hp) : Prop := ∀ b o, H b = some o → (∀ ps, o ≠ .tbl ps) → b ≠ d → H' b = some o
theorem getW_key {L : List EnW} (hn : (keysW L).Nodup) {st : St3} (h : st ∈ keysW L) : ∃ e ∈ L, e.1 = st ∧ getW L st = some e.2 := by
  obtain ⟨e, he, rfl⟩ := List.mem_map.mp h
  exact ⟨e, he, rfl, getW_of hn he⟩
theorem WD_tup {P : Program} {w : World} {d : Addr} {L : List EnW} {xs : List V} : WD P w d L ≠ .tup xs := fun z => by
  unfold WD at z
  cases z
theorem WD_lst {P : Program} {w : World} {d : Addr} {L : List EnW} {xs : List V} : WD P w d L ≠ .lst xs := fun z => by
  unfold WD at z
  cases z
theorem WD_tbl {P : Program} {w : World} {d : Addr} {L : List EnW} {xs : Array Value} : WD P w d L ≠ .tbl xs := fun z => by
  unfold WD at z
  cases z
theorem WD_dK {P : Program} {w : World} {d : Addr} {L : List EnW} {xs : List (Key × V)} : WD P w d L ≠ .dK xs := fun z => by
  unfold WD at z
  cases z
theorem WD_ins {P : Program} {w : World} {d : Addr} {L : List EnW} {c dx : Addr} {xs : List (Str × V)} : WD P w d L ≠ .ins c dx xs := fun z => by
  unfold WD at z
  cases z
section
variable {P : Program} {w : World} {K : PySem.W.Frag} {mg : Str → Option Value} {base : Heap} {C : Addr} {TT : List (Addr × Str)}
def spSpread (P : Program) (w : World) (C : Addr) (TT : List (Addr × Str)) : Sp := fun vs H Q _ => ∃ (d tr : Addr) (m : Nat) (L : List EnW) (ts : List Tr) (ks : List Bool) (Rp : St3 → Prop) (Vp : Addr → Prop), vs = [.ref d, .ref tr, .int m] ∧ WaysOk P w H d L Rp Vp ∧ (∀ a, ¬ (∃ o, H a = some o ∧ ∀ ps, o ≠ .tbl ps) → Vp a) ∧ TrD C H tr ts ks ∧ ks.length = ts.length ∧ (nums ts).Nodup ∧ ts.length ≤ 5 ∧ Tabs TT H ∧
  (∀ l : List St3, l.Nodup → (∀ st ∈ l, Rp st) → l.length ≤ 5120) ∧ (∀ st, Rp st → st.u.length ≤ 50) ∧ (∀ st st', Rp st → Car ts m st st' → Rp st' ∧ st'.u.length = st.u.length + 1) ∧
  ∀ (H' : Hp) (L' : List EnW), KeptD d H H' → Tabs TT H' → WaysOk P w H' d L' Rp Vp → (∀ st ∈ keysW L, st ∈ keysW L') → (∀ st st', st ∈ keysW L' → Car ts m st st' → st' ∈ keysW L') → Q .non H'
theorem sc_spread_ways : FnScope ["ways", "transfers", "many", "waiting", "state", "number", "later", "way"] ["ways", "transfers", "many"] (defScope s_spread_ways) := ⟨rfl, rfl, rfl, by decide +kernel, rfl, by decide +kernel, by decide +kernel⟩
/-- between the turns of the while: wl waits at wa -/
structure SwI (P : Program) (w : World) (C : Addr) (H1 : Hp) (d tr : Addr) (ts : List Tr) (ks : List Bool) (m : Nat) (Rp : St3 → Prop) (Vp : Addr → Prop) (L0 : List EnW) (H : Hp) (wa : Addr) (L : List EnW) (wl : List (Addr × St3)) : Prop where
  kept : ∀ b o, H1 b = some o → b ≠ d → b ≠ wa → H b = some o
  ways : WaysOk P w H d L Rp Vp
  vne : ∀ e ∈ L, e.2.2 ≠ wa
  wait : H wa = some (.lst (wl.map fun x => V.ref x.1))
  wst : ∀ x ∈ wl, StAt H x.1 x.2 ∧ x.2 ∈ keysW L
  more : ∀ st ∈ keysW L0, st ∈ keysW L
  size : 2 * (5120 - L.length) + wl.length ≤ 10240
theorem WaysOk.same {H H' : Hp} {d : Addr} {L : List EnW} {Rp : St3 → Prop} {Vp : Addr → Prop} (h : WaysOk P w H d L Rp Vp) (s : Same H H') : WaysOk P w H' d L Rp Vp :=
  ⟨s _ _ h.dict, h.nd, h.en.keeps fun b xs e => s _ _ e, fun e he => let ⟨ws, h1, h2⟩ := h.ln e he; ⟨ws, s _ _ h1, h2⟩, h.rp, h.vp⟩
section
variable {H1 H H' : Hp} {d tr wa : Addr} {ts : List Tr} {ks : List Bool} {m : Nat} {Rp : St3 → Prop} {Vp : Addr → Prop} {L0 L : List EnW} {wl : List (Addr × St3)}
theorem SwI.same (S : SwI P w C H1 d tr ts ks m Rp Vp L0 H wa L wl) (s : Same H H') : SwI P w C H1 d tr ts ks m Rp Vp L0 H' wa L wl :=
  ⟨fun b o e h1 h2 => s _ _ (S.kept b o e h1 h2), S.ways.same s, S.vne, s _ _ S.wait, fun x hx => ⟨(S.wst x hx).1.same s, (S.wst x hx).2⟩, S.more, S.size⟩
theorem SwI.dne (S : SwI P w C H1 d tr ts ks m Rp Vp L0 H wa L wl) : d ≠ wa := ne_of S.ways.dict S.wait WD_lst
/-- the waiting list written -/
theorem SwI.setW (S : SwI P w C H1 d tr ts ks m Rp Vp L0 H wa L wl) {wl' : List (Addr × St3)} (h : ∀ x ∈ wl', StAt H x.1 x.2 ∧ x.2 ∈ keysW L) (hz : 2 * (5120 - L.length) + wl'.length ≤ 10240) : SwI P w C H1 d tr ts ks m Rp Vp L0 (upd H wa (.lst (wl'.map fun x => V.ref x.1))) wa L wl' := by
  have tk : TupKeep H (upd H wa (.lst (wl'.map fun x => V.ref x.1))) := tupKeep_upd S.wait fun xs z => by cases z
  refine ⟨fun b o e h1 h2 => ?_, ⟨?_, S.ways.nd, S.ways.en.keeps tk, fun e he => ?_, S.ways.rp, S.ways.vp⟩, S.vne, upd_same, fun x hx => ⟨(h x hx).1.keeps tk, (h x hx).2⟩, S.more, hz⟩
  · rw [upd_ne h2]
    exact S.kept b o e h1 h2
  · rw [upd_ne S.dne]
    exact S.ways.dict
  · obtain ⟨ws, h1, h2⟩ := S.ways.ln e he
    exact ⟨ws, by rw [upd_ne (S.vne e he)]; exact h1, h2⟩
/-- a new state's way -/
theorem SwI.put (S : SwI P w C H1 d tr ts ks m Rp Vp L0 H wa L wl) {st : St3} {ka va : Addr} {ws : List V} (hk : StAt H ka st) (hn : st ∉ keysW L) (hv : H va = some (.lst ws)) (hl : ws.length = st.u.length) (hva : va ≠ wa) (hR : Rp st) (hVv : Vp va) (hb : L.length + 1 ≤ 5120) :
    SwI P w C H1 d tr ts ks m Rp Vp L0 (upd (upd H d (WD P w d (L ++ [(st, ka, va)]))) wa (.lst (wl.map (fun x => V.ref x.1) ++ [V.ref ka]))) wa (L ++ [(st, ka, va)]) (wl ++ [(ka, st)]) := by
  have tk1 : TupKeep H (upd H d (WD P w d (L ++ [(st, ka, va)]))) := tupKeep_upd S.ways.dict fun xs => WD_tup
  have hw1 : upd H d (WD P w d (L ++ [(st, ka, va)])) wa = some (.lst (wl.map fun x => V.ref x.1)) := by
    rw [upd_ne (Ne.symm S.dne)]
    exact S.wait
  have tk : TupKeep H (upd (upd H d (WD P w d (L ++ [(st, ka, va)]))) wa (.lst (wl.map (fun x => V.ref x.1) ++ [V.ref ka]))) := fun b xs e => tupKeep_upd hw1 (fun xs z => by cases z) b xs (tk1 b xs e)
  have lk : ∀ {b : Addr} {xs : List V}, H b = some (.lst xs) → b ≠ wa → upd (upd H d (WD P w d (L ++ [(st, ka, va)]))) wa (.lst (wl.map (fun x => V.ref x.1) ++ [V.ref ka])) b = some (.lst xs) := fun {b xs} e h => by
    rw [upd_ne h, upd_ne (ne_of e S.ways.dict (Ne.symm WD_lst))]
    exact e
  refine ⟨fun b o e h1 h2 => ?_, ⟨?_, ?_, (S.ways.en.snoc hk).keeps tk, fun e he => ?_, fun e he => ?_, fun e he => ?_⟩, fun e he => ?_, ?_, fun x hx => ?_, fun s hs => ?_, ?_⟩
  · rw [upd_ne h2, upd_ne h1]
    exact S.kept b o e h1 h2
  · rw [upd_ne S.dne, upd_same]
  · rw [List.map_append, List.nodup_append]
    exact ⟨S.ways.nd, List.nodup_cons.mpr ⟨(fun z => nomatch z), List.nodup_nil⟩, fun a ha b hb e => hn (by rw [e, List.mem_singleton.mp hb] at ha; exact ha)⟩
  · rcases List.mem_append.mp he with he | he
    · obtain ⟨ws', g1, g2⟩ := S.ways.ln e he
      exact ⟨ws', lk g1 (S.vne e he), g2⟩
    · rw [List.mem_singleton.mp he]
      exact ⟨ws, lk hv hva, hl⟩
  · rcases List.mem_append.mp he with he | he
    · exact S.ways.rp e he
    · rw [List.mem_singleton.mp he]
      exact hR
  · rcases List.mem_append.mp he with he | he
    · exact S.ways.vp e he
    · rw [List.mem_singleton.mp he]
      exact hVv
  · rcases List.mem_append.mp he with he | he
    · exact S.vne e he
    · rw [List.mem_singleton.mp he]
      exact hva
  · rw [upd_same, List.map_append]
    rfl
  · rcases List.mem_append.mp hx with hx | hx
    · refine ⟨(S.wst x hx).1.keeps tk, ?_⟩
      show x.2 ∈ (L ++ [(st, ka, va)]).map fun e => e.1
      rw [List.map_append]
      exact List.mem_append_left _ (S.wst x hx).2
    · rw [List.mem_singleton.mp hx]
      refine ⟨hk.keeps tk, ?_⟩
      show st ∈ (L ++ [(st, ka, va)]).map fun e => e.1
      rw [List.map_append]
      exact List.mem_append_right _ (List.mem_singleton.mpr rfl)
  · show s ∈ (L ++ [(st, ka, va)]).map fun e => e.1
    rw [List.map_append]
    exact List.mem_append_left _ (S.more s hs)
  · have := S.size
    rw [List.length_append, List.length_append]
    simp only [List.length_singleton]
    omega
end
theorem cal_spread_ways (D : Dl K base mg "spread_ways" s_spread_ways TT) (T : Txt K mg C) (c1 : Cal P w K mg base 4 "carried" (spCar C) []) : Cal P w K mg base 6 "spread_ways" (spSpread P w C TT) [] := by
  refine D.cal (k := 5) sc_spread_ways (fun vs H Q E h => ?_) (fun _ _ _ _ _ _ us hl => match us, hl with | [_, _, _], _ => rfl) (fun f cdv A outer s H vs Q E LA hr h => ?_)
  · obtain ⟨d, tr, m, L, ts, ks, Rp, Vp, rfl, _⟩ := h
    rfl
  · obtain ⟨d, tr, m, L, ts, ks, Rp, Vp, rfl, hW, hVn, hd, hkl, tnd, tl, hT, hfew, hulen, hcar, q⟩ := h
    have nd := sc_spread_ways.nd
    have hw : (A.deeper (envOfC "spread_ways" (defScope s_spread_ways) s.heap.objs.size f cdv)).units + 16 < cLine := by
      have := hr.un
      omega
    refine ⟨_, pss_cons (ps_set (i := 3) nd rfl (Or.inl rfl) (pe_sortKW (T := TT) (i := 0) (xd := "ways") (xk := "state") rfl (hr.mono (by decide)) LA rfl T.f_sorted T.f_len (pv 0) rfl rfl rfl (fun y hy e => by
            have hy' : y ∈ [((Str.ofString "state"), NameKind.local), ((Str.ofString "ways"), NameKind.free), ((Str.ofString "len"), NameKind.globalImplicit)] := hy
            rcases List.mem_cons.mp hy' with z | hy'
            · rw [z] at e; cases e
            · rcases List.mem_cons.mp hy' with z | hy'
              · rw [z]; exact .inl rfl
              · rw [List.mem_singleton.mp hy'] at e; cases e) rfl rfl rfl (fun y hy => by
            have hy' : y ∈ [((Str.ofString "state"), NameKind.local), ((Str.ofString "ways"), NameKind.free), ((Str.ofString "len"), NameKind.globalImplicit)] := hy
            intro e
            rcases List.mem_cons.mp hy' with z | hy'
            · rw [z] at e; cases e
            · rcases List.mem_cons.mp hy' with z | hy'
              · rw [z] at e; cases e
              · rw [List.mem_singleton.mp hy'] at e; cases e) rfl rfl rfl (by decide +kernel) (by decide +kernel) (by decide +kernel) (fun _ _ _ _ _ _ _ => rfl)))
      (pss_one (ps_while PassesOwn.never (pt_cmpR (op_neD hr.units) (pv 3) (pe_lst pa_nil) (nomark _))
        (pss_cons (ps_set (i := 4) nd rfl (Or.inl rfl) (pe_bm PySem.F.plainAttrs_list PySem.F.slot_list_pop PySem.F.type_list_pop mt_popAt (pv 3) (pa_cons pe_int pa_nil)))
        (pss_one (ps_for PassesOwn.never rfl (pi_list (pe_c c1 hr (by decide) rfl (pa_cons (pv 4) (pa_cons (pv 1) (pa_cons (pv 2) pa_nil))))) (pg_tup rfl (pgs_cons (pg_name (i := 5) nd rfl (Or.inl rfl)) (pgs_cons (pg_name (i := 6) nd rfl (Or.inl rfl)) pgs_nil)))
          (pss_cons (ps_set (i := 7) nd rfl (Or.inl rfl) (pe_op op_cat (pe_dgetW hw (pv 0) (pv 4) (fun _ _ => rfl)) (pe_lst (pa_cons (pe_tup (pa_cons (pv 5) (pa_cons (pv 2) pa_nil))) pa_nil))))
          (pss_one (ps_if (PW.pt (pw_or (pt_cmp (pc_dnotinW hw (pv 6) (pv 0))) (pw_or1 (pt_cmp (pc_lt (pe_callB call_len_seq rfl T.f_len bo_len (pa_cons (pv 7) pa_nil)) (pe_callB call_len_seq rfl T.f_len bo_len (pa_cons (pe_dgetW hw (pv 0) (pv 6) (fun _ _ => rfl)) pa_nil)))))))
            (pss_cons (ps_dputW hw (pv 0) (pv 6) (pv 7) rfl) (pss_one (ps_expr (pe_bm PySem.F.plainAttrs_list PySem.F.slot_list_append PySem.F.type_list_append mt_append (pv 3) (pa_cons (pv 6) pa_nil))))) pss_nil)))))))), ?_⟩
    refine ⟨_, rfl, hT, d, L, rfl, rfl, hW.dict, hW.en, fun e he => let ⟨ws, h1, _⟩ := hW.ln e he; ⟨ws, h1⟩, fun H2 eN T2 L1 wa perm hwa => ?_⟩
    have hL1 : L.length ≤ 5120 := by
      have := hfew (keysW L) hW.nd fun st hs => let ⟨e, he, e2⟩ := List.mem_map.mp hs; e2 ▸ hW.rp e he
      rw [List.length_map] at this
      exact this
    have hW2 : WaysOk P w H2 d L Rp Vp := ⟨eN _ _ hW.dict fun ps => WD_tbl, hW.nd, hW.en.keeps fun b xs e => ExtN.tup eN e, fun e he => let ⟨ws, h1, h2⟩ := hW.ln e he; ⟨ws, ExtN.seqL eN h1, h2⟩, hW.rp, hW.vp⟩
    have hd2 : TrD C H2 tr ts ks := by
      obtain ⟨ps, h1, h2, h3⟩ := hd
      exact ⟨ps, eN _ _ h1 fun ps z => (by cases z), h2, fun i p e mv a b c => let ⟨dx, g⟩ := h3 i p e mv a b c; ⟨dx, eN _ _ g fun ps z => (by cases z)⟩⟩
    have nwn : ∀ {b : Addr} {o : HO}, H2 b = some o → b ≠ wa := fun {b o} e => ne_of_none e hwa
    have sw := same_new (o := .lst (L1.map fun e => V.ref e.2.1)) hwa
    have S0 : SwI P w C (upd H2 wa (.lst (L1.map fun e => V.ref e.2.1))) d tr ts ks m Rp Vp L (upd H2 wa (.lst (L1.map fun e => V.ref e.2.1))) wa L (L1.map fun e => (e.2.1, e.1)) := by
      refine ⟨fun b o e _ _ => e, hW2.same sw, fun e he => let ⟨ws, h1, _⟩ := hW2.ln e he; nwn h1, ?_, fun x hx => ?_, fun st hs => hs, ?_⟩
      · rw [upd_same, List.map_map]
        rfl
      · obtain ⟨e, he, rfl⟩ := List.mem_map.mp hx
        have he' := perm.mem_iff.mp he
        exact ⟨(hW2.en e he').same sw, List.mem_map.mpr ⟨e, he', rfl⟩⟩
      · rw [List.length_map, perm.length_eq]
        omega
    have hd3 := hd2.same sw
    have T3 := T2.ext sw
    have full : ∀ st ∈ keysW L, ∃ x ∈ (L1.map fun e => (e.2.1, e.1)), x.2 = st := fun st hs => by
      obtain ⟨e, he, rfl⟩ := List.mem_map.mp hs
      exact ⟨(e.2.1, e.1), List.mem_map.mpr ⟨e, perm.mem_iff.mpr he, rfl⟩, rfl⟩
    have eN3 : ExtN H (upd H2 wa (.lst (L1.map fun e => V.ref e.2.1))) := eN.trans (ExtN.of sw)
    have hwH : ∀ {b : Addr} {o : HO}, H b = some o → (∀ ps, o ≠ .tbl ps) → b ≠ wa := fun {b o} e h => nwn (eN b o e h)
    have hwt : upd H2 wa (.lst (L1.map fun e => V.ref e.2.1)) wa = some (.lst (L1.map fun e => V.ref e.2.1)) := upd_same
    generalize upd H2 wa (.lst (L1.map fun e => V.ref e.2.1)) = H3 at S0 hd3 T3 eN3 hwt ⊢
    generalize L1.map (fun e => (e.2.1, e.1)) = wl0 at S0 full ⊢
    clear hW2 hd2 nwn sw
    refine ⟨fun μ σ H' => ∃ (L' : List EnW) (wl : List (Addr × St3)) (v4 v5 v6 v7 : Option V), σ = [some (.ref d), some (.ref tr), some (.int m), some (.ref wa), v4, v5, v6, v7] ∧ SwI P w C H3 d tr ts ks m Rp Vp L H' wa L' wl ∧
        (∀ st ∈ keysW L', (∃ x ∈ wl, x.2 = st) ∨ ∀ st', Car ts m st st' → st' ∈ keysW L') ∧ μ = 2 * (5120 - L'.length) + wl.length, ⟨_, L, wl0, none, none, none, none, rfl, S0, fun st hs => .inl (full st hs), rfl⟩, ?_⟩
    rintro μ σ H4 ⟨L', wl, v4, v5, v6, v7, rfl, S, dn, eμ⟩
    refine ⟨_, rfl, Nat.zero_le _, fun b0 hb0 => ?_⟩
    have s4 : Same H4 (upd H4 b0 (.lst [])) := same_new hb0
    have hb0' : upd H4 b0 (.lst []) b0 = some (.lst []) := upd_same
    have S4 := S.same s4
    generalize upd H4 b0 (.lst []) = H5 at s4 hb0' S4 ⊢
    refine ⟨.list ((wl.map fun x => x.2).map encS), .list [], .lst (SqL.of S4.wait) (dp_sts wl fun x hx => (S4.wst x hx).1), .lst (SqL.of hb0') .nil, shaped_sts _, rfl, ?_⟩
    cases wl with
    | nil =>
      refine ⟨false, rfl, iteF ?_⟩
      refine q H5 L' (fun b o e ht hbd => ?_) ?_ S4.ways S4.more fun st st' hs hc => ?_
      · exact S4.kept _ _ (eN3 b o e ht) hbd (hwH e ht)
      · refine tabs_keep (Sx := fun b => b = d ∨ b = wa) T3 (fun b o e hn => S4.kept b o e (fun z => hn (.inl z)) fun z => hn (.inr z)) fun a o hS e => ?_
        rcases hS with z | z
        · rw [z, S0.ways.dict] at e
          rw [← Option.some.inj e]
          exact ⟨fun ps => WD_tbl, fun c qq zz => codeO_ne_WD zz.symm⟩
        · rw [z, hwt] at e
          rw [← Option.some.inj e]
          exact ⟨(fun ps zz => by cases zz), fun c qq => lst_ne_code⟩
      · rcases dn st hs with ⟨x, hx, _⟩ | h
        · cases hx
        · exact h st' hc
    | cons x wl =>
      refine ⟨true, rfl, iteT ⟨fun σ' H' => ∃ m', m' < μ ∧ _, fun σ' H' h => h, ?_⟩⟩
      have hxst := S4.wst x List.mem_cons_self
      have hz5 := S4.size
      rw [List.length_cons] at hz5
      refine ⟨_, rfl, .inl ⟨rfl, _, SqL.of S4.wait⟩, wa, _, 0, 0, .ref x.1, rfl, rfl, S4.wait, by decide, by decide, ?_, rfl, ?_⟩
      · unfold seqIndex?
        have e0 : ∀ n : Int, (if (0 : Int) < 0 then (0 : Int) + n else 0) = 0 := fun n => if_neg (by decide)
        have h1 : (decide ((0 : Int) ≤ 0) && decide ((0 : Int) < ((((x :: wl).map fun x => V.ref x.1).length : Nat) : Int))) = true := by
          rw [decide_eq_true (Int.le_refl 0), List.length_map, List.length_cons, decide_eq_true (by omega : (0 : Int) < ((wl.length + 1 : Nat) : Int))]
          rfl
        simp only [e0]
        rw [if_pos h1]
        rfl
      have S6 : SwI P w C H3 d tr ts ks m Rp Vp L (upd H5 wa (.lst (wl.map fun x => V.ref x.1))) wa L' wl := S4.setW (fun y hy => S4.wst y (List.mem_cons_of_mem _ hy)) (by omega)
      have hkx : StAt (upd H5 wa (.lst (wl.map fun x => V.ref x.1))) x.1 x.2 := hxst.1.keeps (tupKeep_upd S4.wait fun xs z => by cases z)
      have hd6 : TrD C (upd H5 wa (.lst (wl.map fun x => V.ref x.1))) tr ts ks := by
        obtain ⟨ps, h1, h2, h3⟩ := hd3
        refine ⟨ps, S6.kept _ _ h1 (ne_of h1 S0.ways.dict (Ne.symm WD_dK)) (ne_of h1 S0.wait (by intro z; cases z)), h2, fun i p e mv a b c => ?_⟩
        obtain ⟨dx, g⟩ := h3 i p e mv a b c
        exact ⟨dx, S6.kept _ _ g (ne_of g S0.ways.dict (Ne.symm WD_ins)) (ne_of g S0.wait (by intro z; cases z))⟩
      show _
      generalize hH6 : upd H5 wa (.lst (wl.map fun x => V.ref x.1)) = H6 at S6 hkx hd6
      have goal6 : upd H5 wa (.lst (((x :: wl).map fun x => V.ref x.1).eraseIdx 0)) = H6 := hH6
      rw [goal6]
      have hRx : Rp x.2 := by
        obtain ⟨e, he, e2⟩ := List.mem_map.mp hxst.2
        rw [← e2]
        exact S6.ways.rp e he
      refine ⟨_, rfl, _, rfl, _, rfl, x.1, tr, m, x.2, ts, ks, rfl, hkx, hd6, hkl, tnd, tl, Nat.le_trans (hulen _ hRx) (by decide), fun H7 p qs l s7 hp hq7 R7 hcl => ?_⟩
      have S7 := S6.same s7
      have npw : p ≠ wa := fun z => by rw [z, S6.wait] at hp; cases hp
      have npd : p ≠ d := fun z => by rw [z, S6.ways.dict] at hp; cases hp
      refine ⟨p, rfl, ⟨_, SqL.of hq7⟩, for_list (K := K) (a := p) (xs := qs.map V.ref) (fun i σ H' => ∃ (L2 : List EnW) (wl2 : List (Addr × St3)) (v5 v6 v7 : Option V), σ = [some (.ref d), some (.ref tr), some (.int m), some (.ref wa), some (.ref x.1), v5, v6, v7] ∧ SwI P w C H3 d tr ts ks m Rp Vp L H' wa L2 wl2 ∧
          H' p = some (.lst (qs.map V.ref)) ∧ CarR H' qs l ∧ StAt H' x.1 x.2 ∧ x.2 ∈ keysW L2 ∧ (∀ st ∈ keysW L2, st = x.2 ∨ (∃ y ∈ wl2, y.2 = st) ∨ ∀ st', Car ts m st st' → st' ∈ keysW L2) ∧ (∀ (j : Nat) (y : Int × St3), j < i → l[j]? = some y → y.2 ∈ keysW L2) ∧ 2 * (5120 - L2.length) + wl2.length ≤ 2 * (5120 - L'.length) + wl.length)
        ⟨L', wl, v5, v6, v7, rfl, S7, hq7, R7, hkx.same s7, hxst.2, fun st hs => ?_, fun j y hj => absurd hj (Nat.not_lt_zero j), Nat.le_refl _⟩ (fun i σ H' _ ⟨_, _, _, _, _, _, _, h, _⟩ => SqL.of h) ?_ ?_⟩
      · rcases dn st hs with ⟨y, hy, e⟩ | h
        · rcases List.mem_cons.mp hy with hy | hy
          · exact .inl (by rw [← e, hy])
          · exact .inr (.inl ⟨y, hy, e⟩)
        · exact .inr (.inr h)
      · rintro i y σ H8 hi ⟨L2, wl2, v5, v6, v7, rfl, S8, hp8, R8, hk8, hxk, dn8, ad8, sz8⟩
        obtain ⟨q1, hq1, rfl⟩ := get_ref hi
        obtain ⟨y, hy⟩ := get_same_len R8.1 hq1
        obtain ⟨kp, hq8, hst8⟩ := R8.2 i q1 y hq1 hy
        have hcy : Car ts m x.2 y.2 := (hcl y.2).mpr ⟨y.1, List.mem_of_getElem? hy⟩
        obtain ⟨hRy, hly⟩ := hcar _ _ hRx hcy
        obtain ⟨e, he, ee, hgetx⟩ := getW_key S8.ways.nd hxk
        obtain ⟨ws, hws, hwl⟩ := S8.ways.ln e he
        refine ⟨q1, _, rfl, SqT.of hq8, rfl, _, _, rfl, _, _, rfl, rfl, ?_⟩
        refine ⟨_, rfl, _, rfl, d, L2, x.1, x.2, e.2, rfl, rfl, .inl S8.ways.dict, S8.ways.en, hk8, hgetx, ?_⟩
        refine ⟨_, rfl, _, rfl, (by show 2 ≤ sizeLine; decide), fun t1 ht1 => ⟨(by show 1 ≤ sizeLine; decide), fun l1 hl1 => ?_⟩⟩
        have s9 : Same H8 (upd (upd H8 t1 (.tup [.int y.1, .int m])) l1 (.lst [.ref t1])) := (same_new ht1).trans (same_new hl1)
        have hl1' : upd (upd H8 t1 (.tup [.int y.1, .int m])) l1 (.lst [.ref t1]) l1 = some (.lst [.ref t1]) := upd_same
        generalize upd (upd H8 t1 (.tup [.int y.1, .int m])) l1 (.lst [.ref t1]) = H9 at s9 hl1' ⊢
        have big : (20000 : Nat) < sizeLine := by decide
        have hwlen : ws.length ≤ 50 := by
          rw [hwl, ee]
          exact hulen _ hRx
        refine ⟨e.2.2, l1, ws, [.ref t1], rfl, rfl, s9 _ _ hws, hl1', by rw [List.length_singleton]; omega, fun w1 hw1 => ?_⟩
        have s10 : Same H8 (upd H9 w1 (.lst (ws ++ [.ref t1]))) := s9.trans (same_new hw1)
        have hw1' : upd H9 w1 (.lst (ws ++ [.ref t1])) w1 = some (.lst (ws ++ [.ref t1])) := upd_same
        have nw1 : w1 ≠ wa := fun z => by rw [z, s9 _ _ S8.wait] at hw1; cases hw1
        have hVw1 : Vp w1 := hVn w1 fun ⟨o, ho, hno⟩ => by
          have h1 := eN3 w1 o ho hno
          have h2 := S8.kept w1 o h1 (fun z => by rw [z, s9 _ _ S8.ways.dict] at hw1; cases hw1) nw1
          rw [s9 _ _ h2] at hw1
          cases hw1
        generalize upd H9 w1 (.lst (ws ++ [.ref t1])) = H10 at s10 hw1' ⊢
        have S10 := S8.same s10
        have hst10 := hst8.same s10
        have hwlen1 : (ws ++ [V.ref t1]).length = y.2.u.length := by
          rw [List.length_append, List.length_singleton, hwl, ee, hly]
        refine ⟨_, rfl, _, rfl, d, L2, kp, y.2, rfl, rfl, .inl S10.ways.dict, S10.ways.en, hst10, ?_⟩
        cases hgy : getW L2 y.2 with
        | none =>
          refine ⟨true, rfl, iteT ?_⟩
          have hny : y.2 ∉ keysW L2 := getW_none.mp hgy
          have hL2 : L2.length + 1 ≤ 5120 := by
            have := hfew (y.2 :: keysW L2) (List.nodup_cons.mpr ⟨hny, S10.ways.nd⟩) fun st hs => by
              rcases List.mem_cons.mp hs with z | hs
              · rw [z]; exact hRy
              · obtain ⟨e', he', e2⟩ := List.mem_map.mp hs
                rw [← e2]
                exact S10.ways.rp e' he'
            rw [List.length_cons, List.length_map] at this
            exact this
          refine ⟨_, rfl, _, rfl, _, rfl, d, L2, kp, y.2, w1, rfl, rfl, rfl, S10.ways.dict, S10.ways.en, hst10, hny, by omega, ?_⟩
          have hwd : upd H10 d (WD P w d (L2 ++ [(y.2, kp, w1)])) wa = some (.lst (wl2.map fun x => V.ref x.1)) := by
            rw [upd_ne (Ne.symm S10.dne)]
            exact S10.wait
          refine ⟨_, rfl, .inl ⟨rfl, _, SqL.of hwd⟩, _, rfl, wa, _, _, rfl, rfl, hwd, by rw [List.length_map]; have := S10.size; omega, ?_⟩
          have S11 := S10.put hst10 hny hw1' hwlen1 nw1 hRy hVw1 hL2
          have tk1 : TupKeep H10 (upd H10 d (WD P w d (L2 ++ [(y.2, kp, w1)]))) := tupKeep_upd S10.ways.dict fun xs => WD_tup
          have tk : TupKeep H10 (upd (upd H10 d (WD P w d (L2 ++ [(y.2, kp, w1)]))) wa (.lst (wl2.map (fun x => V.ref x.1) ++ [V.ref kp]))) := fun b xs e => tupKeep_upd hwd (fun xs z => by cases z) b xs (tk1 b xs e)
          have kin : ∀ {st : St3}, st ∈ keysW L2 → st ∈ keysW (L2 ++ [(y.2, kp, w1)]) := fun {st} hs => by
            show st ∈ (L2 ++ [(y.2, kp, w1)]).map fun e => e.1
            rw [List.map_append]
            exact List.mem_append_left _ hs
          have yin : y.2 ∈ keysW (L2 ++ [(y.2, kp, w1)]) := by
            show y.2 ∈ (L2 ++ [(y.2, kp, w1)]).map fun e => e.1
            rw [List.map_append]
            exact List.mem_append_right _ (List.mem_singleton.mpr rfl)
          refine ⟨_, _, _, _, _, rfl, S11, ?_, (R8.keep (same_tups s10)).keep tk, (hk8.same s10).keeps tk, kin hxk, fun st hs => ?_, fun j z hj hz => ?_, ?_⟩
          · rw [upd_ne npw, upd_ne npd]
            exact s10 _ _ hp8
          · have hs' : st ∈ (L2 ++ [(y.2, kp, w1)]).map fun e => e.1 := hs
            rw [List.map_append] at hs'
            rcases List.mem_append.mp hs' with hs' | hs'
            · rcases dn8 st hs' with h | ⟨z, hz, ez⟩ | h
              · exact .inl h
              · exact .inr (.inl ⟨z, List.mem_append_left _ hz, ez⟩)
              · exact .inr (.inr fun st' hc => kin (h st' hc))
            · exact .inr (.inl ⟨(kp, y.2), List.mem_append_right _ (List.mem_singleton.mpr rfl), (List.mem_singleton.mp hs').symm⟩)
          · rcases Nat.lt_succ_iff_lt_or_eq.mp hj with hj | hj
            · exact kin (ad8 j z hj hz)
            · rw [hj, hy] at hz
              rw [← Option.some.inj hz]
              exact yin
          · rw [List.length_append, List.length_append]
            simp only [List.length_singleton]
            omega
        | some pr =>
          refine ⟨false, rfl, iteF ?_⟩
          have hey := getW_mem hgy
          obtain ⟨ws2, hws2, hwl2⟩ := S10.ways.ln _ hey
          refine ⟨_, rfl, w1, _, rfl, .inl (SqL.of hw1'), _, rfl, _, rfl, d, L2, kp, y.2, pr, rfl, rfl, .inl S10.ways.dict, S10.ways.en, hst10, hgy, pr.2, _, rfl, .inl (SqL.of hws2), _, _, rfl, rfl, false, ?_, iteF ?_⟩
          · show V.bl (decide (((ws ++ [V.ref t1]).length : Int) < (ws2.length : Int))) = _
            rw [hwlen1, hwl2, decide_eq_false (Int.lt_irrefl _)]
          · refine ⟨L2, wl2, _, _, _, rfl, S10, s10 _ _ hp8, R8.keep (same_tups s10), hk8.same s10, hxk, dn8, fun j z hj hz => ?_, sz8⟩
            rcases Nat.lt_succ_iff_lt_or_eq.mp hj with hj | hj
            · exact ad8 j z hj hz
            · rw [hj, hy] at hz
              rw [← Option.some.inj hz]
              exact List.mem_map.mpr ⟨_, hey, rfl⟩
      · rintro σ H8 ⟨L2, wl2, v5, v6, v7, rfl, S8, hp8, R8, hk8, hxk, dn8, ad8, sz8⟩
        rw [List.length_map, R8.1] at ad8
        refine ⟨_, ?_, L2, wl2, _, _, _, _, rfl, S8, fun st hs => ?_, rfl⟩
        · rw [eμ, List.length_cons]
          omega
        · rcases dn8 st hs with h | h
          · refine .inr fun st' hc => ?_
            rw [h] at hc
            obtain ⟨n, hn⟩ := (hcl st').mp hc
            obtain ⟨j, hj, ej⟩ := mem_iff_get.mp hn
            exact ad8 j _ hj ej
          · exact h
end
end B58
set_option Elab.async false
set_option linter.all false
set_option maxRecDepth 100000
set_option maxHeartbeats 4000000
/-! The walks: ways_behind, all_ways. -/
namespace B58
open PySem PySem.Spec PyProof.Rows PySem.Calls L2 C8 LamX
theorem getW_some {L : List EnW} {st : St3} (h : st ∈ keysW L) : ∃ p, getW L st = some p := by
  cases e : getW L st with
  | some p => exact ⟨p, rfl⟩
  | none => exact absurd h (getW_none.mp e)
section
variable {P : Program} {w : World} {K : PySem.W.Frag} {mg : Str → Option Value} {base : Heap} {C : Addr} {TT : List (Addr × Str)}
/-! ### ways_behind -/
def spBehind (P : Program) (w : World) (C : Addr) : Sp := fun vs H Q _ => ∃ (d p tr : Addr) (L : List EnW) (ev : Ev) (ts : List Tr) (ks : List Bool) (Rp Rp' : St3 → Prop) (Vp : Addr → Prop), vs = [.ref d, .ref p, .ref tr] ∧ WaysOk P w H d L Rp Vp ∧ EvAt H p ev ∧ TrD C H tr ts ks ∧ ks.length = ts.length ∧ (nums ts).Nodup ∧ EvOk ts ks ev ∧
  L.length ≤ 5120 ∧ (∀ st, Rp st → st.b.length ≤ 50 ∧ st.u.length ≤ 50) ∧ (∀ st st', Rp st → sb ev st = some st' → Rp' st') ∧
  ∀ (H' : Hp) (d' : Addr) (L' : List EnW), Same H H' → H d' = none → WaysOk P w H' d' L' Rp' Vp → (∀ st st', st ∈ keysW L → sb ev st = some st' → st' ∈ keysW L') → Q (.ref d') H'
theorem sc_ways_behind : FnScope ["ways", "event", "transfers", "found", "state", "way", "later"] ["ways", "event", "transfers"] (defScope s_ways_behind) := ⟨rfl, rfl, rfl, by decide +kernel, rfl, by decide +kernel, by decide +kernel⟩
theorem cal_ways_behind (D : Dd K mg "ways_behind" s_ways_behind) (T : Txt K mg C) (c1 : Cal P w K mg base 2 "state_behind" (spSB C) []) : Cal P w K mg base 4 "ways_behind" (spBehind P w C) [] := by
  refine D.cal (k := 3) sc_ways_behind (fun vs H Q E h => ?_) (fun _ _ _ _ _ _ us hl => match us, hl with | [_, _, _], _ => rfl) (fun f cdv A outer s H vs Q E hr h => ?_)
  · obtain ⟨d, p, tr, L, ev, ts, ks, Rp, Rp', Vp, rfl, _⟩ := h
    rfl
  · obtain ⟨d, p, tr, L, ev, ts, ks, Rp, Rp', Vp, rfl, hW, hev, hd, hkl, tnd, hok, hL, hsz, hsb, q⟩ := h
    have nd := sc_ways_behind.nd
    have hw : (A.deeper (envOfC "ways_behind" (defScope s_ways_behind) s.heap.objs.size f cdv)).units + 16 < cLine := by
      have := hr.un
      omega
    refine ⟨_, pss_cons (ps_set (i := 3) nd rfl (Or.inl rfl) pe_dnewW)
      (pss_cons (ps_lock (ps_for PassesOwn.never rfl (pi_itemsW (pv 0)) (pg_tup rfl (pgs_cons (pg_name (i := 4) nd rfl (Or.inl rfl)) (pgs_cons (pg_name (i := 5) nd rfl (Or.inl rfl)) pgs_nil)))
        (pss_cons (ps_set (i := 6) nd rfl (Or.inl rfl) (pe_c c1 hr (by decide) rfl (pa_cons (pv 4) (pa_cons (pv 1) (pa_cons (pv 2) pa_nil)))))
        (pss_one (ps_if (PW.pt (pw_and (pt_cmp (pc_notN (pv 6))) (pw_and1 (PW.pt (pw_or (pt_cmp (pc_dnotinW hw (pv 6) (pv 3))) (pw_or1 (pt_cmp (pc_lt (pe_callB call_len_seq rfl T.f_len bo_len (pa_cons (pv 5) pa_nil)) (pe_callB call_len_seq rfl T.f_len bo_len (pa_cons (pe_dgetW hw (pv 3) (pv 6) (fun _ _ => rfl)) pa_nil))))))))))
          (pss_one (ps_dputW hw (pv 3) (pv 6) (pv 5) rfl)) pss_nil)))))
      (pss_one (ps_ret (pv 3)))), ?_⟩
    intro fd hfd
    have nfd : d ≠ fd := ne_of_none hW.dict hfd
    have hWd := hW.dict
    refine ⟨d, WD P w d L, by rw [upd_ne nfd]; exact hWd, True.intro, fun od => ?_⟩
    -- the heap with d locked, without the new dict
    have hb1 : ∀ {b : Addr} {o : HO}, H b = some o → b ≠ d → upd H d (.frz od (WD P w d L)) b = some o := fun {b o} e n => by
      rw [upd_ne n]
      exact e
    have hbd : upd H d (.frz od (WD P w d L)) d = some (.frz od (WD P w d L)) := upd_same
    have hbf : upd H d (.frz od (WD P w d L)) fd = none := by
      rw [upd_ne (Ne.symm nfd)]
      exact hfd
    have sb0 : Same (upd H d (.frz od (WD P w d L))) (upd (upd H fd (WD P w fd [])) d (.frz od (WD P w d L))) := fun b o e => by
      by_cases h1 : b = d
      · rw [h1, upd_same] at e
        rw [h1, upd_same]
        exact e
      · rw [upd_ne h1] at e
        rw [upd_ne h1, upd_ne (ne_of_none e hfd)]
        exact e
    have hfd0 : upd (upd H fd (WD P w fd [])) d (.frz od (WD P w d L)) fd = some (WD P w fd []) := by
      rw [upd_ne (Ne.symm nfd), upd_same]
    have evb : EvAt (upd H d (.frz od (WD P w d L))) p ev := hb1 hev (ne_of hev hWd (Ne.symm WD_tup))
    have enb : EnAt (upd H d (.frz od (WD P w d L))) L := hW.en.keeps fun b xs e => hb1 e (ne_of e hWd (Ne.symm WD_tup))
    have lnb : ∀ e ∈ L, ∃ ws : List V, upd H d (.frz od (WD P w d L)) e.2.2 = some (.lst ws) ∧ ws.length = e.1.u.length := fun e he => by
      obtain ⟨ws, h1, h2⟩ := hW.ln e he
      exact ⟨ws, hb1 h1 (ne_of h1 hWd (Ne.symm WD_lst)), h2⟩
    have trb : TrD C (upd H d (.frz od (WD P w d L))) tr ts ks := by
      obtain ⟨ps, h1, h2, h3⟩ := hd
      refine ⟨ps, hb1 h1 (ne_of h1 hWd (Ne.symm WD_dK)), h2, fun i p e mv a b c => ?_⟩
      obtain ⟨dx, g⟩ := h3 i p e mv a b c
      exact ⟨dx, hb1 g (ne_of g hWd (Ne.symm WD_ins))⟩
    have unl : ∀ {H' : Hp}, Same (upd H d (.frz od (WD P w d L))) H' → Same H (upd H' d (WD P w d L)) := fun {H'} sm b o e => by
      by_cases h1 : b = d
      · rw [h1, hWd] at e
        rw [h1, upd_same, ← e]
      · rw [upd_ne h1]
        exact sm _ _ (hb1 e h1)
    refine ⟨_, rfl, d, L, rfl, .inl ⟨od, upd_same, for_it walk_itemsW (fun i σ H' => Same (upd H d (.frz od (WD P w d L))) H' ∧ ∃ (L' : List EnW) (v4 v5 v6 : Option V), σ = [some (.ref d), some (.ref p), some (.ref tr), some (.ref fd), v4, v5, v6] ∧ WaysOk P w H' fd L' Rp' Vp ∧ L'.length ≤ i ∧
        (∀ (j : Nat) (e : EnW) (st' : St3), j < i → L[j]? = some e → sb ev e.1 = some st' → st' ∈ keysW L'))
      ⟨sb0, [], none, none, none, rfl, ⟨hfd0, List.nodup_nil, EnAt.nil _, (fun e he => nomatch he), (fun e he => nomatch he), (fun e he => nomatch he)⟩, Nat.zero_le _, fun j e st' hj => absurd hj (Nat.not_lt_zero j)⟩ (fun i σ H' _ p => p.1 _ _ hbd) ?_ ?_⟩⟩
    · rintro i x σ H1 H2 hi ⟨s1, L', v4, v5, v6, rfl, W1, hl1, cm1⟩ ⟨T1, e, he, rfl, hT1, rfl⟩
      have s2 : Same H1 (upd H1 T1 (.tup [.ref e.2.1, .ref e.2.2])) := same_new hT1
      have hT2 : upd H1 T1 (.tup [.ref e.2.1, .ref e.2.2]) T1 = some (.tup [.ref e.2.1, .ref e.2.2]) := upd_same
      generalize upd H1 T1 (.tup [.ref e.2.1, .ref e.2.2]) = H2 at s2 hT2 ⊢
      have sb2 := s1.trans s2
      have hem : e ∈ L := List.mem_of_getElem? he
      have hRe := hW.rp e hem
      have W2 := W1.same s2
      refine ⟨T1, _, rfl, SqT.of hT2, rfl, _, _, rfl, _, _, rfl, rfl, ?_⟩
      refine ⟨_, rfl, _, rfl, _, rfl, e.2.1, p, tr, e.1, ev, ts, ks, rfl, (enb e hem).same sb2, sb2 _ _ evb, trb.same sb2, hkl, tnd, hok, Nat.le_trans (hsz _ hRe).1 (by decide), fun hnone => ?_, fun st' H3 ka' hsome s3 hst' => ?_⟩
      · refine ⟨_, rfl, false, rfl, iteF (iteF ?_)⟩
        refine ⟨sb2, L', _, _, _, rfl, W2, Nat.le_succ_of_le hl1, fun j e' st' hj he' hs' => ?_⟩
        rcases Nat.lt_succ_iff_lt_or_eq.mp hj with hj | hj
        · exact cm1 j e' st' hj he' hs'
        · rw [hj, he] at he'
          rw [← Option.some.inj he', hnone] at hs'
          cases hs'
      · have W3 := W2.same s3
        have sb3 := sb2.trans s3
        refine ⟨_, rfl, true, rfl, iteT ?_⟩
        refine ⟨_, rfl, _, rfl, fd, L', ka', st', rfl, rfl, .inl W3.dict, W3.en, hst', ?_⟩
        obtain ⟨ws, hws, hwl⟩ := lnb e hem
        have hws3 := sb3 _ _ hws
        have ulen : ws.length = st'.u.length := by rw [hwl, (sb_au hsome).2]
        cases hg : getW L' st' with
        | none =>
          have hny : st' ∉ keysW L' := getW_none.mp hg
          refine ⟨true, rfl, iteT ?_⟩
          have big : (20000 : Nat) < sizeLine := by decide
          have hiL : i < L.length := hi
          refine iteT ⟨_, rfl, _, rfl, _, rfl, fd, L', ka', st', e.2.2, rfl, rfl, rfl, W3.dict, W3.en, hst', hny, by omega, ?_⟩
          have tk : TupKeep H3 (upd H3 fd (WD P w fd (L' ++ [(st', ka', e.2.2)]))) := tupKeep_upd W3.dict fun xs => WD_tup
          have lk : ∀ {b : Addr} {xs : List V}, H3 b = some (.lst xs) → upd H3 fd (WD P w fd (L' ++ [(st', ka', e.2.2)])) b = some (.lst xs) := fun {b xs} eb => by
            rw [upd_ne (ne_of eb W3.dict (Ne.symm WD_lst))]
            exact eb
          refine ⟨same_upd sb3 hbf, L' ++ [(st', ka', e.2.2)], _, _, _, rfl, ⟨upd_same, ?_, (W3.en.snoc hst').keeps tk, fun z hz => ?_, fun z hz => ?_, fun z hz => ?_⟩, ?_, fun j e' s' hj he' hs' => ?_⟩
          · rw [List.map_append, List.nodup_append]
            exact ⟨W3.nd, List.nodup_cons.mpr ⟨(fun z => nomatch z), List.nodup_nil⟩, fun a ha b hb e => hny (by rw [e, List.mem_singleton.mp hb] at ha; exact ha)⟩
          · rcases List.mem_append.mp hz with hz | hz
            · obtain ⟨ws', g1, g2⟩ := W3.ln z hz
              exact ⟨ws', lk g1, g2⟩
            · rw [List.mem_singleton.mp hz]
              exact ⟨ws, lk hws3, ulen⟩
          · rcases List.mem_append.mp hz with hz | hz
            · exact W3.rp z hz
            · rw [List.mem_singleton.mp hz]
              exact hsb _ _ hRe hsome
          · rcases List.mem_append.mp hz with hz | hz
            · exact W3.vp z hz
            · rw [List.mem_singleton.mp hz]
              exact hW.vp e hem
          · rw [List.length_append, List.length_singleton]
            omega
          · show s' ∈ (L' ++ [(st', ka', e.2.2)]).map fun e => e.1
            rw [List.map_append]
            rcases Nat.lt_succ_iff_lt_or_eq.mp hj with hj | hj
            · exact List.mem_append_left _ (cm1 j e' s' hj he' hs')
            · rw [hj, he] at he'
              rw [← Option.some.inj he', hsome] at hs'
              exact List.mem_append_right _ (List.mem_singleton.mpr (Option.some.inj hs').symm)
        | some pr =>
          have hey := getW_mem hg
          obtain ⟨ws2, hws2, hwl2⟩ := W3.ln _ hey
          refine ⟨false, rfl, iteF ?_⟩
          refine ⟨_, rfl, e.2.2, _, rfl, .inl (SqL.of hws3), _, rfl, _, rfl, fd, L', ka', st', pr, rfl, rfl, .inl W3.dict, W3.en, hst', hg, pr.2, _, rfl, .inl (SqL.of hws2), _, _, rfl, rfl, false, ?_, iteF ?_⟩
          · show V.bl (decide ((ws.length : Int) < (ws2.length : Int))) = _
            rw [ulen, hwl2, decide_eq_false (Int.lt_irrefl _)]
          · refine ⟨sb3, L', _, _, _, rfl, W3, Nat.le_succ_of_le hl1, fun j e' s' hj he' hs' => ?_⟩
            rcases Nat.lt_succ_iff_lt_or_eq.mp hj with hj | hj
            · exact cm1 j e' s' hj he' hs'
            · rw [hj, he] at he'
              rw [← Option.some.inj he', hsome] at hs'
              rw [← Option.some.inj hs']
              exact List.mem_map.mpr ⟨_, hey, rfl⟩
    · rintro σ H1 ⟨s1, L', v4, v5, v6, rfl, W1, hl1, cm1⟩
      have hfz := s1 _ _ hbd
      refine ⟨hfz, _, rfl, q _ fd L' (unl s1) hfd ?_ fun st st' hs hs' => ?_⟩
      · have ot : ∀ {b : Addr} {o : HO}, H1 b = some o → (∀ o' u', o ≠ .frz o' u') → upd H1 d (WD P w d L) b = some o := fun {b o} e n => by
          rw [upd_ne fun z => by rw [z, hfz] at e; exact n _ _ (Option.some.inj e).symm]
          exact e
        refine ⟨ot W1.dict (fun o' u' z => by unfold WD at z; cases z), W1.nd, W1.en.keeps fun b xs e => ot e (fun o' u' z => by cases z), fun e he => ?_, W1.rp, W1.vp⟩
        obtain ⟨ws, g1, g2⟩ := W1.ln e he
        exact ⟨ws, ot g1 (fun o' u' z => by cases z), g2⟩
      · obtain ⟨e, he, e1⟩ := List.mem_map.mp hs
        obtain ⟨j, hj, ej⟩ := mem_iff_get.mp he
        exact cm1 j e st' hj ej (by rw [e1]; exact hs')
end
end B58
set_option Elab.async false
set_option linter.all false
set_option maxRecDepth 100000
set_option maxHeartbeats 4000000
/-! The walks: all_ways. -/
namespace B58
open PySem PySem.Spec PyProof.Rows PySem.Calls L2 C8 LamX
section
variable {P : Program} {w : World} {K : PySem.W.Frag} {mg : Str → Option Value} {base : Heap} {C : Addr} {TT : List (Addr × Str)}
/-- new behind H0, but for tables -/
def Nw (H0 : Hp) (a : Addr) : Prop := ∀ o, H0 a = some o → ∃ ps, o = .tbl ps
theorem Nw.of {H0 : Hp} {a : Addr} (h : H0 a = none) : Nw H0 a := fun o e => by rw [h] at e; cases e
/-- what all_ways hands back at p: dicts, the last one with exactly the states that are reached -/
structure AwRes (P : Program) (w : World) (H : Hp) (p : Addr) (Dl : List (Addr × List EnW)) (R : St3 → Prop) : Prop where
  lst : H p = some (.lst (Dl.map fun x => V.ref x.1))
  all : ∀ x ∈ Dl, H x.1 = some (WD P w x.1 x.2) ∧ EnAt H x.2
  last : ∃ D0 d L, Dl = D0 ++ [(d, L)] ∧ (keysW L).Nodup ∧ (∀ st, st ∈ keysW L ↔ R st) ∧ ∀ e ∈ L, ∃ ws, H e.2.2 = some (.lst ws)
def spAll (P : Program) (w : World) (TT : List (Addr × Str)) : Sp := fun vs H Q _ => ∃ (c ev : Addr) (o first : List Int) (ts : List Tr) (ks : List Bool) (us : List Int), vs = [.ref c, .ref ev] ∧ IL H c first ∧ EvsAt H ev (evsOf ts ks us) ∧ ks.length = ts.length ∧ Net o ts first ∧ us.length ≤ 1000 ∧ Tabs TT H ∧
  ∀ (H' : Hp) (p : Addr) (Dl : List (Addr × List EnW)), ExtN H H' → Tabs TT H' → H p = none → (∀ x ∈ Dl, Nw H x.1) → Dl.length ≤ 1010 → AwRes P w H' p Dl (Reach first ts (evsOf ts ks us) (evsOf ts ks us).length) → Q (.ref p) H'
theorem sc_all_ways : FnScope ["first", "events", "transfers", "found", "at", "event", "ways", "area"] ["first", "events"] (defScope s_all_ways) := ⟨rfl, rfl, rfl, by decide +kernel, rfl, by decide +kernel, by decide +kernel⟩
structure AwI (P : Program) (w : World) (TT : List (Addr × Str)) (H0 : Hp) (fa : Addr) (H : Hp) (D0 : List (Addr × List EnW)) (d : Addr) (L : List EnW) (R : St3 → Prop) : Prop where
  ext : ExtN H0 H
  tabs : Tabs TT H
  fn : H0 fa = none
  lst : H fa = some (.lst ((D0 ++ [(d, L)]).map fun x => V.ref x.1))
  old : ∀ x ∈ D0, H x.1 = some (WD P w x.1 x.2) ∧ EnAt H x.2
  new : ∀ x ∈ D0 ++ [(d, L)], Nw H0 x.1
  ways : WaysOk P w H d L R (fun a => a ≠ fa)
  comp : ∀ st, R st → st ∈ keysW L
theorem cal_all_ways (D : Dd K mg "all_ways" s_all_ways) (T : Txt K mg C) (c1 : Cal P w K mg base 8 "transfers_of" (spTrOf C) []) (c2 : Cal P w K mg base 4 "ways_behind" (spBehind P w C) []) (c3 : Cal P w K mg base 6 "spread_ways" (spSpread P w C TT) []) : Cal P w K mg base 10 "all_ways" (spAll P w TT) [] := by
  refine D.cal (k := 9) sc_all_ways (fun vs H Q E h => ?_) (fun _ _ _ _ _ _ us hl => match us, hl with | [_, _], _ => rfl) (fun f cdv A outer s H vs Q E hr h => ?_)
  · obtain ⟨c, ev, o, first, ts, ks, us, rfl, _⟩ := h
    rfl
  · obtain ⟨c, ev, o, first, ts, ks, us, rfl, hc, hev, hkl, N, hus, hT, q⟩ := h
    have nd := sc_all_ways.nd
    have hw : (A.deeper (envOfC "all_ways" (defScope s_all_ways) s.heap.objs.size f cdv)).units + 16 < cLine := by
      have := hr.un
      omega
    refine ⟨_, pss_cons (ps_set (i := 2) nd rfl (Or.inl rfl) (pe_c c1 hr (by decide) rfl (pa_cons (pv 0) (pa_cons (pv 1) pa_nil))))
      (pss_cons (ps_set (i := 3) nd rfl (Or.inl rfl) (pe_lst (pa_cons (pe_dcW (own := [("area", 7)]) hw rfl nd (pi_list (pv 0)) (blkOk_by (by kernel_rfl)) (fun _ _ _ _ _ => pg_name (i := 7) nd rfl (Or.inl rfl)) (fun _ _ _ _ _ => pts_nil)
          (fun _ _ _ _ _ => pe_tup (pa_cons (pv 7) (pa_cons (pe_tup pa_nil) (pa_cons (pe_tup pa_nil) pa_nil)))) (fun _ _ _ _ _ => pe_lst pa_nil)) pa_nil)))
      (pss_cons (ps_for PassesOwn.never rfl (pi_enum rfl T.f_enumerate (pa_cons (pv 1) pa_nil)) (pg_tup rfl (pgs_cons (pg_name (i := 4) nd rfl (Or.inl rfl)) (pgs_cons (pg_name (i := 5) nd rfl (Or.inl rfl)) pgs_nil)))
        (pss_cons (ps_set (i := 6) nd rfl (Or.inl rfl) (pe_c c2 hr (by decide) rfl (pa_cons (pe_ix ix_list (pv 3) (pe_un un_neg pe_int) (fun _ _ => rfl)) (pa_cons (pv 5) (pa_cons (pv 2) pa_nil)))))
        (pss_cons (ps_expr (pe_c c3 hr (by decide) rfl (pa_cons (pv 6) (pa_cons (pv 2) (pa_cons (pe_op op_add (pv 4) pe_int) pa_nil)))))
        (pss_one (ps_expr (pe_bm PySem.F.plainAttrs_list PySem.F.slot_list_append PySem.F.type_list_append mt_append (pv 3) (pa_cons (pv 6) pa_nil)))))))
      (pss_one (ps_ret (pv 3))))), ?_⟩
    refine ⟨_, rfl, _, rfl, c, ev, first, ts, ks, us, rfl, hc, N.f_nd, Nat.lt_of_le_of_lt N.f_len (by decide), hev, hkl, N.t_nd, N.t_len, N.ne, fun H1 tr s1 htr R1 => ?_⟩
    have hc1 := hc.same s1
    have hev1 := hev.same s1
    -- the first dict
    refine ⟨_, rfl, c, rfl, ⟨_, SqL.of hc1⟩, fun B hB => bk_it (walk_list (xs := first.map V.int)) (fun i H' => i ≤ first.length ∧ Same H1 H' ∧ ∃ L, WaysOk P w H' B L (Reach first ts (evsOf ts ks us) 0) (fun _ => True) ∧ keysW L = (first.take i).map fun a => (⟨a, [], []⟩ : St3))
      ⟨Nat.zero_le _, same_new hB, [], ⟨upd_same, List.nodup_nil, EnAt.nil _, (fun e he => nomatch he), (fun e he => nomatch he), (fun e he => nomatch he)⟩, rfl⟩ (fun i H' _ p => SqL.of (p.2.1 _ _ hc1)) ?_ ?_⟩
    · rintro i x H2 H3 hi ⟨_, s2, L, W2, hk2⟩ y
      obtain ⟨rfl, hx⟩ := y
      obtain ⟨a, ha, rfl⟩ := get_int hx
      have hif : i < first.length := (List.getElem?_eq_some_iff.mp ha).1
      refine ⟨rfl, tyes ⟨_, rfl, Nat.zero_le _, fun u0 hu0 => ⟨Nat.zero_le _, fun b0 hb0 => ⟨(by show 3 ≤ sizeLine; decide), fun kp hkp => ⟨Nat.zero_le _, fun va hva => ?_⟩⟩⟩⟩⟩
      have g1 : Same H3 (upd H3 u0 (.tup [])) := same_new hu0
      have g2 := g1.trans (same_new (o := .tup []) hb0)
      have g3 := g2.trans (same_new (o := .tup [.int a, .ref u0, .ref b0]) hkp)
      have g4 := g3.trans (same_new (o := .lst []) hva)
      have e3 : upd (upd (upd (upd H3 u0 (.tup [])) b0 (.tup [])) kp (.tup [.int a, .ref u0, .ref b0])) va (.lst []) kp = some (.tup [.int a, .ref u0, .ref b0]) := same_new hva _ _ upd_same
      have e1 : upd (upd (upd (upd H3 u0 (.tup [])) b0 (.tup [])) kp (.tup [.int a, .ref u0, .ref b0])) va (.lst []) u0 = some (.tup []) := same_new hva _ _ (same_new hkp _ _ (same_new hb0 _ _ upd_same))
      have e2 : upd (upd (upd (upd H3 u0 (.tup [])) b0 (.tup [])) kp (.tup [.int a, .ref u0, .ref b0])) va (.lst []) b0 = some (.tup []) := same_new hva _ _ (same_new hkp _ _ upd_same)
      have e4 : upd (upd (upd (upd H3 u0 (.tup [])) b0 (.tup [])) kp (.tup [.int a, .ref u0, .ref b0])) va (.lst []) va = some (.lst []) := upd_same
      generalize upd (upd (upd (upd H3 u0 (.tup [])) b0 (.tup [])) kp (.tup [.int a, .ref u0, .ref b0])) va (.lst []) = H4 at g4 e1 e2 e3 e4 ⊢
      have W4 := W2.same g4
      have st4 : StAt H4 kp ⟨a, [], []⟩ := ⟨u0, b0, e3, e1, e2⟩
      have hny : (⟨a, [], []⟩ : St3) ∉ keysW L := fun z => by
        rw [hk2] at z
        obtain ⟨a', ha', ee⟩ := List.mem_map.mp z
        injection ee with ea
        rw [ea] at ha'
        obtain ⟨j, hj, ej⟩ := List.mem_iff_getElem.mp ha'
        rw [List.length_take] at hj
        rw [List.getElem_take] at ej
        have := List.pairwise_iff_getElem.mp N.f_nd j i (by omega) hif (by omega)
        exact this (by rw [ej]; exact ((List.getElem?_eq_some_iff.mp ha).2).symm)
      have hlen : L.length = i := by
        have := congrArg List.length hk2
        rw [List.length_map, List.length_map, List.length_take] at this
        omega
      have big : (20000 : Nat) < sizeLine := by decide
      have hfl := N.f_len
      refine ⟨L, kp, ⟨a, [], []⟩, va, rfl, rfl, W4.dict, W4.en, st4, hny, by omega, hif, same_upd (s2.trans g4) hB, L ++ [(⟨a, [], []⟩, kp, va)], ?_, ?_⟩
      · have tk : TupKeep H4 (upd H4 B (WD P w B (L ++ [(⟨a, [], []⟩, kp, va)]))) := tupKeep_upd W4.dict fun xs => WD_tup
        have lk : ∀ {b : Addr} {xs : List V}, H4 b = some (.lst xs) → upd H4 B (WD P w B (L ++ [(⟨a, [], []⟩, kp, va)])) b = some (.lst xs) := fun {b xs} eb => by
          rw [upd_ne (ne_of eb W4.dict (Ne.symm WD_lst))]
          exact eb
        refine ⟨upd_same, ?_, (W4.en.snoc st4).keeps tk, fun z hz => ?_, fun z hz => ?_, fun _ _ => True.intro⟩
        · rw [List.map_append, List.nodup_append]
          exact ⟨W4.nd, List.nodup_cons.mpr ⟨(fun z => nomatch z), List.nodup_nil⟩, fun a ha b hb e => hny (by rw [e, List.mem_singleton.mp hb] at ha; exact ha)⟩
        · rcases List.mem_append.mp hz with hz | hz
          · obtain ⟨ws', k1, k2⟩ := W4.ln z hz
            exact ⟨ws', lk k1, k2⟩
          · rw [List.mem_singleton.mp hz]
            exact ⟨[], lk e4, rfl⟩
        · rcases List.mem_append.mp hz with hz | hz
          · exact W4.rp z hz
          · rw [List.mem_singleton.mp hz]
            exact .init (List.mem_of_getElem? ha)
      · show List.map (fun e : EnW => e.1) (L ++ [((⟨a, [], []⟩ : St3), kp, va)]) = _
        rw [List.map_append, List.take_add_one, ha, List.map_append]
        have hk2' : L.map (fun e => e.1) = (first.take i).map fun a => (⟨a, [], []⟩ : St3) := hk2
        rw [hk2']
        rfl
    · rintro H2 ⟨_, s2, L, W2, hk2⟩
      rw [List.length_map, List.take_length] at hk2
      refine ⟨(by show 1 ≤ sizeLine; decide), fun fa hfa => ?_⟩
      have sf : Same H2 (upd H2 fa (.lst [.ref B])) := same_new hfa
      have hff : upd H2 fa (.lst [.ref B]) fa = some (.lst [.ref B]) := upd_same
      have hB0 : H1 B = none := hB
      have hfa1 : H1 fa = none := s2.free hfa
      have nvf : ∀ e ∈ L, e.2.2 ≠ fa := fun e he z => by
        obtain ⟨ws, k1, _⟩ := W2.ln e he
        rw [z, hfa] at k1
        cases k1
      generalize upd H2 fa (.lst [.ref B]) = H3 at sf hff ⊢
      have W3 := W2.same sf
      have s13 := s2.trans sf
      have T3 : Tabs TT H3 := (hT.ext s1).ext s13
      have A0 : AwI P w TT H1 fa H3 [] B L (Reach first ts (evsOf ts ks us) 0) := by
        refine ⟨ExtN.of s13, T3, hfa1, hff, (fun x hx => nomatch hx), fun x hx => ?_, ⟨W3.dict, W3.nd, W3.en, W3.ln, W3.rp, nvf⟩, fun st hR => ?_⟩
        · rw [List.mem_singleton.mp hx]
          exact Nw.of hB0
        · rw [hk2]
          generalize hk : 0 = k at hR
          cases hR with
          | init ha => exact List.mem_map.mpr ⟨_, ha, rfl⟩
          | step _ _ _ => cases hk
          | car _ _ => cases hk
      obtain ⟨ps, p1, p2, p3⟩ := id hev1
      refine ⟨_, rfl, ev, _, rfl, SqL.of (s13 _ _ p1), for_it (walk_enum (xs := ps.map V.ref)) (fun i σ H' => ∃ (D0 : List (Addr × List EnW)) (d : Addr) (L : List EnW) (v4 v5 v6 v7 : Option V), σ = [some (.ref c), some (.ref ev), some (.ref tr), some (.ref fa), v4, v5, v6, v7] ∧ AwI P w TT H1 fa H' D0 d L (Reach first ts (evsOf ts ks us) i) ∧ D0.length ≤ i)
        ⟨[], B, L, none, none, none, none, rfl, A0, Nat.zero_le _⟩ (fun i σ H' _ ⟨_, _, _, _, _, _, _, _, A, _⟩ => SqL.of (ExtN.seqL A.ext p1)) ?_ ?_⟩
      · rintro i x σ H4 H5 hi ⟨D0, d, L, v4, v5, v6, v7, rfl, A, hD0⟩ ⟨T1, x1, x2, rfl, hT1, rfl, e1, e2⟩
        have e1' := Option.some.inj e1
        obtain ⟨pe, hpe, rfl⟩ := get_ref e2
        obtain ⟨eve, heve⟩ := get_same_len p2 hpe
        subst e1'
        have big : (20000 : Nat) < sizeLine := by decide
        have hlen : (ps.map V.ref).length = ts.length + us.length := by rw [List.length_map, p2, evsOf_length hkl]
        have htl := N.t_len
        rw [hlen] at hi
        refine ⟨T1, _, rfl, SqT.of upd_same, rfl, _, _, rfl, _, _, rfl, rfl, ?_⟩
        have s5 : Same H4 (upd H4 T1 (.tup [.int (i : Nat), .ref pe])) := same_new hT1
        generalize upd H4 T1 (.tup [.int (i : Nat), .ref pe]) = H5 at s5 ⊢
        have W5 := A.ways.same s5
        have x5 : ExtN H1 H5 := A.ext.trans (ExtN.of s5)
        have hf5 := s5 _ _ A.lst
        have hpe5 : EvAt H5 pe eve := ExtN.tup x5 (p3 i pe eve hpe heve)
        have hat : atI ((D0 ++ [(d, L)]).map fun x => V.ref x.1) (-1) = some (.ref d) := by
          rw [List.map_append]
          exact atI_last _ _
        have trX : ∀ {H' : Hp}, ExtN H1 H' → TrD C H' tr ts ks := fun {H'} x => by
          obtain ⟨qs, k1, k2, k3⟩ := R1
          exact ⟨qs, x _ _ k1 fun ps z => (by cases z), k2, fun i p e mv a b c => let ⟨dx, g⟩ := k3 i p e mv a b c; ⟨dx, x _ _ g fun ps z => (by cases z)⟩⟩
        have hok : EvOk ts ks eve := by
          rcases evs_cases hkl heve with ⟨e, mv, hte, rfl⟩ | ⟨_, v, _, rfl⟩
          · have hti : i < ts.length := (List.getElem?_eq_some_iff.mp hte).1
            have hk : i < ks.length := by omega
            have h3 := heve
            unfold evsOf at h3
            rw [List.getElem?_append_left (by rw [begs_length hkl]; exact hti)] at h3
            unfold begs at h3
            rw [List.getElem?_zipWith, hte, List.getElem?_eq_getElem hk] at h3
            have h4 := Option.some.inj h3
            injection h4 with _ h4
            exact .inl ⟨i, e, mv, hte, by rw [List.getElem?_eq_getElem hk, h4], rfl⟩
          · exact .inr ⟨v, rfl⟩
        have few : ∀ (k : Nat) (l : List St3), l.Nodup → (∀ st ∈ l, Reach first ts (evsOf ts ks us) k st) → l.length ≤ 5120 := fun k l hn hrr => few_keys N hkl hn hrr
        have ub : ∀ (k : Nat) (st : St3), Reach first ts (evsOf ts ks us) k st → st.b.length ≤ 50 ∧ st.u.length ≤ 50 := fun k st hR => by
          obtain ⟨_, g1, g2⟩ := reach_wf N hkl hR
          have h1 := g1.len
          have h2 := g2.len
          unfold nums at h1 h2
          rw [List.length_map] at h1 h2
          rw [List.length_take] at h2
          constructor <;> omega
        have hL5 : L.length ≤ 5120 := by
          have := few i (keysW L) W5.nd fun st hs => by
            obtain ⟨e, he, e2⟩ := List.mem_map.mp hs
            rw [← e2]
            exact W5.rp e he
          rw [List.length_map] at this
          exact this
        refine ⟨_, rfl, _, rfl, fa, _, _, _, rfl, rfl, SqL.of hf5, hat, _, rfl, _, rfl, d, pe, tr, L, eve, ts, ks, Reach first ts (evsOf ts ks us) i, Reach first ts (evsOf ts ks us) (i + 1), fun a => a ≠ fa, rfl, W5, hpe5, trX x5, hkl, N.t_nd, hok, hL5, ub i, fun st st' hR hs => .step hR heve hs, fun H6 d' L6 s6 hd' W6 cm6 => ?_⟩
        have x6 : ExtN H1 H6 := x5.trans (ExtN.of s6)
        have T6 : Tabs TT H6 := (A.tabs.ext s5).ext s6
        have hf6 := s6 _ _ hf5
        have hd'4 : H4 d' = none := s5.free hd'
        refine ⟨_, rfl, _, rfl, _, rfl, _, _, rfl, rfl, d', tr, i + 1, L6, ts, ks, Reach first ts (evsOf ts ks us) (i + 1), fun a => a ≠ fa, rfl, W6, fun a hno z => hno (by rw [z]; exact ⟨_, hf6, fun ps zz => (by cases zz)⟩), trX x6, hkl, N.t_nd, N.t_len, T6, few (i + 1), fun st hR => (ub _ st hR).2, fun st st' hR hcc => ⟨.car hR hcc, ?_⟩, fun H7 L7 k7 T7 W7 m7 cl7 => ?_⟩
        · obtain ⟨e, _, _, _, rfl⟩ := hcc
          show (srt (st.u ++ [e.n])).length = _
          rw [srt_length, List.length_append]
          rfl
        have nfd' : fa ≠ d' := fun z => by rw [← z, hf5] at hd'; cases hd'
        have hf7 : H7 fa = some (.lst ((D0 ++ [(d, L)]).map fun x => V.ref x.1)) := k7 _ _ hf6 (fun ps z => by cases z) nfd'
        refine ⟨_, rfl, .inl ⟨rfl, _, SqL.of hf7⟩, _, rfl, fa, _, _, rfl, rfl, hf7, by rw [List.length_map, List.length_append, List.length_singleton]; omega, ?_⟩
        -- what stood, up to fa
        have old7 : ∀ {b : Addr} {o : HO}, H4 b = some o → (∀ ps, o ≠ .tbl ps) → b ≠ fa → upd H7 fa (.lst ((D0 ++ [(d, L)]).map (fun x => V.ref x.1) ++ [V.ref d'])) b = some o := fun {b o} e n1 n2 => by
          rw [upd_ne n2]
          exact k7 _ _ (s6 _ _ (s5 _ _ e)) n1 (ne_of_none e hd'4)
        have tkA : TupKeep H4 (upd H7 fa (.lst ((D0 ++ [(d, L)]).map (fun x => V.ref x.1) ++ [V.ref d']))) := fun b xs e => old7 e (fun ps z => by cases z) (ne_of e A.lst (by intro z; cases z))
        have tk7 : TupKeep H7 (upd H7 fa (.lst ((D0 ++ [(d, L)]).map (fun x => V.ref x.1) ++ [V.ref d']))) := tupKeep_upd hf7 fun xs z => by cases z
        have nfa : ∀ {b : Addr} {o : HO}, H1 b = some o → b ≠ fa := fun {b o} e => ne_of_none e A.fn
        have hd'1 : Nw H1 d' := fun o e => by
          by_cases ht : ∃ ps, o = .tbl ps
          · exact ht
          · rw [x5 d' o e fun ps e => ht ⟨ps, e⟩] at hd'
            cases hd'
        refine ⟨D0 ++ [(d, L)], d', L7, _, _, _, _, rfl, ⟨fun b o e ht => ?_, ?_, A.fn, ?_, fun x hx => ?_, fun x hx => ?_, ⟨?_, W7.nd, W7.en.keeps tk7, fun e he => ?_, W7.rp, W7.vp⟩, fun st hR => ?_⟩, by rw [List.length_append, List.length_singleton]; omega⟩
        · rw [upd_ne (nfa e)]
          exact k7 _ _ (x6 _ _ e ht) ht (ne_of_none (x5 _ _ e ht) hd')
        · refine tabs_keep (Sx := fun b => b = fa) T7 (fun b o e hn => by rw [upd_ne hn]; exact e) fun a o hS e => ?_
          rw [hS, hf7] at e
          rw [← Option.some.inj e]
          exact ⟨(fun ps zz => by cases zz), fun c qq => lst_ne_code⟩
        · rw [upd_same, List.map_append (l₂ := [(d', L7)])]
          rfl
        · have hx4 : H4 x.1 = some (WD P w x.1 x.2) ∧ EnAt H4 x.2 := by
            rcases List.mem_append.mp hx with hx | hx
            · exact A.old x hx
            · rw [List.mem_singleton.mp hx]
              exact ⟨A.ways.dict, A.ways.en⟩
          exact ⟨old7 hx4.1 (fun ps => WD_tbl) (ne_of hx4.1 A.lst WD_lst), hx4.2.keeps tkA⟩
        · rcases List.mem_append.mp hx with hx | hx
          · exact A.new x hx
          · rw [List.mem_singleton.mp hx]
            exact hd'1
        · rw [upd_ne (Ne.symm nfd')]
          exact W7.dict
        · obtain ⟨ws, k1, k2⟩ := W7.ln e he
          exact ⟨ws, by rw [upd_ne (W7.vp e he)]; exact k1, k2⟩
        · generalize hk : i + 1 = k at hR
          induction hR with
          | init ha => cases hk
          | @step k st0 st1 ev0 R0 he0 hs0 ih =>
            have hki : k = i := by omega
            rw [hki] at R0 he0
            rw [heve] at he0
            rw [← Option.some.inj he0] at hs0
            exact m7 _ (cm6 _ _ (A.comp _ R0) hs0)
          | @car k st0 st1 R0 hc0 ih =>
            have h1 := ih hk
            refine cl7 _ _ h1 ?_
            rw [hk]
            exact hc0
      · rintro σ H4 ⟨D0, d, L, v4, v5, v6, v7, rfl, A, hD0⟩
        have hlen : (ps.map V.ref).length = (evsOf ts ks us).length := by rw [List.length_map, p2]
        rw [hlen] at A hD0
        have hel := evsOf_length (ts := ts) hkl us
        have htl := N.t_len
        refine ⟨_, rfl, q H4 fa (D0 ++ [(d, L)]) ((ExtN.of s1).trans A.ext) A.tabs (s1.free A.fn) (fun x hx o e => A.new x hx o (s1 _ _ e)) (by rw [List.length_append, List.length_singleton]; omega) ⟨A.lst, fun x hx => ?_, D0, d, L, rfl, A.ways.nd, fun st => ⟨fun hs => ?_, A.comp st⟩, fun e he => let ⟨ws, k1, _⟩ := A.ways.ln e he; ⟨ws, k1⟩⟩⟩
        · rcases List.mem_append.mp hx with hx | hx
          · exact A.old x hx
          · rw [List.mem_singleton.mp hx]
            exact ⟨A.ways.dict, A.ways.en⟩
        · obtain ⟨e, he, e2⟩ := List.mem_map.mp hs
          rw [← e2]
          exact A.ways.rp e he
end
end B58
set_option Elab.async false
set_option linter.all false
set_option maxRecDepth 100000
set_option maxHeartbeats 4000000
/-! The walks: closed, possible, journey. -/
namespace B58
open PySem PySem.Spec PyProof.Rows PySem.Calls L2 C8 LamX
section
variable {P : Program} {w : World} {K : PySem.W.Frag} {mg : Str → Option Value} {base : Heap} {C : Addr} {TT : List (Addr × Str)}
theorem extN_same {H H1 H2 : Hp} (x : ExtN H H1) (s : Same H1 H2) : ExtN H H2 := x.trans (ExtN.of s)
/-! ### closed -/
def spClosed (TT : List (Addr × Str)) : Sp := fun vs H Q _ => ∃ (c ev : Addr) (o first : List Int) (ts : List Tr) (ks : List Bool) (us : List Int), vs = [.ref c, .ref ev] ∧ IL H c first ∧ EvsAt H ev (evsOf ts ks us) ∧ ks.length = ts.length ∧ Net o ts first ∧ us.length ≤ 1000 ∧ Tabs TT H ∧
  ∀ (H' : Hp) (p : Addr) (qs : List Addr) (q : Addr) (L : List EnW), ExtN H H' → Tabs TT H' → H' p = some (.lst ((qs ++ [q]).map V.ref)) → H' q = some (.tup (L.map fun e => V.ref e.2.1)) → EnAt H' L →
    (L = [] ↔ ¬ ∃ st, Reach first ts (evsOf ts ks us) (evsOf ts ks us).length st) → Q (.ref p) H'
theorem sc_closed : FnScope ["first", "events", "ways"] ["first", "events"] (defScope s_closed) := ⟨rfl, rfl, rfl, by decide +kernel, rfl, by decide +kernel, by decide +kernel⟩
theorem cal_closed (D : Dd K mg "closed" s_closed) (T : Txt K mg C) (c1 : Cal P w K mg base 10 "all_ways" (spAll P w TT) []) : Cal P w K mg base 12 "closed" (spClosed TT) [] := by
  refine D.cal (k := 11) sc_closed (fun vs H Q E h => ?_) (fun _ _ _ _ _ _ us hl => match us, hl with | [_, _], _ => rfl) (fun f cdv A outer s H vs Q E hr h => ?_)
  · obtain ⟨c, ev, o, first, ts, ks, us, rfl, _⟩ := h
    rfl
  · obtain ⟨c, ev, o, first, ts, ks, us, rfl, hc, hev, hkl, N, hus, hT, q⟩ := h
    have nd := sc_closed.nd
    have hw : (A.deeper (envOfC "closed" (defScope s_closed) s.heap.objs.size f cdv)).units + 16 < cLine := by
      have := hr.un
      omega
    refine ⟨_, pss_one (ps_ret (pe_lc (own := [("ways", 2)]) rfl nd (pi_list (pe_c c1 hr (by decide) rfl (pa_cons (pv 0) (pa_cons (pv 1) pa_nil)))) (blkOk_by (by kernel_rfl)) (fun _ _ _ _ _ => pg_name (i := 2) nd rfl (Or.inl rfl)) (fun _ _ _ _ _ => pts_nil)
      (fun _ _ _ _ _ => pe_callTy (call_tuple_of : CallR _ _ (fun xs H Q => ∃ p ys, xs = [.ref p] ∧ ((SqL K H p ys ∧ ∀ l, H l = none → Q (.ref l) (upd H l (.tup ys))) ∨ (SqT K H p ys ∧ Q (.ref p) H)))) rfl T.f_tuple bo_tuple (pa_cons (pe_callB (cr_sortedW rfl hw : CallR _ _ (rSortedW P w)) rfl T.f_sorted bo_sorted (pa_cons (pv 2) pa_nil)) pa_nil)))), ?_⟩
    refine ⟨_, rfl, _, rfl, c, ev, o, first, ts, ks, us, rfl, hc, hev, hkl, N, hus, hT, fun H1 p Dl x1 T1 hp hDl hDz A => ?_⟩
    obtain ⟨D0, d, L, eD, Lnd, LR, Lv⟩ := A.last
    refine ⟨p, rfl, ⟨_, SqL.of A.lst⟩, fun B hB => lc_same (walk_list (xs := Dl.map fun x => V.ref x.1)) (fun i y H' => ∀ x, Dl[i]? = some x → ∃ (r : Addr) (L' : List EnW), y = some (V.ref r) ∧ L'.Perm x.2 ∧ H' r = some (.tup (L'.map fun e => V.ref e.2.1)) ∧ EnAt H' L')
      (fun i y H2 H3 k h x hx => let ⟨r, L', a1, a2, a3, a4⟩ := h x hx; ⟨r, L', a1, a2, k _ _ a3, a4.keeps k⟩) hB (by rw [List.length_map]; exact Nat.le_trans hDz (by decide)) (fun H' s => SqL.of (s _ _ A.lst)) ?_ ?_⟩
    · intro i y H2 H3 R hi sm yy hR
      obtain ⟨rfl, hy⟩ := yy
      rw [List.getElem?_map] at hy
      cases hx : Dl[i]? with
      | none => rw [hx] at hy; cases hy
      | some x =>
        rw [hx] at hy
        have ey := (Option.some.inj hy).symm
        subst ey
        obtain ⟨g1, g2⟩ := A.all x (List.mem_of_getElem? hx)
        have en3 : EnAt H3 x.2 := g2.keeps fun b xs e => sm _ _ e
        refine ⟨rfl, tyes ⟨_, rfl, x.1, x.2, rfl, .inl (sm _ _ g1), en3, fun L' l perm hl => ?_⟩⟩
        have s3 : Same H3 (upd H3 l (.lst (L'.map fun e => V.ref e.2.1))) := same_new hl
        refine ⟨l, _, rfl, .inl ⟨SqL.of upd_same, fun r hr => ?_⟩⟩
        have s4 := s3.trans (same_new (o := .tup (L'.map fun e => V.ref e.2.1)) hr)
        refine hR (some (V.ref r)) _ (fun x' hx' => ?_) s4
        rw [hx] at hx'
        rw [← Option.some.inj hx']
        refine ⟨r, L', rfl, perm, upd_same, fun e he => ?_⟩
        exact (en3 e (perm.mem_iff.mp he)).same s4
    · intro ys H2 s2 hB2 hl hr'
      rw [List.length_map] at hl
      have hlen : Dl.length = D0.length + 1 := by rw [eD, List.length_append]; rfl
      -- the addresses
      obtain ⟨rs, hrl, hrs⟩ := choose_list (β := Addr) ys (R := fun i y r => y = some (V.ref r) ∧ ∀ x, Dl[i]? = some x → ∃ L' : List EnW, L'.Perm x.2 ∧ H2 r = some (.tup (L'.map fun e => V.ref e.2.1)) ∧ EnAt H2 L') fun i y e => by
        have hi : i < Dl.length := by
          have := (List.getElem?_eq_some_iff.mp e).1
          omega
        obtain ⟨r, L', a1, a2, a3, a4⟩ := hr' i y e _ (List.getElem?_eq_getElem hi)
        refine ⟨r, a1, fun x hx => ⟨L', ?_, a3, a4⟩⟩
        rw [List.getElem?_eq_getElem hi] at hx
        rw [← Option.some.inj hx]
        exact a2
      have eys : ys.filterMap id = rs.map V.ref := by
        have : ys = rs.map fun r => some (V.ref r) := by
          apply List.ext_getElem
          · rw [List.length_map, hrl]
          · intro i h1 h2
            rw [List.length_map] at h2
            rw [List.getElem_map]
            exact (hrs i _ _ (List.getElem?_eq_getElem h1) (List.getElem?_eq_getElem h2)).1
        rw [this]
        clear this hrs hrl hr' hl hB2
        induction rs with
        | nil => rfl
        | cons c cs ih => rw [List.map_cons, List.map_cons, List.filterMap_cons, ih]; rfl
      have hne : rs ≠ [] := fun z => by
        rw [z] at hrl
        have : ys.length = 0 := hrl.symm
        omega
      have erl : rs = rs.dropLast ++ [rs.getLast hne] := (List.dropLast_concat_getLast hne).symm
      have hlastD : Dl[Dl.length - 1]? = some (d, L) := by
        rw [eD, List.length_append, List.getElem?_append_right (by simp)]
        simp
      have hri : rs[Dl.length - 1]? = some (rs.getLast hne) := by
        rw [List.getLast_eq_getElem, ← List.getElem?_eq_getElem]
        congr 1
        omega
      have hyi : ∃ y, ys[Dl.length - 1]? = some y := ⟨ys[Dl.length - 1]'(by omega), List.getElem?_eq_getElem (by omega)⟩
      obtain ⟨y, hy⟩ := hyi
      obtain ⟨L', a2, a3, a4⟩ := (hrs _ y _ hy hri).2 _ hlastD
      rw [eys, erl] at hB2
      refine q H2 B rs.dropLast (rs.getLast hne) L' (extN_same x1 s2) (T1.ext s2) hB2 a3 a4 ?_
      constructor
      · rintro e ⟨st, hst⟩
        have h1 := (LR st).mpr hst
        obtain ⟨z, hz, _⟩ := List.mem_map.mp h1
        have := a2.mem_iff.mpr hz
        rw [e] at this
        cases this
      · intro hno
        cases hL' : L' with
        | nil => rfl
        | cons z zs =>
          have hz : z ∈ L := a2.mem_iff.mp (by rw [hL']; exact List.mem_cons_self)
          exact absurd ⟨z.1, (LR z.1).mp (List.mem_map.mpr ⟨z, hz, rfl⟩)⟩ hno
/-! ### possible -/
def spPossible (TT : List (Addr × Str)) : Sp := fun vs H Q _ => ∃ (c ev : Addr) (o first : List Int) (ts : List Tr) (ks : List Bool) (us : List Int), vs = [.ref c, .ref ev] ∧ IL H c first ∧ EvsAt H ev (evsOf ts ks us) ∧ ks.length = ts.length ∧ Net o ts first ∧ us.length ≤ 1000 ∧ Tabs TT H ∧
  ∀ (H' : Hp) (p : Addr) (l : List Int), ExtN H H' → Tabs TT H' → IL H' p l → l.length ≤ 5 → (∀ a, a ∈ l ↔ ∃ st, Reach first ts (evsOf ts ks us) (evsOf ts ks us).length st ∧ st.a = a) → Q (.ref p) H'
theorem sc_possible : FnScope ["first", "events", "state"] ["first", "events"] (defScope s_possible) := ⟨rfl, rfl, rfl, by decide +kernel, rfl, by decide +kernel, by decide +kernel⟩
theorem atI_lastD {D0 : List (Addr × List EnW)} {d : Addr} {L : List EnW} : atI ((D0 ++ [(d, L)]).map fun x => V.ref x.1) (-1) = some (.ref d) := by
  rw [List.map_append]
  exact atI_last _ _
/-- behind freezing a dict of ours -/
theorem extN_frz {H H1 : Hp} {d : Addr} {L : List EnW} {od : Obj} (x : ExtN H H1) (n : Nw H d) : ExtN H (upd H1 d (.frz od (WD P w d L))) := fun b o e ht => by
  rw [upd_ne fun z => by
    rw [z] at e
    obtain ⟨ps, hp⟩ := n o e
    exact ht ps hp]
  exact x b o e ht
theorem tabs_frz {H1 : Hp} {d : Addr} {L : List EnW} {od : Obj} (t : Tabs TT H1) (h : H1 d = some (WD P w d L)) : Tabs TT (upd H1 d (.frz od (WD P w d L))) :=
  tabs_keep (Sx := fun b => b = d) t (fun b o e hn => by rw [upd_ne hn]; exact e) fun a o hS e => by
    rw [hS, h] at e
    rw [← Option.some.inj e]
    exact ⟨fun ps => WD_tbl, fun c q z => codeO_ne_WD z.symm⟩
theorem cal_possible (D : Dd K mg "possible" s_possible) (T : Txt K mg C) (c1 : Cal P w K mg base 10 "all_ways" (spAll P w TT) []) : Cal P w K mg base 12 "possible" (spPossible TT) [] := by
  refine D.cal (k := 11) sc_possible (fun vs H Q E h => ?_) (fun _ _ _ _ _ _ us hl => match us, hl with | [_, _], _ => rfl) (fun f cdv A outer s H vs Q E hr h => ?_)
  · obtain ⟨c, ev, o, first, ts, ks, us, rfl, _⟩ := h
    rfl
  · obtain ⟨c, ev, o, first, ts, ks, us, rfl, hc, hev, hkl, N, hus, hT, q⟩ := h
    have nd := sc_possible.nd
    refine ⟨_, pss_one (ps_ret (pe_callB (cr_sortedSet rfl) rfl T.f_sorted bo_sorted (pa_cons (pe_scI (own := [("state", 2)]) rfl nd (pi_keysW (pe_ix ix_list (pe_c c1 hr (by decide) rfl (pa_cons (pv 0) (pa_cons (pv 1) pa_nil))) (pe_un un_neg pe_int) (fun _ _ => rfl))) (blkOk_by (by kernel_rfl)) (fun _ _ _ _ _ => pg_name (i := 2) nd rfl (Or.inl rfl)) (fun _ _ _ _ _ => pts_nil)
      (fun _ _ _ _ _ => pe_ix (ix_tup : IxR _ (rIxT K)) (pv 2) pe_int (fun _ _ => rfl))) pa_nil))), ?_⟩
    refine ⟨_, rfl, _, rfl, c, ev, o, first, ts, ks, us, rfl, hc, hev, hkl, N, hus, hT, fun H1 p Dl x1 T1 hp hDl hDz A => ?_⟩
    obtain ⟨D0, d, L, eD, Lnd, LR, Lv⟩ := A.last
    subst eD
    obtain ⟨hd, en⟩ := A.all (d, L) (List.mem_append_right _ (List.mem_singleton.mpr rfl))
    have nw := hDl (d, L) (List.mem_append_right _ (List.mem_singleton.mpr rfl))
    refine ⟨_, rfl, p, _, _, _, rfl, rfl, SqL.of A.lst, atI_lastD, d, L, rfl, .inr ⟨hd, fun od => ?_⟩⟩
    have x2 : ExtN H (upd H1 d (.frz od (WD P w d L))) := extN_frz x1 nw
    have T2 : Tabs TT (upd H1 d (.frz od (WD P w d L))) := tabs_frz T1 hd
    have hf2 : upd H1 d (.frz od (WD P w d L)) d = some (.frz od (WD P w d L)) := upd_same
    have en2 : EnAt (upd H1 d (.frz od (WD P w d L))) L := en.keeps fun b xs e => tupKeep_upd hd (fun xs => WD_tup) b xs e
    -- the heap behind
    have areas : ∀ l : List Int, l.Nodup → (∀ x ∈ l, ∃ j, j < L.length ∧ x = ((L[j]?.map fun e => e.1.a).getD 0)) → l.length ≤ 5 := fun l hn hl => by
      refine Nat.le_trans (nodup_len hn (l := o) fun x hx => ?_) N.o_len
      obtain ⟨j, hj, e⟩ := hl x hx
      rw [List.getElem?_eq_getElem hj] at e
      have hR := (LR (L[j].1)).mp (List.mem_map.mpr ⟨L[j], List.getElem_mem hj, rfl⟩)
      have ex : x = (L[j].1).a := e
      rw [ex]
      exact (reach_wf N hkl hR).1
    refine fun B hB => sc_same (w := w) (walk_keysW (P := P) (w := w)) (fun j => (L[j]?.map fun e => e.1.a).getD 0) hB (fun H' s => s _ _ hf2) (fun l hn hl => ?_) ?_ ?_
    · have := areas l hn hl
      show l.length + 1 < 4096
      omega
    · intro i x H3 H4 R Z hi sm y hR
      obtain ⟨rfl, e, he, rfl⟩ := y
      obtain ⟨pu, pb, h1, h2, h3⟩ := (en2 e (List.mem_of_getElem? he)).same sm
      refine ⟨rfl, tyes ⟨_, rfl, e.2.1, _, _, _, rfl, rfl, SqT.of h1, atI_nat (j := 0) rfl, ?_⟩⟩
      have := hR _ (Same.refl _)
      rw [he] at this
      exact this
    · intro l H3 s3 hl3 hn hm
      have h5 := areas l hn fun x hx => (hm x).mp hx
      refine ⟨B, _, _, rfl, hl3, by omega, fun ns r rising hns hlen hr => ?_⟩
      have s4 := s3.trans (same_new (o := .lst (ns.map V.int)) hr)
      refine q _ r ns (extN_same x2 s4) (T2.ext s4) upd_same (by rw [hlen]; exact h5) fun a => ?_
      rw [hns, decide_eq_true_eq, hm]
      constructor
      · rintro ⟨j, hj, e⟩
        rw [List.getElem?_eq_getElem hj] at e
        exact ⟨L[j].1, (LR _).mp (List.mem_map.mpr ⟨L[j], List.getElem_mem hj, rfl⟩), e.symm⟩
      · rintro ⟨st, hR, rfl⟩
        obtain ⟨e, he, e2⟩ := List.mem_map.mp ((LR st).mpr hR)
        obtain ⟨j, hj, ej⟩ := mem_iff_get.mp he
        refine ⟨j, hj, ?_⟩
        rw [ej]
        show st.a = e.1.a
        rw [e2]
/-! ### journey -/
def spJourney (TT : List (Addr × Str)) : Sp := fun vs H Q _ => ∃ (c ev : Addr) (x : Int) (o first : List Int) (ts : List Tr) (ks : List Bool) (us : List Int), vs = [.ref c, .ref ev, .int x] ∧ IL H c first ∧ EvsAt H ev (evsOf ts ks us) ∧ ks.length = ts.length ∧ Net o ts first ∧ us.length ≤ 1000 ∧ Tabs TT H ∧
  ∀ (H' : Hp) (v : V), ExtN H H' → Tabs TT H' → (v = .non ↔ ¬ ∃ st, Reach first ts (evsOf ts ks us) (evsOf ts ks us).length st ∧ st.a = x) → Q v H'
theorem sc_journey : FnScope ["first", "events", "area", "some", "state", "way"] ["first", "events", "area"] (defScope s_journey) := ⟨rfl, rfl, rfl, by decide +kernel, rfl, by decide +kernel, by decide +kernel⟩
theorem cal_journey (D : Dd K mg "journey" s_journey) (T : Txt K mg C) (c1 : Cal P w K mg base 10 "all_ways" (spAll P w TT) []) : Cal P w K mg base 12 "journey" (spJourney TT) [] := by
  refine D.cal (k := 11) sc_journey (fun vs H Q E h => ?_) (fun _ _ _ _ _ _ us hl => match us, hl with | [_, _, _], _ => rfl) (fun f cdv A outer s H vs Q E hr h => ?_)
  · obtain ⟨c, ev, x, o, first, ts, ks, us, rfl, _⟩ := h
    rfl
  · obtain ⟨c, ev, xa, o, first, ts, ks, us, rfl, hc, hev, hkl, N, hus, hT, q⟩ := h
    have nd := sc_journey.nd
    refine ⟨_, pss_cons (ps_setLc (i := 3) (own := [("state", 4), ("way", 5)]) rfl nd rfl rfl (sw_true rfl rfl rfl (by decide +kernel)) (pi_itemsW (pe_ix ix_list (pe_c c1 hr (by decide) rfl (pa_cons (pv 0) (pa_cons (pv 1) pa_nil))) (pe_un un_neg pe_int) (fun _ _ => rfl))) (blkOk_by (by kernel_rfl))
          (fun _ _ _ _ _ => (pg_tup rfl (pgs_cons (pg_name (i := 4) nd rfl (Or.inl rfl)) (pgs_cons (pg_name (i := 5) nd rfl (Or.inl rfl)) pgs_nil)) : PG _ _ (gTup K 2 _)))
          (fun _ _ _ _ _ => pts_one (pt_cmp (pc_eqI (pe_ix (ix_tup : IxR _ (rIxT K)) (pv 4) pe_int (fun _ _ => rfl)) (pv 2)))) (fun _ _ _ _ _ => pv 5))
      (pss_one (ps_ret (pe_minL rfl rfl T.f_min rfl T.f_len (pv 3)))), ?_⟩
    refine ⟨_, rfl, _, rfl, c, ev, o, first, ts, ks, us, rfl, hc, hev, hkl, N, hus, hT, fun H1 p Dl x1 T1 hp hDl hDz A => ?_⟩
    obtain ⟨D0, d, L, eD, Lnd, LR, Lv⟩ := A.last
    subst eD
    obtain ⟨hd, en⟩ := A.all (d, L) (List.mem_append_right _ (List.mem_singleton.mpr rfl))
    have nw := hDl (d, L) (List.mem_append_right _ (List.mem_singleton.mpr rfl))
    refine ⟨_, rfl, p, _, _, _, rfl, rfl, SqL.of A.lst, atI_lastD, d, L, rfl, .inr ⟨hd, fun od => ?_⟩⟩
    have x2 : ExtN H (upd H1 d (.frz od (WD P w d L))) := extN_frz x1 nw
    have T2 : Tabs TT (upd H1 d (.frz od (WD P w d L))) := tabs_frz T1 hd
    have hf2 : upd H1 d (.frz od (WD P w d L)) d = some (.frz od (WD P w d L)) := upd_same
    have en2 : EnAt (upd H1 d (.frz od (WD P w d L))) L := en.keeps fun b xs e => tupKeep_upd hd (fun xs => WD_tup) b xs e
    have lv2 : ∀ e ∈ L, ∃ ws, upd H1 d (.frz od (WD P w d L)) e.2.2 = some (.lst ws) := fun e he => by
      obtain ⟨ws, h1⟩ := Lv e he
      exact ⟨ws, by rw [upd_ne (ne_of h1 hd (Ne.symm WD_lst))]; exact h1⟩
    -- the heap behind
    have hLz : L.length ≤ sizeLine := by
      have := few_keys N hkl Lnd fun st hs => (LR st).mp hs
      rw [List.length_map] at this
      have : (5120 : Nat) ≤ sizeLine := by decide
      omega
    refine fun B hB => lc_same (walk_itemsW (P := P) (w := w)) (fun i y _ => ∀ e, L[i]? = some e → y = if decide (e.1.a = xa) = true then some (V.ref e.2.2) else none) (fun _ _ _ _ _ e => e) hB hLz (fun H' s => s _ _ hf2) ?_ ?_
    · rintro i x H3 H4 R hi sm ⟨T1', e, he, rfl, hT1, rfl⟩ hR
      have s4 : Same H3 (upd H3 T1' (.tup [.ref e.2.1, .ref e.2.2])) := same_new hT1
      obtain ⟨pu, pb, h1, h2, h3⟩ := (en2 e (List.mem_of_getElem? he)).same (sm.trans s4)
      refine ⟨T1', _, rfl, SqT.of upd_same, rfl, _, _, rfl, _, _, rfl, rfl, rfl, ?_⟩
      refine ⟨_, rfl, e.2.1, _, _, _, rfl, rfl, SqT.of h1, atI_nat (j := 0) rfl, _, rfl, _, _, rfl, rfl, _, rfl, ?_⟩
      refine ite2 (fun ha => ?_) (fun ha => ?_)
      · refine ⟨_, rfl, hR (some (.ref e.2.2)) _ (fun e' he' => ?_) s4⟩
        rw [he] at he'
        rw [← Option.some.inj he']
        exact (if_pos ha).symm
      · refine hR none _ (fun e' he' => ?_) s4
        rw [he] at he'
        rw [← Option.some.inj he']
        exact (if_neg ha).symm
    · intro ys H3 s3 hB3 hl hr'
      have eys : ys.filterMap id = ((L.filter fun e => decide (e.1.a = xa)).map fun e => e.2.2).map V.ref := by
        rw [filter_of (l := L) (p := fun e => decide (e.1.a = xa)) (f := fun e => V.ref e.2.2) hl fun i y e1 => ?_, List.map_map]
        · rfl
        · have hi : i < L.length := by
            have := (List.getElem?_eq_some_iff.mp e1).1
            omega
          exact ⟨_, List.getElem?_eq_getElem hi, hr' i y e1 _ (List.getElem?_eq_getElem hi)⟩
      rw [eys] at hB3
      have x3 := extN_same x2 s3
      have T3 := T2.ext s3
      refine ⟨_, rfl, B, _, rfl, hB3, fun r hr => ?_, fun e0 => ?_, fun r hr => ?_⟩
      · obtain ⟨e, he, rfl⟩ := List.mem_map.mp hr
        obtain ⟨ws, h1⟩ := lv2 e (List.mem_filter.mp he).1
        exact ⟨ws, s3 _ _ h1⟩
      · refine q H3 .non x3 T3 ⟨fun _ => ?_, fun _ => rfl⟩
        rintro ⟨st, hR, ha⟩
        obtain ⟨e, he, e2⟩ := List.mem_map.mp ((LR st).mpr hR)
        have : e.2.2 ∈ (L.filter fun e => decide (e.1.a = xa)).map fun e => e.2.2 := List.mem_map.mpr ⟨e, List.mem_filter.mpr ⟨he, decide_eq_true (by rw [e2]; exact ha)⟩, rfl⟩
        rw [e0] at this
        cases this
      · refine q H3 (.ref r) x3 T3 ⟨(fun z => nomatch z), fun hno => absurd ?_ hno⟩
        obtain ⟨e, he, _⟩ := List.mem_map.mp hr
        obtain ⟨h1, h2⟩ := List.mem_filter.mp he
        exact ⟨e.1, (LR _).mp (List.mem_map.mpr ⟨e, h1, rfl⟩), of_decide_eq_true h2⟩
end
end B58
set_option Elab.async false
set_option linter.all false
set_option maxRecDepth 100000
set_option maxHeartbeats 4000000
/-! The walks: spread, dirty. -/
namespace B58
open PySem PySem.Spec PyProof.Rows PySem.Calls L2 C8
/-! ### a dict whose keys are ints -/
def KI (kvs : List (Key × V)) (l : List Int) : Prop := kvs.map (fun p => p.1) = l.map Sum.inl
theorem inl_inj {a b : Int} (h : (Sum.inl a : Key) = Sum.inl b) : a = b := by
  injection h
theorem KI.isSome : ∀ {kvs : List (Key × V)} {l : List Int}, KI kvs l → ∀ k : Int, (valV kvs (Sum.inl k)).isSome = decide (k ∈ l)
  | [], [], _, k => rfl
  | [], _ :: _, h, _ => by simp [KI] at h
  | _ :: _, [], h, _ => by simp [KI] at h
  | (x, v) :: kvs, a :: l, h, k => by
    unfold KI at h
    rw [List.map_cons, List.map_cons] at h
    injection h with h1 h2
    have h1 : x = Sum.inl a := h1
    have ih := KI.isSome (kvs := kvs) (l := l) h2 k
    by_cases e : a = k
    · rw [valV_pos (by rw [h1, e]), decide_eq_true (by rw [e]; exact List.mem_cons_self)]
      rfl
    · rw [valV_neg (by rw [h1]; exact fun z => e (inl_inj z)), ih]
      exact decide_eq_decide.mpr ⟨List.mem_cons_of_mem _, fun z => (List.mem_cons.mp z).elim (fun y => absurd y.symm e) id⟩
theorem KI.put {kvs : List (Key × V)} {l : List Int} (h : KI kvs l) (k : Int) (v : V) : KI (putK kvs (Sum.inl k) v) (insL l k) := by
  have hs := h.isSome k
  unfold putK insL
  rw [valV_any, hs]
  by_cases hk : k ∈ l
  · rw [if_pos (decide_eq_true hk), if_pos hk]
    unfold KI
    rw [List.map_map, ← h]
    apply List.map_congr_left
    intro p _
    show (if p.1 = Sum.inl k then (p.1, v) else p).1 = p.1
    split <;> rfl
  · rw [if_neg (by rw [decide_eq_false hk]; decide), if_neg hk]
    unfold KI
    rw [List.map_append, List.map_append, h]
    rfl
theorem KI.drop : ∀ {kvs : List (Key × V)} {l : List Int}, KI kvs l → ∀ k : Int, KI (dropK kvs (Sum.inl k)) (l.filter fun a => decide (a ≠ k))
  | [], [], _, k => rfl
  | [], _ :: _, h, _ => by simp [KI] at h
  | _ :: _, [], h, _ => by simp [KI] at h
  | (x, v) :: kvs, a :: l, h, k => by
    unfold KI at h
    rw [List.map_cons, List.map_cons] at h
    injection h with h1 h2
    have h1 : x = Sum.inl a := h1
    have ih := KI.drop (kvs := kvs) (l := l) h2 k
    unfold KI dropK at ih ⊢
    subst h1
    by_cases e : a = k
    · rw [List.filter_cons_of_neg (by simp [e]), List.filter_cons_of_neg (by simp [e])]
      exact ih
    · rw [List.filter_cons_of_pos (by simp [e]), List.filter_cons_of_pos (by simp [e]), List.map_cons, List.map_cons, ih]
theorem KI.len {kvs : List (Key × V)} {l : List Int} (h : KI kvs l) : kvs.length = l.length := by
  have := congrArg List.length h
  rw [List.length_map, List.length_map] at this
  exact this
theorem ki_dKz : ∀ {ks : List Int} {vs : List V}, ks.length = vs.length → KI (dKz ks vs) ks
  | [], [], _ => rfl
  | [], _ :: _, h => by simp at h
  | _ :: _, [], h => by simp at h
  | k :: ks, v :: vs, h => by
    have ih := ki_dKz (ks := ks) (vs := vs) (by simpa using h)
    unfold KI at ih ⊢
    show Sum.inl k :: (dKz ks vs).map (fun p => p.1) = _
    rw [ih]
    rfl
theorem KI.keys {kvs : List (Key × V)} {l : List Int} (h : KI kvs l) : (kvs.map fun kv => kV kv.1) = l.map V.int := by
  have : (kvs.map fun kv => kV kv.1) = (kvs.map fun p => p.1).map kV := by rw [List.map_map]; rfl
  rw [this, h, List.map_map]
  rfl
theorem insL_len {l : List Int} {o : List Int} (h : l.Nodup) (hs : ∀ a ∈ l, a ∈ o) : l.length ≤ o.length := nodup_len h hs
/-! ### lists of ints as data -/
theorem dp_ints {K : PySem.W.Frag} {H : Hp} : ∀ l : List Int, DpAll K H (l.map V.int) (l.map .int)
  | [] => .nil
  | x :: l => .cons (.int x) (dp_ints l)
theorem shaped_ints (l : List Int) : SeqAt.shaped (.list (l.map .int)) = true := by
  unfold SeqAt.shaped
  have h1 : PyData.canLay0 (.list (l.map .int)) = true := by
    rw [PyData.canLay0]
    exact canLay_ints l
  have h2 : (PyData.list (l.map .int)).depth ≤ 64 := by
    rw [PyData.depth, PySem.W.depth_ints]
    decide
  rw [h1, decide_eq_true h2]
  rfl
section
variable {P : Program} {w : World} {K : PySem.W.Frag} {mg : Str → Option Value} {base : Heap} {C : Addr}
/-! ### spread -/
def spSpr (C : Addr) : Sp := fun vs H Q _ => ∃ (d tr : Addr) (m : Nat) (kvs : List (Key × V)) (l o : List Int) (ts : List Tr) (ks : List Bool), vs = [.ref d, .ref tr, .int m] ∧ H d = some (.dK kvs) ∧ KI kvs l ∧ l.Nodup ∧ (∀ a ∈ l, a ∈ o) ∧ d ≠ tr ∧ TrD C H tr ts ks ∧ ks.length = ts.length ∧ (nums ts).Nodup ∧ ts.length ≤ 5 ∧ (∀ e ∈ ts, e.t ∈ o) ∧ o.length ≤ 5 ∧
  ∀ (H' : Hp) (kvs' : List (Key × V)) (l' : List Int), (∀ b u, H b = some u → b ≠ d → H' b = some u) → H' d = some (.dK kvs') → KI kvs' l' → l'.Nodup → (∀ a ∈ l', a ∈ o) → (∀ a ∈ l, a ∈ l') → (∀ e ∈ ts.take m, e.s ∈ l' → e.t ∈ l') → Q .non H'
theorem sc_spread : FnScope ["dates", "transfers", "many", "waiting", "for_now", "met", "area", "one", "number"] ["dates", "transfers", "many"] (defScope s_spread) := ⟨rfl, rfl, rfl, by decide +kernel, rfl, by decide +kernel, by decide +kernel⟩
/-- what stands while spread goes on -/
structure SpI (C : Addr) (H : Hp) (d wa fo me : Addr) (o : List Int) (ts : List Tr) (m : Nat) (l0 : List Int) (fs : List (Addr × Tr)) (H' : Hp) (kvs mk : List (Key × V)) (l ml wl : List Int) : Prop where
  kept : ∀ b u, H b = some u → b ≠ d → b ≠ wa → b ≠ me → H' b = some u
  dd : H' d = some (.dK kvs)
  ki : KI kvs l
  nd : l.Nodup
  sub : ∀ a ∈ l, a ∈ o
  old : ∀ a ∈ l0, a ∈ l
  wt : IL H' wa wl
  wsz : 2 * (5 - ml.length) + wl.length ≤ 20
  fr : H' fo = some (.lst (fs.map fun x => V.ref x.1))
  md : H' me = some (.dK mk)
  mi : KI mk ml
  mn : ml.Nodup
  ms : ∀ a ∈ ml, a ∈ l
theorem SpI.same {H : Hp} {d wa fo me : Addr} {o : List Int} {ts : List Tr} {m : Nat} {l0 : List Int} {fs : List (Addr × Tr)} {H' H'' : Hp} {kvs mk : List (Key × V)} {l ml wl : List Int} (S : SpI C H d wa fo me o ts m l0 fs H' kvs mk l ml wl) (s : Same H' H'') : SpI C H d wa fo me o ts m l0 fs H'' kvs mk l ml wl :=
  ⟨fun b u e h h2 h3 => s _ _ (S.kept b u e h h2 h3), s _ _ S.dd, S.ki, S.nd, S.sub, S.old, s _ _ S.wt, S.wsz, s _ _ S.fr, s _ _ S.md, S.mi, S.mn, S.ms⟩
theorem cal_spread (D : Dd K mg "spread" s_spread) (T : Txt K mg C) (c1 : Cal P w K mg base 2 "under_way" (spUnder C) []) : Cal P w K mg base 4 "spread" (spSpr C) [] := by
  refine D.cal (k := 3) sc_spread (fun vs H Q E h => ?_) (fun _ _ _ _ _ _ us hl => match us, hl with | [_, _, _], _ => rfl) (fun f cdv A outer s H vs Q E hr h => ?_)
  · obtain ⟨d, tr, m, kvs, l, o, ts, ks, rfl, _⟩ := h
    rfl
  · obtain ⟨d, tr, m, kvs, l, o, ts, ks, rfl, hd, hki, hnd, hsub, hdt, htr, hkl, tnd, tl, htgt, hol, q⟩ := h
    have nd := sc_spread.nd
    have hu := hu_of hr
    refine ⟨_, pss_cons (ps_set (i := 3) nd rfl (Or.inl rfl) (pe_callTy (call_list_dK rfl) rfl T.f_list bo_list (pa_cons (pv 0) pa_nil)))
      (pss_cons (ps_setLc (i := 4) (own := [("number", 8)]) rfl nd rfl rfl (sw_true rfl rfl rfl (by decide +kernel)) (pi_list (pe_c c1 hr (by decide) rfl (pa_cons (pv 1) (pa_cons (pv 2) pa_nil)))) (blkOk_by (by kernel_rfl)) (fun _ _ _ _ _ => pg_name (i := 8) nd rfl (Or.inl rfl)) (fun _ _ _ _ _ => pts_nil)
          (fun _ _ _ _ _ => pe_dget hu (pv 1) (pv 8) (fun _ _ => rfl)))
      (pss_cons (ps_set (i := 5) nd rfl (Or.inl rfl) pe_dnewK)
      (pss_one (ps_while PassesOwn.never (pt_cmpR (op_neD hr.units) (pv 3) (pe_lst pa_nil) (nomark _))
        (pss_cons (ps_set (i := 6) nd rfl (Or.inl rfl) (pe_bm0 PySem.F.plainAttrs_list PySem.F.slot_list_pop PySem.F.type_list_pop mt_pop (pv 3)))
        (pss_one (ps_for PassesOwn.never rfl (pi_list (pv 4)) (pg_name (i := 7) nd rfl (Or.inl rfl))
          (pss_one (ps_if (pt_cmp (pc_eqI (pe_fld (pv 7) rfl) (pv 6)))
            (pss_cons (ps_dput hu (pv 0) (pe_fld (pv 7) rfl) (pv 2) rfl)
            (pss_one (ps_if (pt_cmp (pc_dnotin hu (pe_fld (pv 7) rfl) (pv 5)))
              (pss_cons (ps_dput hu (pv 5) (pe_fld (pv 7) rfl) pe_bl rfl)
              (pss_one (ps_expr (pe_bm PySem.F.plainAttrs_list PySem.F.slot_list_append PySem.F.type_list_append mt_append (pv 3) (pa_cons (pe_fld (pv 7) rfl) pa_nil))))) pss_nil))) pss_nil))))))))), ?_⟩
    have hll : l.length ≤ 5 := Nat.le_trans (insL_len hnd hsub) hol
    have big : (300 : Nat) ≤ sizeLine := by decide
    refine ⟨_, rfl, d, kvs, rfl, hd, fun wa hwa => ?_⟩
    rw [hki.keys]
    have s1 : Same H (upd H wa (.lst (l.map V.int))) := same_new hwa
    have hw1 : IL (upd H wa (.lst (l.map V.int))) wa l := upd_same
    generalize upd H wa (.lst (l.map V.int)) = H1 at s1 hw1 ⊢
    refine ⟨_, rfl, _, rfl, tr, m, ts, ks, rfl, htr.same s1, hkl, tnd, tl, fun H2 up s2 hup hns => ?_⟩
    have hns' : H2 up = some (.lst ((srt (nums (ts.take m))).map V.int)) := hns
    have nsl : (srt (nums (ts.take m))).length ≤ 5 := by
      rw [srt_length]
      unfold nums
      rw [List.length_map, List.length_take]
      omega
    have htr2 := (htr.same s1).same s2
    refine ⟨up, rfl, ⟨_, SqL.of hns'⟩, fun fo hfo => lc_same (walk_list (xs := (srt (nums (ts.take m))).map V.int)) (fun i y _ => ∀ n, (srt (nums (ts.take m)))[i]? = some n → ∃ e ∈ ts.take m, e.n = n ∧ ∃ (p : Addr) (mv : Bool) (b : Nat), y = some (.ref p) ∧ InsAt C H2 p e mv b) (fun _ _ _ _ _ e => e) hfo (by rw [List.length_map]; omega) (fun H' s => SqL.of (s _ _ hns')) ?_ ?_⟩
    · intro i x H3 H4 R hi sm y hR
      obtain ⟨rfl, hx⟩ := y
      obtain ⟨n, hn, rfl⟩ := get_int hx
      have hmem : n ∈ nums (ts.take m) := mem_srt.mp (List.mem_of_getElem? hn)
      obtain ⟨e, het, rfl⟩ := List.mem_map.mp hmem
      have he : e ∈ ts := List.mem_of_mem_take het
      obtain ⟨p, j, mv, hj, hm, hins, hget⟩ := htr2.get hkl tnd he
      obtain ⟨p', j', mv', hj', hm', hins', hget'⟩ := (htr2.same sm).get hkl tnd he
      have hpp : InsAt C H2 p' e mv' j' := by
        obtain ⟨ps, p1, p2, p3⟩ := id htr2
        obtain ⟨pj, hpj⟩ := get_same_len p2.symm hj'
        have hii := p3 j' pj e mv' hpj hj' hm'
        have hv := dKz_get (ks := nums ts) (vs := ps.map V.ref) (i := j') (k := e.n) (v := .ref pj) tnd (by unfold nums; rw [List.getElem?_map, hj']; rfl) (by rw [List.getElem?_map, hpj]; rfl)
        have h3 := sm _ _ p1
        rcases hget' with ⟨kvs2, k2, z1, z2, z3⟩ | ⟨kvs2, k2, b2, z1, z2, z3, z4⟩
        · rcases z1 with z1 | ⟨oo, z1⟩
          · rw [h3] at z1
            have z1' := Option.some.inj z1
            injection z1' with z1'
            subst z1'
            have ek : k2 = Sum.inl e.n := by
              cases k2 with
              | inl a => 
                have z2' : V.int e.n = V.int a := z2
                injection z2' with z2'
                rw [z2']
              | inr a =>
                have z2' : V.int e.n = V.str a := z2
                cases z2'
            subst ek
            rw [hv] at z3
            have z3' := Option.some.inj z3
            injection z3' with z3'
            rw [z3']
            exact hii
          · rw [h3] at z1
            have z1' := Option.some.inj z1
            cases z1'
        · cases z2
      refine ⟨rfl, tyes ⟨_, rfl, _, rfl, tr, _, rfl, hget', hR _ _ (fun n' hn' => ?_) (Same.refl _)⟩⟩
      rw [hn] at hn'
      exact ⟨e, het, Option.some.inj hn', p', mv', j', rfl, hpp⟩
    · intro ys H3 s3 hF hyl hr'
      rw [List.length_map] at hyl
      obtain ⟨fs, hfl, hfs⟩ := choose_list (β := Addr × Tr) ys (R := fun i y x => x.2 ∈ ts.take m ∧ (srt (nums (ts.take m)))[i]? = some x.2.n ∧ y = some (V.ref x.1) ∧ ∃ mv b, InsAt C H2 x.1 x.2 mv b) fun i y e => by
        have hi : i < (srt (nums (ts.take m))).length := by
          have := (List.getElem?_eq_some_iff.mp e).1
          omega
        obtain ⟨e1, he1, en, p, mv, b, ey, hins⟩ := hr' i y e _ (List.getElem?_eq_getElem hi)
        exact ⟨(p, e1), he1, by rw [List.getElem?_eq_getElem hi, ← en], ey, mv, b, hins⟩
      have eys : ys.filterMap id = fs.map fun x => V.ref x.1 := by
        have : ys = fs.map fun x => some (V.ref x.1) := by
          apply List.ext_getElem
          · rw [List.length_map, hfl]
          · intro i h1 h2
            rw [List.length_map] at h2
            rw [List.getElem_map]
            exact (hfs i _ _ (List.getElem?_eq_getElem h1) (List.getElem?_eq_getElem h2)).2.2.1
        rw [this, List.filterMap_map]
        clear this hfs hfl hr' hyl hF
        induction fs with
        | nil => rfl
        | cons c cs ih => rw [List.filterMap_cons, ih]; rfl
      rw [eys] at hF
      have fIns : ∀ x ∈ fs, x.2 ∈ ts.take m ∧ ∃ mv b, InsAt C H2 x.1 x.2 mv b := fun x hx => by
        obtain ⟨i, hi, ei⟩ := mem_iff_get.mp hx
        obtain ⟨y, hy⟩ := get_same_len hfl ei
        obtain ⟨g1, _, _, g2⟩ := hfs i y x hy ei
        exact ⟨g1, g2⟩
      have fAll : ∀ e ∈ ts.take m, ∃ x ∈ fs, x.2 = e := fun e he => by
        have h1 : e.n ∈ srt (nums (ts.take m)) := mem_srt.mpr (mem_nums he)
        obtain ⟨i, hi, ei⟩ := mem_iff_get.mp h1
        obtain ⟨y, hy⟩ := get_same_len hyl.symm ei
        obtain ⟨x, hx⟩ := get_same_len hfl.symm hy
        obtain ⟨g1, g3, _, g2⟩ := hfs i y x hy hx
        rw [ei] at g3
        exact ⟨x, List.mem_of_getElem? hx, nums_inj tnd (List.mem_of_mem_take g1) (List.mem_of_mem_take he) (Option.some.inj g3).symm⟩
      have hfl5 : fs.length ≤ 5 := by omega
      intro me hme
      have s03 : Same H H3 := s1.trans (s2.trans s3)
      have s4 : Same H3 (upd H3 me (.dK [])) := same_new hme
      have dwa : d ≠ wa := ne_of_none hd hwa
      have dfo : d ≠ fo := ne_of_none (s2 _ _ (s1 _ _ hd)) hfo
      have dme : d ≠ me := ne_of_none (s03 _ _ hd) hme
      have wfo : wa ≠ fo := ne_of_none (s2 _ _ hw1) hfo
      have wme : wa ≠ me := ne_of_none (s3 _ _ (s2 _ _ hw1)) hme
      have fme : fo ≠ me := ne_of_none hF hme
      have hHwa : H wa = none := hwa
      have hHme : H me = none := s03.free hme
      have s04 : Same H (upd H3 me (.dK [])) := s03.trans s4
      have hm4 : upd H3 me (.dK []) me = some (.dK []) := upd_same
      have hF4 := s4 _ _ hF
      have hw4 := s4 _ _ (s3 _ _ (s2 _ _ hw1))
      have fIns4 : ∀ x ∈ fs, x.2 ∈ ts.take m ∧ ∃ mv b, InsAt C (upd H3 me (.dK [])) x.1 x.2 mv b := fun x hx => by
        obtain ⟨g1, mv, b, dx, g2⟩ := fIns x hx
        exact ⟨g1, mv, b, dx, s4 _ _ (s3 _ _ g2)⟩
      generalize upd H3 me (.dK []) = H4 at s04 hm4 hF4 hw4 fIns4 ⊢
      have hd4 := s04 _ _ hd
      have S0 : SpI C H4 d wa fo me o ts m l fs H4 kvs [] l [] l := by
        refine ⟨fun b u e _ _ _ => e, hd4, hki, hnd, hsub, fun a h => h, hw4, ?_, hF4, hm4, rfl, List.nodup_nil, (fun a z => nomatch z)⟩
        simp only [List.length_nil]
        omega
      have insX : ∀ {H' : Hp} {x : Addr × Tr} {kvs' mk' : List (Key × V)} {l' ml' wl' : List Int}, SpI C H4 d wa fo me o ts m l fs H' kvs' mk' l' ml' wl' → x ∈ fs → x.2 ∈ ts.take m ∧ ∃ mv b, InsAt C H' x.1 x.2 mv b := fun {H' x _ _ _ _ _} S hx => by
        obtain ⟨g1, mv, b, dx, g2⟩ := fIns4 x hx
        exact ⟨g1, mv, b, dx, S.kept _ _ g2 (ne_of g2 hd4 (by intro z; cases z)) (ne_of g2 hw4 (by intro z; cases z)) (ne_of g2 hm4 (by intro z; cases z))⟩
      refine ⟨fun μ σ H' => ∃ (kvs' mk' : List (Key × V)) (l' ml' wl' : List Int) (v6 v7 v8 : Option V), σ = [some (.ref d), some (.ref tr), some (.int m), some (.ref wa), some (.ref fo), some (.ref me), v6, v7, v8] ∧ SpI C H4 d wa fo me o ts m l fs H' kvs' mk' l' ml' wl' ∧
          (∀ a ∈ l', a ∈ wl' ∨ ∀ e ∈ ts.take m, e.s = a → e.t ∈ l') ∧ μ = 2 * (5 - ml'.length) + wl'.length, ⟨_, kvs, [], l, [], l, none, none, none, rfl, S0, fun a ha => .inl ha, rfl⟩, ?_⟩
      rintro μ σ H5 ⟨kvs', mk', l', ml', wl', v6, v7, v8, rfl, S, dn, eμ⟩
      refine ⟨_, rfl, Nat.zero_le _, fun b0 hb0 => ?_⟩
      have s5 : Same H5 (upd H5 b0 (.lst [])) := same_new hb0
      have hb0' : upd H5 b0 (.lst []) b0 = some (.lst []) := upd_same
      have S5 := S.same s5
      generalize upd H5 b0 (.lst []) = H6 at s5 hb0' S5 ⊢
      refine ⟨.list (wl'.map .int), .list [], .lst (SqL.of S5.wt) (dp_ints wl'), .lst (SqL.of hb0') .nil, shaped_ints _, rfl, ?_⟩
      rcases List.eq_nil_or_concat wl' with e0 | ⟨wl1, x, e0⟩
      · subst e0
        refine ⟨false, rfl, iteF ?_⟩
        refine q H6 kvs' l' (fun b u e hbd => ?_) S5.dd S5.ki S5.nd S5.sub S5.old fun e he hs => ?_
        · exact S5.kept _ _ (s04 _ _ e) hbd (ne_of_none e hHwa) (ne_of_none e hHme)
        · rcases dn e.s hs with z | z
          · cases z
          · exact z e he rfl
      · rw [List.concat_eq_append] at e0
        subst e0
        have hne : PyData.eqv (.list ((wl1 ++ [x]).map .int)) (.list []) = false := by
          cases wl1 <;> rfl
        refine ⟨true, by rw [hne]; rfl, iteT ⟨fun σ' H' => ∃ m', m' < μ ∧ _, fun σ' H' h => h, ?_⟩⟩
        have hz5 := S5.wsz
        rw [List.length_append, List.length_singleton] at hz5 eμ
        refine ⟨_, rfl, .inl ⟨rfl, _, SqL.of S5.wt⟩, wa, _, .int x, rfl, rfl, S5.wt, ?_, ?_⟩
        · rw [List.map_append, List.length_append, List.length_map, List.length_map, List.length_singleton, Nat.add_sub_cancel, List.getElem?_append_right (by rw [List.length_map]; exact Nat.le_refl _), List.length_map, Nat.sub_self]
          rfl
        have edl : ((wl1 ++ [x]).map V.int).dropLast = wl1.map V.int := by
          rw [List.map_append]
          exact List.dropLast_concat
        rw [edl]
        have S6 : SpI C H4 d wa fo me o ts m l fs (upd H6 wa (.lst (wl1.map V.int))) kvs' mk' l' ml' wl1 := by
          refine ⟨fun b u e h1 h2 h3 => ?_, ?_, S5.ki, S5.nd, S5.sub, S5.old, upd_same, by omega, ?_, ?_, S5.mi, S5.mn, S5.ms⟩
          · rw [upd_ne h2]
            exact S5.kept b u e h1 h2 h3
          · rw [upd_ne dwa]
            exact S5.dd
          · rw [upd_ne (Ne.symm wfo)]
            exact S5.fr
          · rw [upd_ne (Ne.symm wme)]
            exact S5.md
        generalize upd H6 wa (.lst (wl1.map V.int)) = H7 at S6 ⊢
        refine ⟨_, rfl, fo, rfl, ⟨_, SqL.of S6.fr⟩, for_list (K := K) (a := fo) (xs := fs.map fun x => V.ref x.1) (fun i σ H' => ∃ (kvs2 mk2 : List (Key × V)) (l2 ml2 wl2 : List Int) (v7 : Option V), σ = [some (.ref d), some (.ref tr), some (.int m), some (.ref wa), some (.ref fo), some (.ref me), some (.int x), v7, v8] ∧ SpI C H4 d wa fo me o ts m l fs H' kvs2 mk2 l2 ml2 wl2 ∧
            (∀ a ∈ l2, a = x ∨ a ∈ wl2 ∨ ∀ e ∈ ts.take m, e.s = a → e.t ∈ l2) ∧ (∀ j y, j < i → fs[j]? = some y → y.2.s = x → y.2.t ∈ l2) ∧ 2 * (5 - ml2.length) + wl2.length ≤ 2 * (5 - ml'.length) + wl1.length)
          ⟨kvs', mk', l', ml', wl1, v7, rfl, S6, fun a ha => ?_, fun j y hj => absurd hj (Nat.not_lt_zero j), Nat.le_refl _⟩ (fun i σ H' _ ⟨_, _, _, _, _, _, _, S, _⟩ => SqL.of S.fr) ?_ ?_⟩
        · rcases dn a ha with z | z
          · rcases List.mem_append.mp z with z | z
            · exact .inr (.inl z)
            · exact .inl (List.mem_singleton.mp z)
          · exact .inr (.inr z)
        · rintro i y σ H8 hi ⟨kvs2, mk2, l2, ml2, wl2, v7', rfl, S8, dn8, ad8, sz8⟩
          rw [List.getElem?_map] at hi
          cases hx : fs[i]? with
          | none => rw [hx] at hi; cases hi
          | some f =>
          rw [hx] at hi
          have ey := (Option.some.inj hi).symm
          subst ey
          obtain ⟨hft, mv, b, dx, hins⟩ := insX S8 (List.mem_of_getElem? hx)
          refine ⟨_, rfl, f.1, C, dx, _, _, rfl, hins, T.cls, T.n_source, trF_source _ _ _ _, _, rfl, _, _, rfl, rfl, _, rfl, ?_⟩
          refine ite2 (fun hsa => ?_) (fun hsa => ?_)
          · have hsa : f.2.s = x := of_decide_eq_true hsa
            have hto : f.2.t ∈ o := htgt _ (List.mem_of_mem_take hft)
            have hkl2 := S8.ki.len
            have hl2 : l2.length ≤ 5 := Nat.le_trans (insL_len S8.nd S8.sub) hol
            refine ⟨_, rfl, _, rfl, _, rfl, f.1, C, dx, _, _, rfl, hins, T.cls, T.n_target, trF_target _ _ _ _, d, _, rfl, DPut.k (k := Sum.inl f.2.t) S8.dd (by omega), ?_⟩
            have hins9 : upd H8 d (.dK (putK kvs2 (Sum.inl f.2.t) (.int m))) f.1 = some (.ins C dx (trF mv f.2.s f.2.t b)) := by
              rw [upd_ne (ne_of hins S8.dd (by intro z; cases z))]
              exact hins
            have mono : ∀ {a : Int}, a ∈ l2 → a ∈ insL l2 f.2.t := fun {a} h => mem_insL.mpr (.inl h)
            have tin : f.2.t ∈ insL l2 f.2.t := mem_insL.mpr (.inr rfl)
            have S9 : SpI C H4 d wa fo me o ts m l fs (upd H8 d (.dK (putK kvs2 (Sum.inl f.2.t) (.int m)))) (putK kvs2 (Sum.inl f.2.t) (.int m)) mk2 (insL l2 f.2.t) ml2 wl2 := by
              refine ⟨fun b u e h1 h2 h3 => ?_, upd_same, S8.ki.put _ _, insL_nodup S8.nd _, fun a ha => ?_, fun a ha => mono (S8.old a ha), ?_, S8.wsz, ?_, ?_, S8.mi, S8.mn, fun a ha => mono (S8.ms a ha)⟩
              · rw [upd_ne h1]
                exact S8.kept b u e h1 h2 h3
              · rcases mem_insL.mp ha with z | z
                · exact S8.sub a z
                · rw [z]; exact hto
              · show upd H8 d _ wa = _
                rw [upd_ne (Ne.symm dwa)]
                exact S8.wt
              · rw [upd_ne (Ne.symm dfo)]
                exact S8.fr
              · rw [upd_ne (Ne.symm dme)]
                exact S8.md
            generalize upd H8 d (.dK (putK kvs2 (Sum.inl f.2.t) (.int m))) = H9 at S9 hins9 ⊢
            have hms := S9.mi.isSome f.2.t
            refine ⟨_, rfl, f.1, C, dx, _, _, rfl, hins9, T.cls, T.n_target, trF_target _ _ _ _, _, rfl, me, _, rfl, DGet.k (k := Sum.inl f.2.t) S9.md, _, by rw [hms], ?_⟩
            have ad9 : ∀ {l3 : List Int}, (∀ a ∈ insL l2 f.2.t, a ∈ l3) → ∀ j y, j < i + 1 → fs[j]? = some y → y.2.s = x → y.2.t ∈ l3 := fun {l3} hh j y hj hy hs => by
              rcases Nat.lt_succ_iff_lt_or_eq.mp hj with hj | hj
              · exact hh _ (mono (ad8 j y hj hy hs))
              · rw [hj, hx] at hy
                rw [← Option.some.inj hy]
                exact hh _ tin
            refine ite2 (fun hnm => ?_) (fun hnm => ?_)
            · have hnm : f.2.t ∉ ml2 := fun z => by
                rw [decide_eq_true z] at hnm
                cases hnm
              have hml : (insL ml2 f.2.t).length ≤ 5 := Nat.le_trans (nodup_len (insL_nodup S9.mn _) fun a ha => by
                rcases mem_insL.mp ha with z | z
                · exact S9.sub a (S9.ms a z)
                · rw [z]; exact hto) hol
              have hmle : (insL ml2 f.2.t).length = ml2.length + 1 := by
                unfold insL
                rw [if_neg hnm, List.length_append, List.length_singleton]
              have hmk := S9.mi.len
              refine ⟨_, rfl, _, rfl, f.1, C, dx, _, _, rfl, hins9, T.cls, T.n_target, trF_target _ _ _ _, me, _, rfl, DPut.k (k := Sum.inl f.2.t) S9.md (by omega), ?_⟩
              have hins10 : upd H9 me (.dK (putK mk2 (Sum.inl f.2.t) (.bl true))) f.1 = some (.ins C dx (trF mv f.2.s f.2.t b)) := by
                rw [upd_ne (ne_of hins9 S9.md (by intro z; cases z))]
                exact hins9
              have hw10 : upd H9 me (.dK (putK mk2 (Sum.inl f.2.t) (.bl true))) wa = some (.lst (wl2.map V.int)) := by
                rw [upd_ne wme]
                exact S9.wt
              have hwz := S9.wsz
              refine ⟨_, rfl, .inl ⟨rfl, _, SqL.of hw10⟩, _, rfl, f.1, C, dx, _, _, rfl, hins10, T.cls, T.n_target, trF_target _ _ _ _, wa, _, _, rfl, rfl, hw10, by rw [List.length_map]; omega, ?_⟩
              refine ⟨_, putK mk2 (Sum.inl f.2.t) (.bl true), _, insL ml2 f.2.t, wl2 ++ [f.2.t], _, rfl, ⟨fun b u e h1 h2 h3 => ?_, ?_, S9.ki, S9.nd, S9.sub, S9.old, ?_, ?_, ?_, ?_, S9.mi.put _ _, insL_nodup S9.mn _, fun a ha => ?_⟩, fun a ha => ?_, ad9 (fun a h => h), ?_⟩
              · rw [upd_ne h2, upd_ne h3]
                exact S9.kept b u e h1 h2 h3
              · rw [upd_ne dwa, upd_ne dme]
                exact S9.dd
              · show upd _ wa _ wa = _
                rw [upd_same, List.map_append]
                rfl
              · rw [hmle, List.length_append, List.length_singleton]
                omega
              · rw [upd_ne (Ne.symm wfo), upd_ne fme]
                exact S9.fr
              · rw [upd_ne (Ne.symm wme), upd_same]
              · rcases mem_insL.mp ha with z | z
                · exact S9.ms a z
                · rw [z]; exact tin
              · rcases mem_insL.mp ha with z | z
                · rcases dn8 a z with h | h | h
                  · exact .inl h
                  · exact .inr (.inl (List.mem_append_left _ h))
                  · exact .inr (.inr fun e he hs => mono (h e he hs))
                · exact .inr (.inl (List.mem_append_right _ (List.mem_singleton.mpr z)))
              · rw [hmle, List.length_append, List.length_singleton]
                omega
            · have hm2 : f.2.t ∈ ml2 := by
                by_cases z : f.2.t ∈ ml2
                · exact z
                · rw [decide_eq_false z] at hnm
                  exact absurd rfl hnm
              have h0 : insL l2 f.2.t = l2 := by
                unfold insL
                rw [if_pos (S8.ms _ hm2)]
              rw [h0] at S9
              refine ⟨_, _, _, ml2, wl2, _, rfl, S9, dn8, ad9 (fun a h => by rw [h0] at h; exact h), sz8⟩
          · have hsa : ¬ f.2.s = x := fun z => hsa (decide_eq_true z)
            refine ⟨_, _, _, _, _, _, rfl, S8, dn8, fun j y hj hy hs => ?_, sz8⟩
            rcases Nat.lt_succ_iff_lt_or_eq.mp hj with hj | hj
            · exact ad8 j y hj hy hs
            · rw [hj, hx] at hy
              rw [← Option.some.inj hy] at hs
              exact absurd hs hsa
        · rintro σ H8 ⟨kvs2, mk2, l2, ml2, wl2, v7', rfl, S8, dn8, ad8, sz8⟩
          rw [List.length_map] at ad8
          refine ⟨_, ?_, kvs2, mk2, l2, ml2, wl2, _, _, _, rfl, S8, fun a ha => ?_, rfl⟩
          · omega
          · rcases dn8 a ha with h | h
            · refine .inr fun e he hs => ?_
              obtain ⟨z, hz, ez⟩ := fAll e he
              obtain ⟨j, hj, ej⟩ := mem_iff_get.mp hz
              have := ad8 j z hj ej (by rw [ez, hs, h])
              rw [ez] at this
              exact this
            · exact h
/-! ### dirty -/
theorem dirt_next {first : List Int} {ts : List Tr} {evs : List Ev} {i : Nat} {ev : Ev} {l' : List Int} (hev : evs[i]? = some ev) (h0 : ∀ a, Dirt first ts evs i a → ev ≠ .vis a → a ∈ l') (hc : ∀ e ∈ ts.take (i + 1), e.s ∈ l' → e.t ∈ l') :
    ∀ a, Dirt first ts evs (i + 1) a → a ∈ l' := fun a D => by
  generalize hk : i + 1 = k at D
  induction D with
  | init _ => cases hk
  | @step k a ev' D1 he hn ih =>
    have hk' : i = k := Nat.succ.inj hk
    subst hk'
    rw [hev] at he
    rw [← Option.some.inj he] at hn
    exact h0 a D1 hn
  | @car k e D1 he ih =>
    have hk' : i = k := Nat.succ.inj hk
    subst hk'
    exact hc e he (ih rfl)
def spDirty : Sp := fun vs H Q _ => ∃ (c ev : Addr) (o first : List Int) (ts : List Tr) (ks : List Bool) (us : List Int), vs = [.ref c, .ref ev] ∧ IL H c first ∧ EvsAt H ev (evsOf ts ks us) ∧ ks.length = ts.length ∧ Net o ts first ∧ us.length ≤ 1000 ∧
  ∀ (H' : Hp) (p : Addr) (l : List Int), Same H H' → IL H' p l → (∀ a, Dirt first ts (evsOf ts ks us) (evsOf ts ks us).length a → a ∈ l) → Q (.ref p) H'
theorem sc_dirty : FnScope ["first", "events", "transfers", "dates", "at", "event", "one", "area"] ["first", "events"] (defScope s_dirty) := ⟨rfl, rfl, rfl, by decide +kernel, rfl, by decide +kernel, by decide +kernel⟩
theorem cal_dirty (D : Dd K mg "dirty" s_dirty) (T : Txt K mg C) (c1 : Cal P w K mg base 8 "transfers_of" (spTrOf C) []) (c2 : Cal P w K mg base 4 "spread" (spSpr C) []) : Cal P w K mg base 10 "dirty" spDirty [] := by
  refine D.cal (k := 9) sc_dirty (fun vs H Q E h => ?_) (fun _ _ _ _ _ _ us hl => match us, hl with | [_, _], _ => rfl) (fun f cdv A outer s H vs Q E hr h => ?_)
  · obtain ⟨c, ev, o, first, ts, ks, us, rfl, _⟩ := h
    rfl
  · obtain ⟨c, ev, o, first, ts, ks, us, rfl, hc, hev, hkl, N, hus, q⟩ := h
    have nd := sc_dirty.nd
    obtain ⟨tn, hnever⟩ := T.never
    refine ⟨_, pss_cons (ps_set (i := 2) nd rfl (Or.inl rfl) (pe_c c1 hr (by decide) rfl (pa_cons (pv 0) (pa_cons (pv 1) pa_nil))))
      (pss_cons (ps_setDc (i := 3) (own := [("area", 7)]) rfl nd rfl rfl (sw_dc rfl rfl rfl (by decide +kernel)) (pi_list (pv 0)) (blkOk_by (by kernel_rfl)) (fun _ _ _ _ _ => pg_name (i := 7) nd rfl (Or.inl rfl)) (fun _ _ _ _ _ => pts_nil)
          (fun _ _ _ _ _ => pv 7) (fun _ _ _ _ _ => pe_glob (v := .int (-1)) rfl hnever ⟨_, rfl⟩))
      (pss_cons (ps_for PassesOwn.never rfl (pi_enum rfl T.f_enumerate (pa_cons (pv 1) pa_nil)) (pg_tup rfl (pgs_cons (pg_name (i := 4) nd rfl (Or.inl rfl)) (pgs_cons (pg_name (i := 5) nd rfl (Or.inl rfl)) pgs_nil)))
        (pss_cons (ps_if (pt_cmpR op_eq (pe_ix ix_tup (pv 5) pe_int (fun _ _ => rfl)) pe_str (nomark _)) (pss_one (ps_expr (pe_dpop2 (pv 3) (pe_ix ix_tup (pv 5) pe_int (fun _ _ => rfl)) pe_non ⟨rfl, rfl, rfl, rfl⟩)))
            (pss_one (ps_if (pt_cmpR op_eq (pe_ix ix_tup (pv 5) pe_int (fun _ _ => rfl)) pe_str (nomark _)) pss_never pss_nil)))
        (pss_one (ps_expr (pe_c c2 hr (by decide) rfl (pa_cons (pv 3) (pa_cons (pv 2) (pa_cons (pe_op op_add (pv 4) pe_int) pa_nil))))))))
      (pss_one (ps_ret (pe_callB (call_sortedDI rfl) rfl T.f_sorted bo_sorted (pa_cons (pv 3) pa_nil)))))), ?_⟩
    refine ⟨_, rfl, _, rfl, c, ev, first, ts, ks, us, rfl, hc, N.f_nd, Nat.lt_of_le_of_lt (Nat.le_trans (nodup_len N.f_nd N.f_in) N.o_len) (by decide), hev, hkl, N.t_nd, N.t_len, N.ne, fun H1 tr s1 htr R1 => ?_⟩
    have hfl : first.length ≤ 5 := Nat.le_trans (nodup_len N.f_nd N.f_in) N.o_len
    have big : (20000 : Nat) < sizeLine := by decide
    have hc1 := hc.same s1
    have hev1 := hev.same s1
    refine ⟨_, rfl, c, rfl, ⟨_, SqL.of hc1⟩, fun d hd => dc_same (walk_list (xs := first.map V.int)) first (first.map fun _ => V.int (-1)) (by rw [List.length_map]) (by rw [List.length_map, List.length_map]) N.f_nd hd (by rw [List.length_map]; omega) (fun H' s => SqL.of (s _ _ hc1)) ?_ ?_⟩
    · rintro i x H2 H3 k u R Z hi hk hu sm y hR
      obtain ⟨rfl, hx⟩ := y
      rw [List.getElem?_map, hk] at hx
      rw [List.getElem?_map, hk] at hu
      have hx' := (Option.some.inj hx).symm
      have hu' := (Option.some.inj hu).symm
      subst hx' hu'
      exact ⟨rfl, tyes ⟨_, rfl, hR _ (Same.refl _)⟩⟩
    · intro H2 s2 hd2
      have hd0 : H1 d = none := hd
      have htr2 := R1.same s2
      have s12 := s1.trans s2
      have hHd : H d = none := s1.free hd0
      obtain ⟨ps, p1, p2, p3⟩ := id (hev1.same s2)
      have kI := ki_dKz (ks := first) (vs := first.map fun _ => V.int (-1)) (by rw [List.length_map])
      have dtr : d ≠ tr := fun z => by
        obtain ⟨qs, g1, _⟩ := R1
        rw [← z, hd0] at g1
        cases g1
      have trX : ∀ {H' : Hp}, Same H1 H' → TrD C H' tr ts ks := fun {H'} s => R1.same s
      have evX : ∀ {H' : Hp}, Same H1 H' → EvsAt H' ev (evsOf ts ks us) := fun {H'} s => hev1.same s
      obtain ⟨ps, p1, p2, p3⟩ := id hev1
      refine ⟨_, rfl, ev, _, rfl, SqL.of (s2 _ _ p1), for_it (walk_enum (xs := ps.map V.ref)) (fun i σ H' => Same H1 H' ∧ ∃ (v4 v5 v6 v7 : Option V) (kvs : List (Key × V)) (l : List Int), σ = [some (.ref c), some (.ref ev), some (.ref tr), some (.ref d), v4, v5, v6, v7] ∧ H' d = some (.dK kvs) ∧ KI kvs l ∧ l.Nodup ∧ (∀ a ∈ l, a ∈ o) ∧ ∀ a, Dirt first ts (evsOf ts ks us) i a → a ∈ l)
        ⟨s2, none, none, none, none, _, first, rfl, hd2, kI, N.f_nd, N.f_in, fun a D => ?_⟩ (fun i σ H' _ p => SqL.of (p.1 _ _ p1)) ?_ ?_⟩
      · generalize hk : 0 = k at D
        cases D with
        | init h => exact h
        | step _ _ _ => cases hk
        | car _ _ => cases hk
      · rintro i x σ H3 H4 hi ⟨s3, v4, v5, v6, v7, kvs, l, rfl, hd3, ki, ln, ls, lD⟩ ⟨T1, x1, x2, rfl, hT1, rfl, e1, e2⟩
        have e1' := Option.some.inj e1
        obtain ⟨pe, hpe, rfl⟩ := get_ref e2
        obtain ⟨eve, heve⟩ := get_same_len p2 hpe
        subst e1'
        refine ⟨T1, _, rfl, SqT.of upd_same, rfl, _, _, rfl, _, _, rfl, rfl, ?_⟩
        have s5 : Same H3 (upd H3 T1 (.tup [.int (i : Nat), .ref pe])) := same_new hT1
        generalize upd H3 T1 (.tup [.int (i : Nat), .ref pe]) = H5 at s5 ⊢
        have s15 := s3.trans s5
        have hpe5 : EvAt H5 pe eve := s15 _ _ (p3 i pe eve hpe heve)
        have hd5 := s5 _ _ hd3
        -- behind the event
        have fin : ∀ (H6 : Hp) (kvs6 : List (Key × V)) (l6 : List Int), Same H1 H6 → H6 d = some (.dK kvs6) → KI kvs6 l6 → l6.Nodup → (∀ a ∈ l6, a ∈ o) → (∀ a, Dirt first ts (evsOf ts ks us) i a → eve ≠ .vis a → a ∈ l6) →
            spSpr C [.ref d, .ref tr, .int ((i : Int) + 1)] H6 (fun _ H7 => Same H1 H7 ∧ ∃ (v4 v5 v6' v7' : Option V) (kvs : List (Key × V)) (l : List Int), [some (.ref c), some (.ref ev), some (.ref tr), some (.ref d), some (.int (i : Nat)), some (.ref pe), v6, v7] = [some (.ref c), some (.ref ev), some (.ref tr), some (.ref d), v4, v5, v6', v7'] ∧ H7 d = some (.dK kvs) ∧ KI kvs l ∧ l.Nodup ∧ (∀ a ∈ l, a ∈ o) ∧ ∀ a, Dirt first ts (evsOf ts ks us) (i + 1) a → a ∈ l) C8.E0 := fun H6 kvs6 l6 s6 hd6 k6 n6 o6 D6 => by
          refine ⟨d, tr, i + 1, kvs6, l6, o, ts, ks, rfl, hd6, k6, n6, o6, dtr, trX s6, hkl, N.t_nd, N.t_len, N.tgt, N.o_len, fun H7 kvs7 l7 k7 hd7 ki7 n7 o7 m7 c7 => ?_⟩
          refine ⟨fun b u e => ?_, _, _, _, _, kvs7, l7, rfl, hd7, ki7, n7, o7, dirt_next heve (fun a D hne => m7 a (D6 a D hne)) c7⟩
          exact k7 b u (s6 _ _ e) fun z => by rw [z, hd0] at e; cases e
        rcases evs_cases hkl heve with ⟨e, mv, hte, rfl⟩ | ⟨_, v, _, rfl⟩
        · refine ⟨_, rfl, pe, _, _, _, rfl, rfl, SqT.of hpe5, ev_0 _, rfl, false, by show V.bl (decide (V.str "begin" = V.str "visit")) = _; rw [decide_eq_false (by decide +kernel)], iteF ?_⟩
          refine ⟨_, rfl, pe, _, _, _, rfl, rfl, SqT.of hpe5, ev_0 _, rfl, false, by show V.bl (decide (V.str "begin" = V.str "end")) = _; rw [decide_eq_false (by decide +kernel)], iteF ?_⟩
          refine ⟨_, rfl, _, rfl, _, rfl, _, _, rfl, rfl, ?_⟩
          exact fin H5 kvs l s15 hd5 ki ln ls fun a D _ => lD a D
        · refine ⟨_, rfl, pe, _, _, _, rfl, rfl, SqT.of hpe5, ev_0 _, rfl, true, by show V.bl (decide (V.str "visit" = V.str "visit")) = _; rw [dec_self], iteT ?_⟩
          have hs := ki.isSome v
          refine ⟨_, rfl, d, rfl, .inl ⟨kvs, .inl hd5⟩, _, rfl, pe, _, _, _, rfl, rfl, SqT.of hpe5, atI_nat (j := 1) rfl, kvs, Sum.inl v, hd5, rfl, fun u hu => ?_, fun hn => ?_⟩
          · refine ⟨_, rfl, _, rfl, _, rfl, _, _, rfl, rfl, ?_⟩
            refine fin _ _ (l.filter fun a => decide (a ≠ v)) (same_upd s15 hd0) upd_same (ki.drop v) (ln.filter _) (fun a ha => ls a (List.mem_filter.mp ha).1) fun a D hne => ?_
            exact List.mem_filter.mpr ⟨lD a D, decide_eq_true fun z => hne (by rw [z])⟩
          · refine ⟨_, rfl, _, rfl, _, rfl, _, _, rfl, rfl, ?_⟩
            exact fin H5 kvs l s15 hd5 ki ln ls fun a D _ => lD a D
      · rintro σ H3 ⟨s3, v4, v5, v6, v7, kvs, l, rfl, hd3, ki, ln, ls, lD⟩
        rw [List.length_map, p2] at lD
        have hl : l.length ≤ 5 := Nat.le_trans (nodup_len ln ls) N.o_len
        refine ⟨_, rfl, d, kvs, l, rfl, .inl hd3, ki, by omega, fun ys p perm rising hp => ?_⟩
        exact q _ p ys (s1.trans (s3.trans (same_new hp))) upd_same fun a D => perm.mem_iff.mpr (lD a D)
end
end B58
set_option Elab.async false
set_option linter.all false
set_option maxRecDepth 100000
set_option maxHeartbeats 4000000
/-! The walks: are_steps, stays_of, is_journey. -/
namespace B58
open PySem PySem.Spec PyProof.Rows PySem.Calls L2 C8
/-! ### ways and stays as lists of tuples -/
def WyAt (H : Hp) (b : Addr) (wy : List (Tr × Nat)) : Prop := ∃ ps : List Addr, H b = some (.lst (ps.map V.ref)) ∧ ps.length = wy.length ∧ ∀ (i : Nat) (p : Addr) (x : Tr × Nat), ps[i]? = some p → wy[i]? = some x → H p = some (.tup [.int x.1.n, .int (x.2 : Nat)])
theorem WyAt.same {H H' : Hp} {b : Addr} {wy : List (Tr × Nat)} (h : WyAt H b wy) (s : Same H H') : WyAt H' b wy := by
  obtain ⟨ps, h1, h2, h3⟩ := h
  exact ⟨ps, s _ _ h1, h2, fun i p x a b => s _ _ (h3 i p x a b)⟩
def StysR (H : Hp) (ps : List Addr) (l : List (Int × Int × Int)) : Prop := ps.length = l.length ∧ ∀ (i : Nat) (p : Addr) (x : Int × Int × Int), ps[i]? = some p → l[i]? = some x → H p = some (.tup [.int x.1, .int x.2.1, .int x.2.2])
def StysAt (H : Hp) (b : Addr) (l : List (Int × Int × Int)) : Prop := ∃ ps : List Addr, H b = some (.lst (ps.map V.ref)) ∧ StysR H ps l
theorem StysR.keep {H H' : Hp} {ps : List Addr} {l : List (Int × Int × Int)} (h : StysR H ps l) (k : TupKeep H H') : StysR H' ps l := ⟨h.1, fun i p a e1 e2 => k _ _ (h.2 i p a e1 e2)⟩
theorem StysAt.same {H H' : Hp} {b : Addr} {l : List (Int × Int × Int)} (h : StysAt H b l) (s : Same H H') : StysAt H' b l := let ⟨ps, h1, h2⟩ := h; ⟨ps, s _ _ h1, h2.keep (same_tups s)⟩
theorem StysR.snoc {H : Hp} {ps : List Addr} {l : List (Int × Int × Int)} (h : StysR H ps l) {q : Addr} {x : Int × Int × Int} (hq : H q = some (.tup [.int x.1, .int x.2.1, .int x.2.2])) : StysR H (ps ++ [q]) (l ++ [x]) := by
  refine ⟨by rw [List.length_append, List.length_append, h.1]; rfl, fun i p y e1 e2 => ?_⟩
  rcases Nat.lt_or_ge i ps.length with hi | hi
  · rw [List.getElem?_append_left hi] at e1
    rw [List.getElem?_append_left (by rw [← h.1]; exact hi)] at e2
    exact h.2 i p y e1 e2
  · rw [List.getElem?_append_right hi] at e1
    rw [List.getElem?_append_right (by rw [← h.1]; exact hi), ← h.1] at e2
    have h0 : i - ps.length = 0 := by
      rcases Nat.eq_zero_or_pos (i - ps.length) with z | z
      · exact z
      · rw [List.getElem?_eq_none (by simp only [List.length_singleton]; omega)] at e1
        cases e1
    rw [h0] at e1 e2
    have e1' : q = p := Option.some.inj e1
    have e2' : x = y := Option.some.inj e2
    rw [← e1', ← e2']
    exact hq
theorem all_blF {n : Nat} {ys : List (Option V)} (hl : ys.length = n) (h : ∀ (i : Nat) (y : Option V), ys[i]? = some y → y = some (.bl false)) : ys.filterMap id = (List.replicate n false).map V.bl := by
  have e : ys = List.replicate n (some (.bl false)) := List.eq_replicate_iff.mpr ⟨hl, fun y hy => by
    obtain ⟨i, hi, e⟩ := List.mem_iff_getElem.mp hy
    exact h i y (by rw [List.getElem?_eq_getElem hi, e])⟩
  rw [e]
  clear e h hl
  induction n with
  | zero => rfl
  | succ n ih =>
    rw [List.replicate_succ, List.replicate_succ, List.filterMap_cons, ih]
    rfl
theorem any_false : ∀ n : Nat, (List.replicate n false).any id = false
  | 0 => rfl
  | n + 1 => by rw [List.replicate_succ, List.any_cons, any_false n]; rfl
theorem sinceOf_le : ∀ {s : Int} {wy : List (Tr × Nat)} {M : Int}, s ≤ M → (∀ x ∈ wy, (x.2 : Int) ≤ M) → sinceOf s wy ≤ M
  | _, [], _, h, _ => h
  | _, x :: wy, _, _, h => sinceOf_le (wy := wy) (h x List.mem_cons_self) fun y hy => h y (List.mem_cons_of_mem _ hy)
theorem nodup_nums_sub {ts : List Tr} {wy : List (Tr × Nat)} (hn : (nums (wy.map Prod.fst)).Nodup) (hm : ∀ x ∈ wy, x.1 ∈ ts) : wy.length ≤ ts.length := by
  have : (nums (wy.map Prod.fst)).length ≤ (nums ts).length := nodup_len hn fun x hx => by
    unfold nums at hx
    rw [List.map_map] at hx
    obtain ⟨y, hy, rfl⟩ := List.mem_map.mp hx
    exact List.mem_map.mpr ⟨y.1, hm y hy, rfl⟩
  unfold nums at this
  rw [List.length_map, List.length_map, List.length_map] at this
  exact this
section
variable {P : Program} {w : World} {K : PySem.W.Frag} {mg : Str → Option Value} {base : Heap} {C : Addr}
/-! ### are_steps -/
def spSteps (C : Addr) : Sp := fun vs H Q _ => ∃ (va tr : Addr) (M : Int) (wy : List (Tr × Nat)) (ts : List Tr) (ks : List Bool), vs = [.ref va, .ref tr, .int M] ∧ WyAt H va wy ∧ TrD C H tr ts ks ∧ ks.length = ts.length ∧ (nums ts).Nodup ∧ ts.length ≤ 5 ∧ (∀ x ∈ wy, x.1 ∈ ts ∧ ts.length ≤ x.2 ∧ (x.2 : Int) ≤ M) ∧ (nums (wy.map Prod.fst)).Nodup ∧
  ∀ H', Same H H' → Q (.bl true) H'
theorem sc_are_steps : FnScope ["value", "transfers", "many", "pair", "number", "gap"] ["value", "transfers", "many"] (defScope s_are_steps) := ⟨rfl, rfl, rfl, by decide +kernel, rfl, by decide +kernel, by decide +kernel⟩
theorem cal_are_steps (D : Dd K mg "are_steps" s_are_steps) (T : Txt K mg C) (c1 : Cal P w K mg base 2 "is_integer" spInt []) (mt : Met P w K mg base 2 C "last_gap" (spGap C) []) : Cal P w K mg base 4 "are_steps" (spSteps C) [] := by
  refine D.cal (k := 3) sc_are_steps (fun vs H Q E h => ?_) (fun _ _ _ _ _ _ us hl => match us, hl with | [_, _, _], _ => rfl) (fun f cdv A outer s H vs Q E hr h => ?_)
  · obtain ⟨va, tr, M, wy, ts, ks, rfl, _⟩ := h
    rfl
  · obtain ⟨va, tr, M, wy, ts, ks, rfl, hwy, htr, hkl, tnd, tl, hall, hwn, q⟩ := h
    have nd := sc_are_steps.nd
    have hu := hu_of hr
    refine ⟨_, pss_cons (ps_if (PW.pt (pw_or (pt_not (pt_val (pe_callB call_isi rfl T.f_isinstance bo_isinstance (pa_cons (pv 0) (pa_cons (pe_bltn (v := .ty "list") rfl T.f_list bo_list rfl) pa_nil)))))
        (pw_or1 (pt_not (pt_val (pe_callB (cr_all rfl) rfl T.f_all bo_all (pa_cons (pe_lc (own := [("pair", 3)]) rfl nd (pi_list (pv 0)) (blkOk_by (by kernel_rfl)) (fun _ _ _ _ _ => pg_name (i := 3) nd rfl (Or.inl rfl)) (fun _ _ _ _ _ => pts_nil)
          (fun _ _ _ _ _ => pe_and (pe_callB (call_isi : CallR _ _ (rIsi K)) rfl T.f_isinstance bo_isinstance (pa_cons (pv 3) (pa_cons (pe_bltn (v := .ty "tuple") rfl T.f_tuple bo_tuple rfl) pa_nil))) (pe_one (pe_cmp (pc_eqI (pe_callB (call_len_seq : CallR _ _ (fun xs H Q => ∃ p ys, xs = [.ref p] ∧ (SqL K H p ys ∨ SqT K H p ys) ∧ Q (.int ys.length) H)) rfl T.f_len bo_len (pa_cons (pv 3) pa_nil)) pe_int))))) pa_nil))))))) (pss_one (ps_ret pe_bl)) pss_nil)
      (pss_cons (ps_if (pt_not (pt_val (pe_callB (cr_all rfl) rfl T.f_all bo_all (pa_cons (pe_lc (own := [("number", 4), ("gap", 5)]) rfl nd (pi_list (pv 0)) (blkOk_by (by kernel_rfl)) (fun _ _ _ _ _ => (pg_tup rfl (pgs_cons (pg_name (i := 4) nd rfl (Or.inl rfl)) (pgs_cons (pg_name (i := 5) nd rfl (Or.inl rfl)) pgs_nil)) : PG _ _ (gTup K 2 _))) (fun _ _ _ _ _ => pts_nil)
          (fun _ _ _ _ _ => pe_and (pe_c c1 hr (by decide) rfl (pa_cons (pv 4) pa_nil)) (pe_and (pe_c c1 hr (by decide) rfl (pa_cons (pv 5) pa_nil)) (pe_one (pe_cmp (pc_din hu (pv 4) (pv 1))))))) pa_nil)))) (pss_one (ps_ret pe_bl)) pss_nil)
      (pss_cons (ps_if (pt_cmp (pc_neI (pe_callB cr_lenSetL rfl T.f_len bo_len (pa_cons (pe_scI (own := [("number", 4), ("gap", 5)]) rfl nd (pi_list (pv 0)) (blkOk_by (by kernel_rfl)) (fun _ _ _ _ _ => (pg_tup rfl (pgs_cons (pg_name (i := 4) nd rfl (Or.inl rfl)) (pgs_cons (pg_name (i := 5) nd rfl (Or.inl rfl)) pgs_nil)) : PG _ _ (gTup K 2 _))) (fun _ _ _ _ _ => pts_nil)
          (fun _ _ _ _ _ => pv 4)) pa_nil)) (pe_callB call_len_seq rfl T.f_len bo_len (pa_cons (pv 0) pa_nil)))) (pss_one (ps_ret pe_bl)) pss_nil)
      (pss_one (ps_ret (pe_callB (cr_all rfl) rfl T.f_all bo_all (pa_cons (pe_lc (own := [("number", 4), ("gap", 5)]) rfl nd (pi_list (pv 0)) (blkOk_by (by kernel_rfl)) (fun _ _ _ _ _ => (pg_tup rfl (pgs_cons (pg_name (i := 4) nd rfl (Or.inl rfl)) (pgs_cons (pg_name (i := 5) nd rfl (Or.inl rfl)) pgs_nil)) : PG _ _ (gTup K 2 _))) (fun _ _ _ _ _ => pts_nil)
          (fun _ _ _ _ _ => pe_chain op_lt op_le (pe_fld (pe_dget hu (pv 1) (pv 4) (fun _ _ => rfl)) rfl : PE _ _ (tFld K _ _)) (pv 5) (pe_mt mt hr (by decide) (pe_dget hu (pv 1) (pv 4) (fun _ _ => rfl)) (pa_cons (pv 2) pa_nil)))) pa_nil)))))), ?_⟩
    obtain ⟨ps, p1, p2, p3⟩ := id hwy
    have hwl := nodup_nums_sub hwn fun x hx => (hall x hx).1
    have big : (300 : Nat) ≤ sizeLine := by decide
    have hz : (ps.map V.ref).length ≤ sizeLine := by
      rw [List.length_map, p2]
      omega
    refine ⟨_, rfl, .ref va, .ty "list", _, _, true, rfl, .ty _, .base (.lst p1), isi_list (K := K), true, rfl, iteF ?_⟩
    refine ⟨_, rfl, va, rfl, ⟨_, SqL.of p1⟩, fun B hB => lc_same (walk_list (xs := ps.map V.ref)) (fun _ y _ => y = some (.bl true)) (fun _ _ _ _ _ e => e) hB hz (fun H' s => SqL.of (s _ _ p1)) ?_ ?_⟩
    · intro i x H' H'' R hi sm y hR
      obtain ⟨rfl, hx⟩ := y
      obtain ⟨p, hp, rfl⟩ := get_ref hx
      obtain ⟨e, he⟩ := get_same_len p2 hp
      have hp1 := sm _ _ (p3 i p e hp he)
      exact ⟨rfl, tyes ⟨_, rfl, .ref p, .ty "tuple", _, _, true, rfl, .ty _, .base (.tup hp1), isi_tuple (K := K), true, rfl, iteT ⟨_, rfl, p, _, rfl, .inr (SqT.of hp1), _, _, rfl, rfl, hR _ _ rfl (Same.refl _)⟩⟩⟩
    · intro ys H1 s1 hB1 hl hr'
      rw [all_bl hl hr'] at hB1
      refine ⟨B, _, rfl, SqL.of hB1, true, by rw [all_true], iteF ?_⟩
      have p1' := s1 _ _ p1
      have htr1 := htr.same s1
      refine ⟨_, rfl, va, rfl, ⟨_, SqL.of p1'⟩, fun B2 hB2 => lc_same (walk_list (xs := ps.map V.ref)) (fun _ y _ => y = some (.bl true)) (fun _ _ _ _ _ e => e) hB2 hz (fun H' s => SqL.of (s _ _ p1')) ?_ ?_⟩
      · intro i x H' H'' R hi sm y hR
        obtain ⟨rfl, hx⟩ := y
        obtain ⟨p, hp, rfl⟩ := get_ref hx
        obtain ⟨e, he⟩ := get_same_len p2 hp
        have hp1 := sm _ _ (s1 _ _ (p3 i p e hp he))
        obtain ⟨g1, g2, g3⟩ := hall e (List.mem_of_getElem? he)
        obtain ⟨pi, j, mv, hj, hm, ⟨dx, hins⟩, hget⟩ := (htr1.same sm).get hkl tnd g1
        refine ⟨p, _, rfl, SqT.of hp1, rfl, _, _, rfl, _, _, rfl, rfl, rfl, tyes ?_⟩
        exact ⟨_, rfl, _, rfl, true, rfl, iteT ⟨_, rfl, _, rfl, true, rfl, iteT ⟨_, rfl, _, rfl, tr, _, rfl, hget, hR _ _ rfl (Same.refl _)⟩⟩⟩
      · intro ys2 H2 s2 hB2' hl2 hr2
        rw [all_bl hl2 hr2] at hB2'
        refine ⟨B2, _, rfl, SqL.of hB2', true, by rw [all_true], iteF ?_⟩
        have p1'' := s2 _ _ p1'
        refine ⟨_, rfl, va, rfl, ⟨_, SqL.of p1''⟩, fun B3 hB3 => sc_same (w := w) (walk_list (xs := ps.map V.ref)) (nOf (wy.map Prod.fst)) hB3 (fun H' s => SqL.of (s _ _ p1'')) (fun l ln hm => ?_) ?_ ?_⟩
        · have : l.length ≤ (nums (wy.map Prod.fst)).length := nodup_len ln fun x hx => by
            obtain ⟨j, hj, e⟩ := hm x hx
            rw [List.length_map, p2] at hj
            exact nOf_mem.mp ⟨j, by rw [List.length_map]; exact hj, e⟩
          unfold nums at this
          rw [List.length_map, List.length_map] at this
          show l.length + 1 < 4096
          omega
        · intro i x H' H'' R Z hi sm y hR
          obtain ⟨rfl, hx⟩ := y
          obtain ⟨p, hp, rfl⟩ := get_ref hx
          obtain ⟨e, he⟩ := get_same_len p2 hp
          have hp1 := sm _ _ (s2 _ _ (s1 _ _ (p3 i p e hp he)))
          refine ⟨p, _, rfl, SqT.of hp1, rfl, _, _, rfl, _, _, rfl, rfl, rfl, tyes ⟨_, rfl, ?_⟩⟩
          have := hR _ (Same.refl _)
          rw [nOf_get (i := i) (e := e.1) (by rw [List.getElem?_map, he]; rfl)] at this
          exact this
        · intro l H3 s3 hl3 ln hm
          have p1''' := s3 _ _ p1''
          refine ⟨B3, l, rfl, hl3, _, rfl, va, _, rfl, .inl (SqL.of p1'''), _, _, rfl, rfl, ?_⟩
          have hlen : l.length = wy.length := by
            have hp : l.Perm (nums (wy.map Prod.fst)) := perm_of_mem ln hwn fun x => by
              rw [hm, List.length_map, p2, ← nOf_mem, List.length_map]
            rw [hp.length_eq]
            unfold nums
            rw [List.length_map, List.length_map]
          refine ⟨false, ?_, iteF ?_⟩
          · show V.bl (!decide ((l.length : Int) = ((ps.map V.ref).length : Int))) = _
            rw [List.length_map, p2, hlen, dec_self]
            rfl
          have s13 := s1.trans (s2.trans s3)
          have htr3 := htr.same s13
          refine ⟨_, rfl, va, rfl, ⟨_, SqL.of p1'''⟩, fun B4 hB4 => lc_same (walk_list (xs := ps.map V.ref)) (fun _ y _ => y = some (.bl true)) (fun _ _ _ _ _ e => e) hB4 hz (fun H' s => SqL.of (s _ _ p1''')) ?_ ?_⟩
          · intro i x H' H'' R hi sm y hR
            obtain ⟨rfl, hx⟩ := y
            obtain ⟨p, hp, rfl⟩ := get_ref hx
            obtain ⟨e, he⟩ := get_same_len p2 hp
            have hp1 := sm _ _ (s13 _ _ (p3 i p e hp he))
            obtain ⟨g1, g2, g3⟩ := hall e (List.mem_of_getElem? he)
            obtain ⟨pi, j, mv, hj, hm', ⟨dx, hins⟩, hget⟩ := (htr3.same sm).get hkl tnd g1
            have hjl : j < ts.length := (List.getElem?_eq_some_iff.mp hj).1
            refine ⟨p, _, rfl, SqT.of hp1, rfl, _, _, rfl, _, _, rfl, rfl, rfl, tyes ?_⟩
            refine ⟨_, rfl, _, rfl, tr, _, rfl, hget, pi, C, dx, _, _, rfl, hins, T.cls, T.n_began, trF_began _ _ _ _, _, rfl, _, _, rfl, rfl, true, ?_, iteT ?_⟩
            · show V.bl (decide ((j : Int) < (e.2 : Int))) = _
              rw [decide_eq_true (by omega)]
            refine ⟨_, rfl, _, rfl, tr, _, rfl, hget, pi, dx, _, rfl, hins, trF_no _ _ _ _ (by decide +kernel) (by decide +kernel) (by decide +kernel) (by decide +kernel) (by decide +kernel), _, rfl, pi, e.1, mv, j, M, rfl, ⟨dx, hins⟩, _, _, rfl, rfl, ?_⟩
            refine hR _ _ ?_ (Same.refl _)
            show some (V.bl (decide ((e.2 : Int) ≤ M))) = _
            rw [decide_eq_true g3]
          · intro ys4 H4 s4 hB4' hl4 hr4
            rw [all_bl hl4 hr4] at hB4'
            refine ⟨B4, _, rfl, SqL.of hB4', ?_⟩
            rw [all_true]
            exact q H4 (s13.trans s4)
end
end B58
set_option Elab.async false
set_option linter.all false
set_option maxRecDepth 100000
set_option maxHeartbeats 4000000
/-! The walks: stays_of, is_journey. -/
namespace B58
open PySem PySem.Spec PyProof.Rows PySem.Calls L2 C8
section
variable {P : Program} {w : World} {K : PySem.W.Frag} {mg : Str → Option Value} {base : Heap} {C : Addr}
def spStays (C : Addr) : Sp := fun vs H Q _ => ∃ (va tr : Addr) (p g M : Int) (wy : List (Tr × Nat)) (ts : List Tr) (ks : List Bool), vs = [.ref va, .ref tr, .int p, .int M] ∧ WyAt H va wy ∧ TrD C H tr ts ks ∧ ks.length = ts.length ∧ (nums ts).Nodup ∧ Path ts g (wy.map Prod.fst) p ∧ (wy.Pairwise fun x y => x.2 ≤ y.2) ∧ wy.length ≤ 5 ∧
  ∀ (H' : Hp) (b : Addr), Same H H' → StysAt H' b (stys (-1) wy p M) → Q (.ref b) H'
theorem sc_stays_of : FnScope ["value", "transfers", "area", "many", "found", "here", "since", "number", "gap", "one"] ["value", "transfers", "area", "many"] (defScope s_stays_of) := ⟨rfl, rfl, rfl, by decide +kernel, rfl, by decide +kernel, by decide +kernel⟩
theorem stys_len : ∀ (s : Int) (wy : List (Tr × Nat)) (a M : Int), (stys s wy a M).length = wy.length + 1
  | _, [], _, _ => rfl
  | _, x :: wy, a, M => by
    show (stys x.2 wy a M).length + 1 = _
    rw [stys_len]
    rfl
theorem cal_stays_of (D : Dd K mg "stays_of" s_stays_of) (T : Txt K mg C) : Cal P w K mg base 2 "stays_of" (spStays C) [] := by
  refine D.cal (k := 1) sc_stays_of (fun vs H Q E h => ?_) (fun _ _ _ _ _ _ us hl => match us, hl with | [_, _, _, _], _ => rfl) (fun f cdv A outer s H vs Q E hr h => ?_)
  · obtain ⟨va, tr, p, g, M, wy, ts, ks, rfl, _⟩ := h
    rfl
  · obtain ⟨va, tr, p, g, M, wy, ts, ks, rfl, hwy, htr, hkl, tnd, hpath, hpw, hwl, q⟩ := h
    have nd := sc_stays_of.nd
    have hu := hu_of hr
    obtain ⟨tn, hnever⟩ := T.never
    refine ⟨_, pss_cons (ps_par3 (i := 4) (j := 5) (l := 6) rfl nd rfl rfl rfl (by decide) (by decide) (by decide) rfl rfl rfl (pa_cons (pe_lst pa_nil) (pa_cons pe_non (pa_cons (pe_glob (v := .int (-1)) rfl hnever ⟨_, rfl⟩) pa_nil))) rfl)
      (pss_cons (ps_for PassesOwn.never rfl (pi_list (pv 0)) (pg_tup rfl (pgs_cons (pg_name (i := 7) nd rfl (Or.inl rfl)) (pgs_cons (pg_name (i := 8) nd rfl (Or.inl rfl)) pgs_nil)))
        (pss_cons (ps_set (i := 9) nd rfl (Or.inl rfl) (pe_dget hu (pv 1) (pv 7) (fun _ _ => rfl)))
        (pss_cons (ps_if (PW.pt (pw_or (pt_cmp (pc_lt (pv 8) (pv 6))) (pw_or1 (PW.pt (pw_and (pt_cmp (pc_notN (pv 5))) (pw_and1 (pt_cmp (pc_neI (pv 5) (pe_fld (pv 9) rfl))))))))) (pss_one (ps_ret pe_non)) pss_nil)
        (pss_cons (ps_expr (pe_bm PySem.F.plainAttrs_list PySem.F.slot_list_append PySem.F.type_list_append mt_append (pv 4) (pa_cons (pe_tup (pa_cons (pe_fld (pv 9) rfl) (pa_cons (pv 6) (pa_cons (pv 8) pa_nil)))) pa_nil)))
        (pss_one (ps_par (i := 5) (j := 6) rfl nd rfl rfl (by decide) rfl rfl (pa_cons (pe_fld (pv 9) rfl) (pa_cons (pv 8) pa_nil)) rfl))))))
      (pss_cons (ps_if (PW.pt (pw_and (pt_cmp (pc_notN (pv 5))) (pw_and1 (pt_cmp (pc_neI (pv 5) (pv 2)))))) (pss_one (ps_ret pe_non)) pss_nil)
      (pss_one (ps_ret (pe_op op_cat (pv 4) (pe_lst (pa_cons (pe_tup (pa_cons (pv 2) (pa_cons (pv 6) (pa_cons (pe_op op_add (pv 3) pe_int) pa_nil)))) pa_nil))))))), ?_⟩
    obtain ⟨ps, p1, p2, p3⟩ := id hwy
    have big : (300 : Nat) ≤ sizeLine := by decide
    refine ⟨Nat.zero_le _, fun fa hfa => ⟨_, _, _, rfl, ?_⟩⟩
    have s1 : Same H (upd H fa (.lst [])) := same_new hfa
    have hfa1 : upd H fa (.lst []) fa = some (.lst []) := upd_same
    generalize upd H fa (.lst []) = H1 at s1 hfa1 ⊢
    have hHf : H fa = none := hfa
    have nfv : va ≠ fa := ne_of_none p1 hfa
    refine ⟨_, rfl, va, rfl, ⟨_, SqL.of (s1 _ _ p1)⟩, for_list (K := K) (a := va) (xs := ps.map V.ref) (fun i σ H' => Same H H' ∧ ∃ (fs : List Addr) (hv : V) (a : Int) (v7 v8 v9 : Option V), σ = [some (.ref va), some (.ref tr), some (.int p), some (.int M), some (.ref fa), some hv, some (.int (sinceOf (-1) (wy.take i))), v7, v8, v9] ∧
        H' fa = some (.lst (fs.map V.ref)) ∧ StysR H' fs (stys (-1) (wy.take i) 0 0).dropLast ∧ (hv = .non ∨ hv = .int a) ∧ Path ts a ((wy.drop i).map Prod.fst) p)
      ⟨s1, [], .non, g, none, none, none, rfl, hfa1, ⟨rfl, fun i q x e => by simp at e⟩, .inl rfl, hpath⟩ (fun i σ H' _ pz => SqL.of (pz.1 _ _ p1)) ?_ ?_⟩
    · rintro i y σ H2 hi ⟨s2, fs, hv, a, v7, v8, v9, rfl, hf2, R, hhv, hpa⟩
      obtain ⟨pp, hp, rfl⟩ := get_ref hi
      obtain ⟨x, hx⟩ := get_same_len p2 hp
      have hp2 := s2 _ _ (p3 i pp x hp hx)
      have hil : i < wy.length := (List.getElem?_eq_some_iff.mp hx).1
      have hdr : wy.drop i = x :: wy.drop (i + 1) := by
        rw [List.drop_eq_getElem_cons hil]
        congr 1
        exact (List.getElem?_eq_some_iff.mp hx).2
      have htk : wy.take (i + 1) = wy.take i ++ [x] := by
        rw [List.take_add_one, hx]
        rfl
      rw [hdr, List.map_cons] at hpa
      obtain ⟨h1, h2, h3⟩ := hpa
      obtain ⟨pi, j, mv, hj, hm, ⟨dx, hins⟩, hget⟩ := (htr.same s2).get hkl tnd h1
      have hle : sinceOf (-1) (wy.take i) ≤ (x.2 : Int) := sinceOf_le (by omega) fun y hy => by
        obtain ⟨k, hk, ek⟩ := mem_iff_get.mp hy
        have hk' : k < i := by
          have := (List.getElem?_eq_some_iff.mp ek).1
          rw [List.length_take] at this
          omega
        rw [List.getElem?_take, if_pos hk'] at ek
        have e1 := (List.getElem?_eq_some_iff.mp ek).2
        have e2 := (List.getElem?_eq_some_iff.mp hx).2
        have := List.pairwise_iff_getElem.mp hpw k i (by omega) hil hk'
        rw [e1, e2] at this
        omega
      refine ⟨pp, _, rfl, SqT.of hp2, rfl, _, _, rfl, _, _, rfl, rfl, ?_⟩
      refine ⟨_, rfl, _, rfl, tr, _, rfl, hget, ?_⟩
      refine ⟨_, rfl, _, rfl, _, _, rfl, rfl, false, ?_, iteF ?_⟩
      · show V.bl (decide ((x.2 : Int) < sinceOf (-1) (wy.take i))) = _
        rw [decide_eq_false (by omega)]
      have hne : V.bl (!decide (a = x.1.s)) = .bl false := by
        rw [h2, dec_self]
        rfl
      rcases hhv with rfl | rfl
      · refine ⟨_, rfl, false, rfl, iteF (iteF ?_)⟩
        refine ⟨_, rfl, .inl ⟨rfl, _, SqL.of hf2⟩, _, rfl, pi, C, dx, _, _, rfl, hins, T.cls, T.n_source, trF_source _ _ _ _, _, rfl, _, rfl, (by show 3 ≤ sizeLine; decide), fun q1 hq1 => ?_⟩
        have s3 : Same H2 (upd H2 q1 (.tup [.int x.1.s, .int (sinceOf (-1) (wy.take i)), .int (x.2 : Nat)])) := same_new hq1
        have hq1' : upd H2 q1 (.tup [.int x.1.s, .int (sinceOf (-1) (wy.take i)), .int (x.2 : Nat)]) q1 = some (.tup [.int x.1.s, .int (sinceOf (-1) (wy.take i)), .int (x.2 : Nat)]) := upd_same
        generalize upd H2 q1 (.tup [.int x.1.s, .int (sinceOf (-1) (wy.take i)), .int (x.2 : Nat)]) = H3 at s3 hq1' ⊢
        have hf3 := s3 _ _ hf2
        have tk : TupKeep H3 (upd H3 fa (.lst (fs.map V.ref ++ [V.ref q1]))) := tupKeep_upd hf3 fun xs z => by cases z
        have hins3 : upd H3 fa (.lst (fs.map V.ref ++ [V.ref q1])) pi = some (.ins C dx (trF mv x.1.s x.1.t j)) := by
          rw [upd_ne (ne_of (s3 _ _ hins) hf3 (by intro z; cases z))]
          exact s3 _ _ hins
        have hfl : fs.length ≤ 5 := by
          rw [R.1, List.length_dropLast, stys_len, List.length_take]
          omega
        refine ⟨fa, _, _, rfl, rfl, hf3, by rw [List.length_map]; omega, ?_⟩
        refine ⟨_, rfl, pi, C, dx, _, _, rfl, hins3, T.cls, T.n_target, trF_target _ _ _ _, _, rfl, _, _, rfl, ?_⟩
        refine ⟨same_upd (s2.trans s3) hHf, fs ++ [q1], .int x.1.t, x.1.t, some (.int x.1.n), some (.int (x.2 : Nat)), some (.ref pi), ?_, ?_, ?_, .inr rfl, h3⟩
        · rw [htk, sinceOf_snoc]
          rfl
        · rw [upd_same, List.map_append]
          rfl
        · rw [htk, stys_snoc]
          have e1 : ((stys (-1) (wy.take i) 0 0).dropLast ++ [(x.1.s, sinceOf (-1) (wy.take i), (x.2 : Int)), ((0 : Int), (x.2 : Int), (0 : Int) + 1)]).dropLast = (stys (-1) (wy.take i) 0 0).dropLast ++ [(x.1.s, sinceOf (-1) (wy.take i), (x.2 : Int))] := by
            rw [List.dropLast_append_of_ne_nil (by intro z; cases z)]
            rfl
          rw [e1]
          exact ((R.keep (same_tups s3)).snoc hq1').keep tk
      · refine ⟨_, rfl, true, rfl, iteT ⟨_, rfl, _, rfl, pi, C, dx, _, _, rfl, hins, T.cls, T.n_source, trF_source _ _ _ _, _, _, rfl, rfl, false, hne, iteF ?_⟩⟩
        refine ⟨_, rfl, .inl ⟨rfl, _, SqL.of hf2⟩, _, rfl, pi, C, dx, _, _, rfl, hins, T.cls, T.n_source, trF_source _ _ _ _, _, rfl, _, rfl, (by show 3 ≤ sizeLine; decide), fun q1 hq1 => ?_⟩
        have s3 : Same H2 (upd H2 q1 (.tup [.int x.1.s, .int (sinceOf (-1) (wy.take i)), .int (x.2 : Nat)])) := same_new hq1
        have hq1' : upd H2 q1 (.tup [.int x.1.s, .int (sinceOf (-1) (wy.take i)), .int (x.2 : Nat)]) q1 = some (.tup [.int x.1.s, .int (sinceOf (-1) (wy.take i)), .int (x.2 : Nat)]) := upd_same
        generalize upd H2 q1 (.tup [.int x.1.s, .int (sinceOf (-1) (wy.take i)), .int (x.2 : Nat)]) = H3 at s3 hq1' ⊢
        have hf3 := s3 _ _ hf2
        have tk : TupKeep H3 (upd H3 fa (.lst (fs.map V.ref ++ [V.ref q1]))) := tupKeep_upd hf3 fun xs z => by cases z
        have hins3 : upd H3 fa (.lst (fs.map V.ref ++ [V.ref q1])) pi = some (.ins C dx (trF mv x.1.s x.1.t j)) := by
          rw [upd_ne (ne_of (s3 _ _ hins) hf3 (by intro z; cases z))]
          exact s3 _ _ hins
        have hfl : fs.length ≤ 5 := by
          rw [R.1, List.length_dropLast, stys_len, List.length_take]
          omega
        refine ⟨fa, _, _, rfl, rfl, hf3, by rw [List.length_map]; omega, ?_⟩
        refine ⟨_, rfl, pi, C, dx, _, _, rfl, hins3, T.cls, T.n_target, trF_target _ _ _ _, _, rfl, _, _, rfl, ?_⟩
        refine ⟨same_upd (s2.trans s3) hHf, fs ++ [q1], .int x.1.t, x.1.t, some (.int x.1.n), some (.int (x.2 : Nat)), some (.ref pi), ?_, ?_, ?_, .inr rfl, h3⟩
        · rw [htk, sinceOf_snoc]
          rfl
        · rw [upd_same, List.map_append]
          rfl
        · rw [htk, stys_snoc]
          have e1 : ((stys (-1) (wy.take i) 0 0).dropLast ++ [(x.1.s, sinceOf (-1) (wy.take i), (x.2 : Int)), ((0 : Int), (x.2 : Int), (0 : Int) + 1)]).dropLast = (stys (-1) (wy.take i) 0 0).dropLast ++ [(x.1.s, sinceOf (-1) (wy.take i), (x.2 : Int))] := by
            rw [List.dropLast_append_of_ne_nil (by intro z; cases z)]
            rfl
          rw [e1]
          exact ((R.keep (same_tups s3)).snoc hq1').keep tk
    · rintro σ H2 ⟨s2, fs, hv, a, v7, v8, v9, rfl, hf2, R, hhv, hpa⟩
      rw [List.length_map, p2, List.drop_length] at hpa
      rw [List.length_map, p2, List.take_length] at R
      have hne : V.bl (!decide (a = p)) = .bl false := by
        rw [show a = p from hpa, dec_self]
        rfl
      have hfl : fs.length = wy.length := by
        rw [R.1, List.length_dropLast, stys_len]
        rfl
      have esn : sinceOf (-1) (wy.take (ps.map V.ref).length) = sinceOf (-1) wy := by rw [List.length_map, p2, List.take_length]
      rcases hhv with rfl | rfl
      · refine ⟨_, rfl, false, rfl, iteF (iteF ?_)⟩
        refine ⟨_, rfl, _, rfl, _, rfl, _, rfl, _, _, rfl, rfl, (by show 3 ≤ sizeLine; decide), fun q1 hq1 => ⟨(by show 1 ≤ sizeLine; decide), fun l1 hl1 => ?_⟩⟩
        have s3 := (same_new (o := .tup [.int p, .int (sinceOf (-1) (wy.take (ps.map V.ref).length)), .int (M + 1)]) hq1).trans (same_new (o := .lst [.ref q1]) hl1)
        have hq1' := same_new (o := .lst [.ref q1]) hl1 _ _ (upd_same (H := H2) (a := q1) (o := .tup [.int p, .int (sinceOf (-1) (wy.take (ps.map V.ref).length)), .int (M + 1)]))
        have hl1' : upd (upd H2 q1 (.tup [.int p, .int (sinceOf (-1) (wy.take (ps.map V.ref).length)), .int (M + 1)])) l1 (.lst [.ref q1]) l1 = some (.lst [.ref q1]) := upd_same
        refine ⟨fa, l1, _, _, rfl, rfl, s3 _ _ hf2, hl1', by rw [List.length_map, List.length_singleton]; omega, fun r hr => ?_⟩
        have s4 := s3.trans (same_new (o := .lst (fs.map V.ref ++ [.ref q1])) hr)
        refine q _ r (s2.trans s4) ⟨fs ++ [q1], by rw [upd_same, List.map_append]; rfl, ?_⟩
        rw [stys_last, stys_drop (-1) wy p M 0 0]
        refine (R.keep (same_tups s4)).snoc ?_
        have := same_new (o := .lst (fs.map V.ref ++ [.ref q1])) hr _ _ hq1'
        rw [esn] at this
        rw [esn]
        exact this
      · refine ⟨_, rfl, true, rfl, iteT ⟨_, rfl, _, rfl, _, _, rfl, rfl, false, hne, iteF ?_⟩⟩
        refine ⟨_, rfl, _, rfl, _, rfl, _, rfl, _, _, rfl, rfl, (by show 3 ≤ sizeLine; decide), fun q1 hq1 => ⟨(by show 1 ≤ sizeLine; decide), fun l1 hl1 => ?_⟩⟩
        have s3 := (same_new (o := .tup [.int p, .int (sinceOf (-1) (wy.take (ps.map V.ref).length)), .int (M + 1)]) hq1).trans (same_new (o := .lst [.ref q1]) hl1)
        have hq1' := same_new (o := .lst [.ref q1]) hl1 _ _ (upd_same (H := H2) (a := q1) (o := .tup [.int p, .int (sinceOf (-1) (wy.take (ps.map V.ref).length)), .int (M + 1)]))
        have hl1' : upd (upd H2 q1 (.tup [.int p, .int (sinceOf (-1) (wy.take (ps.map V.ref).length)), .int (M + 1)])) l1 (.lst [.ref q1]) l1 = some (.lst [.ref q1]) := upd_same
        refine ⟨fa, l1, _, _, rfl, rfl, s3 _ _ hf2, hl1', by rw [List.length_map, List.length_singleton]; omega, fun r hr => ?_⟩
        have s4 := s3.trans (same_new (o := .lst (fs.map V.ref ++ [.ref q1])) hr)
        refine q _ r (s2.trans s4) ⟨fs ++ [q1], by rw [upd_same, List.map_append]; rfl, ?_⟩
        rw [stys_last, stys_drop (-1) wy p M 0 0]
        refine (R.keep (same_tups s4)).snoc ?_
        have := same_new (o := .lst (fs.map V.ref ++ [.ref q1])) hr _ _ hq1'
        rw [esn] at this
        rw [esn]
        exact this
end
end B58
set_option Elab.async false
set_option linter.all false
set_option maxRecDepth 100000
set_option maxHeartbeats 4000000
/-! The walks: is_journey. -/
namespace B58
open PySem PySem.Spec PyProof.Rows PySem.Calls L2 C8
/-- what is never reached -/
def tNo : TE := fun _ _ _ => False
theorem pe_no {X : Cx} {e : Expr} : PE X e tNo := ⟨fun _ _ _ _ _ _ h => h.elim⟩
theorem stys_head {ts : List Tr} {g p M : Int} : ∀ {wy : List (Tr × Nat)}, Path ts g (wy.map Prod.fst) p → ∃ s u r, stys (-1) wy p M = (g, s, u) :: r
  | [], h => ⟨_, _, _, by rw [show g = p from h]; rfl⟩
  | x :: wy, h => ⟨_, _, _, by rw [← h.2.1]; rfl⟩
section
variable {P : Program} {w : World} {K : PySem.W.Frag} {mg : Str → Option Value} {base : Heap} {C : Addr}
def spJour : Sp := fun vs H Q _ => ∃ (c ev va : Addr) (p g : Int) (o first : List Int) (ts : List Tr) (ks : List Bool) (us : List Int) (wy : List (Tr × Nat)), vs = [.ref c, .ref ev, .int p, .ref va] ∧ IL H c first ∧ EvsAt H ev (evsOf ts ks us) ∧ ks.length = ts.length ∧ Net o ts first ∧ us.length ≤ 1000 ∧ WyAt H va wy ∧ Jr ts g us wy p ∧ (nums (wy.map Prod.fst)).Nodup ∧ g ∈ first ∧
  ∀ H', Same H H' → Q (.bl true) H'
theorem path_all {ts : List Tr} : ∀ {es : List Tr} {a b : Int}, Path ts a es b → ∀ e ∈ es, e ∈ ts
  | [], _, _, _, _, h => nomatch h
  | _ :: _, _, _, h, e, he => (List.mem_cons.mp he).elim (fun z => z ▸ h.1) fun z => path_all h.2.2 e z
theorem sc_is_journey : FnScope ["first", "events", "area", "value", "transfers", "stays", "at", "event", "used", "idle", "here", "since", "until", "number", "gap", "one"] ["first", "events", "area", "value"] (defScope s_is_journey) := ⟨rfl, rfl, rfl, by decide +kernel, rfl, by decide +kernel, by decide +kernel⟩
theorem cal_is_journey (D : Dd K mg "is_journey" s_is_journey) (T : Txt K mg C) (c1 : Cal P w K mg base 8 "transfers_of" (spTrOf C) []) (c2 : Cal P w K mg base 2 "is_integer" spInt []) (c3 : Cal P w K mg base 4 "are_steps" (spSteps C) []) (c4 : Cal P w K mg base 2 "stays_of" (spStays C) []) : Cal P w K mg base 10 "is_journey" spJour [] := by
  refine D.cal (k := 9) sc_is_journey (fun vs H Q E h => ?_) (fun _ _ _ _ _ _ us hl => match us, hl with | [_, _, _, _], _ => rfl) (fun f cdv A outer s H vs Q E hr h => ?_)
  · obtain ⟨c, ev, va, p, g, o, first, ts, ks, us, wy, rfl, _⟩ := h
    rfl
  · obtain ⟨c, ev, va, p, g, o, first, ts, ks, us, wy, rfl, hc, hev, hkl, N, hus, hwy, J, hwn, hg, q⟩ := h
    have nd := sc_is_journey.nd
    have hu := hu_of hr
    refine ⟨_, pss_cons (ps_set (i := 4) nd rfl (Or.inl rfl) (pe_c c1 hr (by decide) rfl (pa_cons (pv 0) (pa_cons (pv 1) pa_nil))))
      (pss_cons (ps_if (PW.pt (pw_or (pt_not (pt_val (pe_c c2 hr (by decide) rfl (pa_cons (pv 2) pa_nil)))) (pw_or1 (pt_not (pt_val (pe_c c3 hr (by decide) rfl (pa_cons (pv 3) (pa_cons (pv 4) (pa_cons (pe_callB call_len_seq rfl T.f_len bo_len (pa_cons (pv 1) pa_nil)) pa_nil))))))))) (pss_one (ps_ret pe_bl)) pss_nil)
      (pss_cons (ps_set (i := 5) nd rfl (Or.inr rfl) (pe_c c4 hr (by decide) rfl (pa_cons (pv 3) (pa_cons (pv 4) (pa_cons (pv 2) (pa_cons (pe_callB call_len_seq rfl T.f_len bo_len (pa_cons (pv 1) pa_nil)) pa_nil))))))
      (pss_cons (ps_if (PW.pt (pw_or (pt_cmp (pc_isN (pv 5))) (pw_or1 (pt_cmpR op_notIn_seq (pe_ix ix_tup (pe_ix ix_list (pv 5) pe_int (fun _ _ => rfl)) pe_int (fun _ _ => rfl)) (pv 0) rfl)))) (pss_one (ps_ret pe_bl)) pss_nil)
      (pss_cons (ps_for PassesOwn.never rfl (pi_enum rfl T.f_enumerate (pa_cons (pv 1) pa_nil)) (pg_tup rfl (pgs_cons (pg_name (i := 6) nd rfl (Or.inr rfl)) (pgs_cons (pg_name (i := 7) nd rfl (Or.inr rfl)) pgs_nil)))
        (pss_one (ps_if (PW.pt (pw_and (pt_cmpR op_eq (pe_ix ix_tup (pv 7) pe_int (fun _ _ => rfl)) pe_str (nomark _)) (pw_and1 (pt_val (pe_callB (cr_any rfl) rfl T.f_any bo_any (pa_cons (pe_lc (own := [("here", 10), ("since", 11), ("until", 12)]) rfl nd (pi_list (pv 5)) (blkOk_by (by kernel_rfl))
            (fun _ _ _ _ _ => (pg_tup rfl (pgs_cons (pg_name (i := 10) nd rfl (Or.inl rfl)) (pgs_cons (pg_name (i := 11) nd rfl (Or.inl rfl)) (pgs_cons (pg_name (i := 12) nd rfl (Or.inl rfl)) pgs_nil))) : PG _ _ (gTup K 3 _))) (fun _ _ _ _ _ => pts_nil)
            (fun _ _ _ _ _ => pe_and (pe_cmp (pc_eqI (pe_ix (ix_tup : IxR _ (rIxT K)) (pv 7) pe_int (fun _ _ => rfl)) (pv 10))) (pe_one (pe_chain op_le op_lt (pv 11) (pv 6) (pv 12))))) pa_nil)))))) (pss_one (ps_ret pe_bl)) pss_nil)))
      (pss_cons (ps_set (i := 8) nd rfl (Or.inr rfl) (pe_scI (own := [("number", 13), ("gap", 14)]) rfl nd (pi_list (pv 3)) (blkOk_by (by kernel_rfl)) (fun _ _ _ _ _ => (pg_tup rfl (pgs_cons (pg_name (i := 13) nd rfl (Or.inl rfl)) (pgs_cons (pg_name (i := 14) nd rfl (Or.inl rfl)) pgs_nil)) : PG _ _ (gTup K 2 _))) (fun _ _ _ _ _ => pts_nil)
          (fun _ _ _ _ _ => pv 13)))
      (pss_cons (ps_lock (ps_setLc (i := 9) (own := [("number", 13), ("one", 15)]) rfl nd rfl rfl (sw_true rfl rfl rfl (by decide +kernel)) (pi_items (pv 4)) (blkOk_by (by kernel_rfl)) (fun _ _ _ _ _ => (pg_tup rfl (pgs_cons (pg_name (i := 13) nd rfl (Or.inl rfl)) (pgs_cons (pg_name (i := 15) nd rfl (Or.inl rfl)) pgs_nil)) : PG _ _ (gTup K 2 _)))
          (fun _ _ _ _ _ => pts_one (PW.pt (pw_and (pt_cmpR (or_snotin : OpR _ _ (rSNotIn w)) (pv 13) (pv 8) rfl) (pw_and1 (pt_cmpR op_eq (pe_fld (pv 15) rfl : PE _ _ (tFld K _ _)) pe_str (nomark _)))))) (fun _ _ _ _ _ => pv 15)))
      (pss_one (ps_ret (pe_callB (cr_all rfl) rfl T.f_all bo_all (pa_cons (pe_lc (own := [("one", 15)]) rfl nd (pi_list (pv 9)) (blkOk_by (by kernel_rfl)) (fun _ _ _ _ _ => pg_name (i := 15) nd rfl (Or.inl rfl))
          (fun _ _ _ _ _ => pts_one (pt_cmp (pc_notN (pe_fld (pv 15) rfl : PE _ _ (tFld K _ _))))) (fun _ _ _ _ _ => pe_no)) pa_nil)))))))))), ?_⟩
    refine ⟨_, rfl, _, rfl, c, ev, first, ts, ks, us, rfl, hc, N.f_nd, Nat.lt_of_le_of_lt N.f_len (by decide), hev, hkl, N.t_nd, N.t_len, N.ne, fun H1 tr s1 htr R1 => ?_⟩
    have hc1 := hc.same s1
    have hev1 := hev.same s1
    have hwy1 := hwy.same s1
    obtain ⟨ps, p1, p2, p3⟩ := id hev1
    have hlen : (ps.map V.ref).length = ts.length + us.length := by rw [List.length_map, p2, evsOf_length hkl]
    have wyt : ∀ x ∈ wy, x.1 ∈ ts := fun x hx => path_all J.path _ (List.mem_map.mpr ⟨x, hx, rfl⟩)
    have hwl : wy.length ≤ 5 := Nat.le_trans (nodup_nums_sub hwn wyt) N.t_len
    have big : (20000 : Nat) < sizeLine := by decide
    have tl := N.t_len
    refine ⟨_, rfl, p, rfl, true, rfl, iteF ?_⟩
    refine ⟨_, rfl, _, rfl, _, rfl, ev, _, rfl, .inl (SqL.of p1), va, tr, _, wy, ts, ks, rfl, hwy1, R1, hkl, N.t_nd, N.t_len, fun x hx => ⟨wyt x hx, (J.gap x hx).1, ?_⟩, hwn, fun H2 s2 => ⟨true, rfl, iteF ?_⟩⟩
    · have := (J.gap x hx).2
      rw [hlen]
      omega
    have p12 := s2 _ _ p1
    refine ⟨_, rfl, _, rfl, _, rfl, _, rfl, ev, _, rfl, .inl (SqL.of p12), va, tr, p, g, _, wy, ts, ks, rfl, hwy1.same s2, R1.same s2, hkl, N.t_nd, J.path, J.pw, hwl, fun H3 b s3 hb => ?_⟩
    rw [hlen] at hb
    have s13 := s2.trans s3
    obtain ⟨qs, q1, q2, q3⟩ := id hb
    obtain ⟨s0, u0, r0, hst⟩ := stys_head (M := ((ts.length + us.length : Nat) : Int)) J.path
    have hq0 : ∃ x0, qs[0]? = some x0 := by
      cases hqs : qs with
      | nil => rw [hqs, hst] at q2; cases q2
      | cons x0 _ => exact ⟨x0, rfl⟩
    obtain ⟨x0, hx0⟩ := hq0
    have hx0' := q3 0 x0 (g, s0, u0) hx0 (by rw [hst]; rfl)
    refine ⟨_, rfl, false, by show V.bl (decide (V.ref b = V.non)) = _; rw [decide_eq_false (by intro z; cases z)], iteF ?_⟩
    refine ⟨_, rfl, b, _, _, _, rfl, rfl, SqL.of q1, atI_nat (j := 0) (v := V.ref x0) (by rw [List.getElem?_map, hx0]; rfl), x0, _, _, _, rfl, rfl, SqT.of hx0', atI_nat (j := 0) rfl, _, rfl, c, _, rfl, .inl (SqL.of (s13 _ _ hc1)), rfl, flat_ints first, ?_⟩
    rw [if_pos rfl]
    refine ⟨false, ?_, iteF ?_⟩
    · show V.bl (!inV (.int g) (first.map V.int)) = _
      rw [inV_int, decide_eq_true hg]
      rfl
    have R3 := R1.same s13
    have hwy3 := hwy1.same s13
    have p13 := s13 _ _ p1
    have sH3 := s1.trans s13
    refine ⟨_, rfl, ev, _, rfl, SqL.of p13, for_it (walk_enum (xs := ps.map V.ref)) (fun i σ H' => Same H3 H' ∧ ∃ (v6 v7 v8 v9 v10 v11 v12 v13 v14 v15 : Option V), σ = [some (.ref c), some (.ref ev), some (.int p), some (.ref va), some (.ref tr), some (.ref b), v6, v7, v8, v9, v10, v11, v12, v13, v14, v15])
      ⟨Same.refl _, none, none, none, none, none, none, none, none, none, none, rfl⟩ (fun i σ H' _ pz => SqL.of (pz.1 _ _ p13)) ?_ ?_⟩
    · rintro i x σ H4 H5 hi ⟨s4, v6, v7, v8, v9, v10, v11, v12, v13, v14, v15, rfl⟩ ⟨T1, x1, x2, rfl, hT1, rfl, e1, e2⟩
      have e1' := Option.some.inj e1
      obtain ⟨pe, hpe, rfl⟩ := get_ref e2
      obtain ⟨eve, heve⟩ := get_same_len p2 hpe
      subst e1'
      refine ⟨T1, _, rfl, SqT.of upd_same, rfl, _, _, rfl, _, _, rfl, rfl, ?_⟩
      have s5 := s4.trans (same_new (o := .tup [.int (i : Nat), .ref pe]) hT1)
      generalize upd H4 T1 (.tup [.int (i : Nat), .ref pe]) = H5 at s5 ⊢
      have hpe5 : EvAt H5 pe eve := s5 _ _ (s13 _ _ (p3 i pe eve hpe heve))
      rcases evs_cases hkl heve with ⟨e, mv, hte, rfl⟩ | ⟨hge, v, hv, rfl⟩
      · refine ⟨_, rfl, pe, _, _, _, rfl, rfl, SqT.of hpe5, ev_0 _, rfl, false, by show V.bl (decide (V.str "begin" = V.str "visit")) = _; rw [decide_eq_false (by decide +kernel)], iteF (iteF ?_)⟩
        exact ⟨s5, _, _, _, _, _, _, _, _, _, _, rfl⟩
      · refine ⟨_, rfl, pe, _, _, _, rfl, rfl, SqT.of hpe5, ev_0 _, rfl, true, by show V.bl (decide (V.str "visit" = V.str "visit")) = _; rw [dec_self], iteT ?_⟩
        have q15 := s5 _ _ q1
        have hqz : (qs.map V.ref).length ≤ sizeLine := by
          rw [List.length_map, q2, stys_len]
          omega
        refine ⟨_, rfl, b, rfl, ⟨_, SqL.of q15⟩, fun B hB => lc_same (walk_list (xs := qs.map V.ref)) (fun _ y _ => y = some (.bl false)) (fun _ _ _ _ _ e => e) hB hqz (fun H' s => SqL.of (s _ _ q15)) ?_ ?_⟩
        · intro j z H6 H7 R hj sm y hR
          obtain ⟨rfl, hz⟩ := y
          obtain ⟨qj, hqj, rfl⟩ := get_ref hz
          obtain ⟨st, hst'⟩ := get_same_len q2 hqj
          have hq7 := sm _ _ (s5 _ _ (q3 j qj st hqj hst'))
          have hpe7 : EvAt H7 pe (.vis v) := sm _ _ hpe5
          have free := J.free st (List.mem_of_getElem? hst') _ v hv
          have hk : ts.length + (i - ts.length) = i := by omega
          rw [hk] at free
          refine ⟨qj, _, rfl, SqT.of hq7, rfl, _, _, rfl, _, _, rfl, _, _, rfl, rfl, rfl, tyes ?_⟩
          refine ⟨_, rfl, pe, _, _, _, rfl, rfl, SqT.of hpe7, atI_nat (j := 1) rfl, _, rfl, _, _, rfl, rfl, _, rfl, ite2 (fun heq => ?_) (fun hne => hR _ _ rfl (Same.refl _))⟩
          have heq : v = st.1 := of_decide_eq_true heq
          refine ⟨_, rfl, _, rfl, _, _, rfl, rfl, _, rfl, ite2 (fun h1 => ?_) (fun h1 => hR _ _ rfl (Same.refl _))⟩
          have h1 : st.2.1 ≤ (i : Int) := of_decide_eq_true h1
          refine ⟨_, rfl, _, _, rfl, rfl, hR _ _ ?_ (Same.refl _)⟩
          show some (V.bl (decide ((i : Int) < st.2.2))) = _
          rw [decide_eq_false fun h2 => free heq.symm ⟨h1, h2⟩]
        · intro ys H6 s6 hB6 hl hr'
          rw [all_blF hl hr'] at hB6
          refine ⟨B, _, rfl, SqL.of hB6, false, by rw [any_false], iteF ?_⟩
          exact ⟨s5.trans s6, _, _, _, _, _, _, _, _, _, _, rfl⟩
    · rintro σ H4 ⟨s4, v6, v7, v8, v9, v10, v11, v12, v13, v14, v15, rfl⟩
      have sH4 := sH3.trans s4
      have R4 := R3.same s4
      obtain ⟨ws, w1, w2, w3⟩ := id (hwy3.same s4)
      refine ⟨_, rfl, va, rfl, ⟨_, SqL.of w1⟩, fun B hB => sc_same (w := w) (walk_list (xs := ws.map V.ref)) (nOf (wy.map Prod.fst)) hB (fun H' s => SqL.of (s _ _ w1)) (fun l ln hm => ?_) ?_ ?_⟩
      · have : l.length ≤ (nums (wy.map Prod.fst)).length := nodup_len ln fun x hx => by
          obtain ⟨j, hj, e⟩ := hm x hx
          rw [List.length_map, w2] at hj
          exact nOf_mem.mp ⟨j, by rw [List.length_map]; exact hj, e⟩
        unfold nums at this
        rw [List.length_map, List.length_map] at this
        show l.length + 1 < 4096
        omega
      · intro i x H' H'' R Z hi sm y hR
        obtain ⟨rfl, hx⟩ := y
        obtain ⟨pp, hp, rfl⟩ := get_ref hx
        obtain ⟨e, he⟩ := get_same_len w2 hp
        refine ⟨pp, _, rfl, SqT.of (sm _ _ (w3 i pp e hp he)), rfl, _, _, rfl, _, _, rfl, rfl, rfl, tyes ⟨_, rfl, ?_⟩⟩
        have := hR _ (Same.refl _)
        rw [nOf_get (i := i) (e := e.1) (by rw [List.getElem?_map, he]; rfl)] at this
        exact this
      · intro l H5 s5 hl5 ln hm
        have sH5 := sH4.trans s5
        have R5 := R4.same s5
        obtain ⟨is, d1, d2, d3⟩ := id R5
        have hnl : (nums ts).length = (is.map V.ref).length := by
          unfold nums
          rw [List.length_map, List.length_map, d2]
        have hkn : (dKz (nums ts) (is.map V.ref)).length = ts.length := by
          rw [dKz_length hnl, hnl, List.length_map, d2]
        refine ⟨tr, _, d1, True.intro, fun od => ?_⟩
        have ntB : B ≠ tr := ne_of hl5 d1 (by intro z; cases z)
        have hl5' : upd H5 tr (.frz od (.dK (dKz (nums ts) (is.map V.ref)))) B = some (SetL w B l) := by
          rw [upd_ne ntB]
          exact hl5
        refine ⟨_, rfl, tr, od, _, rfl, upd_same, fun B2 hB2 => lc_same walk_items (fun i y _ => ∀ z, y = some z → ∃ (e : Tr) (pi : Addr) (mv : Bool) (bb : Nat), z = .ref pi ∧ InsAt C H5 pi e mv bb) (fun _ _ _ _ _ e => e) hB2 (by rw [hkn]; omega) (fun H' s => s _ _ upd_same) ?_ ?_⟩
        · rintro i x H6 H7 R hi sm ⟨T1, k1, v1, rfl, hT1, rfl, e1, e2⟩ hR
          rw [hkn] at hi
          obtain ⟨e, he⟩ : ∃ e, ts[i]? = some e := ⟨ts[i], List.getElem?_eq_getElem hi⟩
          obtain ⟨pi, hp⟩ := get_same_len d2.symm he
          obtain ⟨mv, hm'⟩ := get_same_len hkl.symm he
          have hat := dKz_at (ks := nums ts) (vs := is.map V.ref) (i := i) (k := e.n) (v := .ref pi) (by unfold nums; rw [List.getElem?_map, he]; rfl) (by rw [List.getElem?_map, hp]; rfl)
          simp only [hat, Option.map_some] at e1 e2
          have ek : V.int e.n = k1 := Option.some.inj e1
          have ev : V.ref pi = v1 := Option.some.inj e2
          subst ek ev
          have hinsE := d3 i pi e mv hp he hm'
          obtain ⟨dx, hins⟩ := id hinsE
          have npd : pi ≠ tr := ne_of hins d1 (by intro z; cases z)
          have hins2 : H6 pi = some (.ins C dx (trF mv e.s e.t i)) := sm _ _ (by rw [upd_ne npd]; exact hins)
          have s7 : Same H6 (upd H6 T1 (.tup [.int e.n, .ref pi])) := same_new hT1
          have hl7 := s7 _ _ (sm _ _ hl5')
          refine ⟨T1, _, rfl, SqT.of upd_same, rfl, _, _, rfl, _, _, rfl, rfl, rfl, ?_⟩
          refine ⟨_, rfl, _, rfl, _, _, _, _, rfl, rfl, hl7, _, rfl, ite2 (fun hnu => ?_) (fun hnu => ?_)⟩
          · refine ⟨_, rfl, pi, C, dx, _, _, rfl, s7 _ _ hins2, T.cls, T.n_kind, trF_kind _ _ _ _, rfl, _, rfl, ite2 (fun hk => ?_) (fun hk => ?_)⟩
            · exact ⟨_, rfl, hR (some (.ref pi)) _ (fun z hz => ⟨e, pi, mv, i, (Option.some.inj hz).symm, hinsE⟩) s7⟩
            · exact hR none _ (fun z hz => nomatch hz) s7
          · exact iteF (hR none _ (fun z hz => nomatch hz) s7)
        · intro ys H6 s6 hB6 hyl hr'
          have s56 : Same H5 (upd H6 tr (.dK (dKz (nums ts) (is.map V.ref)))) := same_unlock d1 s6
          have hfz : H6 tr = some (.frz od (.dK (dKz (nums ts) (is.map V.ref)))) := s6 _ _ upd_same
          have nBt : B2 ≠ tr := fun z => by
            rw [z, hfz] at hB6
            cases hB6
          have hB7 : upd H6 tr (.dK (dKz (nums ts) (is.map V.ref))) B2 = some (.lst (ys.filterMap id)) := by
            rw [upd_ne nBt]
            exact hB6
          refine ⟨hfz, ?_⟩
          generalize upd H6 tr (.dK (dKz (nums ts) (is.map V.ref))) = H7 at s56 hB7 ⊢
          have hyz : (ys.filterMap id).length ≤ sizeLine := by
            have := List.length_filterMap_le id ys
            rw [hkn] at hyl
            omega
          refine ⟨_, rfl, B2, rfl, ⟨_, SqL.of hB7⟩, fun B3 hB3 => lc_same (walk_list (xs := ys.filterMap id)) (fun _ y _ => y = none) (fun _ _ _ _ _ e => e) hB3 hyz (fun H' s => SqL.of (s _ _ hB7)) ?_ ?_⟩
          · intro i x H8 H9 R hi sm y hR
            obtain ⟨rfl, hx⟩ := y
            have hmem := List.mem_of_getElem? hx
            obtain ⟨y0, hy0, ey0⟩ := List.mem_filterMap.mp hmem
            obtain ⟨j, hj, ej⟩ := mem_iff_get.mp hy0
            obtain ⟨e, pi, mv, bb, rfl, dx, hins⟩ := hr' j y0 ej x ey0
            have hins8 := sm _ _ (s56 _ _ hins)
            refine ⟨rfl, ?_⟩
            refine ⟨_, rfl, pi, C, dx, _, _, rfl, hins8, T.cls, T.n_ended, trF_ended _ _ _ _, false, rfl, iteF ?_⟩
            exact hR none _ rfl (Same.refl _)
          · intro ys3 H8 s8 hB8 hl8 hr8
            have e0 : ys3.filterMap id = [] := by
              rw [List.filterMap_eq_nil_iff]
              intro y hy
              obtain ⟨j, hj, ej⟩ := mem_iff_get.mp hy
              exact hr8 j y ej
            rw [e0] at hB8
            exact ⟨B3, [], rfl, SqL.of hB8, q H8 (sH5.trans (s56.trans s8))⟩
end
end B58
set_option Elab.async false
set_option linter.all false
set_option maxRecDepth 100000
set_option maxHeartbeats 4000000
/-! The walks: draw, pick, shuffled, areas. -/
namespace B58
open PySem PySem.Spec PyProof.Rows PySem.Calls L2 C8
/-- all but the drawing state is kept -/
def Lk (ls sh : Addr) (H H' : Hp) : Prop := ∀ p o, H p = some o → p ≠ ls → p ≠ sh → H' p = some o
def LSt (H : Hp) (ls sh : Addr) : Prop := ∃ (a b : Int) (figs : List Int), H ls = some (.lst [.ref sh, .int a, .int b]) ∧ IL H sh figs ∧ figs ≠ [] ∧ figs.length ≤ 63 ∧ -(2 ^ 64) < b ∧ b < 2 ^ 64
theorem Lk.refl (ls sh : Addr) (H : Hp) : Lk ls sh H H := fun _ _ h _ _ => h
theorem Lk.trans {ls sh : Addr} {H H1 H2 : Hp} (h : Lk ls sh H H1) (g : Lk ls sh H1 H2) : Lk ls sh H H2 := fun p o e h1 h2 => g p o (h p o e h1 h2) h1 h2
theorem Lk.of {ls sh : Addr} {H H1 : Hp} (h : Same H H1) : Lk ls sh H H1 := fun p o e _ _ => h p o e
theorem Lk.seq {ls sh : Addr} {H H1 H2 : Hp} (h : Lk ls sh H H1) (g : Same H1 H2) : Lk ls sh H H2 := h.trans (Lk.of g)
theorem Lk.upd {ls sh : Addr} {H H1 : Hp} (h : Lk ls sh H H1) {p : Addr} {o : HO} (n : H p = none) : Lk ls sh H (upd H1 p o) := fun q u e h1 h2 => by
  rw [upd_ne (ne_of_none e n)]
  exact h q u e h1 h2
theorem LSt.ne {H : Hp} {ls sh : Addr} (h : LSt H ls sh) : ls ≠ sh := fun z => by
  obtain ⟨a, b, figs, h1, h2, h3, _⟩ := h
  rw [z] at h1
  have h2' : H sh = some (.lst (figs.map V.int)) := h2
  rw [h2'] at h1
  have h1' := Option.some.inj h1
  injection h1' with h1'
  cases figs with
  | nil => cases h1'
  | cons f fs =>
    rw [List.map_cons] at h1'
    injection h1' with h1' _
    cases h1'
theorem LSt.same {H H' : Hp} {ls sh : Addr} (h : LSt H ls sh) (s : Same H H') : LSt H' ls sh := by
  obtain ⟨a, b, figs, h1, h2, h3⟩ := h
  exact ⟨a, b, figs, s _ _ h1, s _ _ h2, h3⟩
theorem LSt.upd {H : Hp} {ls sh p : Addr} {o : HO} (h : LSt H ls sh) (h1 : p ≠ ls) (h2 : p ≠ sh) : LSt (upd H p o) ls sh := by
  obtain ⟨a, b, figs, e1, e2, h3⟩ := h
  refine ⟨a, b, figs, by rw [upd_ne (Ne.symm h1)]; exact e1, ?_, h3⟩
  show L2.upd H p o sh = _
  rw [upd_ne (Ne.symm h2)]
  exact e2
theorem LSt.live {H : Hp} {ls sh p : Addr} (h : LSt H ls sh) (n : H p = none) : p ≠ ls ∧ p ≠ sh := by
  obtain ⟨a, b, figs, e1, e2, _⟩ := h
  exact ⟨fun z => (by rw [z, e1] at n; cases n), fun z => (by rw [z, show H sh = _ from e2] at n; cases n)⟩
theorem ixN_nat {n j : Nat} (h : j < n) : ixN n (j : Int) = some j := by
  unfold ixN
  rw [if_pos (Int.natCast_nonneg j), if_pos (by omega)]
  rfl
theorem cutV_take (xs : List V) (k : Nat) : cutV xs none (some (k : Int)) = xs.take k := by
  unfold cutV
  rw [HT.sIx_none, HT.sIx_nat, List.drop_zero, Nat.sub_zero]
  rcases Nat.lt_or_ge k xs.length with h | h
  · rw [Nat.min_eq_left (Nat.le_of_lt h)]
  · rw [Nat.min_eq_right h, List.take_length, List.take_of_length_le h]
section
variable {P : Program} {w : World} {K : PySem.W.Frag} {mg : Str → Option Value} {base : Heap} {C : Addr}
/-! ### draw -/
def spDraw : Sp := fun vs H Q _ => ∃ (ls sh : Addr) (n : Int), vs = [.ref ls, .int n] ∧ LSt H ls sh ∧ 0 < n ∧ n < 2 ^ 60 ∧ ∀ (H' : Hp) (r : Int), Lk ls sh H H' → LSt H' ls sh → 0 ≤ r → r < n → Q (.int r) H'
theorem sc_draw : FnScope ["_law_state", "_law_bound", "_law_sheet", "_law_at", "_law_figure"] ["_law_state", "_law_bound"] (defScope s_draw) := ⟨rfl, rfl, rfl, by decide +kernel, rfl, by decide +kernel, by decide +kernel⟩
theorem cal_draw (D : Dd K mg "_law_draw" s_draw) (T : Txt K mg C) : Cal P w K mg base 2 "_law_draw" spDraw [] := by
  refine D.cal (k := 1) sc_draw (fun vs H Q E h => ?_) (fun _ _ _ _ _ _ us hl => match us, hl with | [_, _], _ => rfl) (fun f cdv A outer s H vs Q E hr h => ?_)
  · obtain ⟨ls, sh, n, rfl, _⟩ := h
    rfl
  · obtain ⟨ls, sh, n, rfl, hst, hn, hn2, q⟩ := h
    have nd := sc_draw.nd
    refine ⟨_, pss_cons (ps_set (i := 2) nd rfl (Or.inl rfl) (pe_ix ix_list (pv 0) pe_int (fun _ _ => rfl)))
      (pss_cons (ps_set (i := 3) nd rfl (Or.inl rfl) (pe_op op_mod (pe_callTy call_int1 rfl T.f_int bo_int (pa_cons (pe_ix ix_list (pv 0) pe_int (fun _ _ => rfl)) pa_nil)) (pe_callB call_len_seq rfl T.f_len bo_len (pa_cons (pv 2) pa_nil))))
      (pss_cons (ps_set (i := 4) nd rfl (Or.inl rfl) (pe_ix ix_list (pv 2) (pv 3) (fun _ _ => rfl)))
      (pss_cons (ps_if (pt_cmp (pc_ge (pv 4) pe_int))
        (pss_cons (ps_asg (pe_op op_fdivW (pv 4) (pv 1)) (pg_sub (pv 2) (pv 3) set_list))
        (pss_one (ps_ret (pe_op op_mod (pe_callTy call_int1 rfl T.f_int bo_int (pa_cons (pv 4) pa_nil)) (pv 1))))) pss_nil)
      (pss_cons (ps_asg (pe_op op_add (pe_ix ix_list (pv 0) pe_int (fun _ _ => rfl)) pe_int) (pg_sub (pv 0) pe_int set_list))
      (pss_cons (ps_asg (pe_op op_mod (pe_callTy call_int1 rfl T.f_int bo_int (pa_cons (pe_op op_add (pe_op op_add (pe_op op_add (pe_op op_mul (pe_ix ix_list (pv 0) pe_int (fun _ _ => rfl)) pe_int) (pv 4)) (pe_op op_mul pe_int (pe_ix ix_list (pv 0) pe_int (fun _ _ => rfl)))) pe_int) pa_nil)) pe_int) (pg_sub (pv 0) pe_int set_list))
      (pss_one (ps_ret (pe_op op_mod (pe_op op_fdiv (pe_op op_mod (pe_callTy call_int1 rfl T.f_int bo_int (pa_cons (pe_op op_mul (pe_ix ix_list (pv 0) pe_int (fun _ _ => rfl)) (pe_ix ix_list (pv 0) pe_int (fun _ _ => rfl))) pa_nil)) pe_int) pe_int) (pv 1))))))))), ?_⟩
    have hne := hst.ne
    obtain ⟨a, b, figs, h1, h2, h3, h4, h5, h6⟩ := hst
    have hpos : (0 : Int) < ((figs.map V.int).length : Int) := by
      rw [List.length_map]
      cases figs with
      | nil => exact absurd rfl h3
      | cons _ _ => exact Int.natCast_pos.mpr (Nat.succ_pos _)
    obtain ⟨j, hj⟩ := Int.eq_ofNat_of_zero_le (Int.emod_nonneg a (Int.ne_of_gt hpos))
    have hjl := Int.emod_lt_of_pos a hpos
    rw [hj, List.length_map] at hjl
    have hjl' : j < figs.length := by omega
    obtain ⟨fg, hfg⟩ : ∃ fg, figs[j]? = some fg := ⟨figs[j], List.getElem?_eq_getElem hjl'⟩
    have f0 : atI [V.ref sh, V.int a, V.int b] 0 = some (.ref sh) := atI_nat (j := 0) rfl
    have f1 : atI [V.ref sh, V.int a, V.int b] 1 = some (.int a) := atI_nat (j := 1) rfl
    have f2 : atI [V.ref sh, V.int a, V.int b] 2 = some (.int b) := atI_nat (j := 2) rfl
    refine ⟨_, rfl, ls, _, _, _, rfl, rfl, SqL.of h1, f0, ?_⟩
    refine ⟨_, rfl, ls, _, _, _, rfl, rfl, SqL.of h1, f1, .inl ⟨_, rfl, _, rfl, sh, _, rfl, .inl (SqL.of h2), _, _, rfl, rfl, hpos, ?_⟩⟩
    have hat : atI (figs.map V.int) (a % ((figs.map V.int).length : Int)) = some (.int fg) := by
      rw [hj]
      exact atI_nat (j := j) (by rw [List.getElem?_map, hfg]; rfl)
    have hix : ixN (figs.map V.int).length (a % ((figs.map V.int).length : Int)) = some j := by
      rw [hj]
      exact ixN_nat (by rw [List.length_map]; exact hjl')
    refine ⟨_, rfl, _, rfl, sh, _, _, .int fg, rfl, rfl, SqL.of h2, hat, ?_⟩
    refine ⟨_, rfl, _, _, rfl, rfl, _, rfl, ite2 (fun hbig => ?_) (fun hbig => ?_)⟩
    · refine ⟨_, rfl, _, rfl, _, _, rfl, rfl, wide_div (b := 60) hn (by omega) (by decide) (by decide), ?_⟩
      refine ⟨_, rfl, _, rfl, sh, _, _, j, rfl, rfl, h2, hix, ?_⟩
      refine ⟨_, rfl, .inl ⟨_, rfl, _, rfl, _, _, rfl, rfl, hn, ?_⟩⟩
      refine q _ (fg % n) (fun p o e e1 e2 => by rw [upd_ne e2]; exact e) ⟨a, b, figs.set j (fg / n), by rw [upd_ne hne]; exact h1, ?_, ?_, ?_, h5, h6⟩ (Int.emod_nonneg _ (by omega)) (Int.emod_lt_of_pos _ hn)
      · show upd H sh _ sh = _
        rw [upd_same, List.map_set]
      · intro z
        apply h3
        have := congrArg List.length z
        rw [List.length_set] at this
        exact List.eq_nil_of_length_eq_zero this
      · rw [List.length_set]
        exact h4
    · refine ⟨_, rfl, ls, _, _, _, rfl, rfl, SqL.of h1, f1, _, _, rfl, rfl, ?_⟩
      refine ⟨_, rfl, ls, _, _, 1, rfl, rfl, h1, rfl, ?_⟩
      have g1 : upd H ls (.lst ([V.ref sh, .int a, .int b].set 1 (.int (a + 1)))) ls = some (.lst [.ref sh, .int (a + 1), .int b]) := upd_same
      have gk : ∀ p o, H p = some o → p ≠ ls → upd H ls (.lst ([V.ref sh, .int a, .int b].set 1 (.int (a + 1)))) p = some o := fun p o e hp => by rw [upd_ne hp]; exact e
      generalize upd H ls (.lst ([V.ref sh, .int a, .int b].set 1 (.int (a + 1)))) = H1 at g1 gk ⊢
      have e1 : atI [V.ref sh, V.int (a + 1), V.int b] 1 = some (.int (a + 1)) := atI_nat (j := 1) rfl
      have e2 : atI [V.ref sh, V.int (a + 1), V.int b] 2 = some (.int b) := atI_nat (j := 2) rfl
      refine ⟨_, rfl, ls, _, _, _, rfl, rfl, SqL.of g1, e2, _, _, rfl, rfl, .inr ⟨by decide, by decide⟩, ?_⟩
      refine ⟨_, rfl, _, _, rfl, rfl, ?_⟩
      refine ⟨_, rfl, ls, _, _, _, rfl, rfl, SqL.of g1, e1, _, _, rfl, rfl, .inl ⟨by decide, by decide⟩, ?_⟩
      refine ⟨_, _, rfl, rfl, _, _, rfl, rfl, .inl ⟨_, rfl, _, _, rfl, rfl, (by show (0 : Int) < 2147483647; decide), ?_⟩⟩
      have hb0 := Int.emod_nonneg (b * 48271 + fg + 7919 * (a + 1) + 12345) (show (2147483647 : Int) ≠ 0 by decide)
      have hb1 := Int.emod_lt_of_pos (b * 48271 + fg + 7919 * (a + 1) + 12345) (show (0 : Int) < 2147483647 by decide)
      refine ⟨_, rfl, ls, _, _, 2, rfl, rfl, g1, rfl, ?_⟩
      have k1 : upd H1 ls (.lst ([V.ref sh, .int (a + 1), .int b].set 2 (.int ((b * 48271 + fg + 7919 * (a + 1) + 12345) % 2147483647)))) ls = some (.lst [.ref sh, .int (a + 1), .int ((b * 48271 + fg + 7919 * (a + 1) + 12345) % 2147483647)]) := upd_same
      have kk : ∀ p o, H p = some o → p ≠ ls → upd H1 ls (.lst ([V.ref sh, .int (a + 1), .int b].set 2 (.int ((b * 48271 + fg + 7919 * (a + 1) + 12345) % 2147483647)))) p = some o := fun p o e hp => by rw [upd_ne hp]; exact gk p o e hp
      have e3 : atI [V.ref sh, V.int (a + 1), V.int ((b * 48271 + fg + 7919 * (a + 1) + 12345) % 2147483647)] 2 = some (.int ((b * 48271 + fg + 7919 * (a + 1) + 12345) % 2147483647)) := atI_nat (j := 2) rfl
      refine ⟨_, rfl, ls, _, _, _, rfl, rfl, SqL.of k1, e3, _, rfl, ls, _, _, _, rfl, rfl, SqL.of k1, e3, _, _, rfl, rfl, .inl ⟨by omega, by omega⟩, ?_⟩
      refine .inl ⟨_, rfl, _, _, rfl, rfl, (by show (0 : Int) < 2147483629; decide), ?_⟩
      refine ⟨_, _, rfl, rfl, ⟨by decide, by decide⟩, ?_⟩
      refine ⟨_, rfl, _, _, rfl, rfl, hn, ?_⟩
      exact q _ _ (fun p o e e1 _ => kk p o e e1) ⟨a + 1, ((b * 48271 + fg + 7919 * (a + 1) + 12345) % 2147483647), figs, k1, kk _ _ h2 (Ne.symm hne), h3, h4, by omega, by omega⟩ (Int.emod_nonneg _ (by omega)) (Int.emod_lt_of_pos _ hn)
end
end B58
set_option Elab.async false
set_option linter.all false
set_option maxRecDepth 100000
set_option maxHeartbeats 4000000
/-! The walks: pick, shuffled, areas, begun. -/
namespace B58
open PySem PySem.Spec PyProof.Rows PySem.Calls L2 C8
section
variable {P : Program} {w : World} {K : PySem.W.Frag} {mg : Str → Option Value} {base : Heap} {C : Addr}
theorem Lk.none {ls sh p : Addr} {H H' : Hp} (h : Lk ls sh H H') (st : LSt H' ls sh) (n : H' p = Option.none) : H p = Option.none := by
  obtain ⟨b1, b2⟩ := st.live n
  cases hz : H p with
  | none => rfl
  | some z =>
    have := h _ _ hz b1 b2
    rw [n] at this
    cases this
/-! ### pick -/
def spPick : Sp := fun vs H Q _ => ∃ (ls sh q : Addr) (xs : List V), vs = [.ref ls, .ref q] ∧ LSt H ls sh ∧ H q = some (.lst xs) ∧ q ≠ ls ∧ q ≠ sh ∧ xs ≠ [] ∧ xs.length < 1000 ∧ ∀ (H' : Hp) (x : V), Lk ls sh H H' → LSt H' ls sh → x ∈ xs → Q x H'
theorem sc_pick : FnScope ["_law_state", "_law_some_here"] ["_law_state", "_law_some_here"] (defScope s_pick) := ⟨rfl, rfl, rfl, by decide +kernel, rfl, by decide +kernel, by decide +kernel⟩
theorem len_pos {α : Type} {xs : List α} (h : xs ≠ []) : 0 < xs.length := List.length_pos_iff.mpr h
theorem cal_pick (D : Dd K mg "_law_pick" s_pick) (T : Txt K mg C) (c1 : Cal P w K mg base 2 "_law_draw" spDraw []) : Cal P w K mg base 4 "_law_pick" spPick [] := by
  refine D.cal (k := 3) sc_pick (fun vs H Q E h => ?_) (fun _ _ _ _ _ _ us hl => match us, hl with | [_, _], _ => rfl) (fun f cdv A outer s H vs Q E hr h => ?_)
  · obtain ⟨ls, sh, q, xs, rfl, _⟩ := h
    rfl
  · obtain ⟨ls, sh, a, xs, rfl, hst, ha, n1, n2, hne, hl, q⟩ := h
    refine ⟨_, pss_one (ps_ret (pe_ix ix_list (pv 1) (pe_c c1 hr (by decide) rfl (pa_cons (pv 0) (pa_cons (pe_callB call_len_seq rfl T.f_len bo_len (pa_cons (pv 1) pa_nil)) pa_nil))) (fun _ _ => rfl))), ?_⟩
    have hp := len_pos hne
    refine ⟨_, rfl, _, rfl, _, rfl, a, _, rfl, .inl (SqL.of ha), ls, sh, _, rfl, hst, by omega, by omega, fun H1 r k1 st1 h0 h1 => ?_⟩
    obtain ⟨j, rfl⟩ := Int.eq_ofNat_of_zero_le h0
    have hj : j < xs.length := by omega
    exact ⟨a, xs, _, xs[j], rfl, rfl, SqL.of (k1 _ _ ha n1 n2), atI_nat (List.getElem?_eq_getElem hj), q H1 _ k1 st1 (List.getElem_mem hj)⟩
/-! ### shuffled -/
def spShuf : Sp := fun vs H Q _ => ∃ (ls sh q : Addr) (xs : List Int), vs = [.ref ls, .ref q] ∧ LSt H ls sh ∧ IL H q xs ∧ q ≠ ls ∧ q ≠ sh ∧ xs.length < 1000 ∧ ∀ (H' : Hp) (p : Addr) (ys : List Int), Lk ls sh H H' → LSt H' ls sh → H p = none → IL H' p ys → ys.Perm xs → Q (.ref p) H'
theorem sc_shuffled : FnScope ["_law_state", "_law_some_here", "_law_left", "_law_found"] ["_law_state", "_law_some_here"] (defScope s_shuffled) := ⟨rfl, rfl, rfl, by decide +kernel, rfl, by decide +kernel, by decide +kernel⟩
theorem perm_erase {α : Type} : ∀ {l : List α} {j : Nat} {x : α}, l[j]? = some x → l.Perm (x :: l.eraseIdx j)
  | [], _, _, h => by simp at h
  | y :: l, 0, x, h => by
    have e : y = x := Option.some.inj h
    rw [e]
    exact List.Perm.refl _
  | y :: l, j + 1, x, h => by
    have ih := perm_erase (l := l) (j := j) (x := x) (by simpa using h)
    show (y :: l).Perm (x :: y :: l.eraseIdx j)
    exact (ih.cons y).trans (List.Perm.swap x y _)
theorem map_eraseIdx : ∀ (zs : List Int) (j : Nat), (zs.map V.int).eraseIdx j = (zs.eraseIdx j).map V.int
  | [], _ => rfl
  | z :: zs, 0 => rfl
  | z :: zs, j + 1 => by
    show V.int z :: (zs.map V.int).eraseIdx j = V.int z :: (zs.eraseIdx j).map V.int
    rw [map_eraseIdx zs j]
theorem cal_shuffled (D : Dd K mg "_law_shuffled" s_shuffled) (T : Txt K mg C) (c1 : Cal P w K mg base 2 "_law_draw" spDraw []) : Cal P w K mg base 4 "_law_shuffled" spShuf [] := by
  refine D.cal (k := 3) sc_shuffled (fun vs H Q E h => ?_) (fun _ _ _ _ _ _ us hl => match us, hl with | [_, _], _ => rfl) (fun f cdv A outer s H vs Q E hr h => ?_)
  · obtain ⟨ls, sh, q, xs, rfl, _⟩ := h
    rfl
  · obtain ⟨ls, sh, a, xs, rfl, hst, ha, n1, n2, hl, q⟩ := h
    have nd := sc_shuffled.nd
    refine ⟨_, pss_cons (ps_par (i := 2) (j := 3) rfl nd rfl rfl (by decide) rfl rfl (pa_cons (pe_callTy call_list_of rfl T.f_list bo_list (pa_cons (pv 1) pa_nil)) (pa_cons (pe_lst pa_nil) pa_nil)) rfl)
      (pss_cons (ps_while PassesOwn.never (pt_cmpR (op_neD hr.units) (pv 2) (pe_lst pa_nil) (nomark _))
        (pss_one (ps_expr (pe_bm PySem.F.plainAttrs_list PySem.F.slot_list_append PySem.F.type_list_append mt_append (pv 3) (pa_cons (pe_bm PySem.F.plainAttrs_list PySem.F.slot_list_pop PySem.F.type_list_pop mt_popAt (pv 2) (pa_cons (pe_c c1 hr (by decide) rfl (pa_cons (pv 0) (pa_cons (pe_callB call_len_seq rfl T.f_len bo_len (pa_cons (pv 2) pa_nil)) pa_nil))) pa_nil)) pa_nil)))))
      (pss_one (ps_ret (pv 3)))), ?_⟩
    refine ⟨_, rfl, a, _, rfl, .inl (SqL.of ha), fun l hl0 => ⟨Nat.zero_le _, fun fa hfa => ⟨_, _, rfl, ?_⟩⟩⟩
    have s1 : Same H (upd H l (.lst (xs.map V.int))) := same_new hl0
    have s2 : Same H (upd (upd H l (.lst (xs.map V.int))) fa (.lst [])) := s1.trans (same_new hfa)
    have hl2 : upd (upd H l (.lst (xs.map V.int))) fa (.lst []) l = some (.lst (xs.map V.int)) := same_new hfa _ _ upd_same
    have hf2 : upd (upd H l (.lst (xs.map V.int))) fa (.lst []) fa = some (.lst []) := upd_same
    have hfH : H fa = none := s1.free hfa
    have nlf : l ≠ fa := ne_of_none (upd_same (H := H) (a := l) (o := .lst (xs.map V.int))) hfa
    obtain ⟨l1, l2⟩ := hst.live hl0
    obtain ⟨f1, f2⟩ := hst.live hfH
    have st2 := hst.same s2
    generalize upd (upd H l (.lst (xs.map V.int))) fa (.lst []) = H2 at s2 hl2 hf2 st2 ⊢
    refine ⟨fun μ σ H' => ∃ (left found : List Int), σ = [some (.ref ls), some (.ref a), some (.ref l), some (.ref fa)] ∧ Lk ls sh H H' ∧ LSt H' ls sh ∧ IL H' l left ∧ IL H' fa found ∧ (found ++ left).Perm xs ∧ μ = left.length, ⟨_, xs, [], rfl, Lk.of s2, st2, hl2, hf2, List.Perm.refl _, rfl⟩, ?_⟩
    rintro μ σ H3 ⟨left, found, rfl, k3, st3, hl3, hf3, perm, eμ⟩
    have hlen : found.length + left.length = xs.length := by
      rw [← List.length_append]
      exact perm.length_eq
    refine ⟨_, rfl, Nat.zero_le _, fun b0 hb0 => ?_⟩
    have s4 : Same H3 (upd H3 b0 (.lst [])) := same_new hb0
    have hb0' : upd H3 b0 (.lst []) b0 = some (.lst []) := upd_same
    have hl4 := s4 _ _ hl3
    have hf4 := s4 _ _ hf3
    have st4 := st3.same s4
    have k4 := k3.seq s4
    generalize upd H3 b0 (.lst []) = H4 at s4 hb0' hl4 hf4 st4 k4 ⊢
    refine ⟨.list (left.map .int), .list [], .lst (SqL.of hl4) (dp_ints left), .lst (SqL.of hb0') .nil, shaped_ints _, rfl, ?_⟩
    cases left with
    | nil =>
      refine ⟨false, rfl, iteF ?_⟩
      refine ⟨_, rfl, q H4 fa found k4 st4 hfH hf4 ?_⟩
      rw [List.append_nil] at perm
      exact perm
    | cons x left =>
      refine ⟨true, rfl, iteT ⟨fun σ' H' => ∃ m', m' < μ ∧ _, fun σ' H' h => h, ?_⟩⟩
      rw [List.length_cons] at hlen eμ
      refine ⟨_, rfl, .inl ⟨rfl, _, SqL.of hf4⟩, _, rfl, .inl ⟨rfl, _, SqL.of hl4⟩, _, rfl, _, rfl, l, _, rfl, .inl (SqL.of hl4), ls, sh, _, rfl, st4, ?_, ?_, fun H5 r k5 st5 h0 h1 => ?_⟩
      · rw [List.length_map, List.length_cons]
        omega
      · rw [List.length_map, List.length_cons]
        omega
      obtain ⟨j, rfl⟩ := Int.eq_ofNat_of_zero_le h0
      have hj : j < (x :: left).length := by
        rw [List.length_map] at h1
        omega
      obtain ⟨y, hy⟩ : ∃ y, (x :: left)[j]? = some y := ⟨(x :: left)[j], List.getElem?_eq_getElem hj⟩
      have hl5 : H5 l = some (.lst ((x :: left).map V.int)) := k5 _ _ hl4 l1 l2
      have hf5 : H5 fa = some (.lst (found.map V.int)) := k5 _ _ hf4 f1 f2
      have big : (2000 : Nat) ≤ sizeLine := by decide
      refine ⟨l, _, _, j, .int y, rfl, rfl, hl5, by omega, by rw [List.length_cons] at hj; omega, ?_, by rw [List.getElem?_map, hy]; rfl, ?_⟩
      · exact (ixN_seq (ixN_nat (by rw [List.length_map]; exact hj))).1
      have hf6 : upd H5 l (.lst (((x :: left).map V.int).eraseIdx j)) fa = some (.lst (found.map V.int)) := by
        rw [upd_ne (Ne.symm nlf)]
        exact hf5
      refine ⟨fa, _, _, rfl, rfl, hf6, by rw [List.length_map]; omega, ?_⟩
      refine ⟨left.length, by omega, (x :: left).eraseIdx j, found ++ [y], rfl, ?_, ?_, ?_, ?_, ?_, ?_⟩
      · exact ((k4.trans k5).upd hl0).upd hfH
      · exact (st5.upd l1 l2).upd f1 f2
      · show upd _ fa _ l = _
        rw [upd_ne nlf, upd_same]
        congr 2
        exact map_eraseIdx _ _
      · show upd _ fa _ fa = _
        rw [upd_same, List.map_append]
        rfl
      · refine List.Perm.trans ?_ perm
        rw [List.append_assoc]
        exact (perm_erase hy).symm.append_left found
      · rw [List.length_eraseIdx, if_pos hj, List.length_cons]
        rfl
/-! ### areas -/
def spAreas : Sp := fun vs H Q _ => ∃ (ls sh : Addr) (m : Int), vs = [.ref ls, .int m] ∧ LSt H ls sh ∧ 2 ≤ m ∧ m ≤ 5 ∧ ∀ (H' : Hp) (p : Addr) (xs : List Int), Lk ls sh H H' → LSt H' ls sh → H p = none → IL H' p xs → xs.Nodup → 2 ≤ xs.length → xs.length ≤ 5 → Q (.ref p) H'
theorem sc_areas : FnScope ["_law_state", "_law_most", "_law_numbers"] ["_law_state", "_law_most"] (defScope s_areas) := ⟨rfl, rfl, rfl, by decide +kernel, rfl, by decide +kernel, by decide +kernel⟩
theorem area_nodup {d : Int} (h : 0 ≤ d) (h2 : d < 100) : [0, 1, 2, 3, 4, 5, -1, 40, (10 : Int) ^ (9 : Int).toNat, -(10 : Int) ^ (9 : Int).toNat, d + 50, 7].Nodup := by
  have e : (10 : Int) ^ (9 : Int).toNat = 1000000000 := by decide
  rw [e]
  simp
  omega
theorem cal_areas (D : Dd K mg "_law_areas" s_areas) (T : Txt K mg C) (c1 : Cal P w K mg base 2 "_law_draw" spDraw []) (c2 : Cal P w K mg base 4 "_law_shuffled" spShuf []) : Cal P w K mg base 6 "_law_areas" spAreas [] := by
  refine D.cal (k := 5) sc_areas (fun vs H Q E h => ?_) (fun _ _ _ _ _ _ us hl => match us, hl with | [_, _], _ => rfl) (fun f cdv A outer s H vs Q E hr h => ?_)
  · obtain ⟨ls, sh, m, rfl, _⟩ := h
    rfl
  · obtain ⟨ls, sh, m, rfl, hst, hm, hm2, q⟩ := h
    have nd := sc_areas.nd
    refine ⟨_, pss_cons (ps_set (i := 2) nd rfl (Or.inl rfl) (pe_lst (pa_cons pe_int (pa_cons pe_int (pa_cons pe_int (pa_cons pe_int (pa_cons pe_int (pa_cons pe_int (pa_cons (pe_un un_neg pe_int) (pa_cons pe_int (pa_cons (pe_op op_pow pe_int pe_int) (pa_cons (pe_un un_neg (pe_op op_pow pe_int pe_int)) (pa_cons (pe_op op_add (pe_c c1 hr (by decide) rfl (pa_cons (pv 0) (pa_cons pe_int pa_nil))) pe_int) (pa_cons pe_int pa_nil))))))))))))))
      (pss_one (ps_ret (pe_slice sl_list (pe_c c2 hr (by decide) rfl (pa_cons (pv 0) (pa_cons (pv 2) pa_nil))) po_none (po_some (pe_op op_add pe_int (pe_c c1 hr (by decide) rfl (pa_cons (pv 0) (pa_cons (pe_op op_sub (pv 1) pe_int) pa_nil)))))))), ?_⟩
    refine ⟨_, rfl, _, _, rfl, rfl, ⟨by decide, by decide, by decide⟩, _, _, rfl, rfl, ⟨by decide, by decide, by decide⟩, _, rfl, ?_⟩
    refine ⟨_, rfl, ls, sh, 100, rfl, hst, by decide, by decide, fun H1 d k1 st1 d0 d1 => ⟨_, _, rfl, rfl, (by show 12 ≤ sizeLine; decide), fun nl hnl => ?_⟩⟩
    have s2 : Same H1 (upd H1 nl (.lst ([0, 1, 2, 3, 4, 5, -1, 40, (10 : Int) ^ (9 : Int).toNat, -(10 : Int) ^ (9 : Int).toNat, d + 50, 7].map V.int))) := same_new hnl
    have hn2 : IL (upd H1 nl (.lst ([0, 1, 2, 3, 4, 5, -1, 40, (10 : Int) ^ (9 : Int).toNat, -(10 : Int) ^ (9 : Int).toNat, d + 50, 7].map V.int))) nl [0, 1, 2, 3, 4, 5, -1, 40, (10 : Int) ^ (9 : Int).toNat, -(10 : Int) ^ (9 : Int).toNat, d + 50, 7] := upd_same
    obtain ⟨q1, q2⟩ := st1.live hnl
    have hnd := area_nodup d0 d1
    refine ⟨_, rfl, _, rfl, ls, sh, nl, _, rfl, st1.same s2, hn2, q1, q2, (by show 12 < 1000; decide), fun H3 p ys k3 st3 hp hys perm => ?_⟩
    refine ⟨_, rfl, _, rfl, _, _, rfl, rfl, ls, sh, m - 1, rfl, st3, by omega, by omega, fun H4 r k4 st4 r0 r1 => ⟨_, _, rfl, rfl, _, rfl, ?_⟩⟩
    have hpH : H p = none := (k1.seq s2).none (st1.same s2) hp
    obtain ⟨p1, p2⟩ := (st1.same s2).live hp
    obtain ⟨j, rfl⟩ := Int.eq_ofNat_of_zero_le r0
    refine ⟨p, _, rfl, SqL.of (k4 _ _ hys p1 p2), fun b hb => ?_⟩
    have ecut : cutV (ys.map V.int) none (some (2 + (j : Int))) = (ys.take (2 + j)).map V.int := by
      have := cutV_take (ys.map V.int) (2 + j)
      rw [show ((2 + j : Nat) : Int) = 2 + (j : Int) by omega] at this
      rw [this, List.map_take]
    have hyl : ys.length = 12 := perm.length_eq
    have s5 : Same H4 (upd H4 b (.lst (cutV (ys.map V.int) none (some (2 + (j : Int)))))) := same_new hb
    have kk : Lk ls sh H H4 := ((k1.seq s2).trans k3).trans k4
    have hbH : H b = none := kk.none st4 hb
    refine q _ b (ys.take (2 + j)) (kk.seq s5) (st4.same s5) hbH (by show upd H4 b _ b = _; rw [upd_same, ecut]) ((perm.nodup_iff.mpr hnd).sublist (List.take_sublist _ _)) ?_ ?_
    · rw [List.length_take, hyl]
      omega
    · rw [List.length_take, hyl]
      omega
end
end B58
set_option Elab.async false
set_option linter.all false
set_option maxRecDepth 100000
set_option maxHeartbeats 4000000
/-! The walks: triples, some. -/
namespace B58
open PySem PySem.Spec PyProof.Rows PySem.Calls L2 C8
theorem Lk.tup {ls sh p : Addr} {H H' : Hp} (h : Lk ls sh H H') (st : LSt H ls sh) {xs : List V} (e : H p = some (.tup xs)) : H' p = some (.tup xs) := by
  obtain ⟨a, b, figs, e1, e2, _⟩ := st
  have e2' : H sh = some (.lst (figs.map V.int)) := e2
  exact h _ _ e (ne_of e e1 (by intro z; cases z)) (ne_of e e2' (by intro z; cases z))
theorem TsAt.lk {ls sh p : Addr} {H H' : Hp} {ts : List Tr} (t : TsAt H p ts) (h : Lk ls sh H H') (st : LSt H ls sh) (h1 : p ≠ ls) (h2 : p ≠ sh) : TsAt H' p ts := by
  obtain ⟨ps, e1, e2, e3⟩ := t
  exact ⟨ps, h _ _ e1 h1 h2, e2, fun i p e a b => h.tup st (e3 i p e a b)⟩
theorem IL.lk {ls sh p : Addr} {H H' : Hp} {xs : List Int} (t : IL H p xs) (h : Lk ls sh H H') (h1 : p ≠ ls) (h2 : p ≠ sh) : IL H' p xs := h _ _ t h1 h2
theorem TsAt.push {H : Hp} {fa t : Addr} {ps : List Addr} {ts : List Tr} {e : Tr} (h1 : H fa = some (.lst (ps.map V.ref))) (h2 : ps.length = ts.length) (h3 : ∀ (i : Nat) (p : Addr) (e : Tr), ps[i]? = some p → ts[i]? = some e → TrTup H p e) (ht : TrTup H t e) : TsAt (upd H fa (.lst (ps.map V.ref ++ [V.ref t]))) fa (ts ++ [e]) := by
  have tk : TupKeep H (upd H fa (.lst (ps.map V.ref ++ [V.ref t]))) := tupKeep_upd h1 fun xs z => by cases z
  refine ⟨ps ++ [t], by rw [upd_same, List.map_append]; rfl, by rw [List.length_append, List.length_append, h2]; rfl, fun i p x e1 e2 => tk _ _ ?_⟩
  rcases Nat.lt_or_ge i ps.length with hi | hi
  · rw [List.getElem?_append_left hi] at e1
    rw [List.getElem?_append_left (by rw [← h2]; exact hi)] at e2
    exact h3 i p x e1 e2
  · rw [List.getElem?_append_right hi] at e1
    rw [List.getElem?_append_right (by rw [← h2]; exact hi), ← h2] at e2
    have h0 : i - ps.length = 0 := by
      rcases Nat.eq_zero_or_pos (i - ps.length) with z | z
      · exact z
      · rw [List.getElem?_eq_none (by simp only [List.length_singleton]; omega)] at e1
        cases e1
    rw [h0] at e1 e2
    have e1' : t = p := Option.some.inj e1
    have e2' : e = x := Option.some.inj e2
    rw [← e1', ← e2']
    exact ht
section
variable {P : Program} {w : World} {K : PySem.W.Frag} {mg : Str → Option Value} {base : Heap} {C : Addr}
def spTriples : Sp := fun vs H Q _ => ∃ (ls sh nb : Addr) (m : Int) (fr : Bool) (nodes : List Int), vs = [.ref ls, .ref nb, .int m, .bl fr] ∧ LSt H ls sh ∧ IL H nb nodes ∧ nb ≠ ls ∧ nb ≠ sh ∧ nodes.Nodup ∧ 2 ≤ nodes.length ∧ nodes.length ≤ 5 ∧ 0 ≤ m ∧ m ≤ 5 ∧
  ∀ (H' : Hp) (p : Addr) (ts : List Tr), Lk ls sh H H' → LSt H' ls sh → H p = none → TsAt H' p ts → ts.length ≤ 5 → (nums ts).Nodup → (∀ e ∈ ts, e.s ∈ nodes ∧ e.t ∈ nodes ∧ e.s ≠ e.t) → Q (.ref p) H'
theorem sc_triples : FnScope ["_law_state", "_law_nodes", "_law_most", "_law_is_free", "_law_numbers", "_law_found", "_law_turn", "_law_one", "_law_two"] ["_law_state", "_law_nodes", "_law_most", "_law_is_free"] (defScope s_triples) := ⟨rfl, rfl, rfl, by decide +kernel, rfl, by decide +kernel, by decide +kernel⟩
theorem cal_triples (D : Dd K mg "_law_triples" s_triples) (T : Txt K mg C) (c1 : Cal P w K mg base 2 "_law_draw" spDraw []) (c2 : Cal P w K mg base 4 "_law_shuffled" spShuf []) : Cal P w K mg base 6 "_law_triples" spTriples [] := by
  refine D.cal (k := 5) sc_triples (fun vs H Q E h => ?_) (fun _ _ _ _ _ _ us hl => match us, hl with | [_, _, _, _], _ => rfl) (fun f cdv A outer s H vs Q E hr h => ?_)
  · obtain ⟨ls, sh, nb, m, fr, nodes, rfl, _⟩ := h
    rfl
  · obtain ⟨ls, sh, nb, m, fr, nodes, rfl, hst, hnb, b1, b2, nnd, nl2, nl5, hm0, hm5, q⟩ := h
    have nd := sc_triples.nd
    refine ⟨_, pss_cons (ps_par (i := 4) (j := 5) rfl nd rfl rfl (by decide) rfl rfl (pa_cons (pe_c c2 hr (by decide) rfl (pa_cons (pv 0) (pa_cons (pe_lst (pa_cons pe_int (pa_cons pe_int (pa_cons pe_int (pa_cons pe_int (pa_cons pe_int (pa_cons (pe_un un_neg pe_int) (pa_cons (pe_op op_pow pe_int pe_int) (pa_cons pe_int pa_nil))))))))) pa_nil))) (pa_cons (pe_lst pa_nil) pa_nil)) rfl)
      (pss_cons (ps_for PassesOwn.never rfl (pi_range1 rfl T.f_range (pa_cons (pe_c c1 hr (by decide) rfl (pa_cons (pv 0) (pa_cons (pe_op op_add (pv 2) pe_int) pa_nil))) pa_nil)) (pg_name (i := 6) nd rfl (Or.inl rfl))
        (pss_cons (ps_asg (pe_slice sl_list (pe_c c2 hr (by decide) rfl (pa_cons (pv 0) (pa_cons (pv 1) pa_nil))) po_none (po_some pe_int)) (pg_unl rfl (pgs_cons (pg_name (i := 7) nd rfl (Or.inl rfl)) (pgs_cons (pg_name (i := 8) nd rfl (Or.inl rfl)) pgs_nil))))
        (pss_cons (ps_if (PW.pt (pw_and (pt_val (pv 3)) (pw_and1 (pt_cmp (pc_gt (pe_bm PySem.F.plainAttrs_list PySem.F.slot_list_index PySem.F.type_list_index mt_index (pv 1) (pa_cons (pv 7) pa_nil)) (pe_bm PySem.F.plainAttrs_list PySem.F.slot_list_index PySem.F.type_list_index mt_index (pv 1) (pa_cons (pv 8) pa_nil))))))) (pss_one (ps_par (i := 7) (j := 8) rfl nd rfl rfl (by decide) rfl rfl (pa_cons (pv 8) (pa_cons (pv 7) pa_nil)) rfl)) pss_nil)
        (pss_one (ps_expr (pe_bm PySem.F.plainAttrs_list PySem.F.slot_list_append PySem.F.type_list_append mt_append (pv 5) (pa_cons (pe_tup (pa_cons (pe_ix ix_list (pv 4) (pv 6) (fun _ _ => rfl)) (pa_cons (pv 7) (pa_cons (pv 8) pa_nil)))) pa_nil)))))))
      (pss_one (ps_ret (pv 5)))), ?_⟩
    refine ⟨_, rfl, _, rfl, _, _, rfl, rfl, ⟨by decide, by decide, by decide⟩, (by show 8 ≤ sizeLine; decide), fun l0 hl0 => ?_⟩
    have s1 : Same H (upd H l0 (.lst ([0, 1, 2, 3, 9, -4, (10 : Int) ^ (9 : Int).toNat, 77].map V.int))) := same_new hl0
    have g1 : IL (upd H l0 (.lst ([0, 1, 2, 3, 9, -4, (10 : Int) ^ (9 : Int).toNat, 77].map V.int))) l0 [0, 1, 2, 3, 9, -4, (10 : Int) ^ (9 : Int).toNat, 77] := upd_same
    obtain ⟨q1, q2⟩ := hst.live hl0
    refine ⟨ls, sh, l0, _, rfl, hst.same s1, g1, q1, q2, (by show 8 < 1000; decide), fun H2 nl ns k2 st2 hnl hns perm => ⟨Nat.zero_le _, fun fa hfa => ⟨_, _, rfl, ?_⟩⟩⟩
    have hnn : ([0, 1, 2, 3, 9, -4, (10 : Int) ^ (9 : Int).toNat, 77] : List Int).Nodup := by decide
    have nsn : ns.Nodup := perm.nodup_iff.mpr hnn
    have nsl : ns.length = 8 := perm.length_eq
    have k02 : Lk ls sh H H2 := (Lk.of s1).trans k2
    have s3 : Same H2 (upd H2 fa (.lst [])) := same_new hfa
    have hf3 : upd H2 fa (.lst []) fa = some (.lst []) := upd_same
    have hns3 := s3 _ _ hns
    have st3 := st2.same s3
    have hfH : H fa = none := k02.none st2 hfa
    obtain ⟨f1, f2⟩ := st2.live hfa
    obtain ⟨n1, n2⟩ := (hst.same s1).live hnl
    have nnf : nl ≠ fa := ne_of_none hns hfa
    have k03 := k02.seq s3
    generalize upd H2 fa (.lst []) = H3 at s3 hf3 hns3 st3 k03 ⊢
    refine ⟨_, rfl, _, rfl, _, _, rfl, rfl, ls, sh, m + 1, rfl, st3, by omega, by omega, fun H4 r k4 st4 r0 r1 => ?_⟩
    obtain ⟨j, rfl⟩ := Int.eq_ofNat_of_zero_le r0
    have hnb4 : IL H4 nb nodes := (hnb.lk k03 b1 b2).lk k4 b1 b2
    refine ⟨(j : Int), rfl, by omega, by omega, for_range (lo := 0) (n := j) (fun i σ H' => Lk ls sh H H' ∧ LSt H' ls sh ∧ IL H' nl ns ∧ ∃ (ps : List Addr) (ts : List Tr) (v6 v7 v8 : Option V), σ = [some (.ref ls), some (.ref nb), some (.int m), some (.bl fr), some (.ref nl), some (.ref fa), v6, v7, v8] ∧
        H' fa = some (.lst (ps.map V.ref)) ∧ ps.length = ts.length ∧ (∀ (i : Nat) (p : Addr) (e : Tr), ps[i]? = some p → ts[i]? = some e → TrTup H' p e) ∧ nums ts = ns.take i ∧ ∀ e ∈ ts, e.s ∈ nodes ∧ e.t ∈ nodes ∧ e.s ≠ e.t)
      ⟨k03.trans k4, st4, k4 _ _ hns3 n1 n2, [], [], none, none, none, rfl, k4 _ _ hf3 f1 f2, rfl, (fun i p e z => by simp at z), rfl, (fun e z => nomatch z)⟩ ?_ ?_⟩
    · rintro i σ H5 hi ⟨k5, st5, hns5, ps, ts, v6, v7, v8, rfl, hf5, hpl, hts, hnums, hok⟩
      have hil : i < 8 := by omega
      have htl : ts.length = i := by
        have := congrArg List.length hnums
        unfold nums at this
        rw [List.length_map, List.length_take] at this
        omega
      refine ⟨_, rfl, _, rfl, ls, sh, nb, nodes, rfl, st5, k5 _ _ hnb b1 b2, b1, b2, by omega, fun H6 p ys k6 st6 hp hys perm6 => ⟨_, rfl, p, _, rfl, SqL.of hys, fun t2 ht2 => ?_⟩⟩
      have hyn : ys.Nodup := perm6.nodup_iff.mpr nnd
      obtain ⟨x1, x2, yr, rfl⟩ : ∃ x1 x2 yr, ys = x1 :: x2 :: yr := by
        have hl := perm6.length_eq
        match ys, hl with
        | x1 :: x2 :: yr, _ => exact ⟨x1, x2, yr, rfl⟩
        | [_], hl => simp at hl; omega
        | [], hl => simp at hl; omega
      have ecut : cutV ((x1 :: x2 :: yr).map V.int) none (some 2) = [.int x1, .int x2] := cutV_take _ 2
      rw [ecut]
      have m1 : x1 ∈ nodes := perm6.mem_iff.mp List.mem_cons_self
      have m2 : x2 ∈ nodes := perm6.mem_iff.mp (List.mem_cons_of_mem _ List.mem_cons_self)
      have hne : x1 ≠ x2 := fun z => by
        rw [z, List.nodup_cons] at hyn
        exact hyn.1 List.mem_cons_self
      have s7 : Same H6 (upd H6 t2 (.lst [.int x1, .int x2])) := same_new ht2
      have ht7 : upd H6 t2 (.lst [.int x1, .int x2]) t2 = some (.lst [.int x1, .int x2]) := upd_same
      have st7 := st6.same s7
      have k57 := k6.seq s7
      generalize upd H6 t2 (.lst [.int x1, .int x2]) = H7 at s7 ht7 st7 k57 ⊢
      have k7 := k5.trans k57
      have hns7 : H7 nl = some (.lst (ns.map V.int)) := k57 _ _ hns5 n1 n2
      have hf7 : H7 fa = some (.lst (ps.map V.ref)) := k57 _ _ hf5 f1 f2
      have hnb7 : H7 nb = some (.lst (nodes.map V.int)) := k7 _ _ hnb b1 b2
      have hts7 : ∀ (i : Nat) (p : Addr) (e : Tr), ps[i]? = some p → ts[i]? = some e → TrTup H7 p e := fun i p e a b => k57.tup st5 (hts i p e a b)
      obtain ⟨nn, hnn'⟩ : ∃ nn, ns[i]? = some nn := ⟨ns[i]'(by omega), List.getElem?_eq_getElem (by omega)⟩
      have hat : atI (ns.map V.int) (0 + (i : Int)) = some (.int nn) := by
        rw [Int.zero_add]
        exact atI_nat (by rw [List.getElem?_map, hnn']; rfl)
      have big : (300 : Nat) ≤ sizeLine := by decide
      have hnn1 : nums (ts ++ [⟨nn, x1, x2⟩]) = ns.take (i + 1) ∧ nums (ts ++ [⟨nn, x2, x1⟩]) = ns.take (i + 1) := by
        unfold nums at hnums ⊢
        rw [List.take_add_one, hnn', List.map_append, List.map_append, hnums]
        exact ⟨rfl, rfl⟩
      refine ⟨t2, _, rfl, SqL.of ht7, rfl, _, _, rfl, _, _, rfl, rfl, ?_⟩
      -- the end of a turn
      have fin : ∀ (e : Tr) (v7' v8' : Option V), e.n = nn → e.s ∈ nodes → e.t ∈ nodes → e.s ≠ e.t → nums (ts ++ [e]) = ns.take (i + 1) → ∀ t, H7 t = none →
          (Lk ls sh H (upd (upd H7 t (.tup [.int e.n, .int e.s, .int e.t])) fa (.lst (ps.map V.ref ++ [.ref t]))) ∧ LSt (upd (upd H7 t (.tup [.int e.n, .int e.s, .int e.t])) fa (.lst (ps.map V.ref ++ [.ref t]))) ls sh ∧ IL (upd (upd H7 t (.tup [.int e.n, .int e.s, .int e.t])) fa (.lst (ps.map V.ref ++ [.ref t]))) nl ns ∧
            ∃ (ps' : List Addr) (ts' : List Tr) (v6 v7 v8 : Option V), [some (.ref ls), some (.ref nb), some (.int m), some (.bl fr), some (.ref nl), some (.ref fa), some (.int (0 + (i : Int))), v7', v8'] = [some (.ref ls), some (.ref nb), some (.int m), some (.bl fr), some (.ref nl), some (.ref fa), v6, v7, v8] ∧
            (upd (upd H7 t (.tup [.int e.n, .int e.s, .int e.t])) fa (.lst (ps.map V.ref ++ [.ref t]))) fa = some (.lst (ps'.map V.ref)) ∧ ps'.length = ts'.length ∧ (∀ (i : Nat) (p : Addr) (e' : Tr), ps'[i]? = some p → ts'[i]? = some e' → TrTup (upd (upd H7 t (.tup [.int e.n, .int e.s, .int e.t])) fa (.lst (ps.map V.ref ++ [.ref t]))) p e') ∧ nums ts' = ns.take (i + 1) ∧ ∀ e ∈ ts', e.s ∈ nodes ∧ e.t ∈ nodes ∧ e.s ≠ e.t) := fun e v7' v8' en h1 h2 h3 h4 t ht => by
        have s8 : Same H7 (upd H7 t (.tup [.int e.n, .int e.s, .int e.t])) := same_new ht
        obtain ⟨t1, t2'⟩ := st7.live ht
        obtain ⟨ps', w1, w2, w3⟩ := TsAt.push (s8 _ _ hf7) hpl (fun i p e a b => s8 _ _ (hts7 i p e a b)) (t := t) (e := e) upd_same
        refine ⟨(k7.seq s8).upd hfH, (st7.same s8).upd f1 f2, ?_, ps', ts ++ [e], _, _, _, rfl, w1, w2, w3, h4, fun x hx => ?_⟩
        · show L2.upd _ fa _ nl = _
          rw [upd_ne nnf]
          exact s8 _ _ hns7
        · rcases List.mem_append.mp hx with hx | hx
          · exact hok x hx
          · rw [List.mem_singleton.mp hx]
            exact ⟨h1, h2, h3⟩
      obtain ⟨z1, i1, i2, i3⟩ := index_ok m1
      obtain ⟨z2, j1, j2, j3⟩ := index_ok m2
      refine ⟨_, rfl, fr, rfl, ?_⟩
      have stay : ∀ (D : Prop), D → D := fun _ h => h
      have noswap : ∀ t, H7 t = none → _ := fin ⟨nn, x1, x2⟩ (some (.int x1)) (some (.int x2)) rfl m1 m2 hne hnn1.1
      have swap : ∀ t, H7 t = none → _ := fin ⟨nn, x2, x1⟩ (some (.int x2)) (some (.int x1)) rfl m2 m1 (Ne.symm hne) hnn1.2
      cases fr with
      | false =>
        refine iteF (iteF ?_)
        refine ⟨_, rfl, .inl ⟨rfl, _, SqL.of hf7⟩, _, rfl, _, rfl, nl, _, _, _, rfl, rfl, SqL.of hns7, hat, _, rfl, _, rfl, (by show 3 ≤ sizeLine; decide), fun t ht => ?_⟩
        exact ⟨fa, _, _, rfl, rfl, same_new ht _ _ hf7, by rw [List.length_map]; omega, noswap t ht⟩
      | true =>
        refine iteT ⟨_, rfl, .inl ⟨rfl, _, SqL.of hnb7⟩, _, rfl, nb, _, .int x1, ix nodes x1, z1, rfl, rfl, SqL.of hnb7, rfl, flat_ints nodes, i1, i2, i3, ?_⟩
        refine ⟨_, rfl, .inl ⟨rfl, _, SqL.of hnb7⟩, _, rfl, nb, _, .int x2, ix nodes x2, z2, rfl, rfl, SqL.of hnb7, rfl, flat_ints nodes, j1, j2, j3, ?_⟩
        refine ⟨_, _, rfl, rfl, _, rfl, ite2 (fun _ => ?_) (fun _ => ?_)⟩
        · refine ⟨_, rfl, _, rfl, _, _, rfl, ?_⟩
          refine ⟨_, rfl, .inl ⟨rfl, _, SqL.of hf7⟩, _, rfl, _, rfl, nl, _, _, _, rfl, rfl, SqL.of hns7, hat, _, rfl, _, rfl, (by show 3 ≤ sizeLine; decide), fun t ht => ?_⟩
          exact ⟨fa, _, _, rfl, rfl, same_new ht _ _ hf7, by rw [List.length_map]; omega, swap t ht⟩
        · refine ⟨_, rfl, .inl ⟨rfl, _, SqL.of hf7⟩, _, rfl, _, rfl, nl, _, _, _, rfl, rfl, SqL.of hns7, hat, _, rfl, _, rfl, (by show 3 ≤ sizeLine; decide), fun t ht => ?_⟩
          exact ⟨fa, _, _, rfl, rfl, same_new ht _ _ hf7, by rw [List.length_map]; omega, noswap t ht⟩
    · rintro σ H5 ⟨k5, st5, hns5, ps, ts, v6, v7, v8, rfl, hf5, hpl, hts, hnums, hok⟩
      have htl : ts.length ≤ 5 := by
        have := congrArg List.length hnums
        unfold nums at this
        rw [List.length_map, List.length_take] at this
        omega
      refine ⟨_, rfl, q H5 fa ts k5 st5 hfH ⟨ps, hf5, hpl, hts⟩ htl ?_ hok⟩
      rw [hnums]
      exact nsn.sublist (List.take_sublist _ _)
end
end B58
set_option Elab.async false
set_option linter.all false
set_option maxRecDepth 100000
set_option maxHeartbeats 4000000
/-! The walks: some, rows, begun. -/
namespace B58
open PySem PySem.Spec PyProof.Rows PySem.Calls L2 C8
section
variable {P : Program} {w : World} {K : PySem.W.Frag} {mg : Str → Option Value} {base : Heap} {C : Addr}
/-! ### some -/
def spSome : Sp := fun vs H Q _ => ∃ (ls sh q : Addr) (xs : List Int), vs = [.ref ls, .ref q] ∧ LSt H ls sh ∧ IL H q xs ∧ q ≠ ls ∧ q ≠ sh ∧ xs.length < 1000 ∧ ∀ (H' : Hp) (p : Addr) (ys : List Int), Lk ls sh H H' → LSt H' ls sh → H p = none → IL H' p ys → (∀ x ∈ ys, x ∈ xs) → (xs.Nodup → ys.Nodup) → Q (.ref p) H'
theorem sc_some : FnScope ["_law_state", "_law_things", "_law_thing"] ["_law_state", "_law_things"] (defScope s_some) := ⟨rfl, rfl, rfl, by decide +kernel, rfl, by decide +kernel, by decide +kernel⟩
theorem cal_some (D : Dd K mg "_law_some" s_some) (T : Txt K mg C) (c1 : Cal P w K mg base 2 "_law_draw" spDraw []) (c2 : Cal P w K mg base 4 "_law_shuffled" spShuf []) : Cal P w K mg base 6 "_law_some" spSome [] := by
  refine D.cal (k := 5) sc_some (fun vs H Q E h => ?_) (fun _ _ _ _ _ _ us hl => match us, hl with | [_, _], _ => rfl) (fun f cdv A outer s H vs Q E hr h => ?_)
  · obtain ⟨ls, sh, q, xs, rfl, _⟩ := h
    rfl
  · obtain ⟨ls, sh, a, xs, rfl, hst, ha, n1, n2, hl, q⟩ := h
    have nd := sc_some.nd
    refine ⟨_, pss_one (ps_ret (pe_lc (own := [("_law_thing", 2)]) rfl nd (pi_list (pe_c c2 hr (by decide) rfl (pa_cons (pv 0) (pa_cons (pv 1) pa_nil)))) (blkOk_by (by kernel_rfl)) (fun _ _ _ _ _ => pg_name (i := 2) nd rfl (Or.inl rfl))
      (fun _ _ _ _ _ => pts_one (pt_cmp (pc_gt (pe_c c1 hr (by decide) rfl (pa_cons (pv 0) (pa_cons pe_int pa_nil))) pe_int))) (fun _ _ _ _ _ => pv 2))), ?_⟩
    refine ⟨_, rfl, _, rfl, ls, sh, a, xs, rfl, hst, ha, n1, n2, hl, fun H1 p ys k1 st1 hp hys perm => ?_⟩
    obtain ⟨p1, p2⟩ := hst.live hp
    have hyl := perm.length_eq
    have big : (2000 : Nat) ≤ sizeLine := by decide
    refine ⟨p, rfl, ⟨_, SqL.of hys⟩, fun B hB => ?_⟩
    obtain ⟨b1, b2⟩ := st1.live hB
    have hBH : H B = none := k1.none st1 hB
    refine lc_it (walk_list (xs := ys.map V.int)) (fun i H' => i ≤ ys.length ∧ Lk ls sh H1 H' ∧ LSt H' ls sh ∧ ∃ zs : List Int, zs.Sublist (ys.take i) ∧ H' B = some (.lst (zs.map V.int)))
      ⟨Nat.zero_le _, (Lk.refl _ _ _).upd hB, st1.upd b1 b2, [], List.nil_sublist _, upd_same⟩ (fun i H' _ pz => SqL.of (pz.2.1 _ _ hys p1 p2)) ?_ ?_
    · rintro i x H2 H3 hi ⟨_, k2, st2, zs, hzs, hB2⟩ y
      obtain ⟨rfl, hx⟩ := y
      obtain ⟨n, hn, rfl⟩ := get_int hx
      have hil : i < ys.length := (List.getElem?_eq_some_iff.mp hn).1
      have hzl : zs.length ≤ ys.length := by
        have := hzs.length_le
        rw [List.length_take] at this
        omega
      have htk : ys.take (i + 1) = ys.take i ++ [n] := by
        rw [List.take_add_one, hn]
        rfl
      refine ⟨rfl, _, rfl, ls, sh, 3, rfl, st2, by decide, by decide, fun H4 r k4 st4 r0 r1 => ⟨_, _, rfl, rfl, _, rfl, ite2 (fun _ => ?_) (fun _ => ?_)⟩⟩
      · refine ⟨_, rfl, _, k4 _ _ hB2 b1 b2, by rw [List.length_map]; omega, hil, (k2.trans k4).upd hB, st4.upd b1 b2, zs ++ [n], ?_, ?_⟩
        · rw [htk]
          exact hzs.append (List.Sublist.refl _)
        · rw [upd_same, List.map_append]
          rfl
      · refine ⟨hil, k2.trans k4, st4, zs, ?_, k4 _ _ hB2 b1 b2⟩
        rw [htk]
        exact hzs.trans (List.sublist_append_left _ _)
    · rintro H2 ⟨_, k2, st2, zs, hzs, hB2⟩
      rw [List.length_map, List.take_length] at hzs
      exact q H2 B zs (k1.trans k2) st2 hBH hB2 (fun x hx => perm.mem_iff.mp (hzs.subset hx)) fun hn => (perm.nodup_iff.mpr hn).sublist hzs
/-! ### rows -/
def spRows : Sp := fun vs H Q _ => ∃ (ls sh ln tb : Addr) (m : Nat) (o : List Int) (ts : List Tr), vs = [.ref ls, .ref ln, .ref tb, .int m] ∧ LSt H ls sh ∧ IL H ln o ∧ TsAt H tb ts ∧ ln ≠ ls ∧ ln ≠ sh ∧ tb ≠ ls ∧ tb ≠ sh ∧ o.length ≤ 5 ∧ ts.length ≤ 5 ∧ m ≤ 100 ∧
  ∀ (H' : Hp) (p : Addr) (ks : List Bool), Lk ls sh H H' → LSt H' ls sh → H p = none → ks.length = ts.length → EvsAt H' p (evsOf ts ks (rep o m)) → Q (.ref p) H'
theorem sc_rows : FnScope ["_law_state", "_law_line", "_law_triples_here", "_law_many", "_law_begun_here", "_law_name", "_law_tail", "_law_head", "_law_node"] ["_law_state", "_law_line", "_law_triples_here", "_law_many"] (defScope s_rows) := ⟨rfl, rfl, rfl, by decide +kernel, rfl, by decide +kernel, by decide +kernel⟩
theorem rep_map (o : List Int) : ∀ m : Nat, (List.replicate m (o.map V.int)).flatten = (rep o m).map V.int
  | 0 => rfl
  | m + 1 => by
    have ih := rep_map o m
    unfold rep at ih ⊢
    rw [List.replicate_succ, List.replicate_succ, List.flatten_cons, List.flatten_cons, ih, List.map_append]
/-- begun events and visits side by side -/
theorem evs_join {H : Hp} {p : Addr} {ps qs : List Addr} {ts : List Tr} {ks : List Bool} {vs : List Int} (hk : ks.length = ts.length) (hp : H p = some (.lst (ps.map V.ref ++ qs.map V.ref))) (hl : ps.length = ts.length) (hq : qs.length = vs.length)
    (h1 : ∀ (i : Nat) (a : Addr) (e : Tr) (mv : Bool), ps[i]? = some a → ts[i]? = some e → ks[i]? = some mv → EvAt H a (.beg e.n mv e.s e.t)) (h2 : ∀ (i : Nat) (a : Addr) (v : Int), qs[i]? = some a → vs[i]? = some v → EvAt H a (.vis v)) : EvsAt H p (evsOf ts ks vs) := by
  refine ⟨ps ++ qs, by rw [List.map_append]; exact hp, by rw [List.length_append, evsOf_length hk, hl, hq], fun i a e e1 e2 => ?_⟩
  rcases Nat.lt_or_ge i ps.length with hi | hi
  · rw [List.getElem?_append_left hi] at e1
    have hti : i < ts.length := by omega
    obtain ⟨tr, htr⟩ : ∃ tr, ts[i]? = some tr := ⟨ts[i], List.getElem?_eq_getElem hti⟩
    obtain ⟨mv, hmv⟩ := get_same_len hk.symm htr
    unfold evsOf at e2
    rw [List.getElem?_append_left (by rw [begs_length hk]; exact hti)] at e2
    unfold begs at e2
    rw [List.getElem?_zipWith, htr, hmv] at e2
    rw [← Option.some.inj e2]
    exact h1 i a tr mv e1 htr hmv
  · rw [List.getElem?_append_right hi] at e1
    have : i = ts.length + (i - ps.length) := by omega
    rw [this, evs_vis hk] at e2
    cases hv : vs[i - ps.length]? with
    | none => rw [hv] at e2; cases e2
    | some v =>
      rw [hv] at e2
      rw [← Option.some.inj e2]
      exact h2 _ a v e1 hv
theorem cal_rows (D : Dd K mg "_law_rows" s_rows) (T : Txt K mg C) (c1 : Cal P w K mg base 4 "_law_pick" spPick []) : Cal P w K mg base 6 "_law_rows" spRows [] := by
  refine D.cal (k := 5) sc_rows (fun vs H Q E h => ?_) (fun _ _ _ _ _ _ us hl => match us, hl with | [_, _, _, _], _ => rfl) (fun f cdv A outer s H vs Q E hr h => ?_)
  · obtain ⟨ls, sh, ln, tb, m, o, ts, rfl, _⟩ := h
    rfl
  · obtain ⟨ls, sh, ln, tb, m, o, ts, rfl, hst, hln, htb, n1, n2, t1, t2, ol, tl, hm, q⟩ := h
    have nd := sc_rows.nd
    refine ⟨_, pss_cons (ps_setLc (i := 4) (own := [("_law_name", 5), ("_law_tail", 6), ("_law_head", 7)]) rfl nd rfl rfl (sw_true rfl rfl rfl (by decide +kernel)) (pi_list (pv 2)) (blkOk_by (by kernel_rfl))
          (fun _ _ _ _ _ => (pg_tup rfl (pgs_cons (pg_name (i := 5) nd rfl (Or.inl rfl)) (pgs_cons (pg_name (i := 6) nd rfl (Or.inl rfl)) (pgs_cons (pg_name (i := 7) nd rfl (Or.inl rfl)) pgs_nil))) : PG _ _ (gTup K 3 _))) (fun _ _ _ _ _ => pts_nil)
          (fun _ _ _ _ _ => pe_tup (pa_cons pe_str (pa_cons (pv 5) (pa_cons (pe_c c1 hr (by decide) rfl (pa_cons (pv 0) (pa_cons (pe_lst (pa_cons pe_str (pa_cons pe_str pa_nil))) pa_nil))) (pa_cons (pv 6) (pa_cons (pv 7) pa_nil)))))))
      (pss_one (ps_ret (pe_op op_cat (pv 4) (pe_lc (own := [("_law_node", 8)]) rfl nd (pi_list (pe_op op_rep (pv 1) (pv 3))) (blkOk_by (by kernel_rfl)) (fun _ _ _ _ _ => pg_name (i := 8) nd rfl (Or.inl rfl)) (fun _ _ _ _ _ => pts_nil)
          (fun _ _ _ _ _ => pe_tup (pa_cons pe_str (pa_cons (pv 8) pa_nil))))))), ?_⟩
    obtain ⟨ps, p1, p2, p3⟩ := id htb
    have big : (20000 : Nat) ≤ sizeLine := by decide
    refine ⟨_, rfl, tb, rfl, ⟨_, SqL.of p1⟩, fun B hB => ?_⟩
    obtain ⟨b1, b2⟩ := hst.live hB
    refine lc_it (walk_list (xs := ps.map V.ref)) (fun i H' => i ≤ ts.length ∧ Lk ls sh H H' ∧ LSt H' ls sh ∧ ∃ (qs : List Addr) (ks : List Bool), H' B = some (.lst (qs.map V.ref)) ∧ qs.length = i ∧ ks.length = i ∧ ∀ (j : Nat) (a : Addr) (e : Tr) (mv : Bool), qs[j]? = some a → ts[j]? = some e → ks[j]? = some mv → EvAt H' a (.beg e.n mv e.s e.t))
      ⟨Nat.zero_le _, (Lk.refl _ _ _).upd hB, hst.upd b1 b2, [], [], upd_same, rfl, rfl, fun j a e mv z => by simp at z⟩ (fun i H' _ pz => SqL.of (pz.2.1 _ _ p1 t1 t2)) ?_ ?_
    · rintro i x H2 H3 hi ⟨_, k2, st2, qs, ks, hB2, hql, hkl, hev⟩ y
      obtain ⟨rfl, hx⟩ := y
      obtain ⟨p, hp, rfl⟩ := get_ref hx
      obtain ⟨e, he⟩ := get_same_len p2 hp
      have hil : i < ts.length := (List.getElem?_eq_some_iff.mp he).1
      have hp2 := k2.tup hst (p3 i p e hp he)
      refine ⟨p, _, rfl, SqT.of hp2, rfl, _, _, rfl, _, _, rfl, _, _, rfl, rfl, rfl, tyes ?_⟩
      refine ⟨_, rfl, _, rfl, (by show 2 ≤ sizeLine; decide), fun w0 hw0 => ?_⟩
      have s3 : Same H3 (upd H3 w0 (.lst [.str "move", .str "copy"])) := same_new hw0
      have hw0' : upd H3 w0 (.lst [.str "move", .str "copy"]) w0 = some (.lst [.str "move", .str "copy"]) := upd_same
      obtain ⟨w1, w2⟩ := st2.live hw0
      refine ⟨ls, sh, w0, _, rfl, st2.same s3, hw0', w1, w2, (fun z => by cases z), (by show 2 < 1000; decide), fun H4 x k4 st4 hx4 => ?_⟩
      obtain ⟨mv, rfl⟩ : ∃ mv : Bool, x = .str (kS mv) := by
        rcases List.mem_cons.mp hx4 with z | z
        · exact ⟨true, z⟩
        · exact ⟨false, List.mem_singleton.mp z⟩
      refine ⟨_, rfl, _, rfl, (by show 5 ≤ sizeLine; decide), fun t ht => ?_⟩
      have k24 : Lk ls sh H3 H4 := (Lk.of s3).trans k4
      have s5 : Same H4 (upd H4 t (.tup [.str "begin", .int e.n, .str (kS mv), .int e.s, .int e.t])) := same_new ht
      have ht5 : EvAt (upd H4 t (.tup [.str "begin", .int e.n, .str (kS mv), .int e.s, .int e.t])) t (.beg e.n mv e.s e.t) := upd_same
      have k25 := k24.seq s5
      have st5 := st4.same s5
      generalize upd H4 t (.tup [.str "begin", .int e.n, .str (kS mv), .int e.s, .int e.t]) = H5 at s5 ht5 k25 st5 ⊢
      have hB5 := k25 _ _ hB2 b1 b2
      have tk : TupKeep H5 (upd H5 B (.lst (qs.map V.ref ++ [.ref t]))) := tupKeep_upd hB5 fun xs z => by cases z
      refine ⟨_, hB5, by rw [List.length_map]; omega, hil, (k2.trans k25).upd hB, st5.upd b1 b2, qs ++ [t], ks ++ [mv], ?_, by rw [List.length_append, hql]; rfl, by rw [List.length_append, hkl]; rfl, fun j a e' mv' ea ee ek => tk _ _ ?_⟩
      · rw [upd_same, List.map_append]
        rfl
      · rcases Nat.lt_or_ge j i with hj | hj
        · rw [List.getElem?_append_left (by omega)] at ea ek
          exact k25.tup st2 (hev j a e' mv' ea ee ek)
        · rw [List.getElem?_append_right (by omega)] at ea ek
          have h0 : j = i := by
            have := (List.getElem?_eq_some_iff.mp ea).1
            rw [List.length_singleton] at this
            omega
          rw [h0] at ee
          rw [h0, hql, Nat.sub_self] at ea
          rw [h0, hkl, Nat.sub_self] at ek
          rw [he] at ee
          have q1 : t = a := Option.some.inj ea
          have q2 : e = e' := Option.some.inj ee
          have q3 : mv = mv' := Option.some.inj ek
          rw [← q1, ← q2, ← q3]
          exact ht5
    · rintro H2 ⟨_, k2, st2, qs, ks, hB2, hql, hkl, hev⟩
      rw [List.length_map, p2] at hql hkl
      have hln2 : IL H2 ln o := hln.lk k2 n1 n2
      refine ⟨_, rfl, _, rfl, _, rfl, ln, _, _, rfl, rfl, hln2, by omega, by omega, ?_, fun rl hrl => ?_⟩
      · rw [List.length_map]
        have h1 : (m : Int).toNat = m := Int.toNat_natCast m
        rw [h1]
        have : o.length * m ≤ 5 * 100 := Nat.mul_le_mul ol hm
        omega
      have erep : (List.replicate (m : Int).toNat (o.map V.int)).flatten = (rep o m).map V.int := by
        rw [Int.toNat_natCast, rep_map]
      rw [erep]
      have s3 : Same H2 (upd H2 rl (.lst ((rep o m).map V.int))) := same_new hrl
      have hrl3 : IL (upd H2 rl (.lst ((rep o m).map V.int))) rl (rep o m) := upd_same
      generalize upd H2 rl (.lst ((rep o m).map V.int)) = H3 at s3 hrl3 ⊢
      have hrz : (rep o m).length ≤ 500 := by
        rw [rep_length]
        exact Nat.mul_le_mul hm ol
      refine ⟨rl, rfl, ⟨_, SqL.of hrl3⟩, fun B2 hB2' => lc_same (walk_list (xs := (rep o m).map V.int)) (fun i y H' => ∀ v, (rep o m)[i]? = some v → ∃ a : Addr, y = some (.ref a) ∧ EvAt H' a (.vis v)) (fun i y Ha Hb k h v hv => let ⟨a, g1, g2⟩ := h v hv; ⟨a, g1, k _ _ g2⟩) hB2' (by rw [List.length_map]; omega) (fun H' s => SqL.of (s _ _ hrl3)) ?_ ?_⟩
      · intro i x H4 H5 R hi sm y hR
        obtain ⟨rfl, hx⟩ := y
        obtain ⟨v, hv, rfl⟩ := get_int hx
        refine ⟨rfl, tyes ⟨_, rfl, (by show 2 ≤ sizeLine; decide), fun t ht => ?_⟩⟩
        refine hR (some (.ref t)) _ (fun v' hv' => ?_) (same_new ht)
        rw [hv] at hv'
        rw [← Option.some.inj hv']
        exact ⟨t, rfl, upd_same⟩
      · intro ys H4 s4 hB4 hyl hr'
        rw [List.length_map] at hyl
        obtain ⟨vsA, hvl, hvs⟩ := choose_list (β := Addr) ys (R := fun i y a => y = some (V.ref a) ∧ ∀ v, (rep o m)[i]? = some v → EvAt H4 a (.vis v)) fun i y e => by
          have hi : i < (rep o m).length := by
            have := (List.getElem?_eq_some_iff.mp e).1
            omega
          obtain ⟨a, g1, g2⟩ := hr' i y e _ (List.getElem?_eq_getElem hi)
          refine ⟨a, g1, fun v hv => ?_⟩
          rw [List.getElem?_eq_getElem hi] at hv
          rw [← Option.some.inj hv]
          exact g2
        have eys : ys.filterMap id = vsA.map V.ref := by
          have : ys = vsA.map fun a => some (V.ref a) := by
            apply List.ext_getElem
            · rw [List.length_map, hvl]
            · intro i h1 h2
              rw [List.length_map] at h2
              rw [List.getElem_map]
              exact (hvs i _ _ (List.getElem?_eq_getElem h1) (List.getElem?_eq_getElem h2)).1
          rw [this, List.filterMap_map]
          clear this hvs hvl hr' hyl hB4
          induction vsA with
          | nil => rfl
          | cons c cs ih => rw [List.filterMap_cons, ih]; rfl
        rw [eys] at hB4
        have s24 := s3.trans s4
        have hvl2 : vsA.length = (rep o m).length := by omega
        refine ⟨B, B2, _, _, rfl, rfl, s24 _ _ hB2, hB4, by rw [List.length_map, List.length_map]; omega, fun r hr => ?_⟩
        have s5 : Same H4 (upd H4 r (.lst (qs.map V.ref ++ vsA.map V.ref))) := same_new hr
        have kk := (k2.seq s24).seq s5
        refine q _ r ks kk ((st2.same s24).same s5) ((k2.seq s24).none (st2.same s24) hr) hkl (evs_join hkl upd_same hql hvl2 (fun i a e mv e1 e2 e3 => s5 _ _ (s24 _ _ (hev i a e mv e1 e2 e3))) fun i a v e1 e2 => s5 _ _ ?_)
        obtain ⟨y, hy⟩ := get_same_len hvl e1
        exact (hvs i y a hy e1).2 v e2
end
end B58
set_option Elab.async false
set_option linter.all false
set_option maxRecDepth 100000
set_option maxHeartbeats 4000000
/-! The walks: missing. -/
namespace B58
open PySem PySem.Spec PyProof.Rows PySem.Calls L2 C8 LamX
/-! ### lists of acts -/
def ActAt (H : Hp) (p : Addr) : Act → Prop
  | .car n => H p = some (.tup [.str "carry", .int n])
  | .vis a => H p = some (.tup [.str "visit", .int a])
theorem ActAt.keep {H H' : Hp} {p : Addr} {a : Act} (h : ActAt H p a) (k : TupKeep H H') : ActAt H' p a := by
  cases a with
  | car n => exact k _ _ h
  | vis n => exact k _ _ h
/-- the items ps stand for the acts l -/
def ActsR (H : Hp) (ps : List Addr) (l : List Act) : Prop := ps.length = l.length ∧ ∀ (i : Nat) (p : Addr) (a : Act), ps[i]? = some p → l[i]? = some a → ActAt H p a
theorem ActsR.nil (H : Hp) : ActsR H [] [] := ⟨rfl, fun i p a e => by simp at e⟩
theorem ActsR.keep {H H' : Hp} {ps : List Addr} {l : List Act} (h : ActsR H ps l) (k : TupKeep H H') : ActsR H' ps l := ⟨h.1, fun i p a e1 e2 => (h.2 i p a e1 e2).keep k⟩
theorem ActsR.app {H : Hp} {ps qs : List Addr} {l m : List Act} (h : ActsR H ps l) (g : ActsR H qs m) : ActsR H (ps ++ qs) (l ++ m) := by
  refine ⟨by rw [List.length_append, List.length_append, h.1, g.1], fun i p a e1 e2 => ?_⟩
  rcases Nat.lt_or_ge i ps.length with hi | hi
  · rw [List.getElem?_append_left hi] at e1
    rw [List.getElem?_append_left (by rw [← h.1]; exact hi)] at e2
    exact h.2 i p a e1 e2
  · rw [List.getElem?_append_right hi] at e1
    rw [List.getElem?_append_right (by rw [← h.1]; exact hi), ← h.1] at e2
    exact g.2 _ p a e1 e2
theorem ActsR.pre {H : Hp} {ps qs : List Addr} {l m : List Act} (h : ActsR H (ps ++ qs) (l ++ m)) (e : ps.length = l.length) : ActsR H ps l := by
  refine ⟨e, fun i p a e1 e2 => h.2 i p a ?_ ?_⟩
  · rw [List.getElem?_append_left (List.getElem?_eq_some_iff.mp e1).1]
    exact e1
  · rw [List.getElem?_append_left (List.getElem?_eq_some_iff.mp e2).1]
    exact e2
theorem ActsR.one {H : Hp} {p : Addr} {a : Act} (h : ActAt H p a) : ActsR H [p] [a] := by
  refine ⟨rfl, fun i q b e1 e2 => ?_⟩
  cases i with
  | zero =>
    have e1' : p = q := Option.some.inj e1
    have e2' : a = b := Option.some.inj e2
    rw [← e1', ← e2']
    exact h
  | succ i => simp at e1
def ActsAt (H : Hp) (b : Addr) (l : List Act) : Prop := ∃ ps : List Addr, H b = some (.lst (ps.map V.ref)) ∧ ActsR H ps l
theorem cutV_last (xs : List V) (y : V) : cutV (xs ++ [y]) none (some (-1)) = xs := by
  unfold cutV HT.sIx
  simp only [List.length_append, List.length_singleton, List.drop_zero, Nat.sub_zero]
  rw [if_pos (by decide)]
  have e : (-1 + ((xs.length + 1 : Nat) : Int)).toNat = xs.length := by omega
  rw [e, List.take_left]
section
variable {P : Program} {w : World} {K : PySem.W.Frag} {mg : Str → Option Value} {base : Heap} {C : Addr} {TT : List (Addr × Str)}
def spMissing (TT : List (Addr × Str)) : Sp := fun vs H Q _ => ∃ (a b c : Addr) (o : List Int) (ts : List Tr) (first : List Int), vs = [.ref a, .ref b, .ref c] ∧ IL H a o ∧ TsAt H b ts ∧ IL H c first ∧ Net o ts first ∧ Tabs TT H ∧
  ∀ (H' : Hp) (p : Addr) (n : Nat) (es : List Tr), ExtN H H' → Tabs TT H' → ActsAt H' p (mis o es) → RndE o ts first n es → Q (.ref p) H'
theorem sc_missing : FnScope ["order", "transfers", "first", "number", "way", "one", "by_number", "found", "waiting", "name", "area"] ["order", "transfers", "first"] (defScope s_missing) := ⟨rfl, rfl, rfl, by decide +kernel, rfl, by decide +kernel, by decide +kernel⟩
theorem rnd1_len (e : Tr) : ∀ o : List Int, (rnd1 o e).length ≤ 2 * o.length
  | [] => Nat.le_refl _
  | a :: o => by
    have ih := rnd1_len e o
    unfold rnd1 at ih ⊢
    rw [List.flatMap_cons, List.length_append, List.length_cons]
    split
    · simp only [List.length_cons, List.length_nil]
      omega
    · simp only [List.length_singleton]
      omega
theorem rnd1_snoc (o : List Int) (a : Int) (e : Tr) : rnd1 (o ++ [a]) e = rnd1 o e ++ (if a = e.t then [.vis a, .car e.n] else [.vis a]) := by
  unfold rnd1
  rw [List.flatMap_append]
  simp
/-- what holds between the turns: a list that grows and one that waits -/
structure MsI (H1 : Hp) (fa : Addr) (H' : Hp) (wa : Addr) (acc wt : List Act) (fps wps : List Addr) : Prop where
  same : Same H1 H'
  fn : H1 fa = none
  wn : H1 wa = none
  ne : fa ≠ wa
  fl : H' fa = some (.lst (fps.map V.ref))
  fr : ActsR H' fps acc
  wl : H' wa = some (.lst (wps.map V.ref))
  wr : ActsR H' wps wt
def tupOf : Act → List V
  | .car n => [.str "carry", .int n]
  | .vis a => [.str "visit", .int a]
theorem actAt_of {H : Hp} {p : Addr} {a : Act} (h : H p = some (.tup (tupOf a))) : ActAt H p a := by
  cases a with
  | car n => exact h
  | vis n => exact h
theorem map_snoc_ref (ps : List Addr) (t : Addr) : ps.map V.ref ++ [V.ref t] = (ps ++ [t]).map V.ref := by
  rw [List.map_append]
  rfl
theorem tupKeep_new {H : Hp} {t : Addr} {o : HO} (h : H t = none) : TupKeep H (upd H t o) := fun b xs e => same_new h b _ e
section
variable {H1 H : Hp} {fa wa : Addr} {acc wt : List Act} {fps wps : List Addr}
theorem MsI.new (M : MsI H1 fa H wa acc wt fps wps) {t : Addr} {o : HO} (ht : H t = none) : MsI H1 fa (upd H t o) wa acc wt fps wps :=
  ⟨M.same.trans (same_new ht), M.fn, M.wn, M.ne, same_new ht _ _ M.fl, M.fr.keep (tupKeep_new ht), same_new ht _ _ M.wl, M.wr.keep (tupKeep_new ht)⟩
theorem MsI.setF (M : MsI H1 fa H wa acc wt fps wps) {acc' : List Act} {fps' : List Addr} (h : ActsR H fps' acc') : MsI H1 fa (upd H fa (.lst (fps'.map V.ref))) wa acc' wt fps' wps := by
  have k : TupKeep H (upd H fa (.lst (fps'.map V.ref))) := tupKeep_upd M.fl fun xs z => by cases z
  exact ⟨same_upd M.same M.fn, M.fn, M.wn, M.ne, upd_same, h.keep k, by rw [upd_ne (Ne.symm M.ne)]; exact M.wl, M.wr.keep k⟩
theorem MsI.setW (M : MsI H1 fa H wa acc wt fps wps) {wt' : List Act} {wps' : List Addr} (h : ActsR H wps' wt') : MsI H1 fa (upd H wa (.lst (wps'.map V.ref))) wa acc wt' fps wps' := by
  have k : TupKeep H (upd H wa (.lst (wps'.map V.ref))) := tupKeep_upd M.wl fun xs z => by cases z
  exact ⟨same_upd M.same M.wn, M.fn, M.wn, M.ne, by rw [upd_ne M.ne]; exact M.fl, M.fr.keep k, upd_same, h.keep k⟩
theorem MsI.pushF (M : MsI H1 fa H wa acc wt fps wps) {t : Addr} (x : Act) (ht : H t = none) : MsI H1 fa (upd (upd H t (.tup (tupOf x))) fa (.lst (fps.map V.ref ++ [V.ref t]))) wa (acc ++ [x]) wt (fps ++ [t]) wps := by
  have M2 := M.new (o := .tup (tupOf x)) ht
  rw [map_snoc_ref]
  exact M2.setF (M2.fr.app (.one (actAt_of upd_same)))
theorem MsI.pushW (M : MsI H1 fa H wa acc wt fps wps) {t : Addr} (x : Act) (ht : H t = none) : MsI H1 fa (upd (upd H t (.tup (tupOf x))) wa (.lst (wps.map V.ref ++ [V.ref t]))) wa acc (wt ++ [x]) fps (wps ++ [t]) := by
  have M2 := M.new (o := .tup (tupOf x)) ht
  rw [map_snoc_ref]
  exact M2.setW (M2.wr.app (.one (actAt_of upd_same)))
end
theorem cal_missing (D : Dd K mg "missing" s_missing) (T : Txt K mg C) (c1 : Cal P w K mg base 12 "rounds" (spRounds TT) []) (c2 : Cal P w K mg base 2 "is_against" spAgainst []) : Cal P w K mg base 14 "missing" (spMissing TT) [] := by
  refine D.cal (k := 13) sc_missing (fun vs H Q E h => ?_) (fun _ _ _ _ _ _ us hl => match us, hl with | [_, _, _], _ => rfl) (fun f cdv A outer s H vs Q E hr h => ?_)
  · obtain ⟨a, b, c, o, ts, first, rfl, _⟩ := h
    rfl
  · obtain ⟨a, b, c, o, ts, first, rfl, ha, hb, hc, N, hT, q⟩ := h
    have nd := sc_missing.nd
    refine ⟨_, pss_cons (ps_asg (pe_c c1 hr (by decide) rfl (pa_cons (pv 0) (pa_cons (pv 1) (pa_cons (pv 2) pa_nil)))) (pg_tup rfl (pgs_cons (pg_name (i := 3) nd rfl (Or.inl rfl)) (pgs_cons (pg_name (i := 4) nd rfl (Or.inl rfl)) pgs_nil))))
      (pss_cons (ps_setDc (i := 6) (own := [("one", 5)]) rfl nd rfl rfl (sw_dc rfl rfl rfl (by decide +kernel)) (pi_list (pv 1)) (blkOk_by (by kernel_rfl)) (fun _ _ _ _ _ => pg_name (i := 5) nd rfl (Or.inl rfl)) (fun _ _ _ _ _ => pts_nil)
          (fun _ _ _ _ _ => pe_ix (ix_tup : IxR _ (rIxT K)) (pv 5) pe_int (fun _ _ => rfl)) (fun _ _ _ _ _ => pv 5))
      (pss_cons (ps_par (i := 7) (j := 8) rfl nd rfl rfl (by decide) rfl rfl (pa_cons (pe_lst pa_nil) (pa_cons (pe_lst pa_nil) pa_nil)) rfl)
      (pss_cons (ps_for PassesOwn.never rfl (pi_list (pv 4)) (pg_name (i := 9) nd rfl (Or.inl rfl))
        (pss_cons (ps_set (i := 5) nd rfl (Or.inl rfl) (pe_dget (hu_of hr) (pv 6) (pv 9) (fun _ _ => rfl)))
        (pss_cons (ps_expr (pe_bm PySem.F.plainAttrs_list PySem.F.slot_list_append PySem.F.type_list_append mt_append (pv 8) (pa_cons (pe_tup (pa_cons pe_str (pa_cons (pv 9) pa_nil))) pa_nil)))
        (pss_one (ps_if (pt_val (pe_c c2 hr (by decide) rfl (pa_cons (pv 0) (pa_cons (pv 5) pa_nil))))
          (pss_cons (ps_expr (pe_bm PySem.F.plainAttrs_list PySem.F.slot_list_extend PySem.F.type_list_extend mt_extend (pv 7) (pa_cons (pe_slice sl_list (pv 8) po_none (po_some (pe_un un_neg pe_int))) pa_nil)))
          (pss_cons (ps_for PassesOwn.never rfl (pi_list (pv 0)) (pg_name (i := 10) nd rfl (Or.inl rfl))
            (pss_cons (ps_expr (pe_bm PySem.F.plainAttrs_list PySem.F.slot_list_append PySem.F.type_list_append mt_append (pv 7) (pa_cons (pe_tup (pa_cons pe_str (pa_cons (pv 10) pa_nil))) pa_nil)))
            (pss_one (ps_if (pt_cmp (pc_eqI (pv 10) (pe_ix ix_tup (pv 5) pe_int (fun _ _ => rfl))))
              (pss_one (ps_expr (pe_bm PySem.F.plainAttrs_list PySem.F.slot_list_append PySem.F.type_list_append mt_append (pv 7) (pa_cons (pe_tup (pa_cons pe_str (pa_cons (pv 9) pa_nil))) pa_nil)))) pss_nil))))
          (pss_one (ps_set (i := 8) nd rfl (Or.inl rfl) (pe_lst pa_nil))))) pss_nil)))))
      (pss_one (ps_ret (pv 7)))))), ?_⟩
    refine ⟨_, rfl, _, rfl, _, rfl, a, b, c, o, ts, first, rfl, ha, hb, hc, N, hT, fun H1 p l n es s1 T1 hp hl R => ?_⟩
    refine ⟨p, _, rfl, SqT.of hp, rfl, _, _, rfl, _, _, rfl, rfl, ?_⟩
    have hb1 := hb.extN s1
    have ha1 : IL H1 a o := ExtN.seqL s1 ha
    obtain ⟨ps, p1, p2, p3⟩ := id hb1
    have hes : (∀ e ∈ es, e ∈ ts) ∧ es.length ≤ 5 := by
      rcases R with ⟨_, _, rfl⟩ | ⟨f0, b0, _, hpa, hnd, _, _⟩
      · exact ⟨(fun _ z => nomatch z), Nat.zero_le _⟩
      · exact ⟨hpa.mem, Nat.le_trans (hpa.len hnd) N.t_len⟩
    refine ⟨_, rfl, b, rfl, ⟨_, SqL.of p1⟩, fun B hB => dc_same (walk_list (xs := ps.map V.ref)) (nums ts) (ps.map V.ref) ?_ rfl N.t_nd hB ?_ (fun H' s => SqL.of (s _ _ p1)) ?_ ?_⟩
    · unfold nums
      rw [List.length_map, List.length_map, p2]
    · rw [List.length_map, p2]
      exact Nat.le_trans N.t_len (by decide)
    · intro i x H2 H3 k u Rr Z hi ek eu sm y hR
      obtain ⟨rfl, hx⟩ := y
      obtain ⟨q1, hq1, rfl⟩ := get_ref hx
      have eu' : V.ref q1 = u := Option.some.inj (hx.symm.trans eu)
      obtain ⟨e, he⟩ := get_same_len p2 hq1
      have ek' : e.n = k := by
        unfold nums at ek
        rw [List.getElem?_map, he] at ek
        exact Option.some.inj ek
      refine ⟨rfl, tyes ⟨_, rfl, q1, _, _, _, rfl, rfl, SqT.of (sm _ _ (p3 i q1 e hq1 he)), atI_nat (j := 0) rfl, _, rfl, ?_⟩⟩
      have := hR _ (Same.refl _)
      rw [← ek', ← eu'] at this
      exact this
    · intro H2 s2 hD
      refine ⟨Nat.zero_le _, fun fa hfa => ⟨Nat.zero_le _, fun wa hwa => ⟨_, _, rfl, ?_⟩⟩⟩
      have nfw : fa ≠ wa := fun z => by
        rw [← z, upd_same] at hwa
        cases hwa
      have hwn : H2 wa = none := (same_new hfa).free hwa
      have M0 : MsI H2 fa (upd (upd H2 fa (.lst [])) wa (.lst [])) wa [] [] [] [] := ⟨(same_new hfa).trans (same_new hwa), hfa, hwn, nfw, by rw [upd_ne nfw]; exact upd_same, ActsR.nil _, upd_same, ActsR.nil _⟩
      have hl2 : IL H2 l (nums es) := s2 _ _ hl
      have ha2 : IL H2 a o := ha1.same s2
      refine ⟨_, rfl, l, rfl, ⟨_, SqL.of (M0.same _ _ hl2)⟩, for_list (K := K) (a := l) (xs := (nums es).map V.int) (fun i σ H' => ∃ (wa : Addr) (acc : List Act) (wt : List Tr) (fps wps : List Addr) (v5 v9 v10 : Option V), σ = [some (.ref a), some (.ref b), some (.ref c), some (.int n), some (.ref l), v5, some (.ref B), some (.ref fa), some (.ref wa), v9, v10] ∧
          MsI H2 fa H' wa acc (wt.map fun x => Act.car x.n) fps wps ∧ acc ++ misW o wt (es.drop i) = mis o es ∧ acc.length + wt.length ≤ 12 * i)
        ⟨wa, [], [], [], [], none, none, none, rfl, M0, rfl, Nat.zero_le _⟩ (fun i σ H' _ ⟨_, _, _, _, _, _, _, _, _, M, _⟩ => SqL.of (M.same _ _ hl2)) ?_ ?_⟩
      · rintro i y σ H3 hi ⟨wa, acc, wt, fps, wps, v5, v9, v10, rfl, M, hmis, hlen⟩
        obtain ⟨nm, hnm, rfl⟩ := get_int hi
        have hie : i < es.length := by
          have := (List.getElem?_eq_some_iff.mp hnm).1
          unfold nums at this
          rw [List.length_map] at this
          exact this
        obtain ⟨e, he⟩ : ∃ e, es[i]? = some e := ⟨es[i], List.getElem?_eq_getElem hie⟩
        have enm : nm = e.n := by
          unfold nums at hnm
          rw [List.getElem?_map, he] at hnm
          exact (Option.some.inj hnm).symm
        subst enm
        have hdrop : es.drop i = e :: es.drop (i + 1) := by
          rw [List.drop_eq_getElem_cons hie]
          congr 1
          exact (List.getElem?_eq_some_iff.mp he).2
        have hm : e ∈ ts := hes.1 e (List.mem_of_getElem? he)
        obtain ⟨jx, hjx, ejx⟩ := mem_iff_get.mp hm
        obtain ⟨q1, hq1⟩ := get_same_len p2.symm ejx
        have te2 : TrTup H2 q1 e := s2 _ _ (p3 jx q1 e hq1 ejx)
        have hget : valV (dKz (nums ts) (ps.map V.ref)) (Sum.inl e.n) = some (.ref q1) := by
          refine dKz_get (i := jx) N.t_nd ?_ ?_
          · unfold nums
            rw [List.getElem?_map, ejx]
            rfl
          · rw [List.getElem?_map, hq1]
            rfl
        have hD3 := M.same _ _ hD
        have dg : DGet H3 B (.int e.n) (some (.ref q1)) := by
          have := DGet.k (k := Sum.inl e.n) hD3
          rw [hget] at this
          exact this
        refine ⟨_, rfl, _, rfl, B, _, rfl, dg, ?_⟩
        have i6 : i < 5 := Nat.lt_of_lt_of_le hie hes.2
        have lw : wt.length = wps.length := by
          have := M.wr.1
          rw [List.length_map] at this
          exact this.symm
        have la : acc.length = fps.length := M.fr.1.symm
        have big : (200 : Nat) ≤ sizeLine := by decide
        refine ⟨_, rfl, .inl ⟨rfl, _, SqL.of M.wl⟩, _, rfl, (by show 2 ≤ sizeLine; decide), fun t ht => ⟨wa, _, _, rfl, rfl, same_new ht _ _ M.wl, by rw [List.length_map]; omega, ?_⟩⟩
        have M2 : MsI H2 fa (upd (upd H3 t (.tup [.str "carry", .int e.n])) wa (.lst (wps.map V.ref ++ [V.ref t]))) wa acc ((wt.map fun x => Act.car x.n) ++ [Act.car e.n]) fps (wps ++ [t]) := M.pushW (.car e.n) ht
        have te3 := M2.same _ _ te2
        have ha3 := ha2.same M2.same
        refine ⟨_, rfl, _, rfl, q1, a, e, o, rfl, te3, ha3, N.src e hm, N.tgt e hm, _, rfl, ?_⟩
        generalize upd (upd H3 t (.tup [.str "carry", .int e.n])) wa (.lst (wps.map V.ref ++ [V.ref t])) = H4 at M2 te3 ha3 ⊢
        refine ite2 (fun hag => ?_) (fun hag => ?_)
        · have hmw : misW o wt (es.drop i) = (wt.map fun x => Act.car x.n) ++ (rnd1 o e ++ misW o [] (es.drop (i + 1))) := by
            rw [hdrop]
            show (if ag o e = true then _ else _) = _
            rw [if_pos hag]
          refine ⟨_, rfl, .inl ⟨rfl, _, SqL.of M2.fl⟩, _, rfl, _, rfl, _, rfl, wa, _, rfl, SqL.of M2.wl, fun nl hnl => ?_⟩
          have ec : cutV ((wps ++ [t]).map V.ref) none (some (-1)) = wps.map V.ref := by
            rw [List.map_append]
            exact cutV_last _ _
          rw [ec]
          refine ⟨fa, nl, _, _, rfl, rfl, same_new hnl _ _ M2.fl, upd_same, by rw [List.length_map, List.length_map]; omega, ?_⟩
          have lw' : wps.length = (wt.map fun x => Act.car x.n).length := M.wr.1
          have M3 := (M2.new (o := .lst (wps.map V.ref)) hnl)
          have M4 := M3.setF (M3.fr.app (M3.wr.pre lw'))
          have te4 := M4.same _ _ te2
          rw [List.map_append] at M4
          rw [List.map_append] at te4
          generalize upd (upd H4 nl (.lst (wps.map V.ref))) fa (.lst (fps.map V.ref ++ wps.map V.ref)) = H5 at M4 te4 ⊢
          have r0 := rnd1_len e o
          have hol := N.o_len
          refine ⟨_, rfl, a, rfl, ⟨_, SqL.of (M4.same _ _ ha2)⟩, for_list (K := K) (a := a) (xs := o.map V.int) (fun j σ H' => ∃ (fps' : List Addr) (v10 : Option V), σ = [some (.ref a), some (.ref b), some (.ref c), some (.int n), some (.ref l), some (.ref q1), some (.ref B), some (.ref fa), some (.ref wa), some (.int e.n), v10] ∧
              MsI H2 fa H' wa ((acc ++ wt.map fun x => Act.car x.n) ++ rnd1 (o.take j) e) ((wt.map fun x => Act.car x.n) ++ [Act.car e.n]) fps' (wps ++ [t]) ∧ fps'.length ≤ fps.length + wps.length + 2 * j)
            ⟨fps ++ wps, v10, rfl, by rw [List.take_zero]; show MsI H2 fa _ wa ((acc ++ _) ++ []) _ _ _; rw [List.append_nil]; exact M4, by rw [List.length_append]; omega⟩ (fun i σ H' _ ⟨_, _, _, M, _⟩ => SqL.of (M.same _ _ ha2)) ?_ ?_⟩
          · rintro j y σ H6 hj ⟨fps', v10, rfl, M6, hl6⟩
            obtain ⟨x, hx, rfl⟩ := get_int hj
            have hjo : j < o.length := (List.getElem?_eq_some_iff.mp hx).1
            have te6 : TrTup H6 q1 e := M6.same _ _ te2
            have htk : rnd1 (o.take (j + 1)) e = rnd1 (o.take j) e ++ (if x = e.t then [.vis x, .car e.n] else [.vis x]) := by
              rw [List.take_add_one, hx]
              exact rnd1_snoc _ _ _
            refine ⟨_, rfl, .inl ⟨rfl, _, SqL.of M6.fl⟩, _, rfl, (by show 2 ≤ sizeLine; decide), fun t2 ht2 => ⟨fa, _, _, rfl, rfl, same_new ht2 _ _ M6.fl, by rw [List.length_map]; omega, ?_⟩⟩
            have M7 : MsI H2 fa (upd (upd H6 t2 (.tup [.str "visit", .int x])) fa (.lst (fps'.map V.ref ++ [V.ref t2]))) wa (((acc ++ wt.map fun x => Act.car x.n) ++ rnd1 (o.take j) e) ++ [Act.vis x]) ((wt.map fun x => Act.car x.n) ++ [Act.car e.n]) (fps' ++ [t2]) (wps ++ [t]) := M6.pushF (.vis x) ht2
            have te7 : TrTup _ q1 e := M7.same _ _ te2
            refine ⟨_, rfl, _, rfl, q1, _, _, _, rfl, rfl, SqT.of te7, atI_nat (j := 2) rfl, _, _, rfl, rfl, _, rfl, ?_⟩
            generalize upd (upd H6 t2 (.tup [.str "visit", .int x])) fa (.lst (fps'.map V.ref ++ [V.ref t2])) = H7 at M7 te7 ⊢
            refine ite2 (fun hxt => ?_) (fun hxt => ?_)
            · have hxt : x = e.t := of_decide_eq_true hxt
              refine ⟨_, rfl, .inl ⟨rfl, _, SqL.of M7.fl⟩, _, rfl, (by show 2 ≤ sizeLine; decide), fun t3 ht3 => ⟨fa, _, _, rfl, rfl, same_new ht3 _ _ M7.fl, by rw [List.length_map, List.length_append, List.length_singleton]; omega, ?_⟩⟩
              have M8 := M7.pushF (.car e.n) ht3
              have eacc : ((acc ++ wt.map fun x => Act.car x.n) ++ rnd1 (o.take (j + 1)) e) = (((acc ++ wt.map fun x => Act.car x.n) ++ rnd1 (o.take j) e) ++ [Act.vis x]) ++ [Act.car e.n] := by
                rw [htk, if_pos hxt]
                simp only [List.append_assoc]
                rfl
              refine ⟨fps' ++ [t2] ++ [t3], _, rfl, ?_, ?_⟩
              · rw [eacc]
                exact M8
              · rw [List.length_append, List.length_append, List.length_singleton, List.length_singleton]
                omega
            · have hxt : ¬ x = e.t := fun z => hxt (decide_eq_true z)
              refine ⟨fps' ++ [t2], _, rfl, ?_, ?_⟩
              · rw [htk, if_neg hxt, ← List.append_assoc]
                exact M7
              · rw [List.length_append, List.length_singleton]
                omega
          · rintro σ H6 ⟨fps', v10, rfl, M6, hl6⟩
            rw [List.length_map, List.take_length] at M6
            rw [List.length_map] at hl6
            refine ⟨Nat.zero_le _, fun w2 hw2 => ?_⟩
            have M7 := M6.new (o := .lst []) hw2
            refine ⟨w2, ((acc ++ wt.map fun x => Act.car x.n) ++ rnd1 o e), [], fps', [], _, _, _, rfl, ⟨M7.same, M7.fn, M6.same.free hw2, ne_of_none M6.fl hw2, M7.fl, M7.fr, upd_same, ActsR.nil _⟩, ?_, ?_⟩
            · rw [← hmis, hmw]
              simp only [List.append_assoc]
            · rw [List.length_append, List.length_append, List.length_map]
              show _ + 0 ≤ _
              omega
        · have hmw : misW o wt (es.drop i) = misW o (wt ++ [e]) (es.drop (i + 1)) := by
            rw [hdrop]
            show (if ag o e = true then _ else _) = _
            rw [if_neg hag]
          refine ⟨wa, acc, wt ++ [e], fps, wps ++ [t], _, _, _, rfl, ?_, by rw [← hmis, hmw], ?_⟩
          · rw [List.map_append]
            exact M2
          · rw [List.length_append, List.length_singleton]
            omega
      · rintro σ H3 ⟨wa, acc, wt, fps, wps, v5, v9, v10, rfl, M, hmis, hlen⟩
        have hnl : ((nums es).map V.int).length = es.length := by
          unfold nums
          rw [List.length_map, List.length_map]
        rw [hnl, List.drop_length] at hmis
        have ea : acc = mis o es := by
          rw [← hmis]
          exact (List.append_nil acc).symm
        refine ⟨_, rfl, q H3 fa n es ((s1.trans (ExtN.of s2)).trans (ExtN.of M.same)) ((T1.ext s2).ext M.same) ⟨fps, M.fl, by rw [← ea]; exact M.fr⟩ R⟩
end
end B58
set_option Elab.async false
set_option linter.all false
set_option maxRecDepth 100000
set_option maxHeartbeats 4000000
/-! The walks: begun, shown. -/
namespace B58
open PySem PySem.Spec PyProof.Rows PySem.Calls L2 C8
theorem push_gen {β : Type} {R : Addr → β → Prop} {ps : List Addr} {l : List β} (h2 : ps.length = l.length) (h3 : ∀ (i : Nat) (p : Addr) (x : β), ps[i]? = some p → l[i]? = some x → R p x) {t : Addr} {x : β} (h : R t x) :
    (ps ++ [t]).length = (l ++ [x]).length ∧ ∀ (i : Nat) (p : Addr) (y : β), (ps ++ [t])[i]? = some p → (l ++ [x])[i]? = some y → R p y := by
  refine ⟨by rw [List.length_append, List.length_append, h2]; rfl, fun i p y e1 e2 => ?_⟩
  rcases Nat.lt_or_ge i ps.length with hi | hi
  · rw [List.getElem?_append_left hi] at e1
    rw [List.getElem?_append_left (by rw [← h2]; exact hi)] at e2
    exact h3 i p y e1 e2
  · rw [List.getElem?_append_right hi] at e1
    rw [List.getElem?_append_right (by rw [← h2]; exact hi), ← h2] at e2
    have h0 : i - ps.length = 0 := by
      rcases Nat.eq_zero_or_pos (i - ps.length) with z | z
      · exact z
      · rw [List.getElem?_eq_none (by simp only [List.length_singleton]; omega)] at e1
        cases e1
    rw [h0] at e1 e2
    have e1' : t = p := Option.some.inj e1
    have e2' : x = y := Option.some.inj e2
    rw [← e1', ← e2']
    exact h
theorem evsOf_snoc (ts : List Tr) (ks : List Bool) (vs : List Int) (v : Int) : evsOf ts ks (vs ++ [v]) = evsOf ts ks vs ++ [.vis v] := by
  unfold evsOf
  rw [List.map_append, List.append_assoc]
  rfl
theorem EvsAt.push {H : Hp} {ra t : Addr} {ps : List Addr} {ts : List Tr} {ks : List Bool} {vs : List Int} {v : Int} (h1 : H ra = some (.lst (ps.map V.ref))) (h2 : ps.length = (evsOf ts ks vs).length) (h3 : ∀ (i : Nat) (p : Addr) (e : Ev), ps[i]? = some p → (evsOf ts ks vs)[i]? = some e → EvAt H p e) (ht : EvAt H t (.vis v)) :
    EvsAt (upd H ra (.lst (ps.map V.ref ++ [V.ref t]))) ra (evsOf ts ks (vs ++ [v])) := by
  have tk : TupKeep H (upd H ra (.lst (ps.map V.ref ++ [V.ref t]))) := tupKeep_upd h1 fun xs z => by cases z
  obtain ⟨g1, g2⟩ := push_gen (R := fun p e => EvAt H p e) h2 h3 ht
  rw [evsOf_snoc]
  exact ⟨ps ++ [t], by rw [upd_same, List.map_append]; rfl, g1, fun i p e a b => tk _ _ (g2 i p e a b)⟩
theorem WyAt.push {H : Hp} {ra t : Addr} {ps : List Addr} {wy : List (Tr × Nat)} {x : Tr × Nat} (h1 : H ra = some (.lst (ps.map V.ref))) (h2 : ps.length = wy.length) (h3 : ∀ (i : Nat) (p : Addr) (x : Tr × Nat), ps[i]? = some p → wy[i]? = some x → H p = some (.tup [.int x.1.n, .int (x.2 : Nat)])) (ht : H t = some (.tup [.int x.1.n, .int (x.2 : Nat)])) :
    WyAt (upd H ra (.lst (ps.map V.ref ++ [V.ref t]))) ra (wy ++ [x]) := by
  have tk : TupKeep H (upd H ra (.lst (ps.map V.ref ++ [V.ref t]))) := tupKeep_upd h1 fun xs z => by cases z
  obtain ⟨g1, g2⟩ := push_gen (R := fun p (x : Tr × Nat) => H p = some (.tup [.int x.1.n, .int (x.2 : Nat)])) h2 h3 ht
  exact ⟨ps ++ [t], by rw [upd_same, List.map_append]; rfl, g1, fun i p e a b => tk _ _ (g2 i p e a b)⟩
/-! ### triples as data -/
def encT (e : Tr) : PyData := .tuple [.int e.n, .int e.s, .int e.t]
theorem canLay_ts : ∀ l : List Tr, PyData.canLayAll0 (l.map encT) = true
  | [] => rfl
  | x :: l => by
    show PyData.canLayAll0 (encT x :: l.map encT) = true
    rw [PyData.canLayAll0, canLay_ts l]
    unfold encT
    simp only [PyData.canLay0, PyData.canLayAll0, Bool.and_true]
theorem depth_ts : ∀ l : List Tr, PyData.depthAll (l.map encT) ≤ 8
  | [] => by simp [PyData.depthAll]
  | x :: l => by
    show PyData.depthAll (encT x :: l.map encT) ≤ 8
    rw [PyData.depthAll]
    exact Nat.max_le.mpr ⟨by simp [encT, PyData.depth, PyData.depthAll], depth_ts l⟩
theorem shaped_ts (l : List Tr) : SeqAt.shaped (.list (l.map encT)) = true := by
  unfold SeqAt.shaped
  have h1 : PyData.canLay0 (.list (l.map encT)) = true := by
    rw [PyData.canLay0]
    exact canLay_ts l
  have h2 : (PyData.list (l.map encT)).depth ≤ 64 := by
    rw [PyData.depth]
    have := depth_ts l
    omega
  rw [h1, decide_eq_true h2]
  rfl
theorem dp_ts {K : PySem.W.Frag} {H : Hp} : ∀ l : List (Addr × Tr), (∀ x ∈ l, TrTup H x.1 x.2) → DpAll K H (l.map fun x => V.ref x.1) ((l.map fun x => x.2).map encT)
  | [], _ => .nil
  | x :: l, h => .cons (.tup (SqT.of (h x List.mem_cons_self)) (.cons (.int _) (.cons (.int _) (.cons (.int _) .nil)))) (dp_ts l fun y hy => h y (List.mem_cons_of_mem _ hy))
theorem shaped_two (a b : Int) : SeqAt.shaped (.tuple [.int a, .int b]) = true := by
  unfold SeqAt.shaped
  have h1 : PyData.canLay0 (.tuple [.int a, .int b]) = true := by
    simp only [PyData.canLay0, PyData.canLayAll0, Bool.and_true]
  have h2 : (PyData.tuple [.int a, .int b]).depth ≤ 64 := by
    simp [PyData.depth, PyData.depthAll]
  rw [h1, decide_eq_true h2]
  rfl
theorem eqv_two (a b c d : Int) : PyData.eqv (.tuple [.int a, .int b]) (.tuple [.int c, .int d]) = decide (a = c ∧ b = d) := by
  simp only [PyData.eqv, PyData.eqvAll, Bool.and_true]
  by_cases h1 : a = c
  · by_cases h2 : b = d
    · simp [h1, h2]
    · simp [h1, h2]
  · simp [h1]
section
variable {P : Program} {w : World} {K : PySem.W.Frag} {mg : Str → Option Value} {base : Heap} {C : Addr}
/-! ### begun -/
def spBegun : Sp := fun vs H Q _ => ∃ (a : Addr) (ns : List Int), vs = [.ref a] ∧ SqL (K := K) H a (ns.map V.int) ∧ ns.length ≤ 63 ∧ ∀ (H' : Hp) (ls sh : Addr), Same H H' → H ls = none → H sh = none → LSt H' ls sh → Q (.ref ls) H'
theorem sc_begun : FnScope ["_law_script", "_law_figure"] ["_law_script"] (defScope s_begun) := ⟨rfl, rfl, rfl, by decide +kernel, rfl, by decide +kernel, by decide +kernel⟩
theorem cal_begun (D : Dd K mg "_law_begun" s_begun) (T : Txt K mg C) : Cal P w K mg base 2 "_law_begun" (spBegun (K := K)) [] := by
  refine D.cal (k := 1) sc_begun (fun vs H Q E h => ?_) (fun _ _ _ _ _ _ us hl => match us, hl with | [_], _ => rfl) (fun f cdv A outer s H vs Q E hr h => ?_)
  · obtain ⟨a, ns, rfl, _⟩ := h
    rfl
  · obtain ⟨a, ns, rfl, ha, hl, q⟩ := h
    have nd := sc_begun.nd
    refine ⟨_, pss_one (ps_ret (pe_lst (pa_cons (pe_orT (pe_lc (own := [("_law_figure", 1)]) rfl nd (pi_list (pe_slice sl_list (pv 0) po_none (po_some pe_int))) (blkOk_by (by kernel_rfl)) (fun _ _ _ _ _ => pg_name (i := 1) nd rfl (Or.inl rfl)) (fun _ _ _ _ _ => pts_nil)
      (fun _ _ _ _ _ => pe_callB call_abs rfl T.f_abs bo_abs (pa_cons (pv 1) pa_nil))) (pe_one (pe_lst (pa_cons pe_int pa_nil)))) (pa_cons pe_int (pa_cons pe_int pa_nil))))), ?_⟩
    have big : (2000 : Nat) ≤ sizeLine := by decide
    refine ⟨_, rfl, _, rfl, a, _, rfl, ha, fun b hb => ?_⟩
    have ecut : cutV (ns.map V.int) none (some 63) = ns.map V.int := by
      have := cutV_take (ns.map V.int) 63
      rw [List.take_of_length_le (by rw [List.length_map]; exact hl)] at this
      exact this
    rw [ecut]
    have s1 : Same H (upd H b (.lst (ns.map V.int))) := same_new hb
    have hb1 : upd H b (.lst (ns.map V.int)) b = some (.lst (ns.map V.int)) := upd_same
    generalize upd H b (.lst (ns.map V.int)) = H1 at s1 hb1 ⊢
    refine ⟨b, rfl, ⟨_, SqL.of hb1⟩, fun B hB => lc_same (walk_list (xs := ns.map V.int)) (fun i y _ => ∀ n, ns[i]? = some n → y = some (.int (if n < 0 then -n else n))) (fun _ _ _ _ _ e => e) hB (by rw [List.length_map]; omega) (fun H' s => SqL.of (s _ _ hb1)) ?_ ?_⟩
    · intro i x H2 H3 R hi sm y hR
      obtain ⟨rfl, hx⟩ := y
      obtain ⟨n, hn, rfl⟩ := get_int hx
      refine ⟨rfl, tyes ⟨_, rfl, n, rfl, hR _ _ (fun n' hn' => ?_) (Same.refl _)⟩⟩
      rw [hn] at hn'
      rw [← Option.some.inj hn']
    · intro ys H2 s2 hB2 hyl hr'
      have eys : ys.filterMap id = (ns.map fun n => if n < 0 then -n else n).map V.int := by
        rw [map_range_of (l := ns) (f := fun n => V.int (if n < 0 then -n else n)) (by rw [hyl, List.length_map]) fun i y e1 => ?_, List.map_map]
        · rfl
        · have hi : i < ns.length := by
            have := (List.getElem?_eq_some_iff.mp e1).1
            rw [hyl, List.length_map] at this
            exact this
          exact ⟨_, List.getElem?_eq_getElem hi, hr' i y e1 _ (List.getElem?_eq_getElem hi)⟩
      rw [eys] at hB2
      have s12 := s1.trans s2
      have hBH : H B = none := s1.free hB
      refine ⟨_, .inl ⟨_, SqL.of hB2, rfl⟩, ?_⟩
      have fin : ∀ (H3 : Hp) (sh : Addr) (figs : List Int), Same H H3 → H sh = none → IL H3 sh figs → figs ≠ [] → figs.length ≤ 63 → ∀ l, H3 l = none → Q (.ref l) (upd H3 l (.lst [.ref sh, .int 0, .int 1])) := fun H3 sh figs s3 hsh hf h1 h2 l hl => by
        refine q _ l sh (s3.trans (same_new hl)) (s3.free hl) hsh ⟨0, 1, figs, upd_same, same_new hl _ _ hf, h1, h2, by decide, by decide⟩
      cases ns with
      | nil =>
        refine iteF ⟨(by show 1 ≤ sizeLine; decide), fun c hc => ⟨(by show 3 ≤ sizeLine; decide), fun l hl => ?_⟩⟩
        exact fin _ c [7] (s12.trans (same_new hc)) (s12.free hc) upd_same (fun z => by cases z) (by decide) l hl
      | cons n ns =>
        refine iteT ⟨(by show 3 ≤ sizeLine; decide), fun l hl => ?_⟩
        exact fin _ B _ s12 hBH hB2 (fun z => by cases z) (by rw [List.length_map]; exact ‹(n :: ns).length ≤ 63›) l hl
/-! ### shown -/
def spShown : Sp := fun vs H Q _ => ∃ (tb th : Addr) (p0 : Int) (ts : List Tr) (l : List Act), vs = [.ref tb, .int p0, .ref th] ∧ TsAt H tb ts ∧ ActsAt H th l ∧ (nums ts).Nodup ∧ ts.length ≤ 5 ∧ l.length ≤ 1000 ∧
  (shn ts [] [] p0 l = none → ∀ H', Same H H' → Q .non H') ∧ ∀ r, shn ts [] [] p0 l = some r → ∀ (H' : Hp) (t rb wb : Addr), Same H H' → H' t = some (.tup [.ref rb, .ref wb, .int r.2.2]) → EvsAt H' rb (evsOf ts (List.replicate ts.length true) r.1) → WyAt H' wb r.2.1 → Q (.ref t) H'
theorem sc_shown : FnScope ["_law_triples_here", "_law_spot", "_law_thing", "_law_rows_here", "_law_way", "_law_word", "_law_one", "_law_name", "_law_tail", "_law_head", "_law_triple"] ["_law_triples_here", "_law_spot", "_law_thing"] (defScope s_shown) := ⟨rfl, rfl, rfl, by decide +kernel, rfl, by decide +kernel, by decide +kernel⟩
theorem cal_shown (D : Dd K mg "_law_shown" s_shown) (T : Txt K mg C) : Cal P w K mg base 2 "_law_shown" spShown [] := by
  refine D.cal (k := 1) sc_shown (fun vs H Q E h => ?_) (fun _ _ _ _ _ _ us hl => match us, hl with | [_, _, _], _ => rfl) (fun f cdv A outer s H vs Q E hr h => ?_)
  · obtain ⟨tb, th, p0, ts, l, rfl, _⟩ := h
    rfl
  · obtain ⟨tb, th, p0, ts, l, rfl, htb, hth, tnd, tl, ll, qn, qs⟩ := h
    have nd := sc_shown.nd
    refine ⟨_, pss_cons (ps_par (i := 3) (j := 4) rfl nd rfl rfl (by decide) rfl rfl (pa_cons (pe_lc (own := [("_law_name", 7), ("_law_tail", 8), ("_law_head", 9)]) rfl nd (pi_list (pv 0)) (blkOk_by (by kernel_rfl))
          (fun _ _ _ _ _ => (pg_tup rfl (pgs_cons (pg_name (i := 7) nd rfl (Or.inl rfl)) (pgs_cons (pg_name (i := 8) nd rfl (Or.inl rfl)) (pgs_cons (pg_name (i := 9) nd rfl (Or.inl rfl)) pgs_nil))) : PG _ _ (gTup K 3 _))) (fun _ _ _ _ _ => pts_nil)
          (fun _ _ _ _ _ => pe_tup (pa_cons pe_str (pa_cons (pv 7) (pa_cons pe_str (pa_cons (pv 8) (pa_cons (pv 9) pa_nil))))))) (pa_cons (pe_lst pa_nil) pa_nil)) rfl)
      (pss_cons (ps_for PassesOwn.never rfl (pi_list (pv 2)) (pg_tup rfl (pgs_cons (pg_name (i := 5) nd rfl (Or.inl rfl)) (pgs_cons (pg_name (i := 6) nd rfl (Or.inr rfl)) pgs_nil)))
        (pss_one (ps_if (pt_cmpR op_eq (pv 5) pe_str (nomark _))
          (pss_cons (ps_expr (pe_bm PySem.F.plainAttrs_list PySem.F.slot_list_append PySem.F.type_list_append mt_append (pv 3) (pa_cons (pe_tup (pa_cons pe_str (pa_cons (pv 6) pa_nil))) pa_nil)))
          (pss_one (ps_if (pt_cmp (pc_eqI (pv 6) (pv 1))) (pss_one (ps_ret pe_non)) pss_nil)))
          (pss_one (ps_if (pt_cmpR (op_neD hr.units) (pe_lc (own := [("_law_triple", 10)]) rfl nd (pi_list (pv 0)) (blkOk_by (by kernel_rfl)) (fun _ _ _ _ _ => pg_name (i := 10) nd rfl (Or.inl rfl))
              (fun _ _ _ _ _ => pts_one (pt_cmpR (op_eqD hr.units : OpR _ _ (rEqD K)) (pe_slice (sl_tup : SlR _ (rSlT K)) (pv 10) po_none (po_some pe_int)) (pe_tup (pa_cons (pv 6) (pa_cons (pv 1) pa_nil))) (nomark _))) (fun _ _ _ _ _ => pv 10)) (pe_lst pa_nil) (nomark _))
            (pss_cons (ps_expr (pe_bm PySem.F.plainAttrs_list PySem.F.slot_list_append PySem.F.type_list_append mt_append (pv 4) (pa_cons (pe_tup (pa_cons (pv 6) (pa_cons (pe_callB call_len_seq rfl T.f_len bo_len (pa_cons (pv 3) pa_nil)) pa_nil))) pa_nil)))
            (pss_one (ps_set (i := 1) nd rfl (Or.inr rfl) (pe_ix ix_list (pe_lc (own := [("_law_triple", 10)]) rfl nd (pi_list (pv 0)) (blkOk_by (by kernel_rfl)) (fun _ _ _ _ _ => pg_name (i := 10) nd rfl (Or.inl rfl))
              (fun _ _ _ _ _ => pts_one (pt_cmp (pc_eqI (pe_ix (ix_tup : IxR _ (rIxT K)) (pv 10) pe_int (fun _ _ => rfl)) (pv 6)))) (fun _ _ _ _ _ => pe_ix (ix_tup : IxR _ (rIxT K)) (pv 10) pe_int (fun _ _ => rfl))) pe_int (fun _ _ => rfl))))) pss_nil)))))
      (pss_one (ps_ret (pe_tup (pa_cons (pv 3) (pa_cons (pv 4) (pa_cons (pv 1) pa_nil))))))), ?_⟩
    obtain ⟨ps, p1, p2, p3⟩ := id htb
    obtain ⟨qs0, a1, a2⟩ := id hth
    have big : (20000 : Nat) ≤ sizeLine := by decide
    have hKS : (List.replicate ts.length true).length = ts.length := List.length_replicate
    refine ⟨_, rfl, tb, rfl, ⟨_, SqL.of p1⟩, fun B hB => lc_same (walk_list (xs := ps.map V.ref)) (fun i y H' => ∀ e, ts[i]? = some e → ∃ a : Addr, y = some (.ref a) ∧ EvAt H' a (.beg e.n true e.s e.t)) (fun i y Ha Hb k h e he => let ⟨a, g1, g2⟩ := h e he; ⟨a, g1, k _ _ g2⟩) hB (by rw [List.length_map]; omega) (fun H' s => SqL.of (s _ _ p1)) ?_ ?_⟩
    · intro i x H1 H2 R hi sm y hR
      obtain ⟨rfl, hx⟩ := y
      obtain ⟨pp, hp, rfl⟩ := get_ref hx
      obtain ⟨e, he⟩ := get_same_len p2 hp
      refine ⟨pp, _, rfl, SqT.of (sm _ _ (p3 i pp e hp he)), rfl, _, _, rfl, _, _, rfl, _, _, rfl, rfl, rfl, tyes ⟨_, rfl, _, rfl, _, rfl, (by show 5 ≤ sizeLine; decide), fun t ht => ?_⟩⟩
      refine hR (some (.ref t)) _ (fun e' he' => ?_) (same_new ht)
      rw [he] at he'
      rw [← Option.some.inj he']
      exact ⟨t, rfl, upd_same⟩
    · intro ys H1 s1 hB1 hyl hr'
      rw [List.length_map, p2] at hyl
      obtain ⟨vsA, hvl, hvs⟩ := choose_list (β := Addr) ys (R := fun i y a => y = some (V.ref a) ∧ ∀ e, ts[i]? = some e → EvAt H1 a (.beg e.n true e.s e.t)) fun i y e => by
        have hi : i < ts.length := by
          have := (List.getElem?_eq_some_iff.mp e).1
          omega
        obtain ⟨a, g1, g2⟩ := hr' i y e _ (List.getElem?_eq_getElem hi)
        refine ⟨a, g1, fun v hv => ?_⟩
        rw [List.getElem?_eq_getElem hi] at hv
        rw [← Option.some.inj hv]
        exact g2
      have eys : ys.filterMap id = vsA.map V.ref := by
        have : ys = vsA.map fun a => some (V.ref a) := by
          apply List.ext_getElem
          · rw [List.length_map, hvl]
          · intro i h1 h2
            rw [List.length_map] at h2
            rw [List.getElem_map]
            exact (hvs i _ _ (List.getElem?_eq_getElem h1) (List.getElem?_eq_getElem h2)).1
        rw [this, List.filterMap_map]
        clear this hvs hvl hr' hyl hB1
        induction vsA with
        | nil => rfl
        | cons c cs ih => rw [List.filterMap_cons, ih]; rfl
      rw [eys] at hB1
      have hBH : H B = none := hB
      have ev1 : EvsAt H1 B (evsOf ts (List.replicate ts.length true) []) := by
        refine evs_join (ps := vsA) (qs := []) hKS (by rw [List.map_nil, List.append_nil]; exact hB1) (by omega) rfl (fun i a e mv e1 e2 e3 => ?_) fun i a v z => by simp at z
        have hmv : mv = true := by
          have := List.getElem?_eq_some_iff.mp e3
          obtain ⟨z1, z2⟩ := this
          rw [List.getElem_replicate] at z2
          exact z2.symm
        rw [hmv]
        obtain ⟨y, hy⟩ := get_same_len hvl e1
        exact (hvs i y a hy e1).2 e e2
      refine ⟨Nat.zero_le _, fun wa hwa => ⟨_, _, rfl, ?_⟩⟩
      have s2 : Same H1 (upd H1 wa (.lst [])) := same_new hwa
      have hw2 : WyAt (upd H1 wa (.lst [])) wa [] := ⟨[], upd_same, rfl, fun i p x z => by simp at z⟩
      have hwH : H wa = none := s1.free hwa
      have nBw : B ≠ wa := ne_of_none hB1 hwa
      have ev2 := ev1.same s2
      have s12 := s1.trans s2
      generalize upd H1 wa (.lst []) = H2 at s2 hw2 ev2 s12 ⊢
      -- the two lists kept apart
      have evW : ∀ {H' : Hp} {o : HO} {es : List Ev}, (∃ xs, H' wa = some (.lst xs)) → EvsAt H' B es → EvsAt (upd H' wa o) B es := fun {H' o es} ⟨xs, h⟩ e => e.keep (fun xs e => by rw [upd_ne nBw]; exact e) (tupKeep_upd h fun xs z => by cases z)
      have wyB : ∀ {H' : Hp} {o : HO} {wy : List (Tr × Nat)}, (∃ xs, H' B = some (.lst xs)) → WyAt H' wa wy → WyAt (upd H' B o) wa wy := fun {H' o wy} ⟨xs, h⟩ ⟨es, e1, e2, e3⟩ => ⟨es, by rw [upd_ne (Ne.symm nBw)]; exact e1, e2, fun i p x a b => tupKeep_upd h (fun xs z => by cases z) _ _ (e3 i p x a b)⟩
      refine ⟨_, rfl, th, rfl, ⟨_, SqL.of (s12 _ _ a1)⟩, for_list (K := K) (a := th) (xs := qs0.map V.ref) (fun i σ H' => Same H H' ∧ ∃ (vs : List Int) (wy : List (Tr × Nat)) (p : Int) (v5 v6 v7 v8 v9 v10 : Option V), σ = [some (.ref tb), some (.int p), some (.ref th), some (.ref B), some (.ref wa), v5, v6, v7, v8, v9, v10] ∧
          EvsAt H' B (evsOf ts (List.replicate ts.length true) vs) ∧ WyAt H' wa wy ∧ shn ts vs wy p (l.drop i) = shn ts [] [] p0 l ∧ vs.length + wy.length ≤ i)
        ⟨s12, [], [], p0, none, none, none, none, none, none, rfl, ev2, hw2, rfl, Nat.le_refl _⟩ (fun i σ H' _ pz => SqL.of (pz.1 _ _ a1)) ?_ ?_⟩
      · rintro i y σ H3 hi ⟨s3, vs, wy, p, v5, v6, v7, v8, v9, v10, rfl, ev3, hw3, hsh, hlen⟩
        obtain ⟨q1, hq1, rfl⟩ := get_ref hi
        obtain ⟨act, hact⟩ := get_same_len a2.1 hq1
        have hil : i < l.length := (List.getElem?_eq_some_iff.mp hact).1
        have hdr : l.drop i = act :: l.drop (i + 1) := by
          rw [List.drop_eq_getElem_cons hil]
          congr 1
          exact (List.getElem?_eq_some_iff.mp hact).2
        rw [hdr] at hsh
        have hat := a2.2 i q1 act hq1 hact
        obtain ⟨es, e1, e2, e3⟩ := id ev3
        obtain ⟨ws, w1, w2, w3⟩ := id hw3
        have esl : es.length = ts.length + vs.length := by rw [e2, evsOf_length hKS]
        cases act with
        | vis a =>
          have hq3 : H3 q1 = some (.tup [.str "visit", .int a]) := s3 _ _ hat
          refine ⟨q1, _, rfl, SqT.of hq3, rfl, _, _, rfl, _, _, rfl, rfl, ?_⟩
          refine ⟨_, rfl, rfl, true, by show V.bl (decide (V.str "visit" = V.str "visit")) = _; rw [dec_self], iteT ?_⟩
          refine ⟨_, rfl, .inl ⟨rfl, _, SqL.of e1⟩, _, rfl, (by show 2 ≤ sizeLine; decide), fun t ht => ?_⟩
          have s4 : Same H3 (upd H3 t (.tup [.str "visit", .int a])) := same_new ht
          have ht4 : EvAt (upd H3 t (.tup [.str "visit", .int a])) t (.vis a) := upd_same
          generalize upd H3 t (.tup [.str "visit", .int a]) = H4 at s4 ht4 ⊢
          have e14 := s4 _ _ e1
          refine ⟨B, _, _, rfl, rfl, e14, by rw [List.length_map]; omega, ?_⟩
          have ev5 := EvsAt.push e14 e2 (fun i p e a b => s4 _ _ (e3 i p e a b)) ht4
          have w5 := wyB (o := .lst (es.map V.ref ++ [.ref t])) ⟨_, e14⟩ (hw3.same s4)
          have s5 : Same H (upd H4 B (.lst (es.map V.ref ++ [.ref t]))) := same_upd (s3.trans s4) hBH
          generalize upd H4 B (.lst (es.map V.ref ++ [.ref t])) = H5 at ev5 w5 s5 ⊢
          refine ⟨_, rfl, _, rfl, _, _, rfl, rfl, _, rfl, ite2 (fun hap => ?_) (fun hap => ?_)⟩
          · have hap : a = p := of_decide_eq_true hap
            rw [hap, shn_vis0] at hsh
            exact qn hsh.symm H5 s5
          · have hap : a ≠ p := fun z => hap (decide_eq_true z)
            rw [shn_vis1 hap] at hsh
            exact ⟨s5, _, wy, p, _, _, _, _, _, _, rfl, ev5, w5, hsh, by rw [List.length_append, List.length_singleton]; omega⟩
        | car n =>
          have hq3 : H3 q1 = some (.tup [.str "carry", .int n]) := s3 _ _ hat
          refine ⟨q1, _, rfl, SqT.of hq3, rfl, _, _, rfl, _, _, rfl, rfl, ?_⟩
          refine ⟨_, rfl, rfl, false, by show V.bl (decide (V.str "carry" = V.str "visit")) = _; rw [decide_eq_false (by decide +kernel)], iteF ?_⟩
          have p13 := s3 _ _ p1
          have hZ : ∀ {i : Nat} {pa : Addr} {e : Tr}, ps[i]? = some pa → ts[i]? = some e → (ps.zip ts)[i]? = some (pa, e) := fun {i pa e} h1 h2 => by
            rw [List.getElem?_zip_eq_some]
            exact ⟨h1, h2⟩
          have hZl : (ps.zip ts).length = ts.length := by rw [List.length_zip, p2, Nat.min_self]
          have hZt : ∀ x ∈ ps.zip ts, TrTup H3 x.1 x.2 := fun x hx => by
            obtain ⟨j, hj, ej⟩ := mem_iff_get.mp hx
            rw [List.getElem?_zip_eq_some] at ej
            exact s3 _ _ (p3 j x.1 x.2 ej.1 ej.2)
          refine ⟨_, rfl, tb, rfl, ⟨_, SqL.of p13⟩, fun D hD => lc_same (walk_list (xs := ps.map V.ref)) (fun i y _ => ∀ x, (ps.zip ts)[i]? = some x → y = if decide (x.2.n = n ∧ x.2.s = p) = true then some (V.ref x.1) else none) (fun _ _ _ _ _ e => e) hD (by rw [List.length_map]; omega) (fun H' s => SqL.of (s _ _ p13)) ?_ ?_⟩
          · intro j x H4 H5 R hj sm y hR
            obtain ⟨rfl, hx⟩ := y
            obtain ⟨pj, hpj, rfl⟩ := get_ref hx
            obtain ⟨e, he⟩ := get_same_len p2 hpj
            have hp4 := sm _ _ (s3 _ _ (p3 j pj e hpj he))
            refine ⟨rfl, _, rfl, _, rfl, pj, _, rfl, SqT.of hp4, (fun z => absurd (show HT.sIx 3 3 (some 2) = 3 from z.2) (by decide)), fun t1 ht1 => ?_⟩
            have ecut : cutV [V.int e.n, V.int e.s, V.int e.t] none (some 2) = [.int e.n, .int e.s] := cutV_take _ 2
            refine ⟨_, rfl, _, rfl, (by show 2 ≤ sizeLine; decide), fun t2 ht2 => ?_⟩
            have g1 := same_new (o := .tup (cutV [V.int e.n, V.int e.s, V.int e.t] none (some 2))) ht1
            have g2 := g1.trans (same_new (o := .tup [.int n, .int p]) ht2)
            have k1 := same_new (o := .tup [.int n, .int p]) ht2 _ _ (upd_same (H := H5) (a := t1) (o := .tup (cutV [V.int e.n, V.int e.s, V.int e.t] none (some 2))))
            rw [ecut] at k1
            refine ⟨.tuple [.int e.n, .int e.s], .tuple [.int n, .int p], .tup (SqT.of k1) (.cons (.int _) (.cons (.int _) .nil)), .tup (SqT.of upd_same) (.cons (.int _) (.cons (.int _) .nil)), shaped_two _ _, shaped_two _ _, _, by rw [eqv_two], ?_⟩
            refine ite2 (fun hc => ?_) (fun hc => ?_)
            · refine ⟨_, rfl, hR (some (.ref pj)) _ (fun x hx => ?_) g2⟩
              rw [hZ hpj he] at hx
              rw [← Option.some.inj hx]
              exact (if_pos hc).symm
            · refine hR none _ (fun x hx => ?_) g2
              rw [hZ hpj he] at hx
              rw [← Option.some.inj hx]
              exact (if_neg hc).symm
          · intro ys H4 s4 hD4 hyl2 hr2
            have eys2 : ys.filterMap id = ((ps.zip ts).filter fun x => decide (x.2.n = n ∧ x.2.s = p)).map fun x => V.ref x.1 := by
              refine filter_of (l := ps.zip ts) (p := fun x => decide (x.2.n = n ∧ x.2.s = p)) (f := fun x => V.ref x.1) (by rw [hyl2, List.length_map, hZl, p2]) fun i y e => ?_
              have hi : i < (ps.zip ts).length := by
                have := (List.getElem?_eq_some_iff.mp e).1
                rw [hyl2, List.length_map] at this
                omega
              exact ⟨_, List.getElem?_eq_getElem hi, hr2 i y e _ (List.getElem?_eq_getElem hi)⟩
            rw [eys2] at hD4
            refine ⟨Nat.zero_le _, fun b0 hb0 => ?_⟩
            have s5 : Same H4 (upd H4 b0 (.lst [])) := same_new hb0
            have hb5 : upd H4 b0 (.lst []) b0 = some (.lst []) := upd_same
            have hD5 := s5 _ _ hD4
            have s35 := s4.trans s5
            generalize upd H4 b0 (.lst []) = H5 at s5 hb5 hD5 s35 ⊢
            refine ⟨.list ((((ps.zip ts).filter fun x => decide (x.2.n = n ∧ x.2.s = p)).map fun x => x.2).map encT), .list [], .lst (SqL.of hD5) (dp_ts _ fun x hx => s35 _ _ (hZt x (List.mem_filter.mp hx).1)), .lst (SqL.of hb5) .nil, shaped_ts _, rfl, ?_⟩
            have sH5 := s3.trans s35
            cases hf : ts.find? fun e => decide (e.n = n ∧ e.s = p) with
            | none =>
              rw [shn_car0 hf] at hsh
              have e0 : ((ps.zip ts).filter fun x => decide (x.2.n = n ∧ x.2.s = p)) = [] := by
                rw [List.filter_eq_nil_iff]
                intro x hx
                obtain ⟨j, hj, ej⟩ := mem_iff_get.mp hx
                rw [List.getElem?_zip_eq_some] at ej
                exact List.find?_eq_none.mp hf x.2 (List.mem_of_getElem? ej.2)
              rw [e0]
              refine ⟨false, rfl, iteF ?_⟩
              exact ⟨sH5, vs, wy, p, _, _, _, _, _, _, rfl, ev3.same s35, hw3.same s35, hsh, by omega⟩
            | some e =>
              rw [shn_car1 hf] at hsh
              have hm := List.mem_of_find?_eq_some hf
              have hd := List.find?_some hf
              have hd' : e.n = n ∧ e.s = p := of_decide_eq_true hd
              have hne : PyData.eqv (.list ((((ps.zip ts).filter fun x => decide (x.2.n = n ∧ x.2.s = p)).map fun x => x.2).map encT)) (.list []) = false := by
                obtain ⟨j, hj, ej⟩ := mem_iff_get.mp hm
                obtain ⟨pj, hpj⟩ := get_same_len p2.symm ej
                have h1 : (pj, e) ∈ (ps.zip ts).filter fun x => decide (x.2.n = n ∧ x.2.s = p) := List.mem_filter.mpr ⟨List.mem_of_getElem? (hZ hpj ej), hd⟩
                cases hq : (ps.zip ts).filter fun x => decide (x.2.n = n ∧ x.2.s = p) with
                | nil => rw [hq] at h1; cases h1
                | cons _ _ => rfl
              refine ⟨true, by rw [hne]; rfl, iteT ?_⟩
              have ev5 := ev3.same s35
              have e15 := s35 _ _ e1
              have w15 := s35 _ _ w1
              refine ⟨_, rfl, .inl ⟨rfl, _, SqL.of w15⟩, _, rfl, _, rfl, B, _, rfl, .inl (SqL.of e15), (by show 2 ≤ sizeLine; decide), fun t ht => ?_⟩
              have elen : (es.map V.ref).length = ts.length + vs.length := by rw [List.length_map, esl]
              rw [elen]
              have s6 : Same H5 (upd H5 t (.tup [.int n, .int ((ts.length + vs.length : Nat) : Int)])) := same_new ht
              have ht6 : upd H5 t (.tup [.int n, .int ((ts.length + vs.length : Nat) : Int)]) t = some (.tup [.int n, .int ((ts.length + vs.length : Nat) : Int)]) := upd_same
              generalize upd H5 t (.tup [.int n, .int ((ts.length + vs.length : Nat) : Int)]) = H6 at s6 ht6 ⊢
              have w16 := s6 _ _ w15
              have wyl : wy.length ≤ 1000 := by omega
              refine ⟨wa, _, _, rfl, rfl, w16, by rw [List.length_map]; omega, ?_⟩
              have w7 := WyAt.push (x := (e, ts.length + vs.length)) w16 w2 (fun i p x a b => s6 _ _ (s35 _ _ (w3 i p x a b))) (by rw [hd'.1]; exact ht6)
              have ev7 := evW (o := .lst (ws.map V.ref ++ [.ref t])) ⟨_, w16⟩ (ev5.same s6)
              have s7 : Same H (upd H6 wa (.lst (ws.map V.ref ++ [.ref t]))) := same_upd (sH5.trans s6) hwH
              generalize upd H6 wa (.lst (ws.map V.ref ++ [.ref t])) = H7 at w7 ev7 s7 ⊢
              have p17 := s7 _ _ p1
              refine ⟨_, rfl, tb, rfl, ⟨_, SqL.of p17⟩, fun D2 hD2 => lc_same (walk_list (xs := ps.map V.ref)) (fun i y _ => ∀ x, ts[i]? = some x → y = if decide (x.n = n) = true then some (V.int x.t) else none) (fun _ _ _ _ _ e => e) hD2 (by rw [List.length_map]; omega) (fun H' s => SqL.of (s _ _ p17)) ?_ ?_⟩
              · intro j x H8 H9 R hj sm y hR
                obtain ⟨rfl, hx⟩ := y
                obtain ⟨pj, hpj, rfl⟩ := get_ref hx
                obtain ⟨e', he'⟩ := get_same_len p2 hpj
                have hp8 := sm _ _ (s7 _ _ (p3 j pj e' hpj he'))
                refine ⟨rfl, _, rfl, pj, _, _, _, rfl, rfl, SqT.of hp8, atI_nat (j := 0) rfl, _, rfl, _, _, rfl, rfl, _, rfl, ite2 (fun hc => ?_) (fun hc => ?_)⟩
                · refine ⟨_, rfl, pj, _, _, _, rfl, rfl, SqT.of hp8, atI_nat (j := 2) rfl, hR (some (.int e'.t)) _ (fun x hx => ?_) (Same.refl _)⟩
                  rw [he'] at hx
                  rw [← Option.some.inj hx]
                  exact (if_pos hc).symm
                · refine hR none _ (fun x hx => ?_) (Same.refl _)
                  rw [he'] at hx
                  rw [← Option.some.inj hx]
                  exact (if_neg hc).symm
              · intro ys3 H8 s8 hD8 hyl3 hr3
                have eys3 : ys3.filterMap id = (ts.filter fun x => decide (x.n = n)).map fun x => V.int x.t := by
                  refine filter_of (l := ts) (p := fun x => decide (x.n = n)) (f := fun x => V.int x.t) (by rw [hyl3, List.length_map, p2]) fun i y e => ?_
                  have hi : i < ts.length := by
                    have := (List.getElem?_eq_some_iff.mp e).1
                    rw [hyl3, List.length_map] at this
                    omega
                  exact ⟨_, List.getElem?_eq_getElem hi, hr3 i y e _ (List.getElem?_eq_getElem hi)⟩
                rw [eys3] at hD8
                have h0 : ((ts.filter fun x => decide (x.n = n)).map fun x => V.int x.t)[0]? = some (.int e.t) := by
                  have h1 : e ∈ ts.filter fun x => decide (x.n = n) := List.mem_filter.mpr ⟨hm, decide_eq_true hd'.1⟩
                  cases hq : ts.filter fun x => decide (x.n = n) with
                  | nil => rw [hq] at h1; cases h1
                  | cons x xs =>
                    have hx : x ∈ ts.filter fun x => decide (x.n = n) := by rw [hq]; exact List.mem_cons_self
                    obtain ⟨g1, g2⟩ := List.mem_filter.mp hx
                    have : x = e := nums_inj tnd g1 hm (by rw [of_decide_eq_true g2, hd'.1])
                    rw [this]
                    rfl
                refine ⟨D2, _, _, _, rfl, rfl, SqL.of hD8, atI_nat (j := 0) h0, ?_⟩
                exact ⟨s7.trans s8, vs, wy ++ [(e, ts.length + vs.length)], e.t, _, _, _, _, _, _, rfl, ev7.same s8, w7.same s8, hsh, by rw [List.length_append, List.length_singleton]; omega⟩
      · rintro σ H3 ⟨s3, vs, wy, p, v5, v6, v7, v8, v9, v10, rfl, ev3, hw3, hsh, hlen⟩
        rw [List.length_map, a2.1, List.drop_length] at hsh
        refine ⟨_, rfl, _, rfl, _, rfl, (by show 3 ≤ sizeLine; decide), fun t ht => ?_⟩
        have s4 : Same H3 (upd H3 t (.tup [.ref B, .ref wa, .int p])) := same_new ht
        exact qs (vs, wy, p) hsh.symm _ t B wa (s3.trans s4) upd_same (ev3.same s4) (hw3.same s4)
end
end B58
set_option Elab.async false
set_option linter.all false
set_option maxRecDepth 100000
set_option maxHeartbeats 4000000
/-! The walks: missing_right. -/
namespace B58
open PySem PySem.Spec PyProof.Rows PySem.Calls L2 C8 LamX
theorem shn_len {ts : List Tr} : ∀ {l : List Act} {vs : List Int} {wy : List (Tr × Nat)} {p : Int} {r : List Int × List (Tr × Nat) × Int}, shn ts vs wy p l = some r → r.1.length ≤ vs.length + l.length
  | [], vs, wy, p, r, h => by
    cases (Option.some.inj h)
    exact Nat.le_refl _
  | .vis a :: l, vs, wy, p, r, h => by
    by_cases ha : a = p
    · rw [ha, shn_vis0] at h
      cases h
    · rw [shn_vis1 ha] at h
      have := shn_len h
      rw [List.length_append, List.length_singleton] at this
      rw [List.length_cons]
      omega
  | .car n :: l, vs, wy, p, r, h => by
    cases hf : ts.find? fun e => decide (e.n = n ∧ e.s = p) with
    | none =>
      rw [shn_car0 hf] at h
      have := shn_len h
      rw [List.length_cons]
      omega
    | some e =>
      rw [shn_car1 hf] at h
      have := shn_len h
      rw [List.length_cons]
      omega
theorem misW_len (o : List Int) : ∀ (es wt : List Tr), (misW o wt es).length ≤ wt.length + es.length * (1 + 2 * o.length)
  | [], wt => Nat.zero_le _
  | e :: es, wt => by
    show (if ag o e = true then (wt.map fun x => Act.car x.n) ++ (rnd1 o e ++ misW o [] es) else misW o (wt ++ [e]) es).length ≤ _
    have h1 := rnd1_len e o
    have h2 := misW_len o es []
    have h3 := misW_len o es (wt ++ [e])
    rw [List.length_append, List.length_singleton] at h3
    have h4 : (es.length + 1) * (1 + 2 * o.length) = es.length * (1 + 2 * o.length) + (1 + 2 * o.length) := Nat.succ_mul _ _
    rw [List.length_cons, h4]
    rw [List.length_nil, Nat.zero_add] at h2
    split
    · rw [List.length_append, List.length_append, List.length_map]
      omega
    · omega
theorem shaped_acts : ∀ {K : PySem.W.Frag} {H : Hp}, DpAll K H [] [] := .nil
section
variable {P : Program} {w : World} {K : PySem.W.Frag} {mg : Str → Option Value} {base : Heap} {C : Addr} {TT : List (Addr × Str)}
def spMR (TT : List (Addr × Str)) : Sp := fun vs H Q _ => ∃ (a b c : Addr) (n : Nat) (o : List Int) (ts : List Tr) (first wl : List Int), vs = [.ref a, .ref b, .ref c, .int n] ∧ IL H a o ∧ TsAt H b ts ∧ IL H c first ∧ Net o ts first ∧ Tabs TT H ∧ Rnd o ts first n wl ∧ ∀ H', ExtN H H' → Tabs TT H' → Q (.bl true) H'
theorem sc_missing_right : FnScope ["_law_line", "_law_triples_here", "_law_origin", "_law_number", "_law_thing", "_law_node", "_law_shown_here"] ["_law_line", "_law_triples_here", "_law_origin", "_law_number"] (defScope s_missing_right) := ⟨rfl, rfl, rfl, by decide +kernel, rfl, by decide +kernel, by decide +kernel⟩
theorem cal_missing_right (D : Dd K mg "_law_missing_right" s_missing_right) (T : Txt K mg C) (c1 : Cal P w K mg base 14 "missing" (spMissing TT) []) (c2 : Cal P w K mg base 2 "_law_shown" spShown []) (c3 : Cal P w K mg base 10 "is_journey" spJour []) : Cal P w K mg base 16 "_law_missing_right" (spMR TT) [] := by
  refine D.cal (k := 15) sc_missing_right (fun vs H Q E h => ?_) (fun _ _ _ _ _ _ us hl => match us, hl with | [_, _, _, _], _ => rfl) (fun f cdv A outer s H vs Q E hr h => ?_)
  · obtain ⟨a, b, c, n, o, ts, first, wl, rfl, _⟩ := h
    rfl
  · obtain ⟨a, b, c, n, o, ts, first, wl, rfl, ha, hb, hc, N, hT, R0, q⟩ := h
    have nd := sc_missing_right.nd
    refine ⟨_, pss_cons (ps_set (i := 4) nd rfl (Or.inl rfl) (pe_c c1 hr (by decide) rfl (pa_cons (pv 0) (pa_cons (pv 1) (pa_cons (pv 2) pa_nil)))))
      (pss_cons (ps_if (pt_cmp (pc_lt (pv 3) pe_int)) (pss_one (ps_ret (pe_cmpR (op_eqD hr.units) (pv 4) (pe_lst pa_nil) (nomark _)))) pss_nil)
      (pss_cons (ps_for PassesOwn.never rfl (pi_list (pv 2)) (pg_name (i := 5) nd rfl (Or.inl rfl))
        (pss_cons (ps_set (i := 6) nd rfl (Or.inl rfl) (pe_c c2 hr (by decide) rfl (pa_cons (pv 1) (pa_cons (pv 5) (pa_cons (pv 4) pa_nil)))))
        (pss_one (ps_if (PW.pt (pw_and (pt_cmp (pc_notN (pv 6))) (pw_and1 (pt_val (pe_c c3 hr (by decide) rfl (pa_cons (pv 2) (pa_cons (pe_ix ix_tup (pv 6) pe_int (fun _ _ => rfl)) (pa_cons (pe_ix ix_tup (pv 6) pe_int (fun _ _ => rfl)) (pa_cons (pe_ix ix_tup (pv 6) pe_int (fun _ _ => rfl)) pa_nil))))))))) (pss_one (ps_ret pe_bl)) pss_nil))))
      (pss_one (ps_ret pe_bl)))), ?_⟩
    refine ⟨_, rfl, _, rfl, _, rfl, a, b, c, o, ts, first, rfl, ha, hb, hc, N, hT, fun H1 th n' es x1 T1 hth RE => ?_⟩
    have en : n' = n := (RE.rnd).inj R0
    subst en
    have hb1 := hb.extN x1
    have hc1 : IL H1 c first := ExtN.seqL x1 hc
    obtain ⟨qs, a1, a2⟩ := id hth
    refine ⟨_, rfl, _, _, rfl, rfl, _, rfl, ite2 (fun hlt => ?_) (fun hge => ?_)⟩
    · have hlt : (n' : Int) < 2 := of_decide_eq_true hlt
      have e0 : mis o es = [] := by
        rcases RE with ⟨_, _, rfl⟩ | ⟨f0, b0, _, _, _, hn, _⟩
        · rfl
        · exact misW_nil (by omega)
      rw [e0] at a2
      have hq0 : qs = [] := List.eq_nil_of_length_eq_zero a2.1
      rw [hq0] at a1
      refine ⟨_, rfl, Nat.zero_le _, fun b0 hb0 => ?_⟩
      have s2 : Same H1 (upd H1 b0 (.lst [])) := same_new hb0
      exact ⟨.list [], .list [], .lst (SqL.of (s2 _ _ a1)) .nil, .lst (SqL.of upd_same) .nil, rfl, rfl, q _ (extN_same x1 s2) (T1.ext s2)⟩
    · have hge : ¬ (n' : Int) < 2 := fun z => hge (decide_eq_true z)
      rcases RE with ⟨_, hn, _⟩ | ⟨f0, b0, hf0, hpa, hnd, hn, hmx⟩
      · omega
      obtain ⟨r0, hr0⟩ := shn_mis N.o_nd N.t_nd N.tgt (es := es) (wt := []) (vs := []) (wy := []) (p := f0) (q := f0) (b := b0) rfl hpa
      have hr0 : shn ts [] [] f0 (mis o es) = some r0 := hr0
      have hesl : es.length ≤ 5 := by
        have : (nums es).length ≤ (nums ts).length := nodup_len hnd fun x hx => by
          obtain ⟨e, he, rfl⟩ := List.mem_map.mp hx
          exact mem_nums (path_all hpa e he)
        unfold nums at this
        rw [List.length_map, List.length_map] at this
        exact Nat.le_trans this N.t_len
      have hml : (mis o es).length ≤ 55 := by
        have h1 := misW_len o es []
        have h2 : es.length * (1 + 2 * o.length) ≤ 5 * 11 := Nat.mul_le_mul hesl (by have := N.o_len; omega)
        rw [List.length_nil] at h1
        show (misW o [] es).length ≤ 55
        omega
      have hKS : (List.replicate ts.length true).length = ts.length := List.length_replicate
      refine ⟨_, rfl, c, rfl, ⟨_, SqL.of hc1⟩, for_list (K := K) (a := c) (xs := first.map V.int) (fun i σ H' => Same H1 H' ∧ ∃ (v5 v6 : Option V), σ = [some (.ref a), some (.ref b), some (.ref c), some (.int n'), some (.ref th), v5, v6] ∧ ∀ g ∈ first.take i, shn ts [] [] g (mis o es) = none)
        ⟨Same.refl _, none, none, rfl, fun g hg => by simp at hg⟩ (fun i σ H' _ pz => SqL.of (pz.1 _ _ hc1)) ?_ ?_⟩
      · rintro i y σ H2 hi ⟨s2, v5, v6, rfl, hnone⟩
        obtain ⟨g, hg, rfl⟩ := get_int hi
        have htk : first.take (i + 1) = first.take i ++ [g] := by
          rw [List.take_add_one, hg]
          rfl
        refine ⟨_, rfl, _, rfl, _, rfl, b, th, g, ts, mis o es, rfl, hb1.same s2, ⟨qs, s2 _ _ a1, a2.keep (same_tups s2)⟩, N.t_nd, N.t_len, by omega, fun hno H3 s3 => ?_, fun r hr H3 t rb wb s3 ht3 ev3 wy3 => ?_⟩
        · refine ⟨_, rfl, false, rfl, iteF (iteF ?_)⟩
          refine ⟨s2.trans s3, _, _, rfl, fun g' hg' => ?_⟩
          rw [htk] at hg'
          rcases List.mem_append.mp hg' with z | z
          · exact hnone g' z
          · rw [List.mem_singleton.mp z]
            exact hno
        · obtain ⟨J, hsub⟩ := shn_jr (Jr.start ts g) hr
          have hvl := shn_len hr
          have s13 := s2.trans s3
          have hcs : (cars (mis o es)).Sublist (nums es) := cars_sub N.o_nd
          have hwn : (nums (r.2.1.map Prod.fst)).Nodup := hnd.sublist (List.Sublist.trans hsub hcs)
          refine ⟨_, rfl, true, by show V.bl (!decide (V.ref t = V.non)) = _; rw [decide_eq_false (by intro z; cases z)]; rfl, iteT ?_⟩
          refine ⟨_, rfl, _, rfl, t, _, _, _, rfl, rfl, SqT.of ht3, atI_nat (j := 0) rfl, _, rfl, t, _, _, _, rfl, rfl, SqT.of ht3, atI_nat (j := 2) rfl, _, rfl, t, _, _, _, rfl, rfl, SqT.of ht3, atI_nat (j := 1) rfl, ?_⟩
          refine ⟨c, rb, wb, r.2.2, g, o, first, ts, List.replicate ts.length true, r.1, r.2.1, rfl, hc1.same s13, ev3, hKS, N, by rw [List.length_nil] at hvl; omega, wy3, J, hwn, List.mem_of_getElem? hg, fun H4 s4 => ⟨true, rfl, iteT ?_⟩⟩
          exact q H4 (extN_same x1 (s13.trans s4)) ((T1.ext s13).ext s4)
      · rintro σ H2 ⟨s2, v5, v6, rfl, hnone⟩
        rw [List.length_map, List.take_length] at hnone
        have := hnone f0 hf0
        rw [hr0] at this
        cases this
end
end B58
set_option Elab.async false
set_option linter.all false
set_option maxRecDepth 100000
set_option maxHeartbeats 4000000
/-! The walk of the law. -/
namespace B58
open PySem PySem.Spec PyProof.Rows PySem.Calls L2 C8 LamX
theorem LSt.extN {H H' : Hp} {ls sh : Addr} (h : LSt H ls sh) (x : ExtN H H') : LSt H' ls sh := by
  obtain ⟨a, b, figs, e1, e2, h3⟩ := h
  exact ⟨a, b, figs, ExtN.seqL x e1, ExtN.seqL x e2, h3⟩
theorem tabs_lk {TT : List (Addr × Str)} {H H' : Hp} {ls sh : Addr} (t : Tabs TT H) (k : Lk ls sh H H') (st : LSt H ls sh) : Tabs TT H' := by
  obtain ⟨a, b, figs, e1, e2, _⟩ := st
  have e2' : H sh = some (.lst (figs.map V.int)) := e2
  refine tabs_keep (Sx := fun b => b = ls ∨ b = sh) t (fun b o e hn => k b o e (fun z => hn (.inl z)) fun z => hn (.inr z)) fun a o hS e => ?_
  rcases hS with z | z
  · rw [z, e1] at e
    rw [← Option.some.inj e]
    exact ⟨(fun ps zz => by cases zz), fun c q => lst_ne_code⟩
  · rw [z, e2'] at e
    rw [← Option.some.inj e]
    exact ⟨(fun ps zz => by cases zz), fun c q => lst_ne_code⟩
theorem EvsAt.extN {H H' : Hp} {b : Addr} {es : List Ev} (h : EvsAt H b es) (x : ExtN H H') : EvsAt H' b es := h.keep (fun xs e => ExtN.seqL x e) fun b xs e => ExtN.tup x e
theorem shaped_stsT (l : List St3) : SeqAt.shaped (.tuple (l.map encS)) = true := by
  unfold SeqAt.shaped
  have h1 : PyData.canLay0 (.tuple (l.map encS)) = true := by
    rw [PyData.canLay0]
    exact canLay_all l
  have h2 : (PyData.tuple (l.map encS)).depth ≤ 64 := by
    rw [PyData.depth]
    have := depth_all l
    omega
  rw [h1, decide_eq_true h2]
  rfl
theorem eqv_nilI (l : List Int) : PyData.eqv (.list (l.map .int)) (.list []) = decide (l = []) := by
  cases l with
  | nil => rfl
  | cons _ _ => exact (decide_eq_false (fun z => by cases z)).symm
theorem eqv_nilS (l : List St3) : PyData.eqv (.tuple (l.map encS)) (.tuple []) = decide (l = []) := by
  cases l with
  | nil => rfl
  | cons _ _ => exact (decide_eq_false (fun z => by cases z)).symm
theorem ne_bl {a b : Bool} (h : a = b) : V.bl (!decide (V.bl a = V.bl b)) = .bl false := by
  rw [h, dec_self]
  rfl
/-- what stands through the inner loop -/
structure LC (TT : List (Addr × Str)) (ls sh nb tb ob lb : Addr) (nodes : List Int) (ts : List Tr) (first line : List Int) (H : Hp) : Prop where
  st : LSt H ls sh
  tabs : Tabs TT H
  nb : IL H nb nodes
  tb : TsAt H tb ts
  ob : IL H ob first
  lb : IL H lb line
theorem LC.ext {TT : List (Addr × Str)} {ls sh nb tb ob lb : Addr} {nodes : List Int} {ts : List Tr} {first line : List Int} {H H' : Hp} (c : LC TT ls sh nb tb ob lb nodes ts first line H) (x : ExtN H H') (t : Tabs TT H') : LC TT ls sh nb tb ob lb nodes ts first line H' :=
  ⟨c.st.extN x, t, ExtN.seqL x c.nb, c.tb.extN x, ExtN.seqL x c.ob, ExtN.seqL x c.lb⟩
theorem LC.same {TT : List (Addr × Str)} {ls sh nb tb ob lb : Addr} {nodes : List Int} {ts : List Tr} {first line : List Int} {H H' : Hp} (c : LC TT ls sh nb tb ob lb nodes ts first line H) (s : Same H H') : LC TT ls sh nb tb ob lb nodes ts first line H' := c.ext (ExtN.of s) (c.tabs.ext s)
section
variable {P : Program} {w : World} {K : PySem.W.Frag} {mg : Str → Option Value} {base : Heap} {C : Addr} {TT : List (Addr × Str)}
def spLaw (K : PySem.W.Frag) (TT : List (Addr × Str)) : Sp := fun vs H Q _ => ∃ (a : Addr) (ns : List Int), vs = [.ref a] ∧ SqL K H a (ns.map V.int) ∧ ns.length ≤ 63 ∧ Tabs TT H ∧ ∀ H', Q (.bl true) H'
theorem sc_law : FnScope ["_law_script", "_law_state", "_law_turn", "_law_nodes", "_law_triples_here", "_law_origin", "_law_line", "_law_number", "_law_many", "_law_rows_here", "_law_left", "_law_node"] ["_law_script"] (defScope s_law) := ⟨rfl, rfl, rfl, by decide +kernel, rfl, by decide +kernel, by decide +kernel⟩
theorem ok_law {f0 : Addr} {fd0 : FuncData} (F : FunD K "law" "law" (defArgs s_law) (defBody s_law) (defScope s_law) [] [] f0 fd0) (T : Txt K mg C) (cbg : Cal P w K mg base 2 "_law_begun" (spBegun (K := K)) []) (cdr : Cal P w K mg base 2 "_law_draw" spDraw []) (csh : Cal P w K mg base 4 "_law_shuffled" spShuf []) (car : Cal P w K mg base 6 "_law_areas" spAreas []) (ctr : Cal P w K mg base 6 "_law_triples" spTriples [])
    (cso : Cal P w K mg base 6 "_law_some" spSome []) (crw : Cal P w K mg base 6 "_law_rows" spRows []) (cro : Cal P w K mg base 12 "rounds" (spRounds TT) []) (cpo : Cal P w K mg base 12 "possible" (spPossible TT) []) (ccl : Cal P w K mg base 12 "closed" (spClosed TT) []) (cjo : Cal P w K mg base 12 "journey" (spJourney TT) [])
    (cdi : Cal P w K mg base 10 "dirty" spDirty []) (cmr : Cal P w K mg base 16 "_law_missing_right" (spMR TT) []) : FnOk P w K mg base C8.CX0 18 f0 fd0 ["_law_script"] (spLaw K TT) := by
  refine funD_ok0 (k := 17) F sc_law (fun vs H Q E h => ?_) (fun A outer s H vs Q E hr h => ?_)
  · obtain ⟨a, ns, rfl, _⟩ := h
    rfl
  · obtain ⟨a, ns, rfl, ha, hl, hT, q⟩ := h
    have nd := sc_law.nd
    refine ⟨_, pss_cons (ps_set (i := 1) nd rfl (Or.inl rfl) (pe_c cbg hr (by decide) rfl (pa_cons (pv 0) pa_nil)))
      (pss_cons (ps_for PassesOwn.never rfl (pi_range1 rfl T.f_range (pa_cons pe_int pa_nil)) (pg_name (i := 2) nd rfl (Or.inl rfl))
        (pss_cons (ps_set (i := 3) nd rfl (Or.inl rfl) (pe_c car hr (by decide) rfl (pa_cons (pv 1) (pa_cons pe_int pa_nil))))
        (pss_cons (ps_asg (pe_tup (pa_cons (pe_c ctr hr (by decide) rfl (pa_cons (pv 1) (pa_cons (pv 3) (pa_cons pe_int (pa_cons (pe_cmpR op_eq (pe_c cdr hr (by decide) rfl (pa_cons (pv 1) (pa_cons pe_int pa_nil))) pe_int (nomark _)) pa_nil))))) (pa_cons (pe_c cso hr (by decide) rfl (pa_cons (pv 1) (pa_cons (pv 3) pa_nil))) pa_nil)))
            (pg_tup rfl (pgs_cons (pg_name (i := 4) nd rfl (Or.inl rfl)) (pgs_cons (pg_name (i := 5) nd rfl (Or.inr rfl)) pgs_nil))))
        (pss_cons (ps_set (i := 6) nd rfl (Or.inl rfl) (pe_c csh hr (by decide) rfl (pa_cons (pv 1) (pa_cons (pv 3) pa_nil))))
        (pss_cons (ps_set (i := 7) nd rfl (Or.inl rfl) (pe_ix ix_tup (pe_c cro hr (by decide) rfl (pa_cons (pv 6) (pa_cons (pv 4) (pa_cons (pv 5) pa_nil)))) pe_int (fun _ _ => rfl)))
        (pss_cons (ps_for PassesOwn.never rfl (pi_range1 rfl T.f_range (pa_cons (pe_op op_add (pv 7) pe_int) pa_nil)) (pg_name (i := 8) nd rfl (Or.inl rfl))
          (pss_cons (ps_set (i := 9) nd rfl (Or.inr rfl) (pe_c crw hr (by decide) rfl (pa_cons (pv 1) (pa_cons (pv 6) (pa_cons (pv 4) (pa_cons (pv 8) pa_nil))))))
          (pss_cons (ps_set (i := 10) nd rfl (Or.inr rfl) (pe_c cpo hr (by decide) rfl (pa_cons (pv 5) (pa_cons (pv 9) pa_nil))))
          (pss_cons (ps_if (PW.pt (pw_or (pt_cmpR op_ne (pe_cmpR (op_eqD hr.units) (pv 10) (pe_lst pa_nil) (nomark _)) (pe_cmp (pc_ge (pv 8) (pv 7))) (nomark _))
              (pw_or1 (pt_cmpR op_ne (pe_cmpR (op_eqD hr.units) (pe_ix ix_list (pe_c ccl hr (by decide) rfl (pa_cons (pv 5) (pa_cons (pv 9) pa_nil))) (pe_un un_neg pe_int) (fun _ _ => rfl)) (pe_tup pa_nil) (nomark _)) (pe_cmpR (op_eqD hr.units) (pv 10) (pe_lst pa_nil) (nomark _)) (nomark _))))) (pss_one (ps_ret pe_bl)) pss_nil)
          (pss_cons (ps_if (pt_cmpR (op_neD hr.units) (pe_lc (own := [("_law_node", 11)]) rfl nd (pi_list (pv 10)) (blkOk_by (by kernel_rfl)) (fun _ _ _ _ _ => pg_name (i := 11) nd rfl (Or.inl rfl))
              (fun _ _ _ _ _ => pts_one (pt_cmpR (op_notIn_seq : OpR _ _ (rIn K true)) (pv 11) (pe_c cdi hr (by decide) rfl (pa_cons (pv 5) (pa_cons (pv 9) pa_nil))) rfl)) (fun _ _ _ _ _ => pv 11)) (pe_lst pa_nil) (nomark _)) (pss_one (ps_ret pe_bl)) pss_nil)
          (pss_one (ps_if (pt_cmpR (op_neD hr.units) (pe_lc (own := [("_law_node", 11)]) rfl nd (pi_list (pv 3)) (blkOk_by (by kernel_rfl)) (fun _ _ _ _ _ => pg_name (i := 11) nd rfl (Or.inl rfl))
              (fun _ _ _ _ _ => pts_one (pt_cmpR op_ne (pe_cmp (pc_isN (pe_c cjo hr (by decide) rfl (pa_cons (pv 5) (pa_cons (pv 9) (pa_cons (pv 11) pa_nil)))))) (pe_cmpR (op_notIn_seq : OpR _ _ (rIn K true)) (pv 11) (pv 10) rfl) (nomark _))) (fun _ _ _ _ _ => pv 11)) (pe_lst pa_nil) (nomark _)) (pss_one (ps_ret pe_bl)) pss_nil)))))))
        (pss_one (ps_if (pt_not (pt_val (pe_c cmr hr (by decide) rfl (pa_cons (pv 6) (pa_cons (pv 4) (pa_cons (pv 5) (pa_cons (pv 7) pa_nil))))))) (pss_one (ps_ret pe_bl)) pss_nil))))))))
      (pss_one (ps_ret pe_bl))), ?_⟩
    refine ⟨_, rfl, a, ns, rfl, ha, hl, fun H1 ls sh s1 hls hsh st1 => ?_⟩
    have T1 := hT.ext s1
    refine ⟨4, rfl, by decide, by decide, for_range (lo := 0) (n := 4) (fun i σ H' => LSt H' ls sh ∧ Tabs TT H' ∧ ∃ (v2 v3 v4 v5 v6 v7 v8 v9 v10 v11 : Option V), σ = [some (.ref a), some (.ref ls), v2, v3, v4, v5, v6, v7, v8, v9, v10, v11])
      ⟨st1, T1, none, none, none, none, none, none, none, none, none, none, rfl⟩ ?_ ?_⟩
    · rintro i σ H2 hi ⟨st2, T2, v2, v3, v4, v5, v6, v7, v8, v9, v10, v11, rfl⟩
      refine ⟨_, rfl, ls, sh, 5, rfl, st2, by decide, by decide, fun H3 nb nodes k3 st3 hnb0 hnb nnd nl2 nl5 => ?_⟩
      have T3 := tabs_lk T2 k3 st2
      obtain ⟨n1, n2⟩ := st2.live hnb0
      refine ⟨_, rfl, _, rfl, _, rfl, ls, sh, 2, rfl, st3, by decide, by decide, fun H4 r k4 st4 r0 r1 => ?_⟩
      have T4 := tabs_lk T3 k4 st3
      have hnb4 := hnb.lk k4 n1 n2
      refine ⟨rfl, ls, sh, nb, 5, _, nodes, rfl, st4, hnb4, n1, n2, nnd, nl2, nl5, by decide, by decide, fun H5 tb ts k5 st5 htb0 htb tl tnd tok => ?_⟩
      have T5 := tabs_lk T4 k5 st4
      have hnb5 := hnb4.lk k5 n1 n2
      obtain ⟨t1, t2⟩ := st4.live htb0
      refine ⟨_, rfl, _, rfl, ls, sh, nb, nodes, rfl, st5, hnb5, n1, n2, by omega, fun H6 ob first k6 st6 hob0 hob fsub fnd => ⟨(by show 2 ≤ sizeLine; decide), fun t ht => ?_⟩⟩
      have T6 := tabs_lk T5 k6 st5
      have hnb6 := hnb5.lk k6 n1 n2
      have htb6 := htb.lk k6 st5 t1 t2
      obtain ⟨o1, o2⟩ := st5.live hob0
      refine ⟨t, _, rfl, SqT.of upd_same, rfl, _, _, rfl, _, _, rfl, rfl, ?_⟩
      have s7 : Same H6 (upd H6 t (.tup [.ref tb, .ref ob])) := same_new ht
      have st7 := st6.same s7
      have T7 := T6.ext s7
      have hnb7 := hnb6.same s7
      have htb7 := htb6.same s7
      have hob7 := hob.same s7
      generalize upd H6 t (.tup [.ref tb, .ref ob]) = H7 at s7 st7 T7 hnb7 htb7 hob7 ⊢
      refine ⟨_, rfl, _, rfl, ls, sh, nb, nodes, rfl, st7, hnb7, n1, n2, by omega, fun H8 lb line k8 st8 hlb0 hlb perm => ?_⟩
      have T8 := tabs_lk T7 k8 st7
      have hnb8 := hnb7.lk k8 n1 n2
      have htb8 := htb7.lk k8 st7 t1 t2
      have hob8 := hob7.lk k8 o1 o2
      obtain ⟨l1, l2⟩ := st7.live hlb0
      have hll : line.length ≤ 5 := by
        have := perm.length_eq
        omega
      have N : Net line ts first := ⟨perm.nodup_iff.mpr nnd, hll, tl, tnd, fun e he => perm.mem_iff.mpr (tok e he).1, fun e he => perm.mem_iff.mpr (tok e he).2.1, fun e he => (tok e he).2.2, fnd nnd, fun x hx => perm.mem_iff.mpr (fsub x hx)⟩
      refine ⟨_, rfl, _, rfl, _, rfl, lb, tb, ob, line, ts, first, rfl, hlb, htb8, hob8, N, T8, fun H9 p9 l9 n es x9 T9 hp9 hl9 RE => ?_⟩
      refine ⟨p9, _, _, _, rfl, rfl, SqT.of hp9, atI_nat (j := 0) rfl, ?_⟩
      have C9 : LC TT ls sh nb tb ob lb nodes ts first line H9 := LC.ext ⟨st8, T8, hnb8, htb8, hob8, hlb⟩ x9 T9
      have hn6 : n ≤ 6 := by
        rcases RE with ⟨_, h0, _⟩ | ⟨f0, b0, _, hpa, hnd, hn, _⟩
        · omega
        · have h1 : (nums es).length ≤ (nums ts).length := nodup_len hnd fun x hx => by
            obtain ⟨e, he, rfl⟩ := List.mem_map.mp hx
            exact mem_nums (path_all hpa e he)
          unfold nums at h1
          rw [List.length_map, List.length_map] at h1
          have h2 : cnt line es ≤ es.length := by
            unfold cnt
            exact List.length_filter_le _ _
          omega
      refine ⟨_, rfl, _, _, rfl, rfl, (n : Int) + 2, rfl, by omega, by omega, for_range (lo := 0) (fun i σ H' => LC TT ls sh nb tb ob lb nodes ts first line H' ∧ ∃ (v2 v8 v9 v10 v11 : Option V), σ = [some (.ref a), some (.ref ls), v2, some (.ref nb), some (.ref tb), some (.ref ob), some (.ref lb), some (.int n), v8, v9, v10, v11])
        ⟨C9, _, _, _, _, _, rfl⟩ ?_ ?_⟩
      · rintro m σ H10 hm ⟨C10, u2, u8, u9, u10, u11, rfl⟩
        have hm8 : m < n + 2 := by omega
        refine ⟨_, rfl, _, rfl, _, rfl, _, rfl, ls, sh, lb, tb, m, line, ts, (by show [V.ref ls, V.ref lb, V.ref tb, V.int (0 + (m : Int))] = _; rw [Int.zero_add]), C10.st, C10.lb, C10.tb, l1, l2, t1, t2, hll, tl, by omega, fun H11 rb ks k11 st11 hrb0 hkl hev => ?_⟩
        have C11 : LC TT ls sh nb tb ob lb nodes ts first line H11 := ⟨st11, tabs_lk C10.tabs k11 C10.st, C10.nb.lk k11 n1 n2, C10.tb.lk k11 C10.st t1 t2, C10.ob.lk k11 o1 o2, C10.lb.lk k11 l1 l2⟩
        have hus : (rep line m).length ≤ 1000 := by
          rw [rep_length]
          have : m * line.length ≤ 8 * 5 := Nat.mul_le_mul (by omega) hll
          omega
        have hlen : (evsOf ts ks (rep line m)).length = ts.length + m * line.length := by rw [evsOf_length hkl, rep_length]
        have hiff : (∃ st, Reach first ts (evsOf ts ks (rep line m)) (evsOf ts ks (rep line m)).length st) ↔ m < n := by
          rw [hlen]
          exact reach_iff N hkl RE.rnd
        refine ⟨_, rfl, _, rfl, ob, rb, line, first, ts, ks, rep line m, rfl, C11.ob, hev, hkl, N, hus, C11.tabs, fun H12 lf l x12 T12 hlf l5 hmem => ?_⟩
        have C12 := C11.ext x12 T12
        have hev12 := hev.extN x12
        have hlnil : (l = []) ↔ ¬ m < n := by
          rw [← hiff]
          constructor
          · rintro rfl ⟨st, hs⟩
            have := (hmem st.a).mpr ⟨st, hs, rfl⟩
            cases this
          · intro hno
            cases l with
            | nil => rfl
            | cons x l =>
              obtain ⟨st, hs, _⟩ := (hmem x).mp List.mem_cons_self
              exact absurd ⟨st, hs⟩ hno
        -- the first test
        refine ⟨_, rfl, Nat.zero_le _, fun b1 hb1 => ?_⟩
        have s13 : Same H12 (upd H12 b1 (.lst [])) := same_new hb1
        have hb13 : upd H12 b1 (.lst []) b1 = some (.lst []) := upd_same
        have C13 := C12.same s13
        have hlf13 := hlf.same s13
        have hev13 := hev12.same s13
        generalize upd H12 b1 (.lst []) = H13 at s13 hb13 C13 hlf13 hev13 ⊢
        refine ⟨.list (l.map .int), .list [], .lst (SqL.of hlf13) (dp_ints l), .lst (SqL.of hb13) .nil, shaped_ints l, rfl, ?_⟩
        refine ⟨_, rfl, _, rfl, _, _, rfl, rfl, rfl, false, ?_, iteF ?_⟩
        · refine ne_bl ?_
          rw [eqv_nilI]
          refine decide_eq_decide.mpr ?_
          rw [hlnil]
          show ¬ m < n ↔ (n : Int) ≤ 0 + (m : Int)
          omega
        refine ⟨_, rfl, _, rfl, ob, rb, line, first, ts, ks, rep line m, rfl, C13.ob, hev13, hkl, N, hus, C13.tabs, fun H14 pc qs0 q14 L x14 T14 hpc hq14 hEn hL => ?_⟩
        have C14 := C13.ext x14 T14
        have hev14 := hev13.extN x14
        have hlf14 : IL H14 lf l := ExtN.seqL x14 hlf13
        refine ⟨_, rfl, pc, _, _, _, rfl, rfl, SqL.of hpc, by rw [List.map_append]; exact atI_last _ _, Nat.zero_le _, fun u0 hu0 => ?_⟩
        have s15 : Same H14 (upd H14 u0 (.tup [])) := same_new hu0
        have hu15 : upd H14 u0 (.tup []) u0 = some (.tup []) := upd_same
        have C15 := C14.same s15
        have hev15 := hev14.same s15
        have hlf15 := hlf14.same s15
        have hq15 := s15 _ _ hq14
        have hEn15 : ∀ e ∈ L, StAt (upd H14 u0 (.tup [])) e.2.1 e.1 := fun e he => (hEn e he).same s15
        generalize upd H14 u0 (.tup []) = H15 at s15 hu15 C15 hev15 hlf15 hq15 hEn15 ⊢
        have dpL : DpAll K H15 (L.map fun e : EnW => V.ref e.2.1) ((L.map fun e : EnW => e.1).map encS) := by
          have := dp_sts (K := K) (H := H15) (L.map fun e : EnW => (e.2.1, e.1)) fun x hx => by
            obtain ⟨e, he, rfl⟩ := List.mem_map.mp hx
            exact hEn15 e he
          have g1 : (L.map fun e : EnW => (e.2.1, e.1)).map (fun x => V.ref x.1) = L.map fun e : EnW => V.ref e.2.1 := by
            rw [List.map_map]
            rfl
          have g2 : (L.map fun e : EnW => (e.2.1, e.1)).map (fun x => x.2) = L.map fun e : EnW => e.1 := by
            rw [List.map_map]
            rfl
          rw [g1, g2] at this
          exact this
        refine ⟨.tuple ((L.map fun e : EnW => e.1).map encS), .tuple [], .tup (SqT.of hq15) dpL, .tup (SqT.of hu15) .nil, shaped_stsT _, rfl, ?_⟩
        refine ⟨_, rfl, Nat.zero_le _, fun b2 hb2 => ?_⟩
        have s16 : Same H15 (upd H15 b2 (.lst [])) := same_new hb2
        have hb16 : upd H15 b2 (.lst []) b2 = some (.lst []) := upd_same
        have C16 := C15.same s16
        have hlf16 := hlf15.same s16
        have hev16 := hev15.same s16
        generalize upd H15 b2 (.lst []) = H16 at s16 hb16 C16 hlf16 hev16 ⊢
        refine ⟨.list (l.map .int), .list [], .lst (SqL.of hlf16) (dp_ints l), .lst (SqL.of hb16) .nil, shaped_ints l, rfl, rfl, false, ?_, iteF ?_⟩
        · refine ne_bl ?_
          rw [eqv_nilI, eqv_nilS]
          refine decide_eq_decide.mpr ?_
          rw [hlnil, ← hiff, List.map_eq_nil_iff]
          exact hL
        -- the second
        have hlz : (l.map V.int).length ≤ sizeLine := by
          rw [List.length_map]
          exact Nat.le_trans l5 (by decide)
        refine ⟨_, rfl, lf, rfl, ⟨_, SqL.of hlf16⟩, fun B hB => lc_same (walk_list (xs := l.map V.int)) (fun _ y _ => y = none) (fun _ _ _ _ _ e => e) hB hlz (fun H' s => SqL.of (s _ _ hlf16)) ?_ ?_⟩
        · intro j x Ha Hb R hj sm y hR
          obtain ⟨rfl, hx⟩ := y
          obtain ⟨z, hz, rfl⟩ := get_int hx
          obtain ⟨st, hst, hsa⟩ := (hmem z).mp (List.mem_of_getElem? hz)
          refine ⟨rfl, _, rfl, _, rfl, _, rfl, ob, rb, line, first, ts, ks, rep line m, rfl, C16.ob.same sm, hev16.same sm, hkl, N, hus, fun Hc dp dl sc hdl hD => ?_⟩
          refine ⟨dp, _, rfl, .inl (SqL.of hdl), rfl, flat_ints dl, ?_⟩
          rw [if_pos rfl]
          refine ⟨false, ?_, iteF (hR none _ rfl sc)⟩
          show V.bl (!inV (.int z) (dl.map V.int)) = _
          have hin : z ∈ dl := by
            rw [← hsa]
            exact hD _ (reach_dirt hst)
          rw [inV_int, decide_eq_true hin]
          rfl
        · intro ys H17 s17 hB17 hyl hr'
          have e0 : ys.filterMap id = [] := by
            rw [List.filterMap_eq_nil_iff]
            intro y hy
            obtain ⟨j, hj, ej⟩ := mem_iff_get.mp hy
            exact hr' j y ej
          rw [e0] at hB17
          refine ⟨Nat.zero_le _, fun b3 hb3 => ?_⟩
          have s18 : Same H17 (upd H17 b3 (.lst [])) := same_new hb3
          have hb18 : upd H17 b3 (.lst []) b3 = some (.lst []) := upd_same
          have hB18 := s18 _ _ hB17
          have C18 := (C16.same s17).same s18
          have hlf18 := (hlf16.same s17).same s18
          have hev18 := (hev16.same s17).same s18
          generalize upd H17 b3 (.lst []) = H18 at s18 hb18 hB18 C18 hlf18 hev18 ⊢
          refine ⟨.list [], .list [], .lst (SqL.of hB18) .nil, .lst (SqL.of hb18) .nil, rfl, rfl, false, rfl, iteF ?_⟩
          -- the third
          refine ⟨_, rfl, nb, rfl, ⟨_, SqL.of C18.nb⟩, fun B2 hB2 => lc_it (walk_list (xs := nodes.map V.int)) (fun i H' => ExtN H18 H' ∧ Tabs TT H' ∧ H' B2 = some (.lst [])) ⟨ExtN.of (same_new hB2), C18.tabs.ext (same_new hB2), upd_same⟩ (fun i H' _ pz => SqL.of (ExtN.seqL pz.1 C18.nb)) ?_ ?_⟩
          · rintro j x Ha Hb hj ⟨xa, Ta, hBa⟩ y
            obtain ⟨rfl, hx⟩ := y
            obtain ⟨z, hz, rfl⟩ := get_int hx
            refine ⟨rfl, _, rfl, _, rfl, _, rfl, ob, rb, z, line, first, ts, ks, rep line m, rfl, ExtN.seqL xa C18.ob, hev18.extN xa, hkl, N, hus, Ta, fun Hc v xc Tc hv => ?_⟩
            have hlfc : Hc lf = some (.lst (l.map V.int)) := ExtN.seqL (xa.trans xc) hlf18
            refine ⟨_, rfl, _, rfl, lf, _, rfl, .inl (SqL.of hlfc), rfl, flat_ints l, ?_⟩
            rw [if_pos rfl]
            refine ⟨rfl, false, ?_, iteF ⟨xa.trans xc, Tc, ExtN.seqL xc hBa⟩⟩
            refine ne_bl ?_
            rw [inV_int]
            by_cases hzl : z ∈ l
            · have hv' : ¬ v = .non := fun e => hv.mp e ((hmem z).mp hzl)
              rw [decide_eq_false hv', decide_eq_true hzl]
              rfl
            · have hv' : v = .non := hv.mpr fun e => hzl ((hmem z).mpr e)
              rw [decide_eq_true hv', decide_eq_false hzl]
              rfl
          · rintro H19 ⟨x19, T19, hB19⟩
            refine ⟨Nat.zero_le _, fun b4 hb4 => ?_⟩
            have s20 : Same H19 (upd H19 b4 (.lst [])) := same_new hb4
            have hb20 : upd H19 b4 (.lst []) b4 = some (.lst []) := upd_same
            have hB20 := s20 _ _ hB19
            have C20 := (C18.ext x19 T19).same s20
            generalize upd H19 b4 (.lst []) = H20 at s20 hb20 hB20 C20 ⊢
            refine ⟨.list [], .list [], .lst (SqL.of hB20) .nil, .lst (SqL.of hb20) .nil, rfl, rfl, false, rfl, iteF ?_⟩
            exact ⟨C20, _, _, _, _, _, rfl⟩
      · rintro σ H10 ⟨C10, u2, u8, u9, u10, u11, rfl⟩
        refine ⟨_, rfl, _, rfl, _, rfl, _, rfl, lb, tb, ob, n, line, ts, first, nums es, rfl, C10.lb, C10.tb, C10.ob, N, C10.tabs, RE.rnd, fun H11 x11 T11 => ⟨true, rfl, iteF ?_⟩⟩
        exact ⟨C10.st.extN x11, T11, _, _, _, _, _, _, _, _, _, _, rfl⟩
    · rintro σ H2 ⟨st2, T2, v2, v3, v4, v5, v6, v7, v8, v9, v10, v11, rfl⟩
      exact q H2
end
end B58
set_option Elab.async false
set_option linter.all false
set_option maxRecDepth 100000
set_option maxHeartbeats 4000000
/-! The join: the head's facts, the defs by name. -/
namespace B58
open PySem PySem.Spec PyProof.Rows PySem.Calls L2 C8 LamX
section
variable {P : Program} {w : World} {K : PySem.W.Frag} {h : Heap} {mg : Str → Option Value}
abbrev PS : He.Defn := ("spread_ways", none)
abbrev PR : He.Defn := ("rounds", none)
def TTK (K : PySem.W.Frag) : List (Addr × Str) := [((He.cT K PS).2, (("spread_ways" : Str) ++ ".<locals>.") ++ "<lambda>"), ((He.cT K PR).2, (("rounds" : Str) ++ ".<locals>.") ++ "<lambda>")]
theorem j_txt (X : K.In h) (G : h.Ns mainGlobals mg) (c : He.SaysX fas fns [] tfs exB w h K) : Txt K mg (He.ga K "Transfer") := by
  have kB : He.tupB K "KINDS" [.str "copy", .str "move"] = true := (He.ba c.more).1
  exact {
    f_isinstance := He.free_ok X G (c.t.d.fact 41 (f := .free "isinstance") rfl)
    f_int := He.free_ok X G (c.t.d.fact 42 (f := .free "int") rfl)
    f_bool := He.free_ok X G (c.t.d.fact 43 (f := .free "bool") rfl)
    f_list := He.free_ok X G (c.t.d.fact 44 (f := .free "list") rfl)
    f_tuple := He.free_ok X G (c.t.d.fact 45 (f := .free "tuple") rfl)
    f_str := He.free_ok X G (c.t.d.fact 46 (f := .free "str") rfl)
    f_all := He.free_ok X G (c.t.d.fact 47 (f := .free "all") rfl)
    f_any := He.free_ok X G (c.t.d.fact 48 (f := .free "any") rfl)
    f_len := He.free_ok X G (c.t.d.fact 49 (f := .free "len") rfl)
    f_set := He.free_ok X G (c.t.d.fact 50 (f := .free "set") rfl)
    f_sorted := He.free_ok X G (c.t.d.fact 51 (f := .free "sorted") rfl)
    f_enumerate := He.free_ok X G (c.t.d.fact 52 (f := .free "enumerate") rfl)
    f_range := He.free_ok X G (c.t.d.fact 53 (f := .free "range") rfl)
    f_max := He.free_ok X G (c.t.d.fact 54 (f := .free "max") rfl)
    f_min := He.free_ok X G (c.t.d.fact 55 (f := .free "min") rfl)
    f_abs := He.free_ok X G (c.t.d.fact 56 (f := .free "abs") rfl)
    never := He.int_ok X G (c.t.d.fact 57 (f := .int "NEVER" (-1)) rfl)
    kinds := ⟨_, He.glo_ok X G (c.t.d.fact 40 (f := .glo "KINDS") rfl), fun H => He.tupB_ok kB H⟩
    cls := He.cls_ok (c.t.d.fact 58 (f := .cls "Transfer") rfl)
    mgC := He.glo_ok X G (c.t.d.fact 39 (f := .glo "Transfer") rfl)
    n_kind := He.noat_ok (c.t.d.fact 59 (f := .noat "Transfer" "kind") rfl)
    n_source := He.noat_ok (c.t.d.fact 60 (f := .noat "Transfer" "source") rfl)
    n_target := He.noat_ok (c.t.d.fact 61 (f := .noat "Transfer" "target") rfl)
    n_began := He.noat_ok (c.t.d.fact 62 (f := .noat "Transfer" "began") rfl)
    n_ended := He.noat_ok (c.t.d.fact 63 (f := .noat "Transfer" "ended") rfl) }
theorem j_is_integer (X : K.In h) (G : h.Ns mainGlobals mg) (c : He.SaysX fas fns [] tfs exB w h K) : Dd K mg "is_integer" s_is_integer := by
  obtain ⟨fd, F⟩ := c.t.d.def_ 2 (d := d_is_integer) rfl
  exact ⟨_, fd, F, He.glo_ok X G (c.t.d.fact 0 (f := .glo "is_integer") rfl)⟩
theorem j_are_different (X : K.In h) (G : h.Ns mainGlobals mg) (c : He.SaysX fas fns [] tfs exB w h K) : Dd K mg "are_different" s_are_different := by
  obtain ⟨fd, F⟩ := c.t.d.def_ 3 (d := d_are_different) rfl
  exact ⟨_, fd, F, He.glo_ok X G (c.t.d.fact 1 (f := .glo "are_different") rfl)⟩
theorem j_need_first (X : K.In h) (G : h.Ns mainGlobals mg) (c : He.SaysX fas fns [] tfs exB w h K) : Dd K mg "need_first" s_need_first := by
  obtain ⟨fd, F⟩ := c.t.d.def_ 4 (d := d_need_first) rfl
  exact ⟨_, fd, F, He.glo_ok X G (c.t.d.fact 2 (f := .glo "need_first") rfl)⟩
theorem j_is_begin (X : K.In h) (G : h.Ns mainGlobals mg) (c : He.SaysX fas fns [] tfs exB w h K) : Dd K mg "is_begin" s_is_begin := by
  obtain ⟨fd, F⟩ := c.t.d.def_ 5 (d := d_is_begin) rfl
  exact ⟨_, fd, F, He.glo_ok X G (c.t.d.fact 3 (f := .glo "is_begin") rfl)⟩
theorem j_takes (X : K.In h) (G : h.Ns mainGlobals mg) (c : He.SaysX fas fns [] tfs exB w h K) : Dd K mg "takes" s_takes := by
  obtain ⟨fd, F⟩ := c.t.d.def_ 6 (d := d_takes) rfl
  exact ⟨_, fd, F, He.glo_ok X G (c.t.d.fact 4 (f := .glo "takes") rfl)⟩
theorem j_transfers_of (X : K.In h) (G : h.Ns mainGlobals mg) (c : He.SaysX fas fns [] tfs exB w h K) : Dd K mg "transfers_of" s_transfers_of := by
  obtain ⟨fd, F⟩ := c.t.d.def_ 7 (d := d_transfers_of) rfl
  exact ⟨_, fd, F, He.glo_ok X G (c.t.d.fact 5 (f := .glo "transfers_of") rfl)⟩
theorem j_under_way (X : K.In h) (G : h.Ns mainGlobals mg) (c : He.SaysX fas fns [] tfs exB w h K) : Dd K mg "under_way" s_under_way := by
  obtain ⟨fd, F⟩ := c.t.d.def_ 8 (d := d_under_way) rfl
  exact ⟨_, fd, F, He.glo_ok X G (c.t.d.fact 6 (f := .glo "under_way") rfl)⟩
theorem j_spread (X : K.In h) (G : h.Ns mainGlobals mg) (c : He.SaysX fas fns [] tfs exB w h K) : Dd K mg "spread" s_spread := by
  obtain ⟨fd, F⟩ := c.t.d.def_ 9 (d := d_spread) rfl
  exact ⟨_, fd, F, He.glo_ok X G (c.t.d.fact 7 (f := .glo "spread") rfl)⟩
theorem j_dirty (X : K.In h) (G : h.Ns mainGlobals mg) (c : He.SaysX fas fns [] tfs exB w h K) : Dd K mg "dirty" s_dirty := by
  obtain ⟨fd, F⟩ := c.t.d.def_ 10 (d := d_dirty) rfl
  exact ⟨_, fd, F, He.glo_ok X G (c.t.d.fact 8 (f := .glo "dirty") rfl)⟩
theorem j_state_behind (X : K.In h) (G : h.Ns mainGlobals mg) (c : He.SaysX fas fns [] tfs exB w h K) : Dd K mg "state_behind" s_state_behind := by
  obtain ⟨fd, F⟩ := c.t.d.def_ 11 (d := d_state_behind) rfl
  exact ⟨_, fd, F, He.glo_ok X G (c.t.d.fact 9 (f := .glo "state_behind") rfl)⟩
theorem j_carried (X : K.In h) (G : h.Ns mainGlobals mg) (c : He.SaysX fas fns [] tfs exB w h K) : Dd K mg "carried" s_carried := by
  obtain ⟨fd, F⟩ := c.t.d.def_ 12 (d := d_carried) rfl
  exact ⟨_, fd, F, He.glo_ok X G (c.t.d.fact 10 (f := .glo "carried") rfl)⟩
theorem j_ways_behind (X : K.In h) (G : h.Ns mainGlobals mg) (c : He.SaysX fas fns [] tfs exB w h K) : Dd K mg "ways_behind" s_ways_behind := by
  obtain ⟨fd, F⟩ := c.t.d.def_ 14 (d := d_ways_behind) rfl
  exact ⟨_, fd, F, He.glo_ok X G (c.t.d.fact 12 (f := .glo "ways_behind") rfl)⟩
theorem j_all_ways (X : K.In h) (G : h.Ns mainGlobals mg) (c : He.SaysX fas fns [] tfs exB w h K) : Dd K mg "all_ways" s_all_ways := by
  obtain ⟨fd, F⟩ := c.t.d.def_ 15 (d := d_all_ways) rfl
  exact ⟨_, fd, F, He.glo_ok X G (c.t.d.fact 13 (f := .glo "all_ways") rfl)⟩
theorem j_closed (X : K.In h) (G : h.Ns mainGlobals mg) (c : He.SaysX fas fns [] tfs exB w h K) : Dd K mg "closed" s_closed := by
  obtain ⟨fd, F⟩ := c.t.d.def_ 16 (d := d_closed) rfl
  exact ⟨_, fd, F, He.glo_ok X G (c.t.d.fact 14 (f := .glo "closed") rfl)⟩
theorem j_possible (X : K.In h) (G : h.Ns mainGlobals mg) (c : He.SaysX fas fns [] tfs exB w h K) : Dd K mg "possible" s_possible := by
  obtain ⟨fd, F⟩ := c.t.d.def_ 17 (d := d_possible) rfl
  exact ⟨_, fd, F, He.glo_ok X G (c.t.d.fact 15 (f := .glo "possible") rfl)⟩
theorem j_journey (X : K.In h) (G : h.Ns mainGlobals mg) (c : He.SaysX fas fns [] tfs exB w h K) : Dd K mg "journey" s_journey := by
  obtain ⟨fd, F⟩ := c.t.d.def_ 18 (d := d_journey) rfl
  exact ⟨_, fd, F, He.glo_ok X G (c.t.d.fact 16 (f := .glo "journey") rfl)⟩
theorem j_are_steps (X : K.In h) (G : h.Ns mainGlobals mg) (c : He.SaysX fas fns [] tfs exB w h K) : Dd K mg "are_steps" s_are_steps := by
  obtain ⟨fd, F⟩ := c.t.d.def_ 19 (d := d_are_steps) rfl
  exact ⟨_, fd, F, He.glo_ok X G (c.t.d.fact 17 (f := .glo "are_steps") rfl)⟩
theorem j_stays_of (X : K.In h) (G : h.Ns mainGlobals mg) (c : He.SaysX fas fns [] tfs exB w h K) : Dd K mg "stays_of" s_stays_of := by
  obtain ⟨fd, F⟩ := c.t.d.def_ 20 (d := d_stays_of) rfl
  exact ⟨_, fd, F, He.glo_ok X G (c.t.d.fact 18 (f := .glo "stays_of") rfl)⟩
theorem j_is_journey (X : K.In h) (G : h.Ns mainGlobals mg) (c : He.SaysX fas fns [] tfs exB w h K) : Dd K mg "is_journey" s_is_journey := by
  obtain ⟨fd, F⟩ := c.t.d.def_ 22 (d := d_is_journey) rfl
  exact ⟨_, fd, F, He.glo_ok X G (c.t.d.fact 20 (f := .glo "is_journey") rfl)⟩
theorem j_is_triple (X : K.In h) (G : h.Ns mainGlobals mg) (c : He.SaysX fas fns [] tfs exB w h K) : Dd K mg "is_triple" s_is_triple := by
  obtain ⟨fd, F⟩ := c.t.d.def_ 23 (d := d_is_triple) rfl
  exact ⟨_, fd, F, He.glo_ok X G (c.t.d.fact 21 (f := .glo "is_triple") rfl)⟩
theorem j_need_transfers (X : K.In h) (G : h.Ns mainGlobals mg) (c : He.SaysX fas fns [] tfs exB w h K) : Dd K mg "need_transfers" s_need_transfers := by
  obtain ⟨fd, F⟩ := c.t.d.def_ 24 (d := d_need_transfers) rfl
  exact ⟨_, fd, F, He.glo_ok X G (c.t.d.fact 22 (f := .glo "need_transfers") rfl)⟩
theorem j_need_net (X : K.In h) (G : h.Ns mainGlobals mg) (c : He.SaysX fas fns [] tfs exB w h K) : Dd K mg "need_net" s_need_net := by
  obtain ⟨fd, F⟩ := c.t.d.def_ 25 (d := d_need_net) rfl
  exact ⟨_, fd, F, He.glo_ok X G (c.t.d.fact 23 (f := .glo "need_net") rfl)⟩
theorem j_is_against (X : K.In h) (G : h.Ns mainGlobals mg) (c : He.SaysX fas fns [] tfs exB w h K) : Dd K mg "is_against" s_is_against := by
  obtain ⟨fd, F⟩ := c.t.d.def_ 26 (d := d_is_against) rfl
  exact ⟨_, fd, F, He.glo_ok X G (c.t.d.fact 24 (f := .glo "is_against") rfl)⟩
theorem j_best_way (X : K.In h) (G : h.Ns mainGlobals mg) (c : He.SaysX fas fns [] tfs exB w h K) : Dd K mg "best_way" s_best_way := by
  obtain ⟨fd, F⟩ := c.t.d.def_ 27 (d := d_best_way) rfl
  exact ⟨_, fd, F, He.glo_ok X G (c.t.d.fact 25 (f := .glo "best_way") rfl)⟩
theorem j_missing (X : K.In h) (G : h.Ns mainGlobals mg) (c : He.SaysX fas fns [] tfs exB w h K) : Dd K mg "missing" s_missing := by
  obtain ⟨fd, F⟩ := c.t.d.def_ 29 (d := d_missing) rfl
  exact ⟨_, fd, F, He.glo_ok X G (c.t.d.fact 27 (f := .glo "missing") rfl)⟩
theorem j_begun (X : K.In h) (G : h.Ns mainGlobals mg) (c : He.SaysX fas fns [] tfs exB w h K) : Dd K mg "_law_begun" s_begun := by
  obtain ⟨fd, F⟩ := c.t.d.def_ 30 (d := d_begun) rfl
  exact ⟨_, fd, F, He.glo_ok X G (c.t.d.fact 28 (f := .glo "_law_begun") rfl)⟩
theorem j_draw (X : K.In h) (G : h.Ns mainGlobals mg) (c : He.SaysX fas fns [] tfs exB w h K) : Dd K mg "_law_draw" s_draw := by
  obtain ⟨fd, F⟩ := c.t.d.def_ 31 (d := d_draw) rfl
  exact ⟨_, fd, F, He.glo_ok X G (c.t.d.fact 29 (f := .glo "_law_draw") rfl)⟩
theorem j_pick (X : K.In h) (G : h.Ns mainGlobals mg) (c : He.SaysX fas fns [] tfs exB w h K) : Dd K mg "_law_pick" s_pick := by
  obtain ⟨fd, F⟩ := c.t.d.def_ 32 (d := d_pick) rfl
  exact ⟨_, fd, F, He.glo_ok X G (c.t.d.fact 30 (f := .glo "_law_pick") rfl)⟩
theorem j_shuffled (X : K.In h) (G : h.Ns mainGlobals mg) (c : He.SaysX fas fns [] tfs exB w h K) : Dd K mg "_law_shuffled" s_shuffled := by
  obtain ⟨fd, F⟩ := c.t.d.def_ 33 (d := d_shuffled) rfl
  exact ⟨_, fd, F, He.glo_ok X G (c.t.d.fact 31 (f := .glo "_law_shuffled") rfl)⟩
theorem j_areas (X : K.In h) (G : h.Ns mainGlobals mg) (c : He.SaysX fas fns [] tfs exB w h K) : Dd K mg "_law_areas" s_areas := by
  obtain ⟨fd, F⟩ := c.t.d.def_ 34 (d := d_areas) rfl
  exact ⟨_, fd, F, He.glo_ok X G (c.t.d.fact 32 (f := .glo "_law_areas") rfl)⟩
theorem j_triples (X : K.In h) (G : h.Ns mainGlobals mg) (c : He.SaysX fas fns [] tfs exB w h K) : Dd K mg "_law_triples" s_triples := by
  obtain ⟨fd, F⟩ := c.t.d.def_ 35 (d := d_triples) rfl
  exact ⟨_, fd, F, He.glo_ok X G (c.t.d.fact 33 (f := .glo "_law_triples") rfl)⟩
theorem j_some (X : K.In h) (G : h.Ns mainGlobals mg) (c : He.SaysX fas fns [] tfs exB w h K) : Dd K mg "_law_some" s_some := by
  obtain ⟨fd, F⟩ := c.t.d.def_ 36 (d := d_some) rfl
  exact ⟨_, fd, F, He.glo_ok X G (c.t.d.fact 34 (f := .glo "_law_some") rfl)⟩
theorem j_rows (X : K.In h) (G : h.Ns mainGlobals mg) (c : He.SaysX fas fns [] tfs exB w h K) : Dd K mg "_law_rows" s_rows := by
  obtain ⟨fd, F⟩ := c.t.d.def_ 37 (d := d_rows) rfl
  exact ⟨_, fd, F, He.glo_ok X G (c.t.d.fact 35 (f := .glo "_law_rows") rfl)⟩
theorem j_shown (X : K.In h) (G : h.Ns mainGlobals mg) (c : He.SaysX fas fns [] tfs exB w h K) : Dd K mg "_law_shown" s_shown := by
  obtain ⟨fd, F⟩ := c.t.d.def_ 38 (d := d_shown) rfl
  exact ⟨_, fd, F, He.glo_ok X G (c.t.d.fact 36 (f := .glo "_law_shown") rfl)⟩
theorem j_missing_right (X : K.In h) (G : h.Ns mainGlobals mg) (c : He.SaysX fas fns [] tfs exB w h K) : Dd K mg "_law_missing_right" s_missing_right := by
  obtain ⟨fd, F⟩ := c.t.d.def_ 39 (d := d_missing_right) rfl
  exact ⟨_, fd, F, He.glo_ok X G (c.t.d.fact 37 (f := .glo "_law_missing_right") rfl)⟩
theorem j_spread_ways {base : Heap} (X : K.In h) (G : h.Ns mainGlobals mg) (c : He.SaysX fas fns [] tfs exB w h K) (tb : TabB base mg (He.cT K ("spread_ways", none)).1 (He.cT K ("spread_ways", none)).2) : Dl K base mg "spread_ways" s_spread_ways (TTK K) := by
  obtain ⟨fd, F⟩ := c.t.d.def_ 13 (d := d_spread_ways) rfl
  have ne : ¬ (He.cT K PS).2 = (He.cT K PR).2 := fun e => by
    have := (He.ba c.more).2
    rw [decide_eq_true e] at this
    cases this
  have ec : fd.code = .ref (He.cT K ("spread_ways", none)).1 := by
    obtain ⟨oc, od, dV, kV, doc, pm, an, cdv, ct, osl, rfl, lk, hcd, _, _⟩ := F.ex
    obtain ⟨cc, rfl⟩ := He.codeIn_ref hcd
    have e : He.codeOf K ("spread_ways", none) = cc := He.codeOf_eq lk rfl
    show Value.ref cc = .ref (He.codeOf K ("spread_ways", none))
    rw [e]
  refine ⟨_, fd, _, _, F, He.glo_ok X G (c.t.d.fact 11 (f := .glo "spread_ways") rfl), ec, tb, ?_, fun p hp e => ?_⟩
  · exact List.mem_cons_self
  · rcases List.mem_cons.mp hp with z | hp
    · rw [z]
    · have z := List.mem_singleton.mp hp
      rw [z] at e
      exact absurd e.symm ne
theorem j_rounds {base : Heap} (X : K.In h) (G : h.Ns mainGlobals mg) (c : He.SaysX fas fns [] tfs exB w h K) (tb : TabB base mg (He.cT K ("rounds", none)).1 (He.cT K ("rounds", none)).2) : Dl K base mg "rounds" s_rounds (TTK K) := by
  obtain ⟨fd, F⟩ := c.t.d.def_ 28 (d := d_rounds) rfl
  have ne : ¬ (He.cT K PS).2 = (He.cT K PR).2 := fun e => by
    have := (He.ba c.more).2
    rw [decide_eq_true e] at this
    cases this
  have ec : fd.code = .ref (He.cT K ("rounds", none)).1 := by
    obtain ⟨oc, od, dV, kV, doc, pm, an, cdv, ct, osl, rfl, lk, hcd, _, _⟩ := F.ex
    obtain ⟨cc, rfl⟩ := He.codeIn_ref hcd
    have e : He.codeOf K ("rounds", none) = cc := He.codeOf_eq lk rfl
    show Value.ref cc = .ref (He.codeOf K ("rounds", none))
    rw [e]
  refine ⟨_, fd, _, _, F, He.glo_ok X G (c.t.d.fact 26 (f := .glo "rounds") rfl), ec, tb, ?_, fun p hp e => ?_⟩
  · exact List.mem_cons_of_mem _ (List.mem_singleton.mpr rfl)
  · rcases List.mem_cons.mp hp with z | hp
    · rw [z] at e
      exact absurd e ne
    · have z := List.mem_singleton.mp hp
      rw [z]
theorem j_init (c : He.SaysX fas fns [] tfs exB w h K) : Di K (He.ga K "Transfer") := by
  obtain ⟨fd, F⟩ := c.t.d.def_ 0 (d := dTrInit) rfl
  exact ⟨_, fd, He.mkr_ok (c.t.d.fact 65 (f := .mkr "Transfer") rfl), F⟩
theorem j_gap (c : He.SaysX fas fns [] tfs exB w h K) : Dg K (He.ga K "Transfer") := by
  obtain ⟨fd, F⟩ := c.t.d.def_ 1 (d := dTrGap) rfl
  exact ⟨_, fd, He.meth_ok (c.t.d.fact 64 (f := .meth "Transfer" "last_gap") rfl), F⟩
/-! ### the law's promise at the head's heap -/
theorem facts {f : Addr} (X : K.In h) (G : h.Ns mainGlobals mg) (hfa : mg ("law" : Str) = some (.ref f)) (c : He.SaysX fas fns [] tfs exB w h K) : LawAtS PySem.Challenge.rw_backmaps_k58_whole_rounds_by_events w K C8.CX0 18 63 "_law_script" mg f h := by
  obtain ⟨fd, F⟩ := c.t.d.def_ 40 (d := d_law) rfl
  have e := hfa.symm.trans (He.glo_ok X G (c.t.d.fact 38 (f := .glo "law") rfl))
  injection e with e
  injection e with e
  have b := FunD.bindsA (ps := ["_law_script"]) F fun _ _ _ _ _ _ us hl => match us, hl with | [_], _ => rfl
  rw [e]
  refine ⟨fd, [He.cT K PS, He.cT K PR], spLaw K (TTK K), fun p hp => ?_, fun p hp => ?_, fun p hp => ?_, fun s u => b s [u] rfl, fun H a ns hl _ hT hS => ⟨a, ns, rfl, hS, hl, fun p hp => ?_, fun _ => rfl⟩, fun base XB GB tb => ?_⟩
  · rcases List.mem_cons.mp hp with z | z
    · rw [z]
      exact c.empty PS List.mem_cons_self
    · rw [List.mem_singleton.mp z]
      exact c.empty PR (List.mem_cons_of_mem _ (List.mem_singleton.mpr rfl))
  · rcases List.mem_cons.mp hp with z | z
    · rw [z]
      exact c.out PS List.mem_cons_self
    · rw [List.mem_singleton.mp z]
      exact c.out PR (List.mem_cons_of_mem _ (List.mem_singleton.mpr rfl))
  · rcases List.mem_cons.mp hp with z | z
    · rw [z]
      exact PySem.W.codeHd_of_K X (c.hd PS List.mem_cons_self)
    · rw [List.mem_singleton.mp z]
      exact PySem.W.codeHd_of_K X (c.hd PR (List.mem_cons_of_mem _ (List.mem_singleton.mpr rfl)))
  · rcases List.mem_cons.mp hp with z | z
    · rw [z]
      exact TabS.nil (hT (He.cT K PS) List.mem_cons_self)
    · rw [List.mem_singleton.mp z]
      exact TabS.nil (hT (He.cT K PR) (List.mem_cons_of_mem _ (List.mem_singleton.mpr rfl)))
  · have tS := tb (He.cT K PS) List.mem_cons_self
    have tR := tb (He.cT K PR) (List.mem_cons_of_mem _ (List.mem_singleton.mpr rfl))
    have T := j_txt X G c
    have c_int := cal_is_integer (P := (PySem.Challenge.rw_backmaps_k58_whole_rounds_by_events).prog) (w := w) (base := base) (j_is_integer X G c) T
    have c_diff := cal_are_different (j_are_different X G c) T c_int
    have c_nf := cal_need_first (j_need_first X G c) T c_diff
    have c_tri := cal_is_triple (j_is_triple X G c) T c_int
    have c_ag := cal_is_against (P := (PySem.Challenge.rw_backmaps_k58_whole_rounds_by_events).prog) (w := w) (base := base) (j_is_against X G c) T
    have c_nt := cal_need_transfers (j_need_transfers X G c) T c_diff c_tri
    have c_nn := cal_need_net (j_need_net X G c) T c_diff c_nt
    have c_bw := cal_best_way (j_best_way X G c) T c_ag 6
    have c_ro := cal_rounds (j_rounds X G c tR) T c_nn c_bw
    have c_mi := cal_missing (j_missing X G c) T c_ro c_ag
    have c_mk := mak_tr (P := (PySem.Challenge.rw_backmaps_k58_whole_rounds_by_events).prog) (w := w) (mg := mg) (base := base) (j_init c) T
    have c_gap := met_gap (P := (PySem.Challenge.rw_backmaps_k58_whole_rounds_by_events).prog) (w := w) (mg := mg) (base := base) (j_gap c) T
    have c_ib := cal_is_begin (j_is_begin X G c) T c_int
    have c_tk := cal_takes (j_takes X G c) T c_int c_ib c_mk
    have c_to := cal_transfers_of (j_transfers_of X G c) T c_nf c_tk
    have c_uw := cal_under_way (P := (PySem.Challenge.rw_backmaps_k58_whole_rounds_by_events).prog) (w := w) (base := base) (j_under_way X G c) T
    have c_sb := cal_state_behind (P := (PySem.Challenge.rw_backmaps_k58_whole_rounds_by_events).prog) (w := w) (base := base) (j_state_behind X G c) T
    have c_ca := cal_carried (j_carried X G c) T c_uw
    have c_sw := cal_spread_ways (j_spread_ways X G c tS) T c_ca
    have c_wb := cal_ways_behind (j_ways_behind X G c) T c_sb
    have c_aw := cal_all_ways (j_all_ways X G c) T c_to c_wb c_sw
    have c_cl := cal_closed (j_closed X G c) T c_aw
    have c_po := cal_possible (j_possible X G c) T c_aw
    have c_jo := cal_journey (j_journey X G c) T c_aw
    have c_sp := cal_spread (j_spread X G c) T c_uw
    have c_di := cal_dirty (j_dirty X G c) T c_to c_sp
    have c_as := cal_are_steps (j_are_steps X G c) T c_int c_gap
    have c_so := cal_stays_of (P := (PySem.Challenge.rw_backmaps_k58_whole_rounds_by_events).prog) (w := w) (base := base) (j_stays_of X G c) T
    have c_ij := cal_is_journey (j_is_journey X G c) T c_to c_int c_as c_so
    have c_bg := cal_begun (P := (PySem.Challenge.rw_backmaps_k58_whole_rounds_by_events).prog) (w := w) (base := base) (j_begun X G c) T
    have c_dr := cal_draw (P := (PySem.Challenge.rw_backmaps_k58_whole_rounds_by_events).prog) (w := w) (base := base) (j_draw X G c) T
    have c_pk := cal_pick (j_pick X G c) T c_dr
    have c_sh := cal_shuffled (j_shuffled X G c) T c_dr
    have c_ar := cal_areas (j_areas X G c) T c_dr c_sh
    have c_tr := cal_triples (j_triples X G c) T c_dr c_sh
    have c_so2 := cal_some (j_some X G c) T c_dr c_sh
    have c_rw := cal_rows (j_rows X G c) T c_pk
    have c_sn := cal_shown (P := (PySem.Challenge.rw_backmaps_k58_whole_rounds_by_events).prog) (w := w) (base := base) (j_shown X G c) T
    have c_mr := cal_missing_right (j_missing_right X G c) T c_mi c_sn c_ij
    exact ok_law F T c_bg c_dr c_sh c_ar c_tr c_so2 c_rw c_ro c_po c_cl c_jo c_di c_mr
end
end B58
open PySem PySem.W PySem.Calls PyProof.Rows
theorem PySem.Challenge.cw_backmaps_k58_whole_rounds_by_events_holds : PySem.Challenge.rw_backmaps_k58_whole_rounds_by_events.Holds := by
  w_on; o_law
  refine HandSHeadRun.head_any (r := OpenLaw.row PySem.Challenge.rw_backmaps_k58_whole_rounds_by_events) (q := view (OpenLaw.row PySem.Challenge.rw_backmaps_k58_whole_rounds_by_events).prog [48]) (H := B58.hk) (ob := B58.ob) (M := 4000) (loose := B58.loose1 ++ B58.loose2) (d := HandSHeadRun.topDef (OpenLaw.row PySem.Challenge.rw_backmaps_k58_whole_rounds_by_events).prog 48) (kwd := []) B58.ob_eq
    (by kernel_rfl) (fun s => by kernel_rfl) B58.run (by kernel_rfl) (by kernel_rfl) (by kernel_rfl) (by rfl) (by first | assumption | decide +kernel) (by decide +kernel) ⟨rfl, rfl, rfl, rfl, rfl, by decide +kernel⟩ ?hw ?hc
  case hw => w_witness2
  case hc =>
    refine LamX.walk_ofTsE (l := PySem.Challenge.rw_backmaps_k58_whole_rounds_by_events) (n := 63) (k := 18) (x := "_law_script") (CX := fun _ => C8.CX0) rfl (by decide) (by kernel_rfl) ⟨rfl, by decide, by decide⟩ ?F (fun _ _ _ _ _ z => z)
    intro w mg fa h Y G hmg0
    obtain ⟨K, KX, c⟩ := Y
    have hmg : mg ("law" : PySem.Str) = some (.ref fa) := by
      have e : (HandSHeadRun.topDef (OpenLaw.row PySem.Challenge.rw_backmaps_k58_whole_rounds_by_events).prog 48).name = ("law" : PySem.Str) := by kernel_rfl
      rw [← e]
      exact hmg0
    exact ⟨K, KX, B58.facts KX G hmg c⟩
