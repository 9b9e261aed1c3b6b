import PyProof.Rows.All
import Wide.All
import OpenK.AllK
import Wide.FinOn
import HandS.ForMost
import HandS.Zip
import HandS.Walk
import HandS.Flow
import HandS.Style
import HandS.More
import HandS.Strs
import HandS.SetFor
import HandS.IsInst
import HandS.CallLocal
import HandS.Defaults
import HandS.DictTup
import HandS.TupMul
import HandS.TupLe
import HandS.TupAny
import HandS.Lambda
import HandS.Nested
import HandS.EndTab
import HandS.HeadWalk
import HandS.HeadHook4
import HandS.Head2
import HandS.Evl
import HandS.SortKw
import KE.SortData
import KE.SortKeyHeap
import KE.DataMinMax
import KE.GoesEnum
import KE.KStateDown
import Lean
import HandS.Ends
import HandS.Words
import HandS.WordsExc
import HandS.Head0
import HandS.Head1
import HandS.HeadEnd
import HandS.HeadHook1
import HandS.HeadHook2
import HandS.SetBool
import PySem.Challenge.RW_paperbest_k62_whole_pieces_or_a_load
set_option Elab.async false
set_option linter.all false
set_option maxRecDepth 100000
set_option maxHeartbeats 1000000
set_option autoImplicit false
namespace DW
open PySem PySem.Spec PyProof.Rows L2
abbrev prog : Program := PySem.Challenge.pw_paperbest_k62_whole_pieces_or_a_load
def top (i : Nat) : Stmt := prog.main.body.getD i (.Pass ⟨0, 0, 0, 0⟩)
def fnList : List (Str × Nat) := [(("job_windows" : Str), 6), (("size_of_wish" : Str), 7), (("window_end" : Str), 8), (("work_of" : Str), 9), (("jobs_within" : Str), 10), (("load_parts" : Str), 11), (("leaf_of_part" : Str), 12), (("served_jobs" : Str), 14), (("jobs_open" : Str), 15), (("pieces_or_load" : Str), 16), (("is_integer" : Str), 21), (("is_number" : Str), 22), (("is_name" : Str), 23), (("is_listing" : Str), 24), (("are_places" : Str), 40), (("is_lot_of" : Str), 42), (("are_jobs" : Str), 44), (("is_bench" : Str), 45), (("is_room" : Str), 46), (("is_wish" : Str), 47), (("is_unknown" : Str), 50), (("check_unknowns" : Str), 51), (("check_task" : Str), 52), (("jobs_in" : Str), 58), (("size_in" : Str), 59), (("wish_of" : Str), 74), (("is_load" : Str), 83), (("leaf_holds" : Str), 88), (("_law_heap" : Str), 90), (("_law_draw" : Str), 91), (("_law_pick" : Str), 92), (("_law_task" : Str), 93), (("_law_windows" : Str), 94), (("_law_far" : Str), 95), (("_law_too_much" : Str), 96), (("_law_pieces_right" : Str), 97), (("_law_load_right" : Str), 98), (("_law_world_right" : Str), 99), (("law" : Str), 100)]
def textWords : List Str := ["and", "bench", "if", "least", "or", "room", "round", "table", "then", "unlike"]
def initSt : Stmt := match top 53 with
  | .ClassDef _ _ _ b _ _ _ _ _ _ _ => b.getD 0 (.Pass ⟨0, 0, 0, 0⟩)
  | _ => .Pass ⟨0, 0, 0, 0⟩
end DW
set_option Elab.async false
set_option linter.all false
set_option maxRecDepth 100000
set_option maxHeartbeats 0
namespace HdK
open PySem PySem.Spec PyProof.Rows L2 DW
def dDef (x : Str) (i : Nat) : He.DefD := ⟨(x, none), x, x, defArgs (top i), defBody (top i), defScope (top i), [], []⟩
def dInit : He.DefD := ⟨("Task", some "__init__"), "__init__", "Task.__init__", defArgs initSt, defBody initSt, defScope initSt, [], []⟩
def fn : List He.DefD := dInit :: fnList.map fun p => dDef p.1 p.2
def frees : List Str := ["abs", "all", "any", "bool", "enumerate", "int", "isinstance", "len", "list", "max", "min", "range", "set", "sorted", "str", "sum", "tuple", "zip"]
def fa : List He.Fa := [.glo "Task", .glo "SHAPES", .glo "TEXT_WORDS", .str "LETTERS" "abcdefghijklmnopqrstuvwxyz", .int "LONGEST_NAME" 6, .cls "Task", .mkr "Task", .noat "Task" "unknowns", .noat "Task" "wishes", .noat "Task" "goal"] ++ (fnList.map fun p => He.Fa.glo p.1) ++ frees.map fun x => He.Fa.free x
def ts : List He.Tab := [(fun K => He.ga K "SHAPES", ["worth", "none", "crowd", "out", "shut", "late", "load", "full", "ring", "broken"])]
def tf : List He.Defn := [("served_jobs", none)]
/-- a tuple of values at a -/
def tupB (K : PySem.W.Frag) (a : Addr) (vs : List V) : Bool := match K.lookup a with
  | some ⟨.type c, none, .seq its _, _⟩ => decide (c = "tuple") && He.relAll vs its.toList
  | _ => false
def loadAt (K : PySem.W.Frag) : Addr := match PySem.W.nsIn K (He.ga K "SHAPES") "load" with
  | some (some (.ref t)) => t
  | _ => 0
def ex (K : PySem.W.Frag) : Bool := tupB K (He.ga K "TEXT_WORDS") (textWords.map V.str) && (He.eqO (PySem.W.nsIn K (He.ga K "SHAPES") "load") (some (some (.ref (loadAt K)))) && tupB K (loadAt K) [.int 5, .ref (He.ga K "is_load")])
abbrev R : PySem.W.OpenRow := PySem.W.OpenLaw.row PySem.Challenge.rw_paperbest_k62_whole_pieces_or_a_load
/-- the addresses that the head looks at: the whole heap behind the top -/
def lots : List Addr := List.range 592
def obL (g : Addr → Option Obj) : He.AlX := (He.obsT fa fn ts (He.frT g lots), ex (He.frT g lots) && He.tabsB g tf (He.frT g lots))
theorem obL_says {w : World} {h : Heap} (e : obL h.get? = He.valX fn ts w) : He.SaysX fa fn ts tf ex w h (He.frT h.get? lots) := by
  generalize hK : He.frT h.get? lots = K
  have z := Prod.mk.inj (show (He.obsT fa fn ts (He.frT h.get? lots), (ex (He.frT h.get? lots) && He.tabsB h.get? tf (He.frT h.get? lots))) = (He.valT fn ts w, true) from e)
  rw [hK] at z
  have y := Bool.and_eq_true_iff.mp z.2
  have each : ∀ p ∈ tf, PySem.W.codeHdIn K (He.cT K p).1 (He.cT K p).2 = true ∧ ∃ o : Obj, h.get? (He.cT K p).2 = some o ∧ He.emptyTab o = true := by
    intro p hp
    have v := Bool.and_eq_true_iff.mp (List.all_eq_true.mp y.2 p hp)
    have v2 := v.2
    refine ⟨v.1, ?_⟩
    cases q : h.get? (He.cT K p).2 with
    | some o => exact ⟨o, rfl, by simpa only [q] using v2⟩
    | none => simp only [q] at v2; cases v2
  constructor
  · exact z.1
  · exact y.1
  · exact fun p hp => (each p hp).1
  · intro p hp
    obtain ⟨_, o, q, u⟩ := each p hp
    rw [← hK] at q ⊢
    exact He.frT_none q u
  · intro p hp
    obtain ⟨_, o, q, u⟩ := each p hp
    exact q.trans (congrArg some (He.emptyTab_eq u))
abbrev hk : PySem.W.Hook where
  α := He.AlX
  obs s := obL s.heap.get?
  val w := He.valX fn ts w
  says w h := ∃ K : PySem.W.Frag, K.In h ∧ He.SaysX fa fn ts tf ex w h K
  of _ _ e := ⟨He.frT _ lots, He.frT_in, obL_says e⟩
  keeps _ _ _ z k := match z with
    | ⟨K, X, c⟩ => ⟨K, PySem.W.Frag.In.keeps X k, { t := c.t, more := c.more, hd := c.hd, out := c.out, empty := fun p hp => k _ _ (c.empty p hp) }⟩
def ob (s : PySem.W.SharedT) : He.AlX := obL (HandSHeadRun.getT s)
theorem ob_eq (s : PySem.W.SharedT) : ob s = hk.obs s.abs := congrArg obL (funext (HandSHeadRun.getT_eq s))
def loose0 : List Str := ["__name__", "TaskError", "InvalidTask", "InvalidPaper", "InvalidNumber", "job_windows", "size_of_wish", "window_end", "work_of", "jobs_within", "load_parts", "leaf_of_part", "served_jobs", "jobs_open", "pieces_or_load", "LETTERS", "LONGEST_NAME", "TEXT_WORDS"]
def loose1 : List Str := ["is_integer", "is_number", "is_name", "is_listing", "ZERO", "shared_divisor", "fraction_of", "whole", "is_fraction", "added", "timed", "ceiling_of", "is_row", "total_of", "MOST_SUMS", "is_sum", "are_places", "is_table"]
def loose2 : List Str := ["is_lot_of", "is_either", "are_jobs", "is_bench", "is_room", "is_wish", "named_by", "is_unknown", "check_unknowns", "check_task", "Task", "values_at", "keeps_sum", "needs_at", "jobs_in", "size_in", "keeps_jobs", "way_round"]
def loose3 : List Str := ["keeps_wish", "unit_parts", "row_of_key", "summed", "is_row_key", "is_key", "is_share", "is_item", "check_multipliers", "are_multipliers", "wish_of", "greatest_sum", "is_worth", "is_none", "is_crowd", "is_out", "is_shut", "is_after"]
def loose4 : List Str := ["is_late", "is_load", "is_full", "is_ring", "is_broken", "SHAPES", "leaf_holds", "_law_heap", "_law_draw", "_law_pick", "_law_task", "_law_windows", "_law_far", "_law_too_much", "_law_pieces_right", "_law_load_right", "_law_world_right"]
def loose : List Str := loose0 ++ loose1 ++ loose2 ++ loose3 ++ loose4
theorem runF (w : World) : HandSHeadRun.RunEq R (PySem.W.view R.prog [100]) hk ob 8000 loose (w.withFollow "special-get-raises" false) := by
  intro os
  kernel_rfl
theorem runT (w : World) : HandSHeadRun.RunEq R (PySem.W.view R.prog [100]) hk ob 8000 loose (w.withFollow "special-get-raises" true) := by
  intro os
  kernel_rfl
theorem run (w : World) : HandSHeadRun.RunEq R (PySem.W.view R.prog [100]) hk ob 8000 loose w := PySem.W.byRow2 "special-get-raises" runF runT w
end HdK
set_option linter.all false
namespace K62
/-- a window: least and greatest start, length, need -/
structure Wn where
  lo : Int
  hi : Int
  ln : Int
  nd : Int
  deriving DecidableEq, Inhabited
def Wn.fin (w : Wn) : Int := w.hi + w.ln
def Wn.wk (w : Wn) : Int := w.ln * w.nd
/-- a piece: job, start, end, units -/
structure Pc where
  j : Int
  s : Int
  t : Int
  u : Int
  deriving DecidableEq, Inhabited

/-! ### sorted lots of integers -/
def ins (x : Int) : List Int → List Int
  | [] => [x]
  | y :: r => if x < y then x :: y :: r else if x = y then y :: r else y :: ins x r
def usort (l : List Int) : List Int := l.foldr ins []
theorem mem_ins {x z : Int} : ∀ {l : List Int}, z ∈ ins x l ↔ z = x ∨ z ∈ l
  | [] => by simp [ins]
  | y :: r => by
    unfold ins
    split
    · simp
    · split
      · rename_i h; subst h; simp
      · simp only [List.mem_cons, mem_ins (l := r)]
        constructor
        · rintro (h | h | h)
          · exact .inr (.inl h)
          · exact .inl h
          · exact .inr (.inr h)
        · rintro (h | h | h)
          · exact .inr (.inl h)
          · exact .inl h
          · exact .inr (.inr h)
theorem ins_pw {x : Int} : ∀ {l : List Int}, l.Pairwise (· < ·) → (ins x l).Pairwise (· < ·)
  | [], _ => by simp [ins]
  | y :: r, h => by
    have h' := List.pairwise_cons.mp h
    unfold ins
    split
    · rename_i hx
      refine List.pairwise_cons.mpr ⟨fun z hz => ?_, h⟩
      rcases List.mem_cons.mp hz with rfl | hz
      · exact hx
      · exact Int.lt_trans hx (h'.1 z hz)
    · split
      · exact h
      · rename_i h1 h2
        refine List.pairwise_cons.mpr ⟨fun z hz => ?_, ins_pw h'.2⟩
        rcases mem_ins.mp hz with rfl | hz
        · omega
        · exact h'.1 z hz
theorem mem_usort {z : Int} : ∀ {l : List Int}, z ∈ usort l ↔ z ∈ l
  | [] => by simp [usort]
  | x :: r => by
    show z ∈ ins x (usort r) ↔ _
    rw [mem_ins, mem_usort (l := r), List.mem_cons]
theorem usort_pw : ∀ l : List Int, (usort l).Pairwise (· < ·)
  | [] => List.Pairwise.nil
  | x :: r => ins_pw (usort_pw r)
theorem pw_unique : ∀ {a b : List Int}, a.Pairwise (· < ·) → b.Pairwise (· < ·) → (∀ z, z ∈ a ↔ z ∈ b) → a = b
  | [], [], _, _, _ => rfl
  | [], y :: b, _, _, h => absurd ((h y).mpr (List.mem_cons_self ..)) (by simp)
  | x :: a, [], _, _, h => absurd ((h x).mp (List.mem_cons_self ..)) (by simp)
  | x :: a, y :: b, ha, hb, h => by
    have ha' := List.pairwise_cons.mp ha
    have hb' := List.pairwise_cons.mp hb
    have exy : x = y := by
      rcases List.mem_cons.mp ((h x).mp (List.mem_cons_self ..)) with e | m
      · exact e
      · rcases List.mem_cons.mp ((h y).mpr (List.mem_cons_self ..)) with e | m'
        · exact e.symm
        · have h1 := hb'.1 x m
          have h2 := ha'.1 y m'
          omega
    subst exy
    refine congrArg (List.cons x) (pw_unique ha'.2 hb'.2 fun z => ?_)
    constructor
    · intro hz
      rcases List.mem_cons.mp ((h z).mp (List.mem_cons_of_mem _ hz)) with e | m
      · subst e; exact absurd (ha'.1 _ hz) (Int.lt_irrefl _)
      · exact m
    · intro hz
      rcases List.mem_cons.mp ((h z).mpr (List.mem_cons_of_mem _ hz)) with e | m
      · subst e; exact absurd (hb'.1 _ hz) (Int.lt_irrefl _)
      · exact m

/-! ### sums over the jobs -/
def tot : Nat → (Nat → Int) → Int
  | 0, _ => 0
  | n + 1, f => tot n f + f n
theorem tot_congr {f g : Nat → Int} : ∀ {n : Nat}, (∀ j, j < n → f j = g j) → tot n f = tot n g
  | 0, _ => rfl
  | n + 1, h => by
    show tot n f + f n = tot n g + g n
    rw [tot_congr fun j hj => h j (by omega), h n (by omega)]
theorem tot_le {f g : Nat → Int} : ∀ {n : Nat}, (∀ j, j < n → f j ≤ g j) → tot n f ≤ tot n g
  | 0, _ => Int.le_refl _
  | n + 1, h => by
    show tot n f + f n ≤ tot n g + g n
    have h1 := tot_le (n := n) fun j hj => h j (by omega)
    have h2 := h n (by omega)
    omega
theorem tot_zero (n : Nat) : tot n (fun _ => 0) = 0 := by
  induction n with
  | zero => rfl
  | succ n ih => show tot n _ + 0 = 0; rw [ih]; rfl
theorem tot_add (f g : Nat → Int) : ∀ n, tot n (fun j => f j + g j) = tot n f + tot n g
  | 0 => rfl
  | n + 1 => by
    show tot n (fun j => f j + g j) + (f n + g n) = tot n f + f n + (tot n g + g n)
    rw [tot_add f g n]; omega
theorem tot_sub (f g : Nat → Int) : ∀ n, tot n (fun j => f j - g j) = tot n f - tot n g
  | 0 => rfl
  | n + 1 => by
    show tot n (fun j => f j - g j) + (f n - g n) = tot n f + f n - (tot n g + g n)
    rw [tot_sub f g n]; omega
theorem tot_nonneg {f : Nat → Int} {n : Nat} (h : ∀ j, j < n → 0 ≤ f j) : 0 ≤ tot n f := by
  have := tot_le (f := fun _ => 0) h
  rw [tot_zero] at this
  exact this
/-- one of them at most the whole -/
theorem tot_one {f : Nat → Int} : ∀ {n : Nat}, (∀ j, j < n → 0 ≤ f j) → ∀ i, i < n → f i ≤ tot n f
  | 0, _, i, h => by omega
  | n + 1, h, i, hi => by
    show f i ≤ tot n f + f n
    have h0 := tot_nonneg (n := n) fun j hj => h j (by omega)
    have hn := h n (by omega)
    by_cases e : i = n
    · subst e; omega
    · have := tot_one (n := n) (fun j hj => h j (by omega)) i (by omega)
      omega
theorem tot_upd {f : Nat → Int} {i : Nat} {d : Int} : ∀ {n : Nat}, i < n → tot n (fun j => if j = i then f j + d else f j) = tot n f + d
  | 0, h => by omega
  | n + 1, h => by
    show tot n (fun j => if j = i then f j + d else f j) + (if n = i then f n + d else f n) = tot n f + f n + d
    by_cases e : n = i
    · subst e
      rw [if_pos rfl, tot_congr (g := f) fun j hj => if_neg (by omega)]
      omega
    · rw [tot_upd (n := n) (by omega), if_neg e]; omega

/-! ### the work of some jobs -/
def at_ (ws : List Wn) (j : Nat) : Wn := ws.getD j default
def ra (rest : List Int) (j : Nat) : Int := rest.getD j 0
def workOf (ws : List Wn) (js : List Nat) : Int := (js.map fun j => (at_ ws j).wk).sum
def insideP (ws : List Wn) (a b : Int) (j : Nat) : Bool := decide (a ≤ (at_ ws j).lo ∧ (at_ ws j).fin ≤ b)
def within (ws : List Wn) (a b : Int) : List Nat := (List.range ws.length).filter (insideP ws a b)
theorem sum_range_filter (f : Nat → Int) (p : Nat → Bool) : ∀ n, (((List.range n).filter p).map f).sum = tot n fun j => if p j = true then f j else 0
  | 0 => rfl
  | n + 1 => by
    rw [List.range_succ, List.filter_append, List.map_append, List.sum_append, sum_range_filter f p n]
    show _ = tot n _ + _
    congr 1
    by_cases h : p n = true
    · simp [h]
    · simp [h]
theorem work_within (ws : List Wn) (a b : Int) : workOf ws (within ws a b) = tot ws.length fun j => if insideP ws a b j = true then (at_ ws j).wk else 0 := sum_range_filter _ _ _
theorem map_range_at (ws : List Wn) : (List.range ws.length).map (at_ ws) = ws := by
  apply List.ext_getElem
  · simp
  · intro i h1 h2
    simp [at_, List.getD_eq_getElem?_getD, h2]
/-- the same by the windows themselves -/
def insW (ws : List Wn) (a b : Int) : List Wn := ws.filter fun w => decide (a ≤ w.lo ∧ w.fin ≤ b)
theorem insW_eq (ws : List Wn) (a b : Int) : insW ws a b = (within ws a b).map (at_ ws) := by
  unfold insW within
  conv => lhs; rw [← map_range_at ws]
  rw [List.filter_map]
  congr 1
theorem insW_work (ws : List Wn) (a b : Int) : ((insW ws a b).map Wn.wk).sum = workOf ws (within ws a b) := by
  rw [insW_eq, List.map_map]; rfl

/-! ### loads -/
def Over (ws : List Wn) (size a b : Int) : Prop := a ≤ b ∧ workOf ws (within ws a b) > (b - a) * size
instance (ws : List Wn) (size a b : Int) : Decidable (Over ws size a b) := by unfold Over; infer_instance
def lows (ws : List Wn) : List Int := usort (ws.map Wn.lo)
def fins (ws : List Wn) : List Int := usort (ws.map Wn.fin)
structure Ld where
  js : List Nat
  a : Int
  b : Int
  deriving DecidableEq, Inhabited
def loadsB (ws : List Wn) (size a : Int) (bs : List Int) : List Ld := bs.filterMap fun b => if Over ws size a b then some ⟨within ws a b, a, b⟩ else none
def loads (ws : List Wn) (size : Int) : List Ld := ((lows ws).map fun a => loadsB ws size a (fins ws)).flatten
def tooMuch (ws : List Wn) (size : Int) : Bool := ws.any fun f => ws.any fun l => decide (Over ws size f.lo l.fin)
theorem tooMuch_iff {ws : List Wn} {size : Int} : tooMuch ws size = true ↔ ∃ f ∈ ws, ∃ l ∈ ws, Over ws size f.lo l.fin := by
  unfold tooMuch
  simp [List.any_eq_true]
theorem mem_loads {ws : List Wn} {size : Int} {x : Ld} : x ∈ loads ws size ↔ ∃ f ∈ ws, ∃ l ∈ ws, Over ws size f.lo l.fin ∧ x = ⟨within ws f.lo l.fin, f.lo, l.fin⟩ := by
  unfold loads loadsB lows fins
  simp only [List.mem_flatten, List.mem_map, List.mem_filterMap, mem_usort]
  constructor
  · rintro ⟨l, ⟨a, ⟨f, hf, rfl⟩, rfl⟩, hx⟩
    obtain ⟨b, hb, e⟩ := List.mem_filterMap.mp hx
    obtain ⟨l, hl, rfl⟩ := List.mem_map.mp (mem_usort.mp hb)
    split at e
    · rename_i ho
      exact ⟨f, hf, l, hl, ho, (Option.some.inj e).symm⟩
    · cases e
  · rintro ⟨f, hf, l, hl, ho, rfl⟩
    refine ⟨_, ⟨f.lo, ⟨f, hf, rfl⟩, rfl⟩, List.mem_filterMap.mpr ⟨l.fin, mem_usort.mpr (List.mem_map.mpr ⟨l, hl, rfl⟩), ?_⟩⟩
    rw [if_pos ho]
theorem loads_ne {ws : List Wn} {size : Int} : loads ws size ≠ [] ↔ tooMuch ws size = true := by
  rw [tooMuch_iff]
  constructor
  · intro h
    obtain ⟨x, hx⟩ := List.exists_mem_of_ne_nil _ h
    obtain ⟨f, hf, l, hl, ho, _⟩ := mem_loads.mp hx
    exact ⟨f, hf, l, hl, ho⟩
  · rintro ⟨f, hf, l, hl, ho⟩
    exact List.ne_nil_of_mem (mem_loads.mpr ⟨f, hf, l, hl, ho, rfl⟩)

/-! ### serving one interval -/
def opens (ws : List Wn) (s t : Int) : List Nat := (List.range ws.length).filter fun j => decide ((at_ ws j).lo ≤ s ∧ t ≤ (at_ ws j).fin)
def le2 (ws : List Wn) (a b : Nat) : Bool := decide ((at_ ws a).fin < (at_ ws b).fin ∨ ((at_ ws a).fin = (at_ ws b).fin ∧ (a : Int) ≤ (b : Int)))
def served (ws : List Wn) (rest : List Int) (s t : Int) : List Nat := ((opens ws s t).filter fun j => decide (ra rest j > 0)).mergeSort (le2 ws)
def units (rest : List Int) (room : Int) (j : Nat) : Int := if room < ra rest j then room else ra rest j
def serve (s t : Int) : List Nat → List Int → Int → List Pc → List Int × Int × List Pc
  | [], rest, room, pcs => (rest, room, pcs)
  | j :: js, rest, room, pcs =>
    if 0 < units rest room j then serve s t js (rest.set j (ra rest j - units rest room j)) (room - units rest room j) (pcs ++ [⟨j, s, t, units rest room j⟩])
    else serve s t js rest room pcs
def slot (ws : List Wn) (size s t : Int) (st : List Int × List Pc) : List Int × List Pc :=
  let r := serve s t (served ws st.1 s t) st.1 ((t - s) * size) st.2
  (r.1, r.2.2)
def edges (ws : List Wn) : List Int := usort ((ws.map fun w => [w.lo, w.fin]).flatten)
def edge (ws : List Wn) (i : Nat) : Int := (edges ws).getD i 0
def steps (ws : List Wn) (size : Int) : Nat → List Int × List Pc
  | 0 => (ws.map Wn.wk, [])
  | i + 1 => slot ws size (edge ws i) (edge ws (i + 1)) (steps ws size i)
def final (ws : List Wn) (size : Int) : List Int × List Pc := steps ws size ((edges ws).length - 1)
def leP (p q : Pc) : Bool := decide (p.j < q.j ∨ (p.j = q.j ∧ (p.s < q.s ∨ (p.s = q.s ∧ (p.t < q.t ∨ (p.t = q.t ∧ p.u ≤ q.u))))))
/-- what pieces_or_load tells: pieces, or a load -/
def told (ws : List Wn) (size : Int) : Sum (List Pc) Ld :=
  if (final ws size).1.any (fun r => decide (r > 0)) = true then .inr ((loads ws size).headD default) else .inl ((final ws size).2.mergeSort leP)
def demo : List Wn := [⟨0, 4, 2, 1⟩, ⟨1, 1, 2, 1⟩, ⟨3, 3, 2, 1⟩]
end K62
set_option linter.all false
namespace K62
theorem ra_set {rest : List Int} {j i : Nat} {v : Int} (hj : j < rest.length) : ra (rest.set j v) i = if i = j then v else ra rest i := by
  unfold ra
  rw [List.getD_eq_getElem?_getD, List.getElem?_set]
  by_cases h : j = i
  · subst h; simp [hj]
  · rw [if_neg h, if_neg (by omega), List.getD_eq_getElem?_getD]
/-- units of the pieces of a job -/
def unitsJ (j : Int) (ps : List Pc) : Int := ((ps.filter fun p => decide (p.j = j)).map Pc.u).sum
def unitsAll (ps : List Pc) : Int := (ps.map Pc.u).sum
theorem unitsJ_app (j : Int) (a b : List Pc) : unitsJ j (a ++ b) = unitsJ j a + unitsJ j b := by simp [unitsJ]
theorem unitsJ_one (j : Int) (p : Pc) : unitsJ j [p] = if p.j = j then p.u else 0 := by
  unfold unitsJ
  by_cases h : p.j = j
  · simp [h]
  · simp [h]
theorem unitsAll_app (a b : List Pc) : unitsAll (a ++ b) = unitsAll a + unitsAll b := by simp [unitsAll]

structure Served (ws : List Wn) (s t : Int) (js : List Nat) (rest : List Int) (room : Int) (pcs : List Pc) (r : List Int × Int × List Pc) : Prop where
  len : r.1.length = rest.length
  lo : ∀ j, 0 ≤ ra r.1 j
  hi : ∀ j, ra r.1 j ≤ ra rest j
  out : ∀ j, j ∉ js → ra r.1 j = ra rest j
  room0 : 0 ≤ r.2.1
  sum : tot rest.length (fun j => ra rest j - ra r.1 j) = room - r.2.1
  full : ∀ j ∈ js, 0 < ra r.1 j → r.2.1 = 0
  later : ∀ j0 ∈ js, 0 < ra r.1 j0 → ∀ j ∈ js, (at_ ws j0).fin < (at_ ws j).fin → ra r.1 j = ra rest j
  new : ∃ nw, r.2.2 = pcs ++ nw ∧ (∀ p ∈ nw, 1 ≤ p.u ∧ p.s = s ∧ p.t = t ∧ ∃ j ∈ js, p.j = (j : Int)) ∧ (∀ j : Nat, unitsJ j nw = ra rest j - ra r.1 j) ∧ unitsAll nw = room - r.2.1

theorem serve_room0 {s t : Int} : ∀ (js : List Nat) (rest : List Int) (pcs : List Pc), (∀ j, 0 ≤ ra rest j) → serve s t js rest 0 pcs = (rest, 0, pcs)
  | [], _, _, _ => rfl
  | j :: js, rest, pcs, h => by
    unfold serve
    have hu : ¬ 0 < units rest 0 j := by
      unfold units
      have := h j
      split <;> omega
    rw [if_neg hu]
    exact serve_room0 js rest pcs h

theorem serve_ok {ws : List Wn} {s t : Int} : ∀ (js : List Nat) (rest : List Int) (room : Int) (pcs : List Pc), js.Nodup → js.Pairwise (fun a b => (at_ ws a).fin ≤ (at_ ws b).fin) → (∀ j ∈ js, j < rest.length) → (∀ j, 0 ≤ ra rest j) → 0 ≤ room →
    Served ws s t js rest room pcs (serve s t js rest room pcs)
  | [], rest, room, pcs, _, _, _, h0, hr => by
    refine ⟨rfl, h0, fun _ => Int.le_refl _, fun _ _ => rfl, hr, ?_, fun _ h => absurd h (by simp), fun _ h => absurd h (by simp), [], by simp [serve], by simp, ?_, ?_⟩
    · show tot rest.length (fun j => ra rest j - ra rest j) = room - room
      rw [tot_congr (g := fun _ => 0) fun j _ => by omega, tot_zero]; omega
    · intro j; show (0 : Int) = ra rest j - ra rest j; omega
    · show (0 : Int) = room - room; omega
  | j :: js, rest, room, pcs, hn, hp, hl, h0, hr => by
    have hn' := List.nodup_cons.mp hn
    have hp' := List.pairwise_cons.mp hp
    have hjl : j < rest.length := hl j (List.mem_cons_self ..)
    have hl' : ∀ i ∈ js, i < rest.length := fun i hi => hl i (List.mem_cons_of_mem _ hi)
    unfold serve
    have hu1 : units rest room j ≤ room := by unfold units; split <;> omega
    have hu2 : units rest room j ≤ ra rest j := by unfold units; split <;> omega
    have hu0 : 0 ≤ units rest room j := by unfold units; have := h0 j; split <;> omega
    have hu3 : units rest room j = room ∨ units rest room j = ra rest j := by unfold units; split <;> simp
    by_cases hu : 0 < units rest room j
    · rw [if_pos hu]
      generalize hu' : units rest room j = u at *
      have e1 : ∀ i, ra (rest.set j (ra rest j - u)) i = if i = j then ra rest j - u else ra rest i := fun i => ra_set hjl
      have hlen : (rest.set j (ra rest j - u)).length = rest.length := List.length_set
      have h0' : ∀ i, 0 ≤ ra (rest.set j (ra rest j - u)) i := fun i => by
        rw [e1]; have := h0 i; split <;> omega
      have S := serve_ok (ws := ws) (s := s) (t := t) js (rest.set j (ra rest j - u)) (room - u) (pcs ++ [⟨j, s, t, u⟩]) hn'.2 hp'.2 (fun i hi => by rw [hlen]; exact hl' i hi) h0' (by omega)
      generalize hr' : serve s t js (rest.set j (ra rest j - u)) (room - u) (pcs ++ [⟨j, s, t, u⟩]) = r at S
      have ej : ra r.1 j = ra rest j - u := by rw [S.out j hn'.1, e1, if_pos rfl]
      refine ⟨S.len.trans hlen, S.lo, fun i => ?_, fun i hi => ?_, S.room0, ?_, fun i hi h => ?_, fun i0 hi0 hpos i hi hlt => ?_, ?_⟩
      · have := S.hi i; rw [e1] at this; split at this
        · rename_i e; subst e; omega
        · exact this
      · have n1 : i ≠ j := fun e => hi (by rw [e]; exact List.mem_cons_self ..)
        rw [S.out i fun m => hi (List.mem_cons_of_mem _ m), e1, if_neg n1]
      · have hs := S.sum
        rw [hlen] at hs
        have : tot rest.length (fun i => ra rest i - ra r.1 i) = tot rest.length (fun i => if i = j then (ra (rest.set j (ra rest j - u)) i - ra r.1 i) + u else ra (rest.set j (ra rest j - u)) i - ra r.1 i) := tot_congr fun i _ => by
          rw [e1]; split
          · rename_i e; subst e; omega
          · rfl
        rw [this, tot_upd hjl, hs]; omega
      · rcases List.mem_cons.mp hi with e | m
        · subst e
          rw [ej] at h
          have er : room - u = 0 := by omega
          rw [er, serve_room0 _ _ _ h0'] at hr'
          rw [← hr']
        · exact S.full i m h
      · rcases List.mem_cons.mp hi0 with e | m
        · subst e
          rw [ej] at hpos
          have er : room - u = 0 := by omega
          rw [er, serve_room0 _ _ _ h0'] at hr'
          rw [← hr', e1]
          split
          · rename_i e; subst e; omega
          · rfl
        · have hle := hp'.1 i0 m
          rcases List.mem_cons.mp hi with e | m'
          · subst e; omega
          · rw [S.later i0 m hpos i m' hlt, e1, if_neg]
            rintro rfl
            exact hn'.1 m'
      · obtain ⟨nw, a1, a2, a3, a4⟩ := S.new
        refine ⟨⟨j, s, t, u⟩ :: nw, by rw [a1]; simp, fun p hp2 => ?_, fun i => ?_, ?_⟩
        · rcases List.mem_cons.mp hp2 with e | m
          · subst e; exact ⟨by show 1 ≤ u; omega, rfl, rfl, j, List.mem_cons_self .., rfl⟩
          · obtain ⟨b1, b2, b3, i, hi, b4⟩ := a2 p m
            exact ⟨b1, b2, b3, i, List.mem_cons_of_mem _ hi, b4⟩
        · have : unitsJ (i : Int) (⟨j, s, t, u⟩ :: nw) = unitsJ (i : Int) [⟨j, s, t, u⟩] + unitsJ (i : Int) nw := unitsJ_app _ [_] _
          rw [this, unitsJ_one, a3, e1]
          show (if (j : Int) = (i : Int) then u else 0) + _ = _
          by_cases e : i = j
          · subst e; rw [if_pos rfl, if_pos rfl]; omega
          · rw [if_neg (by omega), if_neg e]; omega
        · show u + unitsAll nw = room - r.2.1
          rw [a4]; omega
    · rw [if_neg hu]
      have ez : units rest room j = 0 := by omega
      have S := serve_ok (ws := ws) (s := s) (t := t) js rest room pcs hn'.2 hp'.2 hl' h0 hr
      generalize hr' : serve s t js rest room pcs = r at S
      have ej : ra r.1 j = ra rest j := S.out j hn'.1
      have hz : 0 < ra rest j → room = 0 := fun h => by omega
      refine ⟨S.len, S.lo, S.hi, fun i hi => S.out i fun m => hi (List.mem_cons_of_mem _ m), S.room0, S.sum, fun i hi h => ?_, fun i0 hi0 hpos i hi hlt => ?_, ?_⟩
      · rcases List.mem_cons.mp hi with e | m
        · subst e
          rw [ej] at h
          rw [hz h, serve_room0 _ _ _ h0] at hr'
          rw [← hr']
        · exact S.full i m h
      · rcases List.mem_cons.mp hi0 with e | m
        · subst e
          rw [ej] at hpos
          rw [hz hpos, serve_room0 _ _ _ h0] at hr'
          rw [← hr']
        · have hle := hp'.1 i0 m
          rcases List.mem_cons.mp hi with e | m'
          · subst e; omega
          · exact S.later i0 m hpos i m' hlt
      · obtain ⟨nw, a1, a2, a3, a4⟩ := S.new
        refine ⟨nw, a1, fun p hp2 => ?_, a3, a4⟩
        obtain ⟨b1, b2, b3, i, hi, b4⟩ := a2 p hp2
        exact ⟨b1, b2, b3, i, List.mem_cons_of_mem _ hi, b4⟩

/-! ### the jobs served -/
theorem mem_opens {ws : List Wn} {s t : Int} {j : Nat} : j ∈ opens ws s t ↔ j < ws.length ∧ (at_ ws j).lo ≤ s ∧ t ≤ (at_ ws j).fin := by
  unfold opens
  rw [List.mem_filter, List.mem_range, decide_eq_true_eq]
theorem mem_served {ws : List Wn} {rest : List Int} {s t : Int} {j : Nat} : j ∈ served ws rest s t ↔ (j < ws.length ∧ (at_ ws j).lo ≤ s ∧ t ≤ (at_ ws j).fin) ∧ 0 < ra rest j := by
  unfold served
  rw [(List.mergeSort_perm _ _).mem_iff, List.mem_filter, mem_opens, decide_eq_true_eq]
theorem served_nodup {ws : List Wn} {rest : List Int} {s t : Int} : (served ws rest s t).Nodup := by
  unfold served
  refine (List.mergeSort_perm _ _).nodup_iff.mpr ?_
  exact (List.nodup_range.filter _).filter _
theorem le2_trans {ws : List Wn} (a b c : Nat) (h1 : le2 ws a b = true) (h2 : le2 ws b c = true) : le2 ws a c = true := by
  unfold le2 at *
  simp only [decide_eq_true_eq] at *
  omega
theorem le2_total {ws : List Wn} (a b : Nat) : (le2 ws a b || le2 ws b a) = true := by
  unfold le2
  simp only [Bool.or_eq_true, decide_eq_true_eq]
  omega
theorem served_sorted {ws : List Wn} {rest : List Int} {s t : Int} : (served ws rest s t).Pairwise (fun a b => (at_ ws a).fin ≤ (at_ ws b).fin) := by
  unfold served
  refine (List.pairwise_mergeSort (le := le2 ws) le2_trans le2_total _).imp fun {a b} h => ?_
  unfold le2 at h
  rw [decide_eq_true_eq] at h
  omega
end K62
set_option linter.all false
namespace K62
structure Good (ws : List Wn) (size : Int) : Prop where
  sz : 1 ≤ size
  win : ∀ w ∈ ws, w.lo ≤ w.hi ∧ 1 ≤ w.ln ∧ 1 ≤ w.nd
theorem at_mem {ws : List Wn} {j : Nat} (h : j < ws.length) : at_ ws j ∈ ws := by
  unfold at_
  rw [List.getD_eq_getElem?_getD, List.getElem?_eq_getElem h]
  exact List.getElem_mem h
theorem mem_at {ws : List Wn} {w : Wn} (h : w ∈ ws) : ∃ j, j < ws.length ∧ at_ ws j = w := by
  obtain ⟨j, hj, e⟩ := List.getElem_of_mem h
  exact ⟨j, hj, by unfold at_; rw [List.getD_eq_getElem?_getD, List.getElem?_eq_getElem hj]; exact e⟩
theorem Good.lt {ws : List Wn} {size : Int} (g : Good ws size) {j : Nat} (h : j < ws.length) : (at_ ws j).lo < (at_ ws j).fin := by
  obtain ⟨h1, h2, _⟩ := g.win _ (at_mem h)
  unfold Wn.fin; omega
theorem Good.wk {ws : List Wn} {size : Int} (g : Good ws size) {j : Nat} (h : j < ws.length) : 1 ≤ (at_ ws j).wk := by
  obtain ⟨_, h2, h3⟩ := g.win _ (at_mem h)
  unfold Wn.wk
  have := Int.mul_le_mul h2 h3 (by omega) (by omega)
  omega
theorem ra_wk {ws : List Wn} (j : Nat) (h : j < ws.length) : ra (ws.map Wn.wk) j = (at_ ws j).wk := by
  unfold ra at_
  simp [List.getD_eq_getElem?_getD, h]
theorem ra_out {rest : List Int} {j : Nat} (h : rest.length ≤ j) : ra rest j = 0 := by
  unfold ra
  simp [List.getD_eq_getElem?_getD, h]

/-! ### the edges -/
theorem mem_edges {ws : List Wn} {z : Int} : z ∈ edges ws ↔ ∃ j, j < ws.length ∧ (z = (at_ ws j).lo ∨ z = (at_ ws j).fin) := by
  unfold edges
  rw [mem_usort, List.mem_flatten]
  constructor
  · rintro ⟨l, hl, hz⟩
    obtain ⟨w, hw, rfl⟩ := List.mem_map.mp hl
    obtain ⟨j, hj, rfl⟩ := mem_at hw
    simp only [List.mem_cons, List.not_mem_nil, or_false] at hz
    exact ⟨j, hj, hz⟩
  · rintro ⟨j, hj, hz⟩
    exact ⟨_, List.mem_map.mpr ⟨_, at_mem hj, rfl⟩, by simpa using hz⟩
theorem edge_get {ws : List Wn} {i : Nat} (h : i < (edges ws).length) : edge ws i = (edges ws)[i] := by
  unfold edge
  rw [List.getD_eq_getElem?_getD, List.getElem?_eq_getElem h]; rfl
theorem edge_mem {ws : List Wn} {i : Nat} (h : i < (edges ws).length) : edge ws i ∈ edges ws := by
  rw [edge_get h]; exact List.getElem_mem h
theorem edge_lt {ws : List Wn} {i k : Nat} (hik : i < k) (h : k < (edges ws).length) : edge ws i < edge ws k := by
  rw [edge_get h, edge_get (by omega)]
  exact List.pairwise_iff_getElem.mp (show (edges ws).Pairwise (· < ·) from usort_pw _) i k (by omega) h hik
theorem edge_of {ws : List Wn} {z : Int} (h : z ∈ edges ws) : ∃ i, i < (edges ws).length ∧ edge ws i = z := by
  obtain ⟨i, hi, e⟩ := List.getElem_of_mem h
  exact ⟨i, hi, by rw [edge_get hi]; exact e⟩
theorem edge_cut {ws : List Wn} {i : Nat} {z : Int} (hi : i + 1 < (edges ws).length) (h : z ∈ edges ws) : z ≤ edge ws i ∨ edge ws (i + 1) ≤ z := by
  obtain ⟨k, hk, rfl⟩ := edge_of h
  by_cases e : k ≤ i
  · left
    rcases Nat.lt_or_eq_of_le e with e | e
    · exact Int.le_of_lt (edge_lt e (by omega))
    · rw [e]; exact Int.le_refl _
  · right
    rcases Nat.lt_or_eq_of_le (show i + 1 ≤ k by omega) with e | e
    · exact Int.le_of_lt (edge_lt e hk)
    · rw [← e]; exact Int.le_refl _
theorem edge_last {ws : List Wn} {z : Int} (h : z ∈ edges ws) : z ≤ edge ws ((edges ws).length - 1) := by
  obtain ⟨k, hk, rfl⟩ := edge_of h
  by_cases e : k = (edges ws).length - 1
  · rw [e]; exact Int.le_refl _
  · exact Int.le_of_lt (edge_lt (by omega) (by omega))
theorem edge_first {ws : List Wn} {z : Int} (h : z ∈ edges ws) : edge ws 0 ≤ z := by
  obtain ⟨k, hk, rfl⟩ := edge_of h
  by_cases e : k = 0
  · rw [e]; exact Int.le_refl _
  · exact Int.le_of_lt (edge_lt (by omega) hk)
theorem lo_edge {ws : List Wn} {j : Nat} (h : j < ws.length) : (at_ ws j).lo ∈ edges ws := mem_edges.mpr ⟨j, h, .inl rfl⟩
theorem fin_edge {ws : List Wn} {j : Nat} (h : j < ws.length) : (at_ ws j).fin ∈ edges ws := mem_edges.mpr ⟨j, h, .inr rfl⟩

/-! ### one slot -/
structure Slot (ws : List Wn) (size s t : Int) (st st' : List Int × List Pc) : Prop where
  len : st'.1.length = ws.length
  lo : ∀ j, 0 ≤ ra st'.1 j
  hi : ∀ j, ra st'.1 j ≤ ra st.1 j
  out : ∀ j, ¬ ((at_ ws j).lo ≤ s ∧ t ≤ (at_ ws j).fin ∧ 0 < ra st.1 j) → ra st'.1 j = ra st.1 j
  most : tot ws.length (fun j => ra st.1 j - ra st'.1 j) ≤ (t - s) * size
  full : ∀ j0, j0 < ws.length → (at_ ws j0).lo ≤ s → t ≤ (at_ ws j0).fin → 0 < ra st'.1 j0 →
    tot ws.length (fun j => ra st.1 j - ra st'.1 j) = (t - s) * size ∧ ∀ j, (at_ ws j0).fin < (at_ ws j).fin → ra st'.1 j = ra st.1 j
  new : ∃ nw, st'.2 = st.2 ++ nw ∧ (∀ p ∈ nw, 1 ≤ p.u ∧ p.s = s ∧ p.t = t ∧ ∃ j : Nat, j < ws.length ∧ p.j = (j : Int) ∧ (at_ ws j).lo ≤ s ∧ t ≤ (at_ ws j).fin) ∧ (∀ j : Nat, unitsJ j nw = ra st.1 j - ra st'.1 j) ∧ unitsAll nw ≤ (t - s) * size
theorem slot_ok {ws : List Wn} {size s t : Int} {st : List Int × List Pc} (hs : 0 ≤ size) (hst : s ≤ t) (hl : st.1.length = ws.length) (h0 : ∀ j, 0 ≤ ra st.1 j) : Slot ws size s t st (slot ws size s t st) := by
  have S := serve_ok (ws := ws) (s := s) (t := t) (served ws st.1 s t) st.1 ((t - s) * size) st.2 served_nodup served_sorted (fun j hj => by rw [hl]; exact (mem_served.mp hj).1.1) h0 (Int.mul_nonneg (by omega) hs)
  show Slot ws size s t st ((serve s t (served ws st.1 s t) st.1 ((t - s) * size) st.2).1, (serve s t (served ws st.1 s t) st.1 ((t - s) * size) st.2).2.2)
  generalize serve s t (served ws st.1 s t) st.1 ((t - s) * size) st.2 = r at S
  have hsum := S.sum
  rw [hl] at hsum
  have hr0 := S.room0
  have out : ∀ j, ¬ ((at_ ws j).lo ≤ s ∧ t ≤ (at_ ws j).fin ∧ 0 < ra st.1 j) → ra r.1 j = ra st.1 j := fun j hj => S.out j fun m => by
    obtain ⟨⟨h1, h2, h3⟩, h4⟩ := mem_served.mp m
    exact hj ⟨h2, h3, h4⟩
  refine ⟨S.len.trans hl, S.lo, S.hi, out, (show tot ws.length (fun j => ra st.1 j - ra r.1 j) ≤ _ by omega), fun j0 hj0 h1 h2 h3 => ?_, ?_⟩
  · have hm : j0 ∈ served ws st.1 s t := mem_served.mpr ⟨⟨hj0, h1, h2⟩, Int.lt_of_lt_of_le h3 (S.hi j0)⟩
    have hz := S.full j0 hm h3
    have hz' : r.2.1 = 0 := hz
    refine ⟨(show tot ws.length (fun j => ra st.1 j - ra r.1 j) = _ by omega), fun j hlt => ?_⟩
    by_cases m : j ∈ served ws st.1 s t
    · exact S.later j0 hm h3 j m hlt
    · exact S.out j m
  · obtain ⟨nw, a1, a2, a3, a4⟩ := S.new
    refine ⟨nw, a1, fun p hp => ?_, a3, by omega⟩
    obtain ⟨b1, b2, b3, j, hj, b4⟩ := a2 p hp
    obtain ⟨⟨h1, h2, h3⟩, _⟩ := mem_served.mp hj
    exact ⟨b1, b2, b3, j, h1, b4, h2, h3⟩

/-! ### all slots -/
def unitsS (s : Int) (ps : List Pc) : Int := ((ps.filter fun p => decide (p.s = s)).map Pc.u).sum
theorem unitsS_app (s : Int) (a b : List Pc) : unitsS s (a ++ b) = unitsS s a + unitsS s b := by simp [unitsS]
theorem unitsS_none {s : Int} {ps : List Pc} (h : ∀ p ∈ ps, p.s ≠ s) : unitsS s ps = 0 := by
  unfold unitsS
  rw [List.filter_eq_nil_iff.mpr fun p hp => by simpa using h p hp]
  rfl
theorem unitsS_all {s : Int} {ps : List Pc} (h : ∀ p ∈ ps, p.s = s) : unitsS s ps = unitsAll ps := by
  unfold unitsS unitsAll
  rw [List.filter_eq_self.mpr fun p hp => by simpa using h p hp]
structure Steps (ws : List Wn) (size : Int) (i : Nat) (st : List Int × List Pc) : Prop where
  len : st.1.length = ws.length
  lo : ∀ j, 0 ≤ ra st.1 j
  hi : ∀ j, j < ws.length → ra st.1 j ≤ (at_ ws j).wk
  ins : ∀ a b, a ∈ edges ws → b ∈ edges ws → a ≤ b → tot ws.length (fun j => if insideP ws a b j = true then (at_ ws j).wk - ra st.1 j else 0) ≤ (if edge ws i ≤ a then 0 else ((if b ≤ edge ws i then b else edge ws i) - a) * size)
  pcs : ∀ p ∈ st.2, 1 ≤ p.u ∧ ∃ m, m < i ∧ p.s = edge ws m ∧ p.t = edge ws (m + 1) ∧ ∃ j : Nat, j < ws.length ∧ p.j = (j : Int) ∧ (at_ ws j).lo ≤ p.s ∧ p.t ≤ (at_ ws j).fin
  job : ∀ j : Nat, j < ws.length → unitsJ j st.2 = (at_ ws j).wk - ra st.1 j
  span : ∀ m, m < i → unitsS (edge ws m) st.2 ≤ (edge ws (m + 1) - edge ws m) * size
theorem steps_ok {ws : List Wn} {size : Int} (g : Good ws size) : ∀ i, i < (edges ws).length → Steps ws size i (steps ws size i)
  | 0, h => by
    have e : ∀ j, j < ws.length → ra (ws.map Wn.wk) j = (at_ ws j).wk := fun j hj => ra_wk j hj
    refine ⟨by simp [steps], fun j => ?_, fun j hj => by rw [show (steps ws size 0).1 = ws.map Wn.wk from rfl, e j hj]; exact Int.le_refl _, fun a b ha hb hab => ?_, fun p hp => by simp [steps] at hp, fun j hj => ?_, fun m hm => by omega⟩
    · show 0 ≤ ra (ws.map Wn.wk) j
      by_cases hj : j < ws.length
      · rw [e j hj]; have := g.wk hj; omega
      · rw [ra_out (by simpa using hj)]; exact Int.le_refl _
    · rw [if_pos (edge_first ha), tot_congr (g := fun _ => 0) fun j hj => ?_, tot_zero]
      · exact Int.le_refl _
      · show (if insideP ws a b j = true then (at_ ws j).wk - ra (ws.map Wn.wk) j else 0) = 0
        rw [e j hj]; split <;> omega
    · show (0 : Int) = (at_ ws j).wk - ra (ws.map Wn.wk) j
      rw [e j hj]; omega
  | i + 1, h => by
    have I := steps_ok g i (by omega)
    have hlt := edge_lt (ws := ws) (show i < i + 1 by omega) h
    show Steps ws size (i + 1) (slot ws size (edge ws i) (edge ws (i + 1)) (steps ws size i))
    have S := slot_ok (ws := ws) (size := size) (s := edge ws i) (t := edge ws (i + 1)) (st := steps ws size i) (by have := g.sz; omega) (Int.le_of_lt hlt) I.len I.lo
    generalize slot ws size (edge ws i) (edge ws (i + 1)) (steps ws size i) = st' at S
    generalize steps ws size i = st at S I
    obtain ⟨nw, a1, a2, a3, a4⟩ := S.new
    refine ⟨S.len, S.lo, fun j hj => Int.le_trans (S.hi j) (I.hi j hj), fun a b ha hb hab => ?_, fun p hp => ?_, fun j hj => ?_, fun m hm => ?_⟩
    · have hI := I.ins a b ha hb hab
      have hd : tot ws.length (fun j => if insideP ws a b j = true then (at_ ws j).wk - ra st'.1 j else 0) =
          tot ws.length (fun j => if insideP ws a b j = true then (at_ ws j).wk - ra st.1 j else 0) + tot ws.length (fun j => if insideP ws a b j = true then ra st.1 j - ra st'.1 j else 0) := by
        rw [← tot_add]; exact tot_congr fun j _ => by split <;> omega
      have same : (edge ws (i + 1) ≤ a ∨ b ≤ edge ws i) → tot ws.length (fun j => if insideP ws a b j = true then ra st.1 j - ra st'.1 j else 0) = 0 := fun hc => by
        rw [tot_congr (g := fun _ => 0) fun j hj => ?_, tot_zero]
        by_cases hin : insideP ws a b j = true
        · rw [if_pos hin]
          unfold insideP at hin
          rw [decide_eq_true_eq] at hin
          have := S.out j fun hq => by omega
          omega
        · rw [if_neg hin]
      have more : tot ws.length (fun j => if insideP ws a b j = true then ra st.1 j - ra st'.1 j else 0) ≤ (edge ws (i + 1) - edge ws i) * size :=
        Int.le_trans (tot_le fun j hj => by have := S.hi j; split <;> omega) S.most
      rw [hd]
      rcases edge_cut h ha with c1 | c1
      · rcases edge_cut h hb with c2 | c2
        · rw [same (.inr c2)]
          by_cases ea : edge ws i ≤ a
          · have : a = edge ws i := by omega
            rw [if_pos ea] at hI
            rw [if_neg (by omega), if_pos (by omega)]
            have : b - a = 0 := by omega
            rw [this]; omega
          · rw [if_neg ea, if_pos c2] at hI
            rw [if_neg (by omega), if_pos (by omega)]
            omega
        · rw [if_neg (show ¬ edge ws (i + 1) ≤ a by omega)]
          have hh : (if b ≤ edge ws (i + 1) then b else edge ws (i + 1)) = edge ws (i + 1) := by split <;> omega
          rw [hh]
          have ee : (edge ws (i + 1) - a) * size = (edge ws i - a) * size + (edge ws (i + 1) - edge ws i) * size := by
            rw [← Int.add_mul]; congr 1; omega
          by_cases ea : edge ws i ≤ a
          · have e2 : a = edge ws i := by omega
            rw [if_pos ea] at hI
            have e3 : (edge ws i - a) * size = 0 := by rw [e2]; simp
            omega
          · rw [if_neg ea, if_neg (by omega)] at hI
            omega
      · rw [same (.inl c1), if_pos c1]
        rw [if_pos (by omega)] at hI
        omega
    · rw [a1] at hp
      rcases List.mem_append.mp hp with m | m
      · obtain ⟨b1, k, b2, b3⟩ := I.pcs p m
        exact ⟨b1, k, by omega, b3⟩
      · obtain ⟨b1, b2, b3, j, b4, b5, b6, b7⟩ := a2 p m
        exact ⟨b1, i, by omega, b2, b3, j, b4, b5, by rw [b2]; exact b6, by rw [b3]; exact b7⟩
    · rw [a1, unitsJ_app, I.job j hj, a3]; omega
    · rw [a1, unitsS_app]
      by_cases e : m = i
      · subst e
        rw [unitsS_none (ps := st.2) fun p hp => ?_, unitsS_all fun p hp => (a2 p hp).2.1]
        · omega
        · obtain ⟨_, k, hk, b2, _⟩ := I.pcs p hp
          rw [b2]
          have := edge_lt (ws := ws) hk (by omega)
          omega
      · rw [unitsS_none (ps := nw) fun p hp => ?_]
        · have := I.span m (by omega); omega
        · rw [(a2 p hp).2.1]
          have := edge_lt (ws := ws) (show m < i by omega) (by omega)
          omega

/-! ### no load: all is done -/
def NoLoad (ws : List Wn) (size : Int) : Prop := ∀ a b, a ≤ b → workOf ws (within ws a b) ≤ (b - a) * size
theorem exists_min (f : Nat → Int) : ∀ {l : List Nat}, l ≠ [] → ∃ x ∈ l, ∀ y ∈ l, f x ≤ f y
  | [], h => absurd rfl h
  | [x], _ => ⟨x, by simp, by simp⟩
  | x :: y :: r, _ => by
    obtain ⟨m, hm, hl⟩ := exists_min f (l := y :: r) (by simp)
    by_cases h : f x ≤ f m
    · refine ⟨x, by simp, fun z hz => ?_⟩
      rcases List.mem_cons.mp hz with e | hz
      · rw [e]; exact Int.le_refl _
      · exact Int.le_trans h (hl z hz)
    · refine ⟨m, List.mem_cons_of_mem _ hm, fun z hz => ?_⟩
      rcases List.mem_cons.mp hz with e | hz
      · rw [e]; omega
      · exact hl z hz
theorem noLoad_of {ws : List Wn} {size : Int} (g : Good ws size) (h : tooMuch ws size = false) : NoLoad ws size := by
  intro a b hab
  have hno : ∀ f ∈ ws, ∀ l ∈ ws, ¬ Over ws size f.lo l.fin := fun f hf l hl ho => by
    rw [tooMuch_iff.mpr ⟨f, hf, l, hl, ho⟩] at h; cases h
  by_cases he : within ws a b = []
  · rw [he]
    exact Int.mul_nonneg (by omega) (by have := g.sz; omega)
  · obtain ⟨x, hx, hxm⟩ := exists_min (fun j => (at_ ws j).lo) he
    obtain ⟨y, hy, hym⟩ := exists_min (fun j => - (at_ ws j).fin) he
    have mem : ∀ {j}, j ∈ within ws a b ↔ j < ws.length ∧ a ≤ (at_ ws j).lo ∧ (at_ ws j).fin ≤ b := fun {j} => by
      unfold within insideP; rw [List.mem_filter, List.mem_range, decide_eq_true_eq]
    obtain ⟨x1, x2, x3⟩ := mem.mp hx
    obtain ⟨y1, y2, y3⟩ := mem.mp hy
    have hw := hno _ (at_mem x1) _ (at_mem y1)
    have hxy : (at_ ws x).lo ≤ (at_ ws y).fin := by
      have h1 := hxm y hy
      have h2 := g.lt y1
      try dsimp only at h1
      omega
    have hle : workOf ws (within ws (at_ ws x).lo (at_ ws y).fin) ≤ ((at_ ws y).fin - (at_ ws x).lo) * size := by
      unfold Over at hw
      by_cases q : workOf ws (within ws (at_ ws x).lo (at_ ws y).fin) > ((at_ ws y).fin - (at_ ws x).lo) * size
      · exact absurd ⟨hxy, q⟩ hw
      · omega
    have h1 : workOf ws (within ws a b) ≤ workOf ws (within ws (at_ ws x).lo (at_ ws y).fin) := by
      rw [work_within, work_within]
      refine tot_le fun j hj => ?_
      have hk := g.wk hj
      by_cases hin : insideP ws a b j = true
      · have hin' : insideP ws (at_ ws x).lo (at_ ws y).fin j = true := by
          unfold insideP at hin ⊢
          rw [decide_eq_true_eq] at hin ⊢
          have hjm := mem.mpr ⟨hj, hin⟩
          have h1 := hxm j hjm
          have h2 := hym j hjm
          try dsimp only at h1
          try dsimp only at h2
          omega
        rw [if_pos hin, if_pos hin']; exact Int.le_refl _
      · rw [if_neg hin]; split <;> omega
    have h2 : ((at_ ws y).fin - (at_ ws x).lo) * size ≤ (b - a) * size := Int.mul_le_mul_of_nonneg_right (by omega) (by have := g.sz; omega)
    omega
structure Done (ws : List Wn) (size : Int) (i : Nat) (st : List Int × List Pc) : Prop where
  past : ∀ j, j < ws.length → (at_ ws j).fin ≤ edge ws i → ra st.1 j = 0
  busy : ∀ b, edge ws i ≤ b → ∃ a, a ≤ edge ws i ∧ (∀ j, j < ws.length → (at_ ws j).fin ≤ b → (at_ ws j).lo < a → ra st.1 j = 0) ∧ (edge ws i - a) * size ≤ tot ws.length (fun j => if insideP ws a b j = true then (at_ ws j).wk - ra st.1 j else 0)
theorem done_ok {ws : List Wn} {size : Int} (g : Good ws size) (nl : NoLoad ws size) : ∀ i, i < (edges ws).length → Done ws size i (steps ws size i)
  | 0, h => by
    have I := steps_ok g 0 h
    refine ⟨fun j hj hf => ?_, fun b hb => ⟨edge ws 0, Int.le_refl _, fun j hj _ hl => ?_, ?_⟩⟩
    · have h1 := edge_first (lo_edge hj)
      have h2 := g.lt hj
      omega
    · have h1 := edge_first (lo_edge hj)
      omega
    · rw [show (edge ws 0 - edge ws 0) * size = 0 by simp]
      refine tot_nonneg fun j hj => ?_
      have := I.hi j hj
      split <;> omega
  | i + 1, h => by
    have I := steps_ok g i (by omega)
    have I' := steps_ok g (i + 1) h
    have D := done_ok g nl i (by omega)
    have hlt := edge_lt (ws := ws) (show i < i + 1 by omega) h
    have S := slot_ok (ws := ws) (size := size) (s := edge ws i) (t := edge ws (i + 1)) (st := steps ws size i) (by have := g.sz; omega) (Int.le_of_lt hlt) I.len I.lo
    have e : steps ws size (i + 1) = slot ws size (edge ws i) (edge ws (i + 1)) (steps ws size i) := rfl
    rw [e] at I' ⊢
    generalize slot ws size (edge ws i) (edge ws (i + 1)) (steps ws size i) = st' at S I'
    generalize steps ws size i = st at S I D
    have busy : ∀ b, edge ws (i + 1) ≤ b → ∃ a, a ≤ edge ws (i + 1) ∧ (∀ j, j < ws.length → (at_ ws j).fin ≤ b → (at_ ws j).lo < a → ra st'.1 j = 0) ∧ (edge ws (i + 1) - a) * size ≤ tot ws.length (fun j => if insideP ws a b j = true then (at_ ws j).wk - ra st'.1 j else 0) := by
      intro b hb
      by_cases hall : ∃ j0, j0 < ws.length ∧ (at_ ws j0).lo ≤ edge ws i ∧ edge ws (i + 1) ≤ (at_ ws j0).fin ∧ (at_ ws j0).fin ≤ b ∧ 0 < ra st'.1 j0
      · obtain ⟨j0, k1, k2, k3, k4, k5⟩ := hall
        obtain ⟨a, b1, b2, b3⟩ := D.busy b (by omega)
        obtain ⟨f1, f2⟩ := S.full j0 k1 k2 k3 k5
        refine ⟨a, by omega, fun j hj hf hl => ?_, ?_⟩
        · have h1 := b2 j hj hf hl
          have h2 := S.hi j
          have h3 := S.lo j
          omega
        · have hd : tot ws.length (fun j => if insideP ws a b j = true then (at_ ws j).wk - ra st'.1 j else 0) =
              tot ws.length (fun j => if insideP ws a b j = true then (at_ ws j).wk - ra st.1 j else 0) + tot ws.length (fun j => ra st.1 j - ra st'.1 j) := by
            rw [← tot_add]
            refine tot_congr fun j hj => ?_
            by_cases hin : insideP ws a b j = true
            · rw [if_pos hin, if_pos hin]; omega
            · rw [if_neg hin, if_neg hin]
              have : ra st'.1 j = ra st.1 j := by
                unfold insideP at hin
                rw [decide_eq_true_eq] at hin
                by_cases c : b < (at_ ws j).fin
                · exact f2 j (by omega)
                · have hz := b2 j hj (by omega) (by omega)
                  have h2 := S.hi j
                  have h3 := S.lo j
                  omega
              omega
          rw [hd, f1]
          have ee : (edge ws (i + 1) - a) * size = (edge ws i - a) * size + (edge ws (i + 1) - edge ws i) * size := by
            rw [← Int.add_mul]; congr 1; omega
          omega
      · refine ⟨edge ws (i + 1), Int.le_refl _, fun j hj hf hl => ?_, ?_⟩
        · have hlo : (at_ ws j).lo ≤ edge ws i := by
            rcases edge_cut h (lo_edge hj) with c | c
            · exact c
            · omega
          rcases edge_cut h (fin_edge hj) with c | c
          · have h1 := D.past j hj c
            have h2 := S.hi j
            have h3 := S.lo j
            omega
          · have h3 := S.lo j
            by_cases hz : 0 < ra st'.1 j
            · exact absurd ⟨j, hj, hlo, c, hf, hz⟩ hall
            · omega
        · rw [show (edge ws (i + 1) - edge ws (i + 1)) * size = 0 by simp]
          refine tot_nonneg fun j hj => ?_
          have := I'.hi j hj
          split <;> omega
    refine ⟨fun j hj hf => ?_, busy⟩
    obtain ⟨a, b1, b2, b3⟩ := busy (edge ws (i + 1)) (Int.le_refl _)
    by_cases hl : (at_ ws j).lo < a
    · exact b2 j hj hf hl
    · have hn := nl a (edge ws (i + 1)) b1
      rw [work_within] at hn
      have hd : tot ws.length (fun j => if insideP ws a (edge ws (i + 1)) j = true then (at_ ws j).wk - ra st'.1 j else 0) =
          tot ws.length (fun j => if insideP ws a (edge ws (i + 1)) j = true then (at_ ws j).wk else 0) - tot ws.length (fun j => if insideP ws a (edge ws (i + 1)) j = true then ra st'.1 j else 0) := by
        rw [← tot_sub]; exact tot_congr fun j _ => by split <;> omega
      rw [hd] at b3
      have h1 := tot_one (f := fun j => if insideP ws a (edge ws (i + 1)) j = true then ra st'.1 j else 0) (n := ws.length) (fun j _ => by
        have := S.lo j
        show 0 ≤ (if insideP ws a (edge ws (i + 1)) j = true then ra st'.1 j else 0)
        split <;> omega) j hj
      have hin : insideP ws a (edge ws (i + 1)) j = true := by unfold insideP; rw [decide_eq_true_eq]; omega
      try dsimp only at h1
      rw [if_pos hin] at h1
      have h2 := S.lo j
      omega
end K62
set_option linter.all false
namespace K62
def unitsST (s t : Int) (ps : List Pc) : Int := ((ps.filter fun p => decide (p.s = s ∧ p.t = t)).map Pc.u).sum
structure PiecesOK (ws : List Wn) (size : Int) (ps : List Pc) : Prop where
  sorted : ps.Pairwise (fun a b => leP a b = true)
  each : ∀ p ∈ ps, 1 ≤ p.u ∧ p.s < p.t ∧ ∃ j : Nat, j < ws.length ∧ p.j = (j : Int) ∧ (at_ ws j).lo ≤ p.s ∧ p.t ≤ (at_ ws j).fin
  whole : ∀ j : Nat, j < ws.length → unitsJ j ps = (at_ ws j).wk
  span : ∀ p ∈ ps, unitsST p.s p.t ps ≤ (p.t - p.s) * size
  apart : ∀ p ∈ ps, ∀ q ∈ ps, (p.s = q.s ∧ p.t = q.t) ∨ p.t ≤ q.s ∨ q.t ≤ p.s
theorem leP_trans (a b c : Pc) (h1 : leP a b = true) (h2 : leP b c = true) : leP a c = true := by
  unfold leP at *
  simp only [decide_eq_true_eq] at *
  omega
theorem leP_total (a b : Pc) : (leP a b || leP b a) = true := by
  unfold leP
  simp only [Bool.or_eq_true, decide_eq_true_eq]
  omega
theorem sum_perm {a b : List Int} (h : a.Perm b) : a.sum = b.sum := by
  induction h with
  | nil => rfl
  | cons x _ ih => simp [ih]
  | swap x y l => simp; omega
  | trans _ _ h1 h2 => exact h1.trans h2
theorem unitsJ_perm {a b : List Pc} (h : a.Perm b) (j : Int) : unitsJ j a = unitsJ j b := sum_perm ((h.filter _).map _)
theorem unitsS_perm {a b : List Pc} (h : a.Perm b) (s : Int) : unitsS s a = unitsS s b := sum_perm ((h.filter _).map _)
theorem final_eq (ws : List Wn) (size : Int) : final ws size = steps ws size ((edges ws).length - 1) := rfl
theorem edges_pos {ws : List Wn} (h : ws ≠ []) : 0 < (edges ws).length := by
  obtain ⟨w, r, rfl⟩ := List.exists_cons_of_ne_nil h
  exact List.length_pos_of_mem (lo_edge (ws := w :: r) (j := 0) (by simp))
theorem final_len {ws : List Wn} {size : Int} (g : Good ws size) (h : ws ≠ []) : (final ws size).1.length = ws.length :=
  (steps_ok g _ (by have := edges_pos h; omega)).len
theorem told_pieces {ws : List Wn} {size : Int} (g : Good ws size) (hne : ws ≠ []) {ps : List Pc} (h : told ws size = .inl ps) : tooMuch ws size = false ∧ PiecesOK ws size ps := by
  have hp := edges_pos hne
  have I := steps_ok g ((edges ws).length - 1) (by omega)
  rw [← final_eq] at I
  unfold told at h
  split at h
  · cases h
  · rename_i hz
    have hz0 : ∀ j, j < ws.length → ra (final ws size).1 j = 0 := fun j hj => by
      have h1 := I.lo j
      by_cases c : 0 < ra (final ws size).1 j
      · refine absurd (List.any_eq_true.mpr ⟨ra (final ws size).1 j, ?_, decide_eq_true c⟩) hz
        have hl : j < (final ws size).1.length := by rw [I.len]; exact hj
        unfold ra
        rw [List.getD_eq_getElem?_getD, List.getElem?_eq_getElem hl]
        exact List.getElem_mem hl
      · omega
    have e : ps = (final ws size).2.mergeSort leP := (Sum.inl.inj h).symm
    have pm : ps.Perm (final ws size).2 := by rw [e]; exact List.mergeSort_perm _ _
    have each : ∀ p ∈ ps, 1 ≤ p.u ∧ p.s < p.t ∧ ∃ j : Nat, j < ws.length ∧ p.j = (j : Int) ∧ (at_ ws j).lo ≤ p.s ∧ p.t ≤ (at_ ws j).fin := fun p hp2 => by
      obtain ⟨b1, m, b2, b3, b4, j, b5⟩ := I.pcs p (pm.mem_iff.mp hp2)
      have := edge_lt (ws := ws) (show m < m + 1 by omega) (by omega)
      exact ⟨b1, by omega, j, b5⟩
    have whole : ∀ j : Nat, j < ws.length → unitsJ j ps = (at_ ws j).wk := fun j hj => by
      rw [unitsJ_perm pm, I.job j hj, hz0 j hj]; omega
    refine ⟨?_, ?_, each, whole, fun p hp2 => ?_, fun p hp2 q hq2 => ?_⟩
    · cases ht : tooMuch ws size with
      | false => rfl
      | true =>
        obtain ⟨f, hf, l, hl, hab, hov⟩ := tooMuch_iff.mp ht
        obtain ⟨i, hi, rfl⟩ := mem_at hf
        obtain ⟨k, hk, rfl⟩ := mem_at hl
        have hins := I.ins _ _ (lo_edge hi) (fin_edge hk) hab
        rw [tot_congr (g := fun j => if insideP ws (at_ ws i).lo (at_ ws k).fin j = true then (at_ ws j).wk else 0) fun j hj => by rw [hz0 j hj]; split <;> omega, ← work_within] at hins
        have h1 := edge_last (fin_edge hi)
        have h2 := edge_last (fin_edge hk)
        have h3 := g.lt hi
        rw [if_neg (by omega), if_pos h2] at hins
        omega
    · rw [e]
      exact List.pairwise_mergeSort leP_trans leP_total _
    · obtain ⟨b1, m, b2, b3, b4, _⟩ := I.pcs p (pm.mem_iff.mp hp2)
      have hs := I.span m b2
      rw [← unitsS_perm pm] at hs
      have e1 : unitsST p.s p.t ps = unitsS (edge ws m) ps := by
        unfold unitsST unitsS
        congr 2
        refine List.filter_congr fun q hq => ?_
        obtain ⟨_, k, c2, c3, c4, _⟩ := I.pcs q (pm.mem_iff.mp hq)
        rw [b3, b4, c3, c4]
        by_cases ek : k = m
        · subst ek; simp
        · have : edge ws k ≠ edge ws m := fun z => by
            rcases Nat.lt_or_gt_of_ne ek with c | c
            · have := edge_lt (ws := ws) c (by omega); omega
            · have := edge_lt (ws := ws) c (by omega); omega
          simp [this]
      rw [e1, b3, b4]; exact hs
    · obtain ⟨_, m, b2, b3, b4, _⟩ := I.pcs p (pm.mem_iff.mp hp2)
      obtain ⟨_, k, c2, c3, c4, _⟩ := I.pcs q (pm.mem_iff.mp hq2)
      rw [b3, b4, c3, c4]
      rcases Nat.lt_trichotomy m k with c | c | c
      · right; left
        rcases Nat.lt_or_eq_of_le (show m + 1 ≤ k by omega) with d | d
        · exact Int.le_of_lt (edge_lt d (by omega))
        · rw [d]; exact Int.le_refl _
      · left; subst c; exact ⟨rfl, rfl⟩
      · right; right
        rcases Nat.lt_or_eq_of_le (show k + 1 ≤ m by omega) with d | d
        · exact Int.le_of_lt (edge_lt d (by omega))
        · rw [d]; exact Int.le_refl _
structure LoadOK (ws : List Wn) (size : Int) (x : Ld) : Prop where
  js : x.js = within ws x.a x.b
  over : Over ws size x.a x.b
theorem told_load {ws : List Wn} {size : Int} (g : Good ws size) (hne : ws ≠ []) {x : Ld} (h : told ws size = .inr x) : tooMuch ws size = true ∧ loads ws size ≠ [] ∧ x = (loads ws size).headD default ∧ LoadOK ws size x := by
  have hp := edges_pos hne
  have I := steps_ok g ((edges ws).length - 1) (by omega)
  unfold told at h
  split at h
  · rename_i hz
    have ht : tooMuch ws size = true := by
      cases ht : tooMuch ws size with
      | true => rfl
      | false =>
        have D := done_ok g (noLoad_of g ht) ((edges ws).length - 1) (by omega)
        obtain ⟨r, hr, hpos⟩ := List.any_eq_true.mp hz
        obtain ⟨j, hj, e⟩ := List.getElem_of_mem hr
        have hj' : j < ws.length := by rw [final_eq, I.len] at hj; exact hj
        have h1 := D.past j hj' (edge_last (fin_edge hj'))
        unfold ra at h1
        rw [← final_eq, List.getD_eq_getElem?_getD, List.getElem?_eq_getElem hj, e] at h1
        have hpos := of_decide_eq_true hpos
        have h1 : r = 0 := h1
        omega
    have hl := loads_ne.mpr ht
    have e : x = (loads ws size).headD default := (Sum.inr.inj h).symm
    refine ⟨ht, hl, e, ?_⟩
    obtain ⟨y, r, hy⟩ := List.exists_cons_of_ne_nil hl
    have hm : x ∈ loads ws size := by rw [e, hy]; exact List.mem_cons_self ..
    obtain ⟨f, _, l, _, ho, rfl⟩ := mem_loads.mp hm
    exact ⟨rfl, ho⟩
  · cases h
/-! ### sizes -/
theorem served_len {ws : List Wn} {rest : List Int} {s t : Int} : (served ws rest s t).length ≤ ws.length := by
  unfold served opens
  rw [List.length_mergeSort]
  refine Nat.le_trans (List.length_filter_le _ _) (Nat.le_trans (List.length_filter_le _ _) ?_)
  simp
theorem ins_len (x : Int) : ∀ l : List Int, (ins x l).length ≤ l.length + 1
  | [] => by simp [ins]
  | y :: r => by
    unfold ins
    split
    · simp
    · split
      · simp
      · have := ins_len x r; simp; omega
theorem usort_len : ∀ l : List Int, (usort l).length ≤ l.length
  | [] => by simp [usort]
  | x :: r => by
    show (ins x (usort r)).length ≤ r.length + 1
    have h1 := ins_len x (usort r)
    have h2 := usort_len r
    omega
theorem edges_len (ws : List Wn) : (edges ws).length ≤ 2 * ws.length := by
  unfold edges
  refine Nat.le_trans (usort_len _) ?_
  induction ws with
  | nil => simp
  | cons w r ih => simp only [List.map_cons, List.flatten_cons, List.length_append, List.length_cons, List.length_nil]; omega
end K62
set_option Elab.async false
set_option linter.all false
set_option maxRecDepth 100000
set_option maxHeartbeats 4000000
namespace Gp
open PySem PySem.Spec PyProof.Rows L2
/-! ### enumerate(tuple) -/
/-- the tuple at a: each item in a new pair with its place -/
def IteT (K : PySem.W.Frag) (a : Addr) : It :=
  ⟨fun i H => ∃ (xs : List V) (x : V), SqT K H a xs ∧ xs[i]? = some x,
   fun i H v H' => ∃ T x, v = .ref T ∧ H T = none ∧ H' = upd H T (.tup [.int (i : Nat), x]) ∧ ∀ xs, SqT K H a xs → xs[i]? = some x,
   fun i H => ∃ xs : List V, SqT K H a xs ∧ xs.length = i⟩
theorem two_cases {b e it : Addr} (hb : b ∈ [e, it]) : b = e ∨ b = it := by simpa using hb
theorem turn_enumT {P : Program} {w : World} {K : PySem.W.Frag} {elts : List Expr} {kk : Nat} {tpos : Pos} (a e it : Addr) (hai : a ≠ it) (hae : a ≠ e) (hne : e ≠ it) :
    Turn P w K (.Tuple elts kk tpos) (IteT K a) [e, it] e (fun i h => (∃ old, IsEnum h e it ((i : Nat) : Int) old) ∧ h.IsTupleIter it a i) where
  mem := by simp
  obj := by
    intro i h st b hb
    obtain ⟨⟨old, he⟩, ⟨o, ho, hc, hd⟩⟩ := st
    rcases two_cases hb with rfl | rfl
    · exact ⟨_, he, fun v q => nomatch q⟩
    · exact ⟨o, ho, fun v q => by rw [hd] at q; cases q⟩
  keep := by
    intro i h h' st k
    obtain ⟨⟨old, he⟩, hi⟩ := st
    exact ⟨⟨old, k e (by simp) _ he⟩, hi.at fun o q => k it (by simp) o q⟩
  item := by
    intro X hP hw hK hc i pins s σ H E I hf st hg
    subst hP hw hK
    obtain ⟨⟨old, he⟩, hit⟩ := st
    obtain ⟨xs, x, hq, hx⟩ := hg
    obtain ⟨its2, rv, p, hz⟩ := I.tuple hq
    obtain ⟨u, hu, ru⟩ := rv.get hx
    have hlen := rv.length
    have hix : i < xs.length := (List.getElem?_eq_some_iff.mp hx).1
    have hel : e < s.heap.objs.size := Heap.lt_size he
    have hil : it < s.heap.objs.size := by obtain ⟨_, q, _⟩ := hit; exact Heap.lt_size q
    have D := Draws.tuple (prog := X.prog) (w := X.w) (A := X.A.in1) (show X.A.in1.handled = none from I.ok.hd hc) it a hai its2.toArray
    refine wpAny_pyNext_enum_itemD D he ⟨hit, p⟩ (by simp; omega) hne (by simp [hne, Ne.symm hae]) fun v h' tk hv ho st' hT hsz hk => ?_
    have ev : v = u := by
      have q : its2[i]? = some v := by simpa using hv
      rw [hu] at q; exact (Option.some.inj q).symm
    subst ev
    refine ⟨_, rfl, wpAny_letOwnedTupleGo_enum (s := { s with heap := h', toks := tk + 1 }) ho fun h'' he' sb => ?_⟩
    have hT2 : h''.get? s.heap.objs.size = some { cls := .type "tuple", data := .seq #[.int i tk, v] } := (sb.2 _ (Nat.ne_of_gt hel)).trans hT
    have new : ObjOk X.prog X.w (upd H s.heap.objs.size (.tup [.int (i : Nat), x])) h'' s.heap.objs.size (.tup [.int (i : Nat), x]) :=
      ⟨by show 2 ≤ sizeLine; decide, [.int i tk, v], .cons ⟨_, rfl⟩ (.cons ru .nil), ⟨_, hT2, rfl, _, rfl⟩⟩
    have kk : ∀ b ob, b ∉ [e, it] → s.heap.get? b = some ob → h''.get? b = some ob := fun b ob hb q =>
      (sb.2 b fun z => hb (by simp [z])).trans (hk b ob (fun z => hb (by simp [z])) (fun z => hb (by simp [z])) q)
    have I1 : Inv X pins σ (upd H s.heap.objs.size (.tup [.int (i : Nat), x])) { s with heap := h'', toks := tk + 1 } := I.turnedNew (ch := [e, it]) kk hf (Nat.le_refl _) new
    refine ⟨.ref s.heap.objs.size, _, I1, rfl, ⟨_, x, rfl, I.hok.fresh (Nat.le_refl _), rfl, fun ys hy => by rw [I.tuple_inj hy hq]; exact hx⟩, ⟨⟨v, ?_⟩, st'.1.at fun o q => (sb.2 it (Ne.symm hne)).trans q⟩, fun b hb => ?_⟩
    · have e1 : ((i + 1 : Nat) : Int) = (i : Int) + 1 := by omega
      rw [e1]; exact he'
    · have hb' : b < s.heap.objs.size := by
        rcases two_cases hb with rfl | rfl
        · exact hel
        · exact hil
      rw [upd_ne (Nat.ne_of_lt hb')]
      exact (hf b hb).1
  done := by
    intro X hP hw hK hc i pins s σ H E I hf st hg
    subst hP hw hK
    obtain ⟨⟨old, he⟩, hit⟩ := st
    obtain ⟨xs, hq, hx⟩ := hg
    obtain ⟨its2, rv, p, hz⟩ := I.tuple hq
    obtain ⟨f0, f1, f2, f3, f4, f5⟩ := hf it (by simp)
    have hlen := rv.length
    have D := Draws.tuple (prog := X.prog) (w := X.w) (A := X.A.in1) (show X.A.in1.handled = none from I.ok.hd hc) it a hai its2.toArray
    have e0 : its2.toArray.size = i := by simp; omega
    exact wpAny_pyNext_enum_endD D he (by rw [e0]; exact ⟨hit, p⟩) fun h' eb => ⟨rfl, I.turned (t' := s.toks) (fun b o hb q => eb b o hb q) f0 f1 f3 f4 f5⟩
  self := fun A i s Q E st h => let ⟨⟨_, he⟩, _⟩ := st; wpAny_pyIter_enum he h

theorem meets_enum_newT (l : Addr) (items : Array Value) (n : Nat) (dct : Option Addr) (sl : Array (Option Value)) :
    Meets (Builtin.«enumerate.__new__» ⟨[.type "enumerate", .ref l], []⟩) (fun _ R s => s.heap.get? l = some { cls := .type "tuple", dict := dct, data := .seq items n, slots := sl } ∧
      R (.ok (.ret (.ref (s.heap.push { cls := .type "tuple_iterator", data := .fields #[.ref l, .int 0 0] }).objs.size)))
        { s with heap := (s.heap.push { cls := .type "tuple_iterator", data := .fields #[.ref l, .int 0 0] }).push { cls := .type "enumerate", data := .fields #[.none, .bool false, .ref s.heap.objs.size, rawInt 0, .none, .none] } }) :=
  .of_wp fun prog w A R s h => by
    obtain ⟨hp, g, d, tk, os⟩ := s
    obtain ⟨hl, h⟩ := h
    have hsub := sub_enumerate
    have hT : Heap.IsTuple (Shared.heap ⟨hp, g, d, tk, os⟩) l items := ⟨_, hl, rfl, n, rfl⟩
    wp_walk using AutoSeq1.wpAny_loadPart' hl
    refine wpAny_stack_any fun st => wpAny_pure ?_
    split
    · rename_i c _ _ _ _ _
      cases (c == Value.type "enumerate") <;> (wp_walk using AutoSeq1.wpAny_loadPart' hl, wpAny_pyIter_tuple hT; exact ⟨_, rfl, h⟩)
    · wp_walk using AutoSeq1.wpAny_loadPart' hl, wpAny_pyIter_tuple hT
      exact ⟨_, rfl, h⟩
theorem call_enumT {prog : Program} {w : World} {A : Around} {E : Value → Shared → Prop} {s : Shared} {l : Addr} {items : Array Value} {Q : Value → Shared → Prop} (hL : s.heap.IsTuple l items)
    (h : ∀ h', IsEnum h' (s.heap.objs.size + 1) s.heap.objs.size 0 .none → h'.IsTupleIter s.heap.objs.size l 0 →
      (∀ b o, s.heap.get? b = some o → h'.get? b = some o) → Q (.ref (s.heap.objs.size + 1)) { s with heap := h' }) :
    wpAny (model prog w) A (call (.type "enumerate") [.ref l]) Q E s := by
  obtain ⟨⟨c, dct, dt, sl⟩, hl, hc, n, hd⟩ := hL
  obtain rfl : c = .type "tuple" := hc
  obtain rfl : dt = .seq items n := hd
  refine callType_new F.called_enumerate (by decide) (F.typeCall_enumerate_1 _) (F.newCall_enumerate_1 _) (fun obj => F.args_object_init_2 obj _) F.entry_enumerate_new (meets_enum_newT l items n dct sl) ⟨hl, ?_⟩
  have hz : (s.heap.push { cls := .type "tuple_iterator", data := .fields #[.ref l, .int 0 0] }).objs.size = s.heap.objs.size + 1 := Heap.size_push ..
  show _ ∧ _
  rw [hz]
  have he : IsEnum ((s.heap.push { cls := .type "tuple_iterator", data := .fields #[.ref l, .int 0 0] }).push { cls := .type "enumerate", data := .fields #[.none, .bool false, .ref s.heap.objs.size, rawInt 0, .none, .none] }) (s.heap.objs.size + 1) s.heap.objs.size 0 .none := by
    have q := Heap.get?_push_size (s.heap.push { cls := .type "tuple_iterator", data := .fields #[.ref l, .int 0 0] }) (o := { cls := .type "enumerate", data := .fields #[.none, .bool false, .ref s.heap.objs.size, rawInt 0, .none, .none] }) rfl
    rw [hz] at q
    exact q
  exact ⟨⟨_, he, rfl⟩, h _ he ⟨_, Heap.get?_push_of_some _ (Heap.get?_push_size _ rfl), rfl, rfl⟩ fun b o x => Heap.get?_push_of_some _ (Heap.get?_push_of_some _ x)⟩
def iEnumT (K : PySem.W.Frag) (ta : TA) : TI := fun σ H R => ta σ H fun vs H1 => ∃ a xs, vs = [.ref a] ∧ SqT K H1 a xs ∧ R (IteT K a) H1
theorem pi_enumT {X : Cx} {e : Expr} {ta : TA} {p pos tpos : Pos} {elts : List Expr} {kk : Nat} (hg : Gl X "enumerate") (hm : X.mg "enumerate" = none) (ha : PA X [e] ta) (hs : starEach [e] X.env = [(false, eval e X.env)] := by rfl) :
    PI X (.Tuple elts kk tpos) (.Call (.Name "enumerate" p) [e] [] pos) (iEnumT X.K ta) := by
  refine ⟨fun pins s σ H R I h => ?_⟩
  refine Call_ (ld_blt I hg hm boot_enumerate (PyProof.Rows.callWith_type1 (thn (ha.run pos pins s σ H _ I h) fun us s1 ⟨vs, H1, I1, r1, q1⟩ => ?_) hs rfl))
  obtain ⟨a, xs, ex, hq, q⟩ := q1
  subst ex
  obtain rfl := Vals.ref1 r1
  obtain ⟨its, rv, p', hz⟩ := I1.tuple hq
  have hal : a < s1.heap.objs.size := by obtain ⟨o, e, _⟩ := p'; exact Heap.lt_size e
  refine call_enumT p' fun h' he hit hk => wpAny_pyIter_enum he ?_
  have I2 : Inv X pins σ H1 { s1 with heap := h' } := I1.kept (t' := s1.toks) hk
  refine ⟨s1.heap.objs.size + 1, [s1.heap.objs.size + 1, s1.heap.objs.size], _, _, H1, rfl, I2, turn_enumT a (s1.heap.objs.size + 1) s1.heap.objs.size (Nat.ne_of_lt hal) (Nat.ne_of_lt (Nat.lt_succ_of_lt hal)) (Nat.succ_ne_self _), ⟨⟨.none, he⟩, hit⟩, fun b hb => ?_, q⟩
  have hle : s1.heap.objs.size ≤ b := by
    rcases two_cases hb with rfl | rfl
    · exact Nat.le_add_right _ _
    · exact Nat.le_refl _
  exact I1.fpOk hle (I1.hok.fresh hle)
theorem walk_enumT {K : PySem.W.Frag} {a : Addr} {xs : List V} : Walk (IteT K a) xs.length (fun H => SqT K H a xs) (YPair (fun i => some (.int (i : Nat))) (fun i => xs[i]?)) where
  goes := fun i H hi hq => ⟨xs, xs[i], hq, by simp [hi]⟩
  stops := fun H hq => ⟨xs, hq, rfl⟩
  yields := fun i H v H' hi hq hy => by
    obtain ⟨T, x, e1, e2, e3, e4⟩ := hy
    exact ⟨T, .int (i : Nat), x, e1, e2, e3, rfl, e4 xs hq⟩
theorem walk_zipT {K : PySem.W.Frag} {a b : Addr} {xs ys : List V} {n : Nat} (hn : n = min xs.length ys.length) : Walk (RZ.ItzT K a b) n (fun H => SqT K H a xs ∧ SqT K H b ys) (YPair (fun i => xs[i]?) (fun i => ys[i]?)) where
  goes := fun i H hi hq => ⟨xs, ys, xs[i]'(by omega), ys[i]'(by omega), hq.1, hq.2, by simp, by simp⟩
  stops := fun H hq => ⟨xs, ys, hq.1, hq.2, by omega⟩
  yields := fun i H v H' hi hq hy => by
    obtain ⟨T, x, y, e1, e2, e3, e4, e5⟩ := hy
    exact ⟨T, x, y, e1, e2, e3, e4 xs hq.1, e5 ys hq.2⟩

/-! ### min(a tuple of whole numbers) -/
def rMinT (K : PySem.W.Frag) : List V → Hp → VK → Prop := fun vs H Q => ∃ (a : Addr) (n : Int) (ns : List Int), vs = [V.ref a] ∧ SqT K H a ((n :: ns).map V.int) ∧ Q (.int (ns.foldl min n)) H
theorem cr_minT {X : Cx} (hc : X.calm = true) (hu : X.A.units + 1 < cLine) : CallR X (.builtin "min") (rMinT X.K) := by
  intro pins s σ H vs us Q I r h
  obtain ⟨a, n, ns, rfl, hs, q⟩ := h
  obtain ⟨its, rv, hl, _⟩ := I.tuple hs
  obtain rfl := Vals.ref1 r
  have hR : ∀ {ns : List Int} {us : List Value}, Vals (ns.map V.int) us → ReadsAll s.heap us (ns.map PyData.int) [] := by
    intro ns
    induction ns with
    | nil => intro us r; cases r; exact .nil
    | cons k r ih =>
      intro us rr
      cases rr with
      | cons h1 h2 =>
        obtain ⟨t, rfl⟩ := h1
        exact ReadsAll.cons (as := []) (bs := []) (.int k t) (ih h2)
  have hA : PySem.W.AlikeAll ((n :: ns).map PyData.int) := by
    refine ⟨fun d hd d' hd' => ?_, fun d hd => ?_⟩
    · obtain ⟨i, _, rfl⟩ := List.mem_map.mp hd
      obtain ⟨j, _, rfl⟩ := List.mem_map.mp hd'
      rfl
    · obtain ⟨i, _, rfl⟩ := List.mem_map.mp hd
      exact fun z => nomatch z
  have hD := PySem.W.depth_ints (n :: ns)
  refine PySem.W.min_tuple_data (x := .int n) (xs := ns.map .int) (as := []) (I.ok.hd hc) (vs := its.toArray) hl (by simpa using hR rv) hA (by
    show X.A.units + 1 + PyData.depthAll ((n :: ns).map .int) < cLine
    rw [hD]; exact hu) fun i v h' tk bs hv hr k => ?_
  rw [PySem.W.minD_ints] at hr
  cases hr with
  | int _ t => exact ⟨.int _, H, I.kept k, ⟨_, rfl⟩, q⟩

/-! ### f(k = v, ..), the keywords in the reversed order of the parameters -/
def tCallR (sp : Sp) (n : Nat) (E : XK) (tk : TA) : TE := fun σ H Q => tk σ H fun zs H1 => zs.length = n ∧ sp zs.reverse H1 Q E
theorem Vals.rev {xs : List V} {us : List Value} (h : Vals xs us) : Vals xs.reverse us.reverse := Vals.reverse h
theorem pe_callKr {X : Cx} {CX : CXT} {k : Nat} {f : Addr} {fd : FuncData} {ps ks : List Str} {sp : Sp} {E : XK} {x : Str} {p pos : Pos} {kws : List Keyword} {tk : TA} (F : FnOk X.prog X.w X.K X.mg X.base CX k f fd ps sp) (hr : Room k X.A) (hg : Gl X x)
    (hm : X.mg x = some (.ref f)) (hk : PySem.W.keepIn X.K (.ref f) = true) (hb : ∀ ws : List Value, ws.length = ks.length → bindArgs fd ⟨[], ks.zip ws⟩ = pure (ps.zip ws.reverse)) (hx : Passes CX X E) (hkw : PK X kws tk)
    (hall : (backToKw pos (keywordEach kws X.env)).all (·.1.isSome) = true := by rfl) (hks : (backToKw pos (keywordEach kws X.env)).filterMap (·.1) = ks := by rfl) (hdb : (x == ("__debug__" : Str)) = false := by decide)
    (hpl : ((backTo pos (starEach [] X.env)).any (·.1) || (backToKw pos (keywordEach kws X.env)).any (·.1.isNone)) = false := by rfl) : PE X (.Call (.Name x p) [] kws pos) (tCallR sp ks.length E tk) := by
  refine ⟨fun pins s σ H Q I h => ?_⟩
  refine wpAny_Call_Name_kw (ld_glob I hg hm ?_ hdb)
  refine PySem.W.callWith_KW0 (h₀ := X.base) I.ok.mod.kin hk hall ?_ hpl
  refine thn (hkw.run pos pins s σ H _ I h) fun ws s2 ⟨zs, H2, I2, rz, l1, q2⟩ => ⟨I2.kIn, ?_⟩
  rw [hks]
  refine wpAny_call (codeAny_mono (F.run X.A X.stack s2 H2 ⟨[], ks.zip ws⟩ ws.reverse zs.reverse Q E hr I2.env0 (.of_eq (hb ws (rz.length.symm.trans l1))) (Vals.reverse rz) q2) fun r s' hq => ?_)
  match r with
  | .error e => exact hx pins σ H2 s2 e s' I2 hq
  | .ok (.ret u) => exact I2.after hq
  | .ok .next => exact False.elim hq
  | .ok .brk => exact False.elim hq
  | .ok .cont => exact False.elim hq

/-! ### "a" * n, n from 0 to 2 -/
def rMulA : R2 := fun x y H Q => ∃ n : Int, x = .str "a" ∧ y = .int n ∧ 0 ≤ n ∧ n ≤ 2 ∧ Q (.str (if n = 0 then "" else if n = 1 then "a" else "aa")) H
theorem op_mulA {X : Cx} : OpR X (binaryOp .Mult) rMulA := by
  intro pins s σ H x y v u Q I rx ry h
  obtain ⟨n, rfl, rfl, h0, h2, q⟩ := h
  obtain ⟨t, rfl⟩ := rx
  obtain ⟨t2, rfl⟩ := ry
  have hn : n = 0 ∨ n = 1 ∨ n = 2 := by omega
  rcases hn with rfl | rfl | rfl
  · refine P.mul_str rfl (fun z => absurd (by decide) z) (fun z => absurd (by decide) z) ?_
    exact ⟨by decide, .str Str.empty, H, I.tok _, ⟨_, rfl⟩, q⟩
  · refine P.mul_str rfl (fun _ z => absurd z (by decide)) (fun _ z => absurd z (by decide)) ?_
    exact ⟨.str _, H, I, ⟨_, rfl⟩, q⟩
  · refine P.mul_str rfl (fun _ _ => by decide) (fun _ _ => by decide +kernel) ?_
    have e : (⟨(List.replicate (2 : Int).toNat ("a" : Str).cps).foldl (· ++ ·) #[]⟩ : Str) = "aa" := by decide +kernel
    show _ ∧ _
    rw [e]
    exact ⟨by decide +kernel, .str "aa", H, I.tok _, ⟨_, rfl⟩, q⟩
end Gp
set_option Elab.async false
set_option linter.all false
set_option maxRecDepth 100000
set_option maxHeartbeats 4000000
namespace Gp
open PySem PySem.Spec PyProof.Rows L2
/-! ### one clause of a comprehension: its turns, whatever its body -/
def clauseTree (tg iter : Expr) (ifs : List Expr) (env : Env) (it : Value) (body : Sem Unit) (c : Code) : Sem PySem.Fin := do
  standAt iter.pos
  match ← pyNext it with
  | none => pure (.done .next)
  | some v =>
    letOwnedTupleGo tg it v
    assign tg env v
    let mut ok := true
    for t in ifs do
      if ok then ok ← isTrue t env (eval t env)
    if ok then body
    again c
/-- the tests, as they are run -/
abbrev testsOf_ (ifs : List Expr) (env : Env) : Sem Bool := forIn ifs true fun c r => if r = true then do let ok ← isTrue c env (eval c env); pure (ForInStep.yield ok) else pure (ForInStep.yield r)
section
variable {Y : Cx} {pins : List (Addr × Obj)} {tg : Expr} {g : TG} {ifs : List Expr} {tt : TT} {J : It} {fp : List Addr} {it : Addr} {tn : Nat → Heap → Prop} {i : Nat} {σ : L2.St} {H : Hp} {s : Shared}
/-- next, the store, the tests -/
theorem clause_run (T : Turn Y.prog Y.w Y.K tg J fp it tn) (hc : Y.calm = true) (pg : PG Y tg g) (pt : PTs Y ifs tt) (I : Inv Y pins σ H s) (hf : ∀ b ∈ fp, FpOk Y pins H b) (st : tn i s.heap) (go : J.go i H) {R : Bool → L2.St → Hp → Prop} {P : Bool → Shared → Prop}
    (step : ∀ x H', J.yld i H x H' → g x σ H' fun σ2 H2 => tt σ2 H2 fun b H3 => R b σ2 H3)
    (k : ∀ b σ2 H3 h7 s9, Inv Y (pins ++ pinsAt fp h7) σ2 H3 s9 → tn (i + 1) h7 → (∀ b ∈ fp, ∃ o, h7.get? b = some o) → R b σ2 H3 → P b s9) :
    wpAny (model Y.prog Y.w) Y.A (pyNext (.ref it)) (fun r s1 => ∃ u, r = some u ∧ wpAny (model Y.prog Y.w) Y.A (letOwnedTupleGo tg (.ref it) u) (fun _ s2 => wpAny (model Y.prog Y.w) Y.A (assign tg Y.env u) (fun _ s3 =>
      wpAny (model Y.prog Y.w) Y.A (testsOf_ ifs Y.env) P Y.xe s3) Y.xe s2) Y.xe s1) Y.xe s := by
  refine thn (T.item Y rfl rfl rfl hc i pins s σ H Y.xe I hf st go) fun r s1 ⟨u, hr, h1⟩ => ⟨u, hr, ?_⟩
  refine thn h1 fun _ s2 ⟨x, H2, I2, r2, y2, st2, n2⟩ => ?_
  have ob : ∀ b ∈ fp, ∃ o, s2.heap.get? b = some o ∧ ∀ v, o.data ≠ .cell v := T.obj _ _ st2
  have F2 : ∀ b ∈ fp, FpOk Y pins H2 b := fun b hb => ⟨n2 b hb, (hf b hb).2⟩
  refine thn (pg.run _ s2 σ H2 x u _ (I2.pinned F2 ob) r2 (step x H2 y2)) fun _ s3 ⟨σ3, H3, I3, q3⟩ => ?_
  refine thn (pt.run _ s3 σ3 H3 _ I3 q3) fun b s4 ⟨H4, I4, q4⟩ => ?_
  exact k b σ3 H4 s2.heap s4 I4 st2 (fun b hb => let ⟨o, e, _⟩ := ob b hb; ⟨o, e⟩) q4
/-- behind the turn -/
theorem clause_back (T : Turn Y.prog Y.w Y.K tg J fp it tn) {h7 : Heap} (I : Inv Y (pins ++ pinsAt fp h7) σ H s) (st : tn i h7) (ob : ∀ b ∈ fp, ∃ o, h7.get? b = some o) : Inv Y pins σ H s ∧ tn i s.heap ∧ ∀ b ∈ fp, H b = none := by
  have kp : ∀ b ∈ fp, ∀ o, h7.get? b = some o → s.heap.get? b = some o ∧ H b = none := fun b hb o e => by
    have z := I.pin (b, o) (List.mem_append_right _ (List.mem_append_right _ (mem_pinsAt hb e)))
    exact ⟨z.1, z.2.1⟩
  refine ⟨I.unpinned, T.keep _ _ _ st fun b hb o e => (kp b hb o e).1, fun b hb => ?_⟩
  obtain ⟨o, e⟩ := ob b hb
  exact (kp b hb o e).2
end
section
variable {prog : Program} {w : World} {A : Around} {R : Result → Shared → Prop} {env : Env}
abbrev F0 : Value → Shared → Prop := fun _ _ => False
/-- the loop of a clause whose turns raise nothing -/
theorem clause_loop {elt : Expr} {gens : List Comprehension} {scope : Scope} {pos : Pos} {d : Nat} {it acc : Value} {tg iter : Expr} {ifs : List Expr} {body : Sem Unit} (eq : compTurn (.SetComp elt gens scope pos) d it acc env = clauseTree tg iter ifs env it body (.compLoop (.SetComp elt gens scope pos) d it acc env)) (W : Nat → Shared → Prop)
    (turn : ∀ n s, W n s → wpAny (model prog w) A (pyNext it) (fun r s1 => match r with
      | none => R (.ok .next) s1
      | some u => wpAny (model prog w) A (letOwnedTupleGo tg it u) (fun _ s2 => wpAny (model prog w) A (assign tg env u) (fun _ s3 => wpAny (model prog w) A (testsOf_ ifs env) (fun b s4 =>
          if b = true then wpAny (model prog w) A body (fun _ s5 => ∃ m, m < n ∧ W m s5) F0 s4 else ∃ m, m < n ∧ W m s4) F0 s3) F0 s2) F0 s1) F0 s) (n : Nat) (s : Shared) (h : W n s) :
    codeAny (model prog w) A (.compLoop (.SetComp elt gens scope pos) d it acc env) R s := by
  refine codeAny_loop rfl W (fun n s hW => ?_) n h
  show wpAny _ A ((compTurn (.SetComp elt gens scope pos) d it acc env).onRaise (fun x => do noteFrame x env; theTreesLotGoes x)) _ _ s
  refine wpAny_noted ?_
  rw [eq]
  unfold clauseTree
  have up : ∀ {α : Type} {t : Sem α} {Q Q' : α → Shared → Prop} {E : Value → Shared → Prop} {s : Shared}, wpAny (model prog w) A t Q F0 s → (∀ a s, Q a s → Q' a s) → wpAny (model prog w) A t Q' E s := fun a b => wpAny_mono a b fun _ _ z => z.elim
  refine wpAny_bind (wpAny_standAt (wpAny_bind (up (turn n s hW) fun r s1 h1 => ?_)))
  match r with
  | none => exact wpAny_pure h1
  | some u =>
    refine wpAny_bind (up h1 fun _ s2 h2 => wpAny_bind (up h2 fun _ s3 h3 => wpAny_bind (up h3 fun b s4 h4 => ?_)))
    match b with
    | false => exact wpAny_pure ⟨rfl, h4⟩
    | true => exact wpAny_bind (up h4 fun _ s5 h5 => wpAny_pure ⟨rfl, h5⟩)
/-- the start of a clause -/
theorem clause_start {elt : Expr} {gens : List Comprehension} {scope : Scope} {pos : Pos} {d : Nat} {it acc : Value} {tg iter : Expr} {ifs : List Expr} {s : Shared} (hcl : gens[d]? = some ⟨tg, iter, ifs, 0⟩) (self : ∀ (Q E : Value → Shared → Prop), Q it s → wpAny (model prog w) A (pyIter it) Q E s)
    (loop : codeAny (model prog w) A (.compLoop (.SetComp elt gens scope pos) d it acc env) R s) : codeAny (model prog w) A (.compStart (.SetComp elt gens scope pos) d it acc env) R s := by
  refine codeAny_of_tree ?_
  show wpAny _ _ ((compStart (.SetComp elt gens scope pos) d it acc env).onRaise (fun x => do noteFrame x env; standAt theWindowsPlace)) _ _ s
  refine wpAny_notedAt ?_
  unfold compStart
  have hcl' : (clausesOf (.SetComp elt gens scope pos))[d]? = some ⟨tg, iter, ifs, 0⟩ := hcl
  rw [hcl']
  show wpAny _ _ (ask >>= _) _ _ s
  refine wpAny_bind (wpAny_askSetting (wpAny_ite ?_))
  split
  · first
      | exact wpAny_bind (wpAny_pure (wpAny_pure ⟨rfl, loop⟩))
      | exact wpAny_pure ⟨rfl, loop⟩
  · refine wpAny_bind (wpAny_rule ?_)
    refine wpAny_bind (wpAny_standAt ?_)
    exact wpAny_bind (self _ _ (wpAny_pure ⟨rfl, loop⟩))
end

/-! ### a set of whole numbers by a comprehension -/
abbrev noInt : Int → Bool := fun _ => false
/-- S with k -/
abbrev withInt (S : Int → Bool) (k : Int) : Int → Bool := fun j => S j || decide (j = k)
section
variable {X : Cx} {pins : List (Addr × Obj)} {s : Shared} {σ : L2.St} {H : Hp}
theorem set_laid (I : Inv X pins σ H s) : Inv X pins σ (upd H s.heap.objs.size (SetO X.w s.heap.objs.size noInt 0)) { s with heap := s.heap.push { cls := .type "set", dict := none, data := .set #[] 0 (.fresh 0 0 (!X.w.params.followText "set-order")) } } :=
  I.laid (t' := s.toks) (fun _ _ e => Heap.get?_push_of_some _ e) (Nat.le_refl _) (setO_new (setR_fresh X.w))
theorem add_ok {E : Value → Shared → Prop} {D : Addr} {S : Int → Bool} {n : Nat} {y : Int} {t : Tok} {Q : Value → Shared → Prop} (I : Inv X pins σ H s) (hD : H D = some (SetO X.w D S n)) (room : n + 1 < scanBound)
    (h : ∀ s', Inv X pins σ (upd H D (SetO X.w D (withInt S y) (if S y = true then n else n + 1))) s' → Q .none s') : wpAny (model X.prog X.w) X.A (call (.builtin "set.add") [.ref D, .int y t]) Q E s := by
  refine setR_add (setO_get I hD) room fun h' sb new => ?_
  have there : ∃ u, h'.get? D = some u := let ⟨o, _, _, _, ho, _⟩ := new; ⟨o, ho⟩
  exact h _ (I.write (e := D) (t' := s.toks + 1) (by rw [hD]; trivial) (.inl rfl) (fun b u hb hu => (sb.2 b hb).trans hu) there (setO_new new))
end
/-- what is asked of a value that is put into the set at D -/
def sPut (w : World) (D : Addr) (Nx : Hp → Prop) : VK := fun y H => ∃ (c : Int) (S : Int → Bool) (n : Nat), y = .int c ∧ H D = some (SetO w D S n) ∧ n + 1 < scanBound ∧ Nx (upd H D (SetO w D (withInt S c) (if S c = true then n else n + 1)))
/-- the turns of a walk: W by the turn and a measure -/
def tTurns (J : It) (H1 : Hp) (stop : Hp → Prop) (turn : (Hp → Prop) → V → Hp → Prop) : Prop := ∃ W : Nat → Nat → Hp → Prop, (∃ m, W 0 m H1) ∧ ∀ i m H, W i m H →
  (J.stop i H ∧ stop H) ∨ (J.go i H ∧ ∃ Nx : Hp → Prop, (∀ H', Nx H' → ∃ m', m' < m ∧ W (i + 1) m' H') ∧ ∀ x H', J.yld i H x H' → turn Nx x H')
/-- {elt for tg in iter if ..} -/
def tSc1 (w : World) (wi : TI) (g : TG) (tt : TT) (te : TE) (vs : List Nat) : TE := fun σ H Q => wi σ H fun J H1 => ∀ D, H1 D = none → tTurns J (upd H1 D (SetO w D noInt 0)) (Q (.ref D)) fun Nx x H' =>
  g x (wipe σ vs) H' fun σ2 H2 => tt σ2 H2 fun b H3 => wipe σ2 vs = wipe σ vs ∧ if b = true then te σ2 H3 (sPut w D Nx) else Nx H3
/-- {elt for tg in iter if .. for tg1 in iter1 if ..} -/
def tSc2 (w : World) (wi : TI) (g : TG) (tt : TT) (wi1 : TI) (g1 : TG) (tt1 : TT) (te : TE) (vs vs1 : List Nat) : TE := fun σ H Q => wi σ H fun J H1 => ∀ D, H1 D = none → tTurns J (upd H1 D (SetO w D noInt 0)) (Q (.ref D)) fun Nx x H' =>
  g x (wipe σ vs) H' fun σ2 H2 => tt σ2 H2 fun b H3 => wipe σ2 vs = wipe σ vs ∧ if b = true then wi1 σ2 H3 fun J1 H4 => tTurns J1 H4 Nx fun Nx1 x1 H5 =>
    g1 x1 (wipe σ2 vs1) H5 fun σ3 H6 => tt1 σ3 H6 fun b1 H7 => wipe σ3 vs1 = wipe σ2 vs1 ∧ if b1 = true then te σ3 H7 (sPut w D Nx1) else Nx1 H7
    else Nx H3
section
variable {X : Cx}
theorem wipe_keeps {σ : L2.St} {i : Nat} : ∀ {vs : List Nat}, i ∉ vs → (wipe σ vs)[i]? = σ[i]?
  | [], _ => rfl
  | v :: vs, h => by
    show ((wipe σ vs).set v none)[i]? = σ[i]?
    rw [List.getElem?_set_ne fun e => h (by rw [e]; exact List.mem_cons_self)]
    exact wipe_keeps fun m => h (List.mem_cons_of_mem _ m)
/-- the outer clause of a set comprehension: its body is anything that leads from the target's store to Nx -/
theorem sc_out {pins : List (Addr × Obj)} {s : Shared} {σ : L2.St} {H : Hp} {Q : VK} {elt tg iter : Expr} {rest : List Comprehension} {ifs : List Expr} {scope : Scope} {own : List (PySem.Str × Nat)} {pos pos' : Pos} {wi : TI} {g : TG} {tt : TT} {Qf : Value → Shared → Prop} {body : Env → Addr → Sem Unit} {tr : Addr → (Hp → Prop) → L2.St → Hp → Prop}
    (hc : X.calm = true) (hN : X.N.Nodup) (I : Inv X pins σ H s) (hi : PI X tg iter wi) (ok : BlkOk X.N X.env.scope scope own)
    (hg : ∀ (s : Shared) (H : Hp) (C : Addr) (cl : List (PySem.Str × Addr)) (fp : List Addr), PG (X.blk s H scope (compEnvC scope cl C X.env) fp) tg g)
    (ht : ∀ (s : Shared) (H : Hp) (C : Addr) (cl : List (PySem.Str × Addr)) (fp : List Addr), PTs (X.blk s H scope (compEnvC scope cl C X.env) fp) ifs tt) (hs : ∀ x, foldedSetIterable iter X.env x = pure x)
    (eq : ∀ (env : Env) (it D : Addr), compTurn (.SetComp elt (⟨tg, iter, ifs, 0⟩ :: rest) scope pos) 0 (.ref it) (.ref D) env = clauseTree tg iter ifs env (.ref it) (body env D) (.compLoop (.SetComp elt (⟨tg, iter, ifs, 0⟩ :: rest) scope pos) 0 (.ref it) (.ref D) env))
    (hbody : ∀ (s3 : Shared) (H3 : Hp) (C : Addr) (cl : List (PySem.Str × Addr)) (fp : List Addr) (D : Addr) (Nx : Hp → Prop) (σ0 σ' : L2.St) (H' : Hp) (s' : Shared) (pn : List (Addr × Obj)), Inv (X.blk s3 H3 scope (compEnvC scope cl C X.env) fp) pn σ' H' s' → wipe σ' (own.map (·.2)) = wipe σ0 (own.map (·.2)) → tr D Nx σ' H' →
      wpAny (model X.prog X.w) X.A (body (compEnvC scope cl C X.env) D) (fun _ s'' => ∃ σ'' H'', Inv (X.blk s3 H3 scope (compEnvC scope cl C X.env) fp) pn σ'' H'' s'' ∧ (∀ j, j ∉ own.map (·.2) → σ''[j]? = σ'[j]?) ∧ Nx H'') F0 s')
    (h : wi σ H fun J H1 => ∀ D, H1 D = none → tTurns J (upd H1 D (SetO X.w D noInt 0)) (Q (.ref D)) fun Nx x H' => g x (wipe σ (own.map (·.2))) H' fun σ2 H2 => tt σ2 H2 fun b H3 => wipe σ2 (own.map (·.2)) = wipe σ (own.map (·.2)) ∧ if b = true then tr D Nx σ2 H3 else Nx H3)
    (hRR : ∀ D C s' m H', Inv X pins σ H' s' → Q (.ref D) H' → s'.heap.Ns C m → FpOk X pins H' C → compPost (model X.prog X.w) X.A X.xe none Qf (.ref D) C (.ok .next) s') :
    wpAny (model X.prog X.w) X.A (comprehension (.SetComp elt (⟨tg, iter, ifs, 0⟩ :: rest) scope pos) scope X.env pos' (newSet (.type "set")) false (eval iter X.env) none) Qf X.xe s := by
  have hfree : ∀ y ∈ scope.names, y.2 = .free → ∃ c, X.env.cells.lookup y.1 = some c := fun y hy e => (ok.free y hy e).elim (fun k => I.ok.has _ (.inl k)) fun k => I.ok.has _ (.inr k)
  refine wpAny_comprehension_free (use := none) rfl hs (closure_ok hfree) ok.kind (fun y hy e => by rw [ok.uniq y hy, e]) (thn (hi.run pins s σ H _ I h) fun xv s1 hx => thn hx fun itv s2 h2 => ?_)
  obtain ⟨it, fp, tn, J, H2, rfl, I2, T, st2, f2, q⟩ := h2
  refine PpSet.newSet_ok (newEnv_comp ?_)
  have hDn : H2 s2.heap.objs.size = none := I2.hok.fresh (Nat.le_refl _)
  obtain ⟨W, ⟨m0, w0⟩, turn⟩ := q s2.heap.objs.size hDn
  have I3 := set_laid I2
  generalize hD : s2.heap.objs.size = D at w0 turn I3 hDn ⊢
  generalize ho : ({ cls := .type "set", dict := none, data := .set #[] 0 (.fresh 0 0 (!X.w.params.followText "set-order")) } : Obj) = ob at I3 ⊢
  have k3 : ∀ b o, s2.heap.get? b = some o → (s2.heap.push ob).get? b = some o := fun b o e => Heap.get?_push_of_some _ e
  have sz3 : (s2.heap.push ob).objs.size = D + 1 := by rw [Heap.size_push, hD]
  have lt : ∀ b ∈ fp, b < D := fun b hb => by
    obtain ⟨o, e, _⟩ := T.obj _ _ st2 b hb
    rw [← hD]; exact Heap.lt_size e
  have f3 : ∀ b ∈ fp, FpOk X pins (upd H2 D (SetO X.w D noInt 0)) b ∧ b < (s2.heap.push ob).objs.size := fun b hb => by
    refine ⟨⟨?_, (f2 b hb).2⟩, by rw [sz3]; exact Nat.lt_succ_of_lt (lt b hb)⟩
    rw [upd_ne (Nat.ne_of_lt (lt b hb))]
    exact (f2 b hb).1
  have st3 : tn 0 (s2.heap.push ob) := T.keep _ _ _ st2 fun b _ o e => k3 b o e
  generalize hs3 : ({ s2 with heap := s2.heap.push ob } : Shared) = s3 at I3
  have h3 : s3.heap = s2.heap.push ob := by rw [← hs3]
  rw [← h3] at f3 st3
  have I4 := block_start I3 ok hN f3
  generalize hH3 : upd H2 D (SetO X.w D noInt 0) = H3 at I3 I4 w0 f3
  have pg := hg s3 H3 s3.heap.objs.size (cellsFrom (s3.heap.objs.size + 1) scope.names (cloFrom X.env.cells scope.names [])) fp
  have pt := ht s3 H3 s3.heap.objs.size (cellsFrom (s3.heap.objs.size + 1) scope.names (cloFrom X.env.cells scope.names [])) fp
  have pb := hbody s3 H3 s3.heap.objs.size (cellsFrom (s3.heap.objs.size + 1) scope.names (cloFrom X.env.cells scope.names [])) fp D
  have goal : codeAny (model X.prog X.w) X.A (.compStart (.SetComp elt (⟨tg, iter, ifs, 0⟩ :: rest) scope pos) 0 (.ref it) (.ref D) (compEnvC scope (cellsFrom (s3.heap.objs.size + 1) scope.names (cloFrom X.env.cells scope.names [])) s3.heap.objs.size X.env))
      (compPost (model X.prog X.w) X.A X.xe none Qf (.ref D) s3.heap.objs.size) { s3 with heap := pushCells (s3.heap.push { cls := .type "dict", data := .dict #[] }) scope.names } := by
    generalize hce : compEnvC scope (cellsFrom (s3.heap.objs.size + 1) scope.names (cloFrom X.env.cells scope.names [])) s3.heap.objs.size X.env = ce at I4 pg pt pb ⊢
    have cL : ce.locals = s3.heap.objs.size := by subst hce; rfl
    have st4 : tn 0 (pushCells (s3.heap.push { cls := .type "dict", data := .dict #[] }) scope.names) := T.keep _ _ _ st3 fun b _ o e => pushCells_keeps _ _ _ _ (Heap.get?_push_of_some _ e)
    generalize hs4 : ({ s3 with heap := pushCells (s3.heap.push { cls := .type "dict", data := .dict #[] }) scope.names } : Shared) = s4 at I4 ⊢
    have st4' : tn 0 s4.heap := by rw [← hs4]; exact st4
    have stat : ∀ {σ' : L2.St} {H' : Hp} {s' : Shared}, Inv (X.blk s3 H3 scope ce fp) [] σ' H' s' → (∀ b ∈ fp, H' b = none) → ∀ b ∈ fp, FpOk (X.blk s3 H3 scope ce fp) [] H' b := fun {σ' H' s'} I' hn b hb =>
      ⟨hn b hb, (I'.ok.exf b hb).1, I'.ok.exfs b hb, .inl hb, fun x c e => (I'.ok.exf b hb).2 x c e, fun p hp => absurd (show p ∈ ([] : List (Addr × Obj)) ++ [] from hp) (by simp)⟩
    refine clause_start rfl (fun Q E hq => T.self X.A 0 _ _ _ st4' hq) (clause_loop (eq ce it D) (fun n s' => ∃ i H', Inv (X.blk s3 H3 scope ce fp) [] (wipe σ (own.map (·.2))) H' s' ∧ tn i s'.heap ∧ (∀ b ∈ fp, H' b = none) ∧ W i n H') ?_ m0 s4 ⟨0, H3, I4, st4', fun b hb => (f3 b hb).1.1, w0⟩)
    rintro n s5 ⟨i, H5, I5, st5, n5, w5⟩
    rcases turn i n H5 w5 with ⟨stop, qq⟩ | ⟨go, Nx, hNx, step⟩
    · refine thn (T.done (X.blk s3 H3 scope ce fp) rfl rfl rfl hc i [] s5 _ H5 F0 I5 (stat I5 n5) st5 stop) fun r s6 ⟨hr, I6⟩ => ?_
      subst hr
      have I7 : Inv X pins σ H5 s6 := I3.call' (ch := fp) I6.os I6.base I6.hok I6.bare fun b hb => ⟨(f3 b hb).1.2.2.2.1, (f3 b hb).1.2.1, (f3 b hb).1.2.2.2.2.1, (f3 b hb).1.2.2.2.2.2⟩
      obtain ⟨m, hn, _⟩ := I6.loc
      have nC : H5 ce.locals = none := I6.free
      have hn' : s6.heap.Ns ce.locals m := hn
      rw [cL] at hn' nC
      exact hRR D s3.heap.objs.size s6 m H5 I7 qq hn' (I3.fpOk (Nat.le_refl _) nC)
    · have fin : ∀ {σ9 : L2.St} {s' : Shared} {H' : Hp} {h7 : Heap}, Inv (X.blk s3 H3 scope ce fp) ([] ++ pinsAt fp h7) σ9 H' s' → tn (i + 1) h7 → (∀ b ∈ fp, ∃ o, h7.get? b = some o) → (∀ j, j ∉ own.map (·.2) → σ9[j]? = (wipe σ (own.map (·.2)))[j]?) → Nx H' →
          ∃ m, m < n ∧ ∃ i H', Inv (X.blk s3 H3 scope ce fp) [] (wipe σ (own.map (·.2))) H' s' ∧ tn i s'.heap ∧ (∀ b ∈ fp, H' b = none) ∧ W i m H' := fun {σ9 s' H' h7} I' st7 ob hk nx => by
        obtain ⟨m', hm, w'⟩ := hNx H' nx
        obtain ⟨I8, st8, n8⟩ := clause_back (Y := X.blk s3 H3 scope ce fp) T I' st7 ob
        refine ⟨m', hm, i + 1, H', I8.weak (I5.len.trans I8.len.symm) (fun j v e => ?_), st8, n8, w'⟩
        have hj : j ∉ own.map (·.2) := (wipe_some e).2
        rw [hk j hj]; exact e
      refine thn (clause_run (Y := X.blk s3 H3 scope ce fp) (R := fun b σ2 H2 => wipe σ2 (own.map (·.2)) = wipe σ (own.map (·.2)) ∧ if b = true then tr D Nx σ2 H2 else Nx H2)
        (P := fun b s4 => if b = true then wpAny (model X.prog X.w) X.A (body ce D) (fun _ s5 => ∃ m, m < n ∧ ∃ i H', Inv (X.blk s3 H3 scope ce fp) [] (wipe σ (own.map (·.2))) H' s5 ∧ tn i s5.heap ∧ (∀ b ∈ fp, H' b = none) ∧ W i m H') F0 s4 else
          ∃ m, m < n ∧ ∃ i H', Inv (X.blk s3 H3 scope ce fp) [] (wipe σ (own.map (·.2))) H' s4 ∧ tn i s4.heap ∧ (∀ b ∈ fp, H' b = none) ∧ W i m H') T hc pg pt I5 (stat I5 n5) st5 go step ?_) fun r s1 ⟨u, hr, h1⟩ => by subst hr; exact h1
      intro b σ2 H2 h7 s9 I9 st7 ob ⟨hw, hb⟩
      have same : ∀ j, j ∉ own.map (·.2) → σ2[j]? = (wipe σ (own.map (·.2)))[j]? := fun j hj => by rw [← hw, wipe_keeps hj]
      match b with
      | false =>
        rw [if_neg (by decide)] at hb ⊢
        exact fin I9 st7 ob same hb
      | true =>
        rw [if_pos rfl] at hb ⊢
        exact thn (pb Nx σ σ2 H2 s9 _ I9 hw hb) fun _ s10 ⟨σ10, H10, I10, hk, nx⟩ => fin I10 st7 ob (fun j hj => (hk j hj).trans (same j hj)) nx
  exact goal
/-- the last clause's body -/
def addTree (elt : Expr) (env : Env) (D : Addr) : Sem Unit := do
  let v ← eval elt env
  standAt elt.pos
  let _ ← call (.builtin "set.add") [.ref D, v]
theorem add_run {Y : Cx} {elt : Expr} {te : TE} {pins : List (Addr × Obj)} {σ : L2.St} {H : Hp} {s : Shared} {D : Addr} {Nx : Hp → Prop} {Q : Unit → Shared → Prop} (he : PE Y elt te) (I : Inv Y pins σ H s) (h : te σ H (sPut Y.w D Nx))
    (hq : ∀ s' H', Inv Y pins σ H' s' → Nx H' → Q () s') : wpAny (model Y.prog Y.w) Y.A (addTree elt Y.env D) Q Y.xe s := by
  unfold addTree
  refine wpAny_bind (thn (he.run pins s σ H _ I h) fun v s1 ⟨y, H1, I1, r1, c, S, n, ey, hD, hz, nx⟩ => ?_)
  subst ey
  obtain ⟨t, rfl⟩ := r1
  refine wpAny_bind (wpAny_standAt (wpAny_bind ?_))
  exact add_ok I1 hD hz fun s2 I2 => wpAny_pure (hq _ _ I2 nx)
theorem pe_sc1 {elt tg iter : Expr} {ifs : List Expr} {scope : Scope} {own : List (PySem.Str × Nat)} {pos : Pos} {wi : TI} {g : TG} {tt : TT} {te : TE} (hc : X.calm = true) (hN : X.N.Nodup) (hi : PI X tg iter wi) (ok : BlkOk X.N X.env.scope scope own)
    (hg : ∀ (s : Shared) (H : Hp) (C : Addr) (cl : List (PySem.Str × Addr)) (fp : List Addr), PG (X.blk s H scope (compEnvC scope cl C X.env) fp) tg g)
    (ht : ∀ (s : Shared) (H : Hp) (C : Addr) (cl : List (PySem.Str × Addr)) (fp : List Addr), PTs (X.blk s H scope (compEnvC scope cl C X.env) fp) ifs tt)
    (he : ∀ (s : Shared) (H : Hp) (C : Addr) (cl : List (PySem.Str × Addr)) (fp : List Addr), PE (X.blk s H scope (compEnvC scope cl C X.env) fp) elt te) (hs : ∀ x, foldedSetIterable iter X.env x = pure x := by intro _; rfl) :
    PE X (.SetComp elt [⟨tg, iter, ifs, 0⟩] scope pos) (tSc1 X.w wi g tt te (own.map (·.2))) := by
  refine ⟨fun pins s σ H Q I h => ?_⟩
  rw [PpSet.eval_SetComp]
  refine sc_out (body := fun env D => addTree elt env D) (tr := fun D Nx σ' H' => te σ' H' (sPut X.w D Nx)) hc hN I hi ok hg ht hs (fun _ _ _ => rfl) ?_ h fun D C s' m H' I' q hn f => ⟨m, hn, fun h'' sb => ?_⟩
  · intro s3 H3 C cl fp D Nx σ0 σ' H' s' pn I' _ ht'
    exact add_run (he s3 H3 C cl fp) I' ht' fun s'' H'' I'' nx => ⟨σ', H'', I'', fun _ _ => rfl, nx⟩
  · obtain ⟨f0, f1, f2, f3, f4, f5⟩ := f
    exact ⟨.ref D, H', I'.turned (t' := s'.toks) (fun b o hb e => (sb.2 b hb).trans e) f0 f1 f3 f4 f5, rfl, q⟩
/-- the outer clause's body, another clause within -/
def innerTree (c : Value → Code) (iter1 : Expr) (env : Env) : Sem Unit := do
  let x ← eval iter1 env
  standAt iter1.pos
  let x ← foldedSetIterable iter1 env x
  let v ← holding [x] (pyIter x)
  let _ ← runOwn (c v) env
theorem turn_two (elt tg iter tg1 iter1 : Expr) (ifs ifs1 : List Expr) (scope : Scope) (pos : Pos) (env : Env) (it D : Addr) :
    compTurn (.SetComp elt [⟨tg, iter, ifs, 0⟩, ⟨tg1, iter1, ifs1, 0⟩] scope pos) 0 (.ref it) (.ref D) env =
      clauseTree tg iter ifs env (.ref it) (innerTree (fun v => .compStart (.SetComp elt [⟨tg, iter, ifs, 0⟩, ⟨tg1, iter1, ifs1, 0⟩] scope pos) 1 v (.ref D) env) iter1 env) (.compLoop (.SetComp elt [⟨tg, iter, ifs, 0⟩, ⟨tg1, iter1, ifs1, 0⟩] scope pos) 0 (.ref it) (.ref D) env) := by
  unfold clauseTree innerTree
  simp only [bind_assoc, pure_bind]
  rfl
theorem pe_sc2 {elt tg iter tg1 iter1 : Expr} {ifs ifs1 : List Expr} {scope : Scope} {own : List (PySem.Str × Nat)} {vs1 : List Nat} {pos : Pos} {wi wi1 : TI} {g g1 : TG} {tt tt1 : TT} {te : TE} (hc : X.calm = true) (hN : X.N.Nodup) (hi : PI X tg iter wi) (ok : BlkOk X.N X.env.scope scope own) (hv : ∀ i ∈ vs1, i ∈ own.map (·.2))
    (hg : ∀ (s : Shared) (H : Hp) (C : Addr) (cl : List (PySem.Str × Addr)) (fp : List Addr), PG (X.blk s H scope (compEnvC scope cl C X.env) fp) tg g)
    (ht : ∀ (s : Shared) (H : Hp) (C : Addr) (cl : List (PySem.Str × Addr)) (fp : List Addr), PTs (X.blk s H scope (compEnvC scope cl C X.env) fp) ifs tt)
    (hi1 : ∀ (s : Shared) (H : Hp) (C : Addr) (cl : List (PySem.Str × Addr)) (fp : List Addr), PI (X.blk s H scope (compEnvC scope cl C X.env) fp) tg1 iter1 wi1)
    (hg1 : ∀ (s : Shared) (H : Hp) (C : Addr) (cl : List (PySem.Str × Addr)) (fp : List Addr), PG (X.blk s H scope (compEnvC scope cl C X.env) fp) tg1 g1)
    (ht1 : ∀ (s : Shared) (H : Hp) (C : Addr) (cl : List (PySem.Str × Addr)) (fp : List Addr), PTs (X.blk s H scope (compEnvC scope cl C X.env) fp) ifs1 tt1)
    (he : ∀ (s : Shared) (H : Hp) (C : Addr) (cl : List (PySem.Str × Addr)) (fp : List Addr), PE (X.blk s H scope (compEnvC scope cl C X.env) fp) elt te) (hs : ∀ x, foldedSetIterable iter X.env x = pure x := by intro _; rfl)
    (hs1 : ∀ env x, foldedSetIterable iter1 env x = pure x := by intro _ _; rfl) :
    PE X (.SetComp elt [⟨tg, iter, ifs, 0⟩, ⟨tg1, iter1, ifs1, 0⟩] scope pos) (tSc2 X.w wi g tt wi1 g1 tt1 te (own.map (·.2)) vs1) := by
  refine ⟨fun pins s σ H Q I h => ?_⟩
  rw [PpSet.eval_SetComp]
  refine sc_out (body := fun env D => innerTree (fun v => .compStart (.SetComp elt [⟨tg, iter, ifs, 0⟩, ⟨tg1, iter1, ifs1, 0⟩] scope pos) 1 v (.ref D) env) iter1 env)
    (tr := fun D Nx σ2 H3 => wi1 σ2 H3 fun J1 H4 => tTurns J1 H4 Nx fun Nx1 x1 H5 => g1 x1 (wipe σ2 vs1) H5 fun σ3 H6 => tt1 σ3 H6 fun b1 H7 => wipe σ3 vs1 = wipe σ2 vs1 ∧ if b1 = true then te σ3 H7 (sPut X.w D Nx1) else Nx1 H7)
    hc hN I hi ok hg ht hs (fun _ _ _ => turn_two ..) ?_ h fun D C s' m H' I' q hn f => ⟨m, hn, fun h'' sb => ?_⟩
  · intro s3 H3 C cl fp D Nx σ0 σ' H' s' pn I' _ ht'
    unfold innerTree
    refine wpAny_bind (thn ((hi1 s3 H3 C cl fp).run pn s' σ' H' _ I' ht') fun xv s1 hx => ?_)
    refine wpAny_bind (wpAny_standAt (wpAny_bind (wpAny_of_eq (hs1 _ xv) (wpAny_bind (wpAny_holding (thn hx fun itv s2 h2 => ?_))))))
    obtain ⟨it, fp1, tn1, J1, H2, rfl, I2, T1, st2, f2, W1, ⟨m1, w1⟩, turn1⟩ := h2
    refine wpAny_bind (wpAny_runOwn ?_)
    rw [Around.mark_none]
    have goal : codeAny (model X.prog X.w) X.A (.compStart (.SetComp elt [⟨tg, iter, ifs, 0⟩, ⟨tg1, iter1, ifs1, 0⟩] scope pos) 1 (.ref it) (.ref D) (compEnvC scope cl C X.env)) (fun r s' => match r with
        | .ok _ => ∃ σ'' H'', Inv (X.blk s3 H3 scope (compEnvC scope cl C X.env) fp) pn σ'' H'' s' ∧ (∀ j, j ∉ own.map (·.2) → σ''[j]? = σ'[j]?) ∧ Nx H''
        | .error _ => False) s2 := by
      have hst : ∀ {H' : Hp}, (∀ b ∈ fp1, H' b = none) → ∀ b ∈ fp1, FpOk (X.blk s3 H3 scope (compEnvC scope cl C X.env) fp) pn H' b := fun hn b hb => ⟨hn b hb, (f2 b hb).2⟩
      have wk : ∀ j, j ∉ own.map (·.2) → (wipe σ' vs1)[j]? = σ'[j]? := fun j hj => wipe_keeps fun z => hj (hv j z)
      refine clause_start rfl (fun Q E hq => T1.self X.A 0 _ _ _ st2 hq) (clause_loop (body := addTree elt (compEnvC scope cl C X.env) D) (tg := tg1) (iter := iter1) (ifs := ifs1) rfl
        (fun k s' => ∃ j H', Inv (X.blk s3 H3 scope (compEnvC scope cl C X.env) fp) pn (wipe σ' vs1) H' s' ∧ tn1 j s'.heap ∧ (∀ b ∈ fp1, H' b = none) ∧ W1 j k H') ?_ m1 s2 ⟨0, H2, I2.weak (wipe_length _ _) (fun j v e => (wipe_some e).1), st2, fun b hb => (f2 b hb).1, w1⟩)
      rintro k s5 ⟨j, H5, I5, st5, n5, w5⟩
      rcases turn1 j k H5 w5 with ⟨stop, nx⟩ | ⟨go, Nx1, hNx1, step⟩
      · refine thn (T1.done (X.blk s3 H3 scope (compEnvC scope cl C X.env) fp) rfl rfl rfl hc j pn s5 _ H5 F0 I5 (hst n5) st5 stop) fun r s6 ⟨hr, I6⟩ => ?_
        subst hr
        exact ⟨_, H5, I6, wk, nx⟩
      · have fin : ∀ {σ9 : L2.St} {s' : Shared} {H' : Hp} {h7 : Heap}, Inv (X.blk s3 H3 scope (compEnvC scope cl C X.env) fp) (pn ++ pinsAt fp1 h7) σ9 H' s' → tn1 (j + 1) h7 → (∀ b ∈ fp1, ∃ o, h7.get? b = some o) → wipe σ9 vs1 = wipe σ' vs1 → Nx1 H' →
            ∃ m, m < k ∧ ∃ j H', Inv (X.blk s3 H3 scope (compEnvC scope cl C X.env) fp) pn (wipe σ' vs1) H' s' ∧ tn1 j s'.heap ∧ (∀ b ∈ fp1, H' b = none) ∧ W1 j m H' := fun {σ9 s' H' h7} I' st7 ob hw nx => by
          obtain ⟨m', hm, w'⟩ := hNx1 H' nx
          obtain ⟨I8, st8, n8⟩ := clause_back (Y := X.blk s3 H3 scope (compEnvC scope cl C X.env) fp) T1 I' st7 ob
          exact ⟨m', hm, j + 1, H', I8.weak (by rw [← hw, wipe_length]) (fun i v e => by rw [← hw] at e; exact (wipe_some e).1), st8, n8, w'⟩
        refine thn (clause_run (Y := X.blk s3 H3 scope (compEnvC scope cl C X.env) fp) (R := fun b1 σ3 H7 => wipe σ3 vs1 = wipe σ' vs1 ∧ if b1 = true then te σ3 H7 (sPut X.w D Nx1) else Nx1 H7)
          (P := fun b s4 => if b = true then wpAny (model X.prog X.w) X.A (addTree elt (compEnvC scope cl C X.env) D) (fun _ s5 => ∃ m, m < k ∧ ∃ j H', Inv (X.blk s3 H3 scope (compEnvC scope cl C X.env) fp) pn (wipe σ' vs1) H' s5 ∧ tn1 j s5.heap ∧ (∀ b ∈ fp1, H' b = none) ∧ W1 j m H') F0 s4 else
            ∃ m, m < k ∧ ∃ j H', Inv (X.blk s3 H3 scope (compEnvC scope cl C X.env) fp) pn (wipe σ' vs1) H' s4 ∧ tn1 j s4.heap ∧ (∀ b ∈ fp1, H' b = none) ∧ W1 j m H') T1 hc (hg1 s3 H3 C cl fp) (ht1 s3 H3 C cl fp) I5 (hst n5) st5 go (fun x H' hy => ?_) ?_) fun r s1 ⟨u, hr, h1⟩ => by subst hr; exact h1
        · have z := step x H' hy
          exact z
        · intro b σ3 H7 h7 s9 I9 st7 ob ⟨hw, hb⟩
          match b with
          | false =>
            rw [if_neg (by decide)] at hb ⊢
            exact fin I9 st7 ob hw hb
          | true =>
            rw [if_pos rfl] at hb ⊢
            exact add_run (he s3 H3 C cl fp) I9 hb fun s'' H'' I'' nx => fin I'' st7 ob hw nx
    refine codeAny_mono goal fun r s5 hr => ?_
    match r with
    | .ok f =>
      first
        | exact wpAny_pure hr
        | exact wpAny_bind (wpAny_pure (wpAny_pure hr))
        | exact hr
    | .error e => exact hr.elim
  · obtain ⟨f0, f1, f2, f3, f4, f5⟩ := f
    exact ⟨.ref D, H', I'.turned (t' := s'.toks) (fun b o hb e => (sb.2 b hb).trans e) f0 f1 f3 f4 f5, rfl, q⟩
end
end Gp
set_option Elab.async false
set_option linter.all false
set_option maxRecDepth 100000
set_option maxHeartbeats 4000000
namespace Gp
open PySem PySem.Spec PyProof.Rows L2 K62
/-! ### set(a tuple of whole numbers) -/
def rSetT (K : PySem.W.Frag) (w : World) : List V → Hp → VK → Prop := fun vs H Q => ∃ (p : Addr) (ns : List Int), vs = [.ref p] ∧ SqT K H p (ns.map V.int) ∧ ns.length ≤ 1000 ∧
  ∀ (q : Addr) (c : Nat), H q = none → c ≤ ns.length → Q (.ref q) (upd H q (SetO w q (fun j => decide (j ∈ ns)) c))
theorem cr_setT {X : Cx} (hc : X.calm = true) : CallR X (.type "set") (rSetT X.K X.w) := by
  intro pins s σ H vs us Q I r h
  obtain ⟨p, ns, rfl, hq, hl, q⟩ := h
  obtain rfl := Vals.ref1 r
  obtain ⟨its, rv, pt, hz⟩ := I.tuple hq
  refine call_set_tupI ns (I.ok.hd hc) (items := its.toArray) pt (by simpa using rv.ints) (by unfold scanBound; omega) fun h' tk c R hcn k => ?_
  exact ⟨.ref _, _, I.laid (t' := tk) k (Nat.le_refl _) (setO_new R), rfl, q _ c (I.hok.fresh (Nat.le_refl _)) hcn⟩
/-! ### pieces -/
def encP (p : Pc) : PyData := .tuple [.int p.j, .int p.s, .int p.t, .int p.u]
/-- the value is that piece, a tracked tuple -/
def IsP (H : Hp) (x : V) (p : Pc) : Prop := ∃ t, x = .ref t ∧ H t = some (.tup [.int p.j, .int p.s, .int p.t, .int p.u])
theorem dataLe_piece : PySem.W.dataLe false encP = leP := by
  funext p q
  rw [PySem.W.dataLe_eq]
  show (!PySem.W.dataLt (encP q) (encP p)) = leP p q
  have e : PySem.W.dataLt (encP q) (encP p) = PySem.W.rowLt ([q.j, q.s, q.t, q.u].map .int) ([p.j, p.s, p.t, p.u].map .int) := by
    first | rfl | (unfold PySem.W.dataLt PySem.W.rowLt encP; rfl)
  rw [e, PySem.W.dataLt_ints]
  unfold leP
  rw [← decide_not, decide_eq_decide]
  simp only [List.cons_lt_cons_iff, List.not_lt_nil, and_false, or_false]
  omega
theorem each_of {R : V → Pc → Prop} {R' : Value → Pc → Prop} (h : ∀ x u p, RelV x u → R x p → R' u p) : ∀ {xs : List V} {us : List Value} {ps : List Pc}, Vals xs us → Paired R xs ps → PySem.W.EachIs R' us ps
  | _, _, _, .nil, .nil => .nil
  | _, _, _, .cons r rr, .cons q qq => .cons (h _ _ _ r q) (each_of h rr qq)
theorem each_back {R : V → Pc → Prop} : ∀ {us : List Value} {ps : List Pc}, PySem.W.EachIs (fun u p => ∃ x, RelV x u ∧ R x p) us ps → ∃ xs, Vals xs us ∧ Paired R xs ps
  | _, _, .nil => ⟨[], .nil, .nil⟩
  | _, _, .cons ⟨x, r, q⟩ t => by
    obtain ⟨xs, h1, h2⟩ := each_back t
    exact ⟨x :: xs, .cons r h1, .cons q h2⟩
/-- sorted(pieces) -/
def rSortP (K : PySem.W.Frag) : List V → Hp → VK → Prop := fun vs H Q => ∃ (a : Addr) (xs : List V) (ps : List Pc), vs = [.ref a] ∧ SqL K H a xs ∧ Paired (IsP H) xs ps ∧ ps.length ≤ 1000 ∧
  ∀ (ys : List V) (p : Addr), Paired (IsP H) ys (ps.mergeSort leP) → H p = none → Q (.ref p) (upd H p (.lst ys))
theorem cr_sortP {X : Cx} (hu : X.A.units + 64 < cLine) : CallR X (.builtin "sorted") (rSortP X.K) := by
  intro pins s σ H vs us Q I r h
  obtain ⟨a, xs, ps, rfl, hq, hp, hl, q⟩ := h
  obtain rfl := Vals.ref1 r
  obtain ⟨its, rv, pl, hz⟩ := I.list hq
  have rd : ∀ x u p, RelV x u → IsP H x p → ∃ as, Reads s.heap u (encP p) as := by
    rintro x u p rx ⟨t, rfl, ht⟩
    obtain rfl : u = Value.ref t := rx
    obtain ⟨_, its, rr, o, ho, hcl, n, hd⟩ := I.hok _ _ ht
    match its, rr with
    | _, .cons r1 (.cons r2 (.cons r3 (.cons r4 .nil))) =>
      obtain ⟨t1, rfl⟩ := r1
      obtain ⟨t2, rfl⟩ := r2
      obtain ⟨t3, rfl⟩ := r3
      obtain ⟨t4, rfl⟩ := r4
      exact ⟨_, .tuple ho hcl hd (.cons (.int _ _) (.cons (.int _ _) (.cons (.int _ _) (.cons (.int _ _) .nil))))⟩
  have hpl : ps.length = its.length := (Paired.length hp).symm.trans rv.length
  refine PySem.W.sorted_data (bs := ps) (enc := encP) (R := fun u p => ∃ x, RelV x u ∧ IsP H x p) pl.isList (each_of (fun x u p r q => ⟨x, r, q⟩) rv hp) (each_of rd rv hp)
    (PySem.W.AllAlike.of fun b b' => by
      show PySem.W.alike (.tuple ([b.j, b.s, b.t, b.u].map .int)) (.tuple ([b'.j, b'.s, b'.t, b'.u].map .int)) = true
      rw [PySem.W.alike]
      exact PySem.W.alike_ints _ _) (PySem.W.Sortable.tuples fun b => ⟨_, _, rfl⟩) (by rw [sizeLine_eq]; omega) (fun b _ => ?_) fun out ho he => ?_
  · have e : (encP b).depth = 1 := by
      show (PyData.tuple ([b.j, b.s, b.t, b.u].map .int)).depth = 1
      rw [PyData.depth, PySem.W.depth_ints]
    show X.A.units + 2 + (encP b).depth < cLine
    rw [e]; omega
  · rw [dataLe_piece] at he
    obtain ⟨ys, v1, v2⟩ := each_back he
    obtain ⟨ep, he'⟩ := PyProof.Rows.sortedAll_at s.heap its out.toArray
    have hlen : ys.length ≤ sizeLine := by rw [v1.length, ho, sizeLine_eq]; omega
    exact ⟨.ref _, upd H (s.heap.objs.size + 1) (.lst ys), I.laid (t' := s.toks) (fun _ _ => PyProof.Rows.sortedAll_old) (Nat.le_succ _) ⟨hlen, _, ep, v1, he'⟩, rfl, q ys _ v2 (I.hok.fresh (Nat.le_succ _))⟩
end Gp
set_option Elab.async false
set_option linter.all false
set_option maxRecDepth 100000
set_option maxHeartbeats 4000000
namespace Gp
open PySem PySem.Spec PyProof.Rows L2 K62
/-! ### sorted(jobs, key=lambda job: (k1, job)) -/
/-- a tracked pair of whole numbers -/
def IsKey (H : Hp) (v : Value) (k : Int × Int) : Prop := ∃ t, v = .ref t ∧ H t = some (.tup [.int k.1, .int k.2])
theorem IsKey.reads {P : Program} {w : World} {H : Hp} {h : Heap} {v : Value} {k : Int × Int} (ok : HOk P w H h) (q : IsKey H v k) : ∃ as, Reads h v (.tuple [.int k.1, .int k.2]) as := by
  obtain ⟨t, rfl, ht⟩ := q
  obtain ⟨_, its, rr, o, ho, hcl, n, hd⟩ := ok _ _ ht
  match its, rr with
  | _, .cons r1 (.cons r2 .nil) =>
    obtain ⟨t1, rfl⟩ := r1
    obtain ⟨t2, rfl⟩ := r2
    exact ⟨_, .tuple ho hcl hd (.cons (.int _ _) (.cons (.int _ _) .nil))⟩
theorem IsKey.ext {H H' : Hp} {v : Value} {k : Int × Int} (q : IsKey H v k) (e : ∀ b xs, H b = some (.tup xs) → H' b = some (.tup xs)) : IsKey H' v k := by
  obtain ⟨t, rfl, ht⟩ := q
  exact ⟨t, rfl, e _ _ ht⟩
/-- an untracked object changes, new since h0 -/
theorem un_but {fs : List Addr} {H Hj : Hp} {h0 h h' : Heap} {a : Addr} (u : Un fs [] H Hj h0 h) (n : h0.get? a = none) (k : ∀ b o, b ≠ a → h.get? b = some o → h'.get? b = some o) : Un fs [] H Hj h0 h' := by
  have ne : ∀ b o, h0.get? b = some o → b ≠ a := fun b o e z => by rw [z, n] at e; cases e
  exact ⟨fun b o e hn hb hx => k b o (ne b o e) (u.keep b o e hn hb hx), fun b o e hn hb hx => let ⟨sl, q⟩ := u.slot b o e hn hb hx; ⟨sl, k b _ (ne b o e) q⟩, u.free, fun b o e hx => let ⟨o', q⟩ := u.there b o e hx; ⟨o', k b _ (ne b o e) q⟩, u.tups, u.frzs, u.tbls⟩
theorem hok_but {P : Program} {w : World} {H : Hp} {h h' : Heap} {a : Addr} (x : HOk P w H h) (n : H a = none) (k : ∀ b o, b ≠ a → h.get? b = some o → h'.get? b = some o) : HOk P w H h' := fun b u e => by
  refine (x b u e).stay (fun c v hc q => k c v ?_ q) (fun _ q => q) fun _ _ q => q
  rintro rfl
  rcases hc with rfl | hc
  · rw [n] at e; cases e
  · rw [n] at hc; cases hc
section
variable {X : Cx} {pins : List (Addr × Obj)} {σ : L2.St} {H : Hp} {s : Shared}
/-- the state between two keys -/
def KJ (X : Cx) (H : Hp) (s : Shared) (T : List (Addr × Str)) (a kS : Addr) (e1 : Nat) (kz : List (Int × Int)) (i : Nat) (sj : Shared) : Prop :=
  ∃ (Hj : Hp) (kA : Array Value) (e : Nat), sj.os = s.os ∧ AllBare sj.gens ∧ Un (frs X.stack) [] H Hj s.heap sj.heap ∧ HOk X.prog X.w Hj sj.heap ∧ Hj kS = none ∧ Hj a = none ∧ sj.heap.get? kS = some (seqObj "list" kA e) ∧ sj.heap.get? a = some (seqObj "list" #[] e1) ∧
    LamX.ExtN H Hj ∧ LamX.Tabs T Hj ∧ PySem.W.EachIs (IsKey Hj) kA.toList (kz.take i)
def encK (k : Int × Int) : PyData := .tuple [.int k.1, .int k.2]
theorem keyJ_rest {A : Around} {f : Value} {a kS : Addr} {e1 : Nat} {T : List (Addr × Str)} {kz : List (Int × Int)} {vs : List Value} {s0 : Shared} {P : PySem.Fin → Shared → Prop} {E : Value → Shared → Prop} (I : Inv X pins σ H s) (na : s.heap.get? a = none) (nk : s.heap.get? kS = none) (hka : kS ≠ a)
    (fa : a ∉ frs X.stack) (fk : kS ∉ frs X.stack) (h0 : KJ X H s T a kS e1 kz 0 s0) (hlen : kz.length = vs.length) (hZ : vs.length ≤ 1000) (hu : A.units + 8 < cLine)
    (turn : ∀ (i : Nat) (v : Value) (k : Int × Int), vs[i]? = some v → kz[i]? = some k → ∀ (Hj : Hp) (sj : Shared), Inv X pins σ Hj sj → Un (frs X.stack) [] H Hj s.heap sj.heap → LamX.ExtN H Hj → LamX.Tabs T Hj →
      wpAny (model X.prog X.w) A (call f [v]) (CE X.stack X.prog X.w Hj sj fun x H3 => LamX.ExtN Hj H3 ∧ LamX.Tabs T H3 ∧ ∃ t, x = .ref t ∧ H3 t = some (.tup [.int k.1, .int k.2])) (fun _ _ => False) sj)
    (h : ∀ (s' : Shared) (Hj : Hp) (out : List Value) (c : Nat), s'.os = s.os → AllBare s'.gens → Un (frs X.stack) [] H Hj s.heap s'.heap → HOk X.prog X.w Hj s'.heap → Hj a = none → s'.heap.get? a = some (seqObj "list" out.toArray c) → LamX.ExtN H Hj → LamX.Tabs T Hj →
      PySem.W.KeyedOut false (kz.map encK) vs out → P (.done (.ret .none)) s') :
    wpAny (model X.prog X.w) A (ksk_rest a f false vs.toArray e1 (.ref kS)) P E s0 := by
  have hZ' : vs.length ≤ sizeLine := by rw [sizeLine_eq]; omega
  unfold ksk_rest
  refine wpAny_bind (wpAny_rule ?_)
  first
    | rw [List.forIn_toArray]
    | (rw [← Array.forIn_toList]; simp only [List.toList_toArray])
    | rw [← Array.forIn_toList]
  refine wpAny_bind (ksk_fold (KJ X H s T a kS e1 kz) vs 0 s0 h0 ?step ?done)
  case step =>
    rintro j x sj hx ⟨Hj, kA, e, os, bare, un, hok, hk0, ha0, nk', na', eN, tT, hk⟩
    simp only [Nat.zero_add] at hk ⊢
    have hj : j < vs.length := (List.getElem?_eq_some_iff.mp hx).1
    obtain ⟨k, hkj⟩ : ∃ k, kz[j]? = some k := ⟨_, List.getElem?_eq_getElem (by omega)⟩
    have hz : kA.size ≤ vs.length := by
      have h1 := hk.length
      rw [Array.length_toList, List.length_take] at h1
      omega
    have J : Inv X pins σ Hj sj := I.call' os un hok bare (fun b z => absurd z (by simp))
    refine wpAny_bind (wpAny_attempt (wpAny_mono (turn j x k hx hkj Hj sj J un eN tT) (fun v s2 he => ?_) fun _ _ hF => hF.elim))
    obtain ⟨w, H2, os2, bare2, un2, hok2, rv, eN2, tT2, t, rfl, ht⟩ := he
    cases rv
    dsimp only
    have nk2 : s2.heap.get? kS = some (seqObj "list" kA e) := un2.keep _ _ nk' hk0 fk (by simp)
    have na2 : s2.heap.get? a = some (seqObj "list" #[] e1) := un2.keep _ _ na' ha0 fa (by simp)
    have hk2 : H2 kS = none := un2.free _ _ nk' hk0 (by simp)
    have ha2 : H2 a = none := un2.free _ _ na' ha0 (by simp)
    have s1 := Heap.SameBut.update s2.heap kS (Obj.mapSeq (·.push (Value.ref t)))
    obtain ⟨c2, hc2⟩ : ∃ c2, (s2.heap.update kS (Obj.mapSeq (·.push (Value.ref t)))).get? kS = some (seqObj "list" (kA.push (Value.ref t)) c2) := ⟨_, get?_update_seq nk2 (·.push (Value.ref t))⟩
    have ek : kz.take (j + 1) = kz.take j ++ [k] := by rw [List.take_add_one, hkj]; simp
    have ea : (kA.push (Value.ref t)).toList = kA.toList ++ [Value.ref t] := by simp
    refine wpAny_bind (listUpdate_at nk2 rfl ?_ (Nat.le_trans hz hZ') (Nat.le_trans (Nat.le_of_eq (Array.size_push ..)) (Nat.succ_le_succ (Nat.le_trans hz hZ'))))
    refine wpAny_pure ⟨rfl, H2, kA.push (Value.ref t), c2, os2.trans os, bare2, un_but (un.trans un2) nk (fun b o hb q => (s1.2 b hb).trans q), hok_but hok2 hk2 (fun b o hb q => (s1.2 b hb).trans q), hk2, ha2, hc2, (s1.2 a hka.symm).trans na2, eN.trans eN2, tT2, ?_⟩
    rw [ea, ek]
    exact PySem.W.each_snoc ⟨t, rfl, ht⟩ (hk.mono fun u d q => q.ext fun b xs z => un2.tups b xs z)
  case done =>
    rintro sj ⟨Hj, kA, e, os, bare, un, hok, hk0, ha0, nk', na', eN, tT, hk⟩
    have e3 : kz.take (0 + vs.length) = kz := List.take_of_length_le (by omega)
    rw [e3] at hk
    have each_map : ∀ {us : List Value} {ks : List (Int × Int)}, PySem.W.EachIs (IsKey Hj) us ks → PySem.W.EachIs (fun v d => ∃ as, Reads sj.heap v d as) us (ks.map encK) := by
      intro us ks q
      induction q with
      | nil => exact .nil
      | cons q _ ih => exact .cons (q.reads hok) ih
    have hk' := each_map hk
    have hsz : kA.size = vs.length := by
      have h1 := hk.length
      rw [Array.length_toList] at h1
      omega
    have hal : PySem.W.AllAlike (kz.map encK) := PySem.W.AllAlike.of (enc := encK) fun b b' => by
      show PySem.W.alike (.tuple ([b.1, b.2].map .int)) (.tuple ([b'.1, b'.2].map .int)) = true
      rw [PySem.W.alike]
      exact PySem.W.alike_ints _ _
    have hsk : PySem.W.Sortable (kz.map encK) := PySem.W.Sortable.tuples (enc := encK) fun b => ⟨_, _, rfl⟩
    have hud : ∀ d, d ∈ kz.map encK → A.units + d.depth < cLine := fun d hd => by
      obtain ⟨b, _, rfl⟩ := List.mem_map.mp hd
      have e : (encK b).depth = 1 := by
        show (PyData.tuple ([b.1, b.2].map .int)).depth = 1
        rw [PyData.depth, PySem.W.depth_ints]
      rw [e]; omega
    refine wpAny_bind (listItems_at nk' rfl ?_)
    refine PySem.W.keyH_end (κ := PySem.W.dataKind sj.heap (kz.map encK)) (h₁ := PySem.W.hideAll sj.heap [kS]) (fun b o _ q => PySem.W.of_hideAll _ q) (PySem.W.hideAll_none _ (.head _)) nk' na' hka (PySem.W.SortsAt.data (s := sj) hk' hal hsk hud) hsz hZ' fun h3 tk3 c k3 n3 => ?_
    have kp : ∀ b o, b ≠ a → b ≠ kS → sj.heap.get? b = some o → h3.get? b = some o := fun b o h1 h2 q => k3 b o h1 (PySem.W.hideAll_get _ q (by simpa using h2))
    have un' : Un (frs X.stack) [] H Hj s.heap h3 := by
      have ne : ∀ b o, s.heap.get? b = some o → b ≠ a ∧ b ≠ kS := fun b o q => ⟨fun z => by (rw [z, na] at q; cases q), fun z => by (rw [z, nk] at q; cases q)⟩
      exact ⟨fun b o q hn hb hx => kp b o (ne b o q).1 (ne b o q).2 (un.keep b o q hn hb hx), fun b o q hn hb hx => let ⟨sl, z⟩ := un.slot b o q hn hb hx; ⟨sl, kp b _ (ne b o q).1 (ne b o q).2 z⟩, un.free, fun b o q hx => let ⟨o', z⟩ := un.there b o q hx; ⟨o', kp b _ (ne b o q).1 (ne b o q).2 z⟩, un.tups, un.frzs, un.tbls⟩
    have hok' : HOk X.prog X.w Hj h3 := fun b u q => by
      refine (hok b u q).stay (fun c v hc z => kp c v ?_ ?_ z) (fun _ z => z) fun _ _ z => z
      · rintro rfl
        rcases hc with rfl | hc
        · rw [ha0] at q; cases q
        · rw [ha0] at hc; cases hc
      · rintro rfl
        rcases hc with rfl | hc
        · rw [hk0] at q; cases q
        · rw [hk0] at hc; cases hc
    exact h { sj with heap := h3, toks := tk3 } Hj _ c os bare un' hok' ha0 n3 eN tT ⟨sj.heap, kA.toList, hal, rfl, hk'⟩

/-- the sort on the new list a, its keys by f -/
theorem keyJ_tree {A : Around} {f : Value} {T : List (Addr × Str)} {kz : List (Int × Int)} {vs : List Value} {P : PySem.Fin → Shared → Prop} {E : Value → Shared → Prop} (I : Inv X pins σ H s) (hT : LamX.Tabs T H) (hlen : kz.length = vs.length) (hZ : vs.length ≤ 1000) (hu : A.units + 8 < cLine)
    (turn : ∀ (i : Nat) (v : Value) (k : Int × Int), vs[i]? = some v → kz[i]? = some k → ∀ (Hj : Hp) (sj : Shared), Inv X pins σ Hj sj → Un (frs X.stack) [] H Hj s.heap sj.heap → LamX.ExtN H Hj → LamX.Tabs T Hj →
      wpAny (model X.prog X.w) A (call f [v]) (CE X.stack X.prog X.w Hj sj fun x H3 => LamX.ExtN Hj H3 ∧ LamX.Tabs T H3 ∧ ∃ t, x = .ref t ∧ H3 t = some (.tup [.int k.1, .int k.2])) (fun _ _ => False) sj)
    (h : ∀ (s' : Shared) (Hj : Hp) (out : List Value) (c : Nat), s'.os = s.os → AllBare s'.gens → Un (frs X.stack) [] H Hj s.heap s'.heap → HOk X.prog X.w Hj s'.heap → Hj (s.heap.objs.size + 1) = none → s'.heap.get? (s.heap.objs.size + 1) = some (seqObj "list" out.toArray c) → LamX.ExtN H Hj → LamX.Tabs T Hj →
      PySem.W.KeyedOut false (kz.map encK) vs out → P (.done (.ret .none)) s') :
    wpAny (model X.prog X.w) A (ksk_tree (s.heap.objs.size + 1) f false) P E { s with heap := PySem.W.copyHeap s.heap vs } := by
  have hZ' : vs.length ≤ sizeLine := by rw [sizeLine_eq]; omega
  have ho := PySem.W.copyHeap_at s.heap vs
  have nofr : ∀ f, s.heap.objs.size ≤ f → f ∉ frs X.stack := fun f hf z => by
    rcases List.mem_cons.mp (I.stkSub _ z) with e | e
    · have h1 := I.lt
      rw [← e] at h1
      exact Nat.lt_irrefl _ (Nat.lt_of_lt_of_le h1 hf)
    · exact I.nofs hf e
  have hsz : (PySem.W.copyHeap s.heap vs).objs.size = s.heap.objs.size + 2 := by
    unfold PySem.W.copyHeap
    rw [size_push', Heap.size_update, size_push']
  obtain ⟨e1, ho1⟩ : ∃ e1, ((PySem.W.copyHeap s.heap vs).update (s.heap.objs.size + 1) (Obj.mapSeq fun _ => (#[] : Array Value))).get? (s.heap.objs.size + 1) = some (seqObj "list" #[] e1) := ⟨_, get?_update_seq ho fun _ => #[]⟩
  have hkS : (((PySem.W.copyHeap s.heap vs).update (s.heap.objs.size + 1) (Obj.mapSeq fun _ => (#[] : Array Value))).push (seqObj "tuple" vs.toArray 0)).objs.size = s.heap.objs.size + 3 := by rw [size_push', Heap.size_update, hsz]
  unfold ksk_tree
  refine wpAny_bind (listItems_at ho rfl ?_)
  refine wpAny_bind (listUpdate_at ho rfl ?_ (by rw [List.size_toArray]; exact hZ') (Nat.zero_le _))
  refine wpAny_bind (seqEpoch_at ho1 rfl ?_)
  refine wpAny_bind (wpAny_newTuple ?_ (by show vs.length ≤ _; exact hZ'))
  refine wpAny_bind (wpAny_newList ?_ (Nat.zero_le _))
  refine wpAny_holding ?_
  have old : ∀ b o, s.heap.get? b = some o → (((((PySem.W.copyHeap s.heap vs).update (s.heap.objs.size + 1) (Obj.mapSeq fun _ => (#[] : Array Value))).push (seqObj "tuple" vs.toArray 0)).push (seqObj "list" #[] 0))).get? b = some o := fun b o q => PySem.W.sorting_copy_old q
  have nA : s.heap.get? (s.heap.objs.size + 1) = none := Heap.get?_none_of_le (Nat.le_succ _)
  have nK : s.heap.get? (((PySem.W.copyHeap s.heap vs).update (s.heap.objs.size + 1) (Obj.mapSeq fun _ => (#[] : Array Value))).push (seqObj "tuple" vs.toArray 0)).objs.size = none := Heap.get?_none_of_le (by rw [hkS]; omega)
  refine keyJ_rest (kS := (((PySem.W.copyHeap s.heap vs).update (s.heap.objs.size + 1) (Obj.mapSeq fun _ => (#[] : Array Value))).push (seqObj "tuple" vs.toArray 0)).objs.size) I nA nK (by rw [hkS]; exact Nat.ne_of_gt (by omega)) (nofr _ (by omega)) (nofr _ (by rw [hkS]; exact Nat.le_add_right _ _))
    ⟨H, #[], 0, rfl, I.bare, Un.kept old, I.hok.kept old, I.hok.fresh (by rw [hkS]; exact Nat.le_add_right _ _), I.hok.fresh (Nat.le_succ _), Heap.get?_push_size _ rfl, Heap.get?_push_of_some _ (Heap.get?_push_of_some _ ho1), LamX.ExtN.refl H, hT, by rw [List.take_zero]; exact .nil⟩ hlen hZ hu turn h
end
/-- the reading of the sort: tb the reading of the lambda's body -/
def sortQ (T : List (Addr × Str)) (Nl : List Str) (js : List Nat) (tb : TE) (σ : L2.St) (Q : VK) (x : V) (H1 : Hp) : Prop := ∃ (a : Addr) (ns : List Nat) (k1 : Nat → Int), x = .ref a ∧ H1 a = some (.lst (ns.map fun (n : Nat) => V.int n)) ∧ ns.length ≤ 1000 ∧ LamX.Tabs T H1 ∧
  (∀ n ∈ ns, ∀ H2, LamX.ExtN H1 H2 → LamX.Tabs T H2 → tb (NdefX.startF Nl [.int (n : Int)] (js.map (NdefX.slotAt σ))) H2 fun v H3 => LamX.ExtN H2 H3 ∧ LamX.Tabs T H3 ∧ ∃ t, v = .ref t ∧ H3 t = some (.tup [.int (k1 n), .int (n : Int)])) ∧
  ∀ (H2 : Hp) (p : Addr), LamX.ExtN H1 H2 → LamX.Tabs T H2 → H2 p = none → Q (.ref p) (upd H2 p (.lst ((ns.mergeSort fun a b => decide (k1 a < k1 b ∨ (k1 a = k1 b ∧ (a : Int) ≤ (b : Int)))).map fun (n : Nat) => V.int n)))
def sortQ1 (T : List (Addr × Str)) (Nl : List Str) (js : List Nat) (tb : TE) (σ : L2.St) (Q : VK) : List V → Hp → Prop
  | [x], H1 => sortQ T Nl js tb σ Q x H1
  | _, _ => False
/-- the reading: sorted(e, key=lambda n: (k1 n, n)) -/
def tSortKey (T : List (Addr × Str)) (Nl : List Str) (js : List Nat) (t : TE) (tb : TE) : TE := fun σ H Q => t σ H fun x H1 => sortQ T Nl js tb σ Q x H1
section
variable {X : Cx}
theorem each_ns {xs : List V} {us : List Value} (r : Vals xs us) : ∀ {ns : List Nat}, xs = ns.map (fun (n : Nat) => V.int n) → PySem.W.EachIs (fun u (n : Nat) => RelV (.int (n : Int)) u) us ns := by
  induction r with
  | nil => intro ns e; cases ns with
    | nil => exact .nil
    | cons n ns => simp at e
  | cons q _ ih => intro ns e; cases ns with
    | nil => simp at e
    | cons n ns =>
      simp only [List.map_cons, List.cons.injEq] at e
      obtain ⟨rfl, e⟩ := e
      exact .cons q (ih e)
theorem each_ns_back : ∀ {us : List Value} {ns : List Nat}, PySem.W.EachIs (fun u (n : Nat) => RelV (.int (n : Int)) u) us ns → Vals (ns.map fun (n : Nat) => V.int n) us
  | _, _, .nil => .nil
  | _, _, .cons q t => .cons q (each_ns_back t)
theorem each_at : ∀ {us : List Value} {ns : List Nat}, PySem.W.EachIs (fun u (n : Nat) => RelV (.int (n : Int)) u) us ns → ∀ (i : Nat) v, us[i]? = some v → ∃ n, ns[i]? = some n ∧ RelV (.int (n : Int)) v
  | _, _, .nil, i, v, h => by simp at h
  | _, _, .cons q t, 0, v, h => by simp at h; subst h; exact ⟨_, rfl, q⟩
  | _, _, .cons q t, i + 1, v, h => each_at t i v (by simpa using h)
/-- sorted(e, key=lambda n: body) -/
theorem pe_sortKey {x pr : Str} {e : Expr} {t tb : TE} {T : List (Addr × Str)} {c P : Addr} {k : Nat} {params : Arguments} {body : Expr} {scope : Scope} {p kp lpos pos : Pos} {Nl fr : List Str} {js : List Nat} (hg : Gl X x) (hmx : X.mg x = none) (hv : bootBuiltins x = some (.builtin "sorted")) (ha : PA X [e] (tCons t tNil))
    (TB : LamX.TabB X.base X.mg c P) (hcode : X.env.code = .ref c) (hmT : (P, X.env.qual ++ "<lambda>") ∈ T) (huT : ∀ p ∈ T, p.1 = P → p.2 = X.env.qual ++ "<lambda>") (hr : Room (k + 4) X.A) (S : NdefX.NScope Nl [pr] fr scope) (hdef : defaultsOf params X.env = ([], []))
    (hfree : ∀ y ∈ scope.names, y.2 = .free → X.env.scope.names.lookup y.1 = some .cell ∨ X.env.scope.names.lookup y.1 = some .free) (hfr : ∀ y ∈ fr, (y, NameKind.free) ∈ scope.names) (hjs : js.map (fun j => X.N[j]?) = fr.map some)
    (hbind : ∀ (q : Str) (cl : List (Str × Addr)) (pm cv ctv : Value) (u : Value), bindArgs (PySem.W.kla_fn "<lambda>" q params body scope cl pm cv ctv) ⟨[u], []⟩ = pure ([pr].zip [u]))
    (hbody : ∀ (A : Around) (outer : List Env) (s : Shared) (H : Hp) (F : NdefX.NF) (f : Addr), F.scope = scope → Room k (A.deeper (NdefX.envF F f s.heap.objs.size)) → PE (NdefX.ncx C8.CX0 X.prog X.w X.K X.mg X.base Nl F f A outer s H C8.E0) body tb)
    (hn : x ≠ "__name__" := by decide) (hdb : (x == ("__debug__" : Str)) = false := by decide)
    (hst : backTo pos (starEach [e] X.env) = (false, eval e X.env) :: backTo pos (starEach [] X.env) := by rfl) (hpl : (backTo pos (starEach [e] X.env)).any (·.1) = false := by rfl) :
    PE X (.Call (.Name x p) [e] [⟨some "key", .Lambda params body scope lpos, kp⟩] pos) (tSortKey T Nl js t tb) := by
  refine ⟨fun pins s σ H Q I h => ?_⟩
  refine wpAny_Call_Name_kw (ld_blt I hg hmx hv ?_ hn hdb)
  refine PyProof.Rows.callWith_kw (thn (ha.run pos pins s σ H (sortQ1 T Nl js tb σ Q) I h) fun us s1 ⟨vs, H1, I1, r1, q1⟩ => ?_) hst hpl rfl rfl
  match vs, r1, q1 with
  | [], _, q1 => exact q1.elim
  | _ :: _ :: _, _, q1 => exact q1.elim
  | [x], r1, q1 =>
  obtain ⟨a, ns, k1, rfl, hl, hz, hT, hk, q⟩ := q1
  obtain rfl := Vals.ref1 r1
  refine PyProof.Rows.kwAll_cons (LamX.lam_make2 I1 TB hcode hmT huT hT hdef (fun y hy e => (hfree y hy e).elim (fun z => I1.ok.has _ (.inl z)) fun z => I1.ok.has _ (.inr z)) fun f c' pm ctv H2 s2 I2 eN tT hf hfn hff hco => PyProof.Rows.kwAll_nil ?_)
  have hl2 : H2 a = some (.lst (ns.map fun (n : Nat) => V.int n)) := eN _ _ hl (fun ps z => by cases z)
  obtain ⟨hzz, its, n0, rv, hob⟩ := I2.hok a _ hl2
  have hea := each_ns rv rfl
  have hle : its.length = ns.length := hea.length
  show wpAny _ _ (call (.builtin "sorted") [.ref a] [(Str.ofString "key", .ref f)]) _ _ s2
  refine PySem.W.sorted_of_sort (vs := its) ⟨_, hob, rfl, _, rfl⟩ (by rw [sizeLine_eq]; omega) (ksk_s1 _ _) (fun _ => ksk_l1 _ _) fun E' => ?_
  rw [ksk_t1]
  have r2 : Room (k + 2) X.A.in1.in1 := hr.in1.in1
  refine keyJ_tree (kz := ns.map fun n => (k1 n, (n : Int))) I2 tT (by rw [List.length_map]; exact hle.symm) (by omega) (by have := r2.un; omega) (fun i v kk hv hkk Hj sj J un eJ tJ => ?_) fun s' Hj out c0 os bare un hok ha0 hat eJ tJ ko => ⟨rfl, ?_⟩
  · obtain ⟨n, hn1, rn⟩ := each_at hea i v hv
    rw [List.getElem?_map, hn1] at hkk
    cases hkk
    have hm : n ∈ ns := List.mem_of_getElem? hn1
    obtain ⟨t0, rfl⟩ := rn
    have of1 := un.keep f _ hf hfn hff (by simp)
    have cO := eJ _ _ hco LamX.codeO_ne
    obtain ⟨⟨oc, vs', t', hoc, hdc, hvc⟩, _, _⟩ := J.hok c' _ cO
    have lim : sj.heap.NoLimit := J.nolimit
    let F : NdefX.NF := ⟨"<lambda>", X.env.qual ++ "<lambda>", params, [], scope, cloFrom X.env.cells scope.names [], c'⟩
    have caps : NdefX.Caps X F.cl fr js := NdefX.Caps.made J.ok hfree hfr hjs
    have C := NdefX.cells_of J caps
    have e0 : Env0 X.prog X.w X.K X.mg X.base X.A.in1.in1 X.stack sj Hj := J.env0.in1.in1
    have rc : codeAny (model X.prog X.w) X.A.in1.in1 (.call (.ref f) ⟨[.int n t0], []⟩) (CR C8.CX0 X.stack X.prog X.w Hj sj (fun x H3 => LamX.ExtN Hj H3 ∧ LamX.Tabs T H3 ∧ ∃ t, x = .ref t ∧ H3 t = some (.tup [.int (k1 n), .int (n : Int)])) C8.E0) sj := by
      refine PySem.W.kla_callFunE r2.depth of1 rfl S.co S.gen rfl ⟨c', oc, vs', t', rfl, hoc, hdc, hvc⟩ ?_
      rw [hbind]
      refine wpAny_pure (wpAny_newFunctionEnv S.nocell (fun ⟨n, _⟩ hy => S.par n (List.of_mem_zip hy).1) (fun h₁ hns hsb => ⟨lim.fresh _ hsb, ?_⟩) S.kind)
      show codeAny _ _ (.expr body (NdefX.envF F f sj.heap.objs.size)) _ _
      have kp : ∀ b o, sj.heap.get? b = some o → h₁.get? b = some o := fun b o e => hsb.extBut b o (Nat.ne_of_lt (Heap.lt_size e)) (Heap.get?_push_of_some _ e)
      have JJ : Inv (NdefX.ncx C8.CX0 X.prog X.w X.K X.mg X.base Nl F f X.A.in1.in1 X.stack sj Hj C8.E0) [] (NdefX.startF Nl [.int (n : Int)] (js.map (NdefX.slotAt σ))) Hj { sj with heap := h₁, toks := sj.toks + ([pr].zip [Value.int n t0]).length } :=
        NdefX.inv_startN S r2.hd e0 rfl (.cons ⟨t0, rfl⟩ .nil) C hns kp
      refine PySem.W.kla_codeExpr (wpAny_mono ((hbody X.A.in1.in1 X.stack sj Hj F f rfl ((r2.mono (Nat.le_succ _)).deeper _)).run [] _ _ Hj _ JJ (hk n hm Hj (eN.trans eJ) tJ)) (fun v s' hq => ?_) fun e s' hq => hq)
      obtain ⟨w', H', J', rv, q⟩ := hq
      exact ⟨w', H', J'.os, J'.bare, J'.base, J'.hok, rv, q⟩
    refine wpAny_call (codeAny_mono rc fun r s' hq => ?_)
    cases r with
    | error e => exact (show False from hq).elim
    | ok fl =>
      cases fl with
      | ret u => exact hq
      | next => exact False.elim hq
      | brk => exact False.elim hq
      | cont => exact False.elim hq
  · have ez : (ns.map fun n => (k1 n, (n : Int))).map encK = ns.map fun n => PyData.tuple [.int (k1 n), .int (n : Int)] := by rw [List.map_map]; rfl
    rw [ez] at ko
    have he := PySem.W.keyedOut_each (fun (n : Nat) => PyData.tuple [.int (k1 n), .int (n : Int)]) ko hea
    have eo : PySem.W.dataLe false (fun (n : Nat) => PyData.tuple [.int (k1 n), .int (n : Int)]) = fun a b => decide (k1 a < k1 b ∨ (k1 a = k1 b ∧ (a : Int) ≤ (b : Int))) := PySem.W.dataLe_ii _ _
    rw [eo] at he
    have hv' := each_ns_back he
    have un' : Un (frs X.stack) [] H2 (upd Hj (s2.heap.objs.size + 1) (.lst ((ns.mergeSort fun a b => decide (k1 a < k1 b ∨ (k1 a = k1 b ∧ (a : Int) ≤ (b : Int)))).map fun (n : Nat) => V.int n))) s2.heap s'.heap := by
      have ne : ∀ b o, s2.heap.get? b = some o → b ≠ s2.heap.objs.size + 1 := fun b o q => Nat.ne_of_lt (Nat.lt_succ_of_lt (Heap.lt_size q))
      exact ⟨un.keep, un.slot, fun b o q hn hx => by rw [upd_ne (ne b o q)]; exact un.free b o q hn hx, un.there, fun b xs q => by (rw [upd_ne (ne_of_none (un.tups b xs q) ha0)]; exact un.tups b xs q), fun b o u q => by (rw [upd_ne (ne_of_none (un.frzs b o u q) ha0)]; exact un.frzs b o u q),
        fun b ps q => let ⟨m, z⟩ := un.tbls b ps q; ⟨m, by rw [upd_ne (ne_of_none z ha0)]; exact z⟩⟩
    have hok' : HOk X.prog X.w (upd Hj (s2.heap.objs.size + 1) (.lst ((ns.mergeSort fun a b => decide (k1 a < k1 b ∨ (k1 a = k1 b ∧ (a : Int) ≤ (b : Int)))).map fun (n : Nat) => V.int n))) s'.heap := fun b u e => by
      by_cases hb : b = s2.heap.objs.size + 1
      · subst hb
        rw [upd_same] at e
        cases e
        refine ⟨?_, out, c0, hv', hat⟩
        have := List.length_mergeSort (le := fun a b => decide (k1 a < k1 b ∨ (k1 a = k1 b ∧ (a : Int) ≤ (b : Int)))) ns
        rw [List.length_map, this]
        rw [List.length_map] at hzz
        exact hzz
      · rw [upd_ne hb] at e
        exact (hok b u e).stay (fun _ _ _ q => q) (fun c q => by rw [upd_ne (ne_of_none q ha0)]; exact q) fun c xs q => by rw [upd_ne (ne_of_none q ha0)]; exact q
    exact ⟨.ref _, _, I2.call' os un' hok' bare (fun b z => absurd z (by simp)), rfl, q Hj _ (eN.trans eJ) tJ ha0⟩
end
end Gp
set_option Elab.async false
set_option linter.all false
set_option maxRecDepth 100000
set_option maxHeartbeats 1000000
set_option autoImplicit false
namespace DW
open PySem L2 K62
/-! ### data -/
inductive D where
  | no | bl (b : Bool) | int (i : Int) | str (s : Str) | tup (ds : List D) | lst (ds : List D) | task (u w g : D) | heap
  deriving Inhabited
/-- what a slot holds: a datum, a list of its own, a dict of its own (pairs of whole numbers to whole numbers) -/
inductive SV where
  | d (x : D) | l (ds : List D) | m (kvs : List ((Int × Int) × Int)) | z (a : Addr) (kvs : List ((Int × Int) × Int)) | r (K : PySem.W.Frag) (a : Addr) (ns : List Int)
abbrev Ga := List (Option SV)
structure Cst where
  C : Addr
  T : List (Addr × Str)
/-- what data must not hold (av), what may change (W: own lists; hp: the heap of the draws) -/
structure Gh where
  av : Addr → Prop
  W : Addr → Prop
  hp : Option (Addr × Addr)
def Gh.hpA (G : Gh) (a : Addr) : Prop := ∃ hh l, G.hp = some (hh, l) ∧ (a = hh ∨ a = l)
mutual
inductive Im (c : Cst) (G : Gh) (H : Hp) : D → V → Prop
  | no : Im c G H .no .non
  | bl {b : Bool} : Im c G H (.bl b) (.bl b)
  | int {i : Int} : Im c G H (.int i) (.int i)
  | str {s : Str} : Im c G H (.str s) (.str s)
  | tup {a : Addr} {xs : List V} {ds : List D} : H a = some (.tup xs) → Ims c G H ds xs → Im c G H (.tup ds) (.ref a)
  | lst {a : Addr} {xs : List V} {ds : List D} : Rd H a (.lst xs) → ¬ G.av a → Ims c G H ds xs → Im c G H (.lst ds) (.ref a)
  | task {a dx : Addr} {u w g : D} {x y z : V} : H a = some (.ins c.C dx [("unknowns", x), ("wishes", y), ("goal", z)]) → Im c G H u x → Im c G H w y → Im c G H g z → Im c G H (.task u w g) (.ref a)
  | heap {hh l : Addr} : G.hp = some (hh, l) → Im c G H .heap (.ref hh)
inductive Ims (c : Cst) (G : Gh) (H : Hp) : List D → List V → Prop
  | nil : Ims c G H [] []
  | cons {d : D} {v : V} {ds : List D} {vs : List V} : Im c G H d v → Ims c G H ds vs → Ims c G H (d :: ds) (v :: vs)
end
def isTb (o : HO) : Prop := ∃ ps, o = .tbl ps
def isMt (o : HO) : Prop := (∃ xs, o = .lst xs) ∨ (∃ kvs, o = .dT kvs) ∨ ∃ φ, o = .ext φ
/-- no object of H but a table -/
def nT (H : Hp) (a : Addr) : Prop := ∀ o, H a = some o → isTb o
structure Ch (c : Cst) (M : Addr → Prop) (H H' : Hp) : Prop where
  keep : ∀ a o, H a = some o → ¬ isTb o → (M a → ¬ isMt o) → H' a = some o
  dom : ∀ a o, H a = some o → ¬ isTb o → ∃ o', H' a = some o' ∧ ¬ isTb o'
  tabs : LamX.Tabs c.T H → LamX.Tabs c.T H'
def HpOK (G : Gh) (H : Hp) : Prop := ∀ hh l, G.hp = some (hh, l) → hh ≠ l ∧ ∃ (cs : List Int) (st : Int), H hh = some (.lst [.ref l, .int st]) ∧ H l = some (.lst (cs.map .int)) ∧ 0 ≤ st ∧ (∀ x ∈ cs, 0 ≤ x) ∧ cs.length ≤ 60
structure Le (c : Cst) (G : Gh) (H : Hp) (G' : Gh) (H' : Hp) : Prop where
  hp : G'.hp = G.hp
  av : ∀ a, G.av a → G'.av a
  avn : ∀ a, G'.av a → G.av a ∨ nT H a
  W : ∀ a, G.W a → G'.W a
  Wn : ∀ a, G'.W a → G.W a ∨ nT H a
  ch : Ch c (fun a => G.W a ∨ G.hpA a) H H'
  hok : HpOK G H → HpOK G' H'
structure Ex (c : Cst) (G : Gh) (H H' : Hp) : Prop where
  ch : Ch c G.hpA H H'
  hok : HpOK G H → HpOK G H'
theorem nb_lst {xs : List V} : ¬ isTb (.lst xs) := fun ⟨_, e⟩ => by cases e
theorem nb_tup {xs : List V} : ¬ isTb (.tup xs) := fun ⟨_, e⟩ => by cases e
theorem nb_ins {C dx : Addr} {fs : List (Str × V)} : ¬ isTb (.ins C dx fs) := fun ⟨_, e⟩ => by cases e
theorem nb_frz {o : Obj} {u : HO} : ¬ isTb (.frz o u) := fun ⟨_, e⟩ => by cases e
theorem nb_dT {kvs : List (List Key × V)} : ¬ isTb (.dT kvs) := fun ⟨_, e⟩ => by cases e
theorem nm_tup {xs : List V} : ¬ isMt (.tup xs) := fun h => by rcases h with ⟨_, e⟩ | ⟨_, e⟩ | ⟨_, e⟩ <;> cases e
theorem nm_ins {C dx : Addr} {fs : List (Str × V)} : ¬ isMt (.ins C dx fs) := fun h => by rcases h with ⟨_, e⟩ | ⟨_, e⟩ | ⟨_, e⟩ <;> cases e
theorem nm_frz {o : Obj} {u : HO} : ¬ isMt (.frz o u) := fun h => by rcases h with ⟨_, e⟩ | ⟨_, e⟩ | ⟨_, e⟩ <;> cases e
section
variable {c : Cst} {G G' G'' : Gh} {H H' H'' : Hp} {M : Addr → Prop}
theorem Ch.refl : Ch c M H H := ⟨fun _ _ e _ _ => e, fun _ o e n => ⟨o, e, n⟩, id⟩
theorem Ch.trans (a : Ch c M H H') (b : Ch c M H' H'') : Ch c M H H'' :=
  ⟨fun x o e n m => b.keep x o (a.keep x o e n m) n m, fun x o e n => let ⟨o', e', n'⟩ := a.dom x o e n; b.dom x o' e' n', fun t => b.tabs (a.tabs t)⟩
theorem Ch.mono {M' : Addr → Prop} (a : Ch c M H H') (h : ∀ x, M x → M' x) : Ch c M' H H' := ⟨fun x o e n m => a.keep x o e n fun z => m (h x z), a.dom, a.tabs⟩
theorem Ch.of (e : ∀ b o, H b = some o → H' b = some o) : Ch c M H H' := ⟨fun x o q _ _ => e x o q, fun x o q n => ⟨o, e x o q, n⟩, fun t => t.ext e⟩
theorem Ch.nT_back (a : Ch c M H H') {x : Addr} (h : nT H' x) : nT H x := fun o e => Classical.byContradiction fun n => by
  obtain ⟨o', e', n'⟩ := a.dom x o e n
  exact n' (h o' e')
theorem HpOK.of (e : ∀ b o, H b = some o → H' b = some o) (h : HpOK G H) : HpOK G H' := fun hh l q => by
  obtain ⟨h1, cs, st, h2, h3, h4⟩ := h hh l q
  exact ⟨h1, cs, st, e _ _ h2, e _ _ h3, h4⟩
theorem Ex.refl : Ex c G H H := ⟨Ch.refl, id⟩
theorem Ex.trans (a : Ex c G H H') (b : Ex c G H' H'') : Ex c G H H'' := ⟨a.ch.trans b.ch, fun h => b.hok (a.hok h)⟩
theorem Ex.of (e : ∀ b o, H b = some o → H' b = some o) : Ex c G H H' := ⟨Ch.of e, HpOK.of e⟩
theorem Ex.new {p : Addr} {o : HO} (h : H p = none) : Ex c G H (upd H p o) := Ex.of fun b u e => by
  rw [upd_ne (ne_of_none e h)]
  exact e
theorem Ex.le (a : Ex c G H H') : Le c G H G H' := ⟨rfl, fun _ h => h, fun _ h => .inl h, fun _ h => h, fun _ h => .inl h, a.ch.mono fun _ h => .inr h, a.hok⟩
theorem Le.refl : Le c G H G H := Ex.refl.le
theorem Le.trans (a : Le c G H G' H') (b : Le c G' H' G'' H'') : Le c G H G'' H'' where
  hp := b.hp.trans a.hp
  av := fun x h => b.av x (a.av x h)
  avn := fun x h => (b.avn x h).elim (a.avn x) fun n => .inr (a.ch.nT_back n)
  W := fun x h => b.W x (a.W x h)
  Wn := fun x h => (b.Wn x h).elim (a.Wn x) fun n => .inr (a.ch.nT_back n)
  ch := by
    refine ⟨fun x o e n m => ?_, fun x o e n => let ⟨o', e', n'⟩ := a.ch.dom x o e n; b.ch.dom x o' e' n', fun t => b.ch.tabs (a.ch.tabs t)⟩
    refine b.ch.keep x o (a.ch.keep x o e n m) n fun z => ?_
    rcases z with z | ⟨hh, l, q, z⟩
    · rcases a.Wn x z with z | z
      · exact m (.inl z)
      · exact absurd (z o e) n
    · exact m (.inr ⟨hh, l, by rw [← a.hp]; exact q, z⟩)
  hok := fun h => b.hok (a.hok h)
theorem Rd.le (L : Le c G H G' H') {a : Addr} {xs : List V} (h : Rd H a (.lst xs)) (n : ¬ (G.W a ∨ G.hpA a)) : Rd H' a (.lst xs) := by
  rcases h with h | ⟨o, h⟩
  · exact .inl (L.ch.keep _ _ h nb_lst fun z => absurd z n)
  · exact .inr ⟨o, L.ch.keep _ _ h nb_frz fun _ => nm_frz⟩
/-- the addresses that may change are avoided -/
structure Sub (G : Gh) : Prop where
  W : ∀ a, G.W a → G.av a
  hp : ∀ a, G.hpA a → G.av a ∧ ¬ G.W a
theorem rd_nT {a : Addr} {xs : List V} (h : Rd H a (.lst xs)) : ¬ nT H a := fun n => by
  rcases h with h | ⟨o, h⟩
  · exact nb_lst (n _ h)
  · exact nb_frz (n _ h)
mutual
theorem Im.le (L : Le c G H G' H') (S : Sub G) : ∀ (d : D) (v : V), Im c G H d v → Im c G' H' d v
  | .no, _, h => by cases h; exact .no
  | .bl _, _, h => by cases h; exact .bl
  | .int _, _, h => by cases h; exact .int
  | .str _, _, h => by cases h; exact .str
  | .tup ds, _, h => by
    cases h with
    | tup e q => exact .tup (L.ch.keep _ _ e nb_tup fun _ => nm_tup) (Ims.le L S ds _ q)
  | .lst ds, _, h => by
    cases h with
    | lst e n q =>
      refine .lst (Rd.le L e fun z => z.elim (fun z => n (S.W _ z)) fun z => n (S.hp _ z).1) (fun z => ?_) (Ims.le L S ds _ q)
      exact (L.avn _ z).elim n (rd_nT e)
  | .task u w g, _, h => by
    cases h with
    | task e q1 q2 q3 => exact .task (L.ch.keep _ _ e nb_ins fun _ => nm_ins) (Im.le L S u _ q1) (Im.le L S w _ q2) (Im.le L S g _ q3)
  | .heap, _, h => by
    cases h with
    | heap e => exact .heap (L.hp.trans e)
theorem Ims.le (L : Le c G H G' H') (S : Sub G) : ∀ (ds : List D) (vs : List V), Ims c G H ds vs → Ims c G' H' ds vs
  | [], _, h => by cases h; exact .nil
  | d :: ds, _, h => by
    cases h with
    | cons q r => exact .cons (Im.le L S d _ q) (Ims.le L S ds _ r)
end
mutual
/-- fewer addresses avoided -/
theorem Im.less (hp : G'.hp = G.hp) (h1 : ∀ a, G'.av a → G.av a) : ∀ (d : D) (v : V), Im c G H d v → Im c G' H d v
  | .no, _, h => by cases h; exact .no
  | .bl _, _, h => by cases h; exact .bl
  | .int _, _, h => by cases h; exact .int
  | .str _, _, h => by cases h; exact .str
  | .tup ds, _, h => by
    cases h with
    | tup e q => exact .tup e (Ims.less hp h1 ds _ q)
  | .lst ds, _, h => by
    cases h with
    | lst e n q => exact .lst e (fun z => n (h1 _ z)) (Ims.less hp h1 ds _ q)
  | .task u w g, _, h => by
    cases h with
    | task e q1 q2 q3 => exact .task e (Im.less hp h1 u _ q1) (Im.less hp h1 w _ q2) (Im.less hp h1 g _ q3)
  | .heap, _, h => by
    cases h with
    | heap e => exact .heap (hp.trans e)
theorem Ims.less (hp : G'.hp = G.hp) (h1 : ∀ a, G'.av a → G.av a) : ∀ (ds : List D) (vs : List V), Ims c G H ds vs → Ims c G' H ds vs
  | [], _, h => by cases h; exact .nil
  | d :: ds, _, h => by
    cases h with
    | cons q r => exact .cons (Im.less hp h1 d _ q) (Ims.less hp h1 ds _ r)
end
theorem Ims.length : ∀ {ds : List D} {vs : List V}, Ims c G H ds vs → vs.length = ds.length
  | [], _, h => by cases h; rfl
  | _ :: _, _, h => by
    cases h with
    | cons q r => exact congrArg (· + 1) (Ims.length r)
theorem Ims.get : ∀ {ds : List D} {vs : List V} {i : Nat} {d : D}, Ims c G H ds vs → ds[i]? = some d → ∃ v, vs[i]? = some v ∧ Im c G H d v
  | [], _, _, _, _, e => by simp at e
  | _ :: _, _, 0, _, h, e => by
    cases h with
    | cons q r => simp at e; subst e; exact ⟨_, rfl, q⟩
  | _ :: _, _, i + 1, _, h, e => by
    cases h with
    | cons q r => obtain ⟨v, h1, h2⟩ := Ims.get r (i := i) (by simpa using e); exact ⟨v, by simpa using h1, h2⟩
theorem Ims.get' : ∀ {ds : List D} {vs : List V} {i : Nat} {v : V}, Ims c G H ds vs → vs[i]? = some v → ∃ d, ds[i]? = some d ∧ Im c G H d v := fun {ds vs i v} h e => by
  have hl := h.length
  have hi : i < vs.length := (List.getElem?_eq_some_iff.mp e).1
  obtain ⟨v', h1, h2⟩ := h.get (List.getElem?_eq_getElem (l := ds) (by omega : i < ds.length))
  rw [e] at h1
  cases h1
  exact ⟨_, List.getElem?_eq_getElem (by omega), h2⟩
theorem Ims.append : ∀ {ds es : List D} {vs us : List V}, Ims c G H ds vs → Ims c G H es us → Ims c G H (ds ++ es) (vs ++ us)
  | [], _, _, _, h, k => by cases h; exact k
  | _ :: _, _, _, _, h, k => by
    cases h with
    | cons q r => exact .cons q (Ims.append r k)
theorem Ims.one {d : D} {v : V} (h : Im c G H d v) : Ims c G H [d] [v] := .cons h .nil
theorem Ims.ints : ∀ {ns : List Int} {vs : List V}, Ims c G H (ns.map .int) vs → vs = ns.map .int
  | [], _, h => by cases h; rfl
  | _ :: _, _, h => by
    cases h with
    | cons q r => cases q; rw [Ims.ints r]; rfl
theorem Ims.ofInts : ∀ {ns : List Int}, Ims c G H (ns.map .int) (ns.map .int)
  | [] => .nil
  | _ :: _ => .cons .int Ims.ofInts
theorem Ims.bls : ∀ {ns : List Bool} {vs : List V}, Ims c G H (ns.map .bl) vs → vs = ns.map .bl
  | [], _, h => by cases h; rfl
  | _ :: _, _, h => by
    cases h with
    | cons q r => cases q; rw [Ims.bls r]; rfl
end
/-! ### slots -/
def kOf (p : Int × Int) : List Key := [.inl p.1, .inl p.2]
def SVok (c : Cst) (G : Gh) (H : Hp) : SV → V → Prop
  | .d x, v => Im c G H x v
  | .l ds, v => ∃ a xs, v = .ref a ∧ G.W a ∧ H a = some (.lst xs) ∧ Ims c G H ds xs
  | .m kvs, v => ∃ a, v = .ref a ∧ G.W a ∧ H a = some (.dT (kvs.map fun p => (kOf p.1, V.int p.2)))
  | .z a kvs, v => ∃ od, v = .ref a ∧ H a = some (.frz od (.dT (kvs.map fun p => (kOf p.1, V.int p.2))))
  | .r K a ns, v => v = .ref a ∧ ((Rd H a (.lst (ns.map V.int)) ∧ ¬ G.av a) ∨ ∀ H' : Hp, SqL K H' a (ns.map V.int))
def isOwn : SV → Prop
  | .d _ => False
  | .z _ _ => False
  | .r _ _ _ => False
  | _ => True
structure OkG (c : Cst) (G : Gh) (H : Hp) : Prop where
  sub : Sub G
  tabs : LamX.Tabs c.T H
  hok : HpOK G H
  dom : ∀ a, G.av a → ¬ nT H a
theorem OkG.ex {c : Cst} {G : Gh} {H H' : Hp} (S : OkG c G H) (e : Ex c G H H') : OkG c G H' := ⟨S.sub, e.ch.tabs S.tabs, e.hok S.hok, fun a h n => S.dom a h (e.ch.nT_back n)⟩
theorem OkG.new {c : Cst} {G : Gh} {H : Hp} (S : OkG c G H) {p : Addr} (h : nT H p) : ¬ G.av p := fun z => S.dom p z h
structure SO (c : Cst) (G : Gh) (γ : Ga) (σ : L2.St) (H : Hp) : Prop where
  len : σ.length = γ.length
  sl : ∀ (i : Nat) (s : SV), γ[i]? = some (some s) → ∃ v, σ[i]? = some (some v) ∧ SVok c G H s v
  dist : ∀ (i j : Nat) (s t : SV) (a : Addr), γ[i]? = some (some s) → γ[j]? = some (some t) → isOwn s → isOwn t → σ[i]? = some (some (.ref a)) → σ[j]? = some (some (.ref a)) → i = j
  ok : OkG c G H
section
variable {c : Cst} {G G' : Gh} {H H' : Hp} {γ : Ga} {σ : L2.St}
theorem SO.sub (S : SO c G γ σ H) : Sub G := S.ok.sub
theorem SO.hok (S : SO c G γ σ H) : HpOK G H := S.ok.hok
theorem SVok.ex (S : Sub G) (e : Ex c G H H') {s : SV} {v : V} (h : SVok c G H s v) : SVok c G H' s v := by
  cases s with
  | d x => exact Im.le e.le S x v h
  | l ds =>
    obtain ⟨a, xs, h1, h2, h3, h4⟩ := h
    exact ⟨a, xs, h1, h2, e.ch.keep _ _ h3 nb_lst fun z => absurd h2 (S.hp _ z).2, Ims.le e.le S _ _ h4⟩
  | m kvs =>
    obtain ⟨a, h1, h2, h3⟩ := h
    exact ⟨a, h1, h2, e.ch.keep _ _ h3 nb_dT fun z => absurd h2 (S.hp _ z).2⟩
  | z a kvs =>
    obtain ⟨od, h1, h2⟩ := h
    exact ⟨od, h1, e.ch.keep _ _ h2 nb_frz fun _ => nm_frz⟩
  | r K a ns =>
    exact ⟨h.1, h.2.imp_left fun z => ⟨Rd.le e.le z.1 fun w => w.elim (fun w => z.2 (S.W _ w)) fun w => z.2 (S.hp _ w).1, z.2⟩⟩
theorem SO.ex (S : SO c G γ σ H) (e : Ex c G H H') : SO c G γ σ H' :=
  ⟨S.len, fun i s h => let ⟨v, h1, h2⟩ := S.sl i s h; ⟨v, h1, h2.ex S.sub e⟩, S.dist, S.ok.ex e⟩
theorem get_set {α : Type} {l : List α} {i j : Nat} {x y : α} (h : (l.set j x)[i]? = some y) : (i = j ∧ y = x ∧ j < l.length) ∨ (i ≠ j ∧ l[i]? = some y) := by
  by_cases e : i = j
  · subst e
    rw [List.getElem?_set] at h
    simp at h
    exact .inl ⟨rfl, h.2.symm, h.1⟩
  · rw [List.getElem?_set_ne (Ne.symm e)] at h
    exact .inr ⟨e, h⟩
theorem set_get {α : Type} {l : List α} {j : Nat} {x : α} (h : j < l.length) : (l.set j x)[j]? = some x := by
  rw [List.getElem?_set_self h]
/-- a datum into a slot -/
theorem SO.set (S : SO c G γ σ H) {j : Nat} {x : D} {v : V} (h : Im c G H x v) : SO c G (γ.set j (some (.d x))) (σ.set j (some v)) H := by
  refine ⟨by rw [List.length_set, List.length_set]; exact S.len, fun i s e => ?_, fun i k s t a e1 e2 o1 o2 q1 q2 => ?_, S.ok⟩
  · rcases get_set e with ⟨rfl, e', hl⟩ | ⟨n, e'⟩
    · cases e'
      exact ⟨v, set_get (by rw [S.len]; exact hl), h⟩
    · obtain ⟨u, h1, h2⟩ := S.sl i s e'
      exact ⟨u, by rw [List.getElem?_set_ne (Ne.symm n)]; exact h1, h2⟩
  · rcases get_set e1 with ⟨rfl, e', hl⟩ | ⟨n1, e1⟩
    · cases e'; exact o1.elim
    rcases get_set e2 with ⟨rfl, e', hl⟩ | ⟨n2, e2⟩
    · cases e'; exact o2.elim
    rw [List.getElem?_set_ne (Ne.symm n1)] at q1
    rw [List.getElem?_set_ne (Ne.symm n2)] at q2
    exact S.dist i k s t a e1 e2 o1 o2 q1 q2
/-- a slot forgotten -/
theorem SO.forget (S : SO c G γ σ H) {j : Nat} : SO c G (γ.set j Option.none) (σ.set j Option.none) H := by
  refine ⟨by rw [List.length_set, List.length_set]; exact S.len, fun i s e => ?_, fun i k s t a e1 e2 o1 o2 q1 q2 => ?_, S.ok⟩
  · rcases get_set e with ⟨rfl, e', hl⟩ | ⟨n, e'⟩
    · cases e'
    · obtain ⟨u, h1, h2⟩ := S.sl i s e'
      exact ⟨u, by rw [List.getElem?_set_ne (Ne.symm n)]; exact h1, h2⟩
  · rcases get_set e1 with ⟨rfl, e', hl⟩ | ⟨n1, e1⟩
    · cases e'
    rcases get_set e2 with ⟨rfl, e', hl⟩ | ⟨n2, e2⟩
    · cases e'
    rw [List.getElem?_set_ne (Ne.symm n1)] at q1
    rw [List.getElem?_set_ne (Ne.symm n2)] at q2
    exact S.dist i k s t a e1 e2 o1 o2 q1 q2
def wipeG (γ : Ga) : List Nat → Ga
  | [] => γ
  | v :: vs => (wipeG γ vs).set v Option.none
theorem SO.wipe (S : SO c G γ σ H) : ∀ vs : List Nat, SO c G (wipeG γ vs) (L2.wipe σ vs) H
  | [] => S
  | v :: vs => (SO.wipe S vs).forget
def Gh.with (G : Gh) (p : Addr) : Gh := ⟨fun a => G.av a ∨ a = p, G.W, G.hp⟩
/-- one more address avoided, new -/
theorem nT.of {H : Hp} {p : Addr} (h : H p = none) : nT H p := fun o e => by
  rw [h] at e
  cases e
theorem Le.with {p : Addr} (h : nT H p) (e : Ex c G H H') : Le c G H (G.with p) H' :=
  ⟨rfl, fun _ h => .inl h, fun a q => q.elim .inl fun z => .inr (by rw [z]; exact h), fun _ h => h, fun _ h => .inl h, e.ch.mono fun _ h => .inr h, e.hok⟩
theorem Sub.with (S : Sub G) {p : Addr} : Sub (G.with p) := ⟨fun a h => .inl (S.W a h), fun a h => ⟨.inl (S.hp a h).1, (S.hp a h).2⟩⟩
theorem OkG.with {p : Addr} (S : OkG c G H) (h : nT H p) (e : Ex c G H H') (hp : ¬ nT H' p) : OkG c (G.with p) H' := ⟨S.sub.with, e.ch.tabs S.tabs, e.hok S.hok, fun a q n => q.elim (fun z => S.dom a z (e.ch.nT_back n)) fun z => hp (by rw [← z]; exact n)⟩
theorem SVok.leW (S : Sub G) (L : Le c G H G' H') (k : ∀ a o, G.W a → H a = some o → ¬ isTb o → H' a = some o) {s : SV} {v : V} (h : SVok c G H s v) : SVok c G' H' s v := by
  cases s with
  | d x => exact Im.le L S x v h
  | l ds =>
    obtain ⟨a, xs, h1, h2, h3, h4⟩ := h
    exact ⟨a, xs, h1, L.W a h2, k _ _ h2 h3 nb_lst, Ims.le L S _ _ h4⟩
  | m kvs =>
    obtain ⟨a, h1, h2, h3⟩ := h
    exact ⟨a, h1, L.W a h2, k _ _ h2 h3 nb_dT⟩
  | z a kvs =>
    obtain ⟨od, h1, h2⟩ := h
    exact ⟨od, h1, L.ch.keep _ _ h2 nb_frz fun _ => nm_frz⟩
  | r K a ns =>
    exact ⟨h.1, h.2.imp_left fun z => ⟨Rd.le L z.1 fun w => w.elim (fun w => z.2 (S.W _ w)) fun w => z.2 (S.hp _ w).1, fun w => (L.avn _ w).elim z.2 (rd_nT z.1)⟩⟩
theorem SO.with {p : Addr} (S : SO c G γ σ H) (h : nT H p) (e : Ex c G H H') (hp : ¬ nT H' p) : SO c (G.with p) γ σ H' :=
  ⟨S.len, fun i s q => let ⟨v, h1, h2⟩ := S.sl i s q; ⟨v, h1, h2.leW S.sub (Le.with h e) fun a o w q t => e.ch.keep a o q t fun z => absurd w (S.sub.hp a z).2⟩, S.dist, S.ok.with h e hp⟩
end
end DW
set_option Elab.async false
set_option linter.all false
set_option maxRecDepth 100000
set_option maxHeartbeats 1000000
set_option autoImplicit false
namespace DW
open PySem L2 K62
/-! ### readings over data -/
abbrev ED := Ga → (D → Prop) → Prop
abbrev BD := Ga → (Bool → Prop) → Prop
abbrev AD := Ga → (List D → Prop) → Prop
section
variable (c : Cst)
def cE (δ : ED) : TE := fun σ H Q => ∃ G γ P, SO c G γ σ H ∧ δ γ P ∧ ∀ d v H', Ex c G H H' → P d → Im c G H' d v → Q v H'
def cT (δ : BD) : TT := fun σ H Q => ∃ G γ P, SO c G γ σ H ∧ δ γ P ∧ ∀ b H', Ex c G H H' → P b → Q b H'
def cA (δ : AD) : TA := fun σ H Q => ∃ G γ P, SO c G γ σ H ∧ δ γ P ∧ ∀ ds vs H', Ex c G H H' → P ds → Ims c G H' ds vs → Q vs H'
/-- a new list -/
def cL (δ : AD) : TE := fun σ H Q => ∃ G γ P, SO c G γ σ H ∧ δ γ P ∧ ∀ ds p xs H', nT H p → Ex c G H H' → P ds → H' p = some (.lst xs) → Ims c (G.with p) H' ds xs → Q (.ref p) H'
end
section
variable {X : Cx} {e : Expr} {es : List Expr}
theorem pe_imp {t t' : TE} (h : PE X e t) (i : ∀ σ H Q, t' σ H Q → t σ H Q) : PE X e t' := ⟨fun pins s σ H Q I q => h.run pins s σ H Q I (i σ H Q q)⟩
theorem pt_imp {t t' : TT} (h : PT X e t) (i : ∀ σ H Q, t' σ H Q → t σ H Q) : PT X e t' := ⟨fun pins s σ H Q I q => h.run pins s σ H Q I (i σ H Q q)⟩
theorem pw_imp {t t' : TT} (h : PW X e t) (i : ∀ σ H Q, t' σ H Q → t σ H Q) : PW X e t' := ⟨fun wh pins s σ H Q I q => h.run wh pins s σ H Q I (i σ H Q q)⟩
theorem pa_imp {t t' : TA} (h : PA X es t) (i : ∀ σ H Q, t' σ H Q → t σ H Q) : PA X es t' := ⟨fun pos pins s σ H Q I q => h.run pos pins s σ H Q I (i σ H Q q)⟩
theorem pts_imp {t t' : TT} (h : PTs X es t) (i : ∀ σ H Q, t' σ H Q → t σ H Q) : PTs X es t' := ⟨fun pins s σ H Q I q => h.run pins s σ H Q I (i σ H Q q)⟩
theorem opr_or {f : Value → Value → Sem Value} {r r' : R2} (h : OpR X f r) (h' : OpR X f r') : OpR X f (fun x y H Q => r x y H Q ∨ r' x y H Q) := by
  intro pins s σ H x y v u Q I r1 r2 q
  rcases q with q | q
  · exact h pins s σ H x y v u Q I r1 r2 q
  · exact h' pins s σ H x y v u Q I r1 r2 q
theorem callr_or {f : Value} {r r' : List V → Hp → VK → Prop} (h : CallR X f r) (h' : CallR X f r') : CallR X f (fun x H Q => r x H Q ∨ r' x H Q) := by
  intro pins s σ H x v Q I r1 q
  rcases q with q | q
  · exact h pins s σ H x v Q I r1 q
  · exact h' pins s σ H x v Q I r1 q
end
abbrev DE (c : Cst) (X : Cx) (e : Expr) (δ : ED) : Prop := PE X e (cE c δ)
abbrev DT (c : Cst) (X : Cx) (e : Expr) (δ : BD) : Prop := PT X e (cT c δ)
abbrev DA (c : Cst) (X : Cx) (es : List Expr) (δ : AD) : Prop := PA X es (cA c δ)
abbrev DL (c : Cst) (X : Cx) (e : Expr) (δ : AD) : Prop := PE X e (cL c δ)
/-! ### names, constants -/
def dVar (i : Nat) : ED := fun γ P => ∃ d, γ[i]? = some (some (.d d)) ∧ P d
def dC (d : D) : ED := fun _ P => P d
section
variable {c : Cst} {X : Cx} {G G' : Gh} {H H' : Hp} {γ : Ga} {σ : L2.St} {a b e e2 : Expr} {es : List Expr} {pos : Pos} {δ δa δb δc : ED} {α : AD} {β β2 : BD}
theorem dv (i : Nat) {x : Str} {pos : Pos} (hN : X.N[i]? = some x := by rfl) (hv : Vis X.env.scope x := by first | exact Or.inl rfl | exact Or.inr (Or.inl rfl) | exact Or.inr (Or.inr rfl)) (hd : (x == ("__debug__" : Str)) = false := by decide)
    (hcd : (x == ("__classdict__" : Str)) = false := by decide) : DE c X (.Name x pos) (dVar i) := pe_imp (pe_var hN hv hd hcd) fun σ H Q ⟨G, γ, P, S, ⟨d, h1, h2⟩, k⟩ => by
  obtain ⟨v, h3, h4⟩ := S.sl i _ h1
  exact ⟨v, h3, k d v H Ex.refl h2 h4⟩
theorem dcon {v : V} {d : D} (h : PE X e (tC v)) (hi : ∀ G H, Im c G H d v) : DE c X e (dC d) := pe_imp h fun σ H Q ⟨G, γ, P, S, h, k⟩ => k d v H Ex.refl h (hi G H)
theorem dint {i j pos} : DE c X (.Constant (.int i) j pos) (dC (.int i)) := dcon pe_int fun _ _ => .int
theorem dstr {x j pos} : DE c X (.Constant (.str x) j pos) (dC (.str x)) := dcon pe_str fun _ _ => .str
theorem dbl {b j pos} : DE c X (.Constant (.bool b) j pos) (dC (.bl b)) := dcon pe_bl fun _ _ => .bl
theorem dnon {j pos} : DE c X (.Constant .none j pos) (dC .no) := dcon pe_non fun _ _ => .no
/-! ### operators -/
def dBin (o : D → D → (D → Prop) → Prop) (δa δb : ED) : ED := fun γ P => δa γ fun x => δb γ fun y => o x y P
/-- the values' reading r answers as the data's o -/
def RD (c : Cst) (r : R2) (o : D → D → (D → Prop) → Prop) : Prop := ∀ (G : Gh) (H : Hp) (x y : D) (v u : V) (P : D → Prop) (Q : VK), OkG c G H → Im c G H x v → Im c G H y u → o x y P → (∀ d w H', Ex c G H H' → P d → Im c G H' d w → Q w H') → r v u H Q
theorem SO.im (S : SO c G γ σ H) (e : Ex c G H H') {d : D} {v : V} (h : Im c G H d v) : Im c G H' d v := Im.le e.le S.sub _ _ h
theorem tOp_of {r : R2} {o : D → D → (D → Prop) → Prop} (hr : RD c r o) (Q : VK) (h : cE c (dBin o δa δb) σ H Q) : tOp r (cE c δa) (cE c δb) σ H Q := by
  obtain ⟨G, γ, P, S, h, k⟩ := h
  exact ⟨G, γ, _, S, h, fun x v H1 e1 p1 i1 => ⟨G, γ, _, S.ex e1, p1, fun y u H2 e2 p2 i2 => hr G H2 x y v u P Q (S.ok.ex (e1.trans e2)) (Im.le e2.le S.sub _ _ i1) i2 p2 fun d w H3 e3 => k d w H3 ((e1.trans e2).trans e3)⟩⟩
theorem de_op {op : Operator} {r : R2} {o : D → D → (D → Prop) → Prop} (hr : RD c r o) (ho : OpR X (binaryOp op) r) (ha : DE c X a δa) (hb : DE c X b δb) : DE c X (.BinOp a op b pos) (dBin o δa δb) :=
  pe_imp (pe_op ho ha hb) fun _ _ Q h => tOp_of hr Q h
theorem de_cmp {op : CmpOp} {r : R2} {o : D → D → (D → Prop) → Prop} (hr : RD c r o) (ho : OpR X (compareOp op) r) (ha : DE c X a δa) (hb : DE c X b δb) (hm : behindInMarks op b = false := by first | exact nomark _ | rfl | with_unfolding_all rfl) : DE c X (.Compare a [op] [b] pos) (dBin o δa δb) :=
  pe_imp (pe_cmpR ho ha hb hm) fun _ _ Q h => tOp_of hr Q h
def dTest (δ : ED) : BD := fun γ P => δ γ fun d => ∃ b, d = .bl b ∧ P b
theorem tst_of {t : TE} {Q : Bool → Hp → Prop} (h : cT c (dTest δ) σ H Q) (i : ∀ Q', cE c δ σ H Q' → t σ H Q') : tTest t σ H Q := by
  obtain ⟨G, γ, P, S, h, k⟩ := h
  refine i _ ⟨G, γ, _, S, h, fun d v H' e p q => ?_⟩
  obtain ⟨b, rfl, p⟩ := p
  cases q
  exact ⟨b, rfl, k b H' e p⟩
theorem dt_cmp {op : CmpOp} {r : R2} {o : D → D → (D → Prop) → Prop} (hr : RD c r o) (ho : OpR X (compareOp op) r) (ha : DE c X a δa) (hb : DE c X b δb) (hm : behindInMarks op b = false := by first | exact nomark _ | rfl | with_unfolding_all rfl) : DT c X (.Compare a [op] [b] pos) (dTest (dBin o δa δb)) :=
  pt_imp (pt_cmpR ho ha hb hm) fun _ _ Q h => tst_of h fun Q' h => tOp_of hr Q' h
def dChain (o o' : D → D → (D → Prop) → Prop) (δa δb δc : ED) : ED := fun γ P => δa γ fun x => δb γ fun y => o x y fun z => ∃ k, z = .bl k ∧ if k = true then δc γ fun w => o' y w P else P (.bl false)
theorem tChain_of {r r' : R2} {o o' : D → D → (D → Prop) → Prop} (hr : RD c r o) (hr' : RD c r' o') (Q : VK) (h : cE c (dChain o o' δa δb δc) σ H Q) : tChain r r' (cE c δa) (cE c δb) (cE c δc) σ H Q := by
  obtain ⟨G, γ, P, S, h, k⟩ := h
  refine ⟨G, γ, _, S, h, fun x v H1 e1 p1 i1 => ⟨G, γ, _, S.ex e1, p1, fun y u H2 e2 p2 i2 => hr G H2 x y v u _ _ (S.ok.ex (e1.trans e2)) (Im.le e2.le S.sub _ _ i1) i2 p2 fun d w H3 e3 p3 i3 => ?_⟩⟩
  obtain ⟨kk, rfl, p3⟩ := p3
  cases i3
  refine ⟨kk, rfl, ?_⟩
  cases kk with
  | true => exact ⟨G, γ, _, S.ex ((e1.trans e2).trans e3), p3, fun z w H4 e4 p4 i4 => hr' G H4 y z u w P Q (S.ok.ex ((e1.trans e2).trans (e3.trans e4))) (Im.le (e3.trans e4).le S.sub _ _ i2) i4 p4 fun d w' H5 e5 => k d w' H5 (((e1.trans e2).trans e3).trans (e4.trans e5))⟩
  | false => exact k _ _ H3 ((e1.trans e2).trans e3) p3 .bl
theorem de_chain {op op' : CmpOp} {cc : Expr} {r r' : R2} {o o' : D → D → (D → Prop) → Prop} (hr : RD c r o) (ho : OpR X (compareOp op) r) (hr' : RD c r' o') (ho' : OpR X (compareOp op') r') (ha : DE c X a δa) (hb : DE c X b δb) (hc : DE c X cc δc) (hm : lastMarks [op, op'] [b, cc] = false := by with_unfolding_all rfl) :
    DE c X (.Compare a [op, op'] [b, cc] pos) (dChain o o' δa δb δc) := pe_imp (pe_chain ho ho' ha hb hc hm) fun _ _ Q h => tChain_of hr hr' Q h
theorem dt_chain {op op' : CmpOp} {cc : Expr} {r r' : R2} {o o' : D → D → (D → Prop) → Prop} (hr : RD c r o) (ho : OpR X (compareOp op) r) (hr' : RD c r' o') (ho' : OpR X (compareOp op') r') (ha : DE c X a δa) (hb : DE c X b δb) (hc : DE c X cc δc) (hm : lastMarks [op, op'] [b, cc] = false := by with_unfolding_all rfl) :
    DT c X (.Compare a [op, op'] [b, cc] pos) (dTest (dChain o o' δa δb δc)) := pt_imp (pt_chain ho ho' ha hb hc hm) fun _ _ Q h => tst_of h fun Q' h => tChain_of hr hr' Q' h
/-! the operators' data -/
def oAdd : D → D → (D → Prop) → Prop
  | .int i, .int j, P => P (.int (i + j))
  | .str x, .str y, P => x.length + y.length ≤ 1000 ∧ P (.str (x ++ y))
  | .tup xs, .tup ys, P => xs.length + ys.length ≤ 1000 ∧ P (.tup (xs ++ ys))
  | _, _, _ => False
def rAddD (K : PySem.W.Frag) : R2 := fun x y H Q => (rI0 fun i j => .int (i + j)) x y H Q ∨ (fun x y H Q => ∃ i j, x = V.str i ∧ y = V.str j ∧ i.length + j.length ≤ sizeLine ∧ Q (V.str (i ++ j)) H) x y H Q ∨ rCatA K x y H Q
theorem op_addD : OpR X (binaryOp .Add) (rAddD X.K) := opr_or op_add (opr_or op_add_str op_catA)
theorem rd_add {K : PySem.W.Frag} : RD c (rAddD K) oAdd := by
  intro G H x y v u P Q S i1 i2 h k
  cases i1 <;> cases i2 <;> first | exact h.elim | skip
  · exact .inl ⟨_, _, rfl, rfl, k _ _ _ Ex.refl h .int⟩
  · exact .inr (.inl ⟨_, _, rfl, rfl, Nat.le_trans h.1 (by decide), k _ _ _ Ex.refl h.2 .str⟩)
  · rename_i a xs ds e1 q1 b ys es e2 q2
    obtain ⟨h1, h2⟩ := h
    have l1 := q1.length
    have l2 := q2.length
    refine .inr (.inr ⟨_, _, xs, ys, rfl, rfl, .of e1, .of e2, Nat.le_trans (by omega : xs.length + ys.length ≤ 1000) (by decide), fun z => ?_, fun _ z => ?_, fun _ _ p hp => ?_⟩)
    · subst z
      cases q1
      exact k _ _ _ Ex.refl h2 (.tup e2 q2)
    · subst z
      cases q2
      rw [List.append_nil] at h2
      exact k _ _ _ Ex.refl h2 (.tup e1 q1)
    · exact k _ _ _ (Ex.new hp) h2 (.tup upd_same (Ims.le (Ex.new hp).le S.sub _ _ (q1.append q2)))
def oI (g : Int → Int → D) : D → D → (D → Prop) → Prop
  | .int i, .int j, P => P (g i j)
  | _, _, _ => False
def oIC (C : Int → Int → Prop) (g : Int → Int → D) : D → D → (D → Prop) → Prop
  | .int i, .int j, P => C i j ∧ P (g i j)
  | _, _, _ => False
theorem rd_I {g : Int → Int → V} {f : Int → Int → D} (h : ∀ G H i j, Im c G H (f i j) (g i j)) : RD c (rI0 g) (oI f) := by
  intro G H x y v u P Q S i1 i2 h' k
  cases i1 <;> cases i2 <;> first | exact h'.elim | skip
  exact ⟨_, _, rfl, rfl, k _ _ _ Ex.refl h' (h _ _ _ _)⟩
theorem rd_IC {C : Int → Int → Prop} {g : Int → Int → V} {f : Int → Int → D} (h : ∀ G H i j, Im c G H (f i j) (g i j)) : RD c (rI C g) (oIC C f) := by
  intro G H x y v u P Q S i1 i2 h' k
  cases i1 <;> cases i2 <;> first | exact h'.elim | skip
  exact ⟨_, _, rfl, rfl, h'.1, k _ _ _ Ex.refl h'.2 (h _ _ _ _)⟩
abbrev oSub := oI fun i j => .int (i - j)
theorem rd_sub : RD c (rI0 fun i j => .int (i - j)) oSub := rd_I fun _ _ _ _ => .int
abbrev oDiv := oIC CDiv fun i j => .int (i / j)
theorem rd_div : RD c (rI CDiv fun i j => .int (i / j)) oDiv := rd_IC fun _ _ _ _ => .int
abbrev oMod := oIC (fun _ j => 0 < j) fun i j => .int (i % j)
theorem rd_mod : RD c (rI (fun _ j => 0 < j) fun i j => .int (i % j)) oMod := rd_IC fun _ _ _ _ => .int
abbrev oPow := oIC CPow fun i j => .int (i ^ j.toNat)
theorem rd_pow : RD c (rI CPow fun i j => .int (i ^ j.toNat)) oPow := rd_IC fun _ _ _ _ => .int
def strN (n : Int) : Str := if n = 0 then "" else if n = 1 then "a" else "aa"
def oMul : D → D → (D → Prop) → Prop
  | .int i, .int j, P => CMul i j ∧ P (.int (i * j))
  | .str x, .int n, P => x = "a" ∧ (0 ≤ n ∧ n ≤ 2) ∧ P (.str (strN n))
  | .tup xs, .int n, P => (xs ≠ [] ∧ 2 ≤ n ∧ n ≤ 1000 ∧ xs.length ≤ 1000) ∧ P (.tup (List.replicate n.toNat xs).flatten)
  | _, _, _ => False
def rMulD (K : PySem.W.Frag) : R2 := fun x y H Q => (rI CMul fun i j => .int (i * j)) x y H Q ∨ Gp.rMulA x y H Q ∨ rRepT K x y H Q
theorem op_mulD : OpR X (binaryOp .Mult) (rMulD X.K) := opr_or op_mul (opr_or Gp.op_mulA op_repT)
theorem Ims.rep {ds : List D} {vs : List V} (h : Ims c G H ds vs) : ∀ n, Ims c G H (List.replicate n ds).flatten (List.replicate n vs).flatten
  | 0 => .nil
  | n + 1 => by rw [List.replicate_succ, List.replicate_succ]; exact h.append (Ims.rep h n)
theorem rd_mul {K : PySem.W.Frag} : RD c (rMulD K) oMul := by
  intro G H x y v u P Q S i1 i2 h k
  cases i1 <;> cases i2 <;> first | exact h.elim | skip
  · exact .inl ⟨_, _, rfl, rfl, h.1, k _ _ _ Ex.refl h.2 .int⟩
  · obtain ⟨rfl, ⟨h1, h2⟩, h3⟩ := h
    exact .inr (.inl ⟨_, rfl, rfl, h1, h2, k _ _ _ Ex.refl h3 .str⟩)
  · rename_i a xs ds e1 q1 n
    obtain ⟨⟨h0, h1, h2, h3⟩, h4⟩ := h
    have l1 := q1.length
    refine .inr (.inr ⟨_, _, xs, rfl, rfl, .of e1, fun z => ?_, h1, h2, by omega, fun p hp => k _ _ _ (Ex.new hp) h4 (.tup upd_same (Ims.le (Ex.new hp).le S.sub _ _ (q1.rep _)))⟩)
    subst z
    cases q1
    exact h0 rfl
def oCmp (f : Int → Int → Bool) (g : List Nat → List Nat → Bool) : D → D → (D → Prop) → Prop
  | .int i, .int j, P => P (.bl (f i j))
  | .str x, .str y, P => P (.bl (g x.cps.toList y.cps.toList))
  | _, _, _ => False
abbrev oLt := oCmp (fun i j => decide (i < j)) (fun x y => decide (x < y))
abbrev rLtD : R2 := fun x y H Q => (rI0 fun i j => .bl (decide (i < j))) x y H Q ∨ (fun x y H Q => ∃ i j, x = V.str i ∧ y = V.str j ∧ Q (V.bl (decide (i.cps.toList < j.cps.toList))) H) x y H Q
theorem op_ltD : OpR X (compareOp .Lt) rLtD := opr_or op_lt op_lt_str
theorem rd_lt : RD c rLtD oLt := by
  intro G H x y v u P Q S i1 i2 h k
  cases i1 <;> cases i2 <;> first | exact h.elim | skip
  · exact .inl ⟨_, _, rfl, rfl, k _ _ _ Ex.refl h .bl⟩
  · exact .inr ⟨_, _, rfl, rfl, k _ _ _ Ex.refl h .bl⟩
abbrev oLe := oI fun i j => .bl (decide (i ≤ j))
theorem rd_le : RD c (rI0 fun i j => .bl (decide (i ≤ j))) oLe := rd_I fun _ _ _ _ => .bl
abbrev oGt := oI fun i j => .bl (decide (j < i))
theorem rd_gt : RD c (rI0 fun i j => .bl (decide (j < i))) oGt := rd_I fun _ _ _ _ => .bl
abbrev oGe := oI fun i j => .bl (decide (j ≤ i))
theorem rd_ge : RD c (rI0 fun i j => .bl (decide (j ≤ i))) oGe := rd_I fun _ _ _ _ => .bl
/-! equality of data -/
mutual
def toP : D → PyData
  | .no => .none
  | .bl b => .bool b
  | .int i => .int i
  | .str s => .str s
  | .tup ds => .tuple (toPs ds)
  | .lst ds => .list (toPs ds)
  | .task _ _ _ => .none
  | .heap => .none
def toPs : List D → List PyData
  | [] => []
  | d :: ds => toP d :: toPs ds
end
mutual
def plain : D → Bool
  | .tup ds => plains ds
  | .lst ds => plains ds
  | .task _ _ _ => false
  | .heap => false
  | _ => true
def plains : List D → Bool
  | [] => true
  | d :: ds => plain d && plains ds
end
mutual
theorem Im.dp {K : PySem.W.Frag} : ∀ (d : D) (v : V), plain d = true → Im c G H d v → Dp K H v (toP d)
  | .no, _, _, h => by cases h; exact .non
  | .bl _, _, _, h => by cases h; exact .bl _
  | .int _, _, _, h => by cases h; exact .int _
  | .str _, _, _, h => by cases h; exact .str _
  | .tup ds, _, p, h => by
    cases h with
    | tup e q => exact .tup (.of e) (Ims.dp ds _ p q)
  | .lst ds, _, p, h => by
    cases h with
    | lst e n q => exact .lst (.inl e) (Ims.dp ds _ p q)
  | .task u w g, _, p, h => by cases p
  | .heap, _, p, h => by cases p
theorem Ims.dp {K : PySem.W.Frag} : ∀ (ds : List D) (vs : List V), plains ds = true → Ims c G H ds vs → DpAll K H vs (toPs ds)
  | [], _, _, h => by cases h; exact .nil
  | d :: ds, _, p, h => by
    have p : (plain d && plains ds) = true := p
    rw [Bool.and_eq_true] at p
    cases h with
    | cons q r => exact .cons (Im.dp d _ p.1 q) (Ims.dp ds _ p.2 r)
end
def eqD (x y : D) : Bool := PyData.eqv (toP x) (toP y)
def okD (x : D) : Bool := plain x && SeqAt.shaped (toP x)
def oEq : D → D → (D → Prop) → Prop := fun x y P => (okD x = true ∧ okD y = true) ∧ P (.bl (eqD x y))
def oNe : D → D → (D → Prop) → Prop := fun x y P => (okD x = true ∧ okD y = true) ∧ P (.bl (!eqD x y))
theorem rd_eq {K : PySem.W.Frag} : RD c (rEqD K) oEq := by
  intro G H x y v u P Q S i1 i2 h k
  obtain ⟨⟨h1, h2⟩, h3⟩ := h
  rw [okD, Bool.and_eq_true] at h1 h2
  exact ⟨_, _, Im.dp _ _ h1.1 i1, Im.dp _ _ h2.1 i2, h1.2, h2.2, k _ _ _ Ex.refl h3 .bl⟩
theorem rd_ne {K : PySem.W.Frag} : RD c (rNeD K) oNe := by
  intro G H x y v u P Q S i1 i2 h k
  obtain ⟨⟨h1, h2⟩, h3⟩ := h
  rw [okD, Bool.and_eq_true] at h1 h2
  exact ⟨_, _, Im.dp _ _ h1.1 i1, Im.dp _ _ h2.1 i2, h1.2, h2.2, k _ _ _ Ex.refl h3 .bl⟩
def oIs : D → D → (D → Prop) → Prop
  | .bl a, .bl b, P => P (.bl (decide (a = b)))
  | _, _, _ => False
theorem rd_is : RD c rIsB oIs := by
  intro G H x y v u P Q S i1 i2 h k
  cases i1 <;> cases i2 <;> first | exact h.elim | skip
  exact ⟨_, _, rfl, rfl, k _ _ _ Ex.refl h .bl⟩
/-- is None -/
def isNo : D → Bool
  | .no => true
  | _ => false
def dIsN (δ : ED) : ED := fun γ P => δ γ fun d => P (.bl (isNo d))
def dNotN (δ : ED) : ED := fun γ P => δ γ fun d => P (.bl (!isNo d))
theorem isNo_im {d : D} {v : V} (h : Im c G H d v) : decide (v = .non) = isNo d := by cases h <;> rfl
theorem de_isN {j pos'} (ha : DE c X a δ) : DE c X (.Compare a [.Is] [.Constant .none j pos'] pos) (dIsN δ) := pe_imp (pe_cmp (pc_isN ha)) fun σ H Q ⟨G, γ, P, S, h, k⟩ =>
  ⟨G, γ, _, S, h, fun d v H' e p q => by
    show Q (.bl (decide (v = .non))) H'
    rw [isNo_im q]; exact k _ _ H' e p .bl⟩
theorem de_notN {j pos'} (ha : DE c X a δ) : DE c X (.Compare a [.IsNot] [.Constant .none j pos'] pos) (dNotN δ) := pe_imp (pe_cmp (pc_notN ha)) fun σ H Q ⟨G, γ, P, S, h, k⟩ =>
  ⟨G, γ, _, S, h, fun d v H' e p q => by
    show Q (.bl (!decide (v = .non))) H'
    rw [isNo_im q]; exact k _ _ H' e p .bl⟩
theorem dt_isN {j pos'} (ha : DE c X a δ) : DT c X (.Compare a [.Is] [.Constant .none j pos'] pos) (dTest (dIsN δ)) := pt_imp (pt_cmp (pc_isN ha)) fun σ H Q ⟨G, γ, P, S, h, k⟩ =>
  ⟨G, γ, _, S, h, fun d v H' e p q => by
    obtain ⟨b, hb, p⟩ := p
    cases hb
    exact ⟨_, rfl, by rw [isNo_im q]; exact k _ H' e p⟩⟩
/-- in a tuple of texts; a sign in a text -/
def oIn : D → D → (D → Prop) → Prop
  | .str s, .tup ys, P => ∃ zs : List Str, ys = zs.map .str ∧ P (.bl (decide (s ∈ zs)))
  | .str s, .str z, P => ∃ ch, s = ⟨#[ch]⟩ ∧ P (.bl (decide (ch ∈ z.cps.toList)))
  | _, _, _ => False
def oNotIn : D → D → (D → Prop) → Prop
  | .str s, .tup ys, P => ∃ zs : List Str, ys = zs.map .str ∧ P (.bl (!decide (s ∈ zs)))
  | _, _, _ => False
theorem Ims.strs : ∀ {ns : List Str} {vs : List V}, Ims c G H (ns.map .str) vs → vs = ns.map .str
  | [], _, h => by cases h; rfl
  | _ :: _, _, h => by
    cases h with
    | cons q r => cases q; rw [Ims.strs r]; rfl
theorem in_strs {s : Str} {zs : List Str} : inV (.str s) (zs.map .str) = decide (s ∈ zs) := by
  unfold inV
  rw [List.any_map]
  induction zs with
  | nil => rfl
  | cons z r ih =>
    rw [List.any_cons, ih]
    have e : (fun y => eqV y (V.str s)) (V.str z) = decide (z = s) := by
      show eqV (.str z) (.str s) = _
      unfold eqV
      first | rfl | (rw [Bool.eq_iff_iff]; simp)
    show ((fun y => eqV y (V.str s)) (V.str z) || decide (s ∈ r)) = _
    rw [e, ← Bool.decide_or]
    exact decide_eq_decide.mpr (by rw [List.mem_cons, eq_comm])
theorem rd_in {K : PySem.W.Frag} : RD c (fun x y H Q => rIn K false x y H Q ∨ (fun x y H Q => ∃ (c : Nat) (z : Str), x = V.str ⟨#[c]⟩ ∧ y = V.str z ∧ Q (V.bl (decide (c ∈ z.cps.toList))) H) x y H Q) oIn := by
  intro G H x y v u P Q S i1 i2 h k
  cases i1 <;> cases i2 <;> first | exact h.elim | skip
  · obtain ⟨ch, rfl, h⟩ := h
    exact .inr ⟨_, _, rfl, rfl, k _ _ _ Ex.refl h .bl⟩
  · rename_i s a xs ds e q
    obtain ⟨zs, rfl, h⟩ := h
    obtain rfl := q.strs
    refine .inl ⟨_, _, rfl, .inr (.of e), rfl, by rw [List.all_map]; exact List.all_eq_true.mpr fun _ _ => rfl, ?_⟩
    rw [in_strs]
    exact k _ _ _ Ex.refl h .bl
theorem op_inD : OpR X (compareOp .In) (fun x y H Q => rIn X.K false x y H Q ∨ (fun x y H Q => ∃ (c : Nat) (z : Str), x = V.str ⟨#[c]⟩ ∧ y = V.str z ∧ Q (V.bl (decide (c ∈ z.cps.toList))) H) x y H Q) := opr_or op_in_seq op_in_sign
theorem rd_notIn {K : PySem.W.Frag} : RD c (rIn K true) oNotIn := by
  intro G H x y v u P Q S i1 i2 h k
  cases i1 <;> cases i2 <;> first | exact h.elim | skip
  · rename_i s a xs ds e q
    obtain ⟨zs, rfl, h⟩ := h
    obtain rfl := q.strs
    refine ⟨_, _, rfl, .inr (.of e), rfl, by rw [List.all_map]; exact List.all_eq_true.mpr fun _ _ => rfl, ?_⟩
    rw [in_strs]
    exact k _ _ _ Ex.refl h .bl
end
end DW
set_option Elab.async false
set_option linter.all false
set_option maxRecDepth 100000
set_option maxHeartbeats 1000000
set_option autoImplicit false
namespace DW
open PySem L2 K62
section
variable {c : Cst} {X : Cx} {G G' : Gh} {H H' : Hp} {γ : Ga} {σ : L2.St} {a b e e2 : Expr} {es rest : List Expr} {pos : Pos} {δ δa δb δc : ED} {α : AD} {β β2 : BD}
/-! ### and, or, not, if -/
def dAndV (δa δb : ED) : ED := fun γ P => δa γ fun x => ∃ k, x = .bl k ∧ if k = true then δb γ P else P (.bl false)
def dOrV (δa δb : ED) : ED := fun γ P => δa γ fun x => ∃ k, x = .bl k ∧ if k = true then P (.bl true) else δb γ P
def dNotV (δa : ED) : ED := fun γ P => δa γ fun x => ∃ k, x = .bl k ∧ P (.bl (!k))
theorem de_and (ha : DE c X a δa) (hb : DE c X (.BoolOp .And (b :: rest) pos) δb) : DE c X (.BoolOp .And (a :: b :: rest) pos) (dAndV δa δb) := pe_imp (pe_and ha hb) fun σ H Q ⟨G, γ, P, S, h, k⟩ =>
  ⟨G, γ, _, S, h, fun d v H1 e p q => by
    obtain ⟨kk, rfl, p⟩ := p
    cases q
    refine ⟨kk, rfl, ?_⟩
    cases kk with
    | true => exact ⟨G, γ, P, S.ex e, p, fun d v H2 e2 => k d v H2 (e.trans e2)⟩
    | false => exact k _ _ H1 e p .bl⟩
theorem de_or (ha : DE c X a δa) (hb : DE c X (.BoolOp .Or (b :: rest) pos) δb) : DE c X (.BoolOp .Or (a :: b :: rest) pos) (dOrV δa δb) := pe_imp (pe_or ha hb) fun σ H Q ⟨G, γ, P, S, h, k⟩ =>
  ⟨G, γ, _, S, h, fun d v H1 e p q => by
    obtain ⟨kk, rfl, p⟩ := p
    cases q
    refine ⟨kk, rfl, ?_⟩
    cases kk with
    | true => exact k _ _ H1 e p .bl
    | false => exact ⟨G, γ, P, S.ex e, p, fun d v H2 e2 => k d v H2 (e.trans e2)⟩⟩
theorem de_one {op} (h : DE c X a δ) : DE c X (.BoolOp op [a] pos) δ := pe_one h
theorem de_not (ha : DE c X a δa) : DE c X (.UnaryOp .Not a pos) (dNotV δa) := pe_imp (pe_not ha) fun σ H Q ⟨G, γ, P, S, h, k⟩ =>
  ⟨G, γ, _, S, h, fun d v H1 e p q => by
    obtain ⟨kk, rfl, p⟩ := p
    cases q
    exact ⟨kk, rfl, k _ _ H1 e p .bl⟩⟩
def bAnd (β β2 : BD) : BD := fun γ P => β γ fun k => if k = true then β2 γ P else P false
def bOr (β β2 : BD) : BD := fun γ P => β γ fun k => if k = true then P true else β2 γ P
def bNot (β : BD) : BD := fun γ P => β γ fun k => P (!k)
abbrev DW_ (c : Cst) (X : Cx) (e : Expr) (δ : BD) : Prop := PW X e (cT c δ)
theorem dw_and1 (ha : DT c X a β) : DW_ c X (.BoolOp .And [a] pos) β := pw_and1 ha
theorem dw_or1 (ha : DT c X a β) : DW_ c X (.BoolOp .Or [a] pos) β := pw_or1 ha
theorem dw_and (ha : DT c X a β) (hb : DW_ c X (.BoolOp .And (b :: rest) pos) β2) : DW_ c X (.BoolOp .And (a :: b :: rest) pos) (bAnd β β2) := pw_imp (pw_and ha hb) fun σ H Q ⟨G, γ, P, S, h, k⟩ =>
  ⟨G, γ, _, S, h, fun kk H1 e p => by
    cases kk with
    | true => exact ⟨G, γ, P, S.ex e, p, fun d H2 e2 => k d H2 (e.trans e2)⟩
    | false => exact k _ H1 e p⟩
theorem dw_or (ha : DT c X a β) (hb : DW_ c X (.BoolOp .Or (b :: rest) pos) β2) : DW_ c X (.BoolOp .Or (a :: b :: rest) pos) (bOr β β2) := pw_imp (pw_or ha hb) fun σ H Q ⟨G, γ, P, S, h, k⟩ =>
  ⟨G, γ, _, S, h, fun kk H1 e p => by
    cases kk with
    | true => exact k _ H1 e p
    | false => exact ⟨G, γ, P, S.ex e, p, fun d H2 e2 => k d H2 (e.trans e2)⟩⟩
theorem dt_w (h : DW_ c X e β) : DT c X e β := h.pt
theorem dt_not (ha : DT c X a β) : DT c X (.UnaryOp .Not a pos) (bNot β) := pt_imp (pt_not ha) fun σ H Q ⟨G, γ, P, S, h, k⟩ => ⟨G, γ, _, S, h, fun kk H1 e p => k _ H1 e p⟩
theorem dt_val (h : DE c X e δ) (he : ∀ whole, isTrue e X.env whole = (do let v ← whole; standAt e.pos; holding [v] (truthy v)) := by intro _; rfl) : DT c X e (dTest δ) := pt_imp (pt_val h he) fun σ H Q ⟨G, γ, P, S, h, k⟩ =>
  ⟨G, γ, _, S, h, fun d v H1 e p q => by
    obtain ⟨b, rfl, p⟩ := p
    cases q
    exact ⟨b, rfl, k b H1 e p⟩⟩
def dIf (β : BD) (δa δb : ED) : ED := fun γ P => β γ fun k => if k = true then δa γ P else δb γ P
theorem de_if {t : Expr} (hc : DT c X t β) (ha : DE c X a δa) (hb : DE c X b δb) : DE c X (.IfExp t a b pos) (dIf β δa δb) := pe_imp (pe_ifExp hc ha hb) fun σ H Q ⟨G, γ, P, S, h, k⟩ =>
  ⟨G, γ, _, S, h, fun kk H1 e p => by
    cases kk with
    | true => exact ⟨G, γ, P, S.ex e, p, fun d v H2 e2 => k d v H2 (e.trans e2)⟩
    | false => exact ⟨G, γ, P, S.ex e, p, fun d v H2 e2 => k d v H2 (e.trans e2)⟩⟩
/-! ### subscripts -/
def oIx : D → D → (D → Prop) → Prop
  | .tup xs, .int i, P => ∃ d, atI xs i = some d ∧ P d
  | .lst xs, .int i, P => ∃ d, atI xs i = some d ∧ P d
  | .str z, .int i, P => z.length ≤ 1000 ∧ ∃ ch, atI z.cps.toList i = some ch ∧ P (.str ⟨#[ch]⟩)
  | _, _, _ => False
theorem atI_im {ds : List D} {xs : List V} {i : Int} {d : D} (q : Ims c G H ds xs) (h : atI ds i = some d) : ∃ v, atI xs i = some v ∧ Im c G H d v := by
  unfold atI at h ⊢
  rw [q.length]
  cases e : ixN ds.length i with
  | none => rw [e] at h; cases h
  | some j =>
    rw [e] at h
    have h : ds[j]? = some d := h
    exact q.get h
theorem rd_ix {K : PySem.W.Frag} : RD c (rIx K) oIx := by
  intro G H x y v u P Q S i1 i2 h k
  cases i1 <;> cases i2 <;> first | exact h.elim | skip
  · obtain ⟨h1, ch, h2, h3⟩ := h
    exact .inr (.inr ⟨_, _, ch, rfl, rfl, Nat.le_trans h1 (by decide), h2, k _ _ _ Ex.refl h3 .str⟩)
  · rename_i a xs ds e q i
    obtain ⟨d, h1, h2⟩ := h
    obtain ⟨v, h3, h4⟩ := atI_im q h1
    exact .inr (.inl ⟨_, _, _, v, rfl, rfl, .of e, h3, k _ _ _ Ex.refl h2 h4⟩)
  · rename_i a xs ds e n q i
    obtain ⟨d, h1, h2⟩ := h
    obtain ⟨v, h3, h4⟩ := atI_im q h1
    exact .inl ⟨_, _, _, v, rfl, rfl, .inl e, h3, k _ _ _ Ex.refl h2 h4⟩
theorem de_ix (ha : DE c X a δa) (hb : DE c X b δb) (hs : PlainIx b := by intro _ _; rfl) : DE c X (.Subscript a b pos) (dBin oIx δa δb) := pe_imp (pe_ix ix_seq ha hb hs) fun _ _ Q h => tOp_of rd_ix Q h
def cutD (xs : List D) (lo hi : Option Int) : List D := (xs.drop (HT.sIx xs.length 0 lo)).take (HT.sIx xs.length xs.length hi - HT.sIx xs.length 0 lo)
theorem Ims.drop : ∀ {ds : List D} {vs : List V} (n : Nat), Ims c G H ds vs → Ims c G H (ds.drop n) (vs.drop n)
  | _, _, 0, h => by simpa using h
  | [], _, n + 1, h => by cases h; exact .nil
  | _ :: _, _, n + 1, h => by
    cases h with
    | cons q r => exact Ims.drop n r
theorem Ims.take : ∀ {ds : List D} {vs : List V} (n : Nat), Ims c G H ds vs → Ims c G H (ds.take n) (vs.take n)
  | _, _, 0, h => by simp; exact .nil
  | [], _, n + 1, h => by cases h; exact .nil
  | _ :: _, _, n + 1, h => by
    cases h with
    | cons q r => exact .cons q (Ims.take n r)
theorem cut_im {ds : List D} {xs : List V} {lo hi : Option Int} (q : Ims c G H ds xs) : Ims c G H (cutD ds lo hi) (cutV xs lo hi) := by
  unfold cutD cutV
  rw [q.length]
  exact (q.drop _).take _
theorem cut_all {xs : List V} {lo hi : Option Int} (h : HT.sIx xs.length 0 lo = 0 ∧ HT.sIx xs.length xs.length hi = xs.length) : cutV xs lo hi = xs := by
  unfold cutV
  rw [h.1, h.2]
  simp
def dSl (lo hi : Option Int) (δ : ED) : ED := fun γ P => δ γ fun d => ∃ xs, d = .tup xs ∧ P (.tup (cutD xs lo hi))
def poD : Option Int → TO
  | some i => fun _ H Q => Q (some i) H
  | none => fun _ H Q => Q none H
theorem po_d {i : Int} {j pos'} : PO X (some (.Constant (.int i) j pos')) (poD (some i)) := po_some pe_int |> fun h => ⟨fun pins s σ H Q I q => h.run pins s σ H Q I ⟨i, rfl, q⟩⟩
theorem po_n : PO X none (poD none) := po_none
theorem de_sl {lo hi : Option Expr} {l h : Option Int} {p2 : Pos} (ha : DE c X a δ) (hl : PO X lo (poD l)) (hh : PO X hi (poD h)) : DE c X (.Subscript a (.Slice lo hi none p2) pos) (dSl l h δ) := pe_imp (pe_slice sl_tupA ha hl hh) fun σ H Q ⟨G, γ, P, S, h', k⟩ =>
  ⟨G, γ, _, S, h', fun d v H1 e p q => by
    obtain ⟨ds, rfl, p⟩ := p
    cases q with
    | tup e1 q1 =>
      rename_i a xs
      have g : ∀ (Q' : Option Int → Hp → Prop) (o : Option Int), Q' o H1 → poD o σ H1 Q' := fun Q' o z => by cases o <;> exact z
      refine g _ l (g _ h ⟨_, xs, rfl, .of e1, fun z => ?_, fun z p' hp => ?_⟩)
      · exact k _ _ H1 e p (.tup e1 (by have r := cut_im (lo := l) (hi := h) q1; rw [cut_all z] at r; exact r))
      · exact k _ _ _ (e.trans (Ex.new hp)) p (.tup upd_same (Ims.le (Ex.new hp).le S.sub _ _ (cut_im q1)))⟩
/-! ### a task's fields -/
def fldD (f : Str) (d : D) : Option D := match d with
  | .task u w g => List.lookup f ([("unknowns", u), ("wishes", w), ("goal", g)] : List (Str × D))
  | _ => none
def dFld (f : Str) (δ : ED) : ED := fun γ P => δ γ fun d => ∃ x, fldD f d = some x ∧ P x
theorem fld_look {f n1 n2 n3 : Str} {u w g x : D} {x1 x2 x3 : V} (h : List.lookup f ([(n1, u), (n2, w), (n3, g)] : List (Str × D)) = some x) (q1 : Im c G H u x1) (q2 : Im c G H w x2) (q3 : Im c G H g x3) : ∃ v, List.lookup f ([(n1, x1), (n2, x2), (n3, x3)] : List (Str × V)) = some v ∧ Im c G H x v := by
  unfold List.lookup at h ⊢
  cases e1 : f == n1 with
  | true => rw [e1] at h; cases h; exact ⟨x1, rfl, q1⟩
  | false =>
    rw [e1] at h
    dsimp only at h ⊢
    unfold List.lookup at h ⊢
    cases e2 : f == n2 with
    | true => rw [e2] at h; cases h; exact ⟨x2, rfl, q2⟩
    | false =>
      rw [e2] at h
      dsimp only at h ⊢
      unfold List.lookup at h ⊢
      cases e3 : f == n3 with
      | true => rw [e3] at h; cases h; exact ⟨x3, rfl, q3⟩
      | false => rw [e3] at h; cases h
theorem de_fld {f : Str} (hc : Cls X.K c.C) (hn : NoAttr X.K c.C f) (ha : DE c X e δ) (hb : attributeBase e f X.env (eval e X.env) = eval e X.env := by rfl) : DE c X (.Attribute e f pos) (dFld f δ) := pe_imp (pe_fld ha hb) fun σ H Q ⟨G, γ, P, S, h, k⟩ =>
  ⟨G, γ, _, S, h, fun d v H1 e p q => by
    obtain ⟨x, h1, p⟩ := p
    cases q <;> first | cases h1 | skip
    rename_i a dx u w g x1 x2 x3 e0 q1 q2 q3
    obtain ⟨v, h2, h3⟩ := fld_look h1 q1 q2 q3
    exact ⟨_, _, _, _, v, rfl, e0, hc, hn, h2, k x v H1 e p h3⟩⟩
/-! ### argument lists, displays -/
def aNil : AD := fun _ P => P []
def aCons (δ : ED) (α : AD) : AD := fun γ P => δ γ fun x => α γ fun xs => P (x :: xs)
theorem da_nil : DA c X [] aNil := pa_imp pa_nil fun σ H Q ⟨G, γ, P, S, h, k⟩ => k _ _ H Ex.refl h .nil
theorem da_cons (ha : DE c X e δ) (hr : DA c X es α) (hs : starEach (e :: es) X.env = (false, eval e X.env) :: starEach es X.env := by rfl) : DA c X (e :: es) (aCons δ α) := pa_imp (pa_cons ha hr hs) fun σ H Q ⟨G, γ, P, S, h, k⟩ =>
  ⟨G, γ, _, S, h, fun d v H1 e p q => ⟨G, γ, _, S.ex e, p, fun ds vs H2 e2 p2 q2 => k _ _ H2 (e.trans e2) p2 (.cons (Im.le e2.le S.sub _ _ q) q2)⟩⟩
def dTup (α : AD) : ED := fun γ P => α γ fun ds => ds.length ≤ 1000 ∧ P (.tup ds)
theorem de_tup {x1} (h : DA c X es α) : DE c X (.Tuple es x1 pos) (dTup α) := pe_imp (pe_tup h) fun σ H Q ⟨G, γ, P, S, h, k⟩ =>
  ⟨G, γ, _, S, h, fun ds vs H1 e p q => ⟨Nat.le_trans (by rw [q.length]; exact p.1) (by decide), fun p' hp => k _ _ _ (e.trans (Ex.new hp)) p.2 (.tup upd_same (Ims.le (Ex.new hp).le S.sub _ _ q))⟩⟩
theorem HpOK.fresh {p : Addr} (h : HpOK G H) (n : H p = none) : ¬ G.hpA p := fun ⟨hh, l, e, z⟩ => by
  obtain ⟨_, _, _, h1, h2, _⟩ := h hh l e
  rcases z with rfl | rfl
  · rw [n] at h1; cases h1
  · rw [n] at h2; cases h2
end
end DW
set_option Elab.async false
set_option linter.all false
set_option maxRecDepth 100000
set_option maxHeartbeats 1000000
set_option autoImplicit false
namespace DW
open PySem L2 K62
section
variable {c : Cst} {X : Cx} {G G' : Gh} {H H' : Hp} {γ : Ga} {σ : L2.St} {a b e e2 elt tg iter : Expr} {es rest ifs : List Expr} {pos : Pos} {δ δa δb δc : ED} {α : AD} {β β2 : BD} {M : Addr → Prop}
/-! ### an object that is avoided changes -/
structure isMu (p : Addr) (u : HO) : Prop where
  mt : isMt u
  nc : ∀ q, u ≠ LamX.CodeO p q
  nb : ¬ isTb u
theorem mu_lst {p : Addr} {xs : List V} : isMu p (.lst xs) := ⟨.inl ⟨xs, rfl⟩, fun q z => by (unfold LamX.CodeO at z; cases z), nb_lst⟩
theorem mu_dT {p : Addr} {xs : List (List Key × V)} : isMu p (.dT xs) := ⟨.inr (.inl ⟨xs, rfl⟩), fun q z => by (unfold LamX.CodeO at z; cases z), nb_dT⟩
theorem tabs_put {T : List (Addr × Str)} {p : Addr} {o u : HO} (h : H p = some u) (hu : isMu p u) (t : LamX.Tabs T H) : LamX.Tabs T (upd H p o) := by
  intro q hq
  obtain ⟨ps, h1, h2, h3⟩ := t q hq
  refine ⟨ps, ?_, h2, fun pos cv hc => ?_⟩
  · rw [upd_ne fun z => hu.nb ⟨ps, by rw [z, h] at h1; exact Option.some.inj h1⟩]
    exact h1
  · obtain ⟨c, e1, e2⟩ := h3 pos cv hc
    refine ⟨c, e1, ?_⟩
    rw [upd_ne fun z => hu.nc _ (by subst z; rw [h] at e2; exact Option.some.inj e2)]
    exact e2
theorem Ch.put {p : Addr} {o u : HO} (h : H p = some u) (hu : isMu p u) (ho : ¬ isTb o) : Ch c (fun a => a = p ∨ M a) H (upd H p o) := by
  refine ⟨fun a v e n m => ?_, fun a v e n => ?_, fun t => tabs_put h hu t⟩
  · by_cases ha : a = p
    · subst ha
      rw [h] at e
      cases e
      exact absurd hu.mt (m (.inl rfl))
    · rw [upd_ne ha]
      exact e
  · by_cases ha : a = p
    · subst ha
      exact ⟨o, upd_same, ho⟩
    · exact ⟨v, by rw [upd_ne ha]; exact e, n⟩
theorem HpOK.put {p : Addr} {o : HO} (h : HpOK G H) (n : ¬ G.hpA p) : HpOK G (upd H p o) := fun hh l q => by
  obtain ⟨h1, cs, st, h2, h3, h4⟩ := h hh l q
  exact ⟨h1, cs, st, by rw [upd_ne fun z => n ⟨hh, l, q, .inl z.symm⟩]; exact h2, by rw [upd_ne fun z => n ⟨hh, l, q, .inr z.symm⟩]; exact h3, h4⟩
theorem Ims.put {p : Addr} {o u : HO} (S : Sub G) (h : H p = some u) (hu : isMu p u) (ho : ¬ isTb o) (av : G.av p) (n : ¬ G.hpA p) {ds : List D} {vs : List V} (q : Ims c G H ds vs) : Ims c G (upd H p o) ds vs := by
  have L : Le c ⟨G.av, fun a => a = p, G.hp⟩ H ⟨G.av, fun a => a = p, G.hp⟩ (upd H p o) := ⟨rfl, fun _ h => h, fun _ h => .inl h, fun _ h => h, fun _ h => .inl h, Ch.put h hu ho, fun k => HpOK.put (G := G) k n⟩
  have S2 : Sub ⟨G.av, fun a => a = p, G.hp⟩ := ⟨fun a z => by (have z : a = p := z; rw [z]; exact av), fun a z => ⟨(S.hp a z).1, fun w => n (by (have w : a = p := w; rw [← w]; exact z))⟩⟩
  have q2 : Ims c ⟨G.av, fun a => a = p, G.hp⟩ H ds vs := Ims.less (G := G) (G' := ⟨G.av, fun a => a = p, G.hp⟩) rfl (fun _ h => h) _ _ q
  exact Ims.less (G := ⟨G.av, fun a => a = p, G.hp⟩) (G' := G) rfl (fun _ h => h) _ _ (Ims.le L S2 _ _ q2)
/-! ### new lists -/
def dLst (α : AD) : ED := fun γ P => α γ fun ds => P (.lst ds)
theorem de_ofL (h : DL c X e α) : DE c X e (dLst α) := pe_imp h fun σ H Q ⟨G, γ, P, S, h, k⟩ =>
  ⟨G, γ, _, S, h, fun ds p xs H' n e p' hp q => k _ _ H' e p' (.lst (.inl hp) (S.ok.new n) (Ims.less (G := G.with p) (G' := G) rfl (fun a z => .inl z) _ _ q))⟩
def aLst (α : AD) : AD := fun γ P => α γ fun ds => ds.length ≤ 1000 ∧ P ds
theorem dl_lst (h : DA c X es α) : DL c X (.List es pos) (aLst α) := pe_imp (pe_lst h) fun σ H Q ⟨G, γ, P, S, h, k⟩ =>
  ⟨G, γ, _, S, h, fun ds vs H1 e p q => ⟨Nat.le_trans (by rw [q.length]; exact p.1) (by decide), fun p' hp => k _ _ _ _ (e.ch.nT_back (nT.of hp)) (e.trans (Ex.new hp)) p.2 upd_same (Ims.le (Le.with (nT.of hp) (Ex.new hp)) S.sub _ _ q)⟩⟩
/-! ### iterators -/
def WalkD (c : Cst) (G : Gh) (J : It) (items : List D) (H1 : Hp) : Prop := ∃ (Gd : Hp → Prop) (Y : Nat → Hp → V → Hp → Prop), Walk J items.length Gd Y ∧ ∀ G2 H2, Le c G H1 G2 H2 → OkG c G2 H2 → Gd H2 ∧ ∀ (i : Nat) (d : D) (x : V) (H3 : Hp), items[i]? = some d → Y i H2 x H3 → Ex c G2 H2 H3 ∧ Im c G2 H3 d x
def cI (c : Cst) (ι : AD) : TI := fun σ H R => ∃ G γ P, SO c G γ σ H ∧ ι γ P ∧ ∀ items J H', Ex c G H H' → P items → WalkD c G J items H' → R J H'
abbrev DI (c : Cst) (X : Cx) (tg iter : Expr) (ι : AD) : Prop := PI X tg iter (cI c ι)
theorem pi_imp {w w' : TI} (h : PI X tg iter w) (i : ∀ σ H R, w' σ H R → w σ H R) : PI X tg iter w' := ⟨fun pins s σ H R I q => h.run pins s σ H R I (i σ H R q)⟩
theorem pi_or {w w' : TI} (h : PI X tg iter w) (h' : PI X tg iter w') : PI X tg iter (fun σ H R => w σ H R ∨ w' σ H R) := ⟨fun pins s σ H R I q => q.elim (h.run pins s σ H R I) (h'.run pins s σ H R I)⟩
theorem walk_same {K : PySem.W.Frag} {a : Addr} {ds : List D} {xs : List V} (S : Sub G) (h : H a = some (.tup xs)) (q : Ims c G H ds xs) : WalkD c G (Itt K a) ds H := by
  have w := walk_tup (K := K) (a := a) (xs := xs)
  rw [q.length] at w
  refine ⟨_, _, w, fun G2 H2 L S2 => ⟨SqT.of (L.ch.keep _ _ h nb_tup fun _ => nm_tup), fun i d x H3 hd hy => ?_⟩⟩
  obtain ⟨rfl, hx⟩ := hy
  obtain ⟨v, h1, h2⟩ := q.get hd
  rw [hx] at h1
  cases h1
  exact ⟨Ex.refl, Im.le L S _ _ h2⟩
theorem walk_sameL {K : PySem.W.Frag} {a : Addr} {ds : List D} {xs : List V} (S : Sub G) (h : Rd H a (.lst xs)) (n : ¬ G.av a) (q : Ims c G H ds xs) : WalkD c G (Itl K a) ds H := by
  have w := walk_list (K := K) (a := a) (xs := xs)
  rw [q.length] at w
  refine ⟨_, _, w, fun G2 H2 L S2 => ⟨.inl (Rd.le L h fun z => z.elim (fun z => n (S.W _ z)) fun z => n (S.hp _ z).1), fun i d x H3 hd hy => ?_⟩⟩
  obtain ⟨rfl, hx⟩ := hy
  obtain ⟨v, h1, h2⟩ := q.get hd
  rw [hx] at h1
  cases h1
  exact ⟨Ex.refl, Im.le L S _ _ h2⟩
/-- a tuple's, a list's items -/
def iSeq (δ : ED) : AD := fun γ P => δ γ fun d => ∃ ds, (d = .tup ds ∨ d = .lst ds) ∧ P ds
def iT (δ : ED) : AD := fun γ P => δ γ fun d => ∃ ds, d = .tup ds ∧ P ds
def iL (δ : ED) : AD := fun γ P => δ γ fun d => ∃ ds, d = .lst ds ∧ P ds
theorem dit (h : DE c X e δ) : DI c X tg e (iT δ) := pi_imp (pi_tup h) fun σ H R ⟨G, γ, P, S, h, k⟩ =>
  ⟨G, γ, _, S, h, fun d v H1 e p q => by
    obtain ⟨ds, rfl, p⟩ := p
    cases q with
    | tup e1 q1 => exact ⟨_, rfl, ⟨_, .of e1⟩, k _ _ _ e p (walk_same S.sub e1 q1)⟩⟩
theorem dil (h : DE c X e δ) : DI c X tg e (iL δ) := pi_imp (pi_list h) fun σ H R ⟨G, γ, P, S, h, k⟩ =>
  ⟨G, γ, _, S, h, fun d v H1 e p q => by
    obtain ⟨ds, rfl, p⟩ := p
    cases q with
    | lst e1 n q1 => exact ⟨_, rfl, ⟨_, .inl e1⟩, k _ _ _ e p (walk_sameL S.sub e1 n q1)⟩⟩
/-- a new list's items -/
theorem dil_new (h : DL c X e α) : DI c X tg e α := pi_imp (pi_list h) fun σ H R ⟨G, γ, P, S, h, k⟩ =>
  ⟨G, γ, _, S, h, fun ds p xs H' n e p' hp q => ⟨_, rfl, ⟨_, .inl (.inl hp)⟩, k _ _ _ e p' (walk_sameL S.sub (.inl hp) (S.ok.new n) (Ims.less (G := G.with p) (G' := G) rfl (fun a z => .inl z) _ _ q))⟩⟩
/-- a text's signs -/
def iS (δ : ED) : AD := fun γ P => δ γ fun d => ∃ z : Str, d = .str z ∧ P (z.cps.toList.map fun ch => .str ⟨#[ch]⟩)
theorem dis (h : DE c X e δ) : DI c X tg e (iS δ) := pi_imp (pi_str h) fun σ H R ⟨G, γ, P, S, h, k⟩ =>
  ⟨G, γ, _, S, h, fun d v H1 e p q => by
    obtain ⟨z, rfl, p⟩ := p
    cases q
    have w := walk_str (z := z)
    rw [show z.cps.size = (z.cps.toList.map fun ch => D.str ⟨#[ch]⟩).length by simp] at w
    refine ⟨z, rfl, k _ _ _ e p ⟨_, _, w, fun G2 H2 L S2 => ⟨True.intro, fun i d x H3 hd hy => ?_⟩⟩⟩
    obtain ⟨rfl, ch, h1, rfl⟩ := hy
    rw [List.getElem?_map, show z.cps.toList[i]? = some ch by simpa using h1] at hd
    cases hd
    exact ⟨Ex.refl, .str⟩⟩
/-- range(n) -/
def iR (α : AD) : AD := fun γ P => α γ fun ds => ∃ n : Int, ds = [.int n] ∧ (-1000000 ≤ n ∧ n ≤ 1000000) ∧ P ((List.range n.toNat).map fun i => .int (i : Nat))
theorem dir {p : Pos} (hg : Gl X "range") (hm : X.mg "range" = none) (ha : DA c X [a] α) (hs : starEach [a] X.env = [(false, eval a X.env)] := by rfl) : DI c X tg (.Call (.Name "range" p) [a] [] pos) (iR α) := pi_imp (pi_range1 hg hm ha hs) fun σ H R ⟨G, γ, P, S, h, k⟩ =>
  ⟨G, γ, _, S, h, fun ds vs H1 e p q => by
    obtain ⟨n, rfl, ⟨h1, h2⟩, p⟩ := p
    cases q with
    | cons q1 q2 =>
      cases q2
      cases q1
      have w := walk_range (lo := 0) (n := n.toNat)
      have wl : n.toNat = ((List.range n.toNat).map fun i => D.int (i : Nat)).length := by simp
      refine ⟨n, rfl, by omega, by omega, k _ _ _ e p ⟨fun _ => True, YFn fun i => .int ((0 : Int) + i), by rw [← wl]; exact w, fun G2 H2 L S2 => ⟨True.intro, fun i d x H3 hd hy => ?_⟩⟩⟩
      obtain ⟨rfl, rfl⟩ := hy
      rw [List.getElem?_map] at hd
      cases hr : (List.range n.toNat)[i]? with
      | none => rw [hr] at hd; cases hd
      | some j =>
        rw [hr] at hd
        cases hd
        obtain ⟨_, rfl⟩ := List.getElem?_eq_some_iff.mp hr
        rw [List.getElem_range]
        refine ⟨Ex.refl, ?_⟩
        show Im c G2 _ (.int (i : Nat)) (.int ((0 : Int) + (i : Nat)))
        rw [Int.zero_add]
        exact .int⟩
/-- pairs -/
theorem pair_im (S : Sub G) {T : Addr} {x y : V} {dx dy : D} (n : H T = none) (h1 : Im c G H dx x) (h2 : Im c G H dy y) : Ex c G H (upd H T (.tup [x, y])) ∧ Im c G (upd H T (.tup [x, y])) (.tup [dx, dy]) (.ref T) :=
  ⟨Ex.new n, .tup upd_same (.cons (Im.le (Ex.new n).le S _ _ h1) (.cons (Im.le (Ex.new n).le S _ _ h2) .nil))⟩
def iEn (α : AD) : AD := fun γ P => α γ fun ds => ∃ xs, ds = [.tup xs] ∧ P (xs.zipIdx.map fun p => .tup [.int (p.2 : Nat), p.1])
theorem Le.sub (L : Le c G H G' H') (S : OkG c G' H') : Sub G' := S.sub
/-- Im at a later heap, its own avoidance set fit -/
theorem die {p tpos : Pos} {elts : List Expr} {kk : Nat} (hg : Gl X "enumerate") (hm : X.mg "enumerate" = none) (ha : DA c X [a] α) (hs : starEach [a] X.env = [(false, eval a X.env)] := by rfl) : DI c X (.Tuple elts kk tpos) (.Call (.Name "enumerate" p) [a] [] pos) (iEn α) := pi_imp (Gp.pi_enumT hg hm ha hs) fun σ H R ⟨G, γ, P, S, h, k⟩ =>
  ⟨G, γ, _, S, h, fun ds vs H1 e p q => by
    obtain ⟨xs, rfl, p⟩ := p
    cases q with
    | cons q1 q2 =>
      cases q2
      cases q1 with
      | tup e1 q1 =>
        rename_i a ys
        have w := Gp.walk_enumT (K := X.K) (a := a) (xs := ys)
        rw [show ys.length = (xs.zipIdx.map fun p => D.tup [.int (p.2 : Nat), p.1]).length by rw [List.length_map, List.length_zipIdx, q1.length]] at w
        refine ⟨_, ys, rfl, .of e1, k _ _ _ e p ⟨_, _, w, fun G2 H2 L S2 => ⟨SqT.of (L.ch.keep _ _ e1 nb_tup fun _ => nm_tup), fun i d x H3 hd hy => ?_⟩⟩⟩
        obtain ⟨T, y1, y2, rfl, hT, rfl, h1, h2⟩ := hy
        cases h1
        rw [List.getElem?_map, List.getElem?_zipIdx] at hd
        cases hx : xs[i]? with
        | none => rw [hx] at hd; cases hd
        | some d0 =>
          rw [hx] at hd
          cases hd
          obtain ⟨v, h3, h4⟩ := q1.get hx
          have h2 : ys[i]? = some y2 := h2
          rw [h2] at h3
          cases h3
          have i2 := Im.le L S.sub _ _ h4
          exact ⟨Ex.new hT, .tup upd_same (.cons (by show Im c G2 _ (.int ((0 + i : Nat) : Int)) _; rw [Nat.zero_add]; exact .int) (.cons (Im.le (Ex.new hT).le S2.sub _ _ i2) .nil))⟩⟩

def iZp (α : AD) : AD := fun γ P => α γ fun ds => ∃ xs ys, ds = [.tup xs, .tup ys] ∧ P ((xs.zip ys).map fun p => .tup [p.1, p.2])
theorem diz {p tpos : Pos} {elts : List Expr} {kk : Nat} (hg : Gl X "zip") (hm : X.mg "zip" = none) (ha : DA c X [a, b] α) (hs : starEach [a, b] X.env = (false, eval a X.env) :: starEach [b] X.env := by rfl) (hpl : (backTo pos (starEach [b] X.env)).any (·.1) = false := by rfl) : DI c X (.Tuple elts kk tpos) (.Call (.Name "zip" p) [a, b] [] pos) (iZp α) := pi_imp (RZ.pi_zipA hg hm ha hs hpl) fun σ H R ⟨G, γ, P, S, h, k⟩ =>
  ⟨G, γ, _, S, h, fun ds vs H1 e p q => by
    obtain ⟨xs, ys, rfl, p⟩ := p
    cases q with
    | cons q1 q2 =>
      cases q2 with
      | cons q2 q3 =>
      cases q3
      cases q1 with
      | tup e1 q1 =>
      cases q2 with
      | tup e2 q2 =>
        rename_i a1 zs b1 us
        have w := Gp.walk_zipT (K := X.K) (a := a1) (b := b1) (xs := zs) (ys := us) (n := ((xs.zip ys).map fun p => D.tup [p.1, p.2]).length) (by rw [List.length_map, List.length_zip, q1.length, q2.length])
        refine ⟨_, _, zs, us, rfl, .inr ⟨.of e1, .of e2, k _ _ _ e p ⟨_, _, w, fun G2 H2 L S2 => ⟨⟨SqT.of (L.ch.keep _ _ e1 nb_tup fun _ => nm_tup), SqT.of (L.ch.keep _ _ e2 nb_tup fun _ => nm_tup)⟩, fun i d x H3 hd hy => ?_⟩⟩⟩⟩
        obtain ⟨T, y1, y2, rfl, hT, rfl, h1, h2⟩ := hy
        have h1 : zs[i]? = some y1 := h1
        have h2 : us[i]? = some y2 := h2
        obtain ⟨d1, h3, h4⟩ := q1.get' h1
        obtain ⟨d2, h5, h6⟩ := q2.get' h2
        have hz : (xs.zip ys)[i]? = some (d1, d2) := List.getElem?_zip_eq_some.mpr ⟨h3, h5⟩
        rw [List.getElem?_map, hz] at hd
        cases hd
        exact pair_im S2.sub hT (Im.le L S.sub _ _ h4) (Im.le L S.sub _ _ h6)⟩
/-! ### targets -/
abbrev GD := D → Ga → (Ga → Prop) → Prop
abbrev GDs := List D → Ga → (Ga → Prop) → Prop
def cG (c : Cst) (vs : List Nat) (β : GD) : TG := fun v σ H Q => ∃ G γ d P, SO c G γ σ H ∧ Im c G H d v ∧ β d γ P ∧ ∀ γ' σ', SO c G γ' σ' H → wipe σ' vs = wipe σ vs → P γ' → Q σ' H
def cGs (c : Cst) (vs : List Nat) (β : GDs) : TGs := fun us σ H Q => ∃ G γ ds P, SO c G γ σ H ∧ Ims c G H ds us ∧ β ds γ P ∧ ∀ γ' σ', SO c G γ' σ' H → wipe σ' vs = wipe σ vs → P γ' → Q σ' H
theorem pg_imp {t t' : TG} (h : PG X e t) (i : ∀ v σ H Q, t' v σ H Q → t v σ H Q) : PG X e t' := ⟨fun pins s σ H v u Q I r q => h.run pins s σ H v u Q I r (i v σ H Q q)⟩
theorem pgs_imp {t t' : TGs} (h : PGs X es t) (i : ∀ v σ H Q, t' v σ H Q → t v σ H Q) : PGs X es t' := ⟨fun pins s σ H v u Q I r q => h.run pins s σ H v u Q I r (i v σ H Q q)⟩
theorem wipe_get {vs : List Nat} {σ : L2.St} {i : Nat} (h : i ∈ vs) (hl : i < σ.length) : (wipe σ vs)[i]? = some none := by
  induction vs with
  | nil => simp at h
  | cons v r ih =>
    show ((wipe σ r).set v none)[i]? = _
    by_cases e : v = i
    · subst e
      rw [List.getElem?_set_self (by rw [wipe_length]; exact hl)]
    · rw [List.getElem?_set_ne e]
      refine ih ?_
      rcases List.mem_cons.mp h with z | z
      · exact absurd z.symm e
      · exact z
theorem wipe_eq {vs : List Nat} {σ σ' : L2.St} (hl : σ'.length = σ.length) (h : ∀ i, i ∉ vs → σ'[i]? = σ[i]?) : wipe σ' vs = wipe σ vs := by
  apply List.ext_getElem?
  intro i
  by_cases hi : i ∈ vs
  · by_cases hs : i < σ.length
    · rw [wipe_get hi hs, wipe_get hi (by rw [hl]; exact hs)]
    · rw [List.getElem?_eq_none (by rw [wipe_length]; omega), List.getElem?_eq_none (by rw [wipe_length]; omega)]
  · rw [wipe_out hi, wipe_out hi, h i hi]
theorem wipe_set {vs : List Nat} {σ : L2.St} {j : Nat} {x : Option V} (h : j ∈ vs) : wipe (σ.set j x) vs = wipe σ vs := wipe_eq (by simp) fun i hi => by
  rw [List.getElem?_set_ne]
  rintro rfl
  exact hi h
theorem wipe_wipe {vs : List Nat} {σ : L2.St} : wipe (wipe σ vs) vs = wipe σ vs := wipe_eq (wipe_length _ _) fun i hi => wipe_out hi
def gN (j : Nat) : GD := fun d γ P => P (γ.set j (some (.d d)))
theorem dgn {j : Nat} {x : Str} {vs : List Nat} (hN : X.N.Nodup) (hi : X.N[j]? = some x) (hx : Loc X.env.scope x) (hj : j ∈ vs := by decide) (hf : X.fn x = true ∨ X.env.scope.names.lookup x = some .local := by first | exact .inl rfl | exact .inr rfl | assumption) : PG X (.Name x pos) (cG c vs (gN j)) :=
  pg_imp (pg_name hN hi hx hf) fun v σ H Q ⟨G, γ, d, P, S, i, h, k⟩ => k _ _ (S.set i) (wipe_set hj) h
def gNl : GDs := fun ds γ P => ds = [] ∧ P γ
def gCn (β : GD) (βs : GDs) : GDs := fun ds γ P => ∃ d r, ds = d :: r ∧ β d γ fun γ' => βs r γ' P
theorem dgs_nil {vs : List Nat} : PGs X [] (cGs c vs gNl) := pgs_imp pgs_nil fun us σ H Q ⟨G, γ, ds, P, S, i, h, k⟩ => by
  obtain ⟨rfl, h⟩ := h
  cases i
  exact ⟨rfl, k γ σ S rfl h⟩
theorem dgs_cons {vs : List Nat} {β : GD} {βs : GDs} (h1 : PG X e (cG c vs β)) (h2 : PGs X es (cGs c vs βs)) (hs : (assignEach (e :: es) X.env).map (·.2) = assign e X.env :: (assignEach es X.env).map (·.2) := by rfl) : PGs X (e :: es) (cGs c vs (gCn β βs)) := pgs_imp (pgs_cons h1 h2 hs) fun us σ H Q ⟨G, γ, ds, P, S, i, h, k⟩ => by
  obtain ⟨d, r, rfl, h⟩ := h
  cases i with
  | cons q qs => exact ⟨_, _, rfl, G, γ, d, _, S, q, h, fun γ' σ' S' w' h' => ⟨G, γ', r, P, S', qs, h', fun γ2 σ2 S2 w2 h2 => k γ2 σ2 S2 (w2.trans w') h2⟩⟩
def gTp (n : Nat) (βs : GDs) : GD := fun d γ P => ∃ ds, d = .tup ds ∧ ds.length = n ∧ βs ds γ P
theorem dgt {vs : List Nat} {βs : GDs} {k n : Nat} (hc : X.calm = true) (h : PGs X es (cGs c vs βs)) (hn : (assignEach es X.env).length = n := by rfl) (hst : (assignEach es X.env).findIdx? (·.1) = none := by rfl) : PG X (.Tuple es k pos) (cG c vs (gTp n βs)) := pg_imp (pg_tup hc h hn hst) fun v σ H Q ⟨G, γ, d, P, S, i, h, k⟩ => by
  obtain ⟨ds, rfl, hl, h⟩ := h
  cases i with
  | tup e q => exact ⟨_, _, rfl, .of e, q.length.trans hl, G, γ, ds, P, S, q, h, k⟩
/-! ### tests of a comprehension -/
theorem dts_nil : PTs X [] (cT c fun _ P => P true) := pts_imp pts_nil fun σ H Q ⟨G, γ, P, S, h, k⟩ => k true H Ex.refl h
theorem dts_one {e : Expr} (h : DT c X e β) : PTs X [e] (cT c β) := pts_one h
end
/-! ### comprehensions -/
def lcW (β : GD) (τ : BD) (δ : ED) (γ : Ga) : List D → List D → (List D → Prop) → Prop
  | [], acc, P => P acc
  | x :: r, acc, P => β x γ fun γ2 => τ γ2 fun b => if b = true then δ γ2 fun y => lcW β τ δ γ r (acc ++ [y]) P else lcW β τ δ γ r acc P
def dLc (ι : AD) (β : GD) (τ : BD) (δ : ED) (vs : List Nat) : AD := fun γ P => ι γ fun items => items.length ≤ 1000 ∧ lcW β τ δ (wipeG γ vs) items [] P
section
variable {c : Cst} {X : Cx} {G : Gh} {H H' : Hp} {σ : L2.St} {elt tg iter : Expr} {ifs : List Expr} {pos : Pos} {δ : ED} {ι : AD} {β : GD} {τ : BD}
theorem SO.wEx {γ : Ga} (S : SO c G γ σ H) {D : Addr} (hD : H D = Option.none) (e : Ex c G H H') {xs : List V} (h : H' D = some (.lst xs)) : SO c (G.with D) γ σ H' := S.with (nT.of hD) e fun n => nb_lst (n _ h)
theorem ex_with {p : Addr} (e : Ex c (G.with p) H H') : Ex c G H H' := ⟨e.ch, e.hok⟩
theorem ex_put {p : Addr} {xs ys : List V} {H0 : Hp} (n0 : H0 p = none) (e : Ex c G H0 H) (h : H p = some (.lst xs)) (hn : ¬ G.hpA p) : Ex c G H0 (upd H p (.lst ys)) := by
  have P := Ch.put (c := c) (M := G.hpA) (o := .lst ys) h mu_lst nb_lst
  refine ⟨⟨fun a o q t m => P.keep a o (e.ch.keep a o q t m) t fun z => z.elim (fun z => by (rw [z, n0] at q; cases q)) m, fun a o q t => let ⟨o', q', t'⟩ := e.ch.dom a o q t; P.dom a o' q' t', fun t => P.tabs (e.ch.tabs t)⟩, fun k => HpOK.put (e.hok k) hn⟩
theorem lc_of {vs : List Nat} (Q : VK) (h : cL c (dLc ι β τ δ vs) σ H Q) : tLc (cI c ι) (cG c vs β) (cT c τ) (cE c δ) vs σ H Q := by
  obtain ⟨G, γ, P, S, h, k⟩ := h
  refine ⟨G, γ, _, S, h, fun items J H1 e1 p w => fun Dd hD => ?_⟩
  obtain ⟨hlen, hp⟩ := p
  obtain ⟨Gd, Y, wk, wy⟩ := w
  have S1 := S.ex e1
  have hn : ¬ G.hpA Dd := HpOK.fresh S1.hok hD
  have okOf : ∀ {H' : Hp} {xs : List V}, Ex c G H1 H' → H' Dd = some (.lst xs) → OkG c (G.with Dd) H' := fun e h => (S1.wEx hD e h).ok
  refine lc_it wk (fun i H' => Ex c G H1 H' ∧ ∃ acc xs, H' Dd = some (.lst xs) ∧ Ims c (G.with Dd) H' acc xs ∧ acc.length ≤ i ∧ lcW β τ δ (wipeG γ vs) (items.drop i) acc P) ?_ ?_ ?_ ?_
  · exact ⟨Ex.new hD, [], [], upd_same, .nil, Nat.le_refl _, hp⟩
  · rintro i H' _ ⟨e2, acc, xs, h1, _⟩
    exact (wy (G.with Dd) H' (Le.with (nT.of hD) e2) (okOf e2 h1)).1
  · rintro i x H' H'' hi ⟨e2, acc, xs, h1, h2, h3, h4⟩ hy
    obtain ⟨d, hd⟩ : ∃ d, items[i]? = some d := ⟨_, List.getElem?_eq_getElem hi⟩
    obtain ⟨e3, i3⟩ := (wy (G.with Dd) H' (Le.with (nT.of hD) e2) (okOf e2 h1)).2 i d x H'' hd hy
    have e23 := e2.trans (ex_with e3)
    have h1' : H'' Dd = some (.lst xs) := e3.ch.keep _ _ h1 nb_lst fun z => absurd z hn
    have SO2 := (S1.wEx hD e23 h1').wipe vs
    have ed : items.drop i = d :: items.drop (i + 1) := by
      rw [List.drop_eq_getElem_cons hi]
      rw [List.getElem?_eq_getElem hi] at hd
      cases hd
      rfl
    rw [ed] at h4
    refine ⟨G.with Dd, _, d, _, SO2, i3, h4, fun γ' σ' S' hw hp' => ⟨hw.trans wipe_wipe, G.with Dd, γ', _, S', hp', fun b H3 e4 p4 => ?_⟩⟩
    have e34 := e23.trans (ex_with e4)
    have h5 : H3 Dd = some (.lst xs) := e4.ch.keep _ _ h1' nb_lst fun z => absurd z hn
    have q5 : Ims c (G.with Dd) H3 acc xs := Ims.le (e3.trans e4).le S'.sub _ _ h2
    cases b with
    | true =>
      refine ⟨G.with Dd, γ', _, S'.ex e4, p4, fun y v H4 e5 p5 i5 => ⟨xs, e5.ch.keep _ _ h5 nb_lst fun z => absurd z hn, ?_, ?_⟩⟩
      · rw [q5.length]
        exact small1000 (by omega)
      · have h6 : H4 Dd = some (.lst xs) := e5.ch.keep _ _ h5 nb_lst fun z => absurd z hn
        refine ⟨ex_put hD (e34.trans (ex_with e5)) h6 hn, acc ++ [y], xs ++ [v], upd_same, ?_, by rw [List.length_append, List.length_singleton]; omega, p5⟩
        exact Ims.put S'.sub h6 mu_lst nb_lst (.inr rfl) hn ((Ims.le e5.le S'.sub _ _ q5).append (.one i5))
    | false => exact ⟨e34, acc, xs, h5, q5, by omega, p4⟩
  · rintro H' ⟨e2, acc, xs, h1, h2, h3, h4⟩
    rw [List.drop_length] at h4
    exact k acc Dd xs H' (e1.ch.nT_back (nT.of hD)) (e1.trans e2) h4 h1 h2
theorem dl_lc {scope : Scope} {own : List (Str × Nat)} (hc : X.calm = true) (hN : X.N.Nodup) (hi : DI c X tg iter ι) (ok : BlkOk X.N X.env.scope scope own)
    (hg : ∀ (s : Shared) (H : Hp) (C : Addr) (cl : List (Str × Addr)) (fp : List Addr), PG (X.blk s H scope (compEnvC scope cl C X.env) fp) tg (cG c (own.map (·.2)) β)) (ht : ∀ (s : Shared) (H : Hp) (C : Addr) (cl : List (Str × Addr)) (fp : List Addr), PTs (X.blk s H scope (compEnvC scope cl C X.env) fp) ifs (cT c τ))
    (he : ∀ (s : Shared) (H : Hp) (C : Addr) (cl : List (Str × Addr)) (fp : List Addr), DE c (X.blk s H scope (compEnvC scope cl C X.env) fp) elt δ) (hs : ∀ x, foldedSetIterable iter X.env x = pure x := by intro _; rfl) :
    DL c X (.ListComp elt [⟨tg, iter, ifs, 0⟩] scope pos) (dLc ι β τ δ (own.map (·.2))) := pe_imp (pe_lc hc hN hi ok hg ht he hs) fun _ _ Q h => lc_of Q h
end
end DW
set_option Elab.async false
set_option linter.all false
set_option maxRecDepth 100000
set_option maxHeartbeats 1000000
set_option autoImplicit false
namespace DW
open PySem L2 K62
section
variable {c : Cst} {X : Cx} {G G' : Gh} {H H' : Hp} {γ : Ga} {σ : L2.St} {a b e e2 elt tg iter : Expr} {es rest ifs : List Expr} {pos : Pos} {δ δa δb δc : ED} {α ι : AD} {β β2 : BD}
/-! ### built-in functions -/
def RCD (c : Cst) (r : List V → Hp → VK → Prop) (o : List D → (D → Prop) → Prop) : Prop := ∀ (G : Gh) (H : Hp) (ds : List D) (vs : List V) (P : D → Prop) (Q : VK), OkG c G H → Ims c G H ds vs → o ds P → (∀ d w H', Ex c G H H' → P d → Im c G H' d w → Q w H') → r vs H Q
def dCB (o : List D → (D → Prop) → Prop) (α : AD) : ED := fun γ P => α γ fun ds => o ds P
theorem tCB_of {r : List V → Hp → VK → Prop} {o : List D → (D → Prop) → Prop} (hr : RCD c r o) (Q : VK) (h : cE c (dCB o α) σ H Q) : tCB r (cA c α) σ H Q := by
  obtain ⟨G, γ, P, S, h, k⟩ := h
  exact ⟨G, γ, _, S, h, fun ds vs H1 e p q => hr G H1 ds vs P Q (S.ok.ex e) q p fun d w H2 e2 => k d w H2 (e.trans e2)⟩
theorem de_blt {x : Str} {p : Pos} {id : String} {r : List V → Hp → VK → Prop} {o : List D → (D → Prop) → Prop} (hr : RCD c r o) (hc : CallR X (.builtin id) r) (hg : Gl X x) (hm : X.mg x = none) (ha : DA c X (e :: es) α) (hv : bootBuiltins x = some (.builtin id) := by decide +kernel) (hn : x ≠ "__name__" := by decide) (hdb : (x == ("__debug__" : Str)) = false := by decide)
    (he : starEach (e :: es) X.env = (false, eval e X.env) :: starEach es X.env := by rfl) (hpl : (backTo pos (starEach es X.env)).any (·.1) = false := by rfl) : DE c X (.Call (.Name x p) (e :: es) [] pos) (dCB o α) := pe_imp (pe_callB hc hg hm hv ha hn hdb he hpl) fun _ _ Q h => tCB_of hr Q h
theorem de_bty {x : Str} {p : Pos} {T : String} {r : List V → Hp → VK → Prop} {o : List D → (D → Prop) → Prop} (hr : RCD c r o) (hc : CallR X (.type T) r) (hg : Gl X x) (hm : X.mg x = none) (ha : DA c X (e :: es) α) (hv : bootBuiltins x = some (.type T) := by decide +kernel) (hn : x ≠ "__name__" := by decide) (hdb : (x == ("__debug__" : Str)) = false := by decide)
    (he : starEach (e :: es) X.env = (false, eval e X.env) :: starEach es X.env := by rfl) (hpl : (backTo pos (starEach es X.env)).any (·.1) = false := by rfl) : DE c X (.Call (.Name x p) (e :: es) [] pos) (dCB o α) := pe_imp (pe_callTy hc hg hm hv ha hn hdb he hpl) fun _ _ Q h => tCB_of hr Q h
theorem Ims.one_of {ds : List D} {vs : List V} {d : D} (h : Ims c G H ds vs) (e : ds = [d]) : ∃ v, vs = [v] ∧ Im c G H d v := by
  subst e
  cases h with
  | cons q r => cases r; exact ⟨_, rfl, q⟩
theorem Ims.two_of {ds : List D} {vs : List V} {d d2 : D} (h : Ims c G H ds vs) (e : ds = [d, d2]) : ∃ v v2, vs = [v, v2] ∧ Im c G H d v ∧ Im c G H d2 v2 := by
  subst e
  cases h with
  | cons q r =>
    cases r with
    | cons q2 r2 => cases r2; exact ⟨_, _, rfl, q, q2⟩
def oLen (ds : List D) (P : D → Prop) : Prop := (∃ xs, (ds = [.tup xs] ∨ ds = [.lst xs]) ∧ P (.int xs.length)) ∨ ∃ s : Str, ds = [.str s] ∧ s.length ≤ 1000 ∧ P (.int s.length)
theorem rc_len {K : PySem.W.Frag} : RCD c (fun xs H Q => ∃ x n, xs = [x] ∧ LenV K x H n ∧ Q (.int n) H) oLen := by
  intro G H ds vs P Q S q h k
  rcases h with ⟨xs, rfl | rfl, p⟩ | ⟨s, rfl, hl, p⟩ <;> obtain ⟨v, rfl, i⟩ := q.one_of rfl
  · cases i with
    | tup e q1 => exact ⟨_, _, rfl, .inr ⟨_, .of e, rfl⟩, by rw [q1.length]; exact k _ _ _ Ex.refl p .int⟩
  · cases i with
    | lst e n q1 => exact ⟨_, _, rfl, .inl ⟨_, .inl e, rfl⟩, by rw [q1.length]; exact k _ _ _ Ex.refl p .int⟩
  · cases i
    exact ⟨_, _, rfl, ⟨Nat.le_trans hl (by decide), rfl⟩, k _ _ _ Ex.refl p .int⟩
def oAbs (ds : List D) (P : D → Prop) : Prop := ∃ i : Int, ds = [.int i] ∧ P (.int (if i < 0 then -i else i))
theorem rc_abs : RCD c (fun xs H Q => ∃ i, xs = [.int i] ∧ Q (.int (if i < 0 then -i else i)) H) oAbs := by
  intro G H ds vs P Q S q ⟨i, e, p⟩ k
  obtain ⟨v, rfl, im⟩ := q.one_of e
  cases im
  exact ⟨i, rfl, k _ _ _ Ex.refl p .int⟩
def oMax2 (ds : List D) (P : D → Prop) : Prop := ∃ i j : Int, ds = [.int i, .int j] ∧ P (.int (if j > i then j else i))
theorem rc_max2 : RCD c (fun xs H Q => ∃ i j, xs = [.int i, .int j] ∧ Q (.int (if j > i then j else i)) H) oMax2 := by
  intro G H ds vs P Q S q ⟨i, j, e, p⟩ k
  obtain ⟨v, v2, rfl, im, im2⟩ := q.two_of e
  cases im
  cases im2
  exact ⟨i, j, rfl, k _ _ _ Ex.refl p .int⟩
def oMin2 (ds : List D) (P : D → Prop) : Prop := ∃ i j : Int, ds = [.int i, .int j] ∧ P (.int (if j < i then j else i))
theorem rc_min2 : RCD c (fun xs H Q => ∃ i j, xs = [.int i, .int j] ∧ Q (.int (if j < i then j else i)) H) oMin2 := by
  intro G H ds vs P Q S q ⟨i, j, e, p⟩ k
  obtain ⟨v, v2, rfl, im, im2⟩ := q.two_of e
  cases im
  cases im2
  exact ⟨i, j, rfl, k _ _ _ Ex.refl p .int⟩
def oMinT (ds : List D) (P : D → Prop) : Prop := ∃ (n : Int) (ns : List Int), ds = [.tup ((n :: ns).map .int)] ∧ P (.int (ns.foldl min n))
theorem rc_minT {K : PySem.W.Frag} : RCD c (Gp.rMinT K) oMinT := by
  intro G H ds vs P Q S q ⟨n, ns, e, p⟩ k
  obtain ⟨v, rfl, im⟩ := q.one_of e
  cases im with
  | tup e1 q1 =>
    obtain rfl := q1.ints
    exact ⟨_, n, ns, rfl, .of e1, k _ _ _ Ex.refl p .int⟩
def oSum (ds : List D) (P : D → Prop) : Prop := ∃ ns : List Int, ds = [.lst (ns.map .int)] ∧ P (.int ns.sum)
theorem rc_sum {K : PySem.W.Frag} : RCD c (rSum K) oSum := by
  intro G H ds vs P Q S q ⟨ns, e, p⟩ k
  obtain ⟨v, rfl, im⟩ := q.one_of e
  cases im with
  | lst e1 n q1 =>
    obtain rfl := q1.ints
    exact ⟨_, ns, rfl, .inl e1, k _ _ _ Ex.refl p .int⟩
def oAll (ds : List D) (P : D → Prop) : Prop := ∃ ns : List Bool, ds = [.lst (ns.map .bl)] ∧ P (.bl (ns.all id))
theorem rc_all {K : PySem.W.Frag} : RCD c (rAll K) oAll := by
  intro G H ds vs P Q S q ⟨ns, e, p⟩ k
  obtain ⟨v, rfl, im⟩ := q.one_of e
  cases im with
  | lst e1 n q1 =>
    obtain rfl := q1.bls
    exact ⟨_, ns, rfl, .inl e1, k _ _ _ Ex.refl p .bl⟩
def oAny (ds : List D) (P : D → Prop) : Prop := ∃ ns : List Bool, ds = [.lst (ns.map .bl)] ∧ P (.bl (ns.any id))
theorem rc_any {K : PySem.W.Frag} : RCD c (rAny K) oAny := by
  intro G H ds vs P Q S q ⟨ns, e, p⟩ k
  obtain ⟨v, rfl, im⟩ := q.one_of e
  cases im with
  | lst e1 n q1 =>
    obtain rfl := q1.bls
    exact ⟨_, ns, rfl, .inl e1, k _ _ _ Ex.refl p .bl⟩
def oInt (ds : List D) (P : D → Prop) : Prop := (∃ i : Int, ds = [.int i] ∧ P (.int i)) ∨ ∃ b : Bool, ds = [.bl b] ∧ P (.int (if b then 1 else 0))
theorem rc_int : RCD c (fun xs H Q => (∃ i, xs = [.int i] ∧ Q (.int i) H) ∨ ∃ k, xs = [.bl k] ∧ Q (.int (if k then 1 else 0)) H) oInt := by
  intro G H ds vs P Q S q h k
  rcases h with ⟨i, e, p⟩ | ⟨b, e, p⟩ <;> obtain ⟨v, rfl, im⟩ := q.one_of e <;> cases im
  · exact .inl ⟨i, rfl, k _ _ _ Ex.refl p .int⟩
  · exact .inr ⟨b, rfl, k _ _ _ Ex.refl p .int⟩
def oTupOf (ds : List D) (P : D → Prop) : Prop := ∃ xs, (ds = [.lst xs] ∨ ds = [.tup xs]) ∧ P (.tup xs)
theorem rc_tup {K : PySem.W.Frag} : RCD c (fun xs H Q => ∃ p ys, xs = [.ref p] ∧ ((SqL K H p ys ∧ ∀ l, H l = none → Q (.ref l) (upd H l (.tup ys))) ∨ (SqT K H p ys ∧ Q (.ref p) H))) oTupOf := by
  intro G H ds vs P Q S q ⟨xs, e, p⟩ k
  rcases e with e | e <;> obtain ⟨v, rfl, im⟩ := q.one_of e
  · cases im with
    | lst e1 n q1 => exact ⟨_, _, rfl, .inl ⟨.inl e1, fun l hl => k _ _ _ (Ex.new hl) p (.tup upd_same (Ims.le (Ex.new hl).le S.sub _ _ q1))⟩⟩
  · cases im with
    | tup e1 q1 => exact ⟨_, _, rfl, .inr ⟨.of e1, k _ _ _ Ex.refl p (.tup e1 q1)⟩⟩
/-- list(..), a new list -/
def aListOf (α : AD) : AD := fun γ P => α γ fun ds => ∃ xs, (ds = [.lst xs] ∨ ds = [.tup xs]) ∧ P xs
theorem dl_list {p : Pos} (hg : Gl X "list") (hm : X.mg "list" = none) (ha : DA c X [e] α) (he : starEach [e] X.env = (false, eval e X.env) :: starEach [] X.env := by rfl) (hpl : (backTo pos (starEach [] X.env)).any (·.1) = false := by rfl) : DL c X (.Call (.Name "list" p) [e] [] pos) (aListOf α) := pe_imp (pe_callTy call_list_of hg hm (by decide +kernel) ha (by decide) (by decide) he hpl) fun σ H Q ⟨G, γ, P, S, h, k⟩ =>
  ⟨G, γ, _, S, h, fun ds vs H1 e p q => by
    obtain ⟨xs, e0, p⟩ := p
    rcases e0 with e0 | e0 <;> obtain ⟨v, rfl, im⟩ := q.one_of e0
    · cases im with
      | lst e1 n q1 => exact ⟨_, _, rfl, .inl (.inl e1), fun l hl => k _ _ _ _ (e.ch.nT_back (nT.of hl)) (e.trans (Ex.new hl)) p upd_same (Ims.le (Le.with (nT.of hl) (Ex.new hl)) S.sub _ _ q1)⟩
    · cases im with
      | tup e1 q1 => exact ⟨_, _, rfl, .inr (.of e1), fun l hl => k _ _ _ _ (e.ch.nT_back (nT.of hl)) (e.trans (Ex.new hl)) p upd_same (Ims.le (Le.with (nT.of hl) (Ex.new hl)) S.sub _ _ q1)⟩⟩
/-- a list times a number -/
def aRep (α : AD) (δ : ED) : AD := fun γ P => α γ fun xs => δ γ fun d => ∃ n : Int, d = .int n ∧ (0 ≤ n ∧ n ≤ 1000 ∧ xs.length ≤ 10) ∧ P (List.replicate n.toNat xs).flatten
theorem dl_rep (ha : DL c X a α) (hb : DE c X b δ) : DL c X (.BinOp a .Mult b pos) (aRep α δ) := pe_imp (pe_op op_rep ha hb) fun σ H Q ⟨G, γ, P, S, h, k⟩ =>
  ⟨G, γ, _, S, h, fun ds p xs H1 n e hp e1 q => ⟨G.with p, γ, _, S.with n e fun z => nb_lst (z _ e1), hp, fun d v H2 e2 p2 i2 => by
    obtain ⟨m, rfl, ⟨h1, h2, h3⟩, p2⟩ := p2
    cases i2
    have Sp : OkG c (G.with p) H2 := (S.ok.with n e fun z => nb_lst (z _ e1)).ex e2
    have e1' : H2 p = some (.lst xs) := e2.ch.keep _ _ e1 nb_lst fun z => absurd ((S.sub.hp _ z).1) (S.ok.new n)
    have q2 := Ims.le e2.le S.sub.with _ _ q
    refine ⟨p, m, xs, rfl, rfl, e1', by omega, by omega, ?_, fun p' hp' => ?_⟩
    · have l1 := q.length
      have : xs.length * m.toNat ≤ 10 * 1000 := Nat.mul_le_mul (by omega) (by omega)
      exact Nat.le_trans this (by decide)
    · have e12 := (e.trans (ex_with e2))
      exact k _ _ _ _ (e12.ch.nT_back (nT.of hp')) (e12.trans (Ex.new hp')) p2 upd_same (Ims.le (Le.with (nT.of hp') (Ex.new hp')) S.sub _ _ (Ims.less (G := G.with p) (G' := G) rfl (fun a z => .inl z) _ _ (q2.rep _)))⟩⟩
/-! ### isinstance -/
def tyN : D → String
  | .no => "NoneType"
  | .bl _ => "bool"
  | .int _ => "int"
  | .str _ => "str"
  | .tup _ => "tuple"
  | .lst _ => "list"
  | .task _ _ _ => "?"
  | .heap => "list"
def insN (T n : String) : Bool := n == T || (n == "bool" && T == "int")
def insD (T : String) (d : D) : Bool := insN T (tyN d)
theorem kit_all : ∀ n ∈ ["NoneType", "bool", "int", "str", "tuple", "list"], ∀ T ∈ ["tuple", "int", "bool", "str"], kitB n T = some (insN T n) := by decide +kernel
def isT (d : D) : Bool := match d with
  | .task _ _ _ => false
  | .heap => false
  | _ => true
def goodT (T : String) : Bool := T == "tuple" || T == "int" || T == "bool" || T == "str"
theorem im_ty {K : PySem.W.Frag} {d : D} {v : V} (h : Im c G H d v) (n : isT d = true) : TyX K H v (.type (tyN d)) := by
  cases h with
  | no => exact .base .non
  | bl => exact .base (.bl _)
  | int => exact .base (.int _)
  | str => exact .base (.str _)
  | tup e q => exact .base (.tup e)
  | lst e _ q =>
    rcases e with e | ⟨o, e⟩
    · exact .base (.lst e)
    · exact .base (.frz e)
  | task => cases n
  | heap => cases n
theorem kit_ok {K : PySem.W.Frag} {d : D} {T : String} (n : isT d = true) (g : goodT T = true) : PySem.W.kitOne K (.type (tyN d)) (.type T) = some (insD T d) := by
  refine kit_ty (kit_all _ ?_ _ ?_)
  · cases d <;> first | (cases n; done) | (show _ ∈ ["NoneType", "bool", "int", "str", "tuple", "list"]; unfold tyN; simp)
  · unfold goodT at g
    simp only [Bool.or_eq_true, beq_iff_eq] at g
    simp only [List.mem_cons, List.not_mem_nil, or_false]
    rcases g with ((g | g) | g) | g
    · exact .inl g
    · exact .inr (.inl g)
    · exact .inr (.inr (.inl g))
    · exact .inr (.inr (.inr g))
def dIns (T : String) (δ : ED) : ED := fun γ P => δ γ fun d => isT d = true ∧ P (.bl (insD T d))
theorem de_ins {T : Str} {Ts : String} {p p2 : Pos} (g : goodT Ts = true) (hg : Gl X "isinstance") (hm : X.mg "isinstance" = none) (hg2 : Gl X T) (hm2 : X.mg T = none) (hv2 : bootBuiltins T = some (.type Ts)) (ha : DE c X a δ) (hn2 : T ≠ "__name__" := by decide) (hd2 : (T == ("__debug__" : Str)) = false := by decide)
    (he : starEach [a, .Name T p2] X.env = (false, eval a X.env) :: starEach [.Name T p2] X.env := by rfl) (hpl : (backTo pos (starEach [.Name T p2] X.env)).any (·.1) = false := by rfl) : DE c X (.Call (.Name "isinstance" p) [a, .Name T p2] [] pos) (dIns Ts δ) :=
  pe_imp (pe_callB call_isi hg hm (by decide +kernel) (pa_cons ha (pa_cons (pe_bltn (v := .ty Ts) hg2 hm2 hv2 rfl hn2 hd2) pa_nil) he) (by decide) (by decide) he hpl) fun σ H Q ⟨G, γ, P, S, h, k⟩ =>
  ⟨G, γ, _, S, h, fun d v H1 e p q => ⟨v, .ty Ts, _, _, _, rfl, .ty _, im_ty q p.1, kit_ok p.1 g, k _ _ H1 e p.2 .bl⟩⟩
/-! ### a def of the program called -/
def SpD (c : Cst) (n : Nat) (F : List D → (D → Prop) → Prop) : Sp := fun vs H Q _ => ∃ G ds P, OkG c G H ∧ (∀ a, ¬ G.W a) ∧ ds.length = n ∧ Ims c G H ds vs ∧ F ds P ∧ ∀ d v H', Ex c G H H' → P d → Im c G H' d v → Q v H'
structure Fk (P : Program) (w : World) (K : PySem.W.Frag) (mg : Str → Option Value) (base : Heap) (x : Str) (k n : Nat) (sp : Sp) : Prop where
  ex : ∃ f fd ps, FnOk P w K mg base CX0 k f fd ps sp ∧ mg x = some (.ref f) ∧ PySem.W.keepIn K (.ref f) = true ∧ Binds K fd ps []
def Gh.cal (G : Gh) : Gh := ⟨G.av, fun _ => False, G.hp⟩
theorem OkG.cal (S : OkG c G H) : OkG c G.cal H := ⟨⟨fun _ h => h.elim, fun a h => ⟨(S.sub.hp a h).1, id⟩⟩, S.tabs, S.hok, S.dom⟩
theorem Ims.cal {ds : List D} {vs : List V} (h : Ims c G H ds vs) : Ims c G.cal H ds vs := Ims.less (G := G) (G' := G.cal) rfl (fun _ h => h) _ _ h
theorem Im.uncal {d : D} {v : V} (h : Im c G.cal H d v) : Im c G H d v := Im.less (G := G.cal) (G' := G) rfl (fun _ h => h) _ _ h
theorem Ims.uncal {d : List D} {v : List V} (h : Ims c G.cal H d v) : Ims c G H d v := Ims.less (G := G.cal) (G' := G) rfl (fun _ h => h) _ _ h
theorem Ex.uncal (e : Ex c G.cal H H') : Ex c G H H' := ⟨e.ch, e.hok⟩
def dCall (n : Nat) (F : List D → (D → Prop) → Prop) (α : AD) : ED := fun γ P => α γ fun ds => ds.length = n ∧ F ds P
theorem de_call {x : Str} {p : Pos} {k n : Nat} {F : List D → (D → Prop) → Prop} (hF : Fk X.prog X.w X.K X.mg X.base x k n (SpD c n F)) (hr : Room k X.A) (hg : Gl X x) (ha : DA c X (e :: es) α) (hdb : (x == ("__debug__" : Str)) = false := by decide)
    (he : starEach (e :: es) X.env = (false, eval e X.env) :: starEach es X.env := by rfl) (hpl : (backTo pos (starEach es X.env)).any (·.1) = false := by rfl) : DE c X (.Call (.Name x p) (e :: es) [] pos) (dCall n F α) := by
  obtain ⟨f, fd, ps, F', hm, hk, hb⟩ := hF.ex
  refine pe_imp (pe_call F' hr hg hm hk hb .nil (E := E0) pass0 ha hdb he hpl) fun σ H Q ⟨G, γ, P, S, h, k⟩ => ⟨G, γ, _, S, h, fun ds vs H1 e p q => ?_⟩
  show SpD c n F (vs ++ []) H1 Q E0
  rw [List.append_nil]
  exact ⟨G.cal, ds, P, (S.ok.ex e).cal, fun _ h => h, p.1, q.cal, p.2, fun d v H2 e2 p2 i2 => k d v H2 (e.trans e2.uncal) p2 i2.uncal⟩
/-! ### a list of one's own, only read -/
mutual
def noL : D → Bool
  | .tup ds => noLs ds
  | .lst _ => false
  | .task _ _ _ => false
  | .heap => false
  | _ => true
def noLs : List D → Bool
  | [] => true
  | d :: ds => noL d && noLs ds
end
mutual
theorem Im.any : ∀ (d : D) (v : V), noL d = true → Im c G H d v → Im c G' H d v
  | .no, _, _, h => by cases h; exact .no
  | .bl _, _, _, h => by cases h; exact .bl
  | .int _, _, _, h => by cases h; exact .int
  | .str _, _, _, h => by cases h; exact .str
  | .tup ds, _, p, h => by
    cases h with
    | tup e q => exact .tup e (Ims.any ds _ p q)
  | .lst ds, _, p, h => by cases p
  | .task u w g, _, p, h => by cases p
  | .heap, _, p, h => by cases p
theorem Ims.any : ∀ (ds : List D) (vs : List V), noLs ds = true → Ims c G H ds vs → Ims c G' H ds vs
  | [], _, _, h => by cases h; exact .nil
  | d :: ds, _, p, h => by
    have p : (noL d && noLs ds) = true := p
    rw [Bool.and_eq_true] at p
    cases h with
    | cons q r => exact .cons (Im.any d _ p.1 q) (Ims.any ds _ p.2 r)
end
def Gh.less (G : Gh) (p : Addr) : Gh := ⟨fun a => G.av a ∧ a ≠ p, fun a => G.W a ∧ a ≠ p, G.hp⟩
theorem SO.view (S : SO c G γ σ H) {i : Nat} {ds : List D} (h : γ[i]? = some (some (.l ds))) : ∃ p, SO c (G.less p) (γ.set i (some (.d (.lst ds)))) σ H := by
  obtain ⟨v, h1, p, xs, rfl, h2, h3, h4⟩ := S.sl i _ h
  have hi : i < γ.length := (List.getElem?_eq_some_iff.mp h).1
  have nh : ¬ G.hpA p := fun z => (S.sub.hp p z).2 h2
  have ls : ∀ {d v}, Im c G H d v → Im c (G.less p) H d v := fun {d v} q => Im.less (G := G) (G' := G.less p) rfl (fun _ z => z.1) _ _ q
  have lss : ∀ {d v}, Ims c G H d v → Ims c (G.less p) H d v := fun {d v} q => Ims.less (G := G) (G' := G.less p) rfl (fun _ z => z.1) _ _ q
  refine ⟨p, by rw [List.length_set]; exact S.len, fun j s e => ?_, fun j k s t a e1 e2 o1 o2 q1 q2 => ?_, ⟨⟨fun a z => ⟨S.sub.W a z.1, z.2⟩, fun a z => ⟨⟨(S.sub.hp a z).1, fun w => nh (by rw [← w]; exact z)⟩, fun w => (S.sub.hp a z).2 w.1⟩⟩, S.ok.tabs, S.hok, fun a z => S.ok.dom a z.1⟩⟩
  · rcases get_set e with ⟨rfl, e', hl⟩ | ⟨n, e'⟩
    · cases e'
      exact ⟨_, h1, .lst (.inl h3) (fun z => z.2 rfl) (lss h4)⟩
    · obtain ⟨u, g1, g2⟩ := S.sl j s e'
      refine ⟨u, g1, ?_⟩
      cases s with
      | d x => exact ls g2
      | l es =>
        obtain ⟨a, ys, rfl, k2, k3, k4⟩ := g2
        exact ⟨a, ys, rfl, ⟨k2, fun z => n (S.dist j i _ _ a e' h True.intro True.intro g1 (by rw [z]; exact h1))⟩, k3, lss k4⟩
      | m kvs =>
        obtain ⟨a, rfl, k2, k3⟩ := g2
        exact ⟨a, rfl, ⟨k2, fun z => n (S.dist j i _ _ a e' h True.intro True.intro g1 (by rw [z]; exact h1))⟩, k3⟩
      | z a kvs => exact g2
      | r K0 a ns => exact ⟨g2.1, g2.2.imp_left fun z => ⟨z.1, fun w => z.2 w.1⟩⟩
  · rcases get_set e1 with ⟨rfl, e', hl⟩ | ⟨n1, e1⟩
    · cases e'; exact o1.elim
    rcases get_set e2 with ⟨rfl, e', hl⟩ | ⟨n2, e2⟩
    · cases e'; exact o2.elim
    exact S.dist j k s t a e1 e2 o1 o2 q1 q2
def dView (i : Nat) (δ : ED) : ED := fun γ P => ∃ ds, γ[i]? = some (some (.l ds)) ∧ δ (γ.set i (some (.d (.lst ds)))) fun d => noL d = true ∧ P d
theorem de_view (i : Nat) (h : DE c X e δ) : DE c X e (dView i δ) := pe_imp h fun σ H Q ⟨G, γ, P, S, ⟨ds, h1, h2⟩, k⟩ => by
  obtain ⟨p, S'⟩ := S.view h1
  exact ⟨G.less p, _, _, S', h2, fun d v H' e p q => k d v H' ⟨e.ch, e.hok⟩ p.2 (Im.any _ _ p.1 q)⟩
def bView (i : Nat) (δ : BD) : BD := fun γ P => ∃ ds, γ[i]? = some (some (.l ds)) ∧ δ (γ.set i (some (.d (.lst ds)))) P
theorem dt_view (i : Nat) (h : DT c X e β) : DT c X e (bView i β) := pt_imp h fun σ H Q ⟨G, γ, P, S, ⟨ds, h1, h2⟩, k⟩ => by
  obtain ⟨p, S'⟩ := S.view h1
  exact ⟨G.less p, _, _, S', h2, fun b H' e p => k b H' ⟨e.ch, e.hok⟩ p⟩
def aView (i : Nat) (δ : AD) : AD := fun γ P => ∃ ds, γ[i]? = some (some (.l ds)) ∧ δ (γ.set i (some (.d (.lst ds)))) fun d => noLs d = true ∧ P d
theorem dl_view (i : Nat) (h : DL c X e α) : DL c X e (aView i α) := pe_imp h fun σ H Q ⟨G, γ, P, S, ⟨ds, h1, h2⟩, k⟩ => by
  obtain ⟨p, S'⟩ := S.view h1
  exact ⟨G.less p, _, _, S', h2, fun d p' xs H' n e pp hp q => k d p' xs H' n ⟨e.ch, e.hok⟩ pp.2 hp (Ims.any _ _ pp.1 q)⟩
end
end DW
set_option Elab.async false
set_option linter.all false
set_option maxRecDepth 100000
set_option maxHeartbeats 1000000
set_option autoImplicit false
namespace DW
open PySem L2 K62
structure DEnds where
  nx : Ga → Prop
  rt : D → Prop
abbrev SD := DEnds → Ga → Prop
def Gh.out (G : Gh) : Gh := ⟨fun a => G.av a ∧ ¬ G.W a, fun _ => False, G.hp⟩
def cS (c : Cst) (τ : SD) : TS := fun Dn σ H => ∃ G γ E, SO c G γ σ H ∧ τ E γ ∧ (∀ G' γ' σ' H', Le c G H G' H' → SO c G' γ' σ' H' → E.nx γ' → Dn.nx σ' H') ∧ ∀ G' d v H', Le c G H G' H' → E.rt d → Im c G'.out H' d v → Dn.rt v H'
abbrev DS (c : Cst) (X : Cx) (st : Stmt) (τ : SD) : Prop := PS X st (cS c τ)
abbrev DSs (c : Cst) (X : Cx) (st : List Stmt) (τ : SD) : Prop := PSs X st (cS c τ)
section
variable {c : Cst} {X : Cx} {G G' : Gh} {H H' : Hp} {γ : Ga} {σ : L2.St} {a b e e2 elt tg iter : Expr} {es rest ifs : List Expr} {pos : Pos} {δ δa δb δc : ED} {α ι : AD} {β β2 : BD} {st : Stmt} {sts : List Stmt} {τ τ2 : SD} {g : GD}
theorem ps_imp {t t' : TS} (h : PS X st t) (i : ∀ Dn σ H, t' Dn σ H → t Dn σ H) : PS X st t' := ⟨fun pins s σ H Dn I q => h.run pins s σ H Dn I (i Dn σ H q)⟩
theorem pss_imp {t t' : TS} (h : PSs X sts t) (i : ∀ Dn σ H, t' Dn σ H → t Dn σ H) : PSs X sts t' := ⟨fun pins s σ H Dn I q => h.run pins s σ H Dn I (i Dn σ H q)⟩
theorem Im.out {d : D} {v : V} (h : Im c G H d v) : Im c G.out H d v := Im.less (G := G) (G' := G.out) rfl (fun _ z => z.1) _ _ h
def sNx : SD := fun E γ => E.nx γ
def sSeq (τ τ2 : SD) : SD := fun E γ => τ ⟨fun γ' => τ2 E γ', E.rt⟩ γ
theorem dss_nil : DSs c X [] sNx := pss_imp pss_nil fun Dn σ H ⟨G, γ, E, S, h, kn, kr⟩ => kn G γ σ H Le.refl S h
theorem dss_cons (h1 : DS c X st τ) (h2 : DSs c X sts τ2) : DSs c X (st :: sts) (sSeq τ τ2) := pss_imp (pss_cons h1 h2) fun Dn σ H ⟨G, γ, E, S, h, kn, kr⟩ =>
  ⟨G, γ, _, S, h, fun G' γ' σ' H' L S' h' => ⟨G', γ', E, S', h', fun G2 γ2 σ2 H2 L2 => kn G2 γ2 σ2 H2 (L.trans L2), fun G2 d v H2 L2 => kr G2 d v H2 (L.trans L2)⟩, kr⟩
theorem dss_one (h1 : DS c X st τ) : DSs c X [st] τ := pss_one h1
def sRet (δ : ED) : SD := fun E γ => δ γ E.rt
theorem ds_ret (h : DE c X e δ) : DS c X (.Return (some e) pos) (sRet δ) := ps_imp (ps_ret h) fun Dn σ H ⟨G, γ, E, S, h, kn, kr⟩ =>
  ⟨G, γ, _, S, h, fun d v H' e p q => kr G d v H' e.le p q.out⟩
/-- return of a list of one's own -/
def sRetL (i : Nat) : SD := fun E γ => ∃ ds, γ[i]? = some (some (.l ds)) ∧ E.rt (.lst ds)
theorem ds_retL (i : Nat) {x : Str} {p : Pos} (hN : X.N[i]? = some x := by rfl) (hv : Vis X.env.scope x := by first | exact Or.inl rfl | exact Or.inr (Or.inl rfl) | exact Or.inr (Or.inr rfl)) (hd : (x == ("__debug__" : Str)) = false := by decide)
    (hcd : (x == ("__classdict__" : Str)) = false := by decide) : DS c X (.Return (some (.Name x p)) pos) (sRetL i) := ps_imp (ps_ret (pe_var hN hv hd hcd)) fun Dn σ H ⟨G, γ, E, S, ⟨ds, h1, h2⟩, kn, kr⟩ => by
  obtain ⟨v, h3, a, xs, rfl, h4, h5, h6⟩ := S.sl i _ h1
  refine ⟨_, h3, kr G _ _ H Le.refl h2 (.lst (.inl h5) (fun z => z.2 h4) ?_)⟩
  exact Ims.less (G := G) (G' := G.out) rfl (fun _ z => z.1) _ _ h6
def sIf (β : BD) (τ τ2 : SD) : SD := fun E γ => β γ fun k => if k = true then τ E γ else τ2 E γ
theorem ds_if {t : Expr} {s1 s2 : List Stmt} (hc : DT c X t β) (h1 : DSs c X s1 τ) (h2 : DSs c X s2 τ2) : DS c X (.If t s1 s2 pos) (sIf β τ τ2) := ps_imp (ps_if hc h1 h2) fun Dn σ H ⟨G, γ, E, S, h, kn, kr⟩ =>
  ⟨G, γ, _, S, h, fun k H1 e p => by
    cases k with
    | true => exact ⟨G, γ, E, S.ex e, p, fun G2 γ2 σ2 H2 L2 => kn G2 γ2 σ2 H2 (e.le.trans L2), fun G2 d v H2 L2 => kr G2 d v H2 (e.le.trans L2)⟩
    | false => exact ⟨G, γ, E, S.ex e, p, fun G2 γ2 σ2 H2 L2 => kn G2 γ2 σ2 H2 (e.le.trans L2), fun G2 d v H2 L2 => kr G2 d v H2 (e.le.trans L2)⟩⟩
def sNo : SD := fun _ _ => False
theorem ds_never : DS c X st sNo := ps_imp ps_never fun Dn σ H ⟨G, γ, E, S, h, kn, kr⟩ => h
theorem dss_never : DSs c X sts sNo := pss_imp pss_never fun Dn σ H ⟨G, γ, E, S, h, kn, kr⟩ => h
def sDrop (δ : ED) : SD := fun E γ => δ γ fun _ => E.nx γ
theorem ds_drop (h : DE c X e δ) (hs : swapsWith e none pos.line X.env = pure false := by rfl) : DS c X (.Expr e pos) (sDrop δ) := ps_imp (ps_expr h hs) fun Dn σ H ⟨G, γ, E, S, h, kn, kr⟩ =>
  ⟨G, γ, _, S, h, fun d v H' e p q => kn G γ σ H' e.le (S.ex e) p⟩
/-! ### assignments -/
def sAsg (δ : ED) (g : GD) : SD := fun E γ => δ γ fun d => g d γ E.nx
theorem ds_asg {vs : List Nat} (he : DE c X e δ) (hg : PG X tg (cG c vs g)) (hs : swapsWithSole [tg] e pos.line X.env = pure false := by rfl) (hw : swappedStores [tg] e X.env = pure none := by rfl)
    (h1 : (assignEach [tg] X.env).map (·.2) = [assign tg X.env] := by rfl) : DS c X (.Assign [tg] e pos) (sAsg δ g) := ps_imp (ps_asg he hg hs hw h1) fun Dn σ H ⟨G, γ, E, S, h, kn, kr⟩ =>
  ⟨G, γ, _, S, h, fun d v H' e p q => ⟨G, γ, d, _, S.ex e, q, p, fun γ' σ' S' _ h' => kn G γ' σ' H' e.le S' h'⟩⟩
theorem ds_set {i : Nat} {x : Str} {pos' : Pos} (hN : X.N.Nodup) (hi : X.N[i]? = some x) (hx : Loc X.env.scope x) (he : DE c X e δ) (hs : swapsWith e (some (.Name x pos')) pos.line X.env = pure false := by rfl) (hf : X.fn x = true ∨ X.env.scope.names.lookup x = some .local := by first | exact .inl rfl | exact .inr rfl | assumption) :
    DS c X (.Assign [.Name x pos'] e pos) (sAsg δ (gN i)) := ps_imp (ps_set hN hi hx he hs hf) fun Dn σ H ⟨G, γ, E, S, h, kn, kr⟩ =>
  ⟨G, γ, _, S, h, fun d v H' e p q => kn G _ _ H' e.le ((S.ex e).set q) p⟩
/-- a list of one's own comes -/
def Gh.own (G : Gh) (p : Addr) : Gh := ⟨fun a => G.av a ∨ a = p, fun a => G.W a ∨ a = p, G.hp⟩
theorem Le.own {p : Addr} (h : nT H p) (e : Ex c G H H') : Le c G H (G.own p) H' :=
  ⟨rfl, fun _ h => .inl h, fun a q => q.elim .inl fun z => .inr (by rw [z]; exact h), fun _ h => .inl h, fun a q => q.elim .inl fun z => .inr (by rw [z]; exact h), e.ch.mono fun _ h => .inr h, e.hok⟩
theorem OkG.own {p : Addr} (S : OkG c G H) (h : nT H p) (e : Ex c G H H') (hp : ¬ nT H' p) : OkG c (G.own p) H' :=
  ⟨⟨fun a q => q.elim (fun z => .inl (S.sub.W a z)) .inr, fun a z => ⟨.inl (S.sub.hp a z).1, fun w => w.elim (S.sub.hp a z).2 fun w => S.new h (by rw [← w]; exact (S.sub.hp a z).1)⟩⟩, e.ch.tabs S.tabs, e.hok S.hok, fun a q n => q.elim (fun z => S.dom a z (e.ch.nT_back n)) fun z => hp (by rw [← z]; exact n)⟩
theorem SO.nw (S : SO c G γ σ H) {i : Nat} {s : SV} {p : Addr} (h : γ[i]? = some (some s)) (o : isOwn s) (hp : σ[i]? = some (some (.ref p))) : G.W p := by
  obtain ⟨v, h1, h2⟩ := S.sl i s h
  rw [hp] at h1
  cases h1
  cases s with
  | d x => exact o.elim
  | l ds => obtain ⟨a, xs, e, w, _⟩ := h2; cases e; exact w
  | m kvs => obtain ⟨a, e, w, _⟩ := h2; cases e; exact w
  | z a kvs => exact o.elim
  | r K0 a ns => exact o.elim
/-- the slot's value: a new list, from now on one's own -/
theorem SO.own (S : SO c G γ σ H) {p : Addr} {xs : List V} {ds : List D} {j : Nat} (n : nT H p) (e : Ex c G H H') (h : H' p = some (.lst xs)) (q : Ims c (G.with p) H' ds xs) : SO c (G.own p) (γ.set j (some (.l ds))) (σ.set j (some (V.ref p))) H' := by
  have av : ¬ G.av p := S.ok.new n
  have q' : Ims c (G.own p) H' ds xs := Ims.less (G := G.with p) (G' := G.own p) rfl (fun a z => z) _ _ q
  refine ⟨by rw [List.length_set, List.length_set]; exact S.len, fun i s g => ?_, fun i k s t a e1 e2 o1 o2 q1 q2 => ?_, S.ok.own n e fun z => nb_lst (z _ h)⟩
  · rcases get_set g with ⟨rfl, e', hl⟩ | ⟨m, e'⟩
    · cases e'
      exact ⟨_, set_get (by rw [S.len]; exact hl), p, xs, rfl, .inr rfl, h, q'⟩
    · obtain ⟨u, h1, h2⟩ := S.sl i s e'
      exact ⟨u, by rw [List.getElem?_set_ne (Ne.symm m)]; exact h1, h2.leW S.sub (Le.own n e) fun a o w q t => e.ch.keep a o q t fun z => absurd w (S.sub.hp a z).2⟩
  · have old : ∀ {i s}, γ[i]? = some (some s) → isOwn s → σ[i]? = some (some (V.ref p)) → False := fun e o q => av (S.sub.W _ (S.nw e o q))
    rcases get_set e1 with ⟨z1, e', hl⟩ | ⟨n1, f1⟩ <;> rcases get_set e2 with ⟨z2, e'', hl'⟩ | ⟨n2, f2⟩
    · rw [z1, z2]
    · rw [z1, set_get (by rw [S.len]; exact hl)] at q1
      cases q1
      rw [List.getElem?_set_ne (Ne.symm n2)] at q2
      exact (old f2 o2 q2).elim
    · rw [z2, set_get (by rw [S.len]; exact hl')] at q2
      cases q2
      rw [List.getElem?_set_ne (Ne.symm n1)] at q1
      exact (old f1 o1 q1).elim
    · rw [List.getElem?_set_ne (Ne.symm n1)] at q1
      rw [List.getElem?_set_ne (Ne.symm n2)] at q2
      exact S.dist i k s t a f1 f2 o1 o2 q1 q2
def sOwn (i : Nat) (α : AD) : SD := fun E γ => α γ fun ds => E.nx (γ.set i (some (.l ds)))
theorem ds_own {i : Nat} {x : Str} {pos' : Pos} (hN : X.N.Nodup) (hi : X.N[i]? = some x) (hx : Loc X.env.scope x) (he : DL c X e α) (hs : swapsWith e (some (.Name x pos')) pos.line X.env = pure false := by rfl) (hf : X.fn x = true ∨ X.env.scope.names.lookup x = some .local := by first | exact .inl rfl | exact .inr rfl | assumption) :
    DS c X (.Assign [.Name x pos'] e pos) (sOwn i α) := ps_imp (ps_set hN hi hx he hs hf) fun Dn σ H ⟨G, γ, E, S, h, kn, kr⟩ =>
  ⟨G, γ, _, S, h, fun ds p xs H' n e pp hp q => kn (G.own p) _ _ H' (Le.own n e) (S.own n e hp q) pp⟩
/-- name = [..], the comprehension on the name's line: a datum -/
def sLc (i : Nat) (α : AD) : SD := fun E γ => α γ fun ds => E.nx (γ.set i (some (.d (.lst ds))))
theorem ds_lc {i : Nat} {y : Str} {py : Pos} {scope : Scope} {own : List (Str × Nat)} {spos : Pos} {τ : BD} (hc : X.calm = true) (hN : X.N.Nodup) (hy : X.N[i]? = some y) (hyl : X.env.scope.names.lookup y = some .local)
    (hi : DI c X tg iter ι) (ok : BlkOk X.N X.env.scope scope own)
    (hg : ∀ (s : Shared) (H : Hp) (C : Addr) (cl : List (Str × Addr)) (fp : List Addr), PG (X.blk s H scope (compEnvC scope cl C X.env) fp) tg (cG c (own.map (·.2)) g)) (ht : ∀ (s : Shared) (H : Hp) (C : Addr) (cl : List (Str × Addr)) (fp : List Addr), PTs (X.blk s H scope (compEnvC scope cl C X.env) fp) ifs (cT c τ))
    (he : ∀ (s : Shared) (H : Hp) (C : Addr) (cl : List (Str × Addr)) (fp : List Addr), DE c (X.blk s H scope (compEnvC scope cl C X.env) fp) elt δ) (hsw : swapsWith (.ListComp elt [⟨tg, iter, ifs, 0⟩] scope pos) (some (.Name y py)) spos.line X.env = pure true := by rfl) (hs : ∀ x, foldedSetIterable iter X.env x = pure x := by intro _; rfl) :
    DS c X (.Assign [.Name y py] (.ListComp elt [⟨tg, iter, ifs, 0⟩] scope pos) spos) (sLc i (dLc ι g τ δ (own.map (·.2)))) := ps_imp (ps_setLc hc hN hy hyl hsw hi ok hg ht he hs) fun Dn σ H ⟨G, γ, E, S, h, kn, kr⟩ =>
  lc_of (c := c) _ ⟨G, γ, _, S, h, fun ds p xs H' n e pp hp q => kn G _ _ H' e.le ((S.ex e).set (.lst (.inl hp) (S.ok.new n) (Ims.less (G := G.with p) (G' := G) rfl (fun a z => .inl z) _ _ q))) pp⟩
/-! ### a list of one's own changes -/
theorem Le.put {p : Addr} {o u : HO} (S : Sub G) (w : G.W p) (h : H p = some u) (hu : isMu p u) (ho : ¬ isTb o) : Le c G H G (upd H p o) :=
  ⟨rfl, fun _ h => h, fun _ h => .inl h, fun _ h => h, fun _ h => .inl h, (Ch.put (M := fun _ => False) h hu ho).mono fun a z => z.elim (fun z => .inl (by rw [z]; exact w)) False.elim, fun k => HpOK.put k fun z => (S.hp _ z).2 w⟩
theorem OkG.le (S : OkG c G H) (L : Le c G H G H') : OkG c G H' := ⟨S.sub, L.ch.tabs S.tabs, L.hok S.hok, fun a h n => S.dom a h (L.ch.nT_back n)⟩
theorem SO.put (S : SO c G γ σ H) {i : Nat} {p : Addr} {o u : HO} {s0 s : SV} (h : γ[i]? = some (some s0)) (o0 : isOwn s0) (hp : σ[i]? = some (some (.ref p))) (hu : H p = some u) (mu : isMu p u) (ho : ¬ isTb o) (new : SVok c G (upd H p o) s (.ref p)) : SO c G (γ.set i (some s)) σ (upd H p o) := by
  have w := S.nw h o0 hp
  have L := Le.put (c := c) S.sub w hu mu ho
  have hi : i < γ.length := (List.getElem?_eq_some_iff.mp h).1
  refine ⟨by rw [List.length_set]; exact S.len, fun j t g => ?_, fun j k s1 s2 a e1 e2 o1 o2 q1 q2 => ?_, S.ok.le L⟩
  · rcases get_set g with ⟨rfl, e', hl⟩ | ⟨m, e'⟩
    · cases e'
      exact ⟨_, hp, new⟩
    · obtain ⟨v, h1, h2⟩ := S.sl j t e'
      refine ⟨v, h1, ?_⟩
      cases t with
      | d x => exact Im.le L S.sub _ _ h2
      | l ds =>
        obtain ⟨a, xs, rfl, k1, k2, k3⟩ := h2
        have ne : a ≠ p := fun z => m (S.dist j i _ _ p e' h True.intro o0 (by rw [← z]; exact h1) hp)
        exact ⟨a, xs, rfl, k1, by rw [upd_ne ne]; exact k2, Ims.le L S.sub _ _ k3⟩
      | m kvs =>
        obtain ⟨a, rfl, k1, k2⟩ := h2
        have ne : a ≠ p := fun z => m (S.dist j i _ _ p e' h True.intro o0 (by rw [← z]; exact h1) hp)
        exact ⟨a, rfl, k1, by rw [upd_ne ne]; exact k2⟩
      | z b kvs =>
        obtain ⟨od, h3, h4⟩ := h2
        exact ⟨od, h3, L.ch.keep _ _ h4 nb_frz fun _ => nm_frz⟩
      | r K0 b ns => exact ⟨h2.1, h2.2.imp_left fun z => ⟨Rd.le L z.1 fun w => w.elim (fun w => z.2 (S.sub.W _ w)) fun w => z.2 (S.sub.hp _ w).1, z.2⟩⟩
  · have old : ∀ {j s}, (γ.set i (some s0))[j]? = some (some s) → γ[j]? = some (some s) := fun {j s} z => by
      rcases get_set z with ⟨rfl, e', hl⟩ | ⟨m, e'⟩
      · cases e'; exact h
      · exact e'
    rcases get_set e1 with ⟨z1, e', hl⟩ | ⟨n1, f1⟩ <;> rcases get_set e2 with ⟨z2, e'', hl'⟩ | ⟨n2, f2⟩
    · rw [z1, z2]
    · rw [z1] at q1 ⊢
      exact S.dist _ _ _ _ a h f2 o0 o2 q1 q2
    · rw [z2] at q2 ⊢
      exact S.dist _ _ _ _ a f1 h o1 o0 q1 q2
    · exact S.dist _ _ _ _ a f1 f2 o1 o2 q1 q2
def sApp (i : Nat) (δ : ED) : SD := fun E γ => ∃ ds, γ[i]? = some (some (.l ds)) ∧ ds.length ≤ 1000 ∧ δ γ fun d => E.nx (γ.set i (some (.l (ds ++ [d]))))
theorem Ims.setAt {ds : List D} {vs : List V} {d : D} {v : V} (q : Ims c G H ds vs) (h : Im c G H d v) : ∀ j, Ims c G H (ds.set j d) (vs.set j v) := by
  induction ds generalizing vs with
  | nil => intro j; cases q; exact .nil
  | cons x r ih =>
    intro j
    cases q with
    | cons q1 q2 =>
      cases j with
      | zero => exact .cons h q2
      | succ j => exact .cons q1 (ih q2 j)
theorem own_get (S : SO c G γ σ H) {i : Nat} {ds : List D} (h : γ[i]? = some (some (.l ds))) : ∃ p xs, σ[i]? = some (some (.ref p)) ∧ G.W p ∧ H p = some (.lst xs) ∧ Ims c G H ds xs := by
  obtain ⟨v, h1, p, xs, rfl, h2, h3, h4⟩ := S.sl i _ h
  exact ⟨p, xs, h1, h2, h3, h4⟩
theorem SO.putL (S : SO c G γ σ H) {i : Nat} {p : Addr} {xs ys : List V} {ds es : List D} (h : γ[i]? = some (some (.l ds))) (hp : σ[i]? = some (some (.ref p))) (hu : H p = some (.lst xs)) (q : Ims c G H es ys) : Le c G H G (upd H p (.lst ys)) ∧ SO c G (γ.set i (some (.l es))) σ (upd H p (.lst ys)) := by
  have w := S.nw h True.intro hp
  have L := Le.put (c := c) (o := .lst ys) S.sub w hu mu_lst nb_lst
  exact ⟨L, S.put h True.intro hp hu mu_lst nb_lst ⟨p, ys, rfl, w, upd_same, Ims.le L S.sub _ _ q⟩⟩
/-- the parameters -/
def startG (N : List Str) (ds : List D) : Ga := ds.map (fun d => some (.d d)) ++ List.replicate (N.length - ds.length) Option.none
theorem SO.start {N : List Str} {ds : List D} {vs : List V} (ok : OkG c G H) (q : Ims c G H ds vs) : SO c G (startG N ds) (L2.start N vs) H := by
  have hl := q.length
  refine ⟨by unfold startG L2.start; simp [hl], fun i s e => ?_, fun i j s t a e1 e2 o1 o2 q1 q2 => ?_, ok⟩
  · unfold startG at e
    by_cases hi : i < ds.length
    · rw [List.getElem?_append_left (by rw [List.length_map]; exact hi), List.getElem?_map] at e
      cases hd : ds[i]? with
      | none => rw [hd] at e; cases e
      | some d =>
        rw [hd] at e
        cases e
        obtain ⟨v, h1, h2⟩ := q.get hd
        refine ⟨v, ?_, h2⟩
        unfold L2.start
        rw [List.getElem?_append_left (by rw [List.length_map]; omega), List.getElem?_map, h1]
        rfl
    · rw [List.getElem?_append_right (by rw [List.length_map]; omega), List.getElem?_replicate] at e
      split at e <;> cases e
  · exfalso
    unfold startG at e1
    by_cases hi : i < ds.length
    · rw [List.getElem?_append_left (by rw [List.length_map]; exact hi), List.getElem?_map] at e1
      cases hd : ds[i]? with
      | none => rw [hd] at e1; cases e1
      | some d => rw [hd] at e1; cases e1; exact o1
    · rw [List.getElem?_append_right (by rw [List.length_map]; omega), List.getElem?_replicate] at e1
      split at e1 <;> cases e1
/-- what a body promises of its parameters' data -/
def fnD (N : List Str) (τ : SD) : List D → (D → Prop) → Prop := fun ds P => τ ⟨fun _ => P .no, P⟩ (startG N ds)
theorem body_ok {N : List Str} {n : Nat} {vs : List V} {Q : VK} (h : SpD c n (fnD N τ) vs H Q E0) : cS c τ { nx := fun _ H' => Q .non H', rt := Q } (L2.start N vs) H := by
  obtain ⟨G, ds, P, ok, hW, hl, q, hf, k⟩ := h
  have ex : ∀ {G' H'}, Le c G H G' H' → Ex c G H H' := fun L => ⟨⟨fun a o e n m => L.ch.keep a o e n fun z => z.elim (fun z => absurd z (hW a)) m, L.ch.dom, L.ch.tabs⟩, fun z => by
    have := L.hok z
    intro hh l q
    exact this hh l (L.hp.trans q)⟩
  refine ⟨G, _, _, SO.start ok q, hf, fun G' γ' σ' H' L S' p => k _ _ _ (ex L) p .no, fun G' d v H' L p i => k d v H' (ex L) p (Im.less (G := G'.out) (G' := G) L.hp.symm (fun a z => ⟨L.av a z, fun w => ?_⟩) _ _ i)⟩
  rcases L.Wn a w with w | w
  · exact hW a w
  · exact ok.dom a z w
end
/-! ### loops -/
def forW (g : GD) (τ : SD) : List D → DEnds → Ga → Prop
  | [], E, γ => E.nx γ
  | x :: r, E, γ => g x γ fun γ2 => τ ⟨fun γ' => forW g τ r E γ', E.rt⟩ γ2
def sFor (ι : AD) (g : GD) (τ : SD) : SD := fun E γ => ι γ fun items => forW g τ items E γ
section
variable {c : Cst} {X : Cx} {iter tg : Expr} {pos : Pos} {ι : AD} {g : GD} {τ : SD}
theorem for_of {vs : List Nat} (Dn : Ends) (σ : L2.St) (H : Hp) (h : cS c (sFor ι g τ) Dn σ H) : tFor (cI c ι) (cG c vs g) (cS c τ) Dn σ H := by
  obtain ⟨G, γ, E, S, h, kn, kr⟩ := h
  refine ⟨G, γ, _, S, h, fun items J H1 e1 p w => ?_⟩
  obtain ⟨Gd, Y, wk, wy⟩ := w
  refine for_it wk (fun i σ' H' => ∃ G' γ', Le c G H1 G' H' ∧ SO c G' γ' σ' H' ∧ forW g τ (items.drop i) E γ') ?_ ?_ ?_ ?_
  · exact ⟨G, γ, Le.refl, S.ex e1, p⟩
  · rintro i σ' H' _ ⟨G', γ', L, S', _⟩
    exact (wy G' H' L S'.ok).1
  · rintro i x σ' H' H'' hi ⟨G', γ', L, S', h4⟩ hy
    obtain ⟨d, hd⟩ : ∃ d, items[i]? = some d := ⟨_, List.getElem?_eq_getElem hi⟩
    obtain ⟨e3, i3⟩ := (wy G' H' L S'.ok).2 i d x H'' hd hy
    have ed : items.drop i = d :: items.drop (i + 1) := by
      rw [List.drop_eq_getElem_cons hi]
      rw [List.getElem?_eq_getElem hi] at hd
      cases hd
      rfl
    rw [ed] at h4
    refine ⟨G', γ', d, _, S'.ex e3, i3, h4, fun γ2 σ2 S2 _ h2 => ⟨G', γ2, _, S2, h2, fun G3 γ3 σ3 H3 L3 S3 h3 => ⟨G3, γ3, (L.trans e3.le).trans L3, S3, h3⟩, fun G3 d3 v3 H3 L3 hr im => kr G3 d3 v3 H3 (e1.le.trans ((L.trans e3.le).trans L3)) hr im⟩⟩
  · rintro σ' H' ⟨G', γ', L, S', h4⟩
    rw [List.drop_length] at h4
    exact kn G' γ' σ' H' (e1.le.trans L) S' h4
theorem ds_for {vs : List Nat} {body : List Stmt} (hp : PassesOwn (model X.prog X.w) X.A X.env X.xe) (hc : X.calm = true) (hi : DI c X tg iter ι) (hg : PG X tg (cG c vs g)) (hb : DSs c X body τ) (hs : ∀ x, foldedSetIterable iter X.env x = pure x := by intro _; rfl) : DS c X (.For tg iter body [] pos) (sFor ι g τ) :=
  ps_imp (ps_for hp hc hi hg hb hs) fun Dn σ H h => for_of Dn σ H h
end
end DW
set_option Elab.async false
set_option linter.all false
set_option maxRecDepth 100000
set_option maxHeartbeats 1000000
set_option autoImplicit false
namespace DW
open PySem L2 K62
section
variable {c : Cst} {X : Cx} {G G' : Gh} {H H' : Hp} {γ : Ga} {σ : L2.St} {a b d3 e e2 elt tg iter : Expr} {es rest ifs : List Expr} {pos : Pos} {δ δa δb δc δi : ED} {α ι : AD} {β β2 : BD} {st : Stmt} {sts : List Stmt} {τ τ2 : SD} {g : GD}
theorem own_keep (S : SO c G γ σ H) (e : Ex c G H H') {p : Addr} {xs : List V} (w : G.W p) (h : H p = some (.lst xs)) : H' p = some (.lst xs) := e.ch.keep _ _ h nb_lst fun z => absurd w (S.sub.hp _ z).2
/-! ### x.append(e) -/
theorem ds_app {i : Nat} (h : PE X e (tBM X.K "list" rAppend (tVar i) (tCons (cE c δ) tNil))) (hs : swapsWith e none pos.line X.env = pure false := by rfl) : DS c X (.Expr e pos) (sApp i δ) :=
  ps_imp (ps_expr h hs) fun Dn σ H ⟨G, γ, E, S, ⟨ds, h1, h2, h3⟩, kn, kr⟩ => by
    obtain ⟨p, xs, hp, w, hx, q⟩ := own_get S h1
    refine ⟨_, hp, .inl ⟨rfl, xs, .of hx⟩, G, γ, _, S, h3, fun d v H1 e1 p1 i1 => ?_⟩
    have hx1 := own_keep S e1 w hx
    obtain ⟨L, S2⟩ := (S.ex e1).putL (ys := xs ++ [v]) h1 hp hx1 ((Ims.le e1.le S.sub _ _ q).append (.one i1))
    exact ⟨p, xs, v, rfl, rfl, hx1, by rw [q.length]; exact Nat.lt_of_le_of_lt h2 (by decide), kn G _ _ _ (e1.le.trans L) S2 p1⟩
/-! ### x[i] = e; x[i], y = e1, e2 -/
def setI (ds : List D) (k : Int) (d : D) (P : List D → Prop) : Prop := ∃ j, ixN ds.length k = some j ∧ P (ds.set j d)
def sSetI (r : Nat) (δ δi : ED) : SD := fun E γ => δ γ fun d => ∃ ds, γ[r]? = some (some (.l ds)) ∧ δi γ fun i => ∃ k, i = .int k ∧ setI ds k d fun es => E.nx (γ.set r (some (.l es)))
theorem ds_setI {r : Nat} {tg : Expr} (he : DE c X e δ) (hg : PG X tg (gSub (tVar r) (cE c δi) rSetL)) (hs : swapsWithSole [tg] e pos.line X.env = pure false := by rfl) (hw : swappedStores [tg] e X.env = pure none := by rfl)
    (h1 : (assignEach [tg] X.env).map (·.2) = [assign tg X.env] := by rfl) : DS c X (.Assign [tg] e pos) (sSetI r δ δi) := ps_imp (ps_asg he hg hs hw h1) fun Dn σ H ⟨G, γ, E, S, h, kn, kr⟩ => by
  refine ⟨G, γ, _, S, h, fun d v H1 e1 ⟨ds, h1, h2⟩ i1 => ?_⟩
  obtain ⟨p, xs, hp, w, hx, q⟩ := own_get (S.ex e1) h1
  refine ⟨_, hp, G, γ, _, S.ex e1, h2, fun di vi H2 e2 ⟨k, ek, j, hj, p2⟩ i2 => ?_⟩
  subst ek
  cases i2
  have hx2 := own_keep (S.ex e1) e2 w hx
  obtain ⟨L, S2⟩ := ((S.ex e1).ex e2).putL (ys := xs.set j v) h1 hp hx2 ((Ims.le e2.le S.sub _ _ q).setAt (Im.le e2.le S.sub _ _ i1) j)
  exact ⟨p, xs, k, j, rfl, rfl, hx2, by rw [q.length]; exact hj, kn G _ _ _ ((e1.le.trans e2.le).trans L) S2 p2⟩
def sSetI2 (r m : Nat) (δ δi : ED) : SD := fun E γ => δ γ fun d => ∃ x y, d = .tup [x, y] ∧ ∃ ds, γ[r]? = some (some (.l ds)) ∧ δi γ fun i => ∃ k, i = .int k ∧ setI ds k x fun es => E.nx ((γ.set r (some (.l es))).set m (some (.d y)))
theorem ds_setI2 {r m : Nat} {tg : Expr} (he : DE c X e δ) (hg : PG X tg (gTup X.K 2 (gCons (gSub (tVar r) (cE c δi) rSetL) (gCons (gName m) gNil)))) (hs : swapsWithSole [tg] e pos.line X.env = pure false := by rfl) (hw : swappedStores [tg] e X.env = pure none := by rfl)
    (h1 : (assignEach [tg] X.env).map (·.2) = [assign tg X.env] := by rfl) : DS c X (.Assign [tg] e pos) (sSetI2 r m δ δi) := ps_imp (ps_asg he hg hs hw h1) fun Dn σ H ⟨G, γ, E, S, h, kn, kr⟩ => by
  refine ⟨G, γ, _, S, h, fun d v H1 e1 ⟨x, y, ed, ds, h1, h2⟩ i1 => ?_⟩
  subst ed
  cases i1 with
  | tup et qt =>
  cases qt with
  | cons qx qt =>
  cases qt with
  | cons qy qt =>
  cases qt
  obtain ⟨p, xs, hp, w, hx, q⟩ := own_get (S.ex e1) h1
  refine ⟨_, _, rfl, .of et, rfl, _, _, rfl, _, hp, G, γ, _, S.ex e1, h2, fun di vi H2 e2 ⟨k, ek, j, hj, p2⟩ i2 => ?_⟩
  subst ek
  cases i2
  have hx2 := own_keep (S.ex e1) e2 w hx
  obtain ⟨L, S2⟩ := ((S.ex e1).ex e2).putL (ys := xs.set j _) h1 hp hx2 ((Ims.le e2.le S.sub _ _ q).setAt (Im.le e2.le S.sub _ _ qx) j)
  refine ⟨p, xs, k, j, rfl, rfl, hx2, by rw [q.length]; exact hj, _, _, rfl, rfl, ?_⟩
  exact kn G _ _ _ ((e1.le.trans e2.le).trans L) (S2.set (Im.le L S.sub _ _ (Im.le e2.le S.sub _ _ qy))) p2
/-! ### several at once -/
theorem SO.push (S : SO c G γ σ H) : SO c G (γ ++ [none]) (σ ++ [none]) H := by
  have nn : ∀ {i : Nat} {s : SV}, (γ ++ [none])[i]? = some (some s) → γ[i]? = some (some s) := fun {i s} e => by
    by_cases hi : i < γ.length
    · rw [List.getElem?_append_left hi] at e
      exact e
    · rw [List.getElem?_append_right (by omega)] at e
      cases h : i - γ.length with
      | zero => rw [h] at e; cases e
      | succ n => rw [h] at e; cases e
  have up : ∀ {i : Nat} {v : Option V}, i < σ.length → (σ ++ [none])[i]? = σ[i]? := fun h => List.getElem?_append_left h
  refine ⟨by simp [S.len], fun i s e => ?_, fun i j s t a e1 e2 o1 o2 q1 q2 => ?_, S.ok⟩
  · obtain ⟨v, h1, h2⟩ := S.sl i s (nn e)
    exact ⟨v, by rw [List.getElem?_append_left (List.getElem?_eq_some_iff.mp h1).1]; exact h1, h2⟩
  · have l1 : i < σ.length := by rw [S.len]; exact (List.getElem?_eq_some_iff.mp (nn e1)).1
    have l2 : j < σ.length := by rw [S.len]; exact (List.getElem?_eq_some_iff.mp (nn e2)).1
    rw [List.getElem?_append_left l1] at q1
    rw [List.getElem?_append_left l2] at q2
    exact S.dist i j s t a (nn e1) (nn e2) o1 o2 q1 q2
theorem set_end {α : Type} (l : List α) (x y : α) : (l ++ [x]).set l.length y = l ++ [y] := by
  rw [List.set_append_right _ _ (Nat.le_refl _), Nat.sub_self]
  rfl
/-- one value more, ahead of the stores -/
def VS (c : Cst) (t : TE) (v : Ga → (SV → Prop) → Prop) : Prop := ∀ (G : Gh) (γ : Ga) (σ : L2.St) (H : Hp) (P : SV → Prop) (Q : VK), (∃ γx σx, SO c G (γ ++ γx) (σ ++ σx) H ∧ σ.length = γ.length) → v γ P → (∀ s x G' H', Le c G H G' H' → (∀ γx σx, SO c G (γ ++ γx) (σ ++ σx) H → SO c G' (γ ++ γx ++ [some s]) (σ ++ σx ++ [some x]) H') → P s → Q x H') → t σ H Q
theorem SO.front {γx : Ga} {σx : L2.St} (S : SO c G (γ ++ γx) (σ ++ σx) H) (hl : σ.length = γ.length) : SO c G γ σ H := by
  have nn : ∀ {i : Nat} {s : SV}, γ[i]? = some (some s) → (γ ++ γx)[i]? = some (some s) := fun {i s} e => by
    rw [List.getElem?_append_left (List.getElem?_eq_some_iff.mp e).1]
    exact e
  have up : ∀ {i : Nat} {s : SV}, γ[i]? = some (some s) → (σ ++ σx)[i]? = σ[i]? := fun {i s} e => List.getElem?_append_left (by rw [hl]; exact (List.getElem?_eq_some_iff.mp e).1)
  refine ⟨hl, fun i s e => ?_, fun i j s t a e1 e2 o1 o2 q1 q2 => S.dist i j s t a (nn e1) (nn e2) o1 o2 (by rw [up e1]; exact q1) (by rw [up e2]; exact q2), S.ok⟩
  obtain ⟨v, h1, h2⟩ := S.sl i s (nn e)
  rw [up e] at h1
  exact ⟨v, h1, h2⟩
def vD (δ : ED) : Ga → (SV → Prop) → Prop := fun γ P => δ γ fun d => P (.d d)
def vL (α : AD) : Ga → (SV → Prop) → Prop := fun γ P => α γ fun ds => P (.l ds)
theorem vs_d : VS c (cE c δ) (vD δ) := fun G γ σ H P Q ⟨γx, σx, S, hl⟩ h k =>
  ⟨G, γ, _, S.front hl, h, fun d v H' e p i => k (.d d) v G H' e.le (fun γy σy T => by
    have z := (T.ex e).push.set (j := (γ ++ γy).length) i
    rw [set_end] at z
    have hl2 : (γ ++ γy).length = (σ ++ σy).length := T.len.symm
    rw [hl2, set_end] at z
    exact z) p⟩
theorem vs_l : VS c (cL c α) (vL α) := fun G γ σ H P Q ⟨γx, σx, S, hl⟩ h k =>
  ⟨G, γ, _, S.front hl, h, fun ds p xs H' n e pp hp q => k (.l ds) (.ref p) (G.own p) H' (Le.own n e) (fun γy σy T => by
    have z := T.push.own (j := (γ ++ γy).length) n e hp q
    rw [set_end] at z
    have hl2 : (γ ++ γy).length = (σ ++ σy).length := T.len.symm
    rw [hl2, set_end] at z
    exact z) pp⟩
/-- slots moved -/
theorem SO.move {γ' : Ga} {σ' : L2.St} (S : SO c G γ σ H) (f : Nat → Nat) (hl : σ'.length = γ'.length) (h : ∀ (i : Nat) (s : SV), γ'[i]? = some (some s) → γ[f i]? = some (some s) ∧ σ'[i]? = σ[f i]?) (inj : ∀ (i j : Nat) (s t : SV), γ'[i]? = some (some s) → γ'[j]? = some (some t) → f i = f j → i = j) : SO c G γ' σ' H := by
  refine ⟨hl, fun i s e => ?_, fun i j s t a e1 e2 o1 o2 q1 q2 => ?_, S.ok⟩
  · obtain ⟨h1, h2⟩ := h i s e
    obtain ⟨v, h3, h4⟩ := S.sl _ s h1
    exact ⟨v, h2.trans h3, h4⟩
  · obtain ⟨h1, h2⟩ := h i s e1
    obtain ⟨h3, h4⟩ := h j t e2
    exact inj i j s t e1 e2 (S.dist _ _ s t a h1 h3 o1 o2 (h2.symm.trans q1) (h4.symm.trans q2))
theorem app1 {α : Type} {l : List α} {x : α} : (l ++ [x])[l.length]? = some x := by simp
theorem SO.two {s t : SV} {x y : V} {i j : Nat} (S : SO c G (γ ++ [] ++ [some s] ++ [some t]) (σ ++ [] ++ [some x] ++ [some y]) H) (hl : σ.length = γ.length) (hij : i ≠ j) (hi : i < γ.length) (hj : j < γ.length) : SO c G ((γ.set i (some s)).set j (some t)) ((σ.set i (some x)).set j (some y)) H := by
  rw [List.append_nil, List.append_nil] at S
  have g0 : ∀ {α : Type} (l : List α) (u v : α) (k : Nat), k < l.length → (l ++ [u] ++ [v])[k]? = l[k]? := fun l u v k hk => by
    rw [List.append_assoc, List.getElem?_append_left hk]
  have g1 : ∀ {α : Type} (l : List α) (u v : α) (n : Nat), n = l.length → (l ++ [u] ++ [v])[n]? = some u := fun l u v n hn => by subst hn; simp
  have g2 : ∀ {α : Type} (l : List α) (u v : α) (n : Nat), n = l.length → (l ++ [u] ++ [v])[n + 1]? = some v := fun l u v n hn => by subst hn; simp
  refine S.move (fun k => if k = j then γ.length + 1 else if k = i then γ.length else k) (by simp [hl]) (fun k r e => ?_) fun k l r r' e1 e2 e => ?_
  · by_cases h1 : k = j
    · subst h1
      rw [set_get (by simpa using hj)] at e
      cases e
      rw [if_pos rfl, g2 γ _ _ _ rfl, g2 σ _ _ _ hl.symm, set_get (by simp; omega)]
      exact ⟨rfl, rfl⟩
    · rw [List.getElem?_set_ne (Ne.symm h1)] at e ⊢
      rw [if_neg h1]
      by_cases h2 : k = i
      · subst h2
        rw [set_get hi] at e
        cases e
        rw [if_pos rfl, g1 γ _ _ _ rfl, g1 σ _ _ _ hl.symm, set_get (by omega)]
        exact ⟨rfl, rfl⟩
      · rw [List.getElem?_set_ne (Ne.symm h2)] at e ⊢
        rw [if_neg h2]
        have hk := (List.getElem?_eq_some_iff.mp e).1
        rw [g0 γ _ _ _ hk, g0 σ _ _ _ (by omega)]
        exact ⟨e, rfl⟩
  · have b1 := (List.getElem?_eq_some_iff.mp e1).1
    have b2 := (List.getElem?_eq_some_iff.mp e2).1
    rw [List.length_set, List.length_set] at b1 b2
    split at e <;> split at e <;> (try split at e) <;> (try split at e) <;> omega
def sPar (i j : Nat) (v1 v2 : Ga → (SV → Prop) → Prop) : SD := fun E γ => (i < γ.length ∧ j < γ.length) ∧ v1 γ fun s => v2 γ fun t => E.nx ((γ.set i (some s)).set j (some t))
theorem ds_par {i j : Nat} {st : Stmt} {ta tb : TE} {v1 v2 : Ga → (SV → Prop) → Prop} (h : PS X st (tPar i j (tCons ta (tCons tb tNil)))) (hij : i ≠ j) (h1 : VS c ta v1) (h2 : VS c tb v2) : DS c X st (sPar i j v1 v2) := ps_imp h fun Dn σ H ⟨G, γ, E, S, ⟨⟨hi, hj⟩, h⟩, kn, kr⟩ => by
  refine h1 G γ σ H _ _ ⟨[], [], by simpa using S, S.len⟩ h fun s x G1 H1 L1 S1 p1 => ?_
  have T1 := S1 [] [] (by simpa using S)
  refine h2 G1 γ σ H1 _ _ ⟨[some s], [some x], by simpa using T1, S.len⟩ p1 fun t y G2 H2 L2 S2 p2 => ?_
  have T2 := S2 [some s] [some x] (by simpa using T1)
  exact ⟨x, y, rfl, kn G2 _ _ H2 (L1.trans L2) (SO.two (by simpa using T2) S.len hij hi hj) p2⟩
end
end DW
set_option Elab.async false
set_option linter.all false
set_option maxRecDepth 100000
set_option maxHeartbeats 1000000
set_option autoImplicit false
namespace DW
open PySem PySem.Spec PyProof.Rows L2 K62
abbrev FnP (K : PySem.W.Frag) (x : Str) (st : Stmt) (f : Addr) (fd : FuncData) : Prop := FunD K x x (defArgs st) (defBody st) (defScope st) [] [] f fd
theorem fk_mk {c : Cst} {P : Program} {w : World} {K : PySem.W.Frag} {mg : Str → Option Value} {base : Heap} {x : Str} {st : Stmt} {f : Addr} {fd : FuncData} {N ps : List Str} {k n : Nat} {τ : SD} (F : FnP K x st f fd) (hm : mg x = some (.ref f)) (S : FnScope N ps (defScope st)) (hn : ps.length = n)
    (hb : ∀ (kV doc pm : Value) (an : Option Addr) (cdv ct : Value) (us : List Value), us.length = ps.length → bindArgs (PySem.W.fnOf x x (defArgs st) (defBody st) (defScope st) .none kV doc pm an cdv ct) ⟨us, []⟩ = pure (ps.zip us))
    (hbody : ∀ (cdv : Value) (A : Around) (outer : List Env) (s : Shared) (H : Hp) (E : XK), Room k (A.deeper (envOfC x (defScope st) s.heap.objs.size f cdv)) → DSs c (cxOf CX0 P w K mg base N x (defScope st) f cdv A outer s H E).nox (defBody st) τ) : Fk P w K mg base x (k + 1) n (SpD c n (fnD N τ)) := by
  refine ⟨f, fd, ps, F.ok S (fun vs H Q E h => ?_) (fun cdv A outer s H vs Q E hr h => ⟨cS c τ, (hbody cdv A outer s H E hr).nox, body_ok h⟩), hm, F.kp, F.bindsN hb⟩
  obtain ⟨G, ds, P', h1, h2, h3, h4, _⟩ := h
  rw [h4.length, h3, hn]
structure FkR (P : Program) (w : World) (K : PySem.W.Frag) (mg : Str → Option Value) (base : Heap) (x : Str) (k n : Nat) (ks : List Str) (sp : Sp) : Prop where
  ex : ∃ f fd ps, FnOk P w K mg base CX0 k f fd ps sp ∧ mg x = some (.ref f) ∧ PySem.W.keepIn K (.ref f) = true ∧ ∀ ws : List Value, ws.length = ks.length → bindArgs fd ⟨[], ks.zip ws⟩ = pure (ps.zip ws.reverse)
theorem fk2_mk {c : Cst} {P : Program} {w : World} {K : PySem.W.Frag} {mg : Str → Option Value} {base : Heap} {x : Str} {st : Stmt} {f : Addr} {fd : FuncData} {N ps ks : List Str} {k n : Nat} {τ : SD} (F : FnP K x st f fd) (hm : mg x = some (.ref f)) (S : FnScope N ps (defScope st)) (hn : ps.length = n)
    (hb : ∀ (kV doc pm : Value) (an : Option Addr) (cdv ct : Value) (us : List Value), us.length = ps.length → bindArgs (PySem.W.fnOf x x (defArgs st) (defBody st) (defScope st) .none kV doc pm an cdv ct) ⟨us, []⟩ = pure (ps.zip us))
    (hk : ∀ (kV doc pm : Value) (an : Option Addr) (cdv ct : Value) (ws : List Value), ws.length = ks.length → bindArgs (PySem.W.fnOf x x (defArgs st) (defBody st) (defScope st) .none kV doc pm an cdv ct) ⟨[], ks.zip ws⟩ = pure (ps.zip ws.reverse))
    (hbody : ∀ (cdv : Value) (A : Around) (outer : List Env) (s : Shared) (H : Hp) (E : XK), Room k (A.deeper (envOfC x (defScope st) s.heap.objs.size f cdv)) → DSs c (cxOf CX0 P w K mg base N x (defScope st) f cdv A outer s H E).nox (defBody st) τ) : Fk P w K mg base x (k + 1) n (SpD c n (fnD N τ)) ∧ FkR P w K mg base x (k + 1) n ks (SpD c n (fnD N τ)) := by
  have ok : FnOk P w K mg base CX0 (k + 1) f fd ps (SpD c n (fnD N τ)) := F.ok S (fun vs H Q E h => by
    obtain ⟨G, ds, P', h1, h2, h3, h4, _⟩ := h
    rw [h4.length, h3, hn]) (fun cdv A outer s H vs Q E hr h => ⟨cS c τ, (hbody cdv A outer s H E hr).nox, body_ok h⟩)
  refine ⟨⟨f, fd, ps, ok, hm, F.kp, F.bindsN hb⟩, ⟨f, fd, ps, ok, hm, F.kp, ?_⟩⟩
  obtain ⟨oc, od, dV, kV, doc, pm, an, cdv, ct, osl, rfl, lk, hcd, hD, hK⟩ := F.ex
  rcases hD with ⟨_, rfl⟩ | ⟨e, _⟩
  · exact hk kV doc pm an cdv ct
  · exact absurd rfl e
/-- what stands behind the top -/
structure Facts (P : Program) (w : World) (K : PySem.W.Frag) (mg : Str → Option Value) (base : Heap) (c : Cst) : Prop where
  fn : ∀ (x : Str) (i : Nat), (x, i) ∈ fnList → ∃ f fd, FnP K x (top i) f fd ∧ mg x = some (.ref f)
  free : ∀ x : Str, x ∈ (["abs", "all", "any", "bool", "enumerate", "int", "isinstance", "len", "list", "max", "min", "range", "set", "sorted", "str", "sum", "tuple", "zip"] : List Str) → mg x = none
  cls : Cls K c.C
  at1 : NoAttr K c.C "unknowns"
  at2 : NoAttr K c.C "wishes"
  at3 : NoAttr K c.C "goal"
  letters : ∃ t, mg "LETTERS" = some (.str "abcdefghijklmnopqrstuvwxyz" t)
  longest : ∃ t, mg "LONGEST_NAME" = some (.int 6 t)
  words : ∃ a, mg "TEXT_WORDS" = some (.ref a) ∧ ∀ H : Hp, SqT K H a (textWords.map V.str)
  task : mg "Task" = some (.ref c.C)
  init : ∃ f fd, FunD K "__init__" "Task.__init__" (defArgs initSt) (defBody initSt) (defScope initSt) [] [] f fd ∧ Mk K c.C f
  tab : ∃ (Pt cc : Addr), c.T = [(Pt, ("served_jobs.<locals>.<lambda>" : Str))] ∧ LamX.TabB base mg cc Pt ∧ ∀ f fd, FnP K "served_jobs" (top 14) f fd → mg "served_jobs" = some (.ref f) → fd.code = .ref cc
  shapes : ∃ (a t h : Addr) (es : Array DictEntry) (n : Nat), mg "SHAPES" = some (.ref a) ∧ KDict K w a es n ∧ PySem.W.nsIn K a "load" = some (some (.ref t)) ∧ (∀ H : Hp, SqT K H t [.int 5, .ref h]) ∧ mg "is_load" = some (.ref h)
end DW
set_option Elab.async false
set_option linter.all false
set_option maxRecDepth 100000
set_option maxHeartbeats 1000000
set_option autoImplicit false
namespace DW
open PySem PySem.Spec PyProof.Rows L2 K62
section
variable {c : Cst} {X : Cx} {G G' : Gh} {H H' : Hp} {γ : Ga} {σ : L2.St} {a b d3 e e2 elt tg iter tg1 iter1 : Expr} {es rest ifs ifs1 : List Expr} {pos : Pos} {δ δa δb δc δi : ED} {α ι ι1 : AD} {τ τ1 : BD} {st : Stmt} {sts : List Stmt} {g g1 : GD}
def dNo : ED := fun _ _ => False
theorem de_never : DE c X e dNo := ⟨fun _ _ _ _ _ _ ⟨_, _, _, _, h, _⟩ => h.elim⟩
/-! ### constants of the module -/
theorem dgl_letters {P : Program} {w : World} {K : PySem.W.Frag} {base : Heap} (Fc : Facts P w K X.mg base c) (hg : Gl X "LETTERS") : DE c X (.Name "LETTERS" pos) (dC (.str "abcdefghijklmnopqrstuvwxyz")) := by
  obtain ⟨t, h⟩ := Fc.letters
  exact dcon (pe_glob (v := .str "abcdefghijklmnopqrstuvwxyz") hg h ⟨t, rfl⟩) fun _ _ => .str
theorem dgl_longest {P : Program} {w : World} {K : PySem.W.Frag} {base : Heap} (Fc : Facts P w K X.mg base c) (hg : Gl X "LONGEST_NAME") : DE c X (.Name "LONGEST_NAME" pos) (dC (.int 6)) := by
  obtain ⟨t, h⟩ := Fc.longest
  exact dcon (pe_glob (v := .int 6) hg h ⟨t, rfl⟩) fun _ _ => .int
/-! ### three at once -/
theorem SO.three {s t u : SV} {x y z : V} {i j l : Nat} (S : SO c G (γ ++ [] ++ [some s] ++ [some t] ++ [some u]) (σ ++ [] ++ [some x] ++ [some y] ++ [some z]) H) (hl : σ.length = γ.length) (hij : i ≠ j) (hil : i ≠ l) (hjl : j ≠ l) (hi : i < γ.length) (hj : j < γ.length) (hk : l < γ.length) :
    SO c G (((γ.set i (some s)).set j (some t)).set l (some u)) (((σ.set i (some x)).set j (some y)).set l (some z)) H := by
  rw [List.append_nil, List.append_nil] at S
  have g0 : ∀ {α : Type} (q : List α) (u v w : α) (k : Nat), k < q.length → (q ++ [u] ++ [v] ++ [w])[k]? = q[k]? := fun q u v w k hk => by
    rw [List.append_assoc, List.append_assoc, List.getElem?_append_left hk]
  have g1 : ∀ {α : Type} (q : List α) (u v w : α) (n : Nat), n = q.length → (q ++ [u] ++ [v] ++ [w])[n]? = some u := fun q u v w n hn => by subst hn; simp
  have g2 : ∀ {α : Type} (q : List α) (u v w : α) (n : Nat), n = q.length → (q ++ [u] ++ [v] ++ [w])[n + 1]? = some v := fun q u v w n hn => by subst hn; simp
  have g3 : ∀ {α : Type} (q : List α) (u v w : α) (n : Nat), n = q.length → (q ++ [u] ++ [v] ++ [w])[n + 2]? = some w := fun q u v w n hn => by subst hn; simp
  refine S.move (fun k => if k = l then γ.length + 2 else if k = j then γ.length + 1 else if k = i then γ.length else k) (by simp [hl]) (fun k r e => ?_) fun k m r r' e1 e2 e => ?_
  · by_cases h0 : k = l
    · subst h0
      rw [set_get (by simpa using hk)] at e
      cases e
      rw [if_pos rfl, g3 γ _ _ _ _ rfl, g3 σ _ _ _ _ hl.symm, set_get (by simp; omega)]
      exact ⟨rfl, rfl⟩
    rw [List.getElem?_set_ne (Ne.symm h0)] at e ⊢
    rw [if_neg h0]
    by_cases h1 : k = j
    · subst h1
      rw [set_get (by simpa using hj)] at e
      cases e
      rw [if_pos rfl, g2 γ _ _ _ _ rfl, g2 σ _ _ _ _ hl.symm, set_get (by simp; omega)]
      exact ⟨rfl, rfl⟩
    · rw [List.getElem?_set_ne (Ne.symm h1)] at e ⊢
      rw [if_neg h1]
      by_cases h2 : k = i
      · subst h2
        rw [set_get hi] at e
        cases e
        rw [if_pos rfl, g1 γ _ _ _ _ rfl, g1 σ _ _ _ _ hl.symm, set_get (by omega)]
        exact ⟨rfl, rfl⟩
      · rw [List.getElem?_set_ne (Ne.symm h2)] at e ⊢
        rw [if_neg h2]
        have hk := (List.getElem?_eq_some_iff.mp e).1
        rw [g0 γ _ _ _ _ hk, g0 σ _ _ _ _ (by omega)]
        exact ⟨e, rfl⟩
  · have b1 := (List.getElem?_eq_some_iff.mp e1).1
    have b2 := (List.getElem?_eq_some_iff.mp e2).1
    rw [List.length_set, List.length_set, List.length_set] at b1 b2
    split at e <;> split at e <;> (try split at e) <;> (try split at e) <;> (try split at e) <;> (try split at e) <;> omega
def sPar3 (i j l : Nat) (v1 v2 v3 : Ga → (SV → Prop) → Prop) : SD := fun E γ => (i < γ.length ∧ j < γ.length ∧ l < γ.length) ∧ v1 γ fun s => v2 γ fun t => v3 γ fun u => E.nx (((γ.set i (some s)).set j (some t)).set l (some u))
theorem ds_par3 {i j l : Nat} {st : Stmt} {ta tb td : TE} {v1 v2 v3 : Ga → (SV → Prop) → Prop} (h : PS X st (tPar3 i j l (tCons ta (tCons tb (tCons td tNil))))) (hij : i ≠ j) (hil : i ≠ l) (hjl : j ≠ l) (h1 : VS c ta v1) (h2 : VS c tb v2) (h3 : VS c td v3) : DS c X st (sPar3 i j l v1 v2 v3) := ps_imp h fun Dn σ H ⟨G, γ, E, S, ⟨⟨hi, hj, hl⟩, h⟩, kn, kr⟩ => by
  refine h1 G γ σ H _ _ ⟨[], [], by simpa using S, S.len⟩ h fun s x G1 H1 L1 S1 p1 => ?_
  have T1 := S1 [] [] (by simpa using S)
  refine h2 G1 γ σ H1 _ _ ⟨[some s], [some x], by simpa using T1, S.len⟩ p1 fun t y G2 H2 L2 S2 p2 => ?_
  have T2 := S2 [some s] [some x] (by simpa using T1)
  refine h3 G2 γ σ H2 _ _ ⟨[some s] ++ [some t], [some x] ++ [some y], by simpa using T2, S.len⟩ p2 fun u z G3 H3 L3 S3 p3 => ?_
  have T3 := S3 ([some s] ++ [some t]) ([some x] ++ [some y]) (by simpa using T2)
  exact ⟨x, y, z, rfl, kn G3 _ _ H3 ((L1.trans L2).trans L3) (SO.three (by simpa using T3) S.len hij hil hjl hi hj hl) p3⟩
/-! ### sorted lots -/
theorem setO_codeO {w : World} {a : Addr} {S : Int → Bool} {n : Nat} {q : Str} : SetO w a S n ≠ LamX.CodeO a q := fun z => by
  unfold SetO LamX.CodeO at z
  have z1 := congrFun (HO.ext.inj z) (⟨Array.replicate (a + 1) { cls := .none, data := .fields #[.none, .str q 0] }, {}⟩ : Heap)
  have g : (⟨Array.replicate (a + 1) { cls := .none, data := .fields #[.none, .str q 0] }, {}⟩ : Heap).get? a = some { cls := .none, data := .fields #[.none, .str q 0] } := by
    unfold Heap.get?
    have e : (Array.replicate (a + 1) ({ cls := .none, data := .fields #[.none, .str q 0] } : Obj))[a]? = some { cls := .none, data := .fields #[.none, .str q 0] } := by simp
    rw [e]
  have z2 : SetR w (⟨Array.replicate (a + 1) { cls := .none, data := .fields #[.none, .str q 0] }, {}⟩ : Heap) a S n := by
    rw [z1]
    exact ⟨_, _, 0, g, rfl, rfl⟩
  obtain ⟨o, es, ep, t, ho, _, hd, _⟩ := z2
  rw [g] at ho
  cases ho
  cases hd
theorem mu_set {w : World} {a : Addr} {S : Int → Bool} {n : Nat} : isMu a (SetO w a S n) := ⟨.inr (.inr ⟨_, rfl⟩), fun q => setO_codeO, fun ⟨_, e⟩ => by (unfold SetO at e; cases e)⟩
def scW (g : GD) (τ : BD) (δ : ED) (γ : Ga) : List D → List Int → (List Int → Prop) → Prop
  | [], acc, P => P acc
  | x :: r, acc, P => g x γ fun γ2 => τ γ2 fun b => if b = true then δ γ2 fun y => ∃ i : Int, y = .int i ∧ acc.length ≤ 1000 ∧ scW g τ δ γ r (acc ++ [i]) P else scW g τ δ γ r acc P
def sc2W (g : GD) (τ : BD) (ι1 : AD) (g1 : GD) (τ1 : BD) (δ : ED) (vs1 : List Nat) (γ : Ga) : List D → List Int → (List Int → Prop) → Prop
  | [], acc, P => P acc
  | x :: r, acc, P => g x γ fun γ2 => τ γ2 fun b => if b = true then ι1 γ2 fun items1 => scW g1 τ1 δ (wipeG γ2 vs1) items1 acc fun acc' => sc2W g τ ι1 g1 τ1 δ vs1 γ r acc' P else sc2W g τ ι1 g1 τ1 δ vs1 γ r acc P
abbrev ND := Ga → (List Int → Prop) → Prop
def nSc1 (ι : AD) (g : GD) (τ : BD) (δ : ED) (vs : List Nat) : ND := fun γ P => ι γ fun items => scW g τ δ (wipeG γ vs) items [] P
def nSc2 (ι : AD) (g : GD) (τ : BD) (ι1 : AD) (g1 : GD) (τ1 : BD) (δ : ED) (vs vs1 : List Nat) : ND := fun γ P => ι γ fun items => sc2W g τ ι1 g1 τ1 δ vs1 (wipeG γ vs) items [] P
theorem turns_it {J : It} {n : Nat} {Gd : Hp → Prop} {Y : Nat → Hp → V → Hp → Prop} (wk : Walk J n Gd Y) {H1 : Hp} {stop : Hp → Prop} {turn : (Hp → Prop) → V → Hp → Prop} (Pv : Nat → Hp → Prop) (h0 : Pv 0 H1) (hG : ∀ i H, i ≤ n → Pv i H → Gd H) (hs : ∀ i x H H', i < n → Pv i H → Y i H x H' → turn (Pv (i + 1)) x H') (hd : ∀ H, Pv n H → stop H) : Gp.tTurns J H1 stop turn := by
  refine ⟨fun i m H => m = n - i ∧ i ≤ n ∧ Pv i H, ⟨n, by simp, Nat.zero_le _, h0⟩, ?_⟩
  rintro i m H ⟨rfl, hi, p⟩
  have q := hG i H hi p
  by_cases hlt : i < n
  · exact .inr ⟨wk.goes i H hlt q, Pv (i + 1), fun H' p' => ⟨n - (i + 1), by omega, rfl, hlt, p'⟩, fun x H' y => hs i x H H' hlt p (wk.yields i H x H' hlt q y)⟩
  · have e : i = n := by omega
    subst e
    exact .inl ⟨wk.stops H q, hd H p⟩
/-- the set at D holds acc -/
def SetIs (w : World) (Dd : Addr) (H : Hp) (acc : List Int) : Prop := ∃ S n, H Dd = some (SetO w Dd S n) ∧ (∀ j, S j = decide (j ∈ acc)) ∧ n ≤ acc.length
theorem SetIs.ex {w : World} {Dd : Addr} {acc : List Int} (h : SetIs w Dd H acc) (n : ¬ G.hpA Dd) (e : Ex c G H H') : SetIs w Dd H' acc := by
  obtain ⟨S, k, h1, h2, h3⟩ := h
  exact ⟨S, k, e.ch.keep _ _ h1 (mu_set).nb fun z => absurd z n, h2, h3⟩
/-- a new set, being filled -/
def cSt (c : Cst) (w : World) (δ : ND) : TE := fun σ H Q => ∃ G γ P, SO c G γ σ H ∧ δ γ P ∧ ∀ acc p H', Ex c G H H' → P acc → SetIs w p H' acc → Q (.ref p) H'
abbrev DSt (c : Cst) (X : Cx) (e : Expr) (δ : ND) : Prop := PE X e (cSt c X.w δ)
/-- G, the set's own object one that may change -/
theorem SO.set_own {p : Addr} (S : SO c G γ σ H) (n : nT H p) (e : Ex c G H H') (hp : ¬ nT H' p) : SO c (G.own p) γ σ H' :=
  ⟨S.len, fun i s q => let ⟨v, h1, h2⟩ := S.sl i s q; ⟨v, h1, h2.leW S.sub (Le.own n e) fun a o w q t => e.ch.keep a o q t fun z => absurd w (S.sub.hp a z).2⟩, S.dist, S.ok.own n e hp⟩
/-- all but the set at p as it was (but for the heap of the draws) -/
structure ExD (c : Cst) (G : Gh) (p : Addr) (H H' : Hp) : Prop where
  le : Le c G H G H'
  rest : ∀ a o, a ≠ p → H a = some o → ¬ isTb o → ¬ G.hpA a → H' a = some o
theorem ExD.refl {p : Addr} : ExD c G p H H := ⟨Le.refl, fun _ _ _ h _ _ => h⟩
theorem ExD.trans {p : Addr} {H'' : Hp} (a : ExD c G p H H') (b : ExD c G p H' H'') : ExD c G p H H'' := ⟨a.le.trans b.le, fun x o n h t m => b.rest x o n (a.rest x o n h t m) t m⟩
theorem ExD.of {p : Addr} (e : Ex c G H H') : ExD c G p H H' := ⟨e.le, fun a o _ h t m => e.ch.keep a o h t fun z => absurd z m⟩
theorem SO.exD {w : World} {p : Addr} {acc : List Int} (S : SO c G γ σ H) (e : ExD c G p H H') (h : SetIs w p H acc) : SO c G γ σ H' := by
  obtain ⟨S0, n0, hp, _⟩ := h
  refine ⟨S.len, fun i s q => ?_, S.dist, S.ok.le e.le⟩
  obtain ⟨v, h1, h2⟩ := S.sl i s q
  refine ⟨v, h1, ?_⟩
  cases s with
  | d x => exact Im.le e.le S.sub _ _ h2
  | l ds =>
    obtain ⟨a, xs, h3, h4, h5, h6⟩ := h2
    refine ⟨a, xs, h3, h4, e.rest _ _ (fun z => ?_) h5 nb_lst fun z => (S.sub.hp _ z).2 h4, Ims.le e.le S.sub _ _ h6⟩
    rw [z, hp] at h5
    unfold SetO at h5
    cases h5
  | m kvs =>
    obtain ⟨a, h3, h4, h5⟩ := h2
    refine ⟨a, h3, h4, e.rest _ _ (fun z => ?_) h5 nb_dT fun z => (S.sub.hp _ z).2 h4⟩
    rw [z, hp] at h5
    unfold SetO at h5
    cases h5
  | z b kvs =>
    obtain ⟨od, h3, h4⟩ := h2
    exact ⟨od, h3, e.le.ch.keep _ _ h4 nb_frz fun _ => nm_frz⟩
  | r K0 b ns => exact ⟨h2.1, h2.2.imp_left fun z => ⟨Rd.le e.le z.1 fun w => w.elim (fun w => z.2 (S.sub.W _ w)) fun w => z.2 (S.sub.hp _ w).1, z.2⟩⟩
theorem put_of {w : World} {p : Addr} {acc : List Int} {R : List Int → Prop} {Nx : Hp → Prop} (S : SO c G γ σ H) (wp : G.W p) (hs : SetIs w p H acc) (h : δ γ fun y => ∃ i : Int, y = .int i ∧ acc.length ≤ 1000 ∧ R (acc ++ [i])) (k : ∀ acc' H', ExD c G p H H' → SetIs w p H' acc' → R acc' → Nx H') : cE c δ σ H (Gp.sPut w p Nx) := by
  have nh : ¬ G.hpA p := fun z => (S.sub.hp _ z).2 wp
  refine ⟨G, γ, _, S, h, fun y v H4 e4 ⟨i, ey, hl, r⟩ im => ?_⟩
  subst ey
  cases im
  obtain ⟨Sx, n, h1, h2, h3⟩ := hs.ex nh e4
  refine ⟨i, Sx, n, rfl, h1, by unfold scanBound; omega, k (acc ++ [i]) _ ⟨e4.le.trans (Le.put (S.ex e4).sub wp h1 mu_set (mu_set).nb), fun a o ne q t m => by rw [upd_ne ne]; exact e4.ch.keep a o q t fun z => absurd z m⟩ ⟨_, _, upd_same, fun j => ?_, ?_⟩ r⟩
  · unfold Gp.withInt
    rw [h2 j]
    simp
  · rw [List.length_append, List.length_singleton]
    split <;> omega
theorem clause_of {w : World} {G0 GD : Gh} {H1 Hs : Hp} {J : It} {items : List D} {vs : List Nat} {stop : Hp → Prop} {Dd : Addr} {acc0 : List Int} {body : L2.St → Hp → (Hp → Prop) → Prop} {Bd : Ga → List Int → (List Int → Prop) → Prop} {W : List D → List Int → Prop}
    (wk : WalkD c G0 J items H1) (L0 : Le c G0 H1 GD Hs) (S0 : SO c GD γ σ Hs) (h0 : SetIs w Dd Hs acc0) (hW : W items acc0) (nh : ¬ GD.hpA Dd)
    (step : ∀ x r acc, W (x :: r) acc → g x (wipeG γ vs) fun γ2 => τ γ2 fun b => if b = true then Bd γ2 acc (fun acc' => W r acc') else W r acc)
    (hb : ∀ γ2 σ2 H3 acc r Nx, SO c GD γ2 σ2 H3 → SetIs w Dd H3 acc → Bd γ2 acc (fun acc' => W r acc') → (∀ acc' H', ExD c GD Dd H3 H' → SetIs w Dd H' acc' → W r acc' → Nx H') → body σ2 H3 Nx)
    (hst : ∀ acc H', ExD c GD Dd Hs H' → SetIs w Dd H' acc → W [] acc → stop H') :
    Gp.tTurns J Hs stop (fun Nx x H' => cG c vs g x (wipe σ vs) H' fun σ2 H2 => cT c τ σ2 H2 fun b H3 => wipe σ2 vs = wipe σ vs ∧ if b = true then body σ2 H3 Nx else Nx H3) := by
  obtain ⟨Gd, Y, wk, wy⟩ := wk
  refine turns_it wk (fun i H' => ExD c GD Dd Hs H' ∧ ∃ acc, SetIs w Dd H' acc ∧ W (items.drop i) acc) ⟨.refl, acc0, h0, hW⟩ ?_ ?_ ?_
  · rintro i H' _ ⟨e, acc, h1, _⟩
    exact (wy GD H' (L0.trans e.le) (S0.ok.le e.le)).1
  · rintro i x H' H'' hi ⟨e, acc, h1, h2⟩ hy
    obtain ⟨d, hd⟩ : ∃ d, items[i]? = some d := ⟨_, List.getElem?_eq_getElem hi⟩
    obtain ⟨e3, i3⟩ := (wy GD H' (L0.trans e.le) (S0.ok.le e.le)).2 i d x H'' hd hy
    have ed : items.drop i = d :: items.drop (i + 1) := by
      rw [List.drop_eq_getElem_cons hi]
      rw [List.getElem?_eq_getElem hi] at hd
      cases hd
      rfl
    rw [ed] at h2
    have S2 := ((S0.exD e h0).ex e3).wipe vs
    have h1' := h1.ex nh e3
    refine ⟨GD, _, d, _, S2, i3, step _ _ _ h2, fun γ' σ' S' hw hp' => ⟨GD, γ', _, S', hp', fun b H3 e4 p4 => ⟨hw.trans wipe_wipe, ?_⟩⟩⟩
    have e34 := (e.trans (.of e3)).trans (ExD.of (p := Dd) e4)
    cases b with
    | true => exact hb γ' σ' H3 acc _ _ (S'.ex e4) (h1'.ex nh e4) p4 fun acc' H4 e5 h5 w5 => ⟨e34.trans e5, acc', h5, w5⟩
    | false => exact ⟨e34, acc, h1'.ex nh e4, p4⟩
  · rintro H' ⟨e, acc, h1, h2⟩
    rw [List.drop_length] at h2
    exact hst acc H' e h1 h2
theorem fresh_set {w : World} {Dd : Addr} (S : SO c G γ σ H) (hD : H Dd = none) : Le c G H (G.own Dd) (upd H Dd (SetO w Dd Gp.noInt 0)) ∧ SO c (G.own Dd) γ σ (upd H Dd (SetO w Dd Gp.noInt 0)) ∧ SetIs w Dd (upd H Dd (SetO w Dd Gp.noInt 0)) [] ∧ ¬ (G.own Dd).hpA Dd :=
  ⟨Le.own (nT.of hD) (Ex.new hD), S.set_own (nT.of hD) (Ex.new hD) fun n => (mu_set).nb (n _ upd_same), ⟨_, _, upd_same, fun j => by simp [Gp.noInt], Nat.le_refl _⟩, HpOK.fresh S.hok hD⟩
/-- the set filled, seen from before it was there -/
theorem ExD.back {p : Addr} {o : HO} {H0 : Hp} (n0 : H p = none) (e : ExD c (G.own p) p (upd H p o) H') : Ex c G H H' := by
  have L := (Le.own (c := c) (G := G) (nT.of n0) (Ex.new (o := o) n0)).trans e.le
  refine ⟨⟨fun a v q t m => ?_, L.ch.dom, L.ch.tabs⟩, fun k => L.hok k⟩
  by_cases z : G.hpA a
  · have hok := e.le.ch
    exact hok.keep a v (by rw [upd_ne (ne_of_none q n0)]; exact q) t fun _ => m z
  · have ne : a ≠ p := fun w => by (rw [w, n0] at q; cases q)
    exact e.rest a v ne (by rw [upd_ne ne]; exact q) t z
theorem sc1_of {w : World} {vs : List Nat} (Q : VK) (h : cSt c w (nSc1 ι g τ δ vs) σ H Q) : Gp.tSc1 w (cI c ι) (cG c vs g) (cT c τ) (cE c δ) vs σ H Q := by
  obtain ⟨G, γ, P, S, h, k⟩ := h
  refine ⟨G, γ, _, S, h, fun items J H1 e1 p wk => fun Dd hD => ?_⟩
  have S1 := S.ex e1
  obtain ⟨L0, S0, h0, nh⟩ := fresh_set (w := w) S1 hD
  refine clause_of (W := fun its acc => scW g τ δ (wipeG γ vs) its acc P) (Bd := fun γ2 acc R => δ γ2 fun y => ∃ i : Int, y = .int i ∧ acc.length ≤ 1000 ∧ R (acc ++ [i])) wk L0 S0 h0 p nh (fun x r acc q => q) (fun γ2 σ2 H3 acc r Nx S2 hs hb kk => put_of S2 (.inr rfl) hs hb kk) fun acc H' e hs hp => ?_
  exact k acc Dd H' (e1.trans (ExD.back (H0 := H) hD e)) hp hs
theorem sc2_of {w : World} {vs vs1 : List Nat} (Q : VK) (h : cSt c w (nSc2 ι g τ ι1 g1 τ1 δ vs vs1) σ H Q) : Gp.tSc2 w (cI c ι) (cG c vs g) (cT c τ) (cI c ι1) (cG c vs1 g1) (cT c τ1) (cE c δ) vs vs1 σ H Q := by
  obtain ⟨G, γ, P, S, h, k⟩ := h
  refine ⟨G, γ, _, S, h, fun items J H1 e1 p wk => fun Dd hD => ?_⟩
  have S1 := S.ex e1
  obtain ⟨L0, S0, h0, nh⟩ := fresh_set (w := w) S1 hD
  refine clause_of (W := fun its acc => sc2W g τ ι1 g1 τ1 δ vs1 (wipeG γ vs) its acc P) (Bd := fun γ2 acc R => ι1 γ2 fun items1 => scW g1 τ1 δ (wipeG γ2 vs1) items1 acc R)
    (body := fun σ2 H3 Nx => cI c ι1 σ2 H3 fun J1 H4 => Gp.tTurns J1 H4 Nx fun Nx1 x1 H5 => cG c vs1 g1 x1 (wipe σ2 vs1) H5 fun σ3 H6 => cT c τ1 σ3 H6 fun b1 H7 => wipe σ3 vs1 = wipe σ2 vs1 ∧ if b1 = true then cE c δ σ3 H7 (Gp.sPut w Dd Nx1) else Nx1 H7)
    wk L0 S0 h0 p nh (fun x r acc q => q) (fun γ2 σ2 H3 acc r Nx S2 hs hb kk => ?_) fun acc H' e hs hp => ?_
  · refine ⟨_, γ2, _, S2, hb, fun items1 J1 H4 e4 p4 wk1 => ?_⟩
    refine clause_of (W := fun its acc => scW g1 τ1 δ (wipeG γ2 vs1) its acc fun acc' => sc2W g τ ι1 g1 τ1 δ vs1 (wipeG γ vs) r acc' P) (Bd := fun γ3 acc R => δ γ3 fun y => ∃ i : Int, y = .int i ∧ acc.length ≤ 1000 ∧ R (acc ++ [i])) wk1 Le.refl (S2.ex e4) (hs.ex nh e4) p4 nh (fun x r acc q => q) (fun γ3 σ3 H6 acc r Nx S3 hs hb kk => put_of S3 (.inr rfl) hs hb kk) fun acc' H' e hs hp => ?_
    exact kk acc' H' ((ExD.of e4).trans e) hs hp
  · exact k acc Dd H' (e1.trans (ExD.back (H0 := H) hD e)) hp hs
theorem dst1 {scope : Scope} {own : List (Str × Nat)} (hc : X.calm = true) (hN : X.N.Nodup) (hi : DI c X tg iter ι) (ok : BlkOk X.N X.env.scope scope own)
    (hg : ∀ (s : Shared) (H : Hp) (C : Addr) (cl : List (Str × Addr)) (fp : List Addr), PG (X.blk s H scope (compEnvC scope cl C X.env) fp) tg (cG c (own.map (·.2)) g)) (ht : ∀ (s : Shared) (H : Hp) (C : Addr) (cl : List (Str × Addr)) (fp : List Addr), PTs (X.blk s H scope (compEnvC scope cl C X.env) fp) ifs (cT c τ))
    (he : ∀ (s : Shared) (H : Hp) (C : Addr) (cl : List (Str × Addr)) (fp : List Addr), DE c (X.blk s H scope (compEnvC scope cl C X.env) fp) elt δ) (hs : ∀ x, foldedSetIterable iter X.env x = pure x := by intro _; rfl) :
    DSt c X (.SetComp elt [⟨tg, iter, ifs, 0⟩] scope pos) (nSc1 ι g τ δ (own.map (·.2))) := pe_imp (Gp.pe_sc1 hc hN hi ok hg ht he hs) fun _ _ Q h => sc1_of Q h
theorem dst2 {scope : Scope} {own : List (Str × Nat)} {vs1 : List Nat} (hc : X.calm = true) (hN : X.N.Nodup) (hi : DI c X tg iter ι) (ok : BlkOk X.N X.env.scope scope own) (hv : ∀ i ∈ vs1, i ∈ own.map (·.2))
    (hg : ∀ (s : Shared) (H : Hp) (C : Addr) (cl : List (Str × Addr)) (fp : List Addr), PG (X.blk s H scope (compEnvC scope cl C X.env) fp) tg (cG c (own.map (·.2)) g)) (ht : ∀ (s : Shared) (H : Hp) (C : Addr) (cl : List (Str × Addr)) (fp : List Addr), PTs (X.blk s H scope (compEnvC scope cl C X.env) fp) ifs (cT c τ))
    (hi1 : ∀ (s : Shared) (H : Hp) (C : Addr) (cl : List (Str × Addr)) (fp : List Addr), PI (X.blk s H scope (compEnvC scope cl C X.env) fp) tg1 iter1 (cI c ι1)) (hg1 : ∀ (s : Shared) (H : Hp) (C : Addr) (cl : List (Str × Addr)) (fp : List Addr), PG (X.blk s H scope (compEnvC scope cl C X.env) fp) tg1 (cG c vs1 g1)) (ht1 : ∀ (s : Shared) (H : Hp) (C : Addr) (cl : List (Str × Addr)) (fp : List Addr), PTs (X.blk s H scope (compEnvC scope cl C X.env) fp) ifs1 (cT c τ1))
    (he : ∀ (s : Shared) (H : Hp) (C : Addr) (cl : List (Str × Addr)) (fp : List Addr), DE c (X.blk s H scope (compEnvC scope cl C X.env) fp) elt δ) (hs : ∀ x, foldedSetIterable iter X.env x = pure x := by intro _; rfl) (hs1 : ∀ env x, foldedSetIterable iter1 env x = pure x := by intro _ _; rfl) :
    DSt c X (.SetComp elt [⟨tg, iter, ifs, 0⟩, ⟨tg1, iter1, ifs1, 0⟩] scope pos) (nSc2 ι g τ ι1 g1 τ1 δ (own.map (·.2)) vs1) := pe_imp (Gp.pe_sc2 hc hN hi ok hv hg ht hi1 hg1 ht1 he hs hs1) fun _ _ Q h => sc2_of Q h
/-- set(a tuple of whole numbers) -/
def nSetT (α : AD) : ND := fun γ P => α γ fun ds => ∃ ns : List Int, ds = [.tup (ns.map .int)] ∧ ns.length ≤ 1000 ∧ P ns
theorem dstT {p : Pos} (hc : X.calm = true) (hg : Gl X "set") (hm : X.mg "set" = none) (ha : DA c X [e] α) (he : starEach [e] X.env = (false, eval e X.env) :: starEach [] X.env := by rfl) (hpl : (backTo pos (starEach [] X.env)).any (·.1) = false := by rfl) : DSt c X (.Call (.Name "set" p) [e] [] pos) (nSetT α) := pe_imp (pe_callTy (Gp.cr_setT hc) hg hm (by decide +kernel) ha (by decide) (by decide) he hpl) fun σ H Q ⟨G, γ, P, S, h, k⟩ =>
  ⟨G, γ, _, S, h, fun ds vs H1 e p q => by
    obtain ⟨ns, rfl, hl, p⟩ := p
    obtain ⟨v, rfl, im⟩ := q.one_of rfl
    cases im with
    | tup e1 q1 =>
      obtain rfl := q1.ints
      exact ⟨_, ns, rfl, .of e1, hl, fun q0 cn hq hcn => k ns q0 _ (e.trans (Ex.new hq)) p ⟨_, _, upd_same, fun _ => rfl, hcn⟩⟩⟩
def aSrt (δ : ND) : AD := fun γ P => δ γ fun acc => acc.length < 64 ∧ P ((usort acc).map .int)
theorem dl_sort {p : Pos} {δ : ND} (hc : X.calm = true) (hg : Gl X "sorted") (hm : X.mg "sorted" = none) (h : DSt c X e δ) (he : starEach [e] X.env = (false, eval e X.env) :: starEach [] X.env := by rfl) (hpl : (backTo pos (starEach [] X.env)).any (·.1) = false := by rfl) : DL c X (.Call (.Name "sorted" p) [e] [] pos) (aSrt δ) := pe_imp (pe_callB (cr_sortedSet hc) hg hm (by decide +kernel) (pa_cons h pa_nil he) (by decide) (by decide) he hpl) fun σ H Q ⟨G, γ, P, S, h, k⟩ =>
  ⟨G, γ, _, S, h, fun acc p H1 e pp hs => by
    obtain ⟨Sx, n, h1, h2, h3⟩ := hs
    refine ⟨p, Sx, n, rfl, h1, by omega, fun ns q hpw hmem hlen hq => ?_⟩
    have en : ns = usort acc := pw_unique hpw (usort_pw acc) fun z => by rw [hmem z, h2 z, mem_usort]; simp
    subst en
    exact k _ q _ _ (e.ch.nT_back (nT.of hq)) (e.trans (Ex.new hq)) pp.2 upd_same Ims.ofInts⟩
end
end DW
set_option Elab.async false
set_option linter.all false
set_option maxRecDepth 100000
set_option maxHeartbeats 1000000
set_option autoImplicit false
namespace DW
open PySem PySem.Spec PyProof.Rows L2 K62
section
variable {c : Cst} {P : Program} {w : World} {K : PySem.W.Frag} {mg : Str → Option Value} {base : Heap}
/-! is_integer -/
def N_is_integer : List Str := ["value"]
theorem nd_is_integer : N_is_integer.Nodup := by decide +kernel
def τ_is_integer : SD := (sRet (dAndV (dIns "int" (dVar 0)) (dNotV (dIns "bool" (dVar 0)))))
def F_is_integer : List D → (D → Prop) → Prop := fnD N_is_integer τ_is_integer
theorem sc_is_integer : FnScope N_is_integer ["value"] (defScope (top 21)) := ⟨rfl, rfl, rfl, by decide +kernel, rfl, by decide +kernel, by decide +kernel⟩
theorem ok_is_integer (Fc : Facts P w K mg base c) : Fk P w K mg base "is_integer" 1 1 (SpD c 1 F_is_integer) := by
  obtain ⟨f, fd, F, hm⟩ := Fc.fn "is_integer" 21 (by decide)
  refine fk_mk F hm sc_is_integer rfl (fun _ _ _ _ _ _ us hl => match us, hl with | [_], _ => rfl) fun cdv A outer s H E hr => ?_
  exact (dss_one (ds_ret (de_and (de_ins (Ts := "int") (by decide) rfl (Fc.free "isinstance" (by decide)) rfl (Fc.free "int" (by decide)) (by decide +kernel) (dv 0)) (de_one (de_not (de_ins (Ts := "bool") (by decide) rfl (Fc.free "isinstance" (by decide)) rfl (Fc.free "bool" (by decide)) (by decide +kernel) (dv 0)))))))
/-! is_number -/
def N_is_number : List Str := ["value"]
theorem nd_is_number : N_is_number.Nodup := by decide +kernel
def τ_is_number : SD := (sRet (dAndV (dCall 1 F_is_integer (aCons (dVar 0) aNil)) (dBin oGe (dVar 0) (dC (.int 0)))))
def F_is_number : List D → (D → Prop) → Prop := fnD N_is_number τ_is_number
theorem sc_is_number : FnScope N_is_number ["value"] (defScope (top 22)) := ⟨rfl, rfl, rfl, by decide +kernel, rfl, by decide +kernel, by decide +kernel⟩
theorem ok_is_number (Fc : Facts P w K mg base c) : Fk P w K mg base "is_number" 2 1 (SpD c 1 F_is_number) := by
  have ok_is_integer := ok_is_integer Fc
  obtain ⟨f, fd, F, hm⟩ := Fc.fn "is_number" 22 (by decide)
  refine fk_mk F hm sc_is_number rfl (fun _ _ _ _ _ _ us hl => match us, hl with | [_], _ => rfl) fun cdv A outer s H E hr => ?_
  exact (dss_one (ds_ret (de_and (de_call ok_is_integer (hr.mono (by decide)) rfl (da_cons (dv 0) da_nil)) (de_one (de_cmp rd_ge op_ge (dv 0) dint)))))
/-! window_end -/
def N_window_end : List Str := ["window"]
theorem nd_window_end : N_window_end.Nodup := by decide +kernel
def τ_window_end : SD := (sRet (dBin oAdd (dBin oIx (dVar 0) (dC (.int 1))) (dBin oIx (dVar 0) (dC (.int 2)))))
def F_window_end : List D → (D → Prop) → Prop := fnD N_window_end τ_window_end
theorem sc_window_end : FnScope N_window_end ["window"] (defScope (top 8)) := ⟨rfl, rfl, rfl, by decide +kernel, rfl, by decide +kernel, by decide +kernel⟩
theorem ok_window_end (Fc : Facts P w K mg base c) : Fk P w K mg base "window_end" 1 1 (SpD c 1 F_window_end) := by
  obtain ⟨f, fd, F, hm⟩ := Fc.fn "window_end" 8 (by decide)
  refine fk_mk F hm sc_window_end rfl (fun _ _ _ _ _ _ us hl => match us, hl with | [_], _ => rfl) fun cdv A outer s H E hr => ?_
  exact (dss_one (ds_ret (de_op rd_add op_addD (de_ix (dv 0) dint) (de_ix (dv 0) dint))))
/-! size_of_wish -/
def N_size_of_wish : List Str := ["wish"]
theorem nd_size_of_wish : N_size_of_wish.Nodup := by decide +kernel
def τ_size_of_wish : SD := (sRet (dIf (dTest (dBin oEq (dBin oIx (dVar 0) (dC (.int 0))) (dC (.str "bench")))) (dC (.int 1)) (dBin oIx (dVar 0) (dC (.int 2)))))
def F_size_of_wish : List D → (D → Prop) → Prop := fnD N_size_of_wish τ_size_of_wish
theorem sc_size_of_wish : FnScope N_size_of_wish ["wish"] (defScope (top 7)) := ⟨rfl, rfl, rfl, by decide +kernel, rfl, by decide +kernel, by decide +kernel⟩
theorem ok_size_of_wish (Fc : Facts P w K mg base c) : Fk P w K mg base "size_of_wish" 1 1 (SpD c 1 F_size_of_wish) := by
  obtain ⟨f, fd, F, hm⟩ := Fc.fn "size_of_wish" 7 (by decide)
  refine fk_mk F hm sc_size_of_wish rfl (fun _ _ _ _ _ _ us hl => match us, hl with | [_], _ => rfl) fun cdv A outer s H E hr => ?_
  exact (dss_one (ds_ret (de_if (dt_cmp rd_eq (op_eqD hr.units) (de_ix (dv 0) dint) dstr) dint (de_ix (dv 0) dint))))
/-! job_windows -/
def N_job_windows : List Str := ["task", "k", "box", "wish", "place", "length", "need"]
theorem nd_job_windows : N_job_windows.Nodup := by decide +kernel
def τ_job_windows : SD := (sSeq (sAsg (dBin oIx (dFld "wishes" (dVar 0)) (dVar 1)) (gN 3))
  (sSeq (sIf (dTest (dBin oEq (dBin oIx (dVar 3) (dC (.int 0))) (dC (.str "bench")))) (sRet (dCB oTupOf (aCons (dLst (dLc (iT (dBin oIx (dVar 3) (dC (.int 1)))) (gTp 2 (gCn (gN 4) (gCn (gN 5) gNl))) (fun _ P => P true) (dBin oAdd (dBin oIx (dVar 2) (dVar 4)) (dTup (aCons (dVar 5) (aCons (dC (.int 1)) aNil)))) [4, 5])) aNil))) sNx)
  (sRet (dCB oTupOf (aCons (dLst (dLc (iT (dBin oIx (dVar 3) (dC (.int 1)))) (gTp 3 (gCn (gN 4) (gCn (gN 5) (gCn (gN 6) gNl)))) (fun _ P => P true) (dBin oAdd (dBin oIx (dVar 2) (dVar 4)) (dTup (aCons (dVar 5) (aCons (dVar 6) aNil)))) [4, 5, 6])) aNil)))))
def F_job_windows : List D → (D → Prop) → Prop := fnD N_job_windows τ_job_windows
theorem sc_job_windows : FnScope N_job_windows ["task", "k", "box"] (defScope (top 6)) := ⟨rfl, rfl, rfl, by decide +kernel, rfl, by decide +kernel, by decide +kernel⟩
theorem ok_job_windows (Fc : Facts P w K mg base c) : Fk P w K mg base "job_windows" 1 3 (SpD c 3 F_job_windows) := by
  obtain ⟨f, fd, F, hm⟩ := Fc.fn "job_windows" 6 (by decide)
  refine fk_mk F hm sc_job_windows rfl (fun _ _ _ _ _ _ us hl => match us, hl with | [_, _, _], _ => rfl) fun cdv A outer s H E hr => ?_
  exact (dss_cons (ds_set (i := 3) nd_job_windows rfl (by first | exact Or.inl rfl | exact Or.inr rfl) (de_ix (de_fld Fc.cls Fc.at2 (dv 0)) (dv 1)))
    (dss_cons (ds_if (dt_cmp rd_eq (op_eqD hr.units) (de_ix (dv 3) dint) dstr) (dss_one (ds_ret (de_bty rc_tup call_tuple_of rfl (Fc.free "tuple" (by decide)) (da_cons (de_ofL (dl_lc (own := [("place", 4), ("length", 5)]) rfl nd_job_windows (dit (de_ix (dv 3) dint)) (blkOk_by (by kernel_rfl)) (fun _ _ _ _ _ => (dgt rfl (dgs_cons (dgn (vs := [4, 5]) nd_job_windows rfl (by first | exact Or.inl rfl | exact Or.inr rfl)) (dgs_cons (dgn (vs := [4, 5]) nd_job_windows rfl (by first | exact Or.inl rfl | exact Or.inr rfl)) dgs_nil)))) (fun _ _ _ _ _ => dts_nil) (fun _ _ _ _ _ => (de_op rd_add op_addD (de_ix (dv 2) (dv 4)) (de_tup (da_cons (dv 5) (da_cons dint da_nil))))))) da_nil)))) dss_nil)
    (dss_one (ds_ret (de_bty rc_tup call_tuple_of rfl (Fc.free "tuple" (by decide)) (da_cons (de_ofL (dl_lc (own := [("place", 4), ("length", 5), ("need", 6)]) rfl nd_job_windows (dit (de_ix (dv 3) dint)) (blkOk_by (by kernel_rfl)) (fun _ _ _ _ _ => (dgt rfl (dgs_cons (dgn (vs := [4, 5, 6]) nd_job_windows rfl (by first | exact Or.inl rfl | exact Or.inr rfl)) (dgs_cons (dgn (vs := [4, 5, 6]) nd_job_windows rfl (by first | exact Or.inl rfl | exact Or.inr rfl)) (dgs_cons (dgn (vs := [4, 5, 6]) nd_job_windows rfl (by first | exact Or.inl rfl | exact Or.inr rfl)) dgs_nil))))) (fun _ _ _ _ _ => dts_nil) (fun _ _ _ _ _ => (de_op rd_add op_addD (de_ix (dv 2) (dv 4)) (de_tup (da_cons (dv 5) (da_cons (dv 6) da_nil))))))) da_nil))))))
/-! work_of -/
def N_work_of : List Str := ["windows", "jobs", "job"]
theorem nd_work_of : N_work_of.Nodup := by decide +kernel
def τ_work_of : SD := (sRet (dCB oSum (aCons (dLst (dLc (iT (dVar 1)) (gN 2) (fun _ P => P true) (dBin oMul (dBin oIx (dBin oIx (dVar 0) (dVar 2)) (dC (.int 2))) (dBin oIx (dBin oIx (dVar 0) (dVar 2)) (dC (.int 3)))) [2])) aNil)))
def F_work_of : List D → (D → Prop) → Prop := fnD N_work_of τ_work_of
theorem sc_work_of : FnScope N_work_of ["windows", "jobs"] (defScope (top 9)) := ⟨rfl, rfl, rfl, by decide +kernel, rfl, by decide +kernel, by decide +kernel⟩
theorem ok_work_of (Fc : Facts P w K mg base c) : Fk P w K mg base "work_of" 1 2 (SpD c 2 F_work_of) := by
  obtain ⟨f, fd, F, hm⟩ := Fc.fn "work_of" 9 (by decide)
  refine fk_mk F hm sc_work_of rfl (fun _ _ _ _ _ _ us hl => match us, hl with | [_, _], _ => rfl) fun cdv A outer s H E hr => ?_
  exact (dss_one (ds_ret (de_blt rc_sum (cr_sum rfl) rfl (Fc.free "sum" (by decide)) (da_cons (de_ofL (dl_lc (own := [("job", 2)]) rfl nd_work_of (dit (dv 1)) (blkOk_by (by kernel_rfl)) (fun _ _ _ _ _ => (dgn (vs := [2]) nd_work_of rfl (by first | exact Or.inl rfl | exact Or.inr rfl))) (fun _ _ _ _ _ => dts_nil) (fun _ _ _ _ _ => (de_op rd_mul op_mulD (de_ix (de_ix (dv 0) (dv 2)) dint) (de_ix (de_ix (dv 0) (dv 2)) dint))))) da_nil))))
/-! jobs_within -/
def N_jobs_within : List Str := ["windows", "a", "b", "job", "window"]
theorem nd_jobs_within : N_jobs_within.Nodup := by decide +kernel
def τ_jobs_within : SD := (sRet (dCB oTupOf (aCons (dLst (dLc (iEn (aCons (dVar 0) aNil)) (gTp 2 (gCn (gN 3) (gCn (gN 4) gNl))) (bAnd (dTest (dBin oLe (dVar 1) (dBin oIx (dVar 4) (dC (.int 0))))) (dTest (dBin oLe (dCall 1 F_window_end (aCons (dVar 4) aNil)) (dVar 2)))) (dVar 3) [3, 4])) aNil)))
def F_jobs_within : List D → (D → Prop) → Prop := fnD N_jobs_within τ_jobs_within
theorem sc_jobs_within : FnScope N_jobs_within ["windows", "a", "b"] (defScope (top 10)) := ⟨rfl, rfl, rfl, by decide +kernel, rfl, by decide +kernel, by decide +kernel⟩
theorem ok_jobs_within (Fc : Facts P w K mg base c) : Fk P w K mg base "jobs_within" 2 3 (SpD c 3 F_jobs_within) := by
  have ok_window_end := ok_window_end Fc
  obtain ⟨f, fd, F, hm⟩ := Fc.fn "jobs_within" 10 (by decide)
  refine fk_mk F hm sc_jobs_within rfl (fun _ _ _ _ _ _ us hl => match us, hl with | [_, _, _], _ => rfl) fun cdv A outer s H E hr => ?_
  exact (dss_one (ds_ret (de_bty rc_tup call_tuple_of rfl (Fc.free "tuple" (by decide)) (da_cons (de_ofL (dl_lc (own := [("job", 3), ("window", 4)]) rfl nd_jobs_within (die rfl (Fc.free "enumerate" (by decide)) (da_cons (dv 0) da_nil)) (blkOk_by (by kernel_rfl)) (fun _ _ _ _ _ => (dgt rfl (dgs_cons (dgn (vs := [3, 4]) nd_jobs_within rfl (by first | exact Or.inl rfl | exact Or.inr rfl)) (dgs_cons (dgn (vs := [3, 4]) nd_jobs_within rfl (by first | exact Or.inl rfl | exact Or.inr rfl)) dgs_nil)))) (fun _ _ _ _ _ => (dts_one (dt_w (dw_and (dt_cmp rd_le op_le (dv 1) (de_ix (dv 4) dint)) (dw_and1 (dt_cmp rd_le op_le (de_call ok_window_end (hr.mono (by decide)) rfl (da_cons (dv 4) da_nil)) (dv 2))))))) (fun _ _ _ _ _ => (dv 3)))) da_nil))))
/-! leaf_of_part -/
def N_leaf_of_part : List Str := ["k", "part"]
theorem nd_leaf_of_part : N_leaf_of_part.Nodup := by decide +kernel
def τ_leaf_of_part : SD := (sRet (dBin oAdd (dTup (aCons (dBin oIx (dVar 1) (dC (.int 0))) (aCons (dVar 0) aNil))) (dSl (some 1) none (dVar 1))))
def F_leaf_of_part : List D → (D → Prop) → Prop := fnD N_leaf_of_part τ_leaf_of_part
theorem sc_leaf_of_part : FnScope N_leaf_of_part ["k", "part"] (defScope (top 12)) := ⟨rfl, rfl, rfl, by decide +kernel, rfl, by decide +kernel, by decide +kernel⟩
theorem ok_leaf_of_part (Fc : Facts P w K mg base c) : Fk P w K mg base "leaf_of_part" 1 2 (SpD c 2 F_leaf_of_part) := by
  obtain ⟨f, fd, F, hm⟩ := Fc.fn "leaf_of_part" 12 (by decide)
  refine fk_mk F hm sc_leaf_of_part rfl (fun _ _ _ _ _ _ us hl => match us, hl with | [_, _], _ => rfl) fun cdv A outer s H E hr => ?_
  exact (dss_one (ds_ret (de_op rd_add op_addD (de_tup (da_cons (de_ix (dv 1) dint) (da_cons (dv 0) da_nil))) (de_sl (dv 1) po_d po_n))))
/-! load_parts -/
def N_load_parts : List Str := ["windows", "size", "found", "a", "window", "b", "jobs"]
theorem nd_load_parts : N_load_parts.Nodup := by decide +kernel
def τ_load_parts : SD := (sSeq (sOwn 2 (aLst aNil))
  (sSeq (sFor (aSrt (nSc1 (iT (dVar 0)) (gN 4) (fun _ P => P true) (dBin oIx (dVar 4) (dC (.int 0))) [4])) (gN 3) (sFor (aSrt (nSc1 (iT (dVar 0)) (gN 4) (fun _ P => P true) (dCall 1 F_window_end (aCons (dVar 4) aNil)) [4])) (gN 5) (sSeq (sAsg (dCall 3 F_jobs_within (aCons (dVar 0) (aCons (dVar 3) (aCons (dVar 5) aNil)))) (gN 6))
  (sIf (bAnd (dTest (dBin oLe (dVar 3) (dVar 5))) (dTest (dBin oGt (dCall 2 F_work_of (aCons (dVar 0) (aCons (dVar 6) aNil))) (dBin oMul (dBin oSub (dVar 5) (dVar 3)) (dVar 1))))) (sApp 2 (dTup (aCons (dC (.str "load")) (aCons (dVar 6) (aCons (dVar 3) (aCons (dVar 5) aNil)))))) sNx))))
  (sRetL 2)))
def F_load_parts : List D → (D → Prop) → Prop := fnD N_load_parts τ_load_parts
theorem sc_load_parts : FnScope N_load_parts ["windows", "size"] (defScope (top 11)) := ⟨rfl, rfl, rfl, by decide +kernel, rfl, by decide +kernel, by decide +kernel⟩
theorem ok_load_parts (Fc : Facts P w K mg base c) : Fk P w K mg base "load_parts" 3 2 (SpD c 2 F_load_parts) := by
  have ok_jobs_within := ok_jobs_within Fc
  have ok_window_end := ok_window_end Fc
  have ok_work_of := ok_work_of Fc
  obtain ⟨f, fd, F, hm⟩ := Fc.fn "load_parts" 11 (by decide)
  refine fk_mk F hm sc_load_parts rfl (fun _ _ _ _ _ _ us hl => match us, hl with | [_, _], _ => rfl) fun cdv A outer s H E hr => ?_
  exact (dss_cons (ds_own (i := 2) nd_load_parts rfl (by first | exact Or.inl rfl | exact Or.inr rfl) (dl_lst da_nil))
    (dss_cons (ds_for .never rfl (dil_new (dl_sort rfl rfl (Fc.free "sorted" (by decide)) (dst1 (own := [("window", 4)]) rfl nd_load_parts (dit (dv 0)) (blkOk_by (by kernel_rfl)) (fun _ _ _ _ _ => (dgn (vs := [4]) nd_load_parts rfl (by first | exact Or.inl rfl | exact Or.inr rfl))) (fun _ _ _ _ _ => dts_nil) (fun _ _ _ _ _ => (de_ix (dv 4) dint))))) (dgn (vs := [3]) nd_load_parts rfl (by first | exact Or.inl rfl | exact Or.inr rfl)) (dss_one (ds_for .never rfl (dil_new (dl_sort rfl rfl (Fc.free "sorted" (by decide)) (dst1 (own := [("window", 4)]) rfl nd_load_parts (dit (dv 0)) (blkOk_by (by kernel_rfl)) (fun _ _ _ _ _ => (dgn (vs := [4]) nd_load_parts rfl (by first | exact Or.inl rfl | exact Or.inr rfl))) (fun _ _ _ _ _ => dts_nil) (fun _ _ _ _ _ => (de_call ok_window_end (hr.mono (by decide)) rfl (da_cons (dv 4) da_nil)))))) (dgn (vs := [5]) nd_load_parts rfl (by first | exact Or.inl rfl | exact Or.inr rfl)) (dss_cons (ds_set (i := 6) nd_load_parts rfl (by first | exact Or.inl rfl | exact Or.inr rfl) (de_call ok_jobs_within (hr.mono (by decide)) rfl (da_cons (dv 0) (da_cons (dv 3) (da_cons (dv 5) da_nil)))))
    (dss_one (ds_if (dt_w (dw_and (dt_cmp rd_le op_le (dv 3) (dv 5)) (dw_and1 (dt_cmp rd_gt op_gt (de_call ok_work_of (hr.mono (by decide)) rfl (da_cons (dv 0) (da_cons (dv 6) da_nil))) (de_op rd_mul op_mulD (de_op rd_sub op_sub (dv 5) (dv 3)) (dv 1)))))) (dss_one (ds_app (i := 2) (pe_bm PySem.F.plainAttrs_list PySem.F.slot_list_append PySem.F.type_list_append mt_append (pv 2) (pa_cons (de_tup (da_cons dstr (da_cons (dv 6) (da_cons (dv 3) (da_cons (dv 5) da_nil))))) pa_nil)))) dss_nil))))))
    (dss_one (ds_retL 2))))
/-! jobs_open -/
def N_jobs_open : List Str := ["windows", "start", "end", "job", "window"]
theorem nd_jobs_open : N_jobs_open.Nodup := by decide +kernel
def τ_jobs_open : SD := (sRet (dLst (dLc (iEn (aCons (dVar 0) aNil)) (gTp 2 (gCn (gN 3) (gCn (gN 4) gNl))) (bAnd (dTest (dBin oLe (dBin oIx (dVar 4) (dC (.int 0))) (dVar 1))) (dTest (dBin oLe (dVar 2) (dCall 1 F_window_end (aCons (dVar 4) aNil))))) (dVar 3) [3, 4])))
def F_jobs_open : List D → (D → Prop) → Prop := fnD N_jobs_open τ_jobs_open
theorem sc_jobs_open : FnScope N_jobs_open ["windows", "start", "end"] (defScope (top 15)) := ⟨rfl, rfl, rfl, by decide +kernel, rfl, by decide +kernel, by decide +kernel⟩
theorem ok_jobs_open (Fc : Facts P w K mg base c) : Fk P w K mg base "jobs_open" 2 3 (SpD c 3 F_jobs_open) := by
  have ok_window_end := ok_window_end Fc
  obtain ⟨f, fd, F, hm⟩ := Fc.fn "jobs_open" 15 (by decide)
  refine fk_mk F hm sc_jobs_open rfl (fun _ _ _ _ _ _ us hl => match us, hl with | [_, _, _], _ => rfl) fun cdv A outer s H E hr => ?_
  exact (dss_one (ds_ret (de_ofL (dl_lc (own := [("job", 3), ("window", 4)]) rfl nd_jobs_open (die rfl (Fc.free "enumerate" (by decide)) (da_cons (dv 0) da_nil)) (blkOk_by (by kernel_rfl)) (fun _ _ _ _ _ => (dgt rfl (dgs_cons (dgn (vs := [3, 4]) nd_jobs_open rfl (by first | exact Or.inl rfl | exact Or.inr rfl)) (dgs_cons (dgn (vs := [3, 4]) nd_jobs_open rfl (by first | exact Or.inl rfl | exact Or.inr rfl)) dgs_nil)))) (fun _ _ _ _ _ => (dts_one (dt_w (dw_and (dt_cmp rd_le op_le (de_ix (dv 4) dint) (dv 1)) (dw_and1 (dt_cmp rd_le op_le (dv 2) (de_call ok_window_end (hr.mono (by decide)) rfl (da_cons (dv 4) da_nil)))))))) (fun _ _ _ _ _ => (dv 3))))))
/-! is_listing -/
def N_is_listing : List Str := ["value", "bound", "item", "at"]
theorem nd_is_listing : N_is_listing.Nodup := by decide +kernel
def τ_is_listing : SD := (sSeq (sIf (bOr (bNot (dTest (dIns "tuple" (dVar 0)))) (bNot (dTest (dCB oAll (aCons (dLst (dLc (iT (dVar 0)) (gN 2) (fun _ P => P true) (dAndV (dCall 1 F_is_number (aCons (dVar 2) aNil)) (dBin oLt (dVar 2) (dVar 1))) [2])) aNil))))) (sRet (dC (.bl false))) sNx)
  (sRet (dCB oAll (aCons (dLst (dLc (iR (aCons (dBin oSub (dCB oLen (aCons (dVar 0) aNil)) (dC (.int 1))) aNil)) (gN 3) (fun _ P => P true) (dBin oLt (dBin oIx (dVar 0) (dVar 3)) (dBin oIx (dVar 0) (dBin oAdd (dVar 3) (dC (.int 1))))) [3])) aNil))))
def F_is_listing : List D → (D → Prop) → Prop := fnD N_is_listing τ_is_listing
theorem sc_is_listing : FnScope N_is_listing ["value", "bound"] (defScope (top 24)) := ⟨rfl, rfl, rfl, by decide +kernel, rfl, by decide +kernel, by decide +kernel⟩
theorem ok_is_listing (Fc : Facts P w K mg base c) : Fk P w K mg base "is_listing" 3 2 (SpD c 2 F_is_listing) := by
  have ok_is_number := ok_is_number Fc
  obtain ⟨f, fd, F, hm⟩ := Fc.fn "is_listing" 24 (by decide)
  refine fk_mk F hm sc_is_listing rfl (fun _ _ _ _ _ _ us hl => match us, hl with | [_, _], _ => rfl) fun cdv A outer s H E hr => ?_
  exact (dss_cons (ds_if (dt_w (dw_or (dt_not (dt_val (de_ins (Ts := "tuple") (by decide) rfl (Fc.free "isinstance" (by decide)) rfl (Fc.free "tuple" (by decide)) (by decide +kernel) (dv 0)))) (dw_or1 (dt_not (dt_val (de_blt rc_all (cr_all rfl) rfl (Fc.free "all" (by decide)) (da_cons (de_ofL (dl_lc (own := [("item", 2)]) rfl nd_is_listing (dit (dv 0)) (blkOk_by (by kernel_rfl)) (fun _ _ _ _ _ => (dgn (vs := [2]) nd_is_listing rfl (by first | exact Or.inl rfl | exact Or.inr rfl))) (fun _ _ _ _ _ => dts_nil) (fun _ _ _ _ _ => (de_and (de_call ok_is_number (hr.mono (by decide)) rfl (da_cons (dv 2) da_nil)) (de_one (de_cmp rd_lt op_ltD (dv 2) (dv 1))))))) da_nil))))))) (dss_one (ds_ret dbl)) dss_nil)
    (dss_one (ds_ret (de_blt rc_all (cr_all rfl) rfl (Fc.free "all" (by decide)) (da_cons (de_ofL (dl_lc (own := [("at", 3)]) rfl nd_is_listing (dir rfl (Fc.free "range" (by decide)) (da_cons (de_op rd_sub op_sub (de_blt rc_len call_len rfl (Fc.free "len" (by decide)) (da_cons (dv 0) da_nil)) dint) da_nil)) (blkOk_by (by kernel_rfl)) (fun _ _ _ _ _ => (dgn (vs := [3]) nd_is_listing rfl (by first | exact Or.inl rfl | exact Or.inr rfl))) (fun _ _ _ _ _ => dts_nil) (fun _ _ _ _ _ => (de_cmp rd_lt op_ltD (de_ix (dv 0) (dv 3)) (de_ix (dv 0) (de_op rd_add op_addD (dv 3) dint)))))) da_nil)))))
/-! are_places -/
def N_are_places : List Str := ["value", "size"]
theorem nd_are_places : N_are_places.Nodup := by decide +kernel
def τ_are_places : SD := (sRet (dAndV (dCall 2 F_is_listing (aCons (dVar 0) (aCons (dVar 1) aNil))) (dBin oGe (dCB oLen (aCons (dVar 0) aNil)) (dC (.int 2)))))
def F_are_places : List D → (D → Prop) → Prop := fnD N_are_places τ_are_places
theorem sc_are_places : FnScope N_are_places ["value", "size"] (defScope (top 40)) := ⟨rfl, rfl, rfl, by decide +kernel, rfl, by decide +kernel, by decide +kernel⟩
theorem ok_are_places (Fc : Facts P w K mg base c) : Fk P w K mg base "are_places" 4 2 (SpD c 2 F_are_places) := by
  have ok_is_listing := ok_is_listing Fc
  obtain ⟨f, fd, F, hm⟩ := Fc.fn "are_places" 40 (by decide)
  refine fk_mk F hm sc_are_places rfl (fun _ _ _ _ _ _ us hl => match us, hl with | [_, _], _ => rfl) fun cdv A outer s H E hr => ?_
  exact (dss_one (ds_ret (de_and (de_call ok_is_listing (hr.mono (by decide)) rfl (da_cons (dv 0) (da_cons (dv 1) da_nil))) (de_one (de_cmp rd_ge op_ge (de_blt rc_len call_len rfl (Fc.free "len" (by decide)) (da_cons (dv 0) da_nil)) dint)))))
/-! is_lot_of -/
def N_is_lot_of : List Str := ["value", "many", "item"]
theorem nd_is_lot_of : N_is_lot_of.Nodup := by decide +kernel
def τ_is_lot_of : SD := (sRet (dAndV (dIns "tuple" (dVar 0)) (dAndV (dBin oEq (dCB oLen (aCons (dVar 0) aNil)) (dVar 1)) (dCB oAll (aCons (dLst (dLc (iT (dVar 0)) (gN 2) (fun _ P => P true) (dCall 1 F_is_integer (aCons (dVar 2) aNil)) [2])) aNil)))))
def F_is_lot_of : List D → (D → Prop) → Prop := fnD N_is_lot_of τ_is_lot_of
theorem sc_is_lot_of : FnScope N_is_lot_of ["value", "many"] (defScope (top 42)) := ⟨rfl, rfl, rfl, by decide +kernel, rfl, by decide +kernel, by decide +kernel⟩
theorem ok_is_lot_of (Fc : Facts P w K mg base c) : Fk P w K mg base "is_lot_of" 2 2 (SpD c 2 F_is_lot_of) := by
  have ok_is_integer := ok_is_integer Fc
  obtain ⟨f, fd, F, hm⟩ := Fc.fn "is_lot_of" 42 (by decide)
  refine fk_mk F hm sc_is_lot_of rfl (fun _ _ _ _ _ _ us hl => match us, hl with | [_, _], _ => rfl) fun cdv A outer s H E hr => ?_
  exact (dss_one (ds_ret (de_and (de_ins (Ts := "tuple") (by decide) rfl (Fc.free "isinstance" (by decide)) rfl (Fc.free "tuple" (by decide)) (by decide +kernel) (dv 0)) (de_and (de_cmp rd_eq (op_eqD hr.units) (de_blt rc_len call_len rfl (Fc.free "len" (by decide)) (da_cons (dv 0) da_nil)) (dv 1)) (de_one (de_blt rc_all (cr_all rfl) rfl (Fc.free "all" (by decide)) (da_cons (de_ofL (dl_lc (own := [("item", 2)]) rfl nd_is_lot_of (dit (dv 0)) (blkOk_by (by kernel_rfl)) (fun _ _ _ _ _ => (dgn (vs := [2]) nd_is_lot_of rfl (by first | exact Or.inl rfl | exact Or.inr rfl))) (fun _ _ _ _ _ => dts_nil) (fun _ _ _ _ _ => (de_call ok_is_integer (hr.mono (by decide)) rfl (da_cons (dv 2) da_nil))))) da_nil)))))))
/-! are_jobs -/
def N_are_jobs : List Str := ["value", "size", "many", "job"]
theorem nd_are_jobs : N_are_jobs.Nodup := by decide +kernel
def τ_are_jobs : SD := (sSeq (sIf (bOr (bNot (dTest (dIns "tuple" (dVar 0)))) (bOr (dTest (dBin oLt (dCB oLen (aCons (dVar 0) aNil)) (dC (.int 2)))) (bNot (dTest (dCB oAll (aCons (dLst (dLc (iT (dVar 0)) (gN 3) (fun _ P => P true) (dCall 2 F_is_lot_of (aCons (dVar 3) (aCons (dVar 2) aNil))) [3])) aNil)))))) (sRet (dC (.bl false))) sNx)
  (sSeq (sIf (bNot (dTest (dCB oAll (aCons (dLst (dLc (iT (dVar 0)) (gN 3) (fun _ P => P true) (dBin oGe (dCB oMinT (aCons (dSl (some 1) none (dVar 3)) aNil)) (dC (.int 1))) [3])) aNil)))) (sRet (dC (.bl false))) sNx)
  (sRet (dCall 2 F_is_listing (aCons (dCB oTupOf (aCons (dLst (dLc (iT (dVar 0)) (gN 3) (fun _ P => P true) (dBin oIx (dVar 3) (dC (.int 0))) [3])) aNil)) (aCons (dVar 1) aNil))))))
def F_are_jobs : List D → (D → Prop) → Prop := fnD N_are_jobs τ_are_jobs
theorem sc_are_jobs : FnScope N_are_jobs ["value", "size", "many"] (defScope (top 44)) := ⟨rfl, rfl, rfl, by decide +kernel, rfl, by decide +kernel, by decide +kernel⟩
theorem ok_are_jobs (Fc : Facts P w K mg base c) : Fk P w K mg base "are_jobs" 4 3 (SpD c 3 F_are_jobs) := by
  have ok_is_listing := ok_is_listing Fc
  have ok_is_lot_of := ok_is_lot_of Fc
  obtain ⟨f, fd, F, hm⟩ := Fc.fn "are_jobs" 44 (by decide)
  refine fk_mk F hm sc_are_jobs rfl (fun _ _ _ _ _ _ us hl => match us, hl with | [_, _, _], _ => rfl) fun cdv A outer s H E hr => ?_
  exact (dss_cons (ds_if (dt_w (dw_or (dt_not (dt_val (de_ins (Ts := "tuple") (by decide) rfl (Fc.free "isinstance" (by decide)) rfl (Fc.free "tuple" (by decide)) (by decide +kernel) (dv 0)))) (dw_or (dt_cmp rd_lt op_ltD (de_blt rc_len call_len rfl (Fc.free "len" (by decide)) (da_cons (dv 0) da_nil)) dint) (dw_or1 (dt_not (dt_val (de_blt rc_all (cr_all rfl) rfl (Fc.free "all" (by decide)) (da_cons (de_ofL (dl_lc (own := [("job", 3)]) rfl nd_are_jobs (dit (dv 0)) (blkOk_by (by kernel_rfl)) (fun _ _ _ _ _ => (dgn (vs := [3]) nd_are_jobs rfl (by first | exact Or.inl rfl | exact Or.inr rfl))) (fun _ _ _ _ _ => dts_nil) (fun _ _ _ _ _ => (de_call ok_is_lot_of (hr.mono (by decide)) rfl (da_cons (dv 3) (da_cons (dv 2) da_nil)))))) da_nil)))))))) (dss_one (ds_ret dbl)) dss_nil)
    (dss_cons (ds_if (dt_not (dt_val (de_blt rc_all (cr_all rfl) rfl (Fc.free "all" (by decide)) (da_cons (de_ofL (dl_lc (own := [("job", 3)]) rfl nd_are_jobs (dit (dv 0)) (blkOk_by (by kernel_rfl)) (fun _ _ _ _ _ => (dgn (vs := [3]) nd_are_jobs rfl (by first | exact Or.inl rfl | exact Or.inr rfl))) (fun _ _ _ _ _ => dts_nil) (fun _ _ _ _ _ => (de_cmp rd_ge op_ge (de_blt rc_minT (Gp.cr_minT rfl (hu_of hr)) rfl (Fc.free "min" (by decide)) (da_cons (de_sl (dv 3) po_d po_n) da_nil)) dint)))) da_nil)))) (dss_one (ds_ret dbl)) dss_nil)
    (dss_one (ds_ret (de_call ok_is_listing (hr.mono (by decide)) rfl (da_cons (de_bty rc_tup call_tuple_of rfl (Fc.free "tuple" (by decide)) (da_cons (de_ofL (dl_lc (own := [("job", 3)]) rfl nd_are_jobs (dit (dv 0)) (blkOk_by (by kernel_rfl)) (fun _ _ _ _ _ => (dgn (vs := [3]) nd_are_jobs rfl (by first | exact Or.inl rfl | exact Or.inr rfl))) (fun _ _ _ _ _ => dts_nil) (fun _ _ _ _ _ => (de_ix (dv 3) dint)))) da_nil)) (da_cons (dv 1) da_nil)))))))
/-! is_bench -/
def N_is_bench : List Str := ["value", "size"]
theorem nd_is_bench : N_is_bench.Nodup := by decide +kernel
def τ_is_bench : SD := (sRet (dAndV (dBin oEq (dCB oLen (aCons (dVar 0) aNil)) (dC (.int 2))) (dCall 3 F_are_jobs (aCons (dBin oIx (dVar 0) (dC (.int 1))) (aCons (dVar 1) (aCons (dC (.int 2)) aNil))))))
def F_is_bench : List D → (D → Prop) → Prop := fnD N_is_bench τ_is_bench
theorem sc_is_bench : FnScope N_is_bench ["value", "size"] (defScope (top 45)) := ⟨rfl, rfl, rfl, by decide +kernel, rfl, by decide +kernel, by decide +kernel⟩
theorem ok_is_bench (Fc : Facts P w K mg base c) : Fk P w K mg base "is_bench" 5 2 (SpD c 2 F_is_bench) := by
  have ok_are_jobs := ok_are_jobs Fc
  obtain ⟨f, fd, F, hm⟩ := Fc.fn "is_bench" 45 (by decide)
  refine fk_mk F hm sc_is_bench rfl (fun _ _ _ _ _ _ us hl => match us, hl with | [_, _], _ => rfl) fun cdv A outer s H E hr => ?_
  exact (dss_one (ds_ret (de_and (de_cmp rd_eq (op_eqD hr.units) (de_blt rc_len call_len rfl (Fc.free "len" (by decide)) (da_cons (dv 0) da_nil)) dint) (de_one (de_call ok_are_jobs (hr.mono (by decide)) rfl (da_cons (de_ix (dv 0) dint) (da_cons (dv 1) (da_cons dint da_nil))))))))
/-! is_room -/
def N_is_room : List Str := ["value", "size", "job"]
theorem nd_is_room : N_is_room.Nodup := by decide +kernel
def τ_is_room : SD := (sSeq (sIf (bOr (dTest (dBin oNe (dCB oLen (aCons (dVar 0) aNil)) (dC (.int 3)))) (bOr (bNot (dTest (dCall 3 F_are_jobs (aCons (dBin oIx (dVar 0) (dC (.int 1))) (aCons (dVar 1) (aCons (dC (.int 3)) aNil)))))) (bNot (dTest (dCall 1 F_is_integer (aCons (dBin oIx (dVar 0) (dC (.int 2))) aNil)))))) (sRet (dC (.bl false))) sNx)
  (sRet (dCB oAll (aCons (dLst (dLc (iT (dBin oIx (dVar 0) (dC (.int 1)))) (gN 2) (fun _ P => P true) (dBin oLe (dBin oIx (dVar 2) (dC (.int 2))) (dBin oIx (dVar 0) (dC (.int 2)))) [2])) aNil))))
def F_is_room : List D → (D → Prop) → Prop := fnD N_is_room τ_is_room
theorem sc_is_room : FnScope N_is_room ["value", "size"] (defScope (top 46)) := ⟨rfl, rfl, rfl, by decide +kernel, rfl, by decide +kernel, by decide +kernel⟩
theorem ok_is_room (Fc : Facts P w K mg base c) : Fk P w K mg base "is_room" 5 2 (SpD c 2 F_is_room) := by
  have ok_are_jobs := ok_are_jobs Fc
  have ok_is_integer := ok_is_integer Fc
  obtain ⟨f, fd, F, hm⟩ := Fc.fn "is_room" 46 (by decide)
  refine fk_mk F hm sc_is_room rfl (fun _ _ _ _ _ _ us hl => match us, hl with | [_, _], _ => rfl) fun cdv A outer s H E hr => ?_
  exact (dss_cons (ds_if (dt_w (dw_or (dt_cmp rd_ne (op_neD hr.units) (de_blt rc_len call_len rfl (Fc.free "len" (by decide)) (da_cons (dv 0) da_nil)) dint) (dw_or (dt_not (dt_val (de_call ok_are_jobs (hr.mono (by decide)) rfl (da_cons (de_ix (dv 0) dint) (da_cons (dv 1) (da_cons dint da_nil)))))) (dw_or1 (dt_not (dt_val (de_call ok_is_integer (hr.mono (by decide)) rfl (da_cons (de_ix (dv 0) dint) da_nil)))))))) (dss_one (ds_ret dbl)) dss_nil)
    (dss_one (ds_ret (de_blt rc_all (cr_all rfl) rfl (Fc.free "all" (by decide)) (da_cons (de_ofL (dl_lc (own := [("job", 2)]) rfl nd_is_room (dit (de_ix (dv 0) dint)) (blkOk_by (by kernel_rfl)) (fun _ _ _ _ _ => (dgn (vs := [2]) nd_is_room rfl (by first | exact Or.inl rfl | exact Or.inr rfl))) (fun _ _ _ _ _ => dts_nil) (fun _ _ _ _ _ => (de_cmp rd_le op_le (de_ix (dv 2) dint) (de_ix (dv 0) dint))))) da_nil)))))
/-! is_wish -/
def N_is_wish : List Str := ["value", "size"]
theorem nd_is_wish : N_is_wish.Nodup := by decide +kernel
def τ_is_wish : SD := (sSeq (sIf (bOr (bNot (dTest (dIns "tuple" (dVar 0)))) (bOr (dTest (dBin oEq (dCB oLen (aCons (dVar 0) aNil)) (dC (.int 0)))) (bNot (dTest (dIns "str" (dBin oIx (dVar 0) (dC (.int 0)))))))) (sRet (dC (.bl false))) sNx)
  (sSeq (sIf (dTest (dBin oIn (dBin oIx (dVar 0) (dC (.int 0))) (dTup (aCons (dC (.str "unlike")) (aCons (dC (.str "round")) aNil))))) (sRet (dAndV (dBin oEq (dCB oLen (aCons (dVar 0) aNil)) (dC (.int 2))) (dCall 2 F_are_places (aCons (dBin oIx (dVar 0) (dC (.int 1))) (aCons (dVar 1) aNil))))) sNx)
  (sSeq (sIf (dTest (dBin oEq (dBin oIx (dVar 0) (dC (.int 0))) (dC (.str "table")))) sNo sNx)
  (sSeq (sIf (dTest (dBin oEq (dBin oIx (dVar 0) (dC (.int 0))) (dC (.str "either")))) sNo sNx)
  (sSeq (sIf (dTest (dBin oEq (dBin oIx (dVar 0) (dC (.int 0))) (dC (.str "bench")))) (sRet (dCall 2 F_is_bench (aCons (dVar 0) (aCons (dVar 1) aNil)))) sNx)
  (sRet (dIf (dTest (dBin oEq (dBin oIx (dVar 0) (dC (.int 0))) (dC (.str "room")))) (dCall 2 F_is_room (aCons (dVar 0) (aCons (dVar 1) aNil))) dNo)))))))
def F_is_wish : List D → (D → Prop) → Prop := fnD N_is_wish τ_is_wish
theorem sc_is_wish : FnScope N_is_wish ["value", "size"] (defScope (top 47)) := ⟨rfl, rfl, rfl, by decide +kernel, rfl, by decide +kernel, by decide +kernel⟩
theorem ok_is_wish (Fc : Facts P w K mg base c) : Fk P w K mg base "is_wish" 6 2 (SpD c 2 F_is_wish) := by
  have ok_are_places := ok_are_places Fc
  have ok_is_bench := ok_is_bench Fc
  have ok_is_room := ok_is_room Fc
  obtain ⟨f, fd, F, hm⟩ := Fc.fn "is_wish" 47 (by decide)
  refine fk_mk F hm sc_is_wish rfl (fun _ _ _ _ _ _ us hl => match us, hl with | [_, _], _ => rfl) fun cdv A outer s H E hr => ?_
  exact (dss_cons (ds_if (dt_w (dw_or (dt_not (dt_val (de_ins (Ts := "tuple") (by decide) rfl (Fc.free "isinstance" (by decide)) rfl (Fc.free "tuple" (by decide)) (by decide +kernel) (dv 0)))) (dw_or (dt_cmp rd_eq (op_eqD hr.units) (de_blt rc_len call_len rfl (Fc.free "len" (by decide)) (da_cons (dv 0) da_nil)) dint) (dw_or1 (dt_not (dt_val (de_ins (Ts := "str") (by decide) rfl (Fc.free "isinstance" (by decide)) rfl (Fc.free "str" (by decide)) (by decide +kernel) (de_ix (dv 0) dint)))))))) (dss_one (ds_ret dbl)) dss_nil)
    (dss_cons (ds_if (dt_cmp rd_in op_inD (de_ix (dv 0) dint) (de_tup (da_cons dstr (da_cons dstr da_nil)))) (dss_one (ds_ret (de_and (de_cmp rd_eq (op_eqD hr.units) (de_blt rc_len call_len rfl (Fc.free "len" (by decide)) (da_cons (dv 0) da_nil)) dint) (de_one (de_call ok_are_places (hr.mono (by decide)) rfl (da_cons (de_ix (dv 0) dint) (da_cons (dv 1) da_nil))))))) dss_nil)
    (dss_cons (ds_if (dt_cmp rd_eq (op_eqD hr.units) (de_ix (dv 0) dint) dstr) (dss_one ds_never) dss_nil)
    (dss_cons (ds_if (dt_cmp rd_eq (op_eqD hr.units) (de_ix (dv 0) dint) dstr) (dss_one ds_never) dss_nil)
    (dss_cons (ds_if (dt_cmp rd_eq (op_eqD hr.units) (de_ix (dv 0) dint) dstr) (dss_one (ds_ret (de_call ok_is_bench (hr.mono (by decide)) rfl (da_cons (dv 0) (da_cons (dv 1) da_nil))))) dss_nil)
    (dss_one (ds_ret (de_if (dt_cmp rd_eq (op_eqD hr.units) (de_ix (dv 0) dint) dstr) (de_call ok_is_room (hr.mono (by decide)) rfl (da_cons (dv 0) (da_cons (dv 1) da_nil))) de_never))))))))
/-! jobs_in -/
def N_jobs_in : List Str := ["wish", "place", "length"]
theorem nd_jobs_in : N_jobs_in.Nodup := by decide +kernel
def τ_jobs_in : SD := (sSeq (sIf (dTest (dBin oEq (dBin oIx (dVar 0) (dC (.int 0))) (dC (.str "bench")))) (sRet (dCB oTupOf (aCons (dLst (dLc (iT (dBin oIx (dVar 0) (dC (.int 1)))) (gTp 2 (gCn (gN 1) (gCn (gN 2) gNl))) (fun _ P => P true) (dTup (aCons (dVar 1) (aCons (dVar 2) (aCons (dC (.int 1)) aNil)))) [1, 2])) aNil))) sNx)
  (sRet (dBin oIx (dVar 0) (dC (.int 1)))))
def F_jobs_in : List D → (D → Prop) → Prop := fnD N_jobs_in τ_jobs_in
theorem sc_jobs_in : FnScope N_jobs_in ["wish"] (defScope (top 58)) := ⟨rfl, rfl, rfl, by decide +kernel, rfl, by decide +kernel, by decide +kernel⟩
theorem ok_jobs_in (Fc : Facts P w K mg base c) : Fk P w K mg base "jobs_in" 1 1 (SpD c 1 F_jobs_in) := by
  obtain ⟨f, fd, F, hm⟩ := Fc.fn "jobs_in" 58 (by decide)
  refine fk_mk F hm sc_jobs_in rfl (fun _ _ _ _ _ _ us hl => match us, hl with | [_], _ => rfl) fun cdv A outer s H E hr => ?_
  exact (dss_cons (ds_if (dt_cmp rd_eq (op_eqD hr.units) (de_ix (dv 0) dint) dstr) (dss_one (ds_ret (de_bty rc_tup call_tuple_of rfl (Fc.free "tuple" (by decide)) (da_cons (de_ofL (dl_lc (own := [("place", 1), ("length", 2)]) rfl nd_jobs_in (dit (de_ix (dv 0) dint)) (blkOk_by (by kernel_rfl)) (fun _ _ _ _ _ => (dgt rfl (dgs_cons (dgn (vs := [1, 2]) nd_jobs_in rfl (by first | exact Or.inl rfl | exact Or.inr rfl)) (dgs_cons (dgn (vs := [1, 2]) nd_jobs_in rfl (by first | exact Or.inl rfl | exact Or.inr rfl)) dgs_nil)))) (fun _ _ _ _ _ => dts_nil) (fun _ _ _ _ _ => (de_tup (da_cons (dv 1) (da_cons (dv 2) (da_cons dint da_nil))))))) da_nil)))) dss_nil)
    (dss_one (ds_ret (de_ix (dv 0) dint))))
/-! size_in -/
def N_size_in : List Str := ["wish"]
theorem nd_size_in : N_size_in.Nodup := by decide +kernel
def τ_size_in : SD := (sRet (dIf (dTest (dBin oEq (dBin oIx (dVar 0) (dC (.int 0))) (dC (.str "bench")))) (dC (.int 1)) (dBin oIx (dVar 0) (dC (.int 2)))))
def F_size_in : List D → (D → Prop) → Prop := fnD N_size_in τ_size_in
theorem sc_size_in : FnScope N_size_in ["wish"] (defScope (top 59)) := ⟨rfl, rfl, rfl, by decide +kernel, rfl, by decide +kernel, by decide +kernel⟩
theorem ok_size_in (Fc : Facts P w K mg base c) : Fk P w K mg base "size_in" 1 1 (SpD c 1 F_size_in) := by
  obtain ⟨f, fd, F, hm⟩ := Fc.fn "size_in" 59 (by decide)
  refine fk_mk F hm sc_size_in rfl (fun _ _ _ _ _ _ us hl => match us, hl with | [_], _ => rfl) fun cdv A outer s H E hr => ?_
  exact (dss_one (ds_ret (de_if (dt_cmp rd_eq (op_eqD hr.units) (de_ix (dv 0) dint) dstr) dint (de_ix (dv 0) dint))))
/-! wish_of -/
def N_wish_of : List Str := ["task", "value", "kinds"]
theorem nd_wish_of : N_wish_of.Nodup := by decide +kernel
def τ_wish_of : SD := (sSeq (sIf (bOr (bNot (dTest (dCall 1 F_is_number (aCons (dVar 1) aNil)))) (bOr (dTest (dBin oGe (dVar 1) (dCB oLen (aCons (dFld "wishes" (dVar 0)) aNil)))) (dTest (dBin oNotIn (dBin oIx (dBin oIx (dFld "wishes" (dVar 0)) (dVar 1)) (dC (.int 0))) (dVar 2))))) (sRet (dC .no)) sNx)
  (sRet (dBin oIx (dFld "wishes" (dVar 0)) (dVar 1))))
def F_wish_of : List D → (D → Prop) → Prop := fnD N_wish_of τ_wish_of
theorem sc_wish_of : FnScope N_wish_of ["task", "value", "kinds"] (defScope (top 74)) := ⟨rfl, rfl, rfl, by decide +kernel, rfl, by decide +kernel, by decide +kernel⟩
theorem ok_wish_of (Fc : Facts P w K mg base c) : Fk P w K mg base "wish_of" 3 3 (SpD c 3 F_wish_of) := by
  have ok_is_number := ok_is_number Fc
  obtain ⟨f, fd, F, hm⟩ := Fc.fn "wish_of" 74 (by decide)
  refine fk_mk F hm sc_wish_of rfl (fun _ _ _ _ _ _ us hl => match us, hl with | [_, _, _], _ => rfl) fun cdv A outer s H E hr => ?_
  exact (dss_cons (ds_if (dt_w (dw_or (dt_not (dt_val (de_call ok_is_number (hr.mono (by decide)) rfl (da_cons (dv 1) da_nil)))) (dw_or (dt_cmp rd_ge op_ge (dv 1) (de_blt rc_len call_len rfl (Fc.free "len" (by decide)) (da_cons (de_fld Fc.cls Fc.at2 (dv 0)) da_nil))) (dw_or1 (dt_cmp rd_notIn op_notIn_seq (de_ix (de_ix (de_fld Fc.cls Fc.at2 (dv 0)) (dv 1)) dint) (dv 2)))))) (dss_one (ds_ret dnon)) dss_nil)
    (dss_one (ds_ret (de_ix (de_fld Fc.cls Fc.at2 (dv 0)) (dv 1)))))
/-! is_load -/
def N_is_load : List Str := ["task", "cuts", "box", "leaf", "worth", "_", "number", "some", "first", "last", "wish", "jobs", "size", "place", "length", "at"]
theorem nd_is_load : N_is_load.Nodup := by decide +kernel
def τ_is_load : SD := (sSeq (sAsg (dVar 3) (gTp 5 (gCn (gN 5) (gCn (gN 6) (gCn (gN 7) (gCn (gN 8) (gCn (gN 9) gNl)))))))
  (sSeq (sAsg (dCall 3 F_wish_of (aCons (dVar 0) (aCons (dVar 6) (aCons (dTup (aCons (dC (.str "bench")) (aCons (dC (.str "room")) aNil))) aNil)))) (gN 10))
  (sSeq (sIf (bOr (dTest (dIsN (dVar 10))) (bOr (bNot (dTest (dCall 1 F_is_integer (aCons (dVar 8) aNil)))) (bOr (bNot (dTest (dCall 1 F_is_integer (aCons (dVar 9) aNil)))) (bNot (dTest (dBin oLe (dVar 8) (dVar 9))))))) (sRet (dC (.bl false))) sNx)
  (sSeq (sAsg (dTup (aCons (dCall 1 F_jobs_in (aCons (dVar 10) aNil)) (aCons (dCall 1 F_size_in (aCons (dVar 10) aNil)) aNil))) (gTp 2 (gCn (gN 11) (gCn (gN 12) gNl))))
  (sSeq (sIf (bNot (dTest (dCall 2 F_is_listing (aCons (dVar 7) (aCons (dCB oLen (aCons (dVar 11) aNil)) aNil))))) (sRet (dC (.bl false))) sNx)
  (sSeq (sFor (dLc (iT (dVar 7)) (gN 15) (fun _ P => P true) (dBin oIx (dVar 11) (dVar 15)) [15]) (gTp 3 (gCn (gN 13) (gCn (gN 14) (gCn (gN 5) gNl)))) (sIf (bOr (dTest (dBin oLt (dBin oIx (dBin oIx (dVar 2) (dVar 13)) (dC (.int 0))) (dVar 8))) (dTest (dBin oGt (dBin oAdd (dBin oIx (dBin oIx (dVar 2) (dVar 13)) (dC (.int 1))) (dVar 14)) (dVar 9)))) (sRet (dC (.bl false))) sNx))
  (sRet (dBin oGt (dCB oSum (aCons (dLst (dLc (iT (dVar 7)) (gN 15) (fun _ P => P true) (dBin oMul (dBin oIx (dBin oIx (dVar 11) (dVar 15)) (dC (.int 1))) (dBin oIx (dBin oIx (dVar 11) (dVar 15)) (dC (.int 2)))) [15])) aNil)) (dBin oMul (dBin oSub (dVar 9) (dVar 8)) (dVar 12))))))))))
def F_is_load : List D → (D → Prop) → Prop := fnD N_is_load τ_is_load
theorem sc_is_load : FnScope N_is_load ["task", "cuts", "box", "leaf", "worth"] (defScope (top 83)) := ⟨rfl, rfl, rfl, by decide +kernel, rfl, by decide +kernel, by decide +kernel⟩
theorem ok_is_load (Fc : Facts P w K mg base c) : Fk P w K mg base "is_load" 4 5 (SpD c 5 F_is_load) := by
  have ok_is_integer := ok_is_integer Fc
  have ok_is_listing := ok_is_listing Fc
  have ok_jobs_in := ok_jobs_in Fc
  have ok_size_in := ok_size_in Fc
  have ok_wish_of := ok_wish_of Fc
  obtain ⟨f, fd, F, hm⟩ := Fc.fn "is_load" 83 (by decide)
  refine fk_mk F hm sc_is_load rfl (fun _ _ _ _ _ _ us hl => match us, hl with | [_, _, _, _, _], _ => rfl) fun cdv A outer s H E hr => ?_
  exact (dss_cons (ds_asg (dv 3) (dgt rfl (dgs_cons (dgn (vs := [5, 6, 7, 8, 9]) nd_is_load rfl (by first | exact Or.inl rfl | exact Or.inr rfl)) (dgs_cons (dgn (vs := [5, 6, 7, 8, 9]) nd_is_load rfl (by first | exact Or.inl rfl | exact Or.inr rfl)) (dgs_cons (dgn (vs := [5, 6, 7, 8, 9]) nd_is_load rfl (by first | exact Or.inl rfl | exact Or.inr rfl)) (dgs_cons (dgn (vs := [5, 6, 7, 8, 9]) nd_is_load rfl (by first | exact Or.inl rfl | exact Or.inr rfl)) (dgs_cons (dgn (vs := [5, 6, 7, 8, 9]) nd_is_load rfl (by first | exact Or.inl rfl | exact Or.inr rfl)) dgs_nil)))))))
    (dss_cons (ds_set (i := 10) nd_is_load rfl (by first | exact Or.inl rfl | exact Or.inr rfl) (de_call ok_wish_of (hr.mono (by decide)) rfl (da_cons (dv 0) (da_cons (dv 6) (da_cons (de_tup (da_cons dstr (da_cons dstr da_nil))) da_nil)))))
    (dss_cons (ds_if (dt_w (dw_or (dt_isN (dv 10)) (dw_or (dt_not (dt_val (de_call ok_is_integer (hr.mono (by decide)) rfl (da_cons (dv 8) da_nil)))) (dw_or (dt_not (dt_val (de_call ok_is_integer (hr.mono (by decide)) rfl (da_cons (dv 9) da_nil)))) (dw_or1 (dt_not (dt_cmp rd_le op_le (dv 8) (dv 9)))))))) (dss_one (ds_ret dbl)) dss_nil)
    (dss_cons (ds_asg (de_tup (da_cons (de_call ok_jobs_in (hr.mono (by decide)) rfl (da_cons (dv 10) da_nil)) (da_cons (de_call ok_size_in (hr.mono (by decide)) rfl (da_cons (dv 10) da_nil)) da_nil))) (dgt rfl (dgs_cons (dgn (vs := [11, 12]) nd_is_load rfl (by first | exact Or.inl rfl | exact Or.inr rfl)) (dgs_cons (dgn (vs := [11, 12]) nd_is_load rfl (by first | exact Or.inl rfl | exact Or.inr rfl)) dgs_nil))))
    (dss_cons (ds_if (dt_not (dt_val (de_call ok_is_listing (hr.mono (by decide)) rfl (da_cons (dv 7) (da_cons (de_blt rc_len call_len rfl (Fc.free "len" (by decide)) (da_cons (dv 11) da_nil)) da_nil))))) (dss_one (ds_ret dbl)) dss_nil)
    (dss_cons (ds_for .never rfl (dil_new (dl_lc (own := [("at", 15)]) rfl nd_is_load (dit (dv 7)) (blkOk_by (by kernel_rfl)) (fun _ _ _ _ _ => (dgn (vs := [15]) nd_is_load rfl (by first | exact Or.inl rfl | exact Or.inr rfl))) (fun _ _ _ _ _ => dts_nil) (fun _ _ _ _ _ => (de_ix (dv 11) (dv 15))))) (dgt rfl (dgs_cons (dgn (vs := [5, 13, 14]) nd_is_load rfl (by first | exact Or.inl rfl | exact Or.inr rfl)) (dgs_cons (dgn (vs := [5, 13, 14]) nd_is_load rfl (by first | exact Or.inl rfl | exact Or.inr rfl)) (dgs_cons (dgn (vs := [5, 13, 14]) nd_is_load rfl (by first | exact Or.inl rfl | exact Or.inr rfl)) dgs_nil)))) (dss_one (ds_if (dt_w (dw_or (dt_cmp rd_lt op_ltD (de_ix (de_ix (dv 2) (dv 13)) dint) (dv 8)) (dw_or1 (dt_cmp rd_gt op_gt (de_op rd_add op_addD (de_ix (de_ix (dv 2) (dv 13)) dint) (dv 14)) (dv 9))))) (dss_one (ds_ret dbl)) dss_nil)))
    (dss_one (ds_ret (de_cmp rd_gt op_gt (de_blt rc_sum (cr_sum rfl) rfl (Fc.free "sum" (by decide)) (da_cons (de_ofL (dl_lc (own := [("at", 15)]) rfl nd_is_load (dit (dv 7)) (blkOk_by (by kernel_rfl)) (fun _ _ _ _ _ => (dgn (vs := [15]) nd_is_load rfl (by first | exact Or.inl rfl | exact Or.inr rfl))) (fun _ _ _ _ _ => dts_nil) (fun _ _ _ _ _ => (de_op rd_mul op_mulD (de_ix (de_ix (dv 11) (dv 15)) dint) (de_ix (de_ix (dv 11) (dv 15)) dint))))) da_nil)) (de_op rd_mul op_mulD (de_op rd_sub op_sub (dv 9) (dv 8)) (dv 12)))))))))))
end
end DW
set_option Elab.async false
set_option linter.all false
set_option maxRecDepth 100000
set_option maxHeartbeats 1000000
set_option autoImplicit false
namespace DW
open PySem PySem.Spec PyProof.Rows L2 K62
/-! ### the draws -/
def F__law_draw : List D → (D → Prop) → Prop := fun ds P => ∃ many : Int, ds = [.heap, .int many] ∧ (1 ≤ many ∧ many < 1000000) ∧ ∀ v, 0 ≤ v → v < many → P (.int v)
def NDr : List Str := ["_law_heap_here", "_law_many", "_law_rest"]
theorem sc_draw : FnScope NDr ["_law_heap_here", "_law_many"] (defScope (top 91)) := ⟨rfl, rfl, rfl, by decide +kernel, rfl, by decide +kernel, by decide +kernel⟩
/-- the heap of the draws as it may stand -/
structure HpS (hh l : Addr) (H : Hp) (cs : List Int) (st : Int) : Prop where
  ne : hh ≠ l
  at1 : H hh = some (.lst [.ref l, .int st])
  at2 : H l = some (.lst (cs.map .int))
  st0 : 0 ≤ st
  cs0 : ∀ x ∈ cs, 0 ≤ x
  len : cs.length ≤ 60
theorem HpS.put {hh l : Addr} {H : Hp} {cs cs' : List Int} {st : Int} (h : HpS hh l H cs st) (h0 : ∀ x ∈ cs', 0 ≤ x) (hl : cs'.length ≤ 60) : HpS hh l (upd H l (.lst (cs'.map .int))) cs' st :=
  ⟨h.ne, by rw [upd_ne h.ne]; exact h.at1, upd_same, h.st0, h0, hl⟩
theorem HpS.stir {hh l : Addr} {H : Hp} {cs : List Int} {st st' : Int} (h : HpS hh l H cs st) (h0 : 0 ≤ st') : HpS hh l (upd H hh (.lst [.ref l, .int st'])) cs st' :=
  ⟨h.ne, upd_same, by rw [upd_ne h.ne.symm]; exact h.at2, h0, h.cs0, h.len⟩
theorem HpS.new {hh l p : Addr} {H : Hp} {cs : List Int} {st : Int} {o : HO} (h : HpS hh l H cs st) (hp : H p = none) : HpS hh l (upd H p o) cs st :=
  ⟨h.ne, by rw [upd_ne (ne_of_none h.at1 hp)]; exact h.at1, by rw [upd_ne (ne_of_none h.at2 hp)]; exact h.at2, h.st0, h.cs0, h.len⟩
theorem HpS.ok {G : Gh} {hh l : Addr} {H : Hp} {cs : List Int} {st : Int} (h : HpS hh l H cs st) (e : G.hp = some (hh, l)) : HpOK G H := fun h1 l1 q => by
  rw [e] at q
  cases q
  exact ⟨h.ne, cs, st, h.at1, h.at2, h.st0, h.cs0, h.len⟩
/-- what a draw changes: the two lists alone -/
def DrE (c : Cst) (G : Gh) (H H' : Hp) : Prop := Ch c G.hpA H H'
theorem ch_put {c : Cst} {G : Gh} {p : Addr} {xs ys : List V} {H0 H : Hp} (e : Ch c G.hpA H0 H) (h : H p = some (.lst xs)) (hp : G.hpA p) : Ch c G.hpA H0 (upd H p (.lst ys)) :=
  e.trans ((Ch.put (M := fun _ => False) h mu_lst nb_lst).mono fun a z => z.elim (fun z => by rw [z]; exact hp) False.elim)
theorem ints_eqv {cs : List Int} : PyData.eqv (.list (cs.map .int)) (.list []) = cs.isEmpty := by cases cs <;> rfl
mutual
theorem dpI {K : PySem.W.Frag} {H : Hp} : ∀ cs : List Int, DpAll K H (cs.map V.int) (cs.map PyData.int)
  | [] => .nil
  | n :: r => .cons (.int n) (dpI r)
end
theorem lay_ints : ∀ cs : List Int, PyData.canLayAll0 (cs.map PyData.int) = true
  | [] => rfl
  | n :: r => by
    show (PyData.canLay0 (.int n) && PyData.canLayAll0 (r.map .int)) = true
    rw [lay_ints r]; rfl
theorem shaped_ints (cs : List Int) : SeqAt.shaped (.list (cs.map .int)) = true := by
  unfold SeqAt.shaped
  have h1 : PyData.canLay0 (.list (cs.map .int)) = true := lay_ints cs
  have h2 : (PyData.list (cs.map PyData.int)).depth ≤ 64 := by
    rw [PyData.depth, PySem.W.depth_ints]
    decide
  rw [h1, decide_eq_true h2]
  rfl
section
variable {c : Cst} {P : Program} {w : World} {K : PySem.W.Frag} {mg : Str → Option Value} {base : Heap}
/-- heap[0], heap[1] -/
def tH0 (K : PySem.W.Frag) : TE := tOp (rIxL K) (tVar 0) (tC (.int 0))
def tH1 (K : PySem.W.Frag) : TE := tOp (rIxL K) (tVar 0) (tC (.int 1))
theorem rd_h0 {K : PySem.W.Frag} {σ : L2.St} {hh l : Addr} {H : Hp} {cs : List Int} {st : Int} {Q : VK} (hs : σ[0]? = some (some (.ref hh))) (h : HpS hh l H cs st) (q : Q (.ref l) H) : tH0 K σ H Q := ⟨_, hs, hh, _, 0, _, rfl, rfl, .of h.at1, rfl, q⟩
theorem rd_h1 {K : PySem.W.Frag} {σ : L2.St} {hh l : Addr} {H : Hp} {cs : List Int} {st : Int} {Q : VK} (hs : σ[0]? = some (some (.ref hh))) (h : HpS hh l H cs st) (q : Q (.int st) H) : tH1 K σ H Q := ⟨_, hs, hh, _, 1, _, rfl, rfl, .of h.at1, rfl, q⟩
def tNe0 (K : PySem.W.Frag) : TE := tOp (rNeD K) (tH0 K) (tLst tNil)
theorem rd_ne0 {K : PySem.W.Frag} {σ : L2.St} {hh l : Addr} {H : Hp} {cs : List Int} {st : Int} {Q : VK} (hs : σ[0]? = some (some (.ref hh))) (h : HpS hh l H cs st) (q : ∀ p, H p = none → Q (.bl (!cs.isEmpty)) (upd H p (.lst []))) : tNe0 K σ H Q := by
  refine rd_h0 hs h ⟨by show 0 ≤ sizeLine; omega, fun p hp => ?_⟩
  refine ⟨_, _, .lst (.of (h.new hp).at2) (dpI cs), .lst (.of upd_same) .nil, shaped_ints cs, by decide +kernel, ?_⟩
  rw [ints_eqv]
  exact q p hp
theorem last_int {cs : List Int} (h : cs ≠ []) : ∃ x, cs[cs.length - 1]? = some x ∧ x ∈ cs := by
  have hl : cs.length - 1 < cs.length := by
    cases cs with
    | nil => exact absurd rfl h
    | cons _ _ => simp
  exact ⟨cs[cs.length - 1], List.getElem?_eq_getElem hl, List.getElem_mem hl⟩
theorem atI_m1 {xs : List V} {v : V} (h : xs[xs.length - 1]? = some v) : atI xs (-1) = some v := by
  have hx : xs ≠ [] := fun z => by (rw [z] at h; simp at h)
  have e := List.dropLast_concat_getLast hx
  have e2 : xs.getLast hx = v := by
    rw [List.getLast_eq_getElem]
    rw [List.getElem?_eq_getElem (by have := List.length_pos_iff.mpr hx; omega)] at h
    exact Option.some.inj h
  rw [← e, e2]
  exact atI_last _ _
def tM1 (K : PySem.W.Frag) : TE := tOp rEq (tOp (rIxL K) (tH0 K) (tUn (rU fun i => .int (-i)) (tC (.int 1)))) (tC (.int 0))
theorem rd_m1 {K : PySem.W.Frag} {σ : L2.St} {hh l : Addr} {H : Hp} {cs : List Int} {st x : Int} {Q : VK} (hs : σ[0]? = some (some (.ref hh))) (h : HpS hh l H cs st) (hx : cs[cs.length - 1]? = some x) (q : Q (.bl (decide (V.int x = V.int 0))) H) : tM1 K σ H Q := by
  refine rd_h0 hs h ⟨1, rfl, l, _, -1, .int x, rfl, rfl, .of h.at2, atI_m1 ?_, rfl, q⟩
  rw [List.length_map, List.getElem?_map, hx]
  rfl
def tPop (K : PySem.W.Frag) : TE := tBM0 K "list" rPop (tH0 K)
theorem drop_mem {cs : List Int} {y : Int} (h : y ∈ cs.dropLast) : y ∈ cs := (List.dropLast_sublist cs).mem h
theorem rd_pop {K : PySem.W.Frag} {σ : L2.St} {hh l : Addr} {H : Hp} {cs : List Int} {st x : Int} {Q : VK} (hs : σ[0]? = some (some (.ref hh))) (h : HpS hh l H cs st) (hx : cs[cs.length - 1]? = some x) (q : Q (.int x) (upd H l (.lst (cs.dropLast.map .int)))) : tPop K σ H Q := by
  refine rd_h0 hs h ⟨.inl ⟨rfl, _, .of h.at2⟩, l, _, .int x, rfl, rfl, h.at2, ?_, ?_⟩
  · rw [List.length_map, List.getElem?_map, hx]
    rfl
  · rw [← List.map_dropLast]
    exact q
def tApp (K : PySem.W.Frag) : TE := tBM K "list" rAppend (tH0 K) (tCons (tOp (rI CDiv fun i j => .int (i / j)) (tVar 2) (tVar 1)) tNil)
def tWhl (K : PySem.W.Frag) : TS := tWhile (tAnd (tTest (tNe0 K)) (tTest (tM1 K))) (tDrop (tPop K))
def tDraw (K : PySem.W.Frag) : TS := tSeq (tWhl K) (tSeq (tIfS (tTest (tNe0 K))
  (tSeq (tAsg (tPop K) (gName 2)) (tSeq (tDrop (tApp K)) (tRet (tOp (rI (fun _ j => 0 < j) fun i j => .int (i % j)) (tCB (fun xs H Q => (∃ i, xs = [.int i] ∧ Q (.int i) H) ∨ ∃ k, xs = [.bl k] ∧ Q (.int (if k then 1 else 0)) H) (tCons (tVar 2) tNil)) (tVar 1))))) tNext)
  (tSeq (tAsg (tOp (rI (fun _ j => 0 < j) fun i j => .int (i % j)) (tCB (fun xs H Q => (∃ i, xs = [.int i] ∧ Q (.int i) H) ∨ ∃ k, xs = [.bl k] ∧ Q (.int (if k then 1 else 0)) H) (tCons (tOp (rI0 fun i j => .int (i + j)) (tOp (rI CMul fun i j => .int (i * j)) (tH1 K) (tC (.int 69621))) (tC (.int 29))) tNil)) (tC (.int 2147483647))) (gSub (tVar 0) (tC (.int 1)) rSetL))
    (tRet (tOp (rI (fun _ j => 0 < j) fun i j => .int (i % j)) (tCB (fun xs H Q => (∃ i, xs = [.int i] ∧ Q (.int i) H) ∨ ∃ k, xs = [.bl k] ∧ Q (.int (if k then 1 else 0)) H) (tCons (tOp (rI CDiv fun i j => .int (i / j)) (tH1 K) (tC (.int 32))) tNil)) (tVar 1)))))
theorem ok__law_draw (Fc : Facts P w K mg base c) : Fk P w K mg base "_law_draw" 1 2 (SpD c 2 F__law_draw) := by
  obtain ⟨f, fd, F, hm⟩ := Fc.fn "_law_draw" 91 (by decide)
  refine ⟨f, fd, ["_law_heap_here", "_law_many"], F.ok sc_draw (fun vs H Q E h => ?_) (fun cdv A outer s H vs Q E hr h => ⟨tDraw K, PSs.nox ?_, ?_⟩), hm, F.kp, F.bindsN fun _ _ _ _ _ _ us hl => match us, hl with | [_, _], _ => rfl⟩
  · obtain ⟨G, ds, P', h1, h2, h3, h4, _⟩ := h
    rw [h4.length, h3]; rfl
  · exact pss_cons (ps_while .never (pw_and (pt_cmpR (op_neD hr.units) (pe_ix ix_list (pv 0) pe_int (fun _ _ => rfl)) (pe_lst pa_nil) (nomark _)) (pw_and1 (pt_cmpR op_eq (pe_ix ix_list (pe_ix ix_list (pv 0) pe_int (fun _ _ => rfl)) (pe_un un_neg pe_int) (fun _ _ => rfl)) pe_int (nomark _)))).pt
        (pss_one (ps_expr (pe_bm0 PySem.F.plainAttrs_list PySem.F.slot_list_pop PySem.F.type_list_pop mt_pop (pe_ix ix_list (pv 0) pe_int (fun _ _ => rfl))))))
      (pss_cons (ps_if (pt_cmpR (op_neD hr.units) (pe_ix ix_list (pv 0) pe_int (fun _ _ => rfl)) (pe_lst pa_nil) (nomark _))
          (pss_cons (ps_set (i := 2) sc_draw.nd rfl (Or.inl rfl) (pe_bm0 PySem.F.plainAttrs_list PySem.F.slot_list_pop PySem.F.type_list_pop mt_pop (pe_ix ix_list (pv 0) pe_int (fun _ _ => rfl))))
            (pss_cons (ps_expr (pe_bm PySem.F.plainAttrs_list PySem.F.slot_list_append PySem.F.type_list_append mt_append (pe_ix ix_list (pv 0) pe_int (fun _ _ => rfl)) (pa_cons (pe_op op_fdiv (pv 2) (pv 1)) pa_nil)))
              (pss_one (ps_ret (pe_op op_mod (pe_callTy call_int1 rfl (Fc.free "int" (by decide)) (by decide +kernel) (pa_cons (pv 2) pa_nil)) (pv 1))))))
          pss_nil)
        (pss_cons (ps_asg (pe_op op_mod (pe_callTy call_int1 rfl (Fc.free "int" (by decide)) (by decide +kernel) (pa_cons (pe_op op_add (pe_op op_mul (pe_ix ix_list (pv 0) pe_int (fun _ _ => rfl)) pe_int) pe_int) pa_nil)) pe_int) (pg_sub (pv 0) pe_int set_list))
          (pss_one (ps_ret (pe_op op_mod (pe_callTy call_int1 rfl (Fc.free "int" (by decide)) (by decide +kernel) (pa_cons (pe_op op_fdiv (pe_ix ix_list (pv 0) pe_int (fun _ _ => rfl)) pe_int) pa_nil)) (pv 1))))))
  · obtain ⟨G, ds, P', ok, hW, hl, q, ⟨many, rfl, ⟨hm1, hm2⟩, hP⟩, k⟩ := h
    obtain ⟨v1, v2, rfl, i1, i2⟩ := q.two_of rfl
    cases i2
    cases i1 with
    | heap eh =>
    rename_i hh l
    obtain ⟨hne, cs, st, a1, a2, a3, a4, a5⟩ := ok.hok hh l eh
    have hs0 : HpS hh l H cs st := ⟨hne, a1, a2, a3, a4, a5⟩
    have fin : ∀ (H' : Hp) (cs : List Int) (st v : Int), Ch c G.hpA H H' → HpS hh l H' cs st → 0 ≤ v → v < many → Q (.int v) H' := fun H' cs st v e hs h0 h1 => k _ _ H' ⟨e, fun _ => hs.ok eh⟩ (hP v h0 h1) .int
    have hpl : G.hpA l := ⟨hh, l, eh, .inr rfl⟩
    have hph : G.hpA hh := ⟨hh, l, eh, .inl rfl⟩
    have mod0 : ∀ x : Int, 0 ≤ x % many ∧ x % many < many := fun x => ⟨Int.emod_nonneg _ (by omega), Int.emod_lt_of_pos _ (by omega)⟩
    -- behind the loop
    have rest : ∀ (H1 : Hp) (cs : List Int) (st : Int), Ch c G.hpA H H1 → HpS hh l H1 cs st → (tSeq (tIfS (tTest (tNe0 K))
  (tSeq (tAsg (tPop K) (gName 2)) (tSeq (tDrop (tApp K)) (tRet (tOp (rI (fun _ j => 0 < j) fun i j => .int (i % j)) (tCB (fun xs H Q => (∃ i, xs = [.int i] ∧ Q (.int i) H) ∨ ∃ k, xs = [.bl k] ∧ Q (.int (if k then 1 else 0)) H) (tCons (tVar 2) tNil)) (tVar 1))))) tNext)
  (tSeq (tAsg (tOp (rI (fun _ j => 0 < j) fun i j => .int (i % j)) (tCB (fun xs H Q => (∃ i, xs = [.int i] ∧ Q (.int i) H) ∨ ∃ k, xs = [.bl k] ∧ Q (.int (if k then 1 else 0)) H) (tCons (tOp (rI0 fun i j => .int (i + j)) (tOp (rI CMul fun i j => .int (i * j)) (tH1 K) (tC (.int 69621))) (tC (.int 29))) tNil)) (tC (.int 2147483647))) (gSub (tVar 0) (tC (.int 1)) rSetL))
    (tRet (tOp (rI (fun _ j => 0 < j) fun i j => .int (i % j)) (tCB (fun xs H Q => (∃ i, xs = [.int i] ∧ Q (.int i) H) ∨ ∃ k, xs = [.bl k] ∧ Q (.int (if k then 1 else 0)) H) (tCons (tOp (rI CDiv fun i j => .int (i / j)) (tH1 K) (tC (.int 32))) tNil)) (tVar 1))))) { nx := fun _ H' => Q .non H', rt := Q } (L2.start NDr [.ref hh, .int many]) H1 := by
      intro H1 cs st e hs
      refine rd_ne0 rfl hs fun p hp => ⟨_, rfl, ?_⟩
      have e1 : Ch c G.hpA H (upd H1 p (.lst [])) := e.trans (Ex.new (c := c) (G := G) hp).ch
      have hs1 := hs.new (o := .lst []) hp
      cases cs with
      | nil =>
        refine rd_h1 rfl hs1 ⟨st, 69621, rfl, rfl, .inr (by omega), _, 29, rfl, rfl, .inl ⟨_, rfl, _, 2147483647, rfl, rfl, by omega, ?_⟩⟩
        refine ⟨_, rfl, hh, _, 1, 1, rfl, rfl, hs1.at1, rfl, ?_⟩
        have h0 : 0 ≤ (st * 69621 + 29) % 2147483647 := Int.emod_nonneg _ (by omega)
        have hs2 := hs1.stir h0
        have e2 := ch_put (ys := [.ref l, .int ((st * 69621 + 29) % 2147483647)]) e1 hs1.at1 hph
        refine rd_h1 rfl hs2 ⟨_, 32, rfl, rfl, ⟨by omega, by omega⟩, .inl ⟨_, rfl, _, rfl, _, many, rfl, rfl, by omega, ?_⟩⟩
        exact fin _ _ _ _ e2 hs2 (mod0 _).1 (mod0 _).2
      | cons y r =>
        obtain ⟨x, hx, hm⟩ := last_int (cs := y :: r) (by simp)
        refine rd_pop rfl hs1 hx ?_
        have hs2 := hs1.put (cs' := (y :: r).dropLast) (fun z hz => hs1.cs0 z (drop_mem hz)) (by rw [List.length_dropLast]; have := hs1.len; omega)
        have e2 := ch_put (ys := (y :: r).dropLast.map .int) e1 hs1.at2 hpl
        have x0 := hs1.cs0 x hm
        refine rd_h0 (σ := (L2.start NDr [.ref hh, .int many]).set 2 (some (.int x))) rfl hs2 ⟨.inl ⟨rfl, _, .of hs2.at2⟩, _, rfl, _, rfl, x, many, rfl, rfl, ⟨by omega, by omega⟩, ?_⟩
        refine ⟨l, _, .int (x / many), rfl, rfl, hs2.at2, by rw [List.length_map]; exact Nat.lt_of_le_of_lt hs2.len (by decide), ?_⟩
        have d0 : 0 ≤ x / many := Int.ediv_nonneg x0 (by omega)
        have hs3 : HpS hh l (upd (upd (upd H1 p (.lst [])) l (.lst ((y :: r).dropLast.map .int))) l (.lst (((y :: r).dropLast ++ [x / many]).map .int))) ((y :: r).dropLast ++ [x / many]) st := hs2.put (fun z hz => by
          rcases List.mem_append.mp hz with w | w
          · exact hs2.cs0 z w
          · rw [List.mem_singleton.mp w]; exact d0) (by rw [List.length_append, List.length_dropLast]; have := hs1.len; simp at this ⊢; omega)
        have e3 := ch_put (ys := ((y :: r).dropLast ++ [x / many]).map .int) e2 hs2.at2 hpl
        rw [List.map_append] at hs3 e3
        exact ⟨_, rfl, .inl ⟨x, rfl, _, rfl, x, many, rfl, rfl, by omega, fin _ _ _ _ e3 hs3 (mod0 _).1 (mod0 _).2⟩⟩
    refine ⟨fun m σ' H' => σ' = L2.start NDr [.ref hh, .int many] ∧ Ch c G.hpA H H' ∧ ∃ cs st, HpS hh l H' cs st ∧ m = cs.length, ⟨_, rfl, Ch.refl, cs, st, hs0, rfl⟩, ?_⟩
    rintro m σ' H1 ⟨rfl, e, cs, st, hs, rfl⟩
    refine rd_ne0 rfl hs fun p hp => ⟨_, rfl, ?_⟩
    have e1 : Ch c G.hpA H (upd H1 p (.lst [])) := e.trans (Ex.new (c := c) (G := G) hp).ch
    have hs1 := hs.new (o := .lst []) hp
    cases cs with
    | nil => exact rest _ _ _ e1 hs1
    | cons y r =>
      obtain ⟨x, hx, hm⟩ := last_int (cs := y :: r) (by simp)
      refine rd_m1 rfl hs1 hx ⟨_, rfl, ?_⟩
      by_cases hz : V.int x = V.int 0
      · rw [decide_eq_true hz]
        refine ⟨fun σ' H' => σ' = L2.start NDr [.ref hh, .int many] ∧ Ch c G.hpA H H' ∧ ∃ cs st, HpS hh l H' cs st ∧ r.length = cs.length, fun σ' H' z => ⟨r.length, by simp, z⟩, ?_⟩
        refine rd_pop rfl hs1 hx ⟨rfl, ch_put e1 hs1.at2 hpl, _, st, hs1.put (cs' := (y :: r).dropLast) (fun z hz => hs1.cs0 z (drop_mem hz)) (by rw [List.length_dropLast]; have := hs1.len; omega), by simp⟩
      · rw [decide_eq_false hz]
        exact rest _ _ _ e1 hs1
end
end DW
set_option Elab.async false
set_option linter.all false
set_option maxRecDepth 100000
set_option maxHeartbeats 1000000
set_option autoImplicit false
namespace DW
open PySem PySem.Spec PyProof.Rows L2 K62
section
variable {c : Cst} {X : Cx} {G G' : Gh} {H H' : Hp} {γ : Ga} {σ : L2.St} {a b e e2 : Expr} {es : List Expr} {pos : Pos} {δ δa : ED} {α : AD}
/-! ### sorted(pieces) -/
def pD (p : Pc) : D := .tup [.int p.j, .int p.s, .int p.t, .int p.u]
theorem pcs_in : ∀ {ps : List Pc} {xs : List V}, Ims c G H (ps.map pD) xs → Paired (Gp.IsP H) xs ps
  | [], _, h => by cases h; exact .nil
  | p :: r, _, h => by
    cases h with
    | cons q qs =>
      refine .cons ?_ (pcs_in qs)
      cases q with
      | tup e q =>
        cases q with
        | cons q1 q =>
        cases q with
        | cons q2 q =>
        cases q with
        | cons q3 q =>
        cases q with
        | cons q4 q =>
        cases q1; cases q2; cases q3; cases q4; cases q
        exact ⟨_, rfl, e⟩
theorem pcs_out : ∀ {ps : List Pc} {xs : List V}, Paired (Gp.IsP H) xs ps → Ims c G H (ps.map pD) xs
  | _, _, .nil => .nil
  | _, _, .cons ⟨t, e, h⟩ r => by
    subst e
    exact .cons (.tup h (.cons .int (.cons .int (.cons .int (.cons .int .nil))))) (pcs_out r)
def aSrtP (δ : ED) : AD := fun γ P => δ γ fun d => ∃ ps : List Pc, d = .lst (ps.map pD) ∧ ps.length ≤ 1000 ∧ P ((ps.mergeSort leP).map pD)
theorem dl_sortP {p : Pos} (hu : X.A.units + 64 < cLine) (hg : Gl X "sorted") (hm : X.mg "sorted" = none) (h : DE c X e δ) (he : starEach [e] X.env = (false, eval e X.env) :: starEach [] X.env := by rfl) (hpl : (backTo pos (starEach [] X.env)).any (·.1) = false := by rfl) : DL c X (.Call (.Name "sorted" p) [e] [] pos) (aSrtP δ) := pe_imp (pe_callB (Gp.cr_sortP hu) hg hm (by decide +kernel) (pa_cons h pa_nil he) (by decide) (by decide) he hpl) fun σ H Q ⟨G, γ, P, S, h, k⟩ =>
  ⟨G, γ, _, S, h, fun d v H1 e pp im => by
    obtain ⟨ps, rfl, hl, pp⟩ := pp
    cases im with
    | lst e1 n q =>
      rename_i a xs
      refine ⟨a, xs, ps, rfl, .inl e1, pcs_in q, hl, fun ys p0 hy hp => ?_⟩
      exact k _ p0 ys _ (e.ch.nT_back (nT.of hp)) (e.trans (Ex.new hp)) pp upd_same (Ims.le (Le.with (nT.of hp) (Ex.new hp)) S.sub _ _ (pcs_out hy))⟩
/-! ### in TEXT_WORDS -/
def bInW (δ : ED) : BD := fun γ P => δ γ fun d => ∃ s, d = .str s ∧ P (decide (s ∈ textWords))
theorem dt_inW {P : Program} {w : World} {base : Heap} {p : Pos} (Fc : Facts P w X.K X.mg base c) (hg : Gl X "TEXT_WORDS") (ha : DE c X a δ) (hm : behindInMarks .In (.Name "TEXT_WORDS" p) = false := by rfl) : DT c X (.Compare a [.In] [.Name "TEXT_WORDS" p] pos) (bInW δ) := by
  obtain ⟨t, h1, h2⟩ := Fc.words
  refine pt_imp (pt_cmpR op_in_seq ha (pe_glob (v := .ref t) hg h1 rfl) hm) fun σ H Q ⟨G, γ, P, S, h, k⟩ => ⟨G, γ, _, S, h, fun d v H1 e pp im => ?_⟩
  obtain ⟨s, rfl, pp⟩ := pp
  cases im
  refine ⟨t, _, rfl, .inr (h2 H1), rfl, by decide, ?_⟩
  rw [in_strs]
  exact ⟨_, rfl, k _ H1 e pp⟩
end
/-! ### a task is made -/
theorem tabs_ins {T : List (Addr × Str)} {H : Hp} {p C dx : Addr} {fs : List (Str × V)} {o : HO} (h : H p = some (.ins C dx fs)) (t : LamX.Tabs T H) : LamX.Tabs T (upd H p o) := by
  intro q hq
  obtain ⟨ps, h1, h2, h3⟩ := t q hq
  refine ⟨ps, ?_, h2, fun pos cv hc => ?_⟩
  · rw [upd_ne fun z => by (rw [z, h] at h1; cases h1)]
    exact h1
  · obtain ⟨cc, e1, e2⟩ := h3 pos cv hc
    refine ⟨cc, e1, ?_⟩
    rw [upd_ne fun z => by (subst z; rw [h] at e2; unfold LamX.CodeO at e2; cases e2)]
    exact e2
theorem ex_ins {c : Cst} {G : Gh} {H0 H : Hp} {p C dx C' dx' : Addr} {fs fs' : List (Str × V)} (n0 : H0 p = none) (e : Ex c G H0 H) (h : H p = some (.ins C dx fs)) (ok : HpOK G H0) : Ex c G H0 (upd H p (.ins C' dx' fs')) := by
  refine ⟨⟨fun a v q t m => ?_, fun a v q t => ?_, fun t => tabs_ins h (e.ch.tabs t)⟩, fun k => HpOK.put (e.hok k) (HpOK.fresh ok n0)⟩
  · rw [upd_ne (ne_of_none q n0)]
    exact e.ch.keep a v q t m
  · rw [upd_ne (ne_of_none q n0)]
    exact e.ch.dom a v q t
def SpInit (c : Cst) (F : List D → (D → Prop) → Prop) : Sp := fun vs H Q _ => ∃ (G : Gh) (x dx : Addr) (y z w : V) (u0 w0 g0 : D), vs = [.ref x, y, z, w] ∧ H x = some (.ins c.C dx []) ∧ OkG c G H ∧ (∀ a, ¬ G.W a) ∧ Ims c G H [u0, w0, g0] [y, z, w] ∧ F [u0, w0, g0] (fun _ => True) ∧
  ∀ Ha, Ex c G H Ha → Ha x = some (.ins c.C dx []) → Q .non (upd (upd (upd Ha x (.ins c.C dx [("unknowns", y)])) x (.ins c.C dx [("unknowns", y), ("wishes", z)])) x (.ins c.C dx [("unknowns", y), ("wishes", z), ("goal", w)]))
structure FInit (P : Program) (w : World) (K : PySem.W.Frag) (mg : Str → Option Value) (base : Heap) (c : Cst) (k : Nat) (F : List D → (D → Prop) → Prop) : Prop where
  ex : ∃ f fd, FnOk P w K mg base CX0 k f fd ["self", "unknowns", "wishes", "goal"] (SpInit c F) ∧ Mk K c.C f ∧ Binds K fd ["self", "unknowns", "wishes", "goal"] []
section
variable {c : Cst} {X : Cx} {G G' : Gh} {H H' : Hp} {γ : Ga} {σ : L2.St} {a b e e2 : Expr} {es : List Expr} {pos : Pos} {δ δa : ED} {α : AD}
def dMake (F : List D → (D → Prop) → Prop) (α : AD) : ED := fun γ P => α γ fun ds => ∃ u0 w0 g0, ds = [u0, w0, g0] ∧ F [u0, w0, g0] (fun _ => True) ∧ P (.task u0 w0 g0)
theorem de_make {F : List D → (D → Prop) → Prop} {k : Nat} {p : Pos} (I : FInit X.prog X.w X.K X.mg X.base c k F) (hm : X.mg "Task" = some (.ref c.C)) (hr : Room (k + 1) X.A) (hg : Gl X "Task") (ha : DA c X (e :: es) α)
    (he : starEach (e :: es) X.env = (false, eval e X.env) :: starEach es X.env := by rfl) (hpl : (backTo pos (starEach es X.env)).any (·.1) = false := by rfl) : DE c X (.Call (.Name "Task" p) (e :: es) [] pos) (dMake F α) := by
  obtain ⟨f, fd, Fo, M, hb⟩ := I.ex
  refine pe_imp (pe_make M Fo hr hg hm hb .nil (E := E0) pass0 ha (by decide) he hpl) fun σ H Q ⟨G, γ, P, S, h, k⟩ => ⟨G, γ, _, S, h, fun ds vs H1 e1 pp q => fun x dx hx hdx hne => ?_⟩
  obtain ⟨u0, w0, g0, rfl, hF, pp⟩ := pp
  match vs, q with
  | _, .cons q1 (.cons q2 (.cons q3 .nil)) =>
    rename_i y z w
    have n1 : upd H1 dx (.own x) x = none := by rw [upd_ne hne.symm]; exact hx
    have e2 : Ex c G H1 (upd (upd H1 dx (.own x)) x (.ins c.C dx [])) := (Ex.new hdx).trans (Ex.new n1)
    have ok2 := S.ok.ex (e1.trans e2)
    refine ⟨G.cal, x, dx, y, z, w, u0, w0, g0, rfl, upd_same, ok2.cal, fun _ h => h, (Ims.le e2.le S.sub _ _ (.cons q1 (.cons q2 (.cons q3 .nil)))).cal, hF, fun Ha ea hax => ⟨rfl, ?_⟩⟩
    have ea' := e2.trans ea.uncal
    have hok1 := (S.ok.ex e1).hok
    have x1 := ex_ins (C' := c.C) (dx' := dx) (fs' := [("unknowns", y)]) hx ea' hax hok1
    have x2 := ex_ins (C' := c.C) (dx' := dx) (fs' := [("unknowns", y), ("wishes", z)]) hx x1 upd_same hok1
    have x3 := ex_ins (C' := c.C) (dx' := dx) (fs' := [("unknowns", y), ("wishes", z), ("goal", w)]) hx x2 upd_same hok1
    exact k _ _ _ (e1.trans x3) pp (.task upd_same (Im.le x3.le S.sub _ _ q1) (Im.le x3.le S.sub _ _ q2) (Im.le x3.le S.sub _ _ q3))
end
def NInit : List Str := ["self", "unknowns", "wishes", "goal"]
theorem sc_init : FnScope NInit ["self", "unknowns", "wishes", "goal"] (defScope initSt) := ⟨rfl, rfl, rfl, by decide +kernel, rfl, by decide +kernel, by decide +kernel⟩
section
variable {c : Cst} {P : Program} {w : World} {K : PySem.W.Frag} {mg : Str → Option Value} {base : Heap}
theorem ok_init {F : List D → (D → Prop) → Prop} {k : Nat} (Fc : Facts P w K mg base c) (hc : Fk P w K mg base "check_task" k 3 (SpD c 3 F)) : FInit P w K mg base c (k + 1) F := by
  obtain ⟨f, fd, Fd, M⟩ := Fc.init
  refine ⟨f, fd, Fd.ok sc_init (fun vs H Q E h => ?_) (fun cdv A outer s H vs Q E hr h => ⟨tSeq (tDrop (cE c (dCall 3 F (aCons (dVar 1) (aCons (dVar 2) (aCons (dVar 3) aNil)))))) (tSeq (sFld K (tVar 0) (tVar 1) "unknowns") (tSeq (sFld K (tVar 0) (tVar 2) "wishes") (sFld K (tVar 0) (tVar 3) "goal"))), PSs.nox ?_, ?_⟩), M, Fd.bindsN fun _ _ _ _ _ _ us hl => match us, hl with | [_, _, _, _], _ => rfl⟩
  · obtain ⟨G, x, dx, y, z, w, u0, w0, g0, rfl, _⟩ := h
    rfl
  · exact pss_cons (ps_expr (de_call hc hr rfl (da_cons (dv 1) (da_cons (dv 2) (da_cons (dv 3) da_nil)))))
      (pss_cons (ps_fld (pv 0) (pv 1) rfl) (pss_cons (ps_fld (pv 0) (pv 2) rfl) (pss_one (ps_fld (pv 0) (pv 3) rfl))))
  · obtain ⟨G, x, dx, y, z, w, u0, w0, g0, rfl, hx, ok, hW, q, hF, k⟩ := h
    have S : SO c G [none, some (.d u0), some (.d w0), some (.d g0)] (L2.start NInit [.ref x, y, z, w]) H := by
      refine ⟨rfl, fun i s e => ?_, fun i j s t a e1 e2 o1 o2 _ _ => ?_, ok⟩
      · match i, e with
        | 1, e => cases e; exact ⟨y, rfl, (q.get (i := 0) rfl).elim fun v ⟨h1, h2⟩ => by cases h1; exact h2⟩
        | 2, e => cases e; exact ⟨z, rfl, (q.get (i := 1) rfl).elim fun v ⟨h1, h2⟩ => by cases h1; exact h2⟩
        | 3, e => cases e; exact ⟨w, rfl, (q.get (i := 2) rfl).elim fun v ⟨h1, h2⟩ => by cases h1; exact h2⟩
      · match i, e1 with
        | 1, e => cases e; exact o1.elim
        | 2, e => cases e; exact o1.elim
        | 3, e => cases e; exact o1.elim
    refine ⟨G, _, fun _ => True, S, ⟨u0, rfl, w0, rfl, g0, rfl, rfl, hF⟩, fun d v Ha ea _ _ => ?_⟩
    have hxa : Ha x = some (.ins c.C dx []) := ea.ch.keep _ _ hx nb_ins fun _ => nm_ins
    exact ⟨y, rfl, _, rfl, x, c.C, dx, _, rfl, hxa, Fc.cls, Fc.at1, by decide, z, rfl, _, rfl, x, c.C, dx, _, rfl, upd_same, Fc.cls, Fc.at2, (show 1 < 1000 by decide), w, rfl, _, rfl, x, c.C, dx, _, rfl, upd_same, Fc.cls, Fc.at3, (show 2 < 1000 by decide), k Ha ea hxa⟩
end
end DW
set_option Elab.async false
set_option linter.all false
set_option maxRecDepth 100000
set_option maxHeartbeats 1000000
set_option autoImplicit false
namespace DW
open PySem L2 K62
/-! ### how the readings over data are answered -/
theorem ifT {b : Bool} {A B : Prop} (h : b = true) (a : A) : if b = true then A else B := by rw [if_pos h]; exact a
theorem ifF {b : Bool} {A B : Prop} (h : b = false) (a : B) : if b = true then A else B := by rw [if_neg (by rw [h]; decide)]; exact a
theorem ifB {b : Bool} {A B : Prop} (h1 : b = true → A) (h2 : b = false → B) : if b = true then A else B := by
  cases b with
  | true => exact ifT rfl (h1 rfl)
  | false => exact ifF rfl (h2 rfl)
theorem lcW_run {α : Type} {g : GD} {τ : BD} {δ : ED} {γ : Ga} {enc : α → D} (p : α → Bool) (f : α → D) {P : List D → Prop} : ∀ (items : List α) (acc : List D),
    (∀ x ∈ items, ∀ (Q1 : Prop) (Q2 : D → Prop), (p x = true → Q2 (f x)) → (p x = false → Q1) → g (enc x) γ fun γ2 => τ γ2 fun b => if b = true then δ γ2 Q2 else Q1) → P (acc ++ (items.filter p).map f) → lcW g τ δ γ (items.map enc) acc P
  | [], acc, _, h => by simpa [lcW] using h
  | x :: r, acc, hx, h => by
    show g (enc x) γ fun γ2 => τ γ2 fun b => if b = true then δ γ2 fun y => lcW g τ δ γ (r.map enc) (acc ++ [y]) P else lcW g τ δ γ (r.map enc) acc P
    refine hx x (List.mem_cons_self ..) _ _ (fun hp => ?_) fun hp => ?_
    · refine lcW_run p f r _ (fun y hy => hx y (List.mem_cons_of_mem _ hy)) ?_
      rw [List.filter_cons_of_pos hp] at h
      simpa [List.append_assoc] using h
    · refine lcW_run p f r _ (fun y hy => hx y (List.mem_cons_of_mem _ hy)) ?_
      rw [List.filter_cons_of_neg (by rw [hp]; decide)] at h
      exact h
theorem filter_all {α : Type} (l : List α) : l.filter (fun _ => true) = l := List.filter_eq_self.mpr fun _ _ => rfl
/-- .. without a test -/
theorem lcW_map {α : Type} {g : GD} {δ : ED} {γ : Ga} {enc : α → D} (f : α → D) {P : List D → Prop} (items : List α) (hx : ∀ x ∈ items, ∀ (Q2 : D → Prop), Q2 (f x) → g (enc x) γ fun γ2 => δ γ2 Q2) (h : P (items.map f)) : lcW g (fun _ P => P true) δ γ (items.map enc) [] P :=
  lcW_run (fun _ => true) f items [] (fun x hm Q1 Q2 h1 _ => hx x hm Q2 (h1 rfl)) (by rw [filter_all]; exact h)
/-- sets of numbers -/
theorem scW_map {α : Type} {g : GD} {δ : ED} {γ : Ga} {enc : α → D} (f : α → Int) {P : List Int → Prop} : ∀ (items : List α) (acc : List Int), acc.length + items.length ≤ 1000 →
    (∀ x ∈ items, ∀ (Q2 : D → Prop), Q2 (.int (f x)) → g (enc x) γ fun γ2 => δ γ2 Q2) → P (acc ++ items.map f) → scW g (fun _ P => P true) δ γ (items.map enc) acc P
  | [], acc, _, _, h => by simpa [scW] using h
  | x :: r, acc, hl, hx, h => by
    show g (enc x) γ fun γ2 => (if true = true then δ γ2 fun y => ∃ i : Int, y = .int i ∧ acc.length ≤ 1000 ∧ scW g (fun _ P => P true) δ γ (r.map enc) (acc ++ [i]) P else _)
    refine hx x (List.mem_cons_self ..) (fun y => ∃ i : Int, y = .int i ∧ acc.length ≤ 1000 ∧ scW g (fun _ P => P true) δ γ (r.map enc) (acc ++ [i]) P) ⟨_, rfl, by simp at hl; omega, ?_⟩
    refine scW_map f r _ (by simp at hl ⊢; omega) (fun y hy => hx y (List.mem_cons_of_mem _ hy)) ?_
    simpa [List.append_assoc] using h
/-- loops -/
theorem forW_inv {α : Type} {g : GD} {τ : SD} {E : DEnds} {enc : α → D} (I : List α → Ga → Prop) : ∀ (items : List α) (γ : Ga), I items γ → (∀ x r γ, I (x :: r) γ → ∀ (K : Ga → Prop), (∀ γ', I r γ' → K γ') → g (enc x) γ fun γ2 => τ ⟨K, E.rt⟩ γ2) → (∀ γ, I [] γ → E.nx γ) → forW g τ (items.map enc) E γ
  | [], γ, h, _, hn => hn γ h
  | x :: r, γ, h, hs, hn => hs x r γ h _ fun γ' h' => forW_inv I r γ' h' hs hn
theorem atI_map {α : Type} {ws : List α} {enc : α → D} {j : Nat} {w : α} (h : ws[j]? = some w) : atI (ws.map enc) ((j : Nat) : Int) = some (enc w) := by
  refine atI_nat ?_
  rw [List.getElem?_map, h]
  rfl
/-- the items as they come -/
theorem lcW_id {g : GD} {τ : BD} {δ : ED} {γ : Ga} {items : List D} {P : List D → Prop} (h : lcW g τ δ γ (items.map id) [] P) : lcW g τ δ γ items [] P := by rwa [List.map_id] at h
/-! ### data of the program -/
def wD (w : Wn) : D := .tup [.int w.lo, .int w.hi, .int w.ln, .int w.nd]
def jD (j : Nat) : D := .int (j : Nat)
def ldD (x : Ld) : D := .tup [.str "load", .tup (x.js.map jD), .int x.a, .int x.b]
def leafD (k : Int) (x : Ld) : D := .tup [.str "load", .int k, .tup (x.js.map jD), .int x.a, .int x.b]
structure Jb where
  p : Nat
  l : Int
  n : Int
def j2 (j : Jb) : D := .tup [.int (j.p : Nat), .int j.l]
def j3 (j : Jb) : D := .tup [.int (j.p : Nat), .int j.l, .int j.n]
def wishD (bench : Bool) (js : List Jb) (size : Int) : D := if bench then .tup [.str "bench", .tup (js.map j2)] else .tup [.str "room", .tup (js.map j3), .int size]
def bD (b : Int × Int) : D := .tup [.int b.1, .int b.2]
def uD (u : Str × Int × Int) : D := .tup [.str u.1, .int u.2.1, .int u.2.2]
/-- small enough for a product -/
def Sm (i : Int) : Prop := -(2 ^ 64) < i ∧ i < 2 ^ 64
def SmW (ws : List Wn) : Prop := ∀ w ∈ ws, Sm w.nd
def wsOf (js : List Jb) (bx : List (Int × Int)) : List Wn := js.map fun j => ⟨(bx.getD j.p (0, 0)).1, (bx.getD j.p (0, 0)).2, j.l, j.n⟩
theorem at_get {ws : List Wn} {j : Nat} (h : j < ws.length) : ws[j]? = some (at_ ws j) := by
  unfold at_
  rw [List.getD_eq_getElem?_getD, List.getElem?_eq_getElem h]
  rfl
theorem wD_at {ws : List Wn} {j : Nat} (h : j < ws.length) : atI (ws.map wD) ((j : Nat) : Int) = some (wD (at_ ws j)) := atI_map (at_get h)
theorem window_end_is (w : Wn) (P : D → Prop) (h : P (.int w.fin)) : F_window_end [wD w] P := ⟨_, rfl, _, rfl, _, rfl, _, rfl, h⟩
theorem size_of_wish_is (b : Bool) (js : List Jb) (size : Int) (hb : b = true → size = 1) (P : D → Prop) (h : P (.int size)) : F_size_of_wish [wishD b js size] P := by
  cases b with
  | true =>
    refine ⟨_, rfl, _, rfl, ⟨by decide +kernel, by decide +kernel⟩, _, rfl, ?_⟩
    refine ifT (by decide +kernel) ?_
    rw [hb rfl] at h
    exact h
  | false =>
    refine ⟨_, rfl, _, rfl, ⟨by decide +kernel, by decide +kernel⟩, _, rfl, ?_⟩
    refine ifF (by decide +kernel) ?_
    exact ⟨_, rfl, _, rfl, h⟩
theorem bx_at {bx : List (Int × Int)} {j : Nat} (h : j < bx.length) : atI (bx.map bD) ((j : Nat) : Int) = some (bD (bx.getD j (0, 0))) := by
  refine atI_map ?_
  rw [List.getD_eq_getElem?_getD, List.getElem?_eq_getElem h]
  rfl
theorem job_windows_is (u g : D) (wishes : List D) (k : Nat) (b : Bool) (js : List Jb) (size : Int) (bx : List (Int × Int)) (hk : wishes[k]? = some (wishD b js size)) (hb : b = true → ∀ j ∈ js, j.n = 1) (hp : ∀ j ∈ js, j.p < bx.length) (hl : js.length ≤ 1000) (P : D → Prop) (h : P (.tup ((wsOf js bx).map wD))) :
    F_job_windows [.task u (.tup wishes) g, .int (k : Nat), .tup (bx.map bD)] P := by
  refine ⟨_, rfl, _, rfl, _, rfl, _, atI_nat hk, ?_⟩
  cases b with
  | true =>
    refine ⟨_, rfl, _, rfl, ⟨by decide +kernel, by decide +kernel⟩, _, rfl, ?_⟩
    refine ifT (by decide +kernel) ?_
    refine ⟨_, rfl, _, rfl, _, rfl, ?_, ?_⟩
    · rw [List.length_map]; exact hl
    refine lcW_map (fun j => wD ⟨(bx.getD j.p (0, 0)).1, (bx.getD j.p (0, 0)).2, j.l, j.n⟩) js (fun j hj Q2 hq => ?_) ?_
    · refine ⟨_, rfl, rfl, _, _, rfl, _, _, rfl, rfl, ?_⟩
      refine ⟨_, rfl, _, rfl, _, bx_at (hp j hj), ⟨_, rfl, by simp, by simp, ?_⟩⟩
      rw [hb rfl j hj] at hq
      exact hq
    · exact ⟨_, .inl rfl, by unfold wsOf at h; rw [List.map_map] at h; exact h⟩
  | false =>
    refine ⟨_, rfl, _, rfl, ⟨by decide +kernel, by decide +kernel⟩, _, rfl, ?_⟩
    refine ifF (by decide +kernel) ?_
    refine ⟨_, rfl, _, rfl, _, rfl, ?_, ?_⟩
    · rw [List.length_map]; exact hl
    refine lcW_map (fun j => wD ⟨(bx.getD j.p (0, 0)).1, (bx.getD j.p (0, 0)).2, j.l, j.n⟩) js (fun j hj Q2 hq => ?_) ?_
    · refine ⟨_, rfl, rfl, _, _, rfl, _, _, rfl, _, _, rfl, rfl, ?_⟩
      exact ⟨_, rfl, _, rfl, _, bx_at (hp j hj), ⟨_, rfl, _, rfl, by simp, by simp, hq⟩⟩
    · exact ⟨_, .inl rfl, by unfold wsOf at h; rw [List.map_map] at h; exact h⟩

theorem work_of_is (ws : List Wn) (js : List Nat) (hs : SmW ws) (hj : ∀ j ∈ js, j < ws.length) (hl : js.length ≤ 1000) (P : D → Prop) (h : P (.int (workOf ws js))) : F_work_of [.tup (ws.map wD), .tup (js.map jD)] P := by
  refine ⟨_, rfl, _, rfl, by rw [List.length_map]; exact hl, ?_⟩
  refine lcW_map (fun j => D.int (at_ ws j).wk) js (fun j hm Q2 hq => ?_) ?_
  · have hj' := hj j hm
    refine ⟨_, rfl, _, rfl, _, wD_at hj', _, rfl, _, rfl, _, rfl, _, wD_at hj', _, rfl, .inr ?_, hq⟩
    exact hs _ (at_mem hj')
  · exact ⟨js.map fun j => (at_ ws j).wk, by rw [List.map_map]; rfl, h⟩
theorem zip_at (ws : List Wn) : (ws.map wD).zipIdx.map (fun p => D.tup [.int (p.2 : Nat), p.1]) = (List.range ws.length).map fun j => D.tup [.int (j : Nat), wD (at_ ws j)] := by
  apply List.ext_getElem?
  intro i
  rw [List.getElem?_map, List.getElem?_map, List.getElem?_zipIdx, List.getElem?_map]
  by_cases hi : i < ws.length
  · rw [at_get hi, List.getElem?_range hi]
    simp
  · rw [List.getElem?_eq_none (by omega), List.getElem?_eq_none (by simp; omega)]
    rfl
theorem jobs_within_is (ws : List Wn) (a b : Int) (hl : ws.length ≤ 1000) (P : D → Prop) (h : P (.tup ((within ws a b).map jD))) : F_jobs_within [.tup (ws.map wD), .int a, .int b] P := by
  refine ⟨_, rfl, _, rfl, ?_⟩
  rw [zip_at]
  refine ⟨by simp; exact hl, ?_⟩
  refine lcW_run (insideP ws a b) jD (List.range ws.length) [] (fun j hm Q1 Q2 h1 h0 => ?_) ?_
  · have hj : j < ws.length := List.mem_range.mp hm
    refine ⟨_, rfl, rfl, _, _, rfl, _, _, rfl, rfl, ?_⟩
    refine ⟨_, rfl, _, rfl, _, rfl, _, rfl, ?_⟩
    by_cases c1 : a ≤ (at_ ws j).lo
    · refine ifT (decide_eq_true c1) ?_
      refine ⟨_, rfl, rfl, window_end_is _ _ ⟨_, rfl, _, rfl, ?_⟩⟩
      refine ifB (fun z => ⟨_, rfl, h1 ?_⟩) fun z => h0 ?_
      · exact decide_eq_true ⟨c1, of_decide_eq_true z⟩
      · exact decide_eq_false fun q => absurd q.2 (of_decide_eq_false z)
    · refine ifF (decide_eq_false c1) ?_
      refine ifF rfl (h0 ?_)
      exact decide_eq_false fun q => c1 q.1
  · exact ⟨_, .inl rfl, h⟩
theorem leaf_of_part_is (k : Int) (x : Ld) (P : D → Prop) (h : P (leafD k x)) : F_leaf_of_part [.int k, ldD x] P :=
  ⟨_, rfl, _, rfl, _, rfl, by simp, _, rfl, _, rfl, (show 5 ≤ 1000 by decide), h⟩
theorem jobs_open_is (ws : List Wn) (s t : Int) (hl : ws.length ≤ 1000) (P : D → Prop) (h : P (.lst ((opens ws s t).map jD))) : F_jobs_open [.tup (ws.map wD), .int s, .int t] P := by
  refine ⟨_, rfl, _, rfl, ?_⟩
  rw [zip_at]
  refine ⟨by simp; exact hl, ?_⟩
  refine lcW_run (fun j => decide ((at_ ws j).lo ≤ s ∧ t ≤ (at_ ws j).fin)) jD (List.range ws.length) [] (fun j hm Q1 Q2 h1 h0 => ?_) ?_
  · refine ⟨_, rfl, rfl, _, _, rfl, _, _, rfl, rfl, ?_⟩
    refine ⟨_, rfl, _, rfl, _, rfl, _, rfl, ?_⟩
    by_cases c1 : (at_ ws j).lo ≤ s
    · refine ifT (decide_eq_true c1) ?_
      refine ⟨_, rfl, _, rfl, rfl, window_end_is _ _ ⟨_, rfl, ?_⟩⟩
      refine ifB (fun z => ⟨_, rfl, h1 ?_⟩) fun z => h0 ?_
      · exact decide_eq_true ⟨c1, of_decide_eq_true z⟩
      · exact decide_eq_false fun q => absurd q.2 (of_decide_eq_false z)
    · refine ifF (decide_eq_false c1) ?_
      refine ifF rfl (h0 ?_)
      exact decide_eq_false fun q => c1 q.1
  · exact h
theorem ints_map {l : List Int} : l.map D.int = (l.map D.int).map id := by rw [List.map_id]
theorem loadsB_len (ws : List Wn) (size a : Int) (bs : List Int) : (loadsB ws size a bs).length ≤ bs.length := List.length_filterMap_le _ _
theorem flat_len {α β : Type} (f : α → List β) (n : Nat) : ∀ l : List α, (∀ x ∈ l, (f x).length ≤ n) → (l.map f).flatten.length ≤ l.length * n
  | [], _ => by simp
  | x :: r, h => by
    have h1 := flat_len f n r fun y hy => h y (List.mem_cons_of_mem _ hy)
    have h2 := h x (List.mem_cons_self ..)
    rw [List.map_cons, List.flatten_cons, List.length_append, List.length_cons, Nat.add_mul]
    omega
theorem load_parts_is (ws : List Wn) (size : Int) (hs : SmW ws) (hz : Sm size) (hl : ws.length ≤ 20) (P : D → Prop) (h : P (.lst ((loads ws size).map ldD))) : F_load_parts [.tup (ws.map wD), .int size] P := by
  have hlo : (usort (ws.map Wn.lo)).length ≤ 20 := Nat.le_trans (usort_len _) (by rw [List.length_map]; exact hl)
  have hfi : (usort (ws.map Wn.fin)).length ≤ 20 := Nat.le_trans (usort_len _) (by rw [List.length_map]; exact hl)
  show ([] : List D).length ≤ 1000 ∧ _
  refine ⟨by simp, ?_⟩
  refine ⟨_, rfl, _, rfl, ?_⟩
  refine scW_map Wn.lo ws [] (by simp; omega) (fun w hw Q2 hq => ⟨_, rfl, _, rfl, hq⟩) ?_
  refine ⟨by simp; omega, ?_⟩
  -- the outer loop
  refine forW_inv (enc := D.int) (fun as γ => ∃ done x3 x4 x5 x6, lows ws = done ++ as ∧ γ = [some (.d (.tup (ws.map wD))), some (.d (.int size)), some (.l (((done.map fun a => loadsB ws size a (fins ws)).flatten).map ldD)), x3, x4, x5, x6]) (lows ws) _ ⟨[], none, none, none, none, rfl, rfl⟩ ?_ ?_
  · rintro a as γ ⟨done, x3, x4, x5, x6, hd, rfl⟩ Kx hK
    refine ⟨_, rfl, _, rfl, ?_⟩
    refine scW_map Wn.fin ws [] (by simp; omega) (fun w hw Q2 hq => ⟨_, rfl, rfl, window_end_is _ _ hq⟩) ?_
    refine ⟨by simp; omega, ?_⟩
    refine forW_inv (enc := D.int) (fun bs γ => ∃ bd x4 x5 x6, fins ws = bd ++ bs ∧ γ = [some (.d (.tup (ws.map wD))), some (.d (.int size)), some (.l ((((done.map fun a => loadsB ws size a (fins ws)).flatten) ++ loadsB ws size a bd).map ldD)), some (.d (.int a)), x4, x5, x6]) (fins ws) _ ⟨[], x4, x5, x6, rfl, by simp [loadsB]⟩ ?_ ?_
    · rintro b bs γ ⟨bd, x4, x5, x6, hb, rfl⟩ K2 hK2
      refine ⟨_, rfl, _, rfl, _, rfl, rfl, jobs_within_is _ _ _ (by omega) _ ?_⟩
      have step : ∀ (F : List Ld), F = ((done.map fun a => loadsB ws size a (fins ws)).flatten) ++ loadsB ws size a (bd ++ [b]) → K2 [some (.d (.tup (ws.map wD))), some (.d (.int size)), some (.l (F.map ldD)), some (.d (.int a)), x4, some (.d (.int b)), some (.d (.tup ((within ws a b).map jD)))] := fun F e => by
        subst e
        exact hK2 _ ⟨bd ++ [b], x4, _, _, by rw [hb]; simp, rfl⟩
      refine ⟨_, rfl, _, rfl, _, rfl, ?_⟩
      have wl : (within ws a b).length ≤ ws.length := by
        unfold within
        exact Nat.le_trans (List.length_filter_le _ _) (by rw [List.length_range]; exact Nat.le_refl _)
      have no : ¬ Over ws size a b → loadsB ws size a (bd ++ [b]) = loadsB ws size a bd := fun n => by
        unfold loadsB
        rw [List.filterMap_append]
        simp [n]
      by_cases c1 : a ≤ b
      · refine ifT (decide_eq_true c1) ?_
        refine ⟨_, rfl, _, rfl, rfl, work_of_is ws _ hs (fun j hj => ?_) (by omega) _ ?_⟩
        · unfold within at hj
          exact List.mem_range.mp (List.mem_filter.mp hj).1
        refine ⟨_, rfl, _, rfl, _, rfl, .inr hz, _, rfl, ?_⟩
        refine ifB (fun z => ?_) fun z => ?_
        · have ov : Over ws size a b := ⟨c1, of_decide_eq_true z⟩
          refine ⟨_, rfl, (by
            rw [List.length_map, List.length_append]
            have l1 : (fins ws).length ≤ 20 := hfi
            have l2 : (lows ws).length ≤ 20 := hlo
            have l3 := loadsB_len ws size a bd
            have l4 := flat_len (fun a => loadsB ws size a (fins ws)) 20 done fun x _ => Nat.le_trans (loadsB_len ws size x _) l1
            rw [hd, List.length_append] at l2
            rw [hb, List.length_append] at l1
            have l5 : done.length * 20 ≤ 20 * 20 := Nat.mul_le_mul_right _ (by omega)
            omega), _, rfl, _, rfl, _, rfl, by simp, ?_⟩
          have := step (((done.map fun a => loadsB ws size a (fins ws)).flatten ++ loadsB ws size a bd) ++ [⟨within ws a b, a, b⟩]) (by
            rw [List.append_assoc]
            congr 1
            unfold loadsB
            rw [List.filterMap_append]
            simp [ov])
          rw [List.map_append] at this
          exact this
        · exact step _ (by rw [no fun q => absurd q.2 (of_decide_eq_false z)])
      · refine ifF (decide_eq_false c1) ?_
        exact step _ (by rw [no fun q => c1 q.1])
    · rintro γ ⟨bd, x4, x5, x6, hb, rfl⟩
      rw [List.append_nil] at hb
      refine hK _ ⟨done ++ [a], some (.d (.int a)), x4, x5, x6, by rw [hd]; simp, ?_⟩
      rw [← hb]
      simp
  · rintro γ ⟨done, x3, x4, x5, x6, hd, rfl⟩
    rw [List.append_nil] at hd
    refine ⟨_, rfl, ?_⟩
    rw [← hd]
    exact h
end DW
set_option Elab.async false
set_option linter.all false
set_option maxRecDepth 100000
set_option maxHeartbeats 1000000
set_option autoImplicit false
namespace DW
open PySem PySem.Spec PyProof.Rows L2 K62
section
variable {c : Cst} {X : Cx} {G G' : Gh} {H H' : Hp} {γ : Ga} {σ : L2.St} {a b e e2 elt tg iter : Expr} {es ifs : List Expr} {pos : Pos} {δ δa : ED} {α ι : AD} {g : GD}
/-- name = [..], the comprehension on the name's line: a list of one's own -/
theorem ds_lcOwn {i : Nat} {y : Str} {py : Pos} {scope : Scope} {own : List (Str × Nat)} {spos : Pos} {τ : BD} (hc : X.calm = true) (hN : X.N.Nodup) (hy : X.N[i]? = some y) (hyl : X.env.scope.names.lookup y = some .local)
    (hi : DI c X tg iter ι) (ok : BlkOk X.N X.env.scope scope own)
    (hg : ∀ (s : Shared) (H : Hp) (C : Addr) (cl : List (Str × Addr)) (fp : List Addr), PG (X.blk s H scope (compEnvC scope cl C X.env) fp) tg (cG c (own.map (·.2)) g)) (ht : ∀ (s : Shared) (H : Hp) (C : Addr) (cl : List (Str × Addr)) (fp : List Addr), PTs (X.blk s H scope (compEnvC scope cl C X.env) fp) ifs (cT c τ))
    (he : ∀ (s : Shared) (H : Hp) (C : Addr) (cl : List (Str × Addr)) (fp : List Addr), DE c (X.blk s H scope (compEnvC scope cl C X.env) fp) elt δ) (hsw : swapsWith (.ListComp elt [⟨tg, iter, ifs, 0⟩] scope pos) (some (.Name y py)) spos.line X.env = pure true := by rfl) (hs : ∀ x, foldedSetIterable iter X.env x = pure x := by intro _; rfl) :
    DS c X (.Assign [.Name y py] (.ListComp elt [⟨tg, iter, ifs, 0⟩] scope pos) spos) (sOwn i (dLc ι g τ δ (own.map (·.2)))) := ps_imp (ps_setLc hc hN hy hyl hsw hi ok hg ht he hs) fun Dn σ H ⟨G, γ, E, S, h, kn, kr⟩ =>
  lc_of (c := c) _ ⟨G, γ, _, S, h, fun ds p xs H' n e pp hp q => kn (G.own p) _ _ H' (Le.own n e) (S.own n e hp q) pp⟩
/-! ### a def that gives a new list -/
def SpL (c : Cst) (n : Nat) (F : List D → (List D → Prop) → Prop) : Sp := fun vs H Q _ => ∃ G ds P, OkG c G H ∧ (∀ a, ¬ G.W a) ∧ ds.length = n ∧ Ims c G H ds vs ∧ F ds P ∧ ∀ rs p xs H', nT H p → Ex c G H H' → P rs → H' p = some (.lst xs) → Ims c (G.with p) H' rs xs → Q (.ref p) H'
def aCall (n : Nat) (F : List D → (List D → Prop) → Prop) (α : AD) : AD := fun γ P => α γ fun ds => ds.length = n ∧ F ds P
theorem dl_call {x : Str} {p : Pos} {k n : Nat} {F : List D → (List D → Prop) → Prop} (hF : Fk X.prog X.w X.K X.mg X.base x k n (SpL c n F)) (hr : Room k X.A) (hg : Gl X x) (ha : DA c X (e :: es) α) (hdb : (x == ("__debug__" : Str)) = false := by decide)
    (he : starEach (e :: es) X.env = (false, eval e X.env) :: starEach es X.env := by rfl) (hpl : (backTo pos (starEach es X.env)).any (·.1) = false := by rfl) : DL c X (.Call (.Name x p) (e :: es) [] pos) (aCall n F α) := by
  obtain ⟨f, fd, ps, F', hm, hk, hb⟩ := hF.ex
  refine pe_imp (pe_call F' hr hg hm hk hb .nil (E := E0) pass0 ha hdb he hpl) fun σ H Q ⟨G, γ, P, S, h, k⟩ => ⟨G, γ, _, S, h, fun ds vs H1 e p q => ?_⟩
  show SpL c n F (vs ++ []) H1 Q E0
  rw [List.append_nil]
  refine ⟨G.cal, ds, P, (S.ok.ex e).cal, fun _ h => h, p.1, q.cal, p.2, fun rs p0 xs H2 n e2 p2 hp i2 => k rs p0 xs H2 (e.ch.nT_back n) (e.trans e2.uncal) p2 hp ?_⟩
  exact Ims.less (G := G.cal.with p0) (G' := G.with p0) rfl (fun _ z => z) _ _ i2
end
/-! ### served_jobs -/
def F_served_jobs : List D → (List D → Prop) → Prop := fun ds P => ∃ (ws : List Wn) (rest : List Int) (s t : Int), ds = [.tup (ws.map wD), .lst (rest.map .int), .int s, .int t] ∧ rest.length = ws.length ∧ ws.length ≤ 1000 ∧ P ((served ws rest s t).map jD)
def NSj : List Str := ["windows", "rest", "start", "end", "some", "job"]
theorem nd_served_jobs : NSj.Nodup := by decide +kernel
theorem sc_served_jobs : FnScope NSj ["windows", "rest", "start", "end"] (defScope (top 14)) := ⟨rfl, rfl, rfl, by decide +kernel, rfl, by decide +kernel, by decide +kernel⟩
def τ_some : SD := sOwn 4 (dLc (iL (dCall 3 F_jobs_open (aCons (dVar 0) (aCons (dVar 2) (aCons (dVar 3) aNil))))) (gN 5) (dTest (dBin oGt (dBin oIx (dVar 1) (dVar 5)) (dC (.int 0)))) (dVar 5) [5])
def δ_key : ED := dTup (aCons (dCall 1 F_window_end (aCons (dBin oIx (dVar 1) (dVar 0)) aNil)) (aCons (dVar 0) aNil))
theorem extN_ex {c : Cst} {G : Gh} {H H' : Hp} (e : LamX.ExtN H H') (t : LamX.Tabs c.T H') (ok : HpOK G H) : Ex c G H H' := by
  have k : ∀ a o, H a = some o → ¬ isTb o → H' a = some o := fun a o h n => e a o h fun ps z => n ⟨ps, z⟩
  refine ⟨⟨fun a o h n _ => k a o h n, fun a o h n => ⟨o, k a o h n, n⟩, fun _ => t⟩, fun _ hh l q => ?_⟩
  obtain ⟨h1, cs, st, h2, h3, h4⟩ := ok hh l q
  exact ⟨h1, cs, st, k _ _ h2 nb_lst, k _ _ h3 nb_lst, h4⟩
def Gh.dry (G : Gh) : Gh := ⟨G.av, fun _ => False, none⟩
theorem ex_extN {c : Cst} {G : Gh} {H H' : Hp} (e : Ex c G.dry H H') : LamX.ExtN H H' := fun a o h n => e.ch.keep a o h (fun ⟨ps, z⟩ => n ps z) fun ⟨hh, l, z, _⟩ => by cases z
theorem OkG.dry {c : Cst} {G : Gh} {H : Hp} (S : OkG c G H) : OkG c G.dry H := ⟨⟨fun _ h => h.elim, fun a ⟨hh, l, z, _⟩ => by (cases z)⟩, S.tabs, fun hh l z => by (cases z), S.dom⟩
section
variable {c : Cst} {P : Program} {w : World} {K : PySem.W.Frag} {mg : Str → Option Value} {base : Heap}
theorem rest_at {rest : List Int} {j : Nat} (h : j < rest.length) : atI (rest.map D.int) ((j : Nat) : Int) = some (.int (ra rest j)) := by
  refine atI_map ?_
  unfold ra
  rw [List.getD_eq_getElem?_getD, List.getElem?_eq_getElem h]
  rfl
theorem some_is (ws : List Wn) (rest : List Int) (s t : Int) (hl : ws.length ≤ 1000) (hr : rest.length = ws.length) (E : DEnds) (h : E.nx [some (.d (.tup (ws.map wD))), some (.d (.lst (rest.map .int))), some (.d (.int s)), some (.d (.int t)), some (.l ((((opens ws s t).filter fun j => decide (ra rest j > 0))).map jD)), none]) : τ_some E (startG NSj [.tup (ws.map wD), .lst (rest.map .int), .int s, .int t]) := by
  refine ⟨_, rfl, _, rfl, _, rfl, rfl, jobs_open_is ws s t hl _ ⟨_, rfl, ?_, ?_⟩⟩
  · rw [List.length_map]
    unfold opens
    exact Nat.le_trans (List.length_filter_le _ _) (by rw [List.length_range]; exact hl)
  refine lcW_run (fun j => decide (ra rest j > 0)) jD (opens ws s t) [] (fun j hj Q1 Q2 h1 h0 => ?_) h
  have hj' := (mem_opens.mp hj).1
  refine ⟨_, rfl, _, rfl, _, rest_at (by omega), _, rfl, ?_⟩
  exact ifB (fun z => ⟨_, rfl, h1 z⟩) fun z => h0 z
theorem noL_w (ws : List Wn) : noL (.tup (ws.map wD)) = true := by
  show noLs (ws.map wD) = true
  induction ws with
  | nil => rfl
  | cons w r ih => show (noL (wD w) && noLs (r.map wD)) = true; rw [ih]; rfl
theorem free_sj : ∀ y ∈ ([("job", NameKind.local), ("windows", NameKind.free), ("window_end", NameKind.globalImplicit)] : List (Str × NameKind)), y.2 = .free → List.lookup y.1 (defScope (top 14)).names = some .cell ∨ List.lookup y.1 (defScope (top 14)).names = some .free := by decide +kernel
theorem ok_served_jobs (Fc : Facts P w K mg base c) : Fk P w K mg base "served_jobs" 8 4 (SpL c 4 F_served_jobs) := by
  have ok_jobs_open := ok_jobs_open Fc
  have ok_window_end := ok_window_end Fc
  obtain ⟨f, fd, F, hm⟩ := Fc.fn "served_jobs" 14 (by decide)
  obtain ⟨Pt, cc, hT, TB, hcode⟩ := Fc.tab
  have hcode := hcode f fd F hm
  have hb := F.bindsN (ps := ["windows", "rest", "start", "end"]) fun _ _ _ _ _ _ us hl => match us, hl with | [_, _, _, _], _ => rfl
  refine ⟨f, fd, ["windows", "rest", "start", "end"], ?_, hm, F.kp, hb⟩
  obtain ⟨oc, od, dV, kV, doc, pm, an, cdv, ct, osl, rfl, lk, hcd, _, _⟩ := F.ex
  have hcdv : cdv = .ref cc := hcode
  refine fn_of (k := 7) lk hcd sc_served_jobs (fun vs H Q E h => ?_) fun A outer s Hb vs Q E hr h => ⟨tSeq (cS c τ_some) (tRet (Gp.tSortKey c.T ["job", "windows"] [0] (tVar 4) (cE c δ_key))), PSs.nox ?_, ?_⟩
  · obtain ⟨G, ds, P', h1, h2, h3, h4, _⟩ := h
    rw [h4.length, h3]; rfl
  · refine pss_cons (ds_lcOwn (i := 4) (own := [("job", 5)]) rfl nd_served_jobs rfl rfl (dil (de_call ok_jobs_open (hr.mono (by decide)) rfl (da_cons (dv 0) (da_cons (dv 2) (da_cons (dv 3) da_nil))))) (blkOk_by (by kernel_rfl)) (fun _ _ _ _ _ => dgn (vs := [5]) nd_served_jobs rfl (by first | exact Or.inl rfl | exact Or.inr rfl)) (fun _ _ _ _ _ => dts_one (dt_cmp rd_gt op_gt (de_ix (dv 1) (dv 5)) dint)) (fun _ _ _ _ _ => dv 5)) (pss_one (ps_ret ?_))
    refine Gp.pe_sortKey (k := 1) (T := c.T) (fr := ["windows"]) (pr := "job") rfl (Fc.free "sorted" (by decide)) (by decide +kernel) (pa_cons (pv 4) pa_nil) TB hcdv ?_ ?_ (hr.mono (by decide)) (NdefX.nscope_by (by kernel_rfl)) rfl ?_ ?_ rfl (fun _ _ _ _ _ _ => rfl) fun A outer s H F f hF hr2 => ?_
    · rw [hT]; exact List.mem_singleton.mpr rfl
    · intro p hp _; rw [hT] at hp; rw [List.mem_singleton.mp hp]; rfl
    · exact free_sj
    · decide +kernel
    · obtain ⟨nm, q, pr, bd, sc, cl, c'⟩ := F
      obtain rfl : sc = _ := hF
      exact de_tup (da_cons (de_call ok_window_end (hr2.mono (by decide)) rfl (da_cons (de_ix (dv 1) (dv 0)) da_nil)) (da_cons (dv 0) da_nil))
  · obtain ⟨G, ds, P', ok, hW, hl, q, ⟨ws, rest, s0, t0, rfl, hrl, hwl, hP⟩, k⟩ := h
    refine ⟨G, _, ⟨fun γ' => γ' = [some (.d (.tup (ws.map wD))), some (.d (.lst (rest.map .int))), some (.d (.int s0)), some (.d (.int t0)), some (.l ((((opens ws s0 t0).filter fun j => decide (ra rest j > 0))).map jD)), none], fun _ => False⟩, SO.start ok q, some_is ws rest s0 t0 hwl hrl _ rfl, fun G' γ' σ' H' L S' e => ?_, fun _ _ _ _ _ z _ => z.elim⟩
    subst e
    obtain ⟨p, xs, hp, hw, hx, qx⟩ := own_get S' (i := 4) rfl
    have hxs : xs = ((opens ws s0 t0).filter fun j => decide (ra rest j > 0)).map fun (n : Nat) => V.int n := by
      have q2 : Ims c G' H' ((((opens ws s0 t0).filter fun j => decide (ra rest j > 0)).map fun (n : Nat) => (n : Int)).map D.int) xs := by
        rw [List.map_map]
        exact qx
      rw [q2.ints, List.map_map]
      rfl
    subst hxs
    obtain ⟨wv, hwv, hwi⟩ := S'.sl 0 _ rfl
    have exH : Ex c G Hb H' := ⟨⟨fun a o e n m => L.ch.keep a o e n fun z => z.elim (fun z => absurd z (hW a)) m, L.ch.dom, L.ch.tabs⟩, fun z => by
      have := L.hok z
      intro hh l q
      exact this hh l (L.hp.trans q)⟩
    have len : ((opens ws s0 t0).filter fun j => decide (ra rest j > 0)).length ≤ 1000 := by
      refine Nat.le_trans (List.length_filter_le _ _) ?_
      unfold opens
      exact Nat.le_trans (List.length_filter_le _ _) (by rw [List.length_range]; exact hwl)
    refine ⟨_, hp, p, _, fun j => (at_ ws j).fin, rfl, hx, len, S'.ok.tabs, fun n hn H2 e2 t2 => ?_, fun H2 p2 e2 t2 hp2 => ?_⟩
    · have e2' : Ex c G' H' H2 := extN_ex e2 t2 S'.hok
      have hn' : n < ws.length := (mem_opens.mp (List.mem_filter.mp hn).1).1
      refine ⟨G'.dry, [some (.d (.int (n : Nat))), some (.d (.tup (ws.map wD)))], fun d => d = .tup [.int (at_ ws n).fin, .int (n : Nat)], ⟨rfl, fun i s e => ?_, fun i j s t a e1 e3 o1 o2 _ _ => ?_, (S'.ok.ex e2').dry⟩, ?_, fun d v H3 e3 ed im => ?_⟩
      · match i, e with
        | 0, e => cases e; exact ⟨_, rfl, .int⟩
        | 1, e =>
          cases e
          refine ⟨wv, ?_, Im.any _ _ (noL_w ws) (Im.le e2'.le S'.sub _ _ hwi)⟩
          show some (NdefX.slotAt σ' 0) = _
          rw [NdefX.slotAt_of hwv]
      · match i, e1 with
        | 0, e => cases e; exact o1.elim
        | 1, e => cases e; exact o1.elim
      · exact ⟨_, rfl, _, rfl, _, wD_at hn', rfl, window_end_is _ _ ⟨_, rfl, by simp, rfl⟩⟩
      · subst ed
        cases im with
        | tup e4 q4 =>
          obtain rfl := Ims.ints (ns := [(at_ ws n).fin, (n : Int)]) q4
          exact ⟨ex_extN e3, e3.ch.tabs t2, _, rfl, e4⟩
    · have e2' : Ex c G' H' H2 := extN_ex e2 t2 S'.hok
      have exA : Ex c G Hb H2 := exH.trans (extN_ex e2 t2 (exH.hok ok.hok))
      refine k _ p2 _ _ (exA.ch.nT_back (nT.of hp2)) (exA.trans (Ex.new hp2)) hP upd_same ?_
      have q3 : Ims c (G.with p2) (upd H2 p2 (.lst ((served ws rest s0 t0).map fun (n : Nat) => V.int n))) (((served ws rest s0 t0).map fun (n : Nat) => (n : Int)).map D.int) (((served ws rest s0 t0).map fun (n : Nat) => (n : Int)).map V.int) := Ims.ofInts
      rw [List.map_map, List.map_map] at q3
      exact q3
end
end DW
set_option Elab.async false
set_option linter.all false
set_option maxRecDepth 100000
set_option maxHeartbeats 1000000
set_option autoImplicit false
namespace DW
open PySem PySem.Spec PyProof.Rows L2 K62
section
variable {c : Cst} {P : Program} {w : World} {K : PySem.W.Frag} {mg : Str → Option Value} {base : Heap}
/-! is_name -/
def N_is_name : List Str := ["value", "sign"]
theorem nd_is_name : N_is_name.Nodup := by decide +kernel
def τ_is_name : SD := (sSeq (sIf (bOr (bNot (dTest (dIns "str" (dVar 0)))) (bOr (bNot (dTest (dChain oLe oLe (dC (.int 1)) (dCB oLen (aCons (dVar 0) aNil)) (dC (.int 6))))) (bInW (dVar 0)))) (sRet (dC (.bl false))) sNx)
  (sRet (dCB oAll (aCons (dLst (dLc (iS (dVar 0)) (gN 1) (fun _ P => P true) (dBin oIn (dVar 1) (dC (.str "abcdefghijklmnopqrstuvwxyz"))) [1])) aNil))))
def F_is_name : List D → (D → Prop) → Prop := fnD N_is_name τ_is_name
theorem sc_is_name : FnScope N_is_name ["value"] (defScope (top 23)) := ⟨rfl, rfl, rfl, by decide +kernel, rfl, by decide +kernel, by decide +kernel⟩
theorem ok_is_name (Fc : Facts P w K mg base c) : Fk P w K mg base "is_name" 1 1 (SpD c 1 F_is_name) := by
  obtain ⟨f, fd, F, hm⟩ := Fc.fn "is_name" 23 (by decide)
  refine fk_mk F hm sc_is_name rfl (fun _ _ _ _ _ _ us hl => match us, hl with | [_], _ => rfl) fun cdv A outer s H E hr => ?_
  exact (dss_cons (ds_if (dt_w (dw_or (dt_not (dt_val (de_ins (Ts := "str") (by decide) rfl (Fc.free "isinstance" (by decide)) rfl (Fc.free "str" (by decide)) (by decide +kernel) (dv 0)))) (dw_or (dt_not (dt_chain rd_le op_le rd_le op_le dint (de_blt rc_len call_len rfl (Fc.free "len" (by decide)) (da_cons (dv 0) da_nil)) (dgl_longest Fc rfl))) (dw_or1 (dt_inW Fc rfl (dv 0)))))) (dss_one (ds_ret dbl)) dss_nil)
    (dss_one (ds_ret (de_blt rc_all (cr_all rfl) rfl (Fc.free "all" (by decide)) (da_cons (de_ofL (dl_lc (own := [("sign", 1)]) rfl nd_is_name (dis (dv 0)) (blkOk_by (by kernel_rfl)) (fun _ _ _ _ _ => (dgn (vs := [1]) nd_is_name rfl (by first | exact Or.inl rfl | exact Or.inr rfl))) (fun _ _ _ _ _ => dts_nil) (fun _ _ _ _ _ => (de_cmp rd_in op_inD (dv 1) (dgl_letters Fc rfl))))) da_nil)))))
/-! is_unknown -/
def N_is_unknown : List Str := ["value"]
theorem nd_is_unknown : N_is_unknown.Nodup := by decide +kernel
def τ_is_unknown : SD := (sSeq (sIf (bOr (bNot (dTest (dIns "tuple" (dVar 0)))) (bOr (dTest (dBin oNe (dCB oLen (aCons (dVar 0) aNil)) (dC (.int 3)))) (bNot (dTest (dCall 1 F_is_name (aCons (dBin oIx (dVar 0) (dC (.int 0))) aNil)))))) (sRet (dC (.bl false))) sNx)
  (sRet (dAndV (dCall 1 F_is_integer (aCons (dBin oIx (dVar 0) (dC (.int 1))) aNil)) (dAndV (dCall 1 F_is_integer (aCons (dBin oIx (dVar 0) (dC (.int 2))) aNil)) (dBin oLe (dBin oIx (dVar 0) (dC (.int 1))) (dBin oIx (dVar 0) (dC (.int 2))))))))
def F_is_unknown : List D → (D → Prop) → Prop := fnD N_is_unknown τ_is_unknown
theorem sc_is_unknown : FnScope N_is_unknown ["value"] (defScope (top 50)) := ⟨rfl, rfl, rfl, by decide +kernel, rfl, by decide +kernel, by decide +kernel⟩
theorem ok_is_unknown (Fc : Facts P w K mg base c) : Fk P w K mg base "is_unknown" 2 1 (SpD c 1 F_is_unknown) := by
  have ok_is_integer := ok_is_integer Fc
  have ok_is_name := ok_is_name Fc
  obtain ⟨f, fd, F, hm⟩ := Fc.fn "is_unknown" 50 (by decide)
  refine fk_mk F hm sc_is_unknown rfl (fun _ _ _ _ _ _ us hl => match us, hl with | [_], _ => rfl) fun cdv A outer s H E hr => ?_
  exact (dss_cons (ds_if (dt_w (dw_or (dt_not (dt_val (de_ins (Ts := "tuple") (by decide) rfl (Fc.free "isinstance" (by decide)) rfl (Fc.free "tuple" (by decide)) (by decide +kernel) (dv 0)))) (dw_or (dt_cmp rd_ne (op_neD hr.units) (de_blt rc_len call_len rfl (Fc.free "len" (by decide)) (da_cons (dv 0) da_nil)) dint) (dw_or1 (dt_not (dt_val (de_call ok_is_name (hr.mono (by decide)) rfl (da_cons (de_ix (dv 0) dint) da_nil)))))))) (dss_one (ds_ret dbl)) dss_nil)
    (dss_one (ds_ret (de_and (de_call ok_is_integer (hr.mono (by decide)) rfl (da_cons (de_ix (dv 0) dint) da_nil)) (de_and (de_call ok_is_integer (hr.mono (by decide)) rfl (da_cons (de_ix (dv 0) dint) da_nil)) (de_one (de_cmp rd_le op_le (de_ix (dv 0) dint) (de_ix (dv 0) dint))))))))
/-! check_unknowns -/
def N_check_unknowns : List Str := ["value", "at", "item"]
theorem nd_check_unknowns : N_check_unknowns.Nodup := by decide +kernel
def τ_check_unknowns : SD := (sSeq (sIf (bOr (bNot (dTest (dIns "tuple" (dVar 0)))) (dTest (dBin oEq (dCB oLen (aCons (dVar 0) aNil)) (dC (.int 0))))) sNo sNx)
  (sFor (iEn (aCons (dVar 0) aNil)) (gTp 2 (gCn (gN 1) (gCn (gN 2) gNl))) (sIf (bOr (bNot (dTest (dCall 1 F_is_unknown (aCons (dVar 2) aNil)))) (bAnd (dTest (dBin oGt (dVar 1) (dC (.int 0)))) (bNot (dTest (dBin oLt (dBin oIx (dBin oIx (dVar 0) (dBin oSub (dVar 1) (dC (.int 1)))) (dC (.int 0))) (dBin oIx (dVar 2) (dC (.int 0)))))))) sNo sNx)))
def F_check_unknowns : List D → (D → Prop) → Prop := fnD N_check_unknowns τ_check_unknowns
theorem sc_check_unknowns : FnScope N_check_unknowns ["value"] (defScope (top 51)) := ⟨rfl, rfl, rfl, by decide +kernel, rfl, by decide +kernel, by decide +kernel⟩
theorem ok_check_unknowns (Fc : Facts P w K mg base c) : Fk P w K mg base "check_unknowns" 3 1 (SpD c 1 F_check_unknowns) := by
  have ok_is_unknown := ok_is_unknown Fc
  obtain ⟨f, fd, F, hm⟩ := Fc.fn "check_unknowns" 51 (by decide)
  refine fk_mk F hm sc_check_unknowns rfl (fun _ _ _ _ _ _ us hl => match us, hl with | [_], _ => rfl) fun cdv A outer s H E hr => ?_
  exact (dss_cons (ds_if (dt_w (dw_or (dt_not (dt_val (de_ins (Ts := "tuple") (by decide) rfl (Fc.free "isinstance" (by decide)) rfl (Fc.free "tuple" (by decide)) (by decide +kernel) (dv 0)))) (dw_or1 (dt_cmp rd_eq (op_eqD hr.units) (de_blt rc_len call_len rfl (Fc.free "len" (by decide)) (da_cons (dv 0) da_nil)) dint)))) (dss_one ds_never) dss_nil)
    (dss_one (ds_for .never rfl (die rfl (Fc.free "enumerate" (by decide)) (da_cons (dv 0) da_nil)) (dgt rfl (dgs_cons (dgn (vs := [1, 2]) nd_check_unknowns rfl (by first | exact Or.inl rfl | exact Or.inr rfl)) (dgs_cons (dgn (vs := [1, 2]) nd_check_unknowns rfl (by first | exact Or.inl rfl | exact Or.inr rfl)) dgs_nil))) (dss_one (ds_if (dt_w (dw_or (dt_not (dt_val (de_call ok_is_unknown (hr.mono (by decide)) rfl (da_cons (dv 2) da_nil)))) (dw_or1 (dt_w (dw_and (dt_cmp rd_gt op_gt (dv 1) dint) (dw_and1 (dt_not (dt_cmp rd_lt op_ltD (de_ix (de_ix (dv 0) (de_op rd_sub op_sub (dv 1) dint)) dint) (de_ix (dv 2) dint))))))))) (dss_one ds_never) dss_nil)))))
/-! check_task -/
def N_check_task : List Str := ["unknowns", "wishes", "goal", "at", "item"]
theorem nd_check_task : N_check_task.Nodup := by decide +kernel
def τ_check_task : SD := (sSeq (sDrop (dCall 1 F_check_unknowns (aCons (dVar 0) aNil)))
  (sSeq (sIf (bNot (dTest (dIns "tuple" (dVar 1)))) sNo sNx)
  (sSeq (sFor (iEn (aCons (dVar 1) aNil)) (gTp 2 (gCn (gN 3) (gCn (gN 4) gNl))) (sIf (bNot (dTest (dCall 2 F_is_wish (aCons (dVar 4) (aCons (dCB oLen (aCons (dVar 0) aNil)) aNil))))) sNo sNx))
  (sSeq (sIf (bOr (bNot (dTest (dIns "tuple" (dVar 2)))) (dTest (dBin oNe (dCB oLen (aCons (dVar 2) aNil)) (dCB oLen (aCons (dVar 0) aNil))))) sNo sNx)
  (sFor (iEn (aCons (dVar 2) aNil)) (gTp 2 (gCn (gN 3) (gCn (gN 4) gNl))) (sIf (bNot (dTest (dCall 1 F_is_integer (aCons (dVar 4) aNil)))) sNo sNx))))))
def F_check_task : List D → (D → Prop) → Prop := fnD N_check_task τ_check_task
theorem sc_check_task : FnScope N_check_task ["unknowns", "wishes", "goal"] (defScope (top 52)) := ⟨rfl, rfl, rfl, by decide +kernel, rfl, by decide +kernel, by decide +kernel⟩
theorem ok_check_task (Fc : Facts P w K mg base c) : Fk P w K mg base "check_task" 7 3 (SpD c 3 F_check_task) := by
  have ok_check_unknowns := ok_check_unknowns Fc
  have ok_is_integer := ok_is_integer Fc
  have ok_is_wish := ok_is_wish Fc
  obtain ⟨f, fd, F, hm⟩ := Fc.fn "check_task" 52 (by decide)
  refine fk_mk F hm sc_check_task rfl (fun _ _ _ _ _ _ us hl => match us, hl with | [_, _, _], _ => rfl) fun cdv A outer s H E hr => ?_
  exact (dss_cons (ds_drop (de_call ok_check_unknowns (hr.mono (by decide)) rfl (da_cons (dv 0) da_nil)))
    (dss_cons (ds_if (dt_not (dt_val (de_ins (Ts := "tuple") (by decide) rfl (Fc.free "isinstance" (by decide)) rfl (Fc.free "tuple" (by decide)) (by decide +kernel) (dv 1)))) (dss_one ds_never) dss_nil)
    (dss_cons (ds_for .never rfl (die rfl (Fc.free "enumerate" (by decide)) (da_cons (dv 1) da_nil)) (dgt rfl (dgs_cons (dgn (vs := [3, 4]) nd_check_task rfl (by first | exact Or.inl rfl | exact Or.inr rfl)) (dgs_cons (dgn (vs := [3, 4]) nd_check_task rfl (by first | exact Or.inl rfl | exact Or.inr rfl)) dgs_nil))) (dss_one (ds_if (dt_not (dt_val (de_call ok_is_wish (hr.mono (by decide)) rfl (da_cons (dv 4) (da_cons (de_blt rc_len call_len rfl (Fc.free "len" (by decide)) (da_cons (dv 0) da_nil)) da_nil))))) (dss_one ds_never) dss_nil)))
    (dss_cons (ds_if (dt_w (dw_or (dt_not (dt_val (de_ins (Ts := "tuple") (by decide) rfl (Fc.free "isinstance" (by decide)) rfl (Fc.free "tuple" (by decide)) (by decide +kernel) (dv 2)))) (dw_or1 (dt_cmp rd_ne (op_neD hr.units) (de_blt rc_len call_len rfl (Fc.free "len" (by decide)) (da_cons (dv 2) da_nil)) (de_blt rc_len call_len rfl (Fc.free "len" (by decide)) (da_cons (dv 0) da_nil)))))) (dss_one ds_never) dss_nil)
    (dss_one (ds_for .never rfl (die rfl (Fc.free "enumerate" (by decide)) (da_cons (dv 2) da_nil)) (dgt rfl (dgs_cons (dgn (vs := [3, 4]) nd_check_task rfl (by first | exact Or.inl rfl | exact Or.inr rfl)) (dgs_cons (dgn (vs := [3, 4]) nd_check_task rfl (by first | exact Or.inl rfl | exact Or.inr rfl)) dgs_nil))) (dss_one (ds_if (dt_not (dt_val (de_call ok_is_integer (hr.mono (by decide)) rfl (da_cons (dv 4) da_nil)))) (dss_one ds_never) dss_nil))))))))
/-! pieces_or_load -/
def N_pieces_or_load : List Str := ["task", "k", "box", "windows", "size", "rest", "pieces", "job", "edges", "window", "edge", "at", "start", "end", "room", "units"]
theorem nd_pieces_or_load : N_pieces_or_load.Nodup := by decide +kernel
def τ_pieces_or_load : SD := (sSeq (sAsg (dTup (aCons (dCall 3 F_job_windows (aCons (dVar 0) (aCons (dVar 1) (aCons (dVar 2) aNil)))) (aCons (dCall 1 F_size_of_wish (aCons (dBin oIx (dFld "wishes" (dVar 0)) (dVar 1)) aNil)) aNil))) (gTp 2 (gCn (gN 3) (gCn (gN 4) gNl))))
  (sSeq (sPar 5 6 (vL (dLc (iR (aCons (dCB oLen (aCons (dVar 3) aNil)) aNil)) (gN 7) (fun _ P => P true) (dCall 2 F_work_of (aCons (dVar 3) (aCons (dTup (aCons (dVar 7) aNil)) aNil))) [7])) (vL (aLst aNil)))
  (sSeq (sAsg (dLst (aSrt (nSc2 (iT (dVar 3)) (gN 9) (fun _ P => P true) (iT (dTup (aCons (dBin oIx (dVar 9) (dC (.int 0))) (aCons (dCall 1 F_window_end (aCons (dVar 9) aNil)) aNil)))) (gN 10) (fun _ P => P true) (dVar 10) [9, 10] [10]))) (gN 8))
  (sSeq (sFor (iR (aCons (dBin oSub (dCB oLen (aCons (dVar 8) aNil)) (dC (.int 1))) aNil)) (gN 11) (sSeq (sPar 12 13 (vD (dBin oIx (dVar 8) (dVar 11))) (vD (dBin oIx (dVar 8) (dBin oAdd (dVar 11) (dC (.int 1))))))
  (sSeq (sAsg (dBin oMul (dBin oSub (dVar 13) (dVar 12)) (dVar 4)) (gN 14))
  (sFor (aView 5 (aCall 4 F_served_jobs (aCons (dVar 3) (aCons (dVar 5) (aCons (dVar 12) (aCons (dVar 13) aNil)))))) (gN 7) (sSeq (sAsg (dView 5 (dCB oMin2 (aCons (dBin oIx (dVar 5) (dVar 7)) (aCons (dVar 14) aNil)))) (gN 15))
  (sIf (dTest (dBin oGt (dVar 15) (dC (.int 0)))) (sSeq (sApp 6 (dTup (aCons (dVar 7) (aCons (dVar 12) (aCons (dVar 13) (aCons (dVar 15) aNil))))))
  (sSetI2 5 14 (dView 5 (dTup (aCons (dBin oSub (dBin oIx (dVar 5) (dVar 7)) (dVar 15)) (aCons (dBin oSub (dVar 14) (dVar 15)) aNil)))) (dVar 7))) sNx))))))
  (sSeq (sIf (bView 5 (dTest (dCB oAny (aCons (dLst (dLc (iL (dVar 5)) (gN 15) (fun _ P => P true) (dBin oGt (dVar 15) (dC (.int 0))) [15])) aNil)))) (sRet (dTup (aCons (dC (.str "leaf")) (aCons (dCall 2 F_leaf_of_part (aCons (dVar 1) (aCons (dBin oIx (dCall 2 F_load_parts (aCons (dVar 3) (aCons (dVar 4) aNil))) (dC (.int 0))) aNil))) aNil)))) sNx)
  (sRet (dView 6 (dTup (aCons (dC (.str "pieces")) (aCons (dCB oTupOf (aCons (dLst (aSrtP (dVar 6))) aNil)) aNil))))))))))
def F_pieces_or_load : List D → (D → Prop) → Prop := fnD N_pieces_or_load τ_pieces_or_load
theorem sc_pieces_or_load : FnScope N_pieces_or_load ["task", "k", "box"] (defScope (top 16)) := ⟨rfl, rfl, rfl, by decide +kernel, rfl, by decide +kernel, by decide +kernel⟩
theorem ok2_pieces_or_load (Fc : Facts P w K mg base c) : Fk P w K mg base "pieces_or_load" 9 3 (SpD c 3 F_pieces_or_load) ∧ FkR P w K mg base "pieces_or_load" 9 3 ["box", "k", "task"] (SpD c 3 F_pieces_or_load) := by
  have ok_job_windows := ok_job_windows Fc
  have ok_leaf_of_part := ok_leaf_of_part Fc
  have ok_load_parts := ok_load_parts Fc
  have ok_served_jobs := ok_served_jobs Fc
  have ok_size_of_wish := ok_size_of_wish Fc
  have ok_window_end := ok_window_end Fc
  have ok_work_of := ok_work_of Fc
  obtain ⟨f, fd, F, hm⟩ := Fc.fn "pieces_or_load" 16 (by decide)
  refine fk2_mk (ks := ["box", "k", "task"]) F hm sc_pieces_or_load rfl (fun _ _ _ _ _ _ us hl => match us, hl with | [_, _, _], _ => rfl) (fun _ _ _ _ _ _ us hl => match us, hl with | [_, _, _], _ => rfl) fun cdv A outer s H E hr => ?_
  exact (dss_cons (ds_asg (de_tup (da_cons (de_call ok_job_windows (hr.mono (by decide)) rfl (da_cons (dv 0) (da_cons (dv 1) (da_cons (dv 2) da_nil)))) (da_cons (de_call ok_size_of_wish (hr.mono (by decide)) rfl (da_cons (de_ix (de_fld Fc.cls Fc.at2 (dv 0)) (dv 1)) da_nil)) da_nil))) (dgt rfl (dgs_cons (dgn (vs := [3, 4]) nd_pieces_or_load rfl (by first | exact Or.inl rfl | exact Or.inr rfl)) (dgs_cons (dgn (vs := [3, 4]) nd_pieces_or_load rfl (by first | exact Or.inl rfl | exact Or.inr rfl)) dgs_nil))))
    (dss_cons (ds_par (ps_par (i := 5) (j := 6) rfl nd_pieces_or_load rfl rfl (by decide) rfl rfl (pa_cons (dl_lc (own := [("job", 7)]) rfl nd_pieces_or_load (dir rfl (Fc.free "range" (by decide)) (da_cons (de_blt rc_len call_len rfl (Fc.free "len" (by decide)) (da_cons (dv 3) da_nil)) da_nil)) (blkOk_by (by kernel_rfl)) (fun _ _ _ _ _ => (dgn (vs := [7]) nd_pieces_or_load rfl (by first | exact Or.inl rfl | exact Or.inr rfl))) (fun _ _ _ _ _ => dts_nil) (fun _ _ _ _ _ => (de_call ok_work_of (hr.mono (by decide)) rfl (da_cons (dv 3) (da_cons (de_tup (da_cons (dv 7) da_nil)) da_nil))))) (pa_cons (dl_lst da_nil) pa_nil)) rfl) (by decide) vs_l vs_l)
    (dss_cons (ds_set (i := 8) nd_pieces_or_load rfl (by first | exact Or.inl rfl | exact Or.inr rfl) (de_ofL (dl_sort rfl rfl (Fc.free "sorted" (by decide)) (dst2 (own := [("window", 9), ("edge", 10)]) (vs1 := [10]) rfl nd_pieces_or_load (dit (dv 3)) (blkOk_by (by kernel_rfl)) (by decide) (fun _ _ _ _ _ => (dgn (vs := [9, 10]) nd_pieces_or_load rfl (by first | exact Or.inl rfl | exact Or.inr rfl))) (fun _ _ _ _ _ => dts_nil) (fun _ _ _ _ _ => (dit (de_tup (da_cons (de_ix (dv 9) dint) (da_cons (de_call ok_window_end (hr.mono (by decide)) rfl (da_cons (dv 9) da_nil)) da_nil))))) (fun _ _ _ _ _ => (dgn (vs := [10]) nd_pieces_or_load rfl (by first | exact Or.inl rfl | exact Or.inr rfl))) (fun _ _ _ _ _ => dts_nil) (fun _ _ _ _ _ => (dv 10))))))
    (dss_cons (ds_for .never rfl (dir rfl (Fc.free "range" (by decide)) (da_cons (de_op rd_sub op_sub (de_blt rc_len call_len rfl (Fc.free "len" (by decide)) (da_cons (dv 8) da_nil)) dint) da_nil)) (dgn (vs := [11]) nd_pieces_or_load rfl (by first | exact Or.inl rfl | exact Or.inr rfl)) (dss_cons (ds_par (ps_par (i := 12) (j := 13) rfl nd_pieces_or_load rfl rfl (by decide) rfl rfl (pa_cons (de_ix (dv 8) (dv 11)) (pa_cons (de_ix (dv 8) (de_op rd_add op_addD (dv 11) dint)) pa_nil)) rfl) (by decide) vs_d vs_d)
    (dss_cons (ds_set (i := 14) nd_pieces_or_load rfl (by first | exact Or.inl rfl | exact Or.inr rfl) (de_op rd_mul op_mulD (de_op rd_sub op_sub (dv 13) (dv 12)) (dv 4)))
    (dss_one (ds_for .never rfl (dil_new (dl_view 5 (dl_call ok_served_jobs (hr.mono (by decide)) rfl (da_cons (dv 3) (da_cons (dv 5) (da_cons (dv 12) (da_cons (dv 13) da_nil))))))) (dgn (vs := [7]) nd_pieces_or_load rfl (by first | exact Or.inl rfl | exact Or.inr rfl)) (dss_cons (ds_set (i := 15) nd_pieces_or_load rfl (by first | exact Or.inl rfl | exact Or.inr rfl) (de_view 5 (de_blt rc_min2 (call_min2 rfl) rfl (Fc.free "min" (by decide)) (da_cons (de_ix (dv 5) (dv 7)) (da_cons (dv 14) da_nil)))))
    (dss_one (ds_if (dt_cmp rd_gt op_gt (dv 15) dint) (dss_cons (ds_app (i := 6) (pe_bm PySem.F.plainAttrs_list PySem.F.slot_list_append PySem.F.type_list_append mt_append (pv 6) (pa_cons (de_tup (da_cons (dv 7) (da_cons (dv 12) (da_cons (dv 13) (da_cons (dv 15) da_nil))))) pa_nil)))
    (dss_one (ds_setI2 (r := 5) (m := 14) (de_view 5 (de_tup (da_cons (de_op rd_sub op_sub (de_ix (dv 5) (dv 7)) (dv 15)) (da_cons (de_op rd_sub op_sub (dv 14) (dv 15)) da_nil)))) (pg_tup rfl (pgs_cons (pg_sub (pv 5) (dv 7) set_list) (pgs_cons (pg_name nd_pieces_or_load rfl (by first | exact Or.inl rfl | exact Or.inr rfl)) pgs_nil)))))) dss_nil))))))))
    (dss_cons (ds_if (dt_view 5 (dt_val (de_blt rc_any (cr_any rfl) rfl (Fc.free "any" (by decide)) (da_cons (de_ofL (dl_lc (own := [("units", 15)]) rfl nd_pieces_or_load (dil (dv 5)) (blkOk_by (by kernel_rfl)) (fun _ _ _ _ _ => (dgn (vs := [15]) nd_pieces_or_load rfl (by first | exact Or.inl rfl | exact Or.inr rfl))) (fun _ _ _ _ _ => dts_nil) (fun _ _ _ _ _ => (de_cmp rd_gt op_gt (dv 15) dint)))) da_nil)))) (dss_one (ds_ret (de_tup (da_cons dstr (da_cons (de_call ok_leaf_of_part (hr.mono (by decide)) rfl (da_cons (dv 1) (da_cons (de_ix (de_call ok_load_parts (hr.mono (by decide)) rfl (da_cons (dv 3) (da_cons (dv 4) da_nil))) dint) da_nil))) da_nil))))) dss_nil)
    (dss_one (ds_ret (de_view 6 (de_tup (da_cons dstr (da_cons (de_bty rc_tup call_tuple_of rfl (Fc.free "tuple" (by decide)) (da_cons (de_ofL (dl_sortP hr.units rfl (Fc.free "sorted" (by decide)) (dv 6))) da_nil)) da_nil)))))))))))
theorem ok_pieces_or_load (Fc : Facts P w K mg base c) : Fk P w K mg base "pieces_or_load" 9 3 (SpD c 3 F_pieces_or_load) := (ok2_pieces_or_load Fc).1
theorem okr_pieces_or_load (Fc : Facts P w K mg base c) : FkR P w K mg base "pieces_or_load" 9 3 ["box", "k", "task"] (SpD c 3 F_pieces_or_load) := (ok2_pieces_or_load Fc).2
end
end DW
set_option Elab.async false
set_option linter.all false
set_option maxRecDepth 100000
set_option maxHeartbeats 1000000
set_option autoImplicit false
namespace DW
open PySem PySem.Spec PyProof.Rows L2 K62
section
variable {c : Cst} {P : Program} {w : World} {K : PySem.W.Frag} {mg : Str → Option Value} {base : Heap}
/-! _law_pick -/
def N__law_pick : List Str := ["_law_heap_here", "_law_some"]
theorem nd__law_pick : N__law_pick.Nodup := by decide +kernel
def τ__law_pick : SD := (sRet (dBin oIx (dVar 1) (dCall 2 F__law_draw (aCons (dVar 0) (aCons (dCB oLen (aCons (dVar 1) aNil)) aNil)))))
def F__law_pick : List D → (D → Prop) → Prop := fnD N__law_pick τ__law_pick
theorem sc__law_pick : FnScope N__law_pick ["_law_heap_here", "_law_some"] (defScope (top 92)) := ⟨rfl, rfl, rfl, by decide +kernel, rfl, by decide +kernel, by decide +kernel⟩
theorem ok__law_pick (Fc : Facts P w K mg base c) : Fk P w K mg base "_law_pick" 2 2 (SpD c 2 F__law_pick) := by
  have ok__law_draw := ok__law_draw Fc
  obtain ⟨f, fd, F, hm⟩ := Fc.fn "_law_pick" 92 (by decide)
  refine fk_mk F hm sc__law_pick rfl (fun _ _ _ _ _ _ us hl => match us, hl with | [_, _], _ => rfl) fun cdv A outer s H E hr => ?_
  exact (dss_one (ds_ret (de_ix (dv 1) (de_call ok__law_draw (hr.mono (by decide)) rfl (da_cons (dv 0) (da_cons (de_blt rc_len call_len rfl (Fc.free "len" (by decide)) (da_cons (dv 1) da_nil)) da_nil))))))
/-! _law_windows -/
def N__law_windows : List Str := ["_law_wish", "_law_box", "_law_place", "_law_length", "_law_need"]
theorem nd__law_windows : N__law_windows.Nodup := by decide +kernel
def τ__law_windows : SD := (sSeq (sIf (dTest (dBin oEq (dBin oIx (dVar 0) (dC (.int 0))) (dC (.str "bench")))) (sRet (dTup (aCons (dLst (dLc (iT (dBin oIx (dVar 0) (dC (.int 1)))) (gTp 2 (gCn (gN 2) (gCn (gN 3) gNl))) (fun _ P => P true) (dBin oAdd (dBin oIx (dVar 1) (dVar 2)) (dTup (aCons (dVar 3) (aCons (dC (.int 1)) aNil)))) [2, 3])) (aCons (dC (.int 1)) aNil)))) sNx)
  (sRet (dTup (aCons (dLst (dLc (iT (dBin oIx (dVar 0) (dC (.int 1)))) (gTp 3 (gCn (gN 2) (gCn (gN 3) (gCn (gN 4) gNl)))) (fun _ P => P true) (dBin oAdd (dBin oIx (dVar 1) (dVar 2)) (dTup (aCons (dVar 3) (aCons (dVar 4) aNil)))) [2, 3, 4])) (aCons (dBin oIx (dVar 0) (dC (.int 2))) aNil)))))
def F__law_windows : List D → (D → Prop) → Prop := fnD N__law_windows τ__law_windows
theorem sc__law_windows : FnScope N__law_windows ["_law_wish", "_law_box"] (defScope (top 94)) := ⟨rfl, rfl, rfl, by decide +kernel, rfl, by decide +kernel, by decide +kernel⟩
theorem ok__law_windows (Fc : Facts P w K mg base c) : Fk P w K mg base "_law_windows" 1 2 (SpD c 2 F__law_windows) := by
  obtain ⟨f, fd, F, hm⟩ := Fc.fn "_law_windows" 94 (by decide)
  refine fk_mk F hm sc__law_windows rfl (fun _ _ _ _ _ _ us hl => match us, hl with | [_, _], _ => rfl) fun cdv A outer s H E hr => ?_
  exact (dss_cons (ds_if (dt_cmp rd_eq (op_eqD hr.units) (de_ix (dv 0) dint) dstr) (dss_one (ds_ret (de_tup (da_cons (de_ofL (dl_lc (own := [("_law_place", 2), ("_law_length", 3)]) rfl nd__law_windows (dit (de_ix (dv 0) dint)) (blkOk_by (by kernel_rfl)) (fun _ _ _ _ _ => (dgt rfl (dgs_cons (dgn (vs := [2, 3]) nd__law_windows rfl (by first | exact Or.inl rfl | exact Or.inr rfl)) (dgs_cons (dgn (vs := [2, 3]) nd__law_windows rfl (by first | exact Or.inl rfl | exact Or.inr rfl)) dgs_nil)))) (fun _ _ _ _ _ => dts_nil) (fun _ _ _ _ _ => (de_op rd_add op_addD (de_ix (dv 1) (dv 2)) (de_tup (da_cons (dv 3) (da_cons dint da_nil))))))) (da_cons dint da_nil))))) dss_nil)
    (dss_one (ds_ret (de_tup (da_cons (de_ofL (dl_lc (own := [("_law_place", 2), ("_law_length", 3), ("_law_need", 4)]) rfl nd__law_windows (dit (de_ix (dv 0) dint)) (blkOk_by (by kernel_rfl)) (fun _ _ _ _ _ => (dgt rfl (dgs_cons (dgn (vs := [2, 3, 4]) nd__law_windows rfl (by first | exact Or.inl rfl | exact Or.inr rfl)) (dgs_cons (dgn (vs := [2, 3, 4]) nd__law_windows rfl (by first | exact Or.inl rfl | exact Or.inr rfl)) (dgs_cons (dgn (vs := [2, 3, 4]) nd__law_windows rfl (by first | exact Or.inl rfl | exact Or.inr rfl)) dgs_nil))))) (fun _ _ _ _ _ => dts_nil) (fun _ _ _ _ _ => (de_op rd_add op_addD (de_ix (dv 1) (dv 2)) (de_tup (da_cons (dv 3) (da_cons (dv 4) da_nil))))))) (da_cons (de_ix (dv 0) dint) da_nil))))))
/-! _law_too_much -/
def N__law_too_much : List Str := ["_law_windows_here", "_law_size", "_law_first", "_law_last", "_law_a", "_law_b", "_law_inside", "_law_job"]
theorem nd__law_too_much : N__law_too_much.Nodup := by decide +kernel
def τ__law_too_much : SD := (sSeq (sFor (iL (dVar 0)) (gN 2) (sFor (iL (dVar 0)) (gN 3) (sSeq (sAsg (dTup (aCons (dBin oIx (dVar 2) (dC (.int 0))) (aCons (dBin oAdd (dBin oIx (dVar 3) (dC (.int 1))) (dBin oIx (dVar 3) (dC (.int 2)))) aNil))) (gTp 2 (gCn (gN 4) (gCn (gN 5) gNl))))
  (sSeq (sLc 6 (dLc (iL (dVar 0)) (gN 7) (bAnd (dTest (dBin oLe (dVar 4) (dBin oIx (dVar 7) (dC (.int 0))))) (dTest (dBin oLe (dBin oAdd (dBin oIx (dVar 7) (dC (.int 1))) (dBin oIx (dVar 7) (dC (.int 2)))) (dVar 5)))) (dVar 7) [7]))
  (sIf (bAnd (dTest (dBin oLe (dVar 4) (dVar 5))) (dTest (dBin oGt (dCB oSum (aCons (dLst (dLc (iL (dVar 6)) (gN 7) (fun _ P => P true) (dBin oMul (dBin oIx (dVar 7) (dC (.int 2))) (dBin oIx (dVar 7) (dC (.int 3)))) [7])) aNil)) (dBin oMul (dBin oSub (dVar 5) (dVar 4)) (dVar 1))))) (sRet (dC (.bl true))) sNx)))))
  (sRet (dC (.bl false))))
def F__law_too_much : List D → (D → Prop) → Prop := fnD N__law_too_much τ__law_too_much
theorem sc__law_too_much : FnScope N__law_too_much ["_law_windows_here", "_law_size"] (defScope (top 96)) := ⟨rfl, rfl, rfl, by decide +kernel, rfl, by decide +kernel, by decide +kernel⟩
theorem ok__law_too_much (Fc : Facts P w K mg base c) : Fk P w K mg base "_law_too_much" 1 2 (SpD c 2 F__law_too_much) := by
  obtain ⟨f, fd, F, hm⟩ := Fc.fn "_law_too_much" 96 (by decide)
  refine fk_mk F hm sc__law_too_much rfl (fun _ _ _ _ _ _ us hl => match us, hl with | [_, _], _ => rfl) fun cdv A outer s H E hr => ?_
  exact (dss_cons (ds_for .never rfl (dil (dv 0)) (dgn (vs := [2]) nd__law_too_much rfl (by first | exact Or.inl rfl | exact Or.inr rfl)) (dss_one (ds_for .never rfl (dil (dv 0)) (dgn (vs := [3]) nd__law_too_much rfl (by first | exact Or.inl rfl | exact Or.inr rfl)) (dss_cons (ds_asg (de_tup (da_cons (de_ix (dv 2) dint) (da_cons (de_op rd_add op_addD (de_ix (dv 3) dint) (de_ix (dv 3) dint)) da_nil))) (dgt rfl (dgs_cons (dgn (vs := [4, 5]) nd__law_too_much rfl (by first | exact Or.inl rfl | exact Or.inr rfl)) (dgs_cons (dgn (vs := [4, 5]) nd__law_too_much rfl (by first | exact Or.inl rfl | exact Or.inr rfl)) dgs_nil))))
    (dss_cons (ds_lc (i := 6) (own := [("_law_job", 7)]) rfl nd__law_too_much rfl rfl (dil (dv 0)) (blkOk_by (by kernel_rfl)) (fun _ _ _ _ _ => (dgn (vs := [7]) nd__law_too_much rfl (by first | exact Or.inl rfl | exact Or.inr rfl))) (fun _ _ _ _ _ => (dts_one (dt_w (dw_and (dt_cmp rd_le op_le (dv 4) (de_ix (dv 7) dint)) (dw_and1 (dt_cmp rd_le op_le (de_op rd_add op_addD (de_ix (dv 7) dint) (de_ix (dv 7) dint)) (dv 5))))))) (fun _ _ _ _ _ => (dv 7)))
    (dss_one (ds_if (dt_w (dw_and (dt_cmp rd_le op_le (dv 4) (dv 5)) (dw_and1 (dt_cmp rd_gt op_gt (de_blt rc_sum (cr_sum rfl) rfl (Fc.free "sum" (by decide)) (da_cons (de_ofL (dl_lc (own := [("_law_job", 7)]) rfl nd__law_too_much (dil (dv 6)) (blkOk_by (by kernel_rfl)) (fun _ _ _ _ _ => (dgn (vs := [7]) nd__law_too_much rfl (by first | exact Or.inl rfl | exact Or.inr rfl))) (fun _ _ _ _ _ => dts_nil) (fun _ _ _ _ _ => (de_op rd_mul op_mulD (de_ix (dv 7) dint) (de_ix (dv 7) dint))))) da_nil)) (de_op rd_mul op_mulD (de_op rd_sub op_sub (dv 5) (dv 4)) (dv 1)))))) (dss_one (ds_ret dbl)) dss_nil)))))))
    (dss_one (ds_ret dbl)))
/-! _law_task -/
def N__law_task : List Str := ["_law_heap_here", "_law_kind", "_law_many", "_law_size", "_law_spare", "_law_letters", "_law_unknowns", "_law_box", "_law_at", "_law_low", "_law_high", "_law_first", "_law_gone", "_law_places", "_law_jobs", "_law_place", "_law_length", "_law_wish", "_law_alike", "_law_k", "_law_other", "_law_wishes"]
theorem nd__law_task : N__law_task.Nodup := by decide +kernel
def τ__law_task : SD := (sSeq (sAsg (dCall 2 F__law_pick (aCons (dVar 0) (aCons (dLst (aLst (aCons (dC (.int 3)) (aCons (dC (.int 2)) (aCons (dC (.int 4)) (aCons (dC (.int 3)) (aCons (dC (.int 5)) (aCons (dC (.int 3)) aNil)))))))) aNil))) (gN 2))
  (sSeq (sPar 3 4 (vD (dIf (dTest (dBin oEq (dVar 1) (dC (.str "bench")))) (dC (.int 1)) (dBin oAdd (dC (.int 1)) (dCall 2 F__law_draw (aCons (dVar 0) (aCons (dC (.int 4)) aNil)))))) (vD (dCall 2 F__law_draw (aCons (dVar 0) (aCons (dC (.int 2)) aNil)))))
  (sSeq (sPar3 5 6 7 (vD (dC (.str "bdfhjlnprtvxz"))) (vL (aLst aNil)) (vL (aLst aNil)))
  (sSeq (sFor (iR (aCons (dBin oAdd (dVar 2) (dVar 4)) aNil)) (gN 8) (sSeq (sAsg (dBin oSub (dCall 2 F__law_draw (aCons (dVar 0) (aCons (dC (.int 9)) aNil))) (dC (.int 3))) (gN 9))
  (sSeq (sAsg (dBin oAdd (dVar 9) (dCall 2 F__law_pick (aCons (dVar 0) (aCons (dLst (aLst (aCons (dC (.int 4)) (aCons (dC (.int 0)) (aCons (dC (.int 2)) (aCons (dC (.int 6)) (aCons (dC (.int 8)) (aCons (dC (.int 3)) aNil)))))))) aNil)))) (gN 10))
  (sSeq (sApp 6 (dTup (aCons (dBin oAdd (dBin oIx (dVar 5) (dVar 8)) (dBin oMul (dC (.str "a")) (dCall 2 F__law_draw (aCons (dVar 0) (aCons (dC (.int 3)) aNil))))) (aCons (dVar 9) (aCons (dVar 10) aNil)))))
  (sSeq (sAsg (dBin oAdd (dVar 9) (dCall 2 F__law_draw (aCons (dVar 0) (aCons (dCB oMin2 (aCons (dC (.int 3)) (aCons (dBin oAdd (dBin oSub (dVar 10) (dVar 9)) (dC (.int 1))) aNil))) aNil)))) (gN 11))
  (sApp 7 (dTup (aCons (dVar 11) (aCons (dBin oSub (dVar 10) (dCall 2 F__law_draw (aCons (dVar 0) (aCons (dCB oMin2 (aCons (dC (.int 3)) (aCons (dBin oAdd (dBin oSub (dVar 10) (dVar 11)) (dC (.int 1))) aNil))) aNil)))) aNil)))))))))
  (sSeq (sAsg (dIf (dTest (dBin oGt (dVar 4) (dC (.int 0)))) (dCall 2 F__law_draw (aCons (dVar 0) (aCons (dBin oAdd (dVar 2) (dVar 4)) aNil))) (dBin oSub (dC (.int 0)) (dC (.int 1)))) (gN 12))
  (sSeq (sPar 13 14 (vD (dLst (dLc (iR (aCons (dBin oAdd (dVar 2) (dVar 4)) aNil)) (gN 8) (dTest (dBin oNe (dVar 8) (dVar 12))) (dVar 8) [8]))) (vL (aLst aNil)))
  (sSeq (sFor (iL (dVar 13)) (gN 15) (sSeq (sAsg (dBin oAdd (dC (.int 1)) (dCall 2 F__law_pick (aCons (dVar 0) (aCons (dLst (aLst (aCons (dC (.int 1)) (aCons (dC (.int 0)) (aCons (dC (.int 2)) (aCons (dC (.int 3)) (aCons (dC (.int 1)) (aCons (dC (.int 4)) aNil)))))))) aNil)))) (gN 16))
  (sApp 14 (dIf (dTest (dBin oEq (dVar 1) (dC (.str "bench")))) (dTup (aCons (dVar 15) (aCons (dVar 16) aNil))) (dTup (aCons (dVar 15) (aCons (dVar 16) (aCons (dBin oAdd (dC (.int 1)) (dCall 2 F__law_draw (aCons (dVar 0) (aCons (dVar 3) aNil)))) aNil))))))))
  (sSeq (sAsg (dIf (dTest (dBin oEq (dVar 1) (dC (.str "bench")))) (dTup (aCons (dVar 1) (aCons (dView 14 (dCB oTupOf (aCons (dVar 14) aNil))) aNil))) (dTup (aCons (dVar 1) (aCons (dView 14 (dCB oTupOf (aCons (dVar 14) aNil))) (aCons (dVar 3) aNil))))) (gN 17))
  (sSeq (sAsg (dIf (dTest (dBin oEq (dVar 1) (dC (.str "bench")))) (dTup (aCons (dC (.str "bench")) (aCons (dTup (aCons (dTup (aCons (dC (.int 0)) (aCons (dC (.int 4)) aNil))) (aCons (dTup (aCons (dC (.int 1)) (aCons (dC (.int 2)) aNil))) aNil))) aNil))) (dTup (aCons (dC (.str "room")) (aCons (dTup (aCons (dTup (aCons (dC (.int 0)) (aCons (dC (.int 1)) (aCons (dC (.int 2)) aNil)))) (aCons (dTup (aCons (dC (.int 1)) (aCons (dC (.int 4)) (aCons (dC (.int 1)) aNil)))) aNil))) (aCons (dC (.int 2)) aNil))))) (gN 18))
  (sSeq (sPar 19 20 (vD (dCall 2 F__law_draw (aCons (dVar 0) (aCons (dC (.int 2)) aNil)))) (vD (dCall 2 F__law_pick (aCons (dVar 0) (aCons (dLst (aLst (aCons (dTup (aCons (dC (.str "unlike")) (aCons (dTup (aCons (dC (.int 0)) (aCons (dC (.int 1)) aNil))) aNil))) (aCons (dVar 18) aNil)))) aNil)))))
  (sSeq (sAsg (dBin oIx (dLst (aLst (aCons (dTup (aCons (dVar 17) (aCons (dVar 20) aNil))) (aCons (dTup (aCons (dVar 20) (aCons (dVar 17) aNil))) aNil)))) (dVar 19)) (gN 21))
  (sRet (dTup (aCons (dMake F_check_task (aCons (dView 6 (dCB oTupOf (aCons (dVar 6) aNil))) (aCons (dVar 21) (aCons (dBin oMul (dTup (aCons (dC (.int 0)) aNil)) (dView 6 (dCB oLen (aCons (dVar 6) aNil)))) aNil)))) (aCons (dVar 19) (aCons (dView 7 (dCB oTupOf (aCons (dVar 7) aNil))) aNil))))))))))))))))
def F__law_task : List D → (D → Prop) → Prop := fnD N__law_task τ__law_task
theorem sc__law_task : FnScope N__law_task ["_law_heap_here", "_law_kind"] (defScope (top 93)) := ⟨rfl, rfl, rfl, by decide +kernel, rfl, by decide +kernel, by decide +kernel⟩
theorem ok__law_task (Fc : Facts P w K mg base c) : Fk P w K mg base "_law_task" 10 2 (SpD c 2 F__law_task) := by
  have ok__law_draw := ok__law_draw Fc
  have ok__law_pick := ok__law_pick Fc
  have ok_check_task := ok_check_task Fc
  obtain ⟨f, fd, F, hm⟩ := Fc.fn "_law_task" 93 (by decide)
  refine fk_mk F hm sc__law_task rfl (fun _ _ _ _ _ _ us hl => match us, hl with | [_, _], _ => rfl) fun cdv A outer s H E hr => ?_
  exact (dss_cons (ds_set (i := 2) nd__law_task rfl (by first | exact Or.inl rfl | exact Or.inr rfl) (de_call ok__law_pick (hr.mono (by decide)) rfl (da_cons (dv 0) (da_cons (de_ofL (dl_lst (da_cons dint (da_cons dint (da_cons dint (da_cons dint (da_cons dint (da_cons dint da_nil)))))))) da_nil))))
    (dss_cons (ds_par (ps_par (i := 3) (j := 4) rfl nd__law_task rfl rfl (by decide) rfl rfl (pa_cons (de_if (dt_cmp rd_eq (op_eqD hr.units) (dv 1) dstr) dint (de_op rd_add op_addD dint (de_call ok__law_draw (hr.mono (by decide)) rfl (da_cons (dv 0) (da_cons dint da_nil))))) (pa_cons (de_call ok__law_draw (hr.mono (by decide)) rfl (da_cons (dv 0) (da_cons dint da_nil))) pa_nil)) rfl) (by decide) vs_d vs_d)
    (dss_cons (ds_par3 (ps_par3 (i := 5) (j := 6) (l := 7) rfl nd__law_task rfl rfl rfl (by decide) (by decide) (by decide) rfl rfl rfl (pa_cons dstr (pa_cons (dl_lst da_nil) (pa_cons (dl_lst da_nil) pa_nil))) rfl) (by decide) (by decide) (by decide) vs_d vs_l vs_l)
    (dss_cons (ds_for .never rfl (dir rfl (Fc.free "range" (by decide)) (da_cons (de_op rd_add op_addD (dv 2) (dv 4)) da_nil)) (dgn (vs := [8]) nd__law_task rfl (by first | exact Or.inl rfl | exact Or.inr rfl)) (dss_cons (ds_set (i := 9) nd__law_task rfl (by first | exact Or.inl rfl | exact Or.inr rfl) (de_op rd_sub op_sub (de_call ok__law_draw (hr.mono (by decide)) rfl (da_cons (dv 0) (da_cons dint da_nil))) dint))
    (dss_cons (ds_set (i := 10) nd__law_task rfl (by first | exact Or.inl rfl | exact Or.inr rfl) (de_op rd_add op_addD (dv 9) (de_call ok__law_pick (hr.mono (by decide)) rfl (da_cons (dv 0) (da_cons (de_ofL (dl_lst (da_cons dint (da_cons dint (da_cons dint (da_cons dint (da_cons dint (da_cons dint da_nil)))))))) da_nil)))))
    (dss_cons (ds_app (i := 6) (pe_bm PySem.F.plainAttrs_list PySem.F.slot_list_append PySem.F.type_list_append mt_append (pv 6) (pa_cons (de_tup (da_cons (de_op rd_add op_addD (de_ix (dv 5) (dv 8)) (de_op rd_mul op_mulD dstr (de_call ok__law_draw (hr.mono (by decide)) rfl (da_cons (dv 0) (da_cons dint da_nil))))) (da_cons (dv 9) (da_cons (dv 10) da_nil)))) pa_nil)))
    (dss_cons (ds_set (i := 11) nd__law_task rfl (by first | exact Or.inl rfl | exact Or.inr rfl) (de_op rd_add op_addD (dv 9) (de_call ok__law_draw (hr.mono (by decide)) rfl (da_cons (dv 0) (da_cons (de_blt rc_min2 (call_min2 rfl) rfl (Fc.free "min" (by decide)) (da_cons dint (da_cons (de_op rd_add op_addD (de_op rd_sub op_sub (dv 10) (dv 9)) dint) da_nil))) da_nil)))))
    (dss_one (ds_app (i := 7) (pe_bm PySem.F.plainAttrs_list PySem.F.slot_list_append PySem.F.type_list_append mt_append (pv 7) (pa_cons (de_tup (da_cons (dv 11) (da_cons (de_op rd_sub op_sub (dv 10) (de_call ok__law_draw (hr.mono (by decide)) rfl (da_cons (dv 0) (da_cons (de_blt rc_min2 (call_min2 rfl) rfl (Fc.free "min" (by decide)) (da_cons dint (da_cons (de_op rd_add op_addD (de_op rd_sub op_sub (dv 10) (dv 11)) dint) da_nil))) da_nil)))) da_nil))) pa_nil)))))))))
    (dss_cons (ds_set (i := 12) nd__law_task rfl (by first | exact Or.inl rfl | exact Or.inr rfl) (de_if (dt_cmp rd_gt op_gt (dv 4) dint) (de_call ok__law_draw (hr.mono (by decide)) rfl (da_cons (dv 0) (da_cons (de_op rd_add op_addD (dv 2) (dv 4)) da_nil))) (de_op rd_sub op_sub dint dint)))
    (dss_cons (ds_par (ps_par (i := 13) (j := 14) rfl nd__law_task rfl rfl (by decide) rfl rfl (pa_cons (de_ofL (dl_lc (own := [("_law_at", 8)]) rfl nd__law_task (dir rfl (Fc.free "range" (by decide)) (da_cons (de_op rd_add op_addD (dv 2) (dv 4)) da_nil)) (blkOk_by (by kernel_rfl)) (fun _ _ _ _ _ => (dgn (vs := [8]) nd__law_task rfl (by first | exact Or.inl rfl | exact Or.inr rfl))) (fun _ _ _ _ _ => (dts_one (dt_cmp rd_ne (op_neD hr.units) (dv 8) (dv 12)))) (fun _ _ _ _ _ => (dv 8)))) (pa_cons (dl_lst da_nil) pa_nil)) rfl) (by decide) vs_d vs_l)
    (dss_cons (ds_for .never rfl (dil (dv 13)) (dgn (vs := [15]) nd__law_task rfl (by first | exact Or.inl rfl | exact Or.inr rfl)) (dss_cons (ds_set (i := 16) nd__law_task rfl (by first | exact Or.inl rfl | exact Or.inr rfl) (de_op rd_add op_addD dint (de_call ok__law_pick (hr.mono (by decide)) rfl (da_cons (dv 0) (da_cons (de_ofL (dl_lst (da_cons dint (da_cons dint (da_cons dint (da_cons dint (da_cons dint (da_cons dint da_nil)))))))) da_nil)))))
    (dss_one (ds_app (i := 14) (pe_bm PySem.F.plainAttrs_list PySem.F.slot_list_append PySem.F.type_list_append mt_append (pv 14) (pa_cons (de_if (dt_cmp rd_eq (op_eqD hr.units) (dv 1) dstr) (de_tup (da_cons (dv 15) (da_cons (dv 16) da_nil))) (de_tup (da_cons (dv 15) (da_cons (dv 16) (da_cons (de_op rd_add op_addD dint (de_call ok__law_draw (hr.mono (by decide)) rfl (da_cons (dv 0) (da_cons (dv 3) da_nil)))) da_nil))))) pa_nil))))))
    (dss_cons (ds_set (i := 17) nd__law_task rfl (by first | exact Or.inl rfl | exact Or.inr rfl) (de_if (dt_cmp rd_eq (op_eqD hr.units) (dv 1) dstr) (de_tup (da_cons (dv 1) (da_cons (de_view 14 (de_bty rc_tup call_tuple_of rfl (Fc.free "tuple" (by decide)) (da_cons (dv 14) da_nil))) da_nil))) (de_tup (da_cons (dv 1) (da_cons (de_view 14 (de_bty rc_tup call_tuple_of rfl (Fc.free "tuple" (by decide)) (da_cons (dv 14) da_nil))) (da_cons (dv 3) da_nil))))))
    (dss_cons (ds_set (i := 18) nd__law_task rfl (by first | exact Or.inl rfl | exact Or.inr rfl) (de_if (dt_cmp rd_eq (op_eqD hr.units) (dv 1) dstr) (de_tup (da_cons dstr (da_cons (de_tup (da_cons (de_tup (da_cons dint (da_cons dint da_nil))) (da_cons (de_tup (da_cons dint (da_cons dint da_nil))) da_nil))) da_nil))) (de_tup (da_cons dstr (da_cons (de_tup (da_cons (de_tup (da_cons dint (da_cons dint (da_cons dint da_nil)))) (da_cons (de_tup (da_cons dint (da_cons dint (da_cons dint da_nil)))) da_nil))) (da_cons dint da_nil))))))
    (dss_cons (ds_par (ps_par (i := 19) (j := 20) rfl nd__law_task rfl rfl (by decide) rfl rfl (pa_cons (de_call ok__law_draw (hr.mono (by decide)) rfl (da_cons (dv 0) (da_cons dint da_nil))) (pa_cons (de_call ok__law_pick (hr.mono (by decide)) rfl (da_cons (dv 0) (da_cons (de_ofL (dl_lst (da_cons (de_tup (da_cons dstr (da_cons (de_tup (da_cons dint (da_cons dint da_nil))) da_nil))) (da_cons (dv 18) da_nil)))) da_nil))) pa_nil)) rfl) (by decide) vs_d vs_d)
    (dss_cons (ds_set (i := 21) nd__law_task rfl (by first | exact Or.inl rfl | exact Or.inr rfl) (de_ix (de_ofL (dl_lst (da_cons (de_tup (da_cons (dv 17) (da_cons (dv 20) da_nil))) (da_cons (de_tup (da_cons (dv 20) (da_cons (dv 17) da_nil))) da_nil)))) (dv 19)))
    (dss_one (ds_ret (de_tup (da_cons (de_make (ok_init Fc ok_check_task) Fc.task (hr.mono (by decide)) rfl (da_cons (de_view 6 (de_bty rc_tup call_tuple_of rfl (Fc.free "tuple" (by decide)) (da_cons (dv 6) da_nil))) (da_cons (dv 21) (da_cons (de_op rd_mul op_mulD (de_tup (da_cons dint da_nil)) (de_view 6 (de_blt rc_len call_len rfl (Fc.free "len" (by decide)) (da_cons (dv 6) da_nil)))) da_nil)))) (da_cons (dv 19) (da_cons (de_view 7 (de_bty rc_tup call_tuple_of rfl (Fc.free "tuple" (by decide)) (da_cons (dv 7) da_nil))) da_nil)))))))))))))))))
/-! _law_far -/
def N__law_far : List Str := ["_law_heap_here", "_law_task_here", "_law_k", "_law_box", "_law_many", "_law_more", "_law_wish", "_law_wishes", "_law_jobs", "_law_need", "_law_job", "_law_size", "_law_unknowns", "_law_name", "_law_low", "_law_high"]
theorem nd__law_far : N__law_far.Nodup := by decide +kernel
def τ__law_far : SD := (sSeq (sAsg (dTup (aCons (dBin oAdd (dC (.int 1)) (dCall 2 F__law_draw (aCons (dVar 0) (aCons (dC (.int 900)) aNil)))) (aCons (dBin oAdd (dC (.int 1)) (dCall 2 F__law_draw (aCons (dVar 0) (aCons (dC (.int 50)) aNil)))) aNil))) (gTp 2 (gCn (gN 4) (gCn (gN 5) gNl))))
  (sSeq (sPar 6 7 (vD (dBin oIx (dFld "wishes" (dVar 1)) (dVar 2))) (vL (aListOf (aCons (dFld "wishes" (dVar 1)) aNil))))
  (sSeq (sLc 8 (dLc (iT (dBin oIx (dVar 6) (dC (.int 1)))) (gN 10) (fun _ P => P true) (dBin oAdd (dTup (aCons (dBin oIx (dVar 10) (dC (.int 0))) (aCons (dBin oMul (dBin oIx (dVar 10) (dC (.int 1))) (dVar 4)) aNil))) (dCB oTupOf (aCons (dLst (dLc (iT (dSl (some 2) none (dVar 10))) (gN 9) (fun _ P => P true) (dBin oMul (dVar 9) (dVar 5)) [9])) aNil))) [10]))
  (sSeq (sSetI 7 (dBin oAdd (dTup (aCons (dBin oIx (dVar 6) (dC (.int 0))) (aCons (dCB oTupOf (aCons (dVar 8) aNil)) aNil))) (dCB oTupOf (aCons (dLst (dLc (iT (dSl (some 2) none (dVar 6))) (gN 11) (fun _ P => P true) (dBin oMul (dVar 11) (dVar 5)) [11])) aNil))) (dVar 2))
  (sSeq (sAsg (dCB oTupOf (aCons (dLst (dLc (iT (dFld "unknowns" (dVar 1))) (gTp 3 (gCn (gN 13) (gCn (gN 14) (gCn (gN 15) gNl)))) (fun _ P => P true) (dTup (aCons (dVar 13) (aCons (dBin oMul (dVar 14) (dVar 4)) (aCons (dBin oMul (dVar 15) (dVar 4)) aNil)))) [13, 14, 15])) aNil)) (gN 12))
  (sRet (dTup (aCons (dMake F_check_task (aCons (dVar 12) (aCons (dView 7 (dCB oTupOf (aCons (dVar 7) aNil))) (aCons (dFld "goal" (dVar 1)) aNil)))) (aCons (dCB oTupOf (aCons (dLst (dLc (iT (dVar 3)) (gTp 2 (gCn (gN 14) (gCn (gN 15) gNl))) (fun _ P => P true) (dTup (aCons (dBin oMul (dVar 14) (dVar 4)) (aCons (dBin oMul (dVar 15) (dVar 4)) aNil))) [14, 15])) aNil)) aNil)))))))))
def F__law_far : List D → (D → Prop) → Prop := fnD N__law_far τ__law_far
theorem sc__law_far : FnScope N__law_far ["_law_heap_here", "_law_task_here", "_law_k", "_law_box"] (defScope (top 95)) := ⟨rfl, rfl, rfl, by decide +kernel, rfl, by decide +kernel, by decide +kernel⟩
theorem ok__law_far (Fc : Facts P w K mg base c) : Fk P w K mg base "_law_far" 10 4 (SpD c 4 F__law_far) := by
  have ok__law_draw := ok__law_draw Fc
  have ok_check_task := ok_check_task Fc
  obtain ⟨f, fd, F, hm⟩ := Fc.fn "_law_far" 95 (by decide)
  refine fk_mk F hm sc__law_far rfl (fun _ _ _ _ _ _ us hl => match us, hl with | [_, _, _, _], _ => rfl) fun cdv A outer s H E hr => ?_
  exact (dss_cons (ds_asg (de_tup (da_cons (de_op rd_add op_addD dint (de_call ok__law_draw (hr.mono (by decide)) rfl (da_cons (dv 0) (da_cons dint da_nil)))) (da_cons (de_op rd_add op_addD dint (de_call ok__law_draw (hr.mono (by decide)) rfl (da_cons (dv 0) (da_cons dint da_nil)))) da_nil))) (dgt rfl (dgs_cons (dgn (vs := [4, 5]) nd__law_far rfl (by first | exact Or.inl rfl | exact Or.inr rfl)) (dgs_cons (dgn (vs := [4, 5]) nd__law_far rfl (by first | exact Or.inl rfl | exact Or.inr rfl)) dgs_nil))))
    (dss_cons (ds_par (ps_par (i := 6) (j := 7) rfl nd__law_far rfl rfl (by decide) rfl rfl (pa_cons (de_ix (de_fld Fc.cls Fc.at2 (dv 1)) (dv 2)) (pa_cons (dl_list rfl (Fc.free "list" (by decide)) (da_cons (de_fld Fc.cls Fc.at2 (dv 1)) da_nil)) pa_nil)) rfl) (by decide) vs_d vs_l)
    (dss_cons (ds_lc (i := 8) (own := [("_law_job", 10)]) rfl nd__law_far rfl rfl (dit (de_ix (dv 6) dint)) (blkOk_by (by kernel_rfl)) (fun _ _ _ _ _ => (dgn (vs := [10]) nd__law_far rfl (by first | exact Or.inl rfl | exact Or.inr rfl))) (fun _ _ _ _ _ => dts_nil) (fun _ _ _ _ _ => (de_op rd_add op_addD (de_tup (da_cons (de_ix (dv 10) dint) (da_cons (de_op rd_mul op_mulD (de_ix (dv 10) dint) (dv 4)) da_nil))) (de_bty rc_tup call_tuple_of rfl (Fc.free "tuple" (by decide)) (da_cons (de_ofL (dl_lc (own := [("_law_need", 9)]) rfl nd__law_far (dit (de_sl (dv 10) po_d po_n)) (blkOk_by (by kernel_rfl)) (fun _ _ _ _ _ => (dgn (vs := [9]) nd__law_far rfl (by first | exact Or.inl rfl | exact Or.inr rfl))) (fun _ _ _ _ _ => dts_nil) (fun _ _ _ _ _ => (de_op rd_mul op_mulD (dv 9) (dv 5))))) da_nil)))))
    (dss_cons (ds_setI (r := 7) (de_op rd_add op_addD (de_tup (da_cons (de_ix (dv 6) dint) (da_cons (de_bty rc_tup call_tuple_of rfl (Fc.free "tuple" (by decide)) (da_cons (dv 8) da_nil)) da_nil))) (de_bty rc_tup call_tuple_of rfl (Fc.free "tuple" (by decide)) (da_cons (de_ofL (dl_lc (own := [("_law_size", 11)]) rfl nd__law_far (dit (de_sl (dv 6) po_d po_n)) (blkOk_by (by kernel_rfl)) (fun _ _ _ _ _ => (dgn (vs := [11]) nd__law_far rfl (by first | exact Or.inl rfl | exact Or.inr rfl))) (fun _ _ _ _ _ => dts_nil) (fun _ _ _ _ _ => (de_op rd_mul op_mulD (dv 11) (dv 5))))) da_nil))) (pg_sub (pv 7) (dv 2) set_list))
    (dss_cons (ds_set (i := 12) nd__law_far rfl (by first | exact Or.inl rfl | exact Or.inr rfl) (de_bty rc_tup call_tuple_of rfl (Fc.free "tuple" (by decide)) (da_cons (de_ofL (dl_lc (own := [("_law_name", 13), ("_law_low", 14), ("_law_high", 15)]) rfl nd__law_far (dit (de_fld Fc.cls Fc.at1 (dv 1))) (blkOk_by (by kernel_rfl)) (fun _ _ _ _ _ => (dgt rfl (dgs_cons (dgn (vs := [13, 14, 15]) nd__law_far rfl (by first | exact Or.inl rfl | exact Or.inr rfl)) (dgs_cons (dgn (vs := [13, 14, 15]) nd__law_far rfl (by first | exact Or.inl rfl | exact Or.inr rfl)) (dgs_cons (dgn (vs := [13, 14, 15]) nd__law_far rfl (by first | exact Or.inl rfl | exact Or.inr rfl)) dgs_nil))))) (fun _ _ _ _ _ => dts_nil) (fun _ _ _ _ _ => (de_tup (da_cons (dv 13) (da_cons (de_op rd_mul op_mulD (dv 14) (dv 4)) (da_cons (de_op rd_mul op_mulD (dv 15) (dv 4)) da_nil))))))) da_nil)))
    (dss_one (ds_ret (de_tup (da_cons (de_make (ok_init Fc ok_check_task) Fc.task (hr.mono (by decide)) rfl (da_cons (dv 12) (da_cons (de_view 7 (de_bty rc_tup call_tuple_of rfl (Fc.free "tuple" (by decide)) (da_cons (dv 7) da_nil))) (da_cons (de_fld Fc.cls Fc.at3 (dv 1)) da_nil)))) (da_cons (de_bty rc_tup call_tuple_of rfl (Fc.free "tuple" (by decide)) (da_cons (de_ofL (dl_lc (own := [("_law_low", 14), ("_law_high", 15)]) rfl nd__law_far (dit (dv 3)) (blkOk_by (by kernel_rfl)) (fun _ _ _ _ _ => (dgt rfl (dgs_cons (dgn (vs := [14, 15]) nd__law_far rfl (by first | exact Or.inl rfl | exact Or.inr rfl)) (dgs_cons (dgn (vs := [14, 15]) nd__law_far rfl (by first | exact Or.inl rfl | exact Or.inr rfl)) dgs_nil)))) (fun _ _ _ _ _ => dts_nil) (fun _ _ _ _ _ => (de_tup (da_cons (de_op rd_mul op_mulD (dv 14) (dv 4)) (da_cons (de_op rd_mul op_mulD (dv 15) (dv 4)) da_nil)))))) da_nil)) da_nil))))))))))
end
end DW
set_option Elab.async false
set_option linter.all false
set_option maxRecDepth 100000
set_option maxHeartbeats 1000000
set_option autoImplicit false
namespace DW
open PySem PySem.Spec PyProof.Rows L2 K62
/-! ### a dict of pairs of numbers to numbers -/
abbrev KM := List ((Int × Int) × Int)
def encM (p : (Int × Int) × Int) : List Key × V := (kOf p.1, V.int p.2)
def getM (kvs : KM) (k : Int × Int) : Option Int := (kvs.find? fun kv => decide (kv.1 = k)).map (·.2)
def putM (kvs : KM) (k : Int × Int) (v : Int) : KM := if (kvs.any fun kv => decide (kv.1 = k)) = true then kvs.map (fun kv => if kv.1 = k then (kv.1, v) else kv) else kvs ++ [(k, v)]
theorem kOf_inj {a b : Int × Int} : kOf a = kOf b ↔ a = b := by
  unfold kOf
  obtain ⟨a1, a2⟩ := a
  obtain ⟨b1, b2⟩ := b
  simp
theorem get_enc (k : Int × Int) : ∀ kvs : KM, valV (kvs.map encM) (kOf k) = (getM kvs k).map V.int
  | [] => rfl
  | p :: r => by
    rw [List.map_cons]
    by_cases e : p.1 = k
    · rw [valV_pos (show (encM p).1 = kOf k from kOf_inj.mpr e)]
      simp [getM, List.find?_cons, e, encM]
    · rw [valV_neg (fun z => e (kOf_inj.mp z)), get_enc k r]
      simp [getM, List.find?_cons, e]
theorem put_enc (k : Int × Int) (v : Int) (kvs : KM) : putK (kvs.map encM) (kOf k) (V.int v) = (putM kvs k v).map encM := by
  unfold putK putM
  have e : ((kvs.map encM).any fun kv => decide (kv.1 = kOf k)) = kvs.any fun kv => decide (kv.1 = k) := by
    rw [List.any_map]
    congr 1
    funext p
    exact decide_eq_decide.mpr kOf_inj
  rw [e]
  split
  · rw [List.map_map, List.map_map]
    congr 1
    funext p
    show (if kOf p.1 = kOf k then (kOf p.1, V.int v) else encM p) = encM (if p.1 = k then (p.1, v) else p)
    by_cases h : p.1 = k
    · rw [if_pos h, if_pos (kOf_inj.mpr h)]; rfl
    · rw [if_neg h, if_neg fun z => h (kOf_inj.mp z)]
  · rw [List.map_append]; rfl
section
variable {c : Cst} {X : Cx} {G G' : Gh} {H H' : Hp} {γ : Ga} {σ : L2.St} {a b e e2 tg : Expr} {es : List Expr} {pos : Pos} {δ δk δd δv : ED} {α : AD} {st : Stmt} {g : GD} {τ : SD}
theorem key_im {p q : Int} {v : V} (h : Im c G H (.tup [.int p, .int q]) v) : ∃ b, v = .ref b ∧ H b = some (.tup ((kOf (p, q)).map kV)) := by
  cases h with
  | tup e q =>
    obtain rfl := Ims.ints (ns := [p, _]) q
    exact ⟨_, rfl, e⟩
theorem own_m (S : SO c G γ σ H) {i : Nat} {kvs : KM} (h : γ[i]? = some (some (.m kvs))) : ∃ p, σ[i]? = some (some (.ref p)) ∧ G.W p ∧ H p = some (.dT (kvs.map encM)) := by
  obtain ⟨v, h1, p, rfl, h2, h3⟩ := S.sl i _ h
  exact ⟨p, h1, h2, h3⟩
theorem m_keep (S : SO c G γ σ H) (e : Ex c G H H') {p : Addr} {u : List (List Key × V)} (w : G.W p) (h : H p = some (.dT u)) : H' p = some (.dT u) := e.ch.keep _ _ h nb_dT fun z => absurd w (S.sub.hp _ z).2
def dGet2 (i : Nat) (δk δd : ED) : ED := fun γ P => ∃ kvs, γ[i]? = some (some (.m kvs)) ∧ δk γ fun k => δd γ fun d => ∃ p q n, k = .tup [.int p, .int q] ∧ d = .int n ∧ P (.int ((getM kvs (p, q)).getD n))
theorem de_get2 {i : Nat} (h : PE X e (tDGet2 (tVar i) (cE c δk) (cE c δd))) : DE c X e (dGet2 i δk δd) := pe_imp h fun σ H Q ⟨G, γ, P, S, ⟨kvs, h1, h2⟩, k⟩ => by
  obtain ⟨p, hp, w, hd⟩ := own_m S h1
  refine ⟨_, hp, p, rfl, .inr ⟨_, .inl hd⟩, G, γ, _, S, h2, fun dk vk H1 e1 p1 i1 => ⟨G, γ, _, S.ex e1, p1, fun dd vd H2 e2 ⟨x, y, n, ek, ed, pp⟩ i2 => ?_⟩⟩
  subst ek ed
  cases i2
  obtain ⟨b, rfl, hb⟩ := key_im (Im.le e2.le S.sub _ _ i1)
  have hd2 := m_keep S (e1.trans e2) w hd
  refine ⟨_, .inr ⟨_, kOf (x, y), b, .inl hd2, rfl, hb, rfl⟩, ?_⟩
  rw [get_enc]
  cases hg : getM kvs (x, y) with
  | none => rw [hg] at pp; exact k _ _ H2 (e1.trans e2) pp .int
  | some m => rw [hg] at pp; exact k _ _ H2 (e1.trans e2) pp .int
def dZget (i : Nat) (δk : ED) : ED := fun γ P => ∃ a kvs, γ[i]? = some (some (.z a kvs)) ∧ δk γ fun k => ∃ p q n, k = .tup [.int p, .int q] ∧ getM kvs (p, q) = some n ∧ P (.int n)
theorem de_zget {i : Nat} (h : PE X e (tDGet (tVar i) (cE c δk))) : DE c X e (dZget i δk) := pe_imp h fun σ H Q ⟨G, γ, P, S, ⟨a, kvs, h1, h2⟩, k⟩ => by
  obtain ⟨v, hp, od, rfl, hd⟩ := S.sl i _ h1
  refine ⟨_, hp, G, γ, _, S, h2, fun dk vk H1 e1 ⟨x, y, n, ek, hg, pp⟩ i1 => ?_⟩
  subst ek
  obtain ⟨b, rfl, hb⟩ := key_im i1
  have hd2 := e1.ch.keep _ _ hd nb_frz fun _ => nm_frz
  refine ⟨a, .int n, rfl, .inr ⟨_, kOf (x, y), b, .inr ⟨od, hd2⟩, rfl, hb, ?_⟩, k _ _ H1 e1 pp .int⟩
  show some (V.int n) = valV (kvs.map encM) (kOf (x, y))
  rw [get_enc, hg]
  rfl
def keyD (p : (Int × Int) × Int) : D := .tup [.int p.1.1, .int p.1.2]
def iZ (i : Nat) : AD := fun γ P => ∃ a kvs, γ[i]? = some (some (.z a kvs)) ∧ P (kvs.map keyD)
theorem di_z {i : Nat} (h : PI X tg e (iKeys (tVar i))) : DI c X tg e (iZ i) := pi_imp h fun σ H R ⟨G, γ, P, S, ⟨a, kvs, h1, h2⟩, k⟩ => by
  obtain ⟨v, hp, od, rfl, hd⟩ := S.sl i _ h1
  refine ⟨_, hp, a, od, rfl, .inr ⟨_, hd, k _ _ H Ex.refl h2 ?_⟩⟩
  have w := walk_keysT (d := a) (o := od) (kvs := kvs.map encM)
  rw [show (kvs.map encM).length = (kvs.map keyD).length by simp] at w
  refine ⟨_, _, w, fun G2 H2 L S2 => ⟨L.ch.keep _ _ hd nb_frz fun _ => nm_frz, fun j d x H3 hj hy => ?_⟩⟩
  obtain ⟨rfl, kk, vv, q, hk, rfl, hq⟩ := hy
  rw [List.getElem?_map] at hk hj
  cases hx : kvs[j]? with
  | none => rw [hx] at hk; cases hk
  | some p0 =>
    rw [hx] at hk hj
    cases hj
    cases hk
    exact ⟨Ex.refl, .tup hq (.cons .int (.cons .int .nil))⟩
def vM : Ga → (SV → Prop) → Prop := fun _ P => P (.m [])
theorem vs_m : VS c tDNewT vM := fun G γ σ H P Q ⟨γx, σx, S, hl⟩ h k => fun p hp => by
  have n : nT H p := nT.of hp
  have e : Ex c G H (upd H p (.dT [])) := Ex.new hp
  refine k (.m []) (.ref p) (G.own p) _ (Le.own n e) (fun γy σy T => ?_) h
  have av : ¬ G.av p := T.ok.new n
  have T' := T.push
  have hl2 : (γ ++ γy).length = (σ ++ σy).length := T.len.symm
  have z : SO c (G.own p) ((γ ++ γy ++ [none]).set (γ ++ γy).length (some (.m []))) ((σ ++ σy ++ [none]).set (γ ++ γy).length (some (V.ref p))) (upd H p (.dT [])) := by
    refine ⟨by rw [List.length_set, List.length_set]; exact T'.len, fun i s g => ?_, fun i k s t a e1 e2 o1 o2 q1 q2 => ?_, T'.ok.own n e fun z => nb_dT (z _ upd_same)⟩
    · rcases get_set g with ⟨rfl, e', hl⟩ | ⟨m, e'⟩
      · cases e'
        exact ⟨_, set_get (by rw [T'.len]; exact hl), p, rfl, .inr rfl, upd_same⟩
      · obtain ⟨u, h1, h2⟩ := T'.sl i s e'
        exact ⟨u, by rw [List.getElem?_set_ne (Ne.symm m)]; exact h1, h2.leW T'.sub (Le.own n e) fun a o w q t => e.ch.keep a o q t fun z => absurd w (T'.sub.hp a z).2⟩
    · have old : ∀ {i : Nat} {s : SV}, (γ ++ γy ++ [none])[i]? = some (some s) → isOwn s → (σ ++ σy ++ [none])[i]? = some (some (V.ref p)) → False := fun e o q => av (T'.sub.W _ (T'.nw e o q))
      rcases get_set e1 with ⟨z1, e', hl⟩ | ⟨n1, f1⟩ <;> rcases get_set e2 with ⟨z2, e'', hl'⟩ | ⟨n2, f2⟩
      · rw [z1, z2]
      · rw [z1, set_get (by rw [T'.len]; exact hl)] at q1
        cases q1
        rw [List.getElem?_set_ne (Ne.symm n2)] at q2
        exact (old f2 o2 q2).elim
      · rw [z2, set_get (by rw [T'.len]; exact hl')] at q2
        cases q2
        rw [List.getElem?_set_ne (Ne.symm n1)] at q1
        exact (old f1 o1 q1).elim
      · rw [List.getElem?_set_ne (Ne.symm n1)] at q1
        rw [List.getElem?_set_ne (Ne.symm n2)] at q2
        exact T'.dist i k s t a f1 f2 o1 o2 q1 q2
  rw [set_end] at z
  rw [hl2, set_end] at z
  exact z
def sPutM (i : Nat) (δk δv : ED) : SD := fun E γ => ∃ kvs, γ[i]? = some (some (.m kvs)) ∧ kvs.length ≤ 1000 ∧ δv γ fun v => δk γ fun k => ∃ p q n, k = .tup [.int p, .int q] ∧ v = .int n ∧ E.nx (γ.set i (some (.m (putM kvs (p, q) n))))
theorem ds_putM {i : Nat} (h : PS X st (sDPut (tVar i) (cE c δk) (cE c δv))) : DS c X st (sPutM i δk δv) := ps_imp h fun Dn σ H ⟨G, γ, E, S, ⟨kvs, h0, hl, h⟩, kn, kr⟩ => by
  obtain ⟨p, hp, w, hd⟩ := own_m S h0
  refine ⟨G, γ, _, S, h, fun dv vv H1 e1 p1 i1 => ⟨_, hp, G, γ, _, S.ex e1, p1, fun dk vk H2 e2 ⟨x, y, n, ek, ev, pp⟩ i2 => ?_⟩⟩
  subst ek ev
  cases i1
  obtain ⟨b, rfl, hb⟩ := key_im i2
  have hd2 := m_keep S (e1.trans e2) w hd
  have S2 := (S.ex e1).ex e2
  refine ⟨p, _, rfl, .inr ⟨_, kOf (x, y), b, hd2, rfl, hb, by rw [List.length_map]; exact Nat.lt_of_le_of_lt hl (by decide), rfl⟩, ?_⟩
  rw [put_enc]
  have L := Le.put (c := c) (o := .dT ((putM kvs (x, y) n).map encM)) S2.sub w hd2 mu_dT nb_dT
  exact kn G _ _ _ ((e1.le.trans e2.le).trans L) (S2.put (s := .m (putM kvs (x, y) n)) h0 True.intro hp hd2 mu_dT nb_dT ⟨p, rfl, w, upd_same⟩) pp
/-! ### for k in d: the dict frozen meanwhile -/
theorem Im.nb_aux {p : Addr} {o u : HO} (h : H p = some u) (n1 : ∀ xs, u ≠ .tup xs) (n2 : ∀ xs, u ≠ .lst xs) (n3 : ∀ C dx fs, u ≠ .ins C dx fs) (n4 : ∀ od xs, u ≠ .frz od (.lst xs)) :
    (∀ a xs, H a = some (.tup xs) → upd H p o a = some (.tup xs)) ∧ (∀ a xs, Rd H a (.lst xs) → Rd (upd H p o) a (.lst xs)) ∧ (∀ a C dx fs, H a = some (.ins C dx fs) → upd H p o a = some (.ins C dx fs)) := by
  refine ⟨fun a xs e => ?_, fun a xs e => ?_, fun a C dx fs e => ?_⟩
  · rw [upd_ne fun z => n1 xs (by rw [z, h] at e; exact Option.some.inj e)]
    exact e
  · rcases e with e | ⟨od, e⟩
    · exact .inl (by rw [upd_ne fun z => n2 xs (by rw [z, h] at e; exact Option.some.inj e)]; exact e)
    · exact .inr ⟨od, by rw [upd_ne fun z => n4 od xs (by rw [z, h] at e; exact Option.some.inj e)]; exact e⟩
  · rw [upd_ne fun z => n3 C dx fs (by rw [z, h] at e; exact Option.some.inj e)]
    exact e
mutual
theorem Im.obj (k1 : ∀ a xs, H a = some (.tup xs) → H' a = some (.tup xs)) (k2 : ∀ a xs, Rd H a (.lst xs) → Rd H' a (.lst xs)) (k3 : ∀ a C dx fs, H a = some (.ins C dx fs) → H' a = some (.ins C dx fs)) : ∀ (d : D) (v : V), Im c G H d v → Im c G H' d v
  | .no, _, h => by cases h; exact .no
  | .bl _, _, h => by cases h; exact .bl
  | .int _, _, h => by cases h; exact .int
  | .str _, _, h => by cases h; exact .str
  | .tup ds, _, h => by
    cases h with
    | tup e q => exact .tup (k1 _ _ e) (Ims.obj k1 k2 k3 ds _ q)
  | .lst ds, _, h => by
    cases h with
    | lst e n q => exact .lst (k2 _ _ e) n (Ims.obj k1 k2 k3 ds _ q)
  | .task u w g, _, h => by
    cases h with
    | task e q1 q2 q3 => exact .task (k3 _ _ _ _ e) (Im.obj k1 k2 k3 u _ q1) (Im.obj k1 k2 k3 w _ q2) (Im.obj k1 k2 k3 g _ q3)
  | .heap, _, h => by
    cases h with
    | heap e => exact .heap e
theorem Ims.obj (k1 : ∀ a xs, H a = some (.tup xs) → H' a = some (.tup xs)) (k2 : ∀ a xs, Rd H a (.lst xs) → Rd H' a (.lst xs)) (k3 : ∀ a C dx fs, H a = some (.ins C dx fs) → H' a = some (.ins C dx fs)) : ∀ (ds : List D) (vs : List V), Ims c G H ds vs → Ims c G H' ds vs
  | [], _, h => by cases h; exact .nil
  | d :: ds, _, h => by
    cases h with
    | cons q r => exact .cons (Im.obj k1 k2 k3 d _ q) (Ims.obj k1 k2 k3 ds _ r)
end
theorem tabs_any {T : List (Addr × Str)} {p : Addr} {o u : HO} (h : H p = some u) (nc : ∀ q, u ≠ LamX.CodeO p q) (nb : ¬ isTb u) (t : LamX.Tabs T H) : LamX.Tabs T (upd H p o) := by
  intro q hq
  obtain ⟨ps, h1, h2, h3⟩ := t q hq
  refine ⟨ps, ?_, h2, fun pos cv hc => ?_⟩
  · rw [upd_ne fun z => nb ⟨ps, by rw [z, h] at h1; exact Option.some.inj h1⟩]
    exact h1
  · obtain ⟨c, e1, e2⟩ := h3 pos cv hc
    refine ⟨c, e1, ?_⟩
    rw [upd_ne fun z => nc _ (by subst z; rw [h] at e2; exact Option.some.inj e2)]
    exact e2
def sForK (i : Nat) (g : GD) (τ : SD) : SD := fun E γ => ∃ kvs, γ[i]? = some (some (.m kvs)) ∧ ∀ a, forW g τ (kvs.map keyD) ⟨fun γ' => γ'[i]? = some (some (.z a kvs)) ∧ (∀ (j : Nat) b k2, γ'[j]? = some (some (.z b k2)) → j = i) ∧ E.nx (γ'.set i (some (.m kvs))), E.rt⟩ (γ.set i (some (.z a kvs)))
theorem ds_forK {i : Nat} {vs : List Nat} (h : PS X st (tLock (tFor (cI c (iZ i)) (cG c vs g) (cS c τ)))) : DS c X st (sForK i g τ) := ps_imp h fun Dn σ H ⟨G, γ, E, S, ⟨kvs, h0, h⟩, kn, kr⟩ => by
  obtain ⟨p, hp, w, hd⟩ := own_m S h0
  refine ⟨p, _, hd, True.intro, fun od => ?_⟩
  have nhp : ¬ G.hpA p := fun z => (S.sub.hp _ z).2 w
  have L1 := Le.put (c := c) (o := .frz od (.dT (kvs.map encM))) S.sub w hd mu_dT nb_frz
  have S1 : SO c G (γ.set i (some (.z p kvs))) σ (upd H p (.frz od (.dT (kvs.map encM)))) := S.put (s := .z p kvs) h0 True.intro hp hd mu_dT nb_frz ⟨od, rfl, upd_same⟩
  have hi : i < γ.length := (List.getElem?_eq_some_iff.mp h0).1
  have i1 : (γ.set i (some (.z p kvs)))[i]? = some (some (.z p kvs)) := set_get hi
  -- behind the loop: the dict as it was
  have back : ∀ (G' : Gh) (H' : Hp), Le c G (upd H p (.frz od (.dT (kvs.map encM)))) G' H' → H' p = some (.frz od (.dT (kvs.map encM))) ∧ Le c G H G' (upd H' p (.dT (kvs.map encM))) ∧ (∀ (G2 : Gh) d v, Im c G2 H' d v → Im c G2 (upd H' p (.dT (kvs.map encM))) d v) ∧ (∀ (G2 : Gh) d v, Ims c G2 H' d v → Ims c G2 (upd H' p (.dT (kvs.map encM))) d v) ∧ (OkG c G' H' → OkG c G' (upd H' p (.dT (kvs.map encM)))) := by
    intro G' H' L
    have hz : H' p = some (.frz od (.dT (kvs.map encM))) := L.ch.keep _ _ upd_same nb_frz fun _ => nm_frz
    have nh' : ¬ G'.hpA p := fun ⟨hh, l, q, z⟩ => nhp ⟨hh, l, by rw [← L.hp]; exact q, z⟩
    obtain ⟨k1, k2, k3⟩ := Im.nb_aux (p := p) (o := .dT (kvs.map encM)) hz (fun _ z => by cases z) (fun _ z => by cases z) (fun _ _ _ z => by cases z) (fun _ _ z => by cases z)
    have tb : LamX.Tabs c.T H' → LamX.Tabs c.T (upd H' p (.dT (kvs.map encM))) := fun t => tabs_any hz (fun q z => by (unfold LamX.CodeO at z; cases z)) nb_frz t
    refine ⟨hz, ⟨L.hp, L.av, fun a z => (L.avn a z).imp_right fun n => L1.ch.nT_back n, L.W, fun a z => (L.Wn a z).imp_right fun n => L1.ch.nT_back n, ⟨fun a o e n m => ?_, fun a o e n => ?_, fun t => tb (L.ch.tabs (L1.ch.tabs t))⟩, fun z => HpOK.put (L.hok (L1.hok z)) nh'⟩, fun G2 d v q => Im.obj k1 k2 k3 d v q, fun G2 d v q => Ims.obj k1 k2 k3 d v q, fun ok => ⟨ok.sub, tb ok.tabs, HpOK.put ok.hok nh', fun a z n => ?_⟩⟩
    · by_cases ha : a = p
      · subst ha
        rw [hd] at e
        cases e
        exact absurd (.inr (.inl ⟨_, rfl⟩)) (m (.inl w))
      · rw [upd_ne ha]
        exact L.ch.keep a o (by rw [upd_ne ha]; exact e) n m
    · by_cases ha : a = p
      · subst ha
        exact ⟨_, upd_same, nb_dT⟩
      · rw [upd_ne ha]
        exact L.ch.dom a o (by rw [upd_ne ha]; exact e) n
    · by_cases ha : a = p
      · subst ha
        exact nb_dT (n _ upd_same)
      · exact ok.dom a z fun o e => n o (by rw [upd_ne ha]; exact e)
  refine for_of (c := c) (vs := vs) _ σ _ ⟨G, _, _, S1, ⟨p, kvs, i1, h p⟩, fun G' γ' σ' H' L S' ⟨e1, e2, e3⟩ => ?_, fun G' d v H' L hr im => ?_⟩
  · obtain ⟨hz, L2, m1, m2, ok2⟩ := back G' H' L
    have ok2 := ok2 S'.ok
    refine ⟨hz, kn G' _ σ' _ L2 ⟨by rw [List.length_set]; exact S'.len, fun j t g => ?_, fun j k s1 s2 a f1 f2 o1 o2 q1 q2 => ?_, ok2⟩ e3⟩
    · have hi' : i < γ'.length := (List.getElem?_eq_some_iff.mp e1).1
      rcases get_set g with ⟨rfl, e', hl⟩ | ⟨mm, e'⟩
      · cases e'
        obtain ⟨v, h1, od', h2, _⟩ := S'.sl _ _ e1
        subst h2
        exact ⟨_, h1, p, rfl, L.W p w, upd_same⟩
      · obtain ⟨v, h1, h2⟩ := S'.sl j t e'
        refine ⟨v, h1, ?_⟩
        cases t with
        | d x => exact m1 _ _ _ h2
        | l ds =>
          obtain ⟨a, xs, rfl, k1, k2, k3⟩ := h2
          exact ⟨a, xs, rfl, k1, by rw [upd_ne fun z => by (rw [z, hz] at k2; cases k2)]; exact k2, m2 _ _ _ k3⟩
        | m k2 =>
          obtain ⟨a, rfl, k3, k4⟩ := h2
          exact ⟨a, rfl, k3, by rw [upd_ne fun z => by (rw [z, hz] at k4; cases k4)]; exact k4⟩
        | z b k2 => exact absurd (e2 j b k2 e') mm
        | r K0 b ns => exact ⟨h2.1, h2.2.imp_left fun z => ⟨(Im.nb_aux (p := p) (o := .dT (kvs.map encM)) hz (fun _ z => by cases z) (fun _ z => by cases z) (fun _ _ _ z => by cases z) (fun _ _ z => by cases z)).2.1 _ _ z.1, z.2⟩⟩
    · have notp : ∀ {j : Nat} {s : SV}, γ'[j]? = some (some s) → isOwn s → σ'[j]? = some (some (V.ref p)) → False := fun {j s} e o q => by
        obtain ⟨v, h1, h2⟩ := S'.sl j s e
        rw [q] at h1
        cases h1
        cases s with
        | d x => exact o
        | z b k2 => exact o
        | r K0 b ns => exact o
        | l ds => obtain ⟨a, xs, z, _, k2, _⟩ := h2; cases z; rw [hz] at k2; cases k2
        | m k2 => obtain ⟨a, z, _, k3⟩ := h2; cases z; rw [hz] at k3; cases k3
      have atp : σ'[i]? = some (some (V.ref p)) := by
        obtain ⟨v, h1, od', h2, _⟩ := S'.sl _ _ e1
        subst h2
        exact h1
      rcases get_set f1 with ⟨z1, e', hl⟩ | ⟨n1, f1⟩ <;> rcases get_set f2 with ⟨z2, e'', hl'⟩ | ⟨n2, f2⟩
      · rw [z1, z2]
      · rw [z1, atp] at q1
        cases q1
        exact (notp f2 o2 q2).elim
      · rw [z2, atp] at q2
        cases q2
        exact (notp f1 o1 q1).elim
      · exact S'.dist j k s1 s2 a f1 f2 o1 o2 q1 q2
  · obtain ⟨hz, L2, m1, m2, _⟩ := back G' H' L
    exact ⟨hz, kr G' d v _ L2 hr (m1 _ _ _ im)⟩
end
end DW
set_option Elab.async false
set_option linter.all false
set_option maxRecDepth 100000
set_option maxHeartbeats 1000000
set_option autoImplicit false
namespace DW
open PySem PySem.Spec PyProof.Rows L2 K62
section
variable {c : Cst} {X : Cx} {G G' : Gh} {H H' : Hp} {γ : Ga} {σ : L2.St} {a b e e2 tg : Expr} {es : List Expr} {pos : Pos} {δ δk δd δv δ1 : ED} {α : AD} {st st2 : Stmt} {g : GD} {τ : SD}
/-! ### a call by keywords -/
theorem dk_nil : PK X [] (cA c aNil) := ⟨fun pos pins s σ H Q I h => pk_nil.run pos pins s σ H Q I (let ⟨G, γ, P, S, h, k⟩ := h; k [] [] H Ex.refl h .nil)⟩
theorem dk_cons {kws : List Keyword} {nm : Option Str} {kpos : Pos} (ha : DE c X e δ) (hr : PK X kws (cA c α)) : PK X (⟨nm, e, kpos⟩ :: kws) (cA c (aCons δ α)) := ⟨fun pos pins s σ H Q I h => (pk_cons ha hr).run pos pins s σ H Q I (by
  obtain ⟨G, γ, P, S, h, k⟩ := h
  exact ⟨G, γ, _, S, h, fun d v H1 e p q => ⟨G, γ, _, S.ex e, p, fun ds vs H2 e2 p2 q2 => k _ _ H2 (e.trans e2) p2 (.cons (Im.le e2.le S.sub _ _ q) q2)⟩⟩)⟩
theorem Ims.rev {ds : List D} {vs : List V} (h : Ims c G H ds vs) : Ims c G H ds.reverse vs.reverse := by
  induction ds generalizing vs with
  | nil => cases h; exact .nil
  | cons d r ih =>
    cases h with
    | cons q qs =>
      rw [List.reverse_cons, List.reverse_cons]
      exact (ih qs).append (.one q)
def dCallR (n : Nat) (F : List D → (D → Prop) → Prop) (α : AD) : ED := fun γ P => α γ fun ds => ds.length = n ∧ F ds.reverse P
theorem de_callR {x : Str} {p : Pos} {k n : Nat} {ks : List Str} {kws : List Keyword} {F : List D → (D → Prop) → Prop} (hF : FkR X.prog X.w X.K X.mg X.base x k n ks (SpD c n F)) (hn : ks.length = n) (hr : Room k X.A) (hg : Gl X x) (ha : PK X kws (cA c α))
    (hall : (backToKw pos (keywordEach kws X.env)).all (·.1.isSome) = true := by rfl) (hks : (backToKw pos (keywordEach kws X.env)).filterMap (·.1) = ks := by rfl) (hdb : (x == ("__debug__" : Str)) = false := by decide)
    (hpl : ((backTo pos (starEach [] X.env)).any (·.1) || (backToKw pos (keywordEach kws X.env)).any (·.1.isNone)) = false := by rfl) : DE c X (.Call (.Name x p) [] kws pos) (dCallR n F α) := by
  obtain ⟨f, fd, ps, F', hm, hk, hb⟩ := hF.ex
  refine pe_imp (Gp.pe_callKr F' hr hg hm hk hb (E := E0) pass0 ha hall hks hdb hpl) fun σ H Q ⟨G, γ, P, S, h, k⟩ => ⟨G, γ, _, S, h, fun ds vs H1 e p q => ⟨?_, ?_⟩⟩
  · rw [q.length, p.1, hn]
  · exact ⟨G.cal, ds.reverse, P, (S.ok.ex e).cal, fun _ h => h, by rw [List.length_reverse]; exact p.1, q.cal.rev, p.2, fun d v H2 e2 p2 i2 => k d v H2 (e.trans e2.uncal) p2 i2.uncal⟩
/-! ### SHAPES -/
def bNotS (δ : ED) : BD := fun γ P => δ γ fun d => d = .str "load" ∧ P false
theorem dt_notS {P : Program} {base : Heap} {p : Pos} (Fc : Facts P X.w X.K X.mg base c) (hg : Gl X "SHAPES") (ha : DE c X a δ) (hm : behindInMarks .NotIn (.Name "SHAPES" p) = false := by rfl) : DT c X (.Compare a [.NotIn] [.Name "SHAPES" p] pos) (bNotS δ) := by
  obtain ⟨ad, t, hh, es, n, h1, D1, h2, h3, h4⟩ := Fc.shapes
  refine pt_imp (pt_cmpR (op_notIn_kd D1) ha (pe_glob (v := .ref ad) hg h1 rfl) hm) fun σ H Q ⟨G, γ, P, S, h, k⟩ => ⟨G, γ, _, S, h, fun d v H1 e pp im => ?_⟩
  obtain ⟨rfl, pp⟩ := pp
  cases im
  exact ⟨_, _, rfl, rfl, h2, false, rfl, k _ H1 e pp⟩
theorem SO.blank (S : SO c G γ σ H) {j : Nat} {x : Option V} : SO c G (γ.set j none) (σ.set j x) H := by
  refine ⟨by rw [List.length_set, List.length_set]; exact S.len, fun i s e => ?_, fun i k s t a e1 e2 o1 o2 q1 q2 => ?_, S.ok⟩
  · rcases get_set e with ⟨_, e', _⟩ | ⟨n, e'⟩
    · cases e'
    · obtain ⟨u, h1, h2⟩ := S.sl i s e'
      exact ⟨u, by rw [List.getElem?_set_ne (Ne.symm n)]; exact h1, h2⟩
  · rcases get_set e1 with ⟨_, e', _⟩ | ⟨n1, f1⟩
    · cases e'
    rcases get_set e2 with ⟨_, e', _⟩ | ⟨n2, f2⟩
    · cases e'
    rw [List.getElem?_set_ne (Ne.symm n1)] at q1
    rw [List.getElem?_set_ne (Ne.symm n2)] at q2
    exact S.dist i k s t a f1 f2 o1 o2 q1 q2
def sShapes (i j : Nat) (δ δ1 : ED) (α : AD) (F : List D → (D → Prop) → Prop) : SD := fun E γ => (i < γ.length ∧ j < γ.length ∧ i ≠ j) ∧ δ γ fun d => d = .str "load" ∧ δ1 ((γ.set i (some (.d (.int 5)))).set j none) fun x => ∃ k, x = .bl k ∧ if k = true then α ((γ.set i (some (.d (.int 5)))).set j none) fun ds => ds.length = 5 ∧ F ds E.rt else E.rt (.bl false)
theorem dss_shapes {i j : Nat} {F : List D → (D → Prop) → Prop} {ad t hh : Addr} {es : Array DictEntry} {n : Nat} (D1 : KDict X.K X.w ad es n) (h2 : PySem.W.nsIn X.K ad "load" = some (some (.ref t))) (h3 : ∀ H : Hp, SqT X.K H t [.int 5, .ref hh])
    (p2 : PS X st (tAsg (tOp (rIxD X.K X.w) (tC (.ref ad)) (cE c δ)) (gTup X.K 2 (gCons (gName i) (gCons (gName j) gNil))))) (p3 : PS X st2 (tRet (tAndV (cE c δ1) (tCallL j hh (SpD c 5 F) [] E0 (cA c α))))) : DSs c X [st, st2] (sShapes i j δ δ1 α F) :=
  pss_imp (pss_cons p2 (pss_one p3)) fun Dn σ H ⟨G, γ, E, S, ⟨⟨hi, hj, hij⟩, h⟩, kn, kr⟩ => ⟨G, γ, _, S, h, fun d v H1 e ⟨ed, p⟩ im => by
    subst ed
    cases im
    refine ⟨ad, "load", .ref t, rfl, rfl, ⟨es, n, _, D1.at_, D1.lit, h2, rfl⟩, t, _, rfl, h3 H1, rfl, _, _, rfl, _, _, rfl, rfl, ?_⟩
    have S1 := ((S.ex e).set (j := i) (x := .int 5) .int).blank (j := j) (x := some (V.ref hh))
    refine ⟨G, _, _, S1, p, fun x xv H2 e2 ⟨k, ex, p2⟩ i2 => ?_⟩
    subst ex
    cases i2
    refine ⟨k, rfl, ?_⟩
    cases k with
    | true =>
      refine ⟨set_get (by rw [List.length_set, S.len]; exact hj), G, _, _, S1.ex e2, p2, fun ds vs H3 e3 p3 q3 => ?_⟩
      show SpD c 5 F (vs ++ []) H3 Dn.rt E0
      rw [List.append_nil]
      exact ⟨G.cal, ds, _, ((S.ok.ex e).ex (e2.trans e3)).cal, fun _ h => h, p3.1, q3.cal, p3.2, fun d v H4 e4 p4 i4 => kr G d v H4 (e.le.trans ((e2.trans e3).le.trans e4.uncal.le)) p4 i4.uncal.out⟩
    | false => exact kr G _ _ H2 (e.le.trans e2.le) p2 .bl⟩
end
def N_leaf_holds : List Str := ["task", "cuts", "box", "value", "worth", "many", "holds"]
theorem nd_leaf_holds : N_leaf_holds.Nodup := by decide +kernel
def τ_leaf_holds : SD := sSeq (sIf (bOr (bNot (dTest (dIns "tuple" (dVar 3)))) (bOr (dTest (dBin oEq (dCB oLen (aCons (dVar 3) aNil)) (dC (.int 0)))) (bOr (bNot (dTest (dIns "str" (dBin oIx (dVar 3) (dC (.int 0)))))) (bNotS (dBin oIx (dVar 3) (dC (.int 0))))))) (sRet (dC (.bl false))) sNx)
  (sShapes 5 6 (dBin oIx (dVar 3) (dC (.int 0))) (dBin oEq (dCB oLen (aCons (dVar 3) aNil)) (dVar 5)) (aCons (dVar 0) (aCons (dVar 1) (aCons (dVar 2) (aCons (dVar 3) (aCons (dVar 4) aNil))))) F_is_load)
def F_leaf_holds : List D → (D → Prop) → Prop := fnD N_leaf_holds τ_leaf_holds
theorem sc_leaf_holds : FnScope N_leaf_holds ["task", "cuts", "box", "value", "worth"] (defScope (top 88)) := ⟨rfl, rfl, rfl, by decide +kernel, rfl, by decide +kernel, by decide +kernel⟩
section
variable {c : Cst} {P : Program} {w : World} {K : PySem.W.Frag} {mg : Str → Option Value} {base : Heap}
theorem ok_leaf_holds (Fc : Facts P w K mg base c) : Fk P w K mg base "leaf_holds" 9 5 (SpD c 5 F_leaf_holds) := by
  obtain ⟨fl, fdl, psl, okl, hml, hkl, hbl⟩ := (ok_is_load Fc).ex
  obtain ⟨ad, t, hh, es, n, h1, D1, h2, h3, h4⟩ := Fc.shapes
  have e := hml.symm.trans h4
  cases e
  obtain ⟨f, fd, F, hm⟩ := Fc.fn "leaf_holds" 88 (by decide)
  refine fk_mk F hm sc_leaf_holds rfl (fun _ _ _ _ _ _ us hl => match us, hl with | [_, _, _, _, _], _ => rfl) fun cdv A outer s H E hr => ?_
  exact dss_cons (ds_if (dt_w (dw_or (dt_not (dt_val (de_ins (Ts := "tuple") (by decide) rfl (Fc.free "isinstance" (by decide)) rfl (Fc.free "tuple" (by decide)) (by decide +kernel) (dv 3)))) (dw_or (dt_cmp rd_eq (op_eqD hr.units) (de_blt rc_len call_len rfl (Fc.free "len" (by decide)) (da_cons (dv 3) da_nil)) dint) (dw_or (dt_not (dt_val (de_ins (Ts := "str") (by decide) rfl (Fc.free "isinstance" (by decide)) rfl (Fc.free "str" (by decide)) (by decide +kernel) (de_ix (dv 3) dint)))) (dw_or1 (dt_notS Fc rfl (de_ix (dv 3) dint))))))) (dss_one (ds_ret dbl)) dss_nil)
    (dss_shapes (c := c) (i := 5) (j := 6) D1 h2 h3 (ps_asg (pe_ix ix_kdict (pe_glob (v := .ref ad) rfl h1 rfl) (de_ix (dv 3) dint) (fun _ _ => rfl)) (pg_tup rfl (pgs_cons (pg_name nd_leaf_holds rfl (Or.inl rfl)) (pgs_cons (pg_name nd_leaf_holds rfl (Or.inl rfl)) pgs_nil))))
      (ps_ret (pe_and (de_cmp rd_eq (op_eqD hr.units) (de_blt rc_len call_len rfl (Fc.free "len" (by decide)) (da_cons (dv 3) da_nil)) (dv 5)) (pe_one (pe_callL (i := 6) okl (hr.mono (by decide)) rfl (Or.inl rfl) hkl hbl .nil (E := E0) pass0 (da_cons (dv 0) (da_cons (dv 1) (da_cons (dv 2) (da_cons (dv 3) (da_cons (dv 4) da_nil))))))))))
end
end DW
set_option Elab.async false
set_option linter.all false
set_option maxRecDepth 100000
set_option maxHeartbeats 1000000
set_option autoImplicit false
namespace DW
open PySem PySem.Spec PyProof.Rows L2 K62
section
variable {c : Cst} {P : Program} {w : World} {K : PySem.W.Frag} {mg : Str → Option Value} {base : Heap}
/-! _law_pieces_right -/
def N__law_pieces_right : List Str := ["_law_windows_here", "_law_size", "_law_pieces", "_law_done", "_law_spans", "_law_piece", "_law_part", "_law_job", "_law_start", "_law_end", "_law_units", "_law_other", "_law_window"]
theorem nd__law_pieces_right : N__law_pieces_right.Nodup := by decide +kernel
def τ__law_pieces_right : SD := (sSeq (sIf (bOr (bNot (dTest (dIns "tuple" (dVar 2)))) (dTest (dBin oNe (dLst (aListOf (aCons (dVar 2) aNil))) (dLst (aSrtP (dLst (aListOf (aCons (dVar 2) aNil)))))))) (sRet (dC (.bl false))) sNx)
  (sSeq (sPar 3 4 (vL (aRep (aLst (aCons (dC (.int 0)) aNil)) (dCB oLen (aCons (dVar 0) aNil)))) vM)
  (sSeq (sFor (iT (dVar 2)) (gN 5) (sSeq (sIf (bOr (bNot (dTest (dIns "tuple" (dVar 5)))) (bOr (dTest (dBin oNe (dCB oLen (aCons (dVar 5) aNil)) (dC (.int 4)))) (dTest (dCB oAny (aCons (dLst (dLc (iT (dVar 5)) (gN 6) (fun _ P => P true) (dOrV (dNotV (dIns "int" (dVar 6))) (dIns "bool" (dVar 6))) [6])) aNil))))) (sRet (dC (.bl false))) sNx)
  (sSeq (sAsg (dVar 5) (gTp 4 (gCn (gN 7) (gCn (gN 8) (gCn (gN 9) (gCn (gN 10) gNl))))))
  (sSeq (sIf (bOr (bNot (dTest (dChain oLe oLt (dC (.int 0)) (dVar 7) (dCB oLen (aCons (dVar 0) aNil))))) (bOr (dTest (dBin oGe (dVar 8) (dVar 9))) (dTest (dBin oLt (dVar 10) (dC (.int 1)))))) (sRet (dC (.bl false))) sNx)
  (sSeq (sIf (bOr (dTest (dBin oLt (dVar 8) (dBin oIx (dBin oIx (dVar 0) (dVar 7)) (dC (.int 0))))) (dTest (dBin oGt (dVar 9) (dBin oAdd (dBin oIx (dBin oIx (dVar 0) (dVar 7)) (dC (.int 1))) (dBin oIx (dBin oIx (dVar 0) (dVar 7)) (dC (.int 2))))))) (sRet (dC (.bl false))) sNx)
  (sSeq (sSetI 3 (dBin oAdd (dView 3 (dBin oIx (dVar 3) (dVar 7))) (dVar 10)) (dVar 7))
  (sPutM 4 (dTup (aCons (dVar 8) (aCons (dVar 9) aNil))) (dBin oAdd (dGet2 4 (dTup (aCons (dVar 8) (aCons (dVar 9) aNil))) (dC (.int 0))) (dVar 10)))))))))
  (sSeq (sForK 4 (gTp 2 (gCn (gN 8) (gCn (gN 9) gNl))) (sSeq (sIf (dTest (dBin oGt (dZget 4 (dTup (aCons (dVar 8) (aCons (dVar 9) aNil)))) (dBin oMul (dBin oSub (dVar 9) (dVar 8)) (dVar 1)))) (sRet (dC (.bl false))) sNx)
  (sIf (dTest (dCB oAny (aCons (dLst (dLc (iZ 4) (gN 11) (fun _ P => P true) (dAndV (dBin oNe (dVar 11) (dTup (aCons (dVar 8) (aCons (dVar 9) aNil)))) (dAndV (dBin oLt (dBin oIx (dVar 11) (dC (.int 0))) (dVar 9)) (dBin oLt (dVar 8) (dBin oIx (dVar 11) (dC (.int 1)))))) [11])) aNil))) (sRet (dC (.bl false))) sNx)))
  (sRet (dView 3 (dBin oEq (dVar 3) (dLst (dLc (iL (dVar 0)) (gN 12) (fun _ P => P true) (dBin oMul (dBin oIx (dVar 12) (dC (.int 2))) (dBin oIx (dVar 12) (dC (.int 3)))) [12])))))))))
def F__law_pieces_right : List D → (D → Prop) → Prop := fnD N__law_pieces_right τ__law_pieces_right
theorem sc__law_pieces_right : FnScope N__law_pieces_right ["_law_windows_here", "_law_size", "_law_pieces"] (defScope (top 97)) := ⟨rfl, rfl, rfl, by decide +kernel, rfl, by decide +kernel, by decide +kernel⟩
theorem ok__law_pieces_right (Fc : Facts P w K mg base c) : Fk P w K mg base "_law_pieces_right" 1 3 (SpD c 3 F__law_pieces_right) := by
  obtain ⟨f, fd, F, hm⟩ := Fc.fn "_law_pieces_right" 97 (by decide)
  refine fk_mk F hm sc__law_pieces_right rfl (fun _ _ _ _ _ _ us hl => match us, hl with | [_, _, _], _ => rfl) fun cdv A outer s H E hr => ?_
  exact (dss_cons (ds_if (dt_w (dw_or (dt_not (dt_val (de_ins (Ts := "tuple") (by decide) rfl (Fc.free "isinstance" (by decide)) rfl (Fc.free "tuple" (by decide)) (by decide +kernel) (dv 2)))) (dw_or1 (dt_cmp rd_ne (op_neD hr.units) (de_ofL (dl_list rfl (Fc.free "list" (by decide)) (da_cons (dv 2) da_nil))) (de_ofL (dl_sortP hr.units rfl (Fc.free "sorted" (by decide)) (de_ofL (dl_list rfl (Fc.free "list" (by decide)) (da_cons (dv 2) da_nil))))))))) (dss_one (ds_ret dbl)) dss_nil)
    (dss_cons (ds_par (ps_par (i := 3) (j := 4) rfl nd__law_pieces_right rfl rfl (by decide) rfl rfl (pa_cons (dl_rep (dl_lst (da_cons dint da_nil)) (de_blt rc_len call_len rfl (Fc.free "len" (by decide)) (da_cons (dv 0) da_nil))) (pa_cons pe_dnewT pa_nil)) rfl) (by decide) vs_l vs_m)
    (dss_cons (ds_for .never rfl (dit (dv 2)) (dgn (vs := [5]) nd__law_pieces_right rfl (by first | exact Or.inl rfl | exact Or.inr rfl)) (dss_cons (ds_if (dt_w (dw_or (dt_not (dt_val (de_ins (Ts := "tuple") (by decide) rfl (Fc.free "isinstance" (by decide)) rfl (Fc.free "tuple" (by decide)) (by decide +kernel) (dv 5)))) (dw_or (dt_cmp rd_ne (op_neD hr.units) (de_blt rc_len call_len rfl (Fc.free "len" (by decide)) (da_cons (dv 5) da_nil)) dint) (dw_or1 (dt_val (de_blt rc_any (cr_any rfl) rfl (Fc.free "any" (by decide)) (da_cons (de_ofL (dl_lc (own := [("_law_part", 6)]) rfl nd__law_pieces_right (dit (dv 5)) (blkOk_by (by kernel_rfl)) (fun _ _ _ _ _ => (dgn (vs := [6]) nd__law_pieces_right rfl (by first | exact Or.inl rfl | exact Or.inr rfl))) (fun _ _ _ _ _ => dts_nil) (fun _ _ _ _ _ => (de_or (de_not (de_ins (Ts := "int") (by decide) rfl (Fc.free "isinstance" (by decide)) rfl (Fc.free "int" (by decide)) (by decide +kernel) (dv 6))) (de_one (de_ins (Ts := "bool") (by decide) rfl (Fc.free "isinstance" (by decide)) rfl (Fc.free "bool" (by decide)) (by decide +kernel) (dv 6))))))) da_nil))))))) (dss_one (ds_ret dbl)) dss_nil)
    (dss_cons (ds_asg (dv 5) (dgt rfl (dgs_cons (dgn (vs := [7, 8, 9, 10]) nd__law_pieces_right rfl (by first | exact Or.inl rfl | exact Or.inr rfl)) (dgs_cons (dgn (vs := [7, 8, 9, 10]) nd__law_pieces_right rfl (by first | exact Or.inl rfl | exact Or.inr rfl)) (dgs_cons (dgn (vs := [7, 8, 9, 10]) nd__law_pieces_right rfl (by first | exact Or.inl rfl | exact Or.inr rfl)) (dgs_cons (dgn (vs := [7, 8, 9, 10]) nd__law_pieces_right rfl (by first | exact Or.inl rfl | exact Or.inr rfl)) dgs_nil))))))
    (dss_cons (ds_if (dt_w (dw_or (dt_not (dt_chain rd_le op_le rd_lt op_ltD dint (dv 7) (de_blt rc_len call_len rfl (Fc.free "len" (by decide)) (da_cons (dv 0) da_nil)))) (dw_or (dt_cmp rd_ge op_ge (dv 8) (dv 9)) (dw_or1 (dt_cmp rd_lt op_ltD (dv 10) dint))))) (dss_one (ds_ret dbl)) dss_nil)
    (dss_cons (ds_if (dt_w (dw_or (dt_cmp rd_lt op_ltD (dv 8) (de_ix (de_ix (dv 0) (dv 7)) dint)) (dw_or1 (dt_cmp rd_gt op_gt (dv 9) (de_op rd_add op_addD (de_ix (de_ix (dv 0) (dv 7)) dint) (de_ix (de_ix (dv 0) (dv 7)) dint)))))) (dss_one (ds_ret dbl)) dss_nil)
    (dss_cons (ds_setI (r := 3) (de_op rd_add op_addD (de_view 3 (de_ix (dv 3) (dv 7))) (dv 10)) (pg_sub (pv 3) (dv 7) set_list))
    (dss_one (ds_putM (i := 4) (ps_dput (hu_of hr) (pv 4) (de_tup (da_cons (dv 8) (da_cons (dv 9) da_nil))) (de_op rd_add op_addD (de_get2 (i := 4) (pe_dget2 (hu_of hr) (pv 4) (de_tup (da_cons (dv 8) (da_cons (dv 9) da_nil))) dint ⟨rfl, rfl, rfl, rfl⟩)) (dv 10)) rfl)))))))))
    (dss_cons (ds_forK (i := 4) (ps_lock (ps_for .never rfl (di_z (pi_keys (pv 4))) (dgt rfl (dgs_cons (dgn (vs := [8, 9]) nd__law_pieces_right rfl (by first | exact Or.inl rfl | exact Or.inr rfl)) (dgs_cons (dgn (vs := [8, 9]) nd__law_pieces_right rfl (by first | exact Or.inl rfl | exact Or.inr rfl)) dgs_nil))) (dss_cons (ds_if (dt_cmp rd_gt op_gt (de_zget (i := 4) (pe_dget (hu_of hr) (pv 4) (de_tup (da_cons (dv 8) (da_cons (dv 9) da_nil))) (by intro _ _; rfl))) (de_op rd_mul op_mulD (de_op rd_sub op_sub (dv 9) (dv 8)) (dv 1))) (dss_one (ds_ret dbl)) dss_nil)
    (dss_one (ds_if (dt_val (de_blt rc_any (cr_any rfl) rfl (Fc.free "any" (by decide)) (da_cons (de_ofL (dl_lc (own := [("_law_other", 11)]) rfl nd__law_pieces_right (di_z (pi_keys (pv 4))) (blkOk_by (by kernel_rfl)) (fun _ _ _ _ _ => (dgn (vs := [11]) nd__law_pieces_right rfl (by first | exact Or.inl rfl | exact Or.inr rfl))) (fun _ _ _ _ _ => dts_nil) (fun _ _ _ _ _ => (de_and (de_cmp rd_ne (op_neD hr.units) (dv 11) (de_tup (da_cons (dv 8) (da_cons (dv 9) da_nil)))) (de_and (de_cmp rd_lt op_ltD (de_ix (dv 11) dint) (dv 9)) (de_one (de_cmp rd_lt op_ltD (dv 8) (de_ix (dv 11) dint)))))))) da_nil))) (dss_one (ds_ret dbl)) dss_nil))))))
    (dss_one (ds_ret (de_view 3 (de_cmp rd_eq (op_eqD hr.units) (dv 3) (de_ofL (dl_lc (own := [("_law_window", 12)]) rfl nd__law_pieces_right (dil (dv 0)) (blkOk_by (by kernel_rfl)) (fun _ _ _ _ _ => (dgn (vs := [12]) nd__law_pieces_right rfl (by first | exact Or.inl rfl | exact Or.inr rfl))) (fun _ _ _ _ _ => dts_nil) (fun _ _ _ _ _ => (de_op rd_mul op_mulD (de_ix (dv 12) dint) (de_ix (dv 12) dint)))))))))))))
/-! _law_load_right -/
def N__law_load_right : List Str := ["_law_task_here", "_law_k", "_law_box", "_law_leaf", "_law_windows_here", "_law_size", "_law_job", "_law_a", "_law_b", "_law_work", "_law_low", "_law_high", "_law_length", "_law_need"]
theorem nd__law_load_right : N__law_load_right.Nodup := by decide +kernel
def τ__law_load_right : SD := (sSeq (sAsg (dCall 2 F__law_windows (aCons (dBin oIx (dFld "wishes" (dVar 0)) (dVar 1)) (aCons (dVar 2) aNil))) (gTp 2 (gCn (gN 4) (gCn (gN 5) gNl))))
  (sSeq (sIf (bOr (bNot (dTest (dIns "tuple" (dVar 3)))) (bOr (dTest (dBin oNe (dCB oLen (aCons (dVar 3) aNil)) (dC (.int 5)))) (bOr (dTest (dBin oNe (dSl none (some 2) (dVar 3)) (dTup (aCons (dC (.str "load")) (aCons (dVar 1) aNil))))) (bNot (dTest (dIns "tuple" (dBin oIx (dVar 3) (dC (.int 2))))))))) (sRet (dC (.bl false))) sNx)
  (sSeq (sIf (bOr (dTest (dBin oNe (dLst (aListOf (aCons (dBin oIx (dVar 3) (dC (.int 2))) aNil))) (dLst (aSrt (nSetT (aCons (dBin oIx (dVar 3) (dC (.int 2))) aNil)))))) (bNot (dTest (dCB oAll (aCons (dLst (dLc (iT (dBin oIx (dVar 3) (dC (.int 2)))) (gN 6) (fun _ P => P true) (dAndV (dIns "int" (dVar 6)) (dChain oLe oLt (dC (.int 0)) (dVar 6) (dCB oLen (aCons (dVar 4) aNil)))) [6])) aNil))))) (sRet (dC (.bl false))) sNx)
  (sSeq (sPar3 7 8 9 (vD (dBin oIx (dVar 3) (dC (.int 3)))) (vD (dBin oIx (dVar 3) (dC (.int 4)))) (vD (dC (.int 0))))
  (sSeq (sFor (iT (dBin oIx (dVar 3) (dC (.int 2)))) (gN 6) (sSeq (sAsg (dBin oIx (dVar 4) (dVar 6)) (gTp 4 (gCn (gN 10) (gCn (gN 11) (gCn (gN 12) (gCn (gN 13) gNl))))))
  (sSeq (sIf (bOr (dTest (dBin oLt (dVar 10) (dVar 7))) (dTest (dBin oGt (dBin oAdd (dVar 11) (dVar 12)) (dVar 8)))) (sRet (dC (.bl false))) sNx)
  (sAsg (dBin oAdd (dVar 9) (dBin oMul (dVar 12) (dVar 13))) (gN 9)))))
  (sRet (dAndV (dBin oLe (dVar 7) (dVar 8)) (dAndV (dBin oGt (dVar 9) (dBin oMul (dBin oSub (dVar 8) (dVar 7)) (dVar 5))) (dBin oIs (dCall 5 F_leaf_holds (aCons (dVar 0) (aCons (dTup aNil) (aCons (dVar 2) (aCons (dVar 3) (aCons (dC .no) aNil)))))) (dC (.bl true)))))))))))
def F__law_load_right : List D → (D → Prop) → Prop := fnD N__law_load_right τ__law_load_right
theorem sc__law_load_right : FnScope N__law_load_right ["_law_task_here", "_law_k", "_law_box", "_law_leaf"] (defScope (top 98)) := ⟨rfl, rfl, rfl, by decide +kernel, rfl, by decide +kernel, by decide +kernel⟩
theorem ok__law_load_right (Fc : Facts P w K mg base c) : Fk P w K mg base "_law_load_right" 10 4 (SpD c 4 F__law_load_right) := by
  have ok__law_windows := ok__law_windows Fc
  have ok_leaf_holds := ok_leaf_holds Fc
  obtain ⟨f, fd, F, hm⟩ := Fc.fn "_law_load_right" 98 (by decide)
  refine fk_mk F hm sc__law_load_right rfl (fun _ _ _ _ _ _ us hl => match us, hl with | [_, _, _, _], _ => rfl) fun cdv A outer s H E hr => ?_
  exact (dss_cons (ds_asg (de_call ok__law_windows (hr.mono (by decide)) rfl (da_cons (de_ix (de_fld Fc.cls Fc.at2 (dv 0)) (dv 1)) (da_cons (dv 2) da_nil))) (dgt rfl (dgs_cons (dgn (vs := [4, 5]) nd__law_load_right rfl (by first | exact Or.inl rfl | exact Or.inr rfl)) (dgs_cons (dgn (vs := [4, 5]) nd__law_load_right rfl (by first | exact Or.inl rfl | exact Or.inr rfl)) dgs_nil))))
    (dss_cons (ds_if (dt_w (dw_or (dt_not (dt_val (de_ins (Ts := "tuple") (by decide) rfl (Fc.free "isinstance" (by decide)) rfl (Fc.free "tuple" (by decide)) (by decide +kernel) (dv 3)))) (dw_or (dt_cmp rd_ne (op_neD hr.units) (de_blt rc_len call_len rfl (Fc.free "len" (by decide)) (da_cons (dv 3) da_nil)) dint) (dw_or (dt_cmp rd_ne (op_neD hr.units) (de_sl (dv 3) po_n po_d) (de_tup (da_cons dstr (da_cons (dv 1) da_nil)))) (dw_or1 (dt_not (dt_val (de_ins (Ts := "tuple") (by decide) rfl (Fc.free "isinstance" (by decide)) rfl (Fc.free "tuple" (by decide)) (by decide +kernel) (de_ix (dv 3) dint))))))))) (dss_one (ds_ret dbl)) dss_nil)
    (dss_cons (ds_if (dt_w (dw_or (dt_cmp rd_ne (op_neD hr.units) (de_ofL (dl_list rfl (Fc.free "list" (by decide)) (da_cons (de_ix (dv 3) dint) da_nil))) (de_ofL (dl_sort rfl rfl (Fc.free "sorted" (by decide)) (dstT rfl rfl (Fc.free "set" (by decide)) (da_cons (de_ix (dv 3) dint) da_nil))))) (dw_or1 (dt_not (dt_val (de_blt rc_all (cr_all rfl) rfl (Fc.free "all" (by decide)) (da_cons (de_ofL (dl_lc (own := [("_law_job", 6)]) rfl nd__law_load_right (dit (de_ix (dv 3) dint)) (blkOk_by (by kernel_rfl)) (fun _ _ _ _ _ => (dgn (vs := [6]) nd__law_load_right rfl (by first | exact Or.inl rfl | exact Or.inr rfl))) (fun _ _ _ _ _ => dts_nil) (fun _ _ _ _ _ => (de_and (de_ins (Ts := "int") (by decide) rfl (Fc.free "isinstance" (by decide)) rfl (Fc.free "int" (by decide)) (by decide +kernel) (dv 6)) (de_one (de_chain rd_le op_le rd_lt op_ltD dint (dv 6) (de_blt rc_len call_len rfl (Fc.free "len" (by decide)) (da_cons (dv 4) da_nil)))))))) da_nil))))))) (dss_one (ds_ret dbl)) dss_nil)
    (dss_cons (ds_par3 (ps_par3 (i := 7) (j := 8) (l := 9) rfl nd__law_load_right rfl rfl rfl (by decide) (by decide) (by decide) rfl rfl rfl (pa_cons (de_ix (dv 3) dint) (pa_cons (de_ix (dv 3) dint) (pa_cons dint pa_nil))) rfl) (by decide) (by decide) (by decide) vs_d vs_d vs_d)
    (dss_cons (ds_for .never rfl (dit (de_ix (dv 3) dint)) (dgn (vs := [6]) nd__law_load_right rfl (by first | exact Or.inl rfl | exact Or.inr rfl)) (dss_cons (ds_asg (de_ix (dv 4) (dv 6)) (dgt rfl (dgs_cons (dgn (vs := [10, 11, 12, 13]) nd__law_load_right rfl (by first | exact Or.inl rfl | exact Or.inr rfl)) (dgs_cons (dgn (vs := [10, 11, 12, 13]) nd__law_load_right rfl (by first | exact Or.inl rfl | exact Or.inr rfl)) (dgs_cons (dgn (vs := [10, 11, 12, 13]) nd__law_load_right rfl (by first | exact Or.inl rfl | exact Or.inr rfl)) (dgs_cons (dgn (vs := [10, 11, 12, 13]) nd__law_load_right rfl (by first | exact Or.inl rfl | exact Or.inr rfl)) dgs_nil))))))
    (dss_cons (ds_if (dt_w (dw_or (dt_cmp rd_lt op_ltD (dv 10) (dv 7)) (dw_or1 (dt_cmp rd_gt op_gt (de_op rd_add op_addD (dv 11) (dv 12)) (dv 8))))) (dss_one (ds_ret dbl)) dss_nil)
    (dss_one (ds_set (i := 9) nd__law_load_right rfl (by first | exact Or.inl rfl | exact Or.inr rfl) (de_op rd_add op_addD (dv 9) (de_op rd_mul op_mulD (dv 12) (dv 13))))))))
    (dss_one (ds_ret (de_and (de_cmp rd_le op_le (dv 7) (dv 8)) (de_and (de_cmp rd_gt op_gt (dv 9) (de_op rd_mul op_mulD (de_op rd_sub op_sub (dv 8) (dv 7)) (dv 5))) (de_one (de_cmp rd_is op_isBl (de_call ok_leaf_holds (hr.mono (by decide)) rfl (da_cons (dv 0) (da_cons (de_tup da_nil) (da_cons (dv 2) (da_cons (dv 3) (da_cons dnon da_nil)))))) dbl)))))))))))
/-! _law_world_right -/
def N__law_world_right : List Str := ["_law_heap_here", "_law_task_here", "_law_k", "_law_box", "_law_windows_here", "_law_size", "_law_told"]
theorem nd__law_world_right : N__law_world_right.Nodup := by decide +kernel
def τ__law_world_right : SD := (sSeq (sAsg (dCall 2 F__law_windows (aCons (dBin oIx (dFld "wishes" (dVar 1)) (dVar 2)) (aCons (dVar 3) aNil))) (gTp 2 (gCn (gN 4) (gCn (gN 5) gNl))))
  (sSeq (sAsg (dCall 3 F_pieces_or_load (aCons (dVar 1) (aCons (dVar 2) (aCons (dVar 3) aNil)))) (gN 6))
  (sSeq (sIf (bOr (bNot (dTest (dIns "tuple" (dVar 6)))) (bOr (dTest (dBin oNe (dCB oLen (aCons (dVar 6) aNil)) (dC (.int 2)))) (dTest (dBin oNe (dCallR 3 F_pieces_or_load (aCons (dVar 3) (aCons (dVar 2) (aCons (dVar 1) aNil)))) (dVar 6))))) (sRet (dC (.bl false))) sNx)
  (sSeq (sIf (dTest (dBin oEq (dBin oIx (dVar 6) (dC (.int 0))) (dC (.str "pieces")))) (sRet (dAndV (dNotV (dCall 2 F__law_too_much (aCons (dVar 4) (aCons (dVar 5) aNil)))) (dCall 3 F__law_pieces_right (aCons (dVar 4) (aCons (dVar 5) (aCons (dBin oIx (dVar 6) (dC (.int 1))) aNil)))))) sNx)
  (sRet (dAndV (dBin oEq (dBin oIx (dVar 6) (dC (.int 0))) (dC (.str "leaf"))) (dAndV (dCall 2 F__law_too_much (aCons (dVar 4) (aCons (dVar 5) aNil))) (dCall 4 F__law_load_right (aCons (dVar 1) (aCons (dVar 2) (aCons (dVar 3) (aCons (dBin oIx (dVar 6) (dC (.int 1))) aNil))))))))))))
def F__law_world_right : List D → (D → Prop) → Prop := fnD N__law_world_right τ__law_world_right
theorem sc__law_world_right : FnScope N__law_world_right ["_law_heap_here", "_law_task_here", "_law_k", "_law_box"] (defScope (top 99)) := ⟨rfl, rfl, rfl, by decide +kernel, rfl, by decide +kernel, by decide +kernel⟩
theorem ok__law_world_right (Fc : Facts P w K mg base c) : Fk P w K mg base "_law_world_right" 11 4 (SpD c 4 F__law_world_right) := by
  have ok__law_load_right := ok__law_load_right Fc
  have ok__law_pieces_right := ok__law_pieces_right Fc
  have ok__law_too_much := ok__law_too_much Fc
  have ok__law_windows := ok__law_windows Fc
  have ok_pieces_or_load := ok_pieces_or_load Fc
  obtain ⟨f, fd, F, hm⟩ := Fc.fn "_law_world_right" 99 (by decide)
  refine fk_mk F hm sc__law_world_right rfl (fun _ _ _ _ _ _ us hl => match us, hl with | [_, _, _, _], _ => rfl) fun cdv A outer s H E hr => ?_
  exact (dss_cons (ds_asg (de_call ok__law_windows (hr.mono (by decide)) rfl (da_cons (de_ix (de_fld Fc.cls Fc.at2 (dv 1)) (dv 2)) (da_cons (dv 3) da_nil))) (dgt rfl (dgs_cons (dgn (vs := [4, 5]) nd__law_world_right rfl (by first | exact Or.inl rfl | exact Or.inr rfl)) (dgs_cons (dgn (vs := [4, 5]) nd__law_world_right rfl (by first | exact Or.inl rfl | exact Or.inr rfl)) dgs_nil))))
    (dss_cons (ds_set (i := 6) nd__law_world_right rfl (by first | exact Or.inl rfl | exact Or.inr rfl) (de_call ok_pieces_or_load (hr.mono (by decide)) rfl (da_cons (dv 1) (da_cons (dv 2) (da_cons (dv 3) da_nil)))))
    (dss_cons (ds_if (dt_w (dw_or (dt_not (dt_val (de_ins (Ts := "tuple") (by decide) rfl (Fc.free "isinstance" (by decide)) rfl (Fc.free "tuple" (by decide)) (by decide +kernel) (dv 6)))) (dw_or (dt_cmp rd_ne (op_neD hr.units) (de_blt rc_len call_len rfl (Fc.free "len" (by decide)) (da_cons (dv 6) da_nil)) dint) (dw_or1 (dt_cmp rd_ne (op_neD hr.units) (de_callR (okr_pieces_or_load Fc) rfl (hr.mono (by decide)) rfl (dk_cons (dv 3) (dk_cons (dv 2) (dk_cons (dv 1) dk_nil)))) (dv 6)))))) (dss_one (ds_ret dbl)) dss_nil)
    (dss_cons (ds_if (dt_cmp rd_eq (op_eqD hr.units) (de_ix (dv 6) dint) dstr) (dss_one (ds_ret (de_and (de_not (de_call ok__law_too_much (hr.mono (by decide)) rfl (da_cons (dv 4) (da_cons (dv 5) da_nil)))) (de_one (de_call ok__law_pieces_right (hr.mono (by decide)) rfl (da_cons (dv 4) (da_cons (dv 5) (da_cons (de_ix (dv 6) dint) da_nil)))))))) dss_nil)
    (dss_one (ds_ret (de_and (de_cmp rd_eq (op_eqD hr.units) (de_ix (dv 6) dint) dstr) (de_and (de_call ok__law_too_much (hr.mono (by decide)) rfl (da_cons (dv 4) (da_cons (dv 5) da_nil))) (de_one (de_call ok__law_load_right (hr.mono (by decide)) rfl (da_cons (dv 1) (da_cons (dv 2) (da_cons (dv 3) (da_cons (de_ix (dv 6) dint) da_nil))))))))))))))
end
end DW
set_option Elab.async false
set_option linter.all false
set_option maxRecDepth 100000
set_option maxHeartbeats 1000000
set_option autoImplicit false
namespace DW
open PySem PySem.Spec PyProof.Rows L2 K62
section
variable {c : Cst} {X : Cx} {e : Expr}
def aSlR (K : PySem.W.Frag) (i : Nat) : AD := fun γ P => ∃ a ns, γ[i]? = some (some (.r K a ns)) ∧ P (cutD (ns.map .int) none (some 60))
theorem r_sq {K : PySem.W.Frag} {H : Hp} {a : Addr} {ns : List Int} {G : Gh} (h : (Rd H a (.lst (ns.map V.int)) ∧ ¬ G.av a) ∨ ∀ H' : Hp, SqL K H' a (ns.map V.int)) : SqL K H a (ns.map V.int) := h.elim (fun z => .inl z.1) fun z => z H
theorem dl_slR {i : Nat} (h : PE X e (tSl (rSlL X.K) (tVar i) (poD none) (poD (some 60)))) : DL c X e (aSlR X.K i) := pe_imp h fun σ H Q ⟨G, γ, P, S, ⟨a, ns, h1, h2⟩, k⟩ => by
  obtain ⟨v, hv, rfl, hs⟩ := S.sl i _ h1
  refine ⟨_, hv, a, _, rfl, r_sq hs, fun p hp => ?_⟩
  have q : Ims c G H (ns.map .int) (ns.map V.int) := Ims.ofInts
  exact k _ p _ _ (nT.of hp) (Ex.new hp) h2 upd_same (Ims.le (Le.with (nT.of hp) (Ex.new hp)) S.sub _ _ (cut_im q))
def dLenR (K : PySem.W.Frag) (i : Nat) : ED := fun γ P => ∃ a ns, γ[i]? = some (some (.r K a ns)) ∧ P (.int (ns.length : Nat))
theorem de_lenR {i : Nat} (h : PE X e (tCB (fun xs H Q => ∃ x n, xs = [x] ∧ LenV X.K x H n ∧ Q (.int n) H) (tCons (tVar i) tNil))) : DE c X e (dLenR X.K i) := pe_imp h fun σ H Q ⟨G, γ, P, S, ⟨a, ns, h1, h2⟩, k⟩ => by
  obtain ⟨v, hv, rfl, hs⟩ := S.sl i _ h1
  exact ⟨_, hv, _, ns.length, rfl, .inl ⟨_, r_sq hs, by rw [List.length_map]⟩, k _ _ H Ex.refl h2 .int⟩
end
/-! ### _law_heap -/
def N__law_heap : List Str := ["_law_script", "_law_cells", "_law_stir", "_law_cell"]
theorem nd__law_heap : N__law_heap.Nodup := by decide +kernel
theorem sc__law_heap : FnScope N__law_heap ["_law_script"] (defScope (top 90)) := ⟨rfl, rfl, rfl, by decide +kernel, rfl, by decide +kernel, by decide +kernel⟩
def τ_heap1 (K : PySem.W.Frag) : SD := (sPar 1 2 (vD (dLst (dLc (aSlR K 0) (gN 3) (fun _ P => P true) (dBin oAdd (dBin oMul (dC (.int 2)) (dCB oAbs (aCons (dVar 3) aNil))) (dCB oInt (aCons (dBin oLt (dVar 3) (dC (.int 0))) aNil))) [3]))) (vD (dC (.int 6469))))
def τ_heap2 : SD := (sFor (iL (dVar 1)) (gN 3) (sAsg (dBin oMod (dCB oInt (aCons (dBin oAdd (dBin oAdd (dBin oMul (dVar 2) (dC (.int 48271))) (dBin oMod (dCB oInt (aCons (dVar 3) aNil)) (dC (.int 2147483563)))) (dC (.int 17))) aNil)) (dC (.int 2147483647))) (gN 2)))
def α_heap : AD := (dLc (iL (dVar 1)) (gN 3) (dTest (dBin oGe (dVar 3) (dBin oPow (dC (.int 10)) (dC (.int 18))))) (dVar 3) [3])
def SpHp (c : Cst) (K : PySem.W.Frag) : Sp := fun vs H Q _ => ∃ (G : Gh) (a : Addr) (ns : List Int), vs = [.ref a] ∧ OkG c G H ∧ (∀ x, ¬ G.W x) ∧ ((Rd H a (.lst (ns.map V.int)) ∧ ¬ G.av a) ∨ ∀ H' : Hp, SqL K H' a (ns.map V.int)) ∧
  ∀ (hh l : Addr) (H' : Hp) (cs : List Int) (st : Int), nT H hh → nT H l → Ex c G H H' → HpS hh l H' cs st → Q (.ref hh) H'
theorem cut60 (ns : List Int) : ∃ ms : List Int, cutD (ns.map .int) none (some 60) = ms.map .int ∧ ms.length ≤ 60 := by
  refine ⟨ns.take (min 60 ns.length), ?_, ?_⟩
  · unfold cutD
    rw [List.length_map]
    show ((ns.map D.int).drop 0).take (min (60 : Int).toNat ns.length - 0) = _
    rw [List.drop_zero, Nat.sub_zero, ← List.map_take]
    rfl
  · rw [List.length_take]
    omega
def cellOf (x : Int) : Int := 2 * (if x < 0 then -x else x) + (if decide (x < 0) = true then 1 else 0)
theorem cell_nn (x : Int) : 0 ≤ cellOf x := by
  unfold cellOf
  split <;> split <;> omega
theorem heap1_is (K : PySem.W.Frag) (a : Addr) (ns : List Int) (E : DEnds) (h : ∀ cs : List Int, cs.length ≤ 60 → (∀ x ∈ cs, 0 ≤ x) → E.nx [some (.r K a ns), some (.d (.lst (cs.map .int))), some (.d (.int 6469)), none]) : τ_heap1 K E [some (.r K a ns), none, none, none] := by
  obtain ⟨ms, hm, hl⟩ := cut60 ns
  refine ⟨⟨show 1 < 4 by decide, show 2 < 4 by decide⟩, a, ns, rfl, ?_⟩
  rw [hm]
  refine ⟨by rw [List.length_map]; omega, ?_⟩
  refine lcW_map (fun x => D.int (cellOf x)) ms (fun x hx Q2 hq => ?_) ?_
  · exact ⟨_, rfl, _, rfl, .inl (by decide), _, rfl, .inr ⟨_, rfl, hq⟩⟩
  · have := h (ms.map cellOf) (by rw [List.length_map]; exact hl) fun x hx => by
      obtain ⟨y, _, rfl⟩ := List.mem_map.mp hx
      exact cell_nn y
    rw [List.map_map] at this
    exact this
theorem heap2_is (K : PySem.W.Frag) (a : Addr) (ns cs : List Int) (st : Int) (h0 : 0 ≤ st) (E : DEnds) (h : ∀ (st : Int) x, 0 ≤ st → E.nx [some (.r K a ns), some (.d (.lst (cs.map .int))), some (.d (.int st)), x]) : τ_heap2 E [some (.r K a ns), some (.d (.lst (cs.map .int))), some (.d (.int st)), none] := by
  refine ⟨_, rfl, _, rfl, ?_⟩
  refine forW_inv (fun _ γ => ∃ st x, 0 ≤ st ∧ γ = [some (.r K a ns), some (.d (.lst (cs.map .int))), some (.d (.int st)), x]) cs _ ⟨st, none, h0, rfl⟩ ?_ ?_
  · rintro x r γ ⟨st, y, hs, rfl⟩ K2 hK
    refine ⟨_, rfl, .inr (by decide), _, rfl, .inl ⟨_, rfl, show (0 : Int) < 2147483563 by decide, .inl ⟨_, rfl, show (0 : Int) < 2147483647 by decide, hK _ ⟨_, _, ?_, rfl⟩⟩⟩⟩
    exact Int.emod_nonneg _ (by decide)
  · rintro γ ⟨st, x, hs, rfl⟩
    exact h st x hs
theorem heap3_is (K : PySem.W.Frag) (a : Addr) (ns cs : List Int) (st : Int) (x : Option SV) (hl : cs.length ≤ 60) : α_heap [some (.r K a ns), some (.d (.lst (cs.map .int))), some (.d (.int st)), x] fun ds => ds = (cs.filter fun x => decide (10 ^ 18 ≤ x)).map .int := by
  refine ⟨_, rfl, _, rfl, by rw [List.length_map]; omega, ?_⟩
  refine lcW_run (fun x => decide (10 ^ 18 ≤ x)) D.int cs [] (fun y hy Q1 Q2 h1 h0 => ?_) rfl
  refine ⟨_, rfl, ⟨by decide, by decide, by decide⟩, _, rfl, ?_⟩
  exact ifB (fun z => ⟨_, rfl, h1 z⟩) fun z => h0 z
section
variable {c : Cst} {P : Program} {w : World} {K : PySem.W.Frag} {mg : Str → Option Value} {base : Heap}
theorem ok__law_heap (Fc : Facts P w K mg base c) : Fk P w K mg base "_law_heap" 1 1 (SpHp c K) := by
  obtain ⟨f, fd, F, hm⟩ := Fc.fn "_law_heap" 90 (by decide)
  refine ⟨f, fd, ["_law_script"], F.ok sc__law_heap (fun vs H Q E h => ?_) (fun cdv A outer s H vs Q E hr h => ⟨tSeq (cS c (τ_heap1 K)) (tSeq (cS c τ_heap2) (tRet (tLst (tCons (tRevL K (cL c α_heap)) (tCons (cE c (dVar 2)) tNil))))), PSs.nox ?_, ?_⟩), hm, F.kp, F.bindsN fun _ _ _ _ _ _ us hl => match us, hl with | [_], _ => rfl⟩
  · obtain ⟨G, a, ns, rfl, _⟩ := h
    rfl
  · exact pss_cons (ds_par (ps_par (i := 1) (j := 2) rfl nd__law_heap rfl rfl (by decide) rfl rfl (pa_cons (de_ofL (dl_lc (own := [("_law_cell", 3)]) rfl nd__law_heap (dil_new (dl_slR (i := 0) (pe_slice sl_list (pv 0) po_n po_d))) (blkOk_by (by kernel_rfl)) (fun _ _ _ _ _ => (dgn (vs := [3]) nd__law_heap rfl (by first | exact Or.inl rfl | exact Or.inr rfl))) (fun _ _ _ _ _ => dts_nil) (fun _ _ _ _ _ => (de_op rd_add op_addD (de_op rd_mul op_mulD dint (de_blt rc_abs call_abs rfl (Fc.free "abs" (by decide)) (da_cons (dv 3) da_nil))) (de_bty rc_int call_int1 rfl (Fc.free "int" (by decide)) (da_cons (de_cmp rd_lt op_ltD (dv 3) dint) da_nil)))))) (pa_cons dint pa_nil)) rfl) (by decide) vs_d vs_d) (pss_cons (ds_for .never rfl (dil (dv 1)) (dgn (vs := [3]) nd__law_heap rfl (by first | exact Or.inl rfl | exact Or.inr rfl)) (dss_one (ds_set (i := 2) nd__law_heap rfl (by first | exact Or.inl rfl | exact Or.inr rfl) (de_op rd_mod op_mod (de_bty rc_int call_int1 rfl (Fc.free "int" (by decide)) (da_cons (de_op rd_add op_addD (de_op rd_add op_addD (de_op rd_mul op_mulD (dv 2) dint) (de_op rd_mod op_mod (de_bty rc_int call_int1 rfl (Fc.free "int" (by decide)) (da_cons (dv 3) da_nil)) dint)) dint) da_nil)) dint)))) (pss_one (ps_ret (pe_lst (pa_cons (pe_revL (dl_lc (own := [("_law_cell", 3)]) rfl nd__law_heap (dil (dv 1)) (blkOk_by (by kernel_rfl)) (fun _ _ _ _ _ => (dgn (vs := [3]) nd__law_heap rfl (by first | exact Or.inl rfl | exact Or.inr rfl))) (fun _ _ _ _ _ => (dts_one (dt_cmp rd_ge op_ge (dv 3) (de_op rd_pow op_pow dint dint)))) (fun _ _ _ _ _ => (dv 3)))) (pa_cons (dv 2) pa_nil))))))
  · obtain ⟨G, a, ns, rfl, ok, hW, hr', k⟩ := h
    have S : SO c G [some (.r K a ns), none, none, none] (L2.start N__law_heap [.ref a]) H := by
      refine ⟨rfl, fun i s e => ?_, fun i j s t a e1 e2 o1 o2 _ _ => ?_, ok⟩
      · match i, e with
        | 0, e => cases e; exact ⟨_, rfl, rfl, hr'⟩
        | 1, e => cases e
        | 2, e => cases e
        | 3, e => cases e
        | i + 4, e => cases e
      · match i, e1 with
        | 0, e => cases e; exact o1.elim
        | 1, e => cases e
        | 2, e => cases e
        | 3, e => cases e
        | i + 4, e => cases e
    have exOf : ∀ {G' H'}, Le c G H G' H' → Ex c G H H' := fun L => ⟨⟨fun a o e n m => L.ch.keep a o e n fun z => z.elim (fun z => absurd z (hW a)) m, L.ch.dom, L.ch.tabs⟩, fun z => by
      have := L.hok z
      intro hh l q
      exact this hh l (L.hp.trans q)⟩
    refine ⟨G, _, ⟨fun γ => ∃ cs : List Int, cs.length ≤ 60 ∧ (∀ x ∈ cs, 0 ≤ x) ∧ γ = [some (.r K a ns), some (.d (.lst (cs.map .int))), some (.d (.int 6469)), none], fun _ => False⟩, S, heap1_is K a ns _ fun cs h1 h2 => ⟨cs, h1, h2, rfl⟩, fun G1 γ1 σ1 H1 L1 S1 ⟨cs, h1, h2, e⟩ => ?_, fun _ _ _ _ _ z _ => z.elim⟩
    subst e
    refine ⟨G1, _, ⟨fun γ => ∃ st x, 0 ≤ st ∧ γ = [some (.r K a ns), some (.d (.lst (cs.map .int))), some (.d (.int st)), x], fun _ => False⟩, S1, heap2_is K a ns cs 6469 (by decide) _ fun st x h0 => ⟨st, x, h0, rfl⟩, fun G2 γ2 σ2 H2 L2 S2 ⟨st, x, h0, e⟩ => ?_, fun _ _ _ _ _ z _ => z.elim⟩
    subst e
    refine ⟨G2, _, _, S2, heap3_is K a ns cs st x h1, fun ds p xs H3 n3 e3 eq h3 q3 => ⟨p, xs, rfl, .of h3, fun l hl => ?_⟩⟩
    subst eq
    obtain rfl := q3.ints
    have e3' : Ex c G2 H2 (upd H3 l (.lst ((cs.filter fun x => decide (10 ^ 18 ≤ x)).map V.int).reverse)) := e3.trans (Ex.new hl)
    refine ⟨G2, _, fun d => d = .int st, S2.ex e3', ⟨_, rfl, rfl⟩, fun d v H4 e4 ed im => ?_⟩
    subst ed
    cases im
    refine ⟨by show 2 ≤ sizeLine; decide, fun hh hhn => ?_⟩
    have L3 := (L1.trans L2).trans (e3'.le.trans (e4.le.trans (Ex.new (c := c) (G := G2) (o := .lst [.ref l, .int st]) hhn).le))
    have lk : H4 l = some (.lst ((cs.filter fun x => decide (10 ^ 18 ≤ x)).map V.int).reverse) := e4.ch.keep _ _ upd_same nb_lst fun z => absurd (S2.sub.hp _ z).1 fun w => S2.ok.dom _ w (e3.ch.nT_back (nT.of hl))
    have hne : hh ≠ l := fun z => by (rw [z, lk] at hhn; cases hhn)
    refine k hh l _ (cs.filter fun x => decide (10 ^ 18 ≤ x)).reverse st ((L1.trans L2).ch.nT_back (e3'.ch.nT_back (e4.ch.nT_back (nT.of hhn)))) ((L1.trans L2).ch.nT_back (e3.ch.nT_back (nT.of hl))) (exOf L3) ⟨hne, upd_same, ?_, h0, fun x hx => h2 x (List.mem_filter.mp (List.mem_reverse.mp hx)).1, ?_⟩
    · rw [upd_ne hne.symm, List.map_reverse]
      exact lk
    · rw [List.length_reverse]
      exact Nat.le_trans (List.length_filter_le _ _) h1
end
/-! ### law -/
def N_law : List Str := ["_law_script", "_law_heap_here", "_law_turn", "_law_task_here", "_law_k", "_law_box", "_law_low", "_law_high", "_law_tight", "_law_pair", "_law_inside", "_law_own", "_law_unknowns", "_law_bench", "_law_room", "_law_told"]
theorem nd_law : N_law.Nodup := by decide +kernel
theorem sc_law : FnScope N_law ["_law_script"] (defScope (top 100)) := ⟨rfl, rfl, rfl, by decide +kernel, rfl, by decide +kernel, by decide +kernel⟩
def τ_law (K : PySem.W.Frag) : SD := (sSeq (sFor (iR (aCons (dBin oAdd (dC (.int 2)) (dBin oMul (dC (.int 2)) (dCB oInt (aCons (dBin oGt (dLenR K 0) (dC (.int 1))) aNil)))) aNil)) (gN 2) (sSeq (sAsg (dCall 2 F__law_task (aCons (dVar 1) (aCons (dCall 2 F__law_pick (aCons (dVar 1) (aCons (dLst (aLst (aCons (dC (.str "bench")) (aCons (dC (.str "room")) aNil)))) aNil))) aNil))) (gTp 3 (gCn (gN 3) (gCn (gN 4) (gCn (gN 5) gNl)))))
  (sSeq (sIf (dTest (dBin oEq (dCall 2 F__law_draw (aCons (dVar 1) (aCons (dC (.int 3)) aNil))) (dC (.int 0)))) (sAsg (dCall 4 F__law_far (aCons (dVar 1) (aCons (dVar 3) (aCons (dVar 4) (aCons (dVar 5) aNil))))) (gTp 2 (gCn (gN 3) (gCn (gN 5) gNl)))) sNx)
  (sSeq (sIf (bNot (dTest (dCall 4 F__law_world_right (aCons (dVar 1) (aCons (dVar 3) (aCons (dVar 4) (aCons (dVar 5) aNil))))))) (sRet (dC (.bl false))) sNx)
  (sSeq (sAsg (dBin oIx (dVar 5) (dBin oIx (dBin oIx (dBin oIx (dBin oIx (dFld "wishes" (dVar 3)) (dVar 4)) (dC (.int 1))) (dC (.int 0))) (dC (.int 0)))) (gTp 2 (gCn (gN 6) (gCn (gN 7) gNl))))
  (sSeq (sAsg (dCB oTupOf (aCons (dLst (dLc (iT (dVar 5)) (gN 9) (fun _ P => P true) (dIf (dTest (dBin oGt (dCall 2 F__law_draw (aCons (dVar 1) (aCons (dC (.int 3)) aNil))) (dC (.int 0)))) (dTup (aCons (dCB oMax2 (aCons (dVar 6) (aCons (dBin oIx (dVar 9) (dC (.int 0))) aNil))) (aCons (dCB oMax2 (aCons (dVar 6) (aCons (dBin oIx (dVar 9) (dC (.int 0))) aNil))) aNil))) (dVar 9)) [9])) aNil)) (gN 8))
  (sSeq (sAsg (dCB oAll (aCons (dLst (dLc (iZp (aCons (dVar 5) (aCons (dVar 8) aNil))) (gTp 2 (gCn (gN 9) (gCn (gN 11) gNl))) (fun _ P => P true) (dAndV (dBin oLe (dBin oIx (dVar 9) (dC (.int 0))) (dBin oIx (dVar 11) (dC (.int 0)))) (dBin oLe (dBin oIx (dVar 11) (dC (.int 1))) (dBin oIx (dVar 9) (dC (.int 1))))) [9, 11])) aNil)) (gN 10))
  (sIf (bAnd (dTest (dVar 10)) (bNot (dTest (dCall 4 F__law_world_right (aCons (dVar 1) (aCons (dVar 3) (aCons (dVar 4) (aCons (dVar 8) aNil)))))))) (sRet (dC (.bl false))) sNx))))))))
  (sSeq (sAsg (dTup (aCons (dTup (aCons (dC (.str "a")) (aCons (dC (.int 0)) (aCons (dC (.int 9)) aNil)))) (aCons (dTup (aCons (dC (.str "b")) (aCons (dC (.int 0)) (aCons (dC (.int 9)) aNil)))) (aCons (dTup (aCons (dC (.str "c")) (aCons (dC (.int 0)) (aCons (dC (.int 9)) aNil)))) aNil)))) (gN 12))
  (sSeq (sAsg (dMake F_check_task (aCons (dVar 12) (aCons (dTup (aCons (dTup (aCons (dC (.str "bench")) (aCons (dTup (aCons (dTup (aCons (dC (.int 0)) (aCons (dC (.int 2)) aNil))) (aCons (dTup (aCons (dC (.int 1)) (aCons (dC (.int 2)) aNil))) (aCons (dTup (aCons (dC (.int 2)) (aCons (dC (.int 2)) aNil))) aNil)))) aNil))) aNil)) (aCons (dTup (aCons (dC (.int 1)) (aCons (dC (.int 0)) (aCons (dC (.int 0)) aNil)))) aNil)))) (gN 13))
  (sSeq (sIf (bOr (dTest (dBin oNe (dBin oIx (dCall 3 F_pieces_or_load (aCons (dVar 13) (aCons (dC (.int 0)) (aCons (dTup (aCons (dTup (aCons (dC (.int 0)) (aCons (dC (.int 4)) aNil))) (aCons (dTup (aCons (dC (.int 1)) (aCons (dC (.int 1)) aNil))) (aCons (dTup (aCons (dC (.int 3)) (aCons (dC (.int 3)) aNil))) aNil)))) aNil)))) (dC (.int 0))) (dC (.str "pieces")))) (dTest (dBin oNe (dBin oIx (dCall 3 F_pieces_or_load (aCons (dVar 13) (aCons (dC (.int 0)) (aCons (dTup (aCons (dTup (aCons (dC (.int 1)) (aCons (dC (.int 2)) aNil))) (aCons (dTup (aCons (dC (.int 1)) (aCons (dC (.int 2)) aNil))) (aCons (dTup (aCons (dC (.int 1)) (aCons (dC (.int 2)) aNil))) aNil)))) aNil)))) (dC (.int 0))) (dC (.str "leaf"))))) (sRet (dC (.bl false))) sNx)
  (sSeq (sIf (bOr (dTest (dBin oEq (dBin oIx (dCall 3 F_pieces_or_load (aCons (dVar 13) (aCons (dC (.int 0)) (aCons (dTup (aCons (dTup (aCons (dC (.int 0)) (aCons (dC (.int 4)) aNil))) (aCons (dTup (aCons (dC (.int 0)) (aCons (dC (.int 4)) aNil))) (aCons (dTup (aCons (dC (.int 0)) (aCons (dC (.int 4)) aNil))) aNil)))) aNil)))) (dC (.int 1))) (dTup aNil))) (dTest (dBin oNe (dBin oIx (dCall 3 F_pieces_or_load (aCons (dVar 13) (aCons (dC (.int 0)) (aCons (dTup (aCons (dTup (aCons (dC (.int 0)) (aCons (dC (.int 3)) aNil))) (aCons (dTup (aCons (dC (.int 0)) (aCons (dC (.int 3)) aNil))) (aCons (dTup (aCons (dC (.int 0)) (aCons (dC (.int 3)) aNil))) aNil)))) aNil)))) (dC (.int 0))) (dC (.str "leaf"))))) (sRet (dC (.bl false))) sNx)
  (sSeq (sAsg (dMake F_check_task (aCons (dVar 12) (aCons (dTup (aCons (dTup (aCons (dC (.str "room")) (aCons (dTup (aCons (dTup (aCons (dC (.int 0)) (aCons (dC (.int 2)) (aCons (dC (.int 3)) aNil)))) (aCons (dTup (aCons (dC (.int 1)) (aCons (dC (.int 2)) (aCons (dC (.int 2)) aNil)))) (aCons (dTup (aCons (dC (.int 2)) (aCons (dC (.int 1)) (aCons (dC (.int 3)) aNil)))) aNil)))) (aCons (dC (.int 4)) aNil)))) aNil)) (aCons (dTup (aCons (dC (.int 1)) (aCons (dC (.int 0)) (aCons (dC (.int 0)) aNil)))) aNil)))) (gN 14))
  (sSeq (sAsg (dCall 3 F_pieces_or_load (aCons (dVar 14) (aCons (dC (.int 0)) (aCons (dTup (aCons (dTup (aCons (dC (.int 0)) (aCons (dC (.int 1)) aNil))) (aCons (dTup (aCons (dC (.int 0)) (aCons (dC (.int 1)) aNil))) (aCons (dTup (aCons (dC (.int 1)) (aCons (dC (.int 2)) aNil))) aNil)))) aNil)))) (gN 15))
  (sRet (dAndV (dBin oEq (dBin oIx (dVar 15) (dC (.int 0))) (dC (.str "leaf"))) (dAndV (dBin oEq (dSl (some 3) none (dBin oIx (dVar 15) (dC (.int 1)))) (dTup (aCons (dC (.int 0)) (aCons (dC (.int 3)) aNil)))) (dAndV (dBin oEq (dBin oIx (dBin oIx (dVar 15) (dC (.int 1))) (dC (.int 2))) (dTup (aCons (dC (.int 0)) (aCons (dC (.int 1)) (aCons (dC (.int 2)) aNil))))) (dBin oEq (dBin oIx (dCall 3 F_pieces_or_load (aCons (dVar 14) (aCons (dC (.int 0)) (aCons (dTup (aCons (dTup (aCons (dC (.int 0)) (aCons (dC (.int 1)) aNil))) (aCons (dTup (aCons (dC (.int 0)) (aCons (dC (.int 2)) aNil))) (aCons (dTup (aCons (dC (.int 1)) (aCons (dC (.int 2)) aNil))) aNil)))) aNil)))) (dC (.int 0))) (dC (.str "pieces"))))))))))))))
def SpLaw (c : Cst) (K : PySem.W.Frag) : Sp := fun vs H Q _ => ∃ (a : Addr) (ns : List Int), vs = [.ref a] ∧ LamX.Tabs c.T H ∧ SqL K H a (ns.map V.int) ∧ ∀ H', Q (.bl true) H'
def γ_law (K : PySem.W.Frag) (a : Addr) (ns : List Int) : Ga := some (.r K a ns) :: some (.d .heap) :: List.replicate 14 none
section
variable {c : Cst} {P : Program} {w : World} {K : PySem.W.Frag} {mg : Str → Option Value} {base : Heap}
theorem ok_law (Fc : Facts P w K mg base c) (is : ∀ a ns, τ_law K ⟨fun _ => False, fun d => d = .bl true⟩ (γ_law K a ns)) {f : Addr} {fd : FuncData} (F : FnP K "law" (top 100) f fd) : FnOk P w K mg base CX0 16 f fd ["_law_script"] (SpLaw c K) := by
  have ok__law_draw := ok__law_draw Fc
  have ok__law_far := ok__law_far Fc
  have ok__law_pick := ok__law_pick Fc
  have ok__law_task := ok__law_task Fc
  have ok__law_world_right := ok__law_world_right Fc
  have ok_check_task := ok_check_task Fc
  have ok_pieces_or_load := ok_pieces_or_load Fc
  obtain ⟨fh, fdh, psh, okh, hmh, hkh, hbh⟩ := (ok__law_heap Fc).ex
  refine F.ok sc_law (fun vs H Q E h => ?_) (fun cdv A outer s H vs Q E hr h => ⟨tSeq (tAsg (tCall (SpHp c K) [] E0 (tCons (tVar 0) tNil)) (gName 1)) (cS c (τ_law K)), PSs.nox ?_, ?_⟩)
  · obtain ⟨a, ns, rfl, _⟩ := h
    rfl
  · exact pss_cons (ps_set (i := 1) nd_law rfl (by first | exact Or.inl rfl | exact Or.inr rfl) (pe_call okh (hr.mono (by decide)) rfl hmh hkh hbh .nil pass0 (pa_cons (pv 0) pa_nil)))
      (dss_cons (ds_for .never rfl (dir rfl (Fc.free "range" (by decide)) (da_cons (de_op rd_add op_addD dint (de_op rd_mul op_mulD dint (de_bty rc_int call_int1 rfl (Fc.free "int" (by decide)) (da_cons (de_cmp rd_gt op_gt (de_lenR (i := 0) (pe_callB call_len rfl (Fc.free "len" (by decide)) (by decide +kernel) (pa_cons (pv 0) pa_nil))) dint) da_nil)))) da_nil)) (dgn (vs := [2]) nd_law rfl (by first | exact Or.inl rfl | exact Or.inr rfl)) (dss_cons (ds_asg (de_call ok__law_task (hr.mono (by decide)) rfl (da_cons (dv 1) (da_cons (de_call ok__law_pick (hr.mono (by decide)) rfl (da_cons (dv 1) (da_cons (de_ofL (dl_lst (da_cons dstr (da_cons dstr da_nil)))) da_nil))) da_nil))) (dgt rfl (dgs_cons (dgn (vs := [3, 4, 5]) nd_law rfl (by first | exact Or.inl rfl | exact Or.inr rfl)) (dgs_cons (dgn (vs := [3, 4, 5]) nd_law rfl (by first | exact Or.inl rfl | exact Or.inr rfl)) (dgs_cons (dgn (vs := [3, 4, 5]) nd_law rfl (by first | exact Or.inl rfl | exact Or.inr rfl)) dgs_nil)))))
    (dss_cons (ds_if (dt_cmp rd_eq (op_eqD hr.units) (de_call ok__law_draw (hr.mono (by decide)) rfl (da_cons (dv 1) (da_cons dint da_nil))) dint) (dss_one (ds_asg (de_call ok__law_far (hr.mono (by decide)) rfl (da_cons (dv 1) (da_cons (dv 3) (da_cons (dv 4) (da_cons (dv 5) da_nil))))) (dgt rfl (dgs_cons (dgn (vs := [3, 5]) nd_law rfl (by first | exact Or.inl rfl | exact Or.inr rfl)) (dgs_cons (dgn (vs := [3, 5]) nd_law rfl (by first | exact Or.inl rfl | exact Or.inr rfl)) dgs_nil))))) dss_nil)
    (dss_cons (ds_if (dt_not (dt_val (de_call ok__law_world_right (hr.mono (by decide)) rfl (da_cons (dv 1) (da_cons (dv 3) (da_cons (dv 4) (da_cons (dv 5) da_nil))))))) (dss_one (ds_ret dbl)) dss_nil)
    (dss_cons (ds_asg (de_ix (dv 5) (de_ix (de_ix (de_ix (de_ix (de_fld Fc.cls Fc.at2 (dv 3)) (dv 4)) dint) dint) dint)) (dgt rfl (dgs_cons (dgn (vs := [6, 7]) nd_law rfl (by first | exact Or.inl rfl | exact Or.inr rfl)) (dgs_cons (dgn (vs := [6, 7]) nd_law rfl (by first | exact Or.inl rfl | exact Or.inr rfl)) dgs_nil))))
    (dss_cons (ds_set (i := 8) nd_law rfl (by first | exact Or.inl rfl | exact Or.inr rfl) (de_bty rc_tup call_tuple_of rfl (Fc.free "tuple" (by decide)) (da_cons (de_ofL (dl_lc (own := [("_law_pair", 9)]) rfl nd_law (dit (dv 5)) (blkOk_by (by kernel_rfl)) (fun _ _ _ _ _ => (dgn (vs := [9]) nd_law rfl (by first | exact Or.inl rfl | exact Or.inr rfl))) (fun _ _ _ _ _ => dts_nil) (fun _ _ _ _ _ => (de_if (dt_cmp rd_gt op_gt (de_call ok__law_draw (hr.mono (by decide)) rfl (da_cons (dv 1) (da_cons dint da_nil))) dint) (de_tup (da_cons (de_blt rc_max2 (call_max2 rfl) rfl (Fc.free "max" (by decide)) (da_cons (dv 6) (da_cons (de_ix (dv 9) dint) da_nil))) (da_cons (de_blt rc_max2 (call_max2 rfl) rfl (Fc.free "max" (by decide)) (da_cons (dv 6) (da_cons (de_ix (dv 9) dint) da_nil))) da_nil))) (dv 9))))) da_nil)))
    (dss_cons (ds_set (i := 10) nd_law rfl (by first | exact Or.inl rfl | exact Or.inr rfl) (de_blt rc_all (cr_all rfl) rfl (Fc.free "all" (by decide)) (da_cons (de_ofL (dl_lc (own := [("_law_pair", 9), ("_law_own", 11)]) rfl nd_law (diz rfl (Fc.free "zip" (by decide)) (da_cons (dv 5) (da_cons (dv 8) da_nil))) (blkOk_by (by kernel_rfl)) (fun _ _ _ _ _ => (dgt rfl (dgs_cons (dgn (vs := [9, 11]) nd_law rfl (by first | exact Or.inl rfl | exact Or.inr rfl)) (dgs_cons (dgn (vs := [9, 11]) nd_law rfl (by first | exact Or.inl rfl | exact Or.inr rfl)) dgs_nil)))) (fun _ _ _ _ _ => dts_nil) (fun _ _ _ _ _ => (de_and (de_cmp rd_le op_le (de_ix (dv 9) dint) (de_ix (dv 11) dint)) (de_one (de_cmp rd_le op_le (de_ix (dv 11) dint) (de_ix (dv 9) dint))))))) da_nil)))
    (dss_one (ds_if (dt_w (dw_and (dt_val (dv 10)) (dw_and1 (dt_not (dt_val (de_call ok__law_world_right (hr.mono (by decide)) rfl (da_cons (dv 1) (da_cons (dv 3) (da_cons (dv 4) (da_cons (dv 8) da_nil)))))))))) (dss_one (ds_ret dbl)) dss_nil)))))))))
    (dss_cons (ds_set (i := 12) nd_law rfl (by first | exact Or.inl rfl | exact Or.inr rfl) (de_tup (da_cons (de_tup (da_cons dstr (da_cons dint (da_cons dint da_nil)))) (da_cons (de_tup (da_cons dstr (da_cons dint (da_cons dint da_nil)))) (da_cons (de_tup (da_cons dstr (da_cons dint (da_cons dint da_nil)))) da_nil)))))
    (dss_cons (ds_set (i := 13) nd_law rfl (by first | exact Or.inl rfl | exact Or.inr rfl) (de_make (ok_init Fc ok_check_task) Fc.task (hr.mono (by decide)) rfl (da_cons (dv 12) (da_cons (de_tup (da_cons (de_tup (da_cons dstr (da_cons (de_tup (da_cons (de_tup (da_cons dint (da_cons dint da_nil))) (da_cons (de_tup (da_cons dint (da_cons dint da_nil))) (da_cons (de_tup (da_cons dint (da_cons dint da_nil))) da_nil)))) da_nil))) da_nil)) (da_cons (de_tup (da_cons dint (da_cons dint (da_cons dint da_nil)))) da_nil)))))
    (dss_cons (ds_if (dt_w (dw_or (dt_cmp rd_ne (op_neD hr.units) (de_ix (de_call ok_pieces_or_load (hr.mono (by decide)) rfl (da_cons (dv 13) (da_cons dint (da_cons (de_tup (da_cons (de_tup (da_cons dint (da_cons dint da_nil))) (da_cons (de_tup (da_cons dint (da_cons dint da_nil))) (da_cons (de_tup (da_cons dint (da_cons dint da_nil))) da_nil)))) da_nil)))) dint) dstr) (dw_or1 (dt_cmp rd_ne (op_neD hr.units) (de_ix (de_call ok_pieces_or_load (hr.mono (by decide)) rfl (da_cons (dv 13) (da_cons dint (da_cons (de_tup (da_cons (de_tup (da_cons dint (da_cons dint da_nil))) (da_cons (de_tup (da_cons dint (da_cons dint da_nil))) (da_cons (de_tup (da_cons dint (da_cons dint da_nil))) da_nil)))) da_nil)))) dint) dstr)))) (dss_one (ds_ret dbl)) dss_nil)
    (dss_cons (ds_if (dt_w (dw_or (dt_cmp rd_eq (op_eqD hr.units) (de_ix (de_call ok_pieces_or_load (hr.mono (by decide)) rfl (da_cons (dv 13) (da_cons dint (da_cons (de_tup (da_cons (de_tup (da_cons dint (da_cons dint da_nil))) (da_cons (de_tup (da_cons dint (da_cons dint da_nil))) (da_cons (de_tup (da_cons dint (da_cons dint da_nil))) da_nil)))) da_nil)))) dint) (de_tup da_nil)) (dw_or1 (dt_cmp rd_ne (op_neD hr.units) (de_ix (de_call ok_pieces_or_load (hr.mono (by decide)) rfl (da_cons (dv 13) (da_cons dint (da_cons (de_tup (da_cons (de_tup (da_cons dint (da_cons dint da_nil))) (da_cons (de_tup (da_cons dint (da_cons dint da_nil))) (da_cons (de_tup (da_cons dint (da_cons dint da_nil))) da_nil)))) da_nil)))) dint) dstr)))) (dss_one (ds_ret dbl)) dss_nil)
    (dss_cons (ds_set (i := 14) nd_law rfl (by first | exact Or.inl rfl | exact Or.inr rfl) (de_make (ok_init Fc ok_check_task) Fc.task (hr.mono (by decide)) rfl (da_cons (dv 12) (da_cons (de_tup (da_cons (de_tup (da_cons dstr (da_cons (de_tup (da_cons (de_tup (da_cons dint (da_cons dint (da_cons dint da_nil)))) (da_cons (de_tup (da_cons dint (da_cons dint (da_cons dint da_nil)))) (da_cons (de_tup (da_cons dint (da_cons dint (da_cons dint da_nil)))) da_nil)))) (da_cons dint da_nil)))) da_nil)) (da_cons (de_tup (da_cons dint (da_cons dint (da_cons dint da_nil)))) da_nil)))))
    (dss_cons (ds_set (i := 15) nd_law rfl (by first | exact Or.inl rfl | exact Or.inr rfl) (de_call ok_pieces_or_load (hr.mono (by decide)) rfl (da_cons (dv 14) (da_cons dint (da_cons (de_tup (da_cons (de_tup (da_cons dint (da_cons dint da_nil))) (da_cons (de_tup (da_cons dint (da_cons dint da_nil))) (da_cons (de_tup (da_cons dint (da_cons dint da_nil))) da_nil)))) da_nil)))))
    (dss_one (ds_ret (de_and (de_cmp rd_eq (op_eqD hr.units) (de_ix (dv 15) dint) dstr) (de_and (de_cmp rd_eq (op_eqD hr.units) (de_sl (de_ix (dv 15) dint) po_d po_n) (de_tup (da_cons dint (da_cons dint da_nil)))) (de_and (de_cmp rd_eq (op_eqD hr.units) (de_ix (de_ix (dv 15) dint) dint) (de_tup (da_cons dint (da_cons dint (da_cons dint da_nil))))) (de_one (de_cmp rd_eq (op_eqD hr.units) (de_ix (de_call ok_pieces_or_load (hr.mono (by decide)) rfl (da_cons (dv 14) (da_cons dint (da_cons (de_tup (da_cons (de_tup (da_cons dint (da_cons dint da_nil))) (da_cons (de_tup (da_cons dint (da_cons dint da_nil))) (da_cons (de_tup (da_cons dint (da_cons dint da_nil))) da_nil)))) da_nil)))) dint) dstr))))))))))))))
  · obtain ⟨a, ns, rfl, hT, hS, k⟩ := h
    refine ⟨_, rfl, ?_⟩
    have ok0 : OkG c ⟨fun _ => False, fun _ => False, none⟩ H := ⟨⟨fun _ h => False.elim h, fun _ ⟨_, _, z, _⟩ => (by cases z)⟩, hT, fun _ _ z => (by cases z), fun _ h => False.elim h⟩
    refine ⟨⟨fun _ => False, fun _ => False, none⟩, a, ns, rfl, ok0, fun _ h => h, ?_, fun hh l H' cs st n1 n2 e hs => ?_⟩
    · rcases hS with hS | hS
      · exact .inl ⟨hS, id⟩
      · exact .inr fun H' => .inr hS
    · have eR : ((Rd H' a (.lst (ns.map V.int)) ∧ ¬ (a = hh ∨ a = l)) ∨ ∀ H' : Hp, SqL K H' a (ns.map V.int)) := by
        rcases hS with hS | hS
        · refine .inl ⟨Rd.le e.le hS fun z => Or.elim z (fun z => z) fun ⟨_, _, z, _⟩ => (by cases z), fun z => ?_⟩
          rcases z with z | z
          · exact rd_nT hS (by rw [z]; exact n1)
          · exact rd_nT hS (by rw [z]; exact n2)
        · exact .inr fun H' => .inr hS
      let G1 : Gh := ⟨fun x => x = hh ∨ x = l, fun _ => False, some (hh, l)⟩
      have S1 : SO c G1 (γ_law K a ns) ((L2.start N_law [.ref a]).set 1 (some (.ref hh))) H' := by
        refine ⟨rfl, fun i s q => ?_, fun i j s t b e1 e2 o1 o2 _ _ => ?_, ⟨⟨fun _ h => False.elim h, fun b ⟨h1, l1, z, w⟩ => ⟨?_, id⟩⟩, e.ch.tabs hT, hs.ok rfl, fun b z n => ?_⟩⟩
        · unfold γ_law at q
          match i, q with
          | 0, q => cases q; exact ⟨_, rfl, rfl, eR⟩
          | 1, q => cases q; exact ⟨_, rfl, .heap rfl⟩
          | i + 2, q =>
            have q' : (List.replicate 14 (none : Option SV))[i]? = some (some s) := q
            rw [List.getElem?_replicate] at q'
            split at q' <;> cases q'
        · unfold γ_law at e1
          match i, e1 with
          | 0, q => cases q; exact o1.elim
          | 1, q => cases q; exact o1.elim
          | i + 2, q =>
            have q' : (List.replicate 14 (none : Option SV))[i]? = some (some s) := q
            rw [List.getElem?_replicate] at q'
            split at q' <;> cases q'
        · cases z
          exact w
        · rcases z with rfl | rfl
          · exact nb_lst (n _ hs.at1)
          · exact nb_lst (n _ hs.at2)
      refine ⟨G1, _, _, S1, is a ns, fun _ _ _ _ _ _ z => z.elim, fun G2 d v H2 L2 ed im => ?_⟩
      subst ed
      cases im
      exact k H2
end
end DW
set_option Elab.async false
set_option linter.all false
set_option maxRecDepth 100000
set_option maxHeartbeats 1000000
set_option autoImplicit false
namespace DW
open PySem L2 K62
/-! ### pieces_or_load -/
def toldD (k : Int) : Sum (List Pc) Ld → D
  | .inl ps => .tup [.str "pieces", .tup (ps.map pD)]
  | .inr x => .tup [.str "leaf", leafD k x]
theorem range_next {n : Nat} {done r : List Nat} {x : Nat} (h : List.range n = done ++ x :: r) : x = done.length ∧ done.length < n := by
  have hl := congrArg List.length h
  rw [List.length_range, List.length_append, List.length_cons] at hl
  have hx : (List.range n)[done.length]? = (done ++ x :: r)[done.length]? := by rw [h]
  rw [List.getElem?_range (by omega), List.getElem?_append_right (Nat.le_refl _), Nat.sub_self] at hx
  exact ⟨(Option.some.inj hx).symm, by omega⟩
theorem serve_len (s t : Int) : ∀ (js : List Nat) (rest : List Int) (room : Int) (pcs : List Pc), (serve s t js rest room pcs).1.length = rest.length ∧ (serve s t js rest room pcs).2.2.length ≤ pcs.length + js.length
  | [], rest, room, pcs => ⟨rfl, Nat.le_refl _⟩
  | j :: js, rest, room, pcs => by
    unfold serve
    split
    · obtain ⟨h1, h2⟩ := serve_len s t js (rest.set j (ra rest j - units rest room j)) (room - units rest room j) (pcs ++ [⟨j, s, t, units rest room j⟩])
      rw [List.length_set] at h1
      rw [List.length_append] at h2
      exact ⟨h1, by simp at h2 ⊢; omega⟩
    · obtain ⟨h1, h2⟩ := serve_len s t js rest room pcs
      exact ⟨h1, by simp; omega⟩
theorem serve_nil {s t : Int} {rest : List Int} {room : Int} {pcs : List Pc} : serve s t [] rest room pcs = (rest, room, pcs) := rfl
theorem serve_cons {s t : Int} {j : Nat} {js : List Nat} {rest : List Int} {room : Int} {pcs : List Pc} : serve s t (j :: js) rest room pcs = if 0 < units rest room j then serve s t js (rest.set j (ra rest j - units rest room j)) (room - units rest room j) (pcs ++ [⟨j, s, t, units rest room j⟩]) else serve s t js rest room pcs := rfl
theorem steps_len (ws : List Wn) (size : Int) : ∀ i, (steps ws size i).1.length = ws.length ∧ (steps ws size i).2.length ≤ i * ws.length
  | 0 => ⟨by simp [steps], by simp [steps]⟩
  | i + 1 => by
    obtain ⟨h1, h2⟩ := steps_len ws size i
    obtain ⟨h3, h4⟩ := serve_len (edge ws i) (edge ws (i + 1)) (served ws (steps ws size i).1 (edge ws i) (edge ws (i + 1))) (steps ws size i).1 ((edge ws (i + 1) - edge ws i) * size) (steps ws size i).2
    have h5 := @served_len ws (steps ws size i).1 (edge ws i) (edge ws (i + 1))
    refine ⟨h3.trans h1, Nat.le_trans h4 ?_⟩
    rw [Nat.add_mul]
    omega
theorem served_lt {ws : List Wn} {rest : List Int} {s t : Int} {j : Nat} (h : j ∈ served ws rest s t) : j < ws.length := by
  unfold served at h
  exact (mem_opens.mp (List.mem_filter.mp ((List.mergeSort_perm _ _).mem_iff.mp h)).1).1
theorem noLs_j : ∀ js : List Nat, noLs (js.map jD) = true
  | [] => rfl
  | j :: r => by show (noL (jD j) && noLs (r.map jD)) = true; rw [noLs_j r]; rfl
theorem noL_p (ps : List Pc) : noLs (ps.map pD) = true := by
  induction ps with
  | nil => rfl
  | cons w r ih => show (noL (pD w) && noLs (r.map pD)) = true; rw [ih]; rfl
theorem edge_at {ws : List Wn} {i : Nat} (h : i < (edges ws).length) : atI ((edges ws).map D.int) ((i : Nat) : Int) = some (.int (edge ws i)) := by
  refine atI_map ?_
  unfold edge
  rw [List.getD_eq_getElem?_getD, List.getElem?_eq_getElem h]
  rfl
theorem sc2W_edges {γ : Ga} {P : List Int → Prop} (ws : List Wn) (g : GD) (ι1 : AD) (g1 : GD) (δ : ED) (vs1 : List Nat) : ∀ (items : List Wn) (acc : List Int), acc.length + 2 * items.length ≤ 1000 →
    (∀ w ∈ items, ∀ (Q : List Int → Prop) (acc : List Int), acc.length + 2 ≤ 1000 → Q (acc ++ [w.lo, w.fin]) → g (wD w) γ fun γ2 => ι1 γ2 fun it => scW g1 (fun _ P => P true) δ (wipeG γ2 vs1) it acc Q) → P (acc ++ (items.map fun w => [w.lo, w.fin]).flatten) → sc2W g (fun _ P => P true) ι1 g1 (fun _ P => P true) δ vs1 γ (items.map wD) acc P
  | [], acc, _, _, h => by simpa [sc2W] using h
  | w :: r, acc, hl, hw, h => by
    simp only [List.length_cons] at hl
    refine hw w List.mem_cons_self _ acc (by omega) ?_
    refine sc2W_edges ws g ι1 g1 δ vs1 r _ (by simp; omega) (fun v hv => hw v (List.mem_cons_of_mem _ hv)) ?_
    simpa [List.append_assoc] using h
theorem ixN_nat {n j : Nat} (h : j < n) : ixN n ((j : Nat) : Int) = some j := by
  unfold ixN
  rw [if_pos (Int.natCast_nonneg j), if_pos (Int.ofNat_lt.mpr h), Int.toNat_natCast]
theorem pol_is (u g : D) (wishes : List D) (k : Nat) (b : Bool) (js : List Jb) (size : Int) (bx : List (Int × Int)) (hk : wishes[k]? = some (wishD b js size)) (hb1 : b = true → size = 1) (hb : b = true → ∀ j ∈ js, j.n = 1) (hp : ∀ j ∈ js, j.p < bx.length) (hl : js.length ≤ 10) (hne : js ≠ [])
    (hg : Good (wsOf js bx) size) (hs : SmW (wsOf js bx)) (hz : Sm size) (P : D → Prop) (h : P (toldD (k : Nat) (told (wsOf js bx) size))) :
    F_pieces_or_load [.task u (.tup wishes) g, .int (k : Nat), .tup (bx.map bD)] P := by
  refine ⟨_, rfl, _, rfl, _, rfl, rfl, job_windows_is u g wishes k b js size bx hk hb hp (by omega) _ ⟨_, rfl, _, rfl, _, rfl, _, atI_nat hk, rfl, size_of_wish_is b js size hb1 _ ⟨by simp, _, rfl, rfl, _, _, rfl, _, _, rfl, rfl, ?_⟩⟩⟩
  have hwl : (wsOf js bx).length ≤ 10 := by unfold wsOf; rw [List.length_map]; exact hl
  have hwne : wsOf js bx ≠ [] := fun z => hne (List.map_eq_nil_iff.mp z)
  generalize wsOf js bx = ws at *
  have hel : (edges ws).length ≤ 20 := by
    have := edges_len ws
    omega
  have hep := edges_pos hwne
  refine ⟨⟨show 5 < 16 by decide, show 6 < 16 by decide⟩, _, rfl, .inl ⟨_, .inl rfl, ?_⟩⟩
  refine ⟨_, rfl, ⟨by (simp <;> omega), by (simp <;> omega)⟩, by (simp <;> omega), ?_⟩
  rw [List.length_map]
  refine lcW_map (fun j : Nat => D.int (at_ ws j).wk) (List.range ws.length) (fun j hj Q2 hq => ?_) ?_
  · have hj' := List.mem_range.mp hj
    refine ⟨_, rfl, _, rfl, by simp, rfl, work_of_is ws [j] hs (fun i hi => by rw [List.mem_singleton.mp hi]; exact hj') (by simp) _ ?_⟩
    simpa [workOf] using hq
  have e0 : (List.range ws.length).map (fun j : Nat => D.int (at_ ws j).wk) = (steps ws size 0).1.map D.int := by
    show _ = (ws.map Wn.wk).map D.int
    apply List.ext_getElem?
    intro i
    rw [List.getElem?_map, List.getElem?_map, List.getElem?_map]
    by_cases hi : i < ws.length
    · rw [List.getElem?_range hi, at_get hi]; rfl
    · rw [List.getElem?_eq_none (by simp; omega), List.getElem?_eq_none (by omega)]; rfl
  rw [e0]
  refine ⟨by simp, ?_⟩
  -- the edges
  refine ⟨_, rfl, _, rfl, ?_⟩
  refine sc2W_edges ws _ _ _ _ _ ws [] (by simp; omega) (fun w hw Q acc ha hq => ?_) ?_
  · refine ⟨_, rfl, _, rfl, _, rfl, rfl, window_end_is w _ ⟨by simp, _, rfl, ?_⟩⟩
    exact ⟨_, rfl, _, rfl, (by omega), _, rfl, _, rfl, (by simp; omega), (by
      show Q ((acc ++ [w.lo]) ++ [w.fin])
      simpa using hq)⟩
  refine ⟨by
    have : ∀ l : List Wn, ((l.map fun w => [w.lo, w.fin]).flatten).length = 2 * l.length := fun l => by
      induction l with
      | nil => rfl
      | cons w r ih => simp only [List.map_cons, List.flatten_cons, List.length_append, List.length_cons, List.length_nil] at ih ⊢; omega
    rw [List.nil_append, this]
    omega, ?_⟩
  rw [List.nil_append, show usort ((ws.map fun w => [w.lo, w.fin]).flatten) = edges ws from rfl]
  refine ⟨_, rfl, .inl ⟨_, .inr rfl, _, rfl, ⟨by (simp <;> omega), by (simp <;> omega)⟩, ?_⟩⟩
  have hn : (((((edges ws).map D.int).length : Nat) : Int) - 1).toNat = (edges ws).length - 1 := by (simp <;> omega)
  rw [hn]
  -- the loop over the edges
  refine forW_inv (enc := fun i : Nat => D.int (i : Nat)) (fun l γ => ∃ done x7 x11 x12 x13 x14 x15, List.range ((edges ws).length - 1) = done ++ l ∧ γ = [some (.d (.task u (.tup wishes) g)), some (.d (.int (k : Nat))), some (.d (.tup (bx.map bD))), some (.d (.tup (ws.map wD))), some (.d (.int size)), some (.l ((steps ws size done.length).1.map .int)), some (.l ((steps ws size done.length).2.map pD)), x7, some (.d (.lst ((edges ws).map .int))), none, none, x11, x12, x13, x14, x15]) (List.range ((edges ws).length - 1)) _ ⟨[], none, none, none, none, none, none, rfl, rfl⟩ ?_ ?_
  · rintro i r γ ⟨done, x7, x11, x12, x13, x14, x15, hd, rfl⟩ K2 hK
    obtain ⟨hi, hi2⟩ := range_next hd
    obtain ⟨sl1, sl2⟩ := steps_len ws size done.length
    subst hi
    refine ⟨⟨show 12 < 16 by decide, show 13 < 16 by decide⟩, _, rfl, _, rfl, _, edge_at (by omega), _, rfl, _, rfl, _, edge_at (i := done.length + 1) (by omega), ?_⟩
    refine ⟨_, rfl, _, rfl, _, rfl, .inr hz, ?_⟩
    refine ⟨_, rfl, _, rfl, _, rfl, _, rfl, _, rfl, rfl, ws, _, _, _, rfl, sl1, (by omega), noLs_j _, ?_⟩
    have bnd : (steps ws size done.length).2.length + (served ws (steps ws size done.length).1 (edge ws done.length) (edge ws (done.length + 1))).length ≤ 1000 := by
      have h5 := @served_len ws (steps ws size done.length).1 (edge ws done.length) (edge ws (done.length + 1))
      have h6 : done.length * ws.length ≤ 20 * 10 := Nat.mul_le_mul (by omega) hwl
      omega
    have final : ∀ x7' x14' x15', K2 [some (.d (.task u (.tup wishes) g)), some (.d (.int (k : Nat))), some (.d (.tup (bx.map bD))), some (.d (.tup (ws.map wD))), some (.d (.int size)), some (.l ((steps ws size (done.length + 1)).1.map .int)), some (.l ((steps ws size (done.length + 1)).2.map pD)), x7', some (.d (.lst ((edges ws).map .int))), none, none, some (.d (.int (done.length : Nat))), some (.d (.int (edge ws done.length))), some (.d (.int (edge ws (done.length + 1)))), x14', x15'] := fun x7' x14' x15' => by
      refine hK _ ⟨done ++ [done.length], x7', some (.d (.int (done.length : Nat))), some (.d (.int (edge ws done.length))), some (.d (.int (edge ws (done.length + 1)))), x14', x15', by rw [hd]; simp, ?_⟩
      rw [List.length_append, List.length_singleton]
    have es : steps ws size (done.length + 1) = slot ws size (edge ws done.length) (edge ws (done.length + 1)) (steps ws size done.length) := rfl
    rw [es] at final
    unfold slot at final
    have slt : ∀ j ∈ served ws (steps ws size done.length).1 (edge ws done.length) (edge ws (done.length + 1)), j < ws.length := fun j hj => served_lt hj
    generalize served ws (steps ws size done.length).1 (edge ws done.length) (edge ws (done.length + 1)) = sv at final bnd slt ⊢
    refine forW_inv (enc := jD) (fun l γ => ∃ rest room pcs x7 x15, serve (edge ws done.length) (edge ws (done.length + 1)) l rest room pcs = serve (edge ws done.length) (edge ws (done.length + 1)) sv (steps ws size done.length).1 ((edge ws (done.length + 1) - edge ws done.length) * size) (steps ws size done.length).2 ∧ rest.length = ws.length ∧ pcs.length + l.length ≤ 1000 ∧ (∀ j ∈ l, j < ws.length) ∧ γ = [some (.d (.task u (.tup wishes) g)), some (.d (.int (k : Nat))), some (.d (.tup (bx.map bD))), some (.d (.tup (ws.map wD))), some (.d (.int size)), some (.l (rest.map .int)), some (.l (pcs.map pD)), x7, some (.d (.lst ((edges ws).map .int))), none, none, some (.d (.int (done.length : Nat))), some (.d (.int (edge ws done.length))), some (.d (.int (edge ws (done.length + 1)))), some (.d (.int room)), x15]) sv _ ⟨_, _, _, x7, x15, rfl, sl1, bnd, slt, rfl⟩ ?_ ?_
    · rintro j l γ ⟨rest, room, pcs, y7, y15, he, hrl, hbd, hlt, rfl⟩ K3 hK3
      have hj : j < rest.length := by rw [hrl]; exact hlt j List.mem_cons_self
      simp only [List.length_cons] at hbd
      refine ⟨_, rfl, _, rfl, _, rfl, _, rest_at hj, _, rfl, _, _, rfl, rfl, ?_⟩
      rw [serve_cons] at he
      refine ⟨_, rfl, _, rfl, ?_⟩
      refine ifB (fun z => ?_) fun z => ?_
      · rw [if_pos (show 0 < units rest room j from of_decide_eq_true z)] at he
        refine ⟨_, rfl, by rw [List.length_map]; omega, _, rfl, _, rfl, _, rfl, _, rfl, by simp, ?_⟩
        refine ⟨_, rfl, _, rfl, _, rfl, _, rest_at hj, _, rfl, _, rfl, _, rfl, by simp, rfl, _, _, rfl, _, rfl, _, rfl, _, rfl, ?_⟩
        refine ⟨j, ixN_nat (by rw [List.length_map]; exact hj), ?_⟩
        refine hK3 _ ⟨_, _, _, some (.d (jD j)), some (.d (.int (units rest room j))), he, by rw [List.length_set]; exact hrl, by (rw [List.length_append, List.length_singleton]; omega), fun j' h' => hlt j' (List.mem_cons_of_mem _ h'), ?_⟩
        rw [List.map_append, ← List.map_set]
        rfl
      · rw [if_neg (show ¬ 0 < units rest room j from of_decide_eq_false z)] at he
        exact hK3 _ ⟨rest, room, pcs, _, _, he, hrl, by omega, fun j' h' => hlt j' (List.mem_cons_of_mem _ h'), rfl⟩
    · rintro γ ⟨rest, room, pcs, y7, y15, he, hrl, hbd, hlt, rfl⟩
      rw [serve_nil] at he
      rw [← he] at final
      exact final _ _ _
  · rintro γ ⟨done, x7, x11, x12, x13, x14, x15, hd, rfl⟩
    have hdl : done.length = (edges ws).length - 1 := by
      have := congrArg List.length hd
      simpa using this.symm
    rw [hdl, ← final_eq]
    obtain ⟨fl1, fl2⟩ := steps_len ws size ((edges ws).length - 1)
    rw [← final_eq] at fl1 fl2
    have fl3 : ((edges ws).length - 1) * ws.length ≤ 20 * 10 := Nat.mul_le_mul (by omega) hwl
    refine ⟨_, rfl, _, rfl, _, rfl, by rw [List.length_map]; omega, ?_⟩
    refine lcW_map (fun r : Int => D.bl (decide (r > 0))) (final ws size).1 (fun r _ Q2 hq => ⟨_, rfl, hq⟩) ?_
    refine ⟨(final ws size).1.map fun r => decide (r > 0), by rw [List.map_map]; rfl, _, rfl, ?_⟩
    have ea : (((final ws size).1.map fun r => decide (r > 0)).all id, ((final ws size).1.map fun r => decide (r > 0)).any id).2 = (final ws size).1.any (fun r => decide (r > 0)) := by
      rw [List.any_map]; rfl
    rw [show ((final ws size).1.map fun r => decide (r > 0)).any id = (final ws size).1.any (fun r => decide (r > 0)) from ea]
    refine ifB (fun z => ?_) fun z => ?_
    · have ht : told ws size = .inr ((loads ws size).headD default) := if_pos z
      rw [ht] at h
      obtain ⟨_, hl, _, _⟩ := told_load hg hwne ht
      refine ⟨_, rfl, _, rfl, _, rfl, rfl, load_parts_is ws size hs hz (by omega) _ ?_⟩
      obtain ⟨y, r, hy⟩ := List.exists_cons_of_ne_nil hl
      rw [hy] at h ⊢
      exact ⟨_, atI_map (ws := y :: r) (j := 0) rfl, rfl, leaf_of_part_is _ _ _ ⟨by simp, h⟩⟩
    · have ht : told ws size = .inl ((final ws size).2.mergeSort leP) := if_neg (by rw [z]; decide)
      rw [ht] at h
      refine ⟨_, rfl, _, rfl, _, rfl, by omega, _, .inl rfl, by simp, ?_, h⟩
      show (noL (.str "pieces") && (noL (.tup _) && true)) = true
      rw [show noL (.tup (((final ws size).2.mergeSort leP).map pD)) = noLs (((final ws size).2.mergeSort leP).map pD) from rfl, noL_p]
      rfl
end DW
set_option Elab.async false
set_option linter.all false
set_option maxRecDepth 100000
set_option maxHeartbeats 1000000
set_option autoImplicit false
namespace DW
open PySem L2 K62
/-! ### equality of data -/
def okN (n : Nat) (d : D) : Prop := plain d = true ∧ PyData.canLay0 (toP d) = true ∧ PyData.depth (toP d) ≤ n
theorem okN_int {n : Nat} {i : Int} : okN n (.int i) := ⟨rfl, rfl, Nat.zero_le _⟩
theorem okN_str {n : Nat} {s : Str} (h : PyData.canLay0 (.str s) = true) : okN n (.str s) := ⟨rfl, h, Nat.zero_le _⟩
theorem okN_all {n : Nat} : ∀ ds : List D, (∀ d ∈ ds, okN n d) → plains ds = true ∧ PyData.canLayAll0 (toPs ds) = true ∧ PyData.depthAll (toPs ds) ≤ n
  | [], _ => ⟨rfl, rfl, Nat.zero_le _⟩
  | d :: ds, h => by
    obtain ⟨a1, a2, a3⟩ := h d List.mem_cons_self
    obtain ⟨b1, b2, b3⟩ := okN_all ds fun x hx => h x (List.mem_cons_of_mem _ hx)
    refine ⟨?_, ?_, ?_⟩
    · show (plain d && plains ds) = true
      rw [a1, b1]; rfl
    · show PyData.canLayAll0 (toP d :: toPs ds) = true
      rw [PyData.canLayAll0, a2, b2]; rfl
    · show PyData.depthAll (toP d :: toPs ds) ≤ n
      rw [PyData.depthAll]
      exact Nat.max_le.mpr ⟨a3, b3⟩
theorem okN_tup {n : Nat} {ds : List D} (h : ∀ d ∈ ds, okN n d) : okN (n + 1) (.tup ds) := by
  obtain ⟨b1, b2, b3⟩ := okN_all ds h
  refine ⟨b1, ?_, ?_⟩
  · show PyData.canLay0 (.tuple (toPs ds)) = true
    rw [PyData.canLay0]; exact b2
  · show PyData.depth (.tuple (toPs ds)) ≤ n + 1
    rw [PyData.depth]; omega
theorem okN_lst {n : Nat} {ds : List D} (h : ∀ d ∈ ds, okN n d) : okN (n + 1) (.lst ds) := by
  obtain ⟨b1, b2, b3⟩ := okN_all ds h
  refine ⟨b1, ?_, ?_⟩
  · show PyData.canLay0 (.list (toPs ds)) = true
    rw [PyData.canLay0]; exact b2
  · show PyData.depth (.list (toPs ds)) ≤ n + 1
    rw [PyData.depth]; omega
theorem okN.ok {n : Nat} {d : D} (h : okN n d) (hn : n ≤ 64) : okD d = true := by
  obtain ⟨a1, a2, a3⟩ := h
  unfold okD SeqAt.shaped
  rw [a1, a2, decide_eq_true (Nat.le_trans a3 hn)]; rfl
theorem okN.refl {n : Nat} {d : D} (h : okN n d) : eqD d d = true := SeqAt.eqv_refl _ h.2.1
theorem okN.mono {n m : Nat} {d : D} (h : okN n d) (hn : n ≤ m) : okN m d := ⟨h.1, h.2.1, Nat.le_trans h.2.2 hn⟩
theorem okN_ints {l : List Int} : ∀ d ∈ l.map D.int, okN 0 d := fun d hd => by
  obtain ⟨i, _, rfl⟩ := List.mem_map.mp hd
  exact okN_int
theorem okN_js {l : List Nat} : ∀ d ∈ l.map jD, okN 0 d := fun d hd => by
  obtain ⟨i, _, rfl⟩ := List.mem_map.mp hd
  exact okN_int
theorem okN_p (p : Pc) : okN 1 (pD p) := okN_tup fun d hd => by
  simp only [List.mem_cons, List.not_mem_nil, or_false] at hd
  rcases hd with rfl | rfl | rfl | rfl <;> exact okN_int
theorem eqD_pair {a b c d : Int} : eqD (.tup [.int a, .int b]) (.tup [.int c, .int d]) = decide ((a, b) = (c, d)) := by
  show PyData.eqv (.tuple [.int a, .int b]) (.tuple [.int c, .int d]) = _
  rw [PyData.eqv, PyData.eqvAll, PyData.eqvAll, PyData.eqvAll, PyData.eqv, PyData.eqv]
  rw [Bool.eq_iff_iff]
  simp
theorem okD_int (i : Int) : okD (.int i) = true := (okN_int (n := 0)).ok (by decide)
theorem eqD_int {a b : Int} : eqD (.int a) (.int b) = decide (a = b) := by
  show PyData.eqv (.int a) (.int b) = _
  rw [PyData.eqv, Bool.eq_iff_iff]
  simp
theorem eqi {a b : Int} (h : a = b) : eqD (.int a) (.int b) = true := by rw [eqD_int]; exact decide_eq_true h
theorem nei {a b : Int} (h : a ≠ b) : eqD (.int a) (.int b) = false := by rw [eqD_int]; exact decide_eq_false h
theorem nne {a b : Int} (h : a = b) : (!eqD (.int a) (.int b)) = false := by rw [eqi h]; rfl
/-! ### the checkers -/
theorem is_integer_is (i : Int) (P : D → Prop) (h : P (.bl true)) : F_is_integer [.int i] P := by
  refine ⟨_, rfl, rfl, _, rfl, ifT rfl ?_⟩
  exact ⟨_, rfl, rfl, _, rfl, h⟩
theorem is_number_is (i : Int) (h0 : 0 ≤ i) (P : D → Prop) (h : P (.bl true)) : F_is_number [.int i] P := by
  refine ⟨_, rfl, rfl, is_integer_is i _ ⟨_, rfl, ifT rfl ?_⟩⟩
  refine ⟨_, rfl, ?_⟩
  have e : decide (i ≥ 0) = true := decide_eq_true h0
  show P (.bl (decide (i ≥ 0)))
  rw [e]
  exact h
theorem all_true {α : Type} (f : α → Bool) (l : List α) (h : ∀ x ∈ l, f x = true) : (l.map f).all id = true := by
  rw [List.all_map, List.all_eq_true]
  exact h
theorem is_listing_is (ns : List Nat) (bound : Nat) (hl : ns.length ≤ 1000) (hp : ns.Pairwise (· < ·)) (hb : ∀ n ∈ ns, n < bound) (P : D → Prop) (h : P (.bl true)) : F_is_listing [.tup (ns.map jD), .int (bound : Nat)] P := by
  refine ⟨_, rfl, rfl, _, rfl, ?_⟩
  refine ifF rfl ?_
  refine ⟨_, rfl, _, rfl, by rw [List.length_map]; exact hl, ?_⟩
  refine lcW_map (fun n : Nat => D.bl (decide ((n : Int) < (bound : Int)))) ns (fun n hn Q2 hq => ?_) ?_
  · refine ⟨_, rfl, rfl, is_number_is _ (Int.natCast_nonneg n) _ ⟨_, rfl, ifT rfl ?_⟩⟩
    exact ⟨_, rfl, _, rfl, hq⟩
  refine ⟨ns.map fun n : Nat => decide ((n : Int) < (bound : Int)), by rw [List.map_map]; rfl, _, rfl, ?_⟩
  rw [all_true _ ns fun n hn => decide_eq_true (Int.ofNat_lt.mpr (hb n hn))]
  refine ifF rfl ?_
  refine ⟨_, rfl, .inl ⟨_, .inl rfl, _, rfl, ⟨by (simp <;> omega), by (simp <;> omega)⟩, by (simp <;> omega), ?_⟩⟩
  have hn : (((((ns.map jD).length : Nat) : Int) - 1).toNat) = ns.length - 1 := by (simp <;> omega)
  rw [hn]
  refine lcW_map (fun i : Nat => D.bl true) (List.range (ns.length - 1)) (fun i hi Q2 hq => ?_) ?_
  · have hi' : i + 1 < ns.length := by have := List.mem_range.mp hi; omega
    refine ⟨_, rfl, _, rfl, _, atI_map (List.getElem?_eq_getElem (by omega : i < ns.length)), _, rfl, _, rfl, _, atI_map (j := i + 1) (List.getElem?_eq_getElem hi'), ?_⟩
    have lt : ns[i] < ns[i + 1] := List.pairwise_iff_getElem.mp hp i (i + 1) _ _ (by omega)
    show Q2 (.bl (decide (((ns[i] : Nat) : Int) < ((ns[i + 1] : Nat) : Int))))
    rw [decide_eq_true (Int.ofNat_lt.mpr lt)]
    exact hq
  refine ⟨(List.range (ns.length - 1)).map fun _ => true, by rw [List.map_map]; rfl, ?_⟩
  rw [all_true _ _ fun _ _ => rfl]
  exact h
end DW
set_option Elab.async false
set_option linter.all false
set_option maxRecDepth 100000
set_option maxHeartbeats 1000000
set_option autoImplicit false
namespace DW
open PySem L2 K62
structure WOK (b : Bool) (js : List Jb) (size : Int) (n : Nat) : Prop where
  len : 2 ≤ js.length ∧ js.length ≤ 10
  asc : (js.map (·.p)).Pairwise (· < ·)
  lt : ∀ j ∈ js, j.p < n
  pos : ∀ j ∈ js, 1 ≤ j.l ∧ 1 ≤ j.n ∧ j.n ≤ size
  bench : b = true → size = 1
theorem WOK.one {b : Bool} {js : List Jb} {size : Int} {n : Nat} (W : WOK b js size n) (h : b = true) : ∀ j ∈ js, j.n = 1 := fun j hj => by
  have := W.pos j hj
  have := W.bench h
  omega
theorem are_places_is (ns : List Nat) (bound : Nat) (hl : ns.length ≤ 1000) (h2 : 2 ≤ ns.length) (hp : ns.Pairwise (· < ·)) (hb : ∀ n ∈ ns, n < bound) (P : D → Prop) (h : P (.bl true)) : F_are_places [.tup (ns.map jD), .int (bound : Nat)] P := by
  refine ⟨_, rfl, _, rfl, rfl, is_listing_is ns bound hl hp hb _ ⟨_, rfl, ifT rfl ?_⟩⟩
  refine ⟨_, rfl, .inl ⟨_, .inl rfl, ?_⟩⟩
  show P (.bl (decide ((2 : Int) ≤ ((ns.map jD).length : Nat))))
  rw [decide_eq_true (by rw [List.length_map]; omega)]
  exact h
theorem is_lot_of_is (ns : List Int) (many : Int) (hm : (ns.length : Int) = many) (hl : ns.length ≤ 1000) (P : D → Prop) (h : P (.bl true)) : F_is_lot_of [.tup (ns.map .int), .int many] P := by
  refine ⟨_, rfl, rfl, _, rfl, ifT rfl ?_⟩
  refine ⟨_, rfl, .inl ⟨_, .inl rfl, _, rfl, ⟨rfl, rfl⟩, _, rfl, ifT ?_ ?_⟩⟩
  · rw [List.length_map, hm]
    exact okN_int.refl (n := 0)
  refine ⟨_, rfl, _, rfl, by rw [List.length_map]; exact hl, ?_⟩
  refine lcW_map (fun _ : Int => D.bl true) ns (fun n hn Q2 hq => ⟨_, rfl, rfl, is_integer_is n _ hq⟩) ?_
  refine ⟨ns.map fun _ => true, by rw [List.map_map]; rfl, ?_⟩
  rw [all_true _ _ fun _ _ => rfl]
  exact h
/-- a job as a tuple -/
def jT (b : Bool) (j : Jb) : D := if b then j2 j else j3 j
theorem wishD_eq (b : Bool) (js : List Jb) (size : Int) : wishD b js size = .tup ([.str (if b then "bench" else "room"), .tup (js.map (jT b))] ++ if b then [] else [.int size]) := by cases b <;> rfl
theorem are_jobs_is (b : Bool) (js : List Jb) (size : Int) (n : Nat) (W : WOK b js size n) (P : D → Prop) (h : P (.bl true)) : F_are_jobs [.tup (js.map (jT b)), .int (n : Nat), .int (if b then 2 else 3)] P := by
  have hl := W.len
  refine ⟨_, rfl, rfl, _, rfl, ?_⟩
  refine ifF rfl ?_
  refine ⟨_, rfl, .inl ⟨_, .inl rfl, _, rfl, ?_⟩⟩
  refine ifF (decide_eq_false (by rw [List.length_map]; omega)) ?_
  refine ⟨_, rfl, _, rfl, by rw [List.length_map]; omega, ?_⟩
  refine lcW_map (fun _ : Jb => D.bl true) js (fun j hj Q2 hq => ?_) ?_
  · refine ⟨_, rfl, _, rfl, rfl, ?_⟩
    cases b with
    | true => exact is_lot_of_is [(j.p : Nat), j.l] 2 rfl (by simp) _ hq
    | false => exact is_lot_of_is [(j.p : Nat), j.l, j.n] 3 rfl (by simp) _ hq
  refine ⟨js.map fun _ => true, by rw [List.map_map]; rfl, _, rfl, ?_⟩
  rw [all_true _ _ fun _ _ => rfl]
  refine ifF rfl ?_
  refine ⟨_, rfl, _, rfl, by rw [List.length_map]; omega, ?_⟩
  refine lcW_map (fun _ : Jb => D.bl true) js (fun j hj Q2 hq => ?_) ?_
  · obtain ⟨p1, p2, p3⟩ := W.pos j hj
    cases b with
    | true =>
      refine ⟨_, rfl, _, rfl, j.l, [], rfl, ?_⟩
      show Q2 (.bl (decide ((1 : Int) ≤ j.l)))
      rw [decide_eq_true p1]
      exact hq
    | false =>
      refine ⟨_, rfl, _, rfl, j.l, [j.n], rfl, ?_⟩
      show Q2 (.bl (decide ((1 : Int) ≤ min j.l j.n)))
      rw [decide_eq_true (by omega)]
      exact hq
  refine ⟨js.map fun _ => true, by rw [List.map_map]; rfl, _, rfl, ?_⟩
  rw [all_true _ _ fun _ _ => rfl]
  refine ifF rfl ?_
  refine ⟨_, rfl, _, rfl, by rw [List.length_map]; omega, ?_⟩
  refine lcW_map (fun j : Jb => jD j.p) js (fun j hj Q2 hq => ?_) ?_
  · cases b <;> exact ⟨_, rfl, _, rfl, hq⟩
  refine ⟨_, .inl rfl, _, rfl, rfl, ?_⟩
  have := is_listing_is (js.map (·.p)) n (by rw [List.length_map]; omega) W.asc (fun m hm => by
    obtain ⟨j, hj, rfl⟩ := List.mem_map.mp hm
    exact W.lt j hj) P h
  rw [List.map_map] at this
  exact this
theorem is_bench_is (js : List Jb) (size : Int) (n : Nat) (W : WOK true js size n) (P : D → Prop) (h : P (.bl true)) : F_is_bench [wishD true js size, .int (n : Nat)] P := by
  refine ⟨_, rfl, .inl ⟨_, .inl rfl, ⟨okD_int _, okD_int _⟩, _, rfl, ifT (eqi rfl) ?_⟩⟩
  exact ⟨_, rfl, _, rfl, _, rfl, rfl, are_jobs_is true js size n W P h⟩
theorem is_room_is (js : List Jb) (size : Int) (n : Nat) (W : WOK false js size n) (P : D → Prop) (h : P (.bl true)) : F_is_room [wishD false js size, .int (n : Nat)] P := by
  have hl := W.len
  refine ⟨_, rfl, .inl ⟨_, .inl rfl, ⟨okD_int _, okD_int _⟩, _, rfl, ?_⟩⟩
  refine ifF (nne rfl) ?_
  refine ⟨_, rfl, _, rfl, _, rfl, rfl, are_jobs_is false js size n W _ ⟨_, rfl, ?_⟩⟩
  refine ifF rfl ?_
  refine ⟨_, rfl, _, rfl, rfl, is_integer_is size _ ⟨_, rfl, ?_⟩⟩
  refine ifF rfl ?_
  refine ⟨_, rfl, _, rfl, _, rfl, by rw [List.length_map]; omega, ?_⟩
  refine lcW_map (enc := j3) (fun _ : Jb => D.bl true) js (fun j hj Q2 hq => ?_) ?_
  · refine ⟨_, rfl, _, rfl, _, rfl, _, rfl, ?_⟩
    show Q2 (.bl (decide (j.n ≤ size)))
    rw [decide_eq_true (W.pos j hj).2.2]
    exact hq
  refine ⟨js.map fun _ => true, by rw [List.map_map]; rfl, ?_⟩
  rw [all_true _ _ fun _ _ => rfl]
  exact h
theorem is_wish_is (b : Bool) (js : List Jb) (size : Int) (n : Nat) (W : WOK b js size n) (P : D → Prop) (h : P (.bl true)) : F_is_wish [wishD b js size, .int (n : Nat)] P := by
  cases b with
  | true =>
    refine ⟨_, rfl, rfl, _, rfl, ifF rfl ?_⟩
    refine ⟨_, rfl, .inl ⟨_, .inl rfl, ⟨okD_int _, okD_int _⟩, _, rfl, ifF (nei (by simp)) ?_⟩⟩
    refine ⟨_, rfl, _, rfl, rfl, _, rfl, ifF rfl ?_⟩
    refine ⟨_, rfl, _, rfl, by simp, ["unlike", "round"], rfl, _, rfl, ifF (by decide +kernel) ?_⟩
    refine ⟨_, rfl, _, rfl, ⟨by decide +kernel, by decide +kernel⟩, _, rfl, ifF (by decide +kernel) ?_⟩
    refine ⟨_, rfl, _, rfl, ⟨by decide +kernel, by decide +kernel⟩, _, rfl, ifF (by decide +kernel) ?_⟩
    refine ⟨_, rfl, _, rfl, ⟨by decide +kernel, by decide +kernel⟩, _, rfl, ifT (by decide +kernel) ?_⟩
    exact ⟨_, rfl, _, rfl, rfl, is_bench_is js size n W P h⟩
  | false =>
    refine ⟨_, rfl, rfl, _, rfl, ifF rfl ?_⟩
    refine ⟨_, rfl, .inl ⟨_, .inl rfl, ⟨okD_int _, okD_int _⟩, _, rfl, ifF (nei (by simp)) ?_⟩⟩
    refine ⟨_, rfl, _, rfl, rfl, _, rfl, ifF rfl ?_⟩
    refine ⟨_, rfl, _, rfl, by simp, ["unlike", "round"], rfl, _, rfl, ifF (by decide +kernel) ?_⟩
    refine ⟨_, rfl, _, rfl, ⟨by decide +kernel, by decide +kernel⟩, _, rfl, ifF (by decide +kernel) ?_⟩
    refine ⟨_, rfl, _, rfl, ⟨by decide +kernel, by decide +kernel⟩, _, rfl, ifF (by decide +kernel) ?_⟩
    refine ⟨_, rfl, _, rfl, ⟨by decide +kernel, by decide +kernel⟩, _, rfl, ifF (by decide +kernel) ?_⟩
    refine ⟨_, rfl, _, rfl, ⟨by decide +kernel, by decide +kernel⟩, _, rfl, ifT (by decide +kernel) ?_⟩
    exact ⟨_, rfl, _, rfl, rfl, is_room_is js size n W P h⟩
def unlikeD : D := .tup [.str "unlike", .tup [.int 0, .int 1]]
theorem is_wish_unlike (n : Nat) (hn : 2 ≤ n) (P : D → Prop) (h : P (.bl true)) : F_is_wish [unlikeD, .int (n : Nat)] P := by
  refine ⟨_, rfl, rfl, _, rfl, ifF rfl ?_⟩
  refine ⟨_, rfl, .inl ⟨_, .inl rfl, ⟨by decide +kernel, by decide +kernel⟩, _, rfl, ifF (by decide +kernel) ?_⟩⟩
  refine ⟨_, rfl, _, rfl, rfl, _, rfl, ifF rfl ?_⟩
  refine ⟨_, rfl, _, rfl, by simp, ["unlike", "round"], rfl, _, rfl, ifT (by decide +kernel) ?_⟩
  refine ⟨_, rfl, .inl ⟨_, .inl rfl, ⟨by decide +kernel, by decide +kernel⟩, _, rfl, ifT (by decide +kernel) ?_⟩⟩
  exact ⟨_, rfl, _, rfl, _, rfl, rfl, are_places_is [0, 1] n (by simp) (by simp) (by simp) (fun m hm => by simp at hm; omega) P h⟩
/-! ### names, unknowns, tasks -/
def nameOK (s : Str) : Bool := decide (1 ≤ s.length) && (decide (s.length ≤ 6) && (!decide (s ∈ textWords) && s.cps.toList.all fun ch => decide (ch ∈ ("abcdefghijklmnopqrstuvwxyz" : Str).cps.toList)))
theorem is_name_is (s : Str) (hs : nameOK s = true) (P : D → Prop) (h : P (.bl true)) : F_is_name [.str s] P := by
  unfold nameOK at hs
  rw [Bool.and_eq_true, Bool.and_eq_true, Bool.and_eq_true, Bool.not_eq_true'] at hs
  obtain ⟨h1, h2, h3, h4⟩ := hs
  have h1' := of_decide_eq_true h1
  have h2' := of_decide_eq_true h2
  refine ⟨_, rfl, rfl, _, rfl, ifF rfl ?_⟩
  refine ⟨_, rfl, .inr ⟨s, rfl, by omega, ?_⟩⟩
  refine ⟨_, rfl, ifT (decide_eq_true (by omega)) ⟨_, rfl, ?_⟩⟩
  refine ifF (by rw [decide_eq_true (show ((s.length : Nat) : Int) ≤ 6 by omega)]; rfl) ?_
  refine ⟨_, rfl, _, rfl, ifF h3 ?_⟩
  have sl : s.cps.toList.length ≤ 6 := by
    have : s.cps.toList.length = s.length := by simp [Str.length]
    omega
  refine ⟨_, rfl, _, rfl, by rw [List.length_map]; omega, ?_⟩
  refine lcW_map (fun _ => D.bl true) s.cps.toList (fun ch hc Q2 hq => ?_) ?_
  · refine ⟨_, rfl, ch, rfl, ?_⟩
    rw [List.all_eq_true.mp h4 ch hc]
    exact hq
  refine ⟨s.cps.toList.map fun _ => true, by rw [List.map_map]; rfl, ?_⟩
  rw [all_true _ _ fun _ _ => rfl]
  exact h
structure UOK (u : Str × Int × Int) : Prop where
  name : nameOK u.1 = true
  le : u.2.1 ≤ u.2.2
theorem is_unknown_is (u : Str × Int × Int) (U : UOK u) (P : D → Prop) (h : P (.bl true)) : F_is_unknown [uD u] P := by
  refine ⟨_, rfl, rfl, _, rfl, ifF rfl ?_⟩
  refine ⟨_, rfl, .inl ⟨_, .inl rfl, ⟨okD_int _, okD_int _⟩, _, rfl, ifF (nne rfl) ?_⟩⟩
  refine ⟨_, rfl, _, rfl, rfl, is_name_is u.1 U.name _ ⟨_, rfl, ifF rfl ?_⟩⟩
  refine ⟨_, rfl, _, rfl, rfl, is_integer_is _ _ ⟨_, rfl, ifT rfl ?_⟩⟩
  refine ⟨_, rfl, _, rfl, rfl, is_integer_is _ _ ⟨_, rfl, ifT rfl ?_⟩⟩
  refine ⟨_, rfl, _, rfl, _, rfl, _, rfl, ?_⟩
  show P (.bl (decide (u.2.1 ≤ u.2.2)))
  rw [decide_eq_true U.le]
  exact h
end DW
set_option Elab.async false
set_option linter.all false
set_option maxRecDepth 100000
set_option maxHeartbeats 1000000
set_option autoImplicit false
namespace DW
open PySem L2 K62
theorem zip_gen {α : Type} (enc : α → D) (l : List α) : (l.map enc).zipIdx.map (fun p => D.tup [.int (p.2 : Nat), p.1]) = l.zipIdx.map fun p => D.tup [.int (p.2 : Nat), enc p.1] := by
  rw [List.zipIdx_map, List.map_map]
  rfl
theorem zip_mem {α : Type} {l : List α} {p : α × Nat} (h : p ∈ l.zipIdx) : l[p.2]? = some p.1 := List.mem_zipIdx_iff_getElem?.mp h
def ltS (x y : Str) : Prop := ∀ P : D → Prop, P (.bl true) → oLt (.str x) (.str y) P
structure UsOK (us : List (Str × Int × Int)) : Prop where
  ne : us ≠ []
  len : us.length ≤ 100
  each : ∀ u ∈ us, UOK u
  asc : ∀ (i : Nat) u v, us[i]? = some u → us[i + 1]? = some v → ltS u.1 v.1
theorem check_unknowns_is (us : List (Str × Int × Int)) (U : UsOK us) (P : D → Prop) (h : P .no) : F_check_unknowns [.tup (us.map uD)] P := by
  have hne : 0 < us.length := List.length_pos_iff.mpr U.ne
  refine ⟨_, rfl, rfl, _, rfl, ifF rfl ?_⟩
  refine ⟨_, rfl, .inl ⟨_, .inl rfl, ⟨okD_int _, okD_int _⟩, _, rfl, ifF (nei (by rw [List.length_map]; omega)) ?_⟩⟩
  refine ⟨_, rfl, _, rfl, ?_⟩
  rw [zip_gen]
  refine forW_inv (fun l γ => ∃ x1 x2, (∀ p ∈ l, us[p.2]? = some p.1) ∧ γ = [some (.d (.tup (us.map uD))), x1, x2]) us.zipIdx _ ⟨none, none, fun p hp => zip_mem hp, rfl⟩ ?_ ?_
  · rintro p r γ ⟨x1, x2, hm, rfl⟩ K2 hK
    have hp := hm p List.mem_cons_self
    have fin : K2 [some (.d (.tup (us.map uD))), some (.d (.int (p.2 : Nat))), some (.d (uD p.1))] := hK _ ⟨_, _, fun q hq => hm q (List.mem_cons_of_mem _ hq), rfl⟩
    refine ⟨_, rfl, rfl, _, _, rfl, _, _, rfl, rfl, ?_⟩
    refine ⟨_, rfl, rfl, is_unknown_is _ (U.each _ (List.mem_of_getElem? hp)) _ ⟨_, rfl, ifF rfl ?_⟩⟩
    refine ⟨_, rfl, _, rfl, ?_⟩
    refine ifB (fun z => ?_) fun z => ?_
    · have z' : 0 < p.2 := by
        have := of_decide_eq_true z
        omega
      obtain ⟨m, em⟩ : ∃ m, p.2 = m + 1 := ⟨p.2 - 1, by omega⟩
      have hlt : p.2 < us.length := (List.getElem?_eq_some_iff.mp hp).1
      have hm2 : us[m]? = some us[m] := List.getElem?_eq_getElem (by omega)
      refine ⟨_, rfl, _, rfl, uD us[m], ?_, _, rfl, _, rfl, _, rfl, U.asc m _ p.1 hm2 (by rw [← em]; exact hp) _ ⟨_, rfl, ifF rfl fin⟩⟩
      have e : ((p.2 : Nat) : Int) - 1 = ((m : Nat) : Int) := by omega
      rw [e]
      exact atI_map hm2
    · exact ifF rfl fin
  · rintro γ ⟨x1, x2, _, rfl⟩
    exact h
structure TOK (us : List (Str × Int × Int)) (wishes : List D) (goal : List Int) : Prop where
  uo : UsOK us
  ws : wishes.length ≤ 100
  each : ∀ w ∈ wishes, ∀ P : D → Prop, P (.bl true) → F_is_wish [w, .int (us.length : Nat)] P
  gl : goal.length = us.length
theorem check_task_is (us : List (Str × Int × Int)) (wishes : List D) (goal : List Int) (T : TOK us wishes goal) : F_check_task [.tup (us.map uD), .tup wishes, .tup (goal.map .int)] (fun _ => True) := by
  refine ⟨_, rfl, rfl, check_unknowns_is us T.uo _ ?_⟩
  refine ⟨_, rfl, rfl, _, rfl, ifF rfl ?_⟩
  refine ⟨_, rfl, _, rfl, ?_⟩
  refine forW_inv (enc := fun p : D × Nat => D.tup [.int (p.2 : Nat), p.1]) (fun l γ => ∃ x1 x2, (∀ p ∈ l, p.1 ∈ wishes) ∧ γ = [some (.d (.tup (us.map uD))), some (.d (.tup wishes)), some (.d (.tup (goal.map .int))), x1, x2]) wishes.zipIdx _ ⟨none, none, fun p hp => List.mem_of_getElem? (zip_mem hp), rfl⟩ ?_ ?_
  · rintro p r γ ⟨x1, x2, hm, rfl⟩ K2 hK
    refine ⟨_, rfl, rfl, _, _, rfl, _, _, rfl, rfl, ?_⟩
    refine ⟨_, rfl, _, rfl, .inl ⟨_, .inl rfl, rfl, ?_⟩⟩
    rw [show (us.map uD).length = us.length from List.length_map ..]
    refine T.each p.1 (hm p List.mem_cons_self) _ ⟨_, rfl, ifF rfl ?_⟩
    exact hK _ ⟨_, _, fun q hq => hm q (List.mem_cons_of_mem _ hq), rfl⟩
  · rintro γ ⟨x1, x2, _, rfl⟩
    refine ⟨_, rfl, rfl, _, rfl, ifF rfl ?_⟩
    refine ⟨_, rfl, .inl ⟨_, .inl rfl, _, rfl, .inl ⟨_, .inl rfl, ⟨okD_int _, okD_int _⟩, _, rfl, ifF (nne (by rw [List.length_map, List.length_map, T.gl])) ?_⟩⟩⟩
    refine ⟨_, rfl, _, rfl, ?_⟩
    rw [zip_gen]
    refine forW_inv (fun l γ => ∃ x1 x2, γ = [some (.d (.tup (us.map uD))), some (.d (.tup wishes)), some (.d (.tup (goal.map .int))), x1, x2]) goal.zipIdx _ ⟨x1, x2, rfl⟩ ?_ ?_
    · rintro p r γ ⟨x1, x2, rfl⟩ K2 hK
      refine ⟨_, rfl, rfl, _, _, rfl, _, _, rfl, rfl, ?_⟩
      refine ⟨_, rfl, rfl, is_integer_is _ _ ⟨_, rfl, ifF rfl ?_⟩⟩
      exact hK _ ⟨_, _, rfl⟩
    · rintro γ ⟨x1, x2, rfl⟩
      trivial
end DW
set_option Elab.async false
set_option linter.all false
set_option maxRecDepth 100000
set_option maxHeartbeats 1000000
set_option autoImplicit false
namespace DW
open PySem L2 K62
theorem at_wsOf {js : List Jb} {bx : List (Int × Int)} {i : Nat} (h : i < js.length) : at_ (wsOf js bx) i = ⟨(bx.getD js[i].p (0, 0)).1, (bx.getD js[i].p (0, 0)).2, js[i].l, js[i].n⟩ := by
  unfold at_ wsOf
  rw [List.getD_eq_getElem?_getD, List.getElem?_map, List.getElem?_eq_getElem h]
  rfl
theorem wsOf_len {js : List Jb} {bx : List (Int × Int)} : (wsOf js bx).length = js.length := by unfold wsOf; rw [List.length_map]
theorem j3_at {js : List Jb} {i : Nat} (h : i < js.length) : atI (js.map j3) ((i : Nat) : Int) = some (j3 js[i]) := atI_map (List.getElem?_eq_getElem h)
theorem jobs_in_is (b : Bool) (js : List Jb) (size : Int) (hl : js.length ≤ 1000) (h1 : b = true → ∀ j ∈ js, j.n = 1) (P : D → Prop) (h : P (.tup (js.map j3))) : F_jobs_in [wishD b js size] P := by
  cases b with
  | true =>
    refine ⟨_, rfl, _, rfl, ⟨by decide +kernel, by decide +kernel⟩, _, rfl, ifT (by decide +kernel) ?_⟩
    refine ⟨_, rfl, _, rfl, _, rfl, by rw [List.length_map]; exact hl, ?_⟩
    refine lcW_map j3 js (fun j hj Q2 hq => ?_) ⟨_, .inl rfl, h⟩
    refine ⟨_, rfl, rfl, _, _, rfl, _, _, rfl, rfl, _, rfl, _, rfl, by simp, ?_⟩
    unfold j3 at hq
    rw [h1 rfl j hj] at hq
    exact hq
  | false =>
    refine ⟨_, rfl, _, rfl, ⟨by decide +kernel, by decide +kernel⟩, _, rfl, ifF (by decide +kernel) ?_⟩
    exact ⟨_, rfl, _, rfl, h⟩
theorem size_in_is (b : Bool) (js : List Jb) (size : Int) (hb : b = true → size = 1) (P : D → Prop) (h : P (.int size)) : F_size_in [wishD b js size] P := by
  cases b with
  | true =>
    refine ⟨_, rfl, _, rfl, ⟨by decide +kernel, by decide +kernel⟩, _, rfl, ifT (by decide +kernel) ?_⟩
    rw [hb rfl] at h
    exact h
  | false =>
    refine ⟨_, rfl, _, rfl, ⟨by decide +kernel, by decide +kernel⟩, _, rfl, ifF (by decide +kernel) ?_⟩
    exact ⟨_, rfl, _, rfl, h⟩
theorem wish_of_is (u g : D) (wishes : List D) (k : Nat) (b : Bool) (js : List Jb) (size : Int) (hk : wishes[k]? = some (wishD b js size)) (P : D → Prop) (h : P (wishD b js size)) : F_wish_of [.task u (.tup wishes) g, .int (k : Nat), .tup [.str "bench", .str "room"]] P := by
  have hkl : k < wishes.length := (List.getElem?_eq_some_iff.mp hk).1
  refine ⟨_, rfl, rfl, is_number_is _ (Int.natCast_nonneg k) _ ⟨_, rfl, ifF rfl ?_⟩⟩
  refine ⟨_, rfl, _, rfl, _, rfl, .inl ⟨_, .inl rfl, _, rfl, ifF (decide_eq_false (by omega)) ?_⟩⟩
  refine ⟨_, rfl, _, rfl, _, rfl, _, atI_nat hk, ?_⟩
  cases b with
  | true =>
    refine ⟨.str "bench", rfl, _, rfl, ["bench", "room"], rfl, _, rfl, ifF (by decide +kernel) ?_⟩
    exact ⟨_, rfl, _, rfl, _, rfl, _, atI_nat hk, h⟩
  | false =>
    refine ⟨.str "room", rfl, _, rfl, ["bench", "room"], rfl, _, rfl, ifF (by decide +kernel) ?_⟩
    exact ⟨_, rfl, _, rfl, _, rfl, _, atI_nat hk, h⟩
theorem mem_within {ws : List Wn} {a b : Int} {i : Nat} (h : i ∈ within ws a b) : i < ws.length ∧ a ≤ (at_ ws i).lo ∧ (at_ ws i).fin ≤ b := by
  unfold within at h
  obtain ⟨h1, h2⟩ := List.mem_filter.mp h
  exact ⟨List.mem_range.mp h1, of_decide_eq_true h2⟩
theorem within_pw (ws : List Wn) (a b : Int) : (within ws a b).Pairwise (· < ·) := List.pairwise_lt_range.filter _
theorem within_len (ws : List Wn) (a b : Int) : (within ws a b).length ≤ ws.length := by
  unfold within
  exact Nat.le_trans (List.length_filter_le _ _) (by rw [List.length_range]; exact Nat.le_refl _)
theorem is_load_is (u g : D) (wishes : List D) (k : Nat) (b : Bool) (js : List Jb) (size : Int) (bx : List (Int × Int)) (cuts worth : D) (x : Ld) (hk : wishes[k]? = some (wishD b js size)) (hb1 : b = true → size = 1) (hb : b = true → ∀ j ∈ js, j.n = 1) (hp : ∀ j ∈ js, j.p < bx.length) (hl : js.length ≤ 10)
    (hs : SmW (wsOf js bx)) (hz : Sm size) (L : LoadOK (wsOf js bx) size x) (P : D → Prop) (h : P (.bl true)) : F_is_load [.task u (.tup wishes) g, cuts, .tup (bx.map bD), leafD (k : Nat) x, worth] P := by
  obtain ⟨hj, hab, hov⟩ := L
  have hwl : (wsOf js bx).length ≤ 10 := by rw [wsOf_len]; exact hl
  have hmem : ∀ i ∈ x.js, ∃ hi : i < js.length, x.a ≤ (bx.getD js[i].p (0, 0)).1 ∧ (bx.getD js[i].p (0, 0)).2 + js[i].l ≤ x.b ∧ (at_ (wsOf js bx) i) = ⟨(bx.getD js[i].p (0, 0)).1, (bx.getD js[i].p (0, 0)).2, js[i].l, js[i].n⟩ := fun i hi => by
    rw [hj] at hi
    obtain ⟨m1, m2, m3⟩ := mem_within hi
    rw [wsOf_len] at m1
    rw [at_wsOf m1] at m2 m3
    exact ⟨m1, m2, m3, at_wsOf m1⟩
  have hxl : x.js.length ≤ 10 := by rw [hj]; exact Nat.le_trans (within_len _ _ _) hwl
  refine ⟨_, rfl, _, rfl, rfl, _, _, rfl, _, _, rfl, _, _, rfl, _, _, rfl, _, _, rfl, rfl, ?_⟩
  refine ⟨_, rfl, _, rfl, by simp, rfl, wish_of_is u g wishes k b js size hk _ ?_⟩
  refine ⟨_, rfl, _, rfl, ?_⟩
  refine ifF (by cases b <;> rfl) ?_
  refine ⟨_, rfl, rfl, is_integer_is _ _ ⟨_, rfl, ifF rfl ?_⟩⟩
  refine ⟨_, rfl, rfl, is_integer_is _ _ ⟨_, rfl, ifF rfl ?_⟩⟩
  refine ⟨_, rfl, _, rfl, _, rfl, ifF (by rw [decide_eq_true hab]; rfl) ?_⟩
  refine ⟨_, rfl, rfl, jobs_in_is b js size (by omega) hb _ ⟨_, rfl, rfl, size_in_is b js size hb1 _ ⟨by simp, _, rfl, rfl, _, _, rfl, _, _, rfl, rfl, ?_⟩⟩⟩
  refine ⟨_, rfl, _, rfl, .inl ⟨_, .inl rfl, rfl, ?_⟩⟩
  rw [show (js.map j3).length = js.length from List.length_map ..]
  refine is_listing_is x.js js.length (by omega) (by rw [hj]; exact within_pw _ _ _) (fun i hi => (hmem i hi).1) _ ⟨_, rfl, ifF rfl ?_⟩
  refine ⟨_, rfl, _, rfl, by rw [List.length_map]; omega, ?_⟩
  refine lcW_map (fun i : Nat => j3 (js.getD i ⟨0, 0, 0⟩)) x.js (fun i hi Q2 hq => ?_) ?_
  · obtain ⟨hi', _⟩ := hmem i hi
    refine ⟨_, rfl, _, rfl, _, j3_at hi', ?_⟩
    rw [List.getD_eq_getElem?_getD, List.getElem?_eq_getElem hi'] at hq
    exact hq
  refine forW_inv (enc := fun i : Nat => j3 (js.getD i ⟨0, 0, 0⟩)) (fun l γ => ∃ x5 x13 x14, (∀ i ∈ l, i ∈ x.js) ∧ γ = [some (.d (.task u (.tup wishes) g)), some (.d cuts), some (.d (.tup (bx.map bD))), some (.d (leafD (k : Nat) x)), some (.d worth), x5, some (.d (.int (k : Nat))), some (.d (.tup (x.js.map jD))), some (.d (.int x.a)), some (.d (.int x.b)), some (.d (wishD b js size)), some (.d (.tup (js.map j3))), some (.d (.int size)), x13, x14, none]) x.js _ ⟨some (.d (.str "load")), none, none, fun _ h => h, rfl⟩ ?_ ?_
  · rintro i l γ ⟨x5, x13, x14, hm, rfl⟩ K2 hK
    obtain ⟨hi', m1, m2, _⟩ := hmem i (hm i List.mem_cons_self)
    have e : js.getD i ⟨0, 0, 0⟩ = js[i] := by rw [List.getD_eq_getElem?_getD, List.getElem?_eq_getElem hi']; rfl
    show gTp _ _ (j3 (js.getD i ⟨0, 0, 0⟩)) _ _
    rw [e]
    have hpj : js[i].p < bx.length := hp _ (List.getElem_mem hi')
    refine ⟨_, rfl, rfl, _, _, rfl, _, _, rfl, _, _, rfl, rfl, ?_⟩
    refine ⟨_, rfl, _, rfl, _, bx_at hpj, _, rfl, _, rfl, _, rfl, ifF (decide_eq_false (by omega)) ?_⟩
    refine ⟨_, rfl, _, rfl, _, bx_at hpj, _, rfl, _, rfl, _, rfl, _, rfl, ifF (decide_eq_false (by omega)) ?_⟩
    exact hK _ ⟨_, _, _, fun q hq => hm q (List.mem_cons_of_mem _ hq), rfl⟩
  · rintro γ ⟨x5, x13, x14, _, rfl⟩
    refine ⟨_, rfl, _, rfl, by rw [List.length_map]; omega, ?_⟩
    refine lcW_map (fun i : Nat => D.int (at_ (wsOf js bx) i).wk) x.js (fun i hi Q2 hq => ?_) ?_
    · obtain ⟨hi', _, _, ea⟩ := hmem i hi
      rw [ea] at hq
      refine ⟨_, rfl, _, rfl, _, j3_at hi', _, rfl, _, rfl, _, rfl, _, j3_at hi', _, rfl, .inr ?_, hq⟩
      have := hs _ (at_mem (ws := wsOf js bx) (j := i) (by rw [wsOf_len]; exact hi'))
      rw [ea] at this
      exact this
    · refine ⟨x.js.map fun i => (at_ (wsOf js bx) i).wk, by rw [List.map_map]; rfl, _, rfl, _, rfl, _, rfl, .inr hz, ?_⟩
      rw [← hj] at hov
      show P (.bl (decide ((x.b - x.a) * size < (x.js.map fun i => (at_ (wsOf js bx) i).wk).sum)))
      rw [decide_eq_true (show (x.b - x.a) * size < (x.js.map fun i => (at_ (wsOf js bx) i).wk).sum from hov)]
      exact h
theorem leaf_holds_is (u g : D) (wishes : List D) (k : Nat) (b : Bool) (js : List Jb) (size : Int) (bx : List (Int × Int)) (cuts worth : D) (x : Ld) (hk : wishes[k]? = some (wishD b js size)) (hb1 : b = true → size = 1) (hb : b = true → ∀ j ∈ js, j.n = 1) (hp : ∀ j ∈ js, j.p < bx.length) (hl : js.length ≤ 10)
    (hs : SmW (wsOf js bx)) (hz : Sm size) (L : LoadOK (wsOf js bx) size x) (P : D → Prop) (h : P (.bl true)) : F_leaf_holds [.task u (.tup wishes) g, cuts, .tup (bx.map bD), leafD (k : Nat) x, worth] P := by
  refine ⟨_, rfl, rfl, _, rfl, ifF rfl ?_⟩
  refine ⟨_, rfl, .inl ⟨_, .inl rfl, ⟨okD_int _, okD_int _⟩, _, rfl, ifF (nei (by simp)) ?_⟩⟩
  refine ⟨_, rfl, _, rfl, rfl, _, rfl, ifF rfl ?_⟩
  refine ⟨_, rfl, _, rfl, rfl, ?_⟩
  refine ifF rfl ?_
  refine ⟨⟨show 5 < 7 by decide, show 6 < 7 by decide, by decide⟩, _, rfl, _, rfl, rfl, ?_⟩
  refine ⟨_, rfl, .inl ⟨_, .inl rfl, _, rfl, ⟨okD_int _, okD_int _⟩, _, rfl, ifT (eqi rfl) ?_⟩⟩
  exact ⟨_, rfl, _, rfl, _, rfl, _, rfl, _, rfl, rfl, is_load_is u g wishes k b js size bx cuts worth x hk hb1 hb hp hl hs hz L P h⟩
end DW
set_option Elab.async false
set_option linter.all false
set_option maxRecDepth 100000
set_option maxHeartbeats 1000000
set_option autoImplicit false
namespace DW
open PySem L2 K62
theorem pick_is (xs : List D) (h0 : xs ≠ []) (hl : xs.length ≤ 1000) (P : D → Prop) (h : ∀ d ∈ xs, P d) : F__law_pick [.heap, .lst xs] P := by
  have hpos := List.length_pos_iff.mpr h0
  refine ⟨_, rfl, _, rfl, _, rfl, .inl ⟨_, .inr rfl, rfl, _, rfl, ⟨by omega, by omega⟩, fun v h1 h2 => ?_⟩⟩
  obtain ⟨m, rfl⟩ := Int.eq_ofNat_of_zero_le h1
  have hm : m < xs.length := by omega
  exact ⟨xs[m], atI_nat (List.getElem?_eq_getElem hm), h _ (List.getElem_mem hm)⟩
theorem windows_is (b : Bool) (js : List Jb) (size : Int) (bx : List (Int × Int)) (hb1 : b = true → size = 1) (hb : b = true → ∀ j ∈ js, j.n = 1) (hp : ∀ j ∈ js, j.p < bx.length) (hl : js.length ≤ 1000) (P : D → Prop) (h : P (.tup [.lst ((wsOf js bx).map wD), .int size])) :
    F__law_windows [wishD b js size, .tup (bx.map bD)] P := by
  have e : (wsOf js bx).map wD = js.map fun j => wD ⟨(bx.getD j.p (0, 0)).1, (bx.getD j.p (0, 0)).2, j.l, j.n⟩ := by unfold wsOf; rw [List.map_map]; rfl
  rw [e] at h
  cases b with
  | true =>
    refine ⟨_, rfl, _, rfl, ⟨by decide +kernel, by decide +kernel⟩, _, rfl, ifT (by decide +kernel) ?_⟩
    refine ⟨_, rfl, _, rfl, _, rfl, by rw [List.length_map]; exact hl, ?_⟩
    refine lcW_map (enc := j2) (fun j => wD ⟨(bx.getD j.p (0, 0)).1, (bx.getD j.p (0, 0)).2, j.l, j.n⟩) js (fun j hj Q2 hq => ?_) ?_
    · refine ⟨_, rfl, rfl, _, _, rfl, _, _, rfl, rfl, ?_⟩
      refine ⟨_, rfl, _, rfl, _, bx_at (hp j hj), ⟨_, rfl, by simp, by simp, ?_⟩⟩
      rw [hb rfl j hj] at hq
      exact hq
    · rw [hb1 rfl] at h
      exact ⟨by simp, h⟩
  | false =>
    refine ⟨_, rfl, _, rfl, ⟨by decide +kernel, by decide +kernel⟩, _, rfl, ifF (by decide +kernel) ?_⟩
    refine ⟨_, rfl, _, rfl, _, rfl, by rw [List.length_map]; exact hl, ?_⟩
    refine lcW_map (enc := j3) (fun j => wD ⟨(bx.getD j.p (0, 0)).1, (bx.getD j.p (0, 0)).2, j.l, j.n⟩) js (fun j hj Q2 hq => ?_) ?_
    · refine ⟨_, rfl, rfl, _, _, rfl, _, _, rfl, _, _, rfl, rfl, ?_⟩
      exact ⟨_, rfl, _, rfl, _, bx_at (hp j hj), ⟨_, rfl, _, rfl, by simp, by simp, hq⟩⟩
    · exact ⟨_, rfl, _, rfl, by simp, h⟩
theorem load_right_is (u g : D) (wishes : List D) (k : Nat) (b : Bool) (js : List Jb) (size : Int) (bx : List (Int × Int)) (x : Ld) (hk : wishes[k]? = some (wishD b js size)) (hb1 : b = true → size = 1) (hb : b = true → ∀ j ∈ js, j.n = 1) (hp : ∀ j ∈ js, j.p < bx.length) (hl : js.length ≤ 10)
    (hs : SmW (wsOf js bx)) (hz : Sm size) (L : LoadOK (wsOf js bx) size x) (P : D → Prop) (h : P (.bl true)) : F__law_load_right [.task u (.tup wishes) g, .int (k : Nat), .tup (bx.map bD), leafD (k : Nat) x] P := by
  have L0 := L
  obtain ⟨hj, hab, hov⟩ := L
  have hwl : (wsOf js bx).length ≤ 10 := by rw [wsOf_len]; exact hl
  have hxl : x.js.length ≤ 10 := by rw [hj]; exact Nat.le_trans (within_len _ _ _) hwl
  refine ⟨_, rfl, _, rfl, _, rfl, _, atI_nat hk, _, rfl, rfl, windows_is b js size bx hb1 hb hp (by omega) _ ?_⟩
  refine ⟨_, rfl, rfl, _, _, rfl, _, _, rfl, rfl, ?_⟩
  refine ⟨_, rfl, rfl, _, rfl, ifF rfl ?_⟩
  refine ⟨_, rfl, .inl ⟨_, .inl rfl, ⟨okD_int _, okD_int _⟩, _, rfl, ifF (nne rfl) ?_⟩⟩
  have o2 : okN 1 (.tup [.str "load", .int (k : Nat)]) := okN_tup fun d hd => by
    simp only [List.mem_cons, List.not_mem_nil, or_false] at hd
    rcases hd with rfl | rfl
    · exact okN_str (by decide +kernel)
    · exact okN_int
  refine ⟨_, rfl, _, rfl, _, rfl, by simp, ⟨o2.ok (by decide), o2.ok (by decide)⟩, _, rfl, ifF (show (!eqD (.tup [.str "load", .int (k : Nat)]) (.tup [.str "load", .int (k : Nat)])) = false by rw [o2.refl]; rfl) ?_⟩
  refine ⟨_, rfl, _, rfl, rfl, _, rfl, ifF rfl ?_⟩
  refine ⟨_, rfl, _, rfl, _, .inr rfl, _, rfl, _, rfl, x.js.map fun n : Nat => (n : Int), by rw [List.map_map]; rfl, by rw [List.length_map]; omega, by rw [List.length_map]; omega, ?_⟩
  have us : usort (x.js.map fun n : Nat => (n : Int)) = x.js.map fun n : Nat => (n : Int) := by
    refine pw_unique (usort_pw _) ?_ fun z => mem_usort
    rw [hj]
    exact List.pairwise_map.mpr ((within_pw _ _ _).imp fun h => Int.ofNat_lt.mpr h)
  have e1 : (usort (x.js.map fun n : Nat => (n : Int))).map D.int = x.js.map jD := by
    rw [us, List.map_map]
    rfl
  rw [e1]
  have o3 : okN 1 (.lst (x.js.map jD)) := okN_lst okN_js
  refine ⟨⟨o3.ok (by decide), o3.ok (by decide)⟩, _, rfl, ifF (by rw [o3.refl]; rfl) ?_⟩
  refine ⟨_, rfl, _, rfl, _, rfl, by rw [List.length_map]; omega, ?_⟩
  have hmem : ∀ i ∈ x.js, i < (wsOf js bx).length ∧ x.a ≤ (at_ (wsOf js bx) i).lo ∧ (at_ (wsOf js bx) i).fin ≤ x.b := fun i hi => by
    rw [hj] at hi
    exact mem_within hi
  refine lcW_map (fun _ : Nat => D.bl true) x.js (fun i hi Q2 hq => ?_) ?_
  · refine ⟨_, rfl, rfl, _, rfl, ifT rfl ?_⟩
    refine ⟨_, rfl, _, rfl, ifT (decide_eq_true (by omega)) ?_⟩
    refine ⟨_, rfl, .inl ⟨_, .inr rfl, ?_⟩⟩
    show Q2 (.bl (decide ((i : Int) < (((wsOf js bx).map wD).length : Nat))))
    rw [decide_eq_true (by rw [List.length_map]; exact Int.ofNat_lt.mpr (hmem i hi).1)]
    exact hq
  refine ⟨x.js.map fun _ => true, by rw [List.map_map]; rfl, _, rfl, ?_⟩
  rw [all_true _ _ fun _ _ => rfl]
  refine ifF rfl ?_
  refine ⟨⟨show 7 < 14 by decide, show 8 < 14 by decide, show 9 < 14 by decide⟩, _, rfl, _, rfl, _, rfl, _, rfl, ?_⟩
  refine ⟨_, rfl, _, rfl, _, rfl, ?_⟩
  generalize hws : wsOf js bx = ws at *
  refine forW_inv (enc := jD) (fun l γ => ∃ done x6 x10 x11 x12 x13, x.js = done ++ l ∧ γ = [some (.d (.task u (.tup wishes) g)), some (.d (.int (k : Nat))), some (.d (.tup (bx.map bD))), some (.d (leafD (k : Nat) x)), some (.d (.lst (ws.map wD))), some (.d (.int size)), x6, some (.d (.int x.a)), some (.d (.int x.b)), some (.d (.int (workOf ws done))), x10, x11, x12, x13]) x.js _ ⟨[], none, none, none, none, none, rfl, rfl⟩ ?_ ?_
  · rintro i l γ ⟨done, x6, x10, x11, x12, x13, hd, rfl⟩ K2 hK
    obtain ⟨m1, m2, m3⟩ := hmem i (by rw [hd]; exact List.mem_append_right _ List.mem_cons_self)
    refine ⟨_, rfl, _, rfl, _, wD_at m1, _, rfl, rfl, _, _, rfl, _, _, rfl, _, _, rfl, _, _, rfl, rfl, ?_⟩
    refine ⟨_, rfl, _, rfl, _, rfl, ifF (decide_eq_false (by omega)) ?_⟩
    refine ⟨_, rfl, _, rfl, _, rfl, _, rfl, ifF (decide_eq_false (show ¬ x.b < (at_ ws i).fin by omega)) ?_⟩
    refine ⟨_, rfl, _, rfl, _, rfl, .inr ?_, ?_⟩
    · exact hs _ (at_mem m1)
    · refine hK _ ⟨done ++ [i], some (.d (jD i)), some (.d (.int (at_ ws i).lo)), some (.d (.int (at_ ws i).hi)), some (.d (.int (at_ ws i).ln)), some (.d (.int (at_ ws i).nd)), by rw [hd]; simp, ?_⟩
      have e : workOf ws (done ++ [i]) = workOf ws done + (at_ ws i).ln * (at_ ws i).nd := by
        unfold workOf
        rw [List.map_append, List.sum_append]
        simp [Wn.wk]
      rw [e]
      rfl
  · rintro γ ⟨done, x6, x10, x11, x12, x13, hd, rfl⟩
    rw [List.append_nil] at hd
    refine ⟨_, rfl, _, rfl, _, rfl, ifT (decide_eq_true hab) ?_⟩
    refine ⟨_, rfl, _, rfl, _, rfl, _, rfl, .inr hz, _, rfl, ifT (decide_eq_true ?_) ?_⟩
    · rw [← hd, hj]
      exact hov
    · subst hws
      exact ⟨_, rfl, by simp, _, rfl, _, rfl, rfl, leaf_holds_is u g wishes k b js size bx (.tup []) .no x hk hb1 hb hp hl hs hz L0 _ h⟩
def Wn.wkD (w : Wn) : D := .int w.wk
theorem ww_len (ws : List Wn) (p : Wn → Bool) : (ws.filter p).length ≤ ws.length := List.length_filter_le _ _
theorem inside_sum (ws : List Wn) (a b : Int) : ((ws.filter fun w => decide (a ≤ w.lo ∧ w.fin ≤ b)).map Wn.wk).sum = workOf ws (within ws a b) := by
  have e : ws = (List.range ws.length).map (at_ ws) := by
    apply List.ext_getElem?
    intro i
    rw [List.getElem?_map]
    by_cases hi : i < ws.length
    · rw [List.getElem?_range hi, at_get hi]; rfl
    · rw [List.getElem?_eq_none (by omega), List.getElem?_eq_none (by rw [List.length_range]; omega)]; rfl
  have e2 : (ws.filter fun w => decide (a ≤ w.lo ∧ w.fin ≤ b)) = (within ws a b).map (at_ ws) := by
    conv => lhs; rw [e]
    rw [List.filter_map]
    rfl
  rw [e2, List.map_map]
  rfl
theorem too_much_is (ws : List Wn) (size : Int) (hs : SmW ws) (hz : Sm size) (hl : ws.length ≤ 20) (P : D → Prop) (h : P (.bl (tooMuch ws size))) : F__law_too_much [.lst (ws.map wD), .int size] P := by
  refine ⟨_, rfl, _, rfl, ?_⟩
  refine forW_inv (enc := wD) (fun l γ => ∃ done x2 x3 x4 x5 x6, ws = done ++ l ∧ (∀ f ∈ done, ∀ t ∈ ws, ¬ Over ws size f.lo t.fin) ∧ γ = [some (.d (.lst (ws.map wD))), some (.d (.int size)), x2, x3, x4, x5, x6, none]) ws _ ⟨[], none, none, none, none, none, rfl, fun _ h => absurd h List.not_mem_nil, rfl⟩ ?_ ?_
  · rintro f l γ ⟨done, x2, x3, x4, x5, x6, hd, hno, rfl⟩ K2 hK
    refine ⟨_, rfl, _, rfl, ?_⟩
    refine forW_inv (enc := wD) (fun l2 γ => ∃ dn x3 x4 x5 x6, ws = dn ++ l2 ∧ (∀ t ∈ dn, ¬ Over ws size f.lo t.fin) ∧ γ = [some (.d (.lst (ws.map wD))), some (.d (.int size)), some (.d (wD f)), x3, x4, x5, x6, none]) ws _ ⟨[], x3, x4, x5, x6, rfl, fun _ h => absurd h List.not_mem_nil, rfl⟩ ?_ ?_
    · rintro t l2 γ ⟨dn, x3, x4, x5, x6, hd2, hno2, rfl⟩ K3 hK3
      refine ⟨_, rfl, _, rfl, _, rfl, _, rfl, _, rfl, _, rfl, by simp, _, rfl, rfl, _, _, rfl, _, _, rfl, rfl, ?_⟩
      refine ⟨_, rfl, _, rfl, by rw [List.length_map]; omega, ?_⟩
      refine lcW_run (fun w : Wn => decide (f.lo ≤ w.lo ∧ w.fin ≤ t.fin)) wD ws [] (fun w hw Q1 Q2 h1 h0 => ?_) ?_
      · refine ⟨_, rfl, _, rfl, _, rfl, _, rfl, ?_⟩
        by_cases c1 : f.lo ≤ w.lo
        · refine ifT (decide_eq_true c1) ?_
          refine ⟨_, rfl, _, rfl, _, rfl, _, rfl, _, rfl, _, rfl, ?_⟩
          refine ifB (fun z => ⟨_, rfl, h1 ?_⟩) fun z => h0 ?_
          · exact decide_eq_true ⟨c1, of_decide_eq_true z⟩
          · exact decide_eq_false fun q => absurd q.2 (of_decide_eq_false z)
        · refine ifF (decide_eq_false c1) ?_
          refine ifF rfl (h0 ?_)
          exact decide_eq_false fun q => c1 q.1
      have nxt : ¬ Over ws size f.lo t.fin → ∀ x6', K3 [some (.d (.lst (ws.map wD))), some (.d (.int size)), some (.d (wD f)), some (.d (wD t)), some (.d (.int f.lo)), some (.d (.int t.fin)), x6', none] := fun no x6' => by
        refine hK3 _ ⟨dn ++ [t], some (.d (wD t)), some (.d (.int f.lo)), some (.d (.int t.fin)), x6', by rw [hd2]; simp, fun t' ht' => ?_, rfl⟩
        rcases List.mem_append.mp ht' with q | q
        · exact hno2 t' q
        · rw [List.mem_singleton.mp q]
          exact no
      have fl := ww_len ws fun w => decide (f.lo ≤ w.lo ∧ w.fin ≤ t.fin)
      refine ⟨_, rfl, _, rfl, _, rfl, ?_⟩
      refine ifB (fun z => ?_) fun z => ?_
      · have c1 := of_decide_eq_true z
        refine ⟨_, rfl, _, rfl, by rw [List.nil_append, List.length_map]; omega, ?_⟩
        refine lcW_map (enc := wD) Wn.wkD (ws.filter fun w => decide (f.lo ≤ w.lo ∧ w.fin ≤ t.fin)) (fun w hw Q2 hq => ?_) ?_
        · exact ⟨_, rfl, _, rfl, _, rfl, _, rfl, .inr (hs w (List.mem_filter.mp hw).1), hq⟩
        · refine ⟨(ws.filter fun w => decide (f.lo ≤ w.lo ∧ w.fin ≤ t.fin)).map Wn.wk, by rw [List.map_map]; rfl, _, rfl, _, rfl, _, rfl, .inr hz, ?_⟩
          rw [inside_sum]
          refine ⟨_, rfl, ifB (fun z2 => ?_) fun z2 => ?_⟩
          · have ov : Over ws size f.lo t.fin := ⟨c1, of_decide_eq_true z2⟩
            rw [tooMuch_iff.mpr ⟨f, by rw [hd]; exact List.mem_append_right _ List.mem_cons_self, t, by rw [hd2]; exact List.mem_append_right _ List.mem_cons_self, ov⟩] at h
            exact h
          · exact nxt (fun q => absurd q.2 (of_decide_eq_false z2)) _
      · refine ifF rfl ?_
        exact nxt (fun q => absurd q.1 (of_decide_eq_false z)) _
    · rintro γ ⟨dn, x3, x4, x5, x6, hd2, hno2, rfl⟩
      rw [List.append_nil] at hd2
      refine hK _ ⟨done ++ [f], some (.d (wD f)), x3, x4, x5, x6, by rw [hd]; simp, fun f' hf' => ?_, rfl⟩
      rcases List.mem_append.mp hf' with q | q
      · exact hno f' q
      · rw [List.mem_singleton.mp q]
        rw [← hd2] at hno2
        exact hno2
  · rintro γ ⟨done, x2, x3, x4, x5, x6, hd, hno, rfl⟩
    rw [List.append_nil] at hd
    rw [← hd] at hno
    have e : tooMuch ws size = false := by
      cases ht : tooMuch ws size with
      | false => rfl
      | true =>
        obtain ⟨f, hf, t, ht, ho⟩ := tooMuch_iff.mp ht
        exact absurd ho (hno f hf t ht)
    rw [e] at h
    exact h
end DW
set_option Elab.async false
set_option linter.all false
set_option maxRecDepth 100000
set_option maxHeartbeats 1000000
set_option autoImplicit false
namespace DW
open PySem L2 K62
theorem getM_nil (k : Int × Int) : getM [] k = none := rfl
theorem getM_cons (e : (Int × Int) × Int) (r : KM) (k : Int × Int) : getM (e :: r) k = if e.1 = k then some e.2 else getM r k := by
  unfold getM
  rw [List.find?_cons]
  by_cases h : e.1 = k
  · rw [decide_eq_true h, if_pos h]; rfl
  · rw [decide_eq_false h, if_neg h]
theorem getM_upd {k k' : Int × Int} {v : Int} (hk : k' ≠ k) : ∀ kvs : KM, getM (kvs.map fun kv => if kv.1 = k then (kv.1, v) else kv) k' = getM kvs k'
  | [] => rfl
  | e :: r => by
    rw [List.map_cons, getM_cons, getM_cons, getM_upd hk r]
    by_cases h : e.1 = k
    · rw [if_pos h, if_neg (show ¬ e.1 = k' from fun z => hk (z.symm.trans h)), if_neg (show ¬ e.1 = k' from fun z => hk (z.symm.trans h))]
    · rw [if_neg h]
theorem getM_upd_self {k : Int × Int} {v : Int} : ∀ kvs : KM, (kvs.any fun kv => decide (kv.1 = k)) = true → getM (kvs.map fun kv => if kv.1 = k then (kv.1, v) else kv) k = some v
  | [], h => by cases h
  | e :: r, h => by
    rw [List.map_cons, getM_cons]
    by_cases c : e.1 = k
    · rw [if_pos c, if_pos c]
    · rw [if_neg c, if_neg c]
      refine getM_upd_self r ?_
      rw [List.any_cons, decide_eq_false c, Bool.false_or] at h
      exact h
theorem getM_app (k k' : Int × Int) (v : Int) : ∀ kvs : KM, getM (kvs ++ [(k, v)]) k' = (getM kvs k').or (if k = k' then some v else none)
  | [] => by
    rw [List.nil_append, getM_cons, getM_nil]
    rfl
  | e :: r => by
    rw [List.cons_append, getM_cons, getM_cons, getM_app k k' v r]
    split <;> rfl
theorem getM_none {k : Int × Int} : ∀ kvs : KM, (kvs.any fun kv => decide (kv.1 = k)) = false → getM kvs k = none
  | [], _ => rfl
  | e :: r, h => by
    rw [List.any_cons, Bool.or_eq_false_iff] at h
    rw [getM_cons, if_neg (of_decide_eq_false h.1)]
    exact getM_none r h.2
theorem getM_put (kvs : KM) (k k' : Int × Int) (v : Int) : getM (putM kvs k v) k' = if k' = k then some v else getM kvs k' := by
  unfold putM
  by_cases c : (kvs.any fun kv => decide (kv.1 = k)) = true
  · rw [if_pos c]
    by_cases h : k' = k
    · rw [if_pos h, h, getM_upd_self kvs c]
    · rw [if_neg h, getM_upd h]
  · rw [if_neg c, getM_app]
    by_cases h : k' = k
    · rw [if_pos h, h, getM_none kvs ((Bool.not_eq_true _).mp c), if_pos rfl]; rfl
    · rw [if_neg h, if_neg (fun z => h z.symm)]
      cases getM kvs k' <;> rfl
theorem putM_len (kvs : KM) (k : Int × Int) (v : Int) : (putM kvs k v).length ≤ kvs.length + 1 := by
  unfold putM
  split
  · rw [List.length_map]; omega
  · simp
theorem putM_key (kvs : KM) (k : Int × Int) (v : Int) : ∀ e ∈ putM kvs k v, e.1 = k ∨ ∃ e' ∈ kvs, e'.1 = e.1 := fun e he => by
  unfold putM at he
  split at he
  · obtain ⟨e', h1, h2⟩ := List.mem_map.mp he
    refine .inr ⟨e', h1, ?_⟩
    rw [← h2]
    split <;> rfl
  · rcases List.mem_append.mp he with q | q
    · exact .inr ⟨e, q, rfl⟩
    · rw [List.mem_singleton.mp q]
      exact .inl rfl
theorem getM_mem {e : (Int × Int) × Int} : ∀ {kvs : KM}, e ∈ kvs → ∃ n, getM kvs e.1 = some n
  | [], h => by cases h
  | x :: r, h => by
    rw [getM_cons]
    by_cases c : x.1 = e.1
    · exact ⟨_, if_pos c⟩
    · rw [if_neg c]
      rcases List.mem_cons.mp h with rfl | h
      · exact absurd rfl c
      · exact getM_mem h
theorem unitsJ_snoc (j : Int) (ps : List Pc) (p : Pc) : unitsJ j (ps ++ [p]) = unitsJ j ps + if p.j = j then p.u else 0 := by
  unfold unitsJ
  rw [List.filter_append, List.map_append, List.sum_append]
  by_cases h : p.j = j
  · simp [h]
  · simp [h]
theorem unitsST_snoc (s t : Int) (ps : List Pc) (p : Pc) : unitsST s t (ps ++ [p]) = unitsST s t ps + if p.s = s ∧ p.t = t then p.u else 0 := by
  unfold unitsST
  rw [List.filter_append, List.map_append, List.sum_append]
  by_cases h : p.s = s ∧ p.t = t
  · simp [h]
  · simp [h]
def nz (x : Option SV) : Prop := ∀ a k, x ≠ some (.z a k)
theorem nz_d {d : D} : nz (some (.d d)) := fun _ _ z => by cases z
theorem nz_n : nz none := fun _ _ z => by cases z
structure Sofar (ws : List Wn) (dp : List Pc) (dn : List Int) (kvs : KM) : Prop where
  len : dn.length = ws.length
  job : ∀ j : Nat, j < ws.length → ra dn j = unitsJ j dp
  get : ∀ s t : Int, (getM kvs (s, t)).getD 0 = unitsST s t dp
  key : ∀ e ∈ kvs, ∃ p ∈ dp, e.1 = (p.s, p.t)
  kl : kvs.length ≤ dp.length
theorem Sofar.step {ws : List Wn} {dp : List Pc} {dn : List Int} {kvs : KM} (S : Sofar ws dp dn kvs) (p : Pc) (j : Nat) (hj : j < ws.length) (e : p.j = (j : Int)) : Sofar ws (dp ++ [p]) (dn.set j (ra dn j + p.u)) (putM kvs (p.s, p.t) ((getM kvs (p.s, p.t)).getD 0 + p.u)) := by
  refine ⟨by rw [List.length_set]; exact S.len, fun i hi => ?_, fun s t => ?_, fun x hx => ?_, ?_⟩
  · rw [unitsJ_snoc, e]
    by_cases c : i = j
    · subst c
      rw [if_pos rfl, ← S.job i hi]
      unfold ra
      rw [List.getD_eq_getElem?_getD, List.getElem?_set_self (by rw [S.len]; exact hj)]
      rfl
    · rw [if_neg (by omega), Int.add_zero, ← S.job i hi]
      unfold ra
      rw [List.getD_eq_getElem?_getD, List.getElem?_set_ne (by omega), ← List.getD_eq_getElem?_getD]
  · rw [getM_put, unitsST_snoc]
    by_cases c : (s, t) = (p.s, p.t)
    · rw [if_pos c]
      cases c
      rw [if_pos ⟨rfl, rfl⟩, ← S.get]
      rfl
    · rw [if_neg c, if_neg (fun z => c (by rw [z.1, z.2])), Int.add_zero, S.get]
  · rcases putM_key _ _ _ x hx with q | ⟨x', h1, h2⟩
    · exact ⟨p, List.mem_append_right _ List.mem_cons_self, q⟩
    · obtain ⟨p', h3, h4⟩ := S.key x' h1
      exact ⟨p', List.mem_append_left _ h3, by rw [← h2, h4]⟩
  · have := putM_len kvs (p.s, p.t) ((getM kvs (p.s, p.t)).getD 0 + p.u)
    have := S.kl
    rw [List.length_append, List.length_singleton]
    omega
theorem rep_flat (n : Nat) : (List.replicate n [D.int 0]).flatten = (List.replicate n (0 : Int)).map D.int := by
  induction n with
  | zero => rfl
  | succ n ih => rw [List.replicate_succ, List.flatten_cons, ih]; rfl
theorem noL_ints (l : List Int) : noLs (l.map D.int) = true := by
  induction l with
  | nil => rfl
  | cons x r ih => show (noL (.int x) && noLs (r.map D.int)) = true; rw [ih]; rfl
theorem pieces_right_is (ws : List Wn) (size : Int) (ps : List Pc) (hs : SmW ws) (hz : Sm size) (hl : ws.length ≤ 20) (hpl : ps.length ≤ 500) (K : PiecesOK ws size ps) (P : D → Prop) (h : P (.bl true)) : F__law_pieces_right [.lst (ws.map wD), .int size, .tup (ps.map pD)] P := by
  have srt : ps.mergeSort leP = ps := List.mergeSort_of_pairwise K.sorted
  have okl : okN 2 (.lst (ps.map pD)) := okN_lst fun d hd => by
    obtain ⟨p, _, rfl⟩ := List.mem_map.mp hd
    exact okN_p p
  refine ⟨_, rfl, rfl, _, rfl, ifF rfl ?_⟩
  refine ⟨_, rfl, _, .inr rfl, _, rfl, _, .inr rfl, ps, rfl, by omega, ?_⟩
  rw [srt]
  refine ⟨⟨okl.ok (by decide), okl.ok (by decide)⟩, _, rfl, ifF (by rw [okl.refl]; rfl) ?_⟩
  refine ⟨⟨show 3 < 13 by decide, show 4 < 13 by decide⟩, by simp, _, rfl, .inl ⟨_, .inr rfl, _, rfl, ⟨by omega, by (rw [List.length_map]; omega), by simp⟩, ?_⟩⟩
  have e0 : (((ws.map wD).length : Nat) : Int).toNat = ws.length := by rw [List.length_map]; exact Int.toNat_natCast _
  rw [e0, rep_flat]
  refine ⟨_, rfl, _, rfl, ?_⟩
  refine forW_inv (enc := pD) (fun l γ => ∃ dp dn kvs x5 x7 x8 x9 x10, ps = dp ++ l ∧ Sofar ws dp dn kvs ∧ nz x5 ∧ nz x7 ∧ nz x8 ∧ nz x9 ∧ nz x10 ∧ γ = [some (.d (.lst (ws.map wD))), some (.d (.int size)), some (.d (.tup (ps.map pD))), some (.l (dn.map .int)), some (.m kvs), x5, none, x7, x8, x9, x10, none, none]) ps _ ⟨[], List.replicate ws.length 0, [], none, none, none, none, none, rfl, ⟨List.length_replicate, fun j hj => ?_, fun _ _ => rfl, fun _ z => absurd z List.not_mem_nil, Nat.le_refl _⟩, nz_n, nz_n, nz_n, nz_n, nz_n, rfl⟩ ?_ ?_
  · unfold ra
    rw [List.getD_eq_getElem?_getD, List.getElem?_replicate, if_pos hj]
    rfl
  · rintro p l γ ⟨dp, dn, kvs, x5, x7, x8, x9, x10, hd, S, n5, n7, n8, n9, n10, rfl⟩ K2 hK
    have hp : p ∈ ps := by rw [hd]; exact List.mem_append_right _ List.mem_cons_self
    obtain ⟨u1, st, j, hj, ej, lo, hi⟩ := K.each p hp
    have hdl : dp.length ≤ 500 := by
      have := congrArg List.length hd
      rw [List.length_append] at this
      omega
    refine ⟨_, rfl, rfl, _, rfl, ifF rfl ?_⟩
    refine ⟨_, rfl, .inl ⟨_, .inl rfl, ⟨okD_int _, okD_int _⟩, _, rfl, ifF (nne rfl) ?_⟩⟩
    refine ⟨_, rfl, _, rfl, by simp, ?_⟩
    refine lcW_map (enc := D.int) (fun _ => D.bl false) [p.j, p.s, p.t, p.u] (fun i _ Q2 hq => ?_) ⟨[false, false, false, false], rfl, _, rfl, ifF rfl ?_⟩
    · refine ⟨_, rfl, rfl, _, rfl, _, rfl, ifF rfl ?_⟩
      exact ⟨_, rfl, rfl, hq⟩
    refine ⟨_, rfl, _, rfl, rfl, _, _, rfl, _, _, rfl, _, _, rfl, _, _, rfl, rfl, ?_⟩
    rw [ej]
    refine ⟨_, rfl, _, rfl, ifT (decide_eq_true (by omega)) ?_⟩
    refine ⟨_, rfl, .inl ⟨_, .inr rfl, _, rfl, ?_⟩⟩
    refine ifF (show (!decide (((j : Nat) : Int) < ((ws.map wD).length : Nat))) = false by rw [decide_eq_true (show ((j : Nat) : Int) < ((ws.map wD).length : Nat) by rw [List.length_map]; exact Int.ofNat_lt.mpr hj)]; rfl) ?_
    refine ⟨_, rfl, _, rfl, _, rfl, ifF (decide_eq_false (by omega)) ?_⟩
    refine ⟨_, rfl, _, rfl, ifF (decide_eq_false (by omega)) ?_⟩
    refine ⟨_, rfl, _, rfl, _, rfl, _, wD_at hj, _, rfl, _, rfl, ifF (decide_eq_false (by omega)) ?_⟩
    refine ⟨_, rfl, _, rfl, _, rfl, _, wD_at hj, _, rfl, _, rfl, _, rfl, _, wD_at hj, _, rfl, _, rfl, ifF (decide_eq_false (show ¬ (at_ ws j).fin < p.t by omega)) ?_⟩
    refine ⟨_, rfl, _, rfl, _, rfl, _, rest_at (by rw [S.len]; exact hj), rfl, _, rfl, _, rfl, _, rfl, _, rfl, j, ixN_nat (by rw [List.length_map, S.len]; exact hj), ?_⟩
    have kl := S.kl
    refine ⟨_, rfl, by omega, _, rfl, _, rfl, _, rfl, by simp, _, _, _, rfl, rfl, _, rfl, _, rfl, _, rfl, by simp, _, _, _, rfl, rfl, ?_⟩
    refine hK _ ⟨dp ++ [p], _, _, some (.d (pD p)), some (.d (.int (j : Nat))), some (.d (.int p.s)), some (.d (.int p.t)), some (.d (.int p.u)), by rw [hd]; simp, S.step p j hj ej, nz_d, nz_d, nz_d, nz_d, nz_d, ?_⟩
    rw [← List.map_set]
    rfl
  · rintro γ ⟨dp, dn, kvs, x5, x7, x8, x9, x10, hd, S, n5, n7, n8, n9, n10, rfl⟩
    rw [List.append_nil] at hd
    subst hd
    have val : ∀ e ∈ kvs, getM kvs (e.1.1, e.1.2) = some (unitsST e.1.1 e.1.2 ps) := fun e he => by
      obtain ⟨n, hn⟩ := getM_mem he
      have g := S.get e.1.1 e.1.2
      have hn' : getM kvs (e.1.1, e.1.2) = some n := hn
      rw [hn'] at g ⊢
      exact congrArg some g
    have kl := S.kl
    refine ⟨_, rfl, fun a => ?_⟩
    refine forW_inv (enc := keyD) (fun l γ => ∃ x8 x9, (∀ e ∈ l, e ∈ kvs) ∧ nz x8 ∧ nz x9 ∧ γ = [some (.d (.lst (ws.map wD))), some (.d (.int size)), some (.d (.tup (ps.map pD))), some (.l (dn.map .int)), some (.z a kvs), x5, none, x7, x8, x9, x10, none, none]) kvs _ ⟨x8, x9, fun _ h => h, n8, n9, rfl⟩ ?_ ?_
    · rintro e l γ ⟨y8, y9, hm, m8, m9, rfl⟩ K2 hK
      have he := hm e List.mem_cons_self
      obtain ⟨p, hp, ep⟩ := S.key e he
      have es : e.1.1 = p.s := by rw [ep]
      have et : e.1.2 = p.t := by rw [ep]
      refine ⟨_, rfl, rfl, _, _, rfl, _, _, rfl, rfl, ?_⟩
      refine ⟨_, _, rfl, _, rfl, _, rfl, by simp, _, _, _, rfl, val e he, _, rfl, _, rfl, _, rfl, .inr hz, _, rfl, ?_⟩
      refine ifF (decide_eq_false ?_) ?_
      · have := K.span p hp
        rw [es, et]
        omega
      refine ⟨_, _, rfl, by rw [List.length_map]; omega, ?_⟩
      refine lcW_map (enc := keyD) (fun _ => D.bl false) kvs (fun o ho Q2 hq => ?_) ⟨kvs.map fun _ => false, by rw [List.map_map]; rfl, _, rfl, ifF ?_ ?_⟩
      · obtain ⟨q, hq2, eq⟩ := S.key o ho
        have os : o.1.1 = q.s := by rw [eq]
        have ot : o.1.2 = q.t := by rw [eq]
        have okp : ∀ x y : Int, okD (.tup [.int x, .int y]) = true := fun x y => (okN_tup (n := 0) fun d hd => by
          simp only [List.mem_cons, List.not_mem_nil, or_false] at hd
          rcases hd with rfl | rfl <;> exact okN_int).ok (by decide)
        refine ⟨_, rfl, _, rfl, _, rfl, by simp, ⟨okp _ _, okp _ _⟩, _, rfl, ?_⟩
        show if (!eqD (.tup [.int o.1.1, .int o.1.2]) (.tup [.int e.1.1, .int e.1.2])) = true then _ else _
        rw [eqD_pair]
        by_cases c : (o.1.1, o.1.2) = (e.1.1, e.1.2)
        · rw [decide_eq_true c]
          exact ifF rfl hq
        · rw [decide_eq_false c]
          refine ifT rfl ?_
          refine ⟨_, rfl, _, rfl, _, rfl, _, rfl, ifB (fun z => ?_) fun _ => hq⟩
          refine ⟨_, rfl, _, rfl, _, rfl, ?_⟩
          have z1 : o.1.1 < e.1.2 := of_decide_eq_true z
          have nb : ¬ e.1.1 < o.1.2 := fun z2 => by
            rcases K.apart q hq2 p hp with q1 | q1 | q1
            · exact c (by rw [os, ot, es, et, q1.1, q1.2])
            · omega
            · omega
          show Q2 (.bl (decide (e.1.1 < o.1.2)))
          rw [decide_eq_false nb]
          exact hq
      · rw [List.any_map, List.any_eq_false]
        intro x hx
        exact Bool.false_ne_true
      · exact hK _ ⟨some (.d (.int e.1.1)), some (.d (.int e.1.2)), fun q hq => hm q (List.mem_cons_of_mem _ hq), nz_d, nz_d, rfl⟩
    · rintro γ ⟨y8, y9, _, m8, m9, rfl⟩
      refine ⟨rfl, fun j b k2 hz2 => ?_, ?_⟩
      · match j, hz2 with
        | 0, z => cases z
        | 1, z => cases z
        | 2, z => cases z
        | 3, z => cases z
        | 4, _ => rfl
        | 5, z => exact absurd (Option.some.inj z) (n5 _ _)
        | 6, z => cases z
        | 7, z => exact absurd (Option.some.inj z) (n7 _ _)
        | 8, z => exact absurd (Option.some.inj z) (m8 _ _)
        | 9, z => exact absurd (Option.some.inj z) (m9 _ _)
        | 10, z => exact absurd (Option.some.inj z) (n10 _ _)
        | 11, z => cases z
        | 12, z => cases z
        | j + 13, z => cases z
      · refine ⟨_, rfl, _, rfl, _, rfl, _, rfl, by rw [List.length_map]; omega, ?_⟩
        refine lcW_map (enc := wD) Wn.wkD ws (fun w hw Q2 hq => ?_) ?_
        · exact ⟨_, rfl, _, rfl, _, rfl, _, rfl, .inr (hs w hw), hq⟩
        · have e : dn.map D.int = ws.map Wn.wkD := by
            apply List.ext_getElem?
            intro i
            rw [List.getElem?_map, List.getElem?_map]
            by_cases hi : i < ws.length
            · have h1 := S.job i hi
              rw [K.whole i hi] at h1
              rw [at_get hi, List.getElem?_eq_getElem (by rw [S.len]; exact hi)]
              unfold ra at h1
              rw [List.getD_eq_getElem?_getD, List.getElem?_eq_getElem (by rw [S.len]; exact hi)] at h1
              exact congrArg (fun z => some (D.int z)) h1
            · rw [List.getElem?_eq_none (by rw [S.len]; omega), List.getElem?_eq_none (by omega)]; rfl
          rw [← e]
          have ok1 : okN 1 (.lst (dn.map D.int)) := okN_lst okN_ints
          refine ⟨⟨ok1.ok (by decide), ok1.ok (by decide)⟩, rfl, ?_⟩
          rw [ok1.refl]
          exact h
end DW
set_option Elab.async false
set_option linter.all false
set_option maxRecDepth 100000
set_option maxHeartbeats 1000000
set_option autoImplicit false
namespace DW
open PySem L2 K62
structure Wd (wishes : List D) (k : Nat) (b : Bool) (js : List Jb) (size : Int) (bx : List (Int × Int)) : Prop where
  hk : wishes[k]? = some (wishD b js size)
  hb1 : b = true → size = 1
  hb : b = true → ∀ j ∈ js, j.n = 1
  hp : ∀ j ∈ js, j.p < bx.length
  hl : js.length ≤ 10
  hne : js ≠ []
  hg : Good (wsOf js bx) size
  hs : SmW (wsOf js bx)
  hz : Sm size
theorem okN_leaf (k : Int) (x : Ld) : okN 2 (leafD k x) := okN_tup fun d hd => by
  simp only [List.mem_cons, List.not_mem_nil, or_false] at hd
  rcases hd with rfl | rfl | rfl | rfl | rfl
  · exact okN_str (by decide +kernel)
  · exact okN_int
  · exact okN_tup okN_js
  · exact okN_int
  · exact okN_int
theorem okN_told (k : Int) (r : Sum (List Pc) Ld) : okN 3 (toldD k r) := by
  cases r with
  | inl ps =>
    refine okN_tup fun d hd => ?_
    simp only [List.mem_cons, List.not_mem_nil, or_false] at hd
    rcases hd with rfl | rfl
    · exact okN_str (by decide +kernel)
    · refine okN_tup fun d hd => ?_
      obtain ⟨p, _, rfl⟩ := List.mem_map.mp hd
      exact okN_p p
  | inr x =>
    refine okN_tup fun d hd => ?_
    simp only [List.mem_cons, List.not_mem_nil, or_false] at hd
    rcases hd with rfl | rfl
    · exact okN_str (by decide +kernel)
    · exact okN_leaf k x
theorem told_len {ws : List Wn} {size : Int} {ps : List Pc} (hl : ws.length ≤ 10) (h : told ws size = .inl ps) : ps.length ≤ 500 := by
  unfold told at h
  split at h
  · cases h
  · have e : ps = (final ws size).2.mergeSort leP := (Sum.inl.inj h).symm
    rw [e, List.length_mergeSort]
    have h1 := (steps_len ws size ((edges ws).length - 1)).2
    rw [← final_eq] at h1
    have h2 := edges_len ws
    have h3 : ((edges ws).length - 1) * ws.length ≤ 20 * 10 := Nat.mul_le_mul (by omega) hl
    omega
theorem world_right_is (u g : D) (wishes : List D) (k : Nat) (b : Bool) (js : List Jb) (size : Int) (bx : List (Int × Int)) (W : Wd wishes k b js size bx) (P : D → Prop) (h : P (.bl true)) :
    F__law_world_right [.heap, .task u (.tup wishes) g, .int (k : Nat), .tup (bx.map bD)] P := by
  obtain ⟨hk, hb1, hb, hp, hl, hne, hg, hs, hz⟩ := W
  have hwl : (wsOf js bx).length ≤ 10 := by rw [wsOf_len]; exact hl
  have hwne : wsOf js bx ≠ [] := fun z => hne (List.map_eq_nil_iff.mp z)
  have pol := pol_is u g wishes k b js size bx hk hb1 hb hp hl hne hg hs hz
  refine ⟨_, rfl, _, rfl, _, rfl, _, atI_nat hk, _, rfl, rfl, windows_is b js size bx hb1 hb hp (by omega) _ ⟨_, rfl, rfl, _, _, rfl, _, _, rfl, rfl, ?_⟩⟩
  refine ⟨_, rfl, _, rfl, _, rfl, rfl, pol _ ?_⟩
  have ok := okN_told (k : Nat) (told (wsOf js bx) size)
  have load := load_right_is u g wishes k b js size bx
  cases ht : told (wsOf js bx) size with
  | inl ps =>
    obtain ⟨tm, pk⟩ := told_pieces hg hwne ht
    have pl := told_len hwl ht
    rw [ht] at ok pol
    refine ⟨_, rfl, rfl, _, rfl, ifF rfl ?_⟩
    refine ⟨_, rfl, .inl ⟨_, .inl rfl, ⟨okD_int _, okD_int _⟩, _, rfl, ifF (nne rfl) ?_⟩⟩
    refine ⟨_, rfl, _, rfl, _, rfl, rfl, pol _ ⟨_, rfl, ⟨ok.ok (by decide), ok.ok (by decide)⟩, _, rfl, ifF (by rw [ok.refl]; rfl) ?_⟩⟩
    refine ⟨_, rfl, _, rfl, ⟨by decide +kernel, by decide +kernel⟩, _, rfl, ifT (by decide +kernel) ?_⟩
    refine ⟨_, rfl, _, rfl, rfl, too_much_is _ size hs hz (by omega) _ ⟨_, rfl, _, rfl, ?_⟩⟩
    rw [tm]
    refine ifT rfl ?_
    exact ⟨_, rfl, _, rfl, _, rfl, _, rfl, rfl, pieces_right_is _ size ps hs hz (by omega) pl pk P h⟩
  | inr x =>
    obtain ⟨tm, _, _, lk⟩ := told_load hg hwne ht
    rw [ht] at ok pol
    refine ⟨_, rfl, rfl, _, rfl, ifF rfl ?_⟩
    refine ⟨_, rfl, .inl ⟨_, .inl rfl, ⟨okD_int _, okD_int _⟩, _, rfl, ifF (nne rfl) ?_⟩⟩
    refine ⟨_, rfl, _, rfl, _, rfl, rfl, pol _ ⟨_, rfl, ⟨ok.ok (by decide), ok.ok (by decide)⟩, _, rfl, ifF (by rw [ok.refl]; rfl) ?_⟩⟩
    refine ⟨_, rfl, _, rfl, ⟨by decide +kernel, by decide +kernel⟩, _, rfl, ifF (by decide +kernel) ?_⟩
    refine ⟨_, rfl, _, rfl, ⟨by decide +kernel, by decide +kernel⟩, _, rfl, ifT (by decide +kernel) ?_⟩
    refine ⟨_, rfl, _, rfl, rfl, too_much_is _ size hs hz (by omega) _ ⟨_, rfl, ifT tm ?_⟩⟩
    exact ⟨_, rfl, _, rfl, _, rfl, _, rfl, _, rfl, rfl, load x hk hb1 hb hp hl hs hz lk P h⟩
end DW
set_option Elab.async false
set_option linter.all false
set_option maxRecDepth 100000
set_option maxHeartbeats 1000000
set_option autoImplicit false
namespace DW
open PySem L2 K62
structure World (us : List (Str × Int × Int)) (wishes : List D) (goal : List Int) (k : Nat) (b : Bool) (js : List Jb) (size : Int) (bx : List (Int × Int)) : Prop where
  tk : TOK us wishes goal
  W : WOK b js size us.length
  hk : wishes[k]? = some (wishD b js size)
  bl : bx.length = us.length
  bo : ∀ p ∈ bx, p.1 ≤ p.2
  sm : size ≤ 1000
  nl : noLs wishes = true
theorem World.wd {us : List (Str × Int × Int)} {wishes : List D} {goal : List Int} {k : Nat} {b : Bool} {js : List Jb} {size : Int} {bx : List (Int × Int)} (X : World us wishes goal k b js size bx) : Wd wishes k b js size bx := by
  have W := X.W
  have hl := W.len
  have hp : ∀ j ∈ js, j.p < bx.length := fun j hj => by rw [X.bl]; exact W.lt j hj
  have hne : js ≠ [] := fun z => by (rw [z] at hl; simp at hl)
  have each : ∀ w ∈ wsOf js bx, w.lo ≤ w.hi ∧ 1 ≤ w.ln ∧ 1 ≤ w.nd ∧ w.nd ≤ size := fun w hw => by
    obtain ⟨j, hj, rfl⟩ := List.mem_map.mp hw
    obtain ⟨p1, p2, p3⟩ := W.pos j hj
    have := hp j hj
    refine ⟨?_, p1, p2, p3⟩
    show (bx.getD j.p (0, 0)).1 ≤ (bx.getD j.p (0, 0)).2
    rw [List.getD_eq_getElem?_getD, List.getElem?_eq_getElem this]
    exact X.bo _ (List.getElem_mem this)
  have sz : 1 ≤ size := by
    obtain ⟨j, r, rfl⟩ := List.exists_cons_of_ne_nil hne
    have := W.pos j List.mem_cons_self
    omega
  have sm := X.sm
  refine ⟨X.hk, W.bench, W.one, hp, hl.2, hne, ⟨sz, fun w hw => ⟨(each w hw).1, (each w hw).2.1, (each w hw).2.2.1⟩⟩, fun w hw => ?_, ?_⟩
  · have := each w hw
    exact ⟨by have : (0 : Int) < 2 ^ 64 := by decide
              omega, by have : (1001 : Int) < 2 ^ 64 := by decide
                        omega⟩
  · exact ⟨by have : (0 : Int) < 2 ^ 64 := by decide
              omega, by have : (1001 : Int) < 2 ^ 64 := by decide
                        omega⟩
theorem pickI (xs : List Int) (lo hi : Int) (hall : ∀ x ∈ xs, lo ≤ x ∧ x ≤ hi) (h0 : xs ≠ []) (hl : xs.length ≤ 1000) (P : D → Prop) (h : ∀ m, lo ≤ m → m ≤ hi → P (.int m)) : F__law_pick [.heap, .lst (xs.map .int)] P :=
  pick_is _ (fun z => h0 (List.map_eq_nil_iff.mp z)) (by rw [List.length_map]; exact hl) _ fun d hd => by
    obtain ⟨x, hx, rfl⟩ := List.mem_map.mp hd
    exact h x (hall x hx).1 (hall x hx).2
def kindS (b : Bool) : Str := if b then "bench" else "room"
theorem okKind (b : Bool) : okD (.str (kindS b)) = true ∧ okD (.str "bench") = true := by cases b <;> exact ⟨by decide +kernel, by decide +kernel⟩
theorem eqKind (b : Bool) : eqD (.str (kindS b)) (.str "bench") = b := by cases b <;> decide +kernel
def letter (i : Nat) : Nat := ("bdfhjlnprtvxz" : Str).cps.toList.getD i 0
def nm (i : Nat) (c : Int) : Str := ⟨#[letter i]⟩ ++ strN c
theorem nm_ok {i : Nat} {c : Int} (hi : i < 6) (h0 : 0 ≤ c) (hc : c < 3) : nameOK (nm i c) = true := by
  have all : ((List.range 6).all fun i => ([0, 1, 2] : List Int).all fun c => nameOK (nm i c)) = true := by decide +kernel
  have h1 := List.all_eq_true.mp all i (List.mem_range.mpr hi)
  refine List.all_eq_true.mp h1 c ?_
  simp only [List.mem_cons, List.not_mem_nil, or_false]
  omega
theorem nm_lt {i : Nat} {c c' : Int} (hi : i < 5) (h0 : 0 ≤ c) (hc : c < 3) (h0' : 0 ≤ c') (hc' : c' < 3) : ltS (nm i c) (nm (i + 1) c') := by
  have all : ((List.range 5).all fun i => ([0, 1, 2] : List Int).all fun c => ([0, 1, 2] : List Int).all fun c' => decide ((nm i c).cps.toList < (nm (i + 1) c').cps.toList)) = true := by decide +kernel
  have h1 := List.all_eq_true.mp all i (List.mem_range.mpr hi)
  have h2 := List.all_eq_true.mp h1 c (by simp only [List.mem_cons, List.not_mem_nil, or_false]; omega)
  have h3 := List.all_eq_true.mp h2 c' (by simp only [List.mem_cons, List.not_mem_nil, or_false]; omega)
  intro P h
  show P (.bl (decide ((nm i c).cps.toList < (nm (i + 1) c').cps.toList)))
  rw [h3]
  exact h
theorem letter_at {i : Nat} (hi : i < 6) : atI ("bdfhjlnprtvxz" : Str).cps.toList ((i : Nat) : Int) = some (letter i) := by
  refine atI_nat ?_
  unfold letter
  have : i < ("bdfhjlnprtvxz" : Str).cps.toList.length := Nat.lt_of_lt_of_le hi (by decide +kernel)
  rw [List.getD_eq_getElem?_getD, List.getElem?_eq_getElem this]
  rfl
/-- the unknowns and the box as far as they are made -/
structure Made (us : List (Str × Int × Int)) (bx : List (Int × Int)) (n : Nat) : Prop where
  ul : us.length = n
  bl : bx.length = n
  each : ∀ (i : Nat) u, us[i]? = some u → (∃ c : Int, 0 ≤ c ∧ c < 3 ∧ u.1 = nm i c) ∧ u.2.1 ≤ u.2.2
  bo : ∀ p ∈ bx, p.1 ≤ p.2
theorem Made.push {us : List (Str × Int × Int)} {bx : List (Int × Int)} {n : Nat} (M : Made us bx n) (c lo hi f t : Int) (h0 : 0 ≤ c) (h3 : c < 3) (h : lo ≤ hi) (hb : f ≤ t) : Made (us ++ [(nm n c, lo, hi)]) (bx ++ [(f, t)]) (n + 1) := by
  refine ⟨by rw [List.length_append, M.ul]; rfl, by rw [List.length_append, M.bl]; rfl, fun i u hu => ?_, fun p hp => ?_⟩
  · by_cases hi' : i < us.length
    · rw [List.getElem?_append_left hi'] at hu
      exact M.each i u hu
    · rw [List.getElem?_append_right (by omega)] at hu
      have e : i - us.length = 0 := by
        cases hh : i - us.length with
        | zero => rfl
        | succ m => rw [hh] at hu; cases hu
      rw [e] at hu
      cases hu
      have : i = n := by have := M.ul; omega
      rw [this]
      exact ⟨⟨c, h0, h3, rfl⟩, h⟩
  · rcases List.mem_append.mp hp with q | q
    · exact M.bo p q
    · rw [List.mem_singleton.mp q]
      exact hb
theorem Made.usOK {us : List (Str × Int × Int)} {bx : List (Int × Int)} {n : Nat} (M : Made us bx n) (h0 : 0 < n) (h6 : n ≤ 6) : UsOK us := by
  have hl := M.ul
  refine ⟨fun z => by (rw [z] at hl; simp at hl; omega), by omega, fun u hu => ?_, fun i u v hu hv => ?_⟩
  · obtain ⟨i, hi, e⟩ := List.getElem_of_mem hu
    obtain ⟨⟨c, c0, c3, en⟩, hle⟩ := M.each i u (by rw [List.getElem?_eq_getElem hi, e])
    exact ⟨by rw [en]; exact nm_ok (by omega) c0 c3, hle⟩
  · obtain ⟨⟨c, c0, c3, en⟩, _⟩ := M.each i u hu
    obtain ⟨⟨c', c0', c3', en'⟩, _⟩ := M.each (i + 1) v hv
    have : i + 1 < us.length := (List.getElem?_eq_some_iff.mp hv).1
    rw [en, en']
    exact nm_lt (by omega) c0 c3 c0' c3'
theorem gone_len {N g : Nat} (hN : N ≤ 6) (hg : g < N) : ((List.range N).filter fun i => decide (i ≠ g)).length + 1 = N := by
  have all : ((List.range 7).all fun N => (List.range N).all fun g => decide (((List.range N).filter fun i => decide (i ≠ g)).length + 1 = N)) = true := by decide +kernel
  exact of_decide_eq_true (List.all_eq_true.mp (List.all_eq_true.mp all N (List.mem_range.mpr (by omega))) g (List.mem_range.mpr hg))
end DW
set_option Elab.async false
set_option linter.all false
set_option maxRecDepth 100000
set_option maxHeartbeats 1000000
set_option autoImplicit false
namespace DW
open PySem L2 K62
theorem strN_len (c : Int) : (strN c).length ≤ 2 := by
  unfold strN
  split
  · decide +kernel
  · split
    · decide +kernel
    · decide +kernel
theorem noT (b : Bool) : ∀ l : List Jb, noLs (l.map (jT b)) = true
  | [] => rfl
  | x :: r => by show (noL (jT b x) && noLs (r.map (jT b))) = true; rw [noT b r]; cases b <;> rfl
theorem noL_wish (b : Bool) (js : List Jb) (size : Int) : noL (wishD b js size) = true := by
  have h := noT b js
  cases b with
  | true =>
    show (noL (.str "bench") && (noLs (js.map j2) && true)) = true
    rw [show noLs (js.map j2) = true from h]; rfl
  | false =>
    show (noL (.str "room") && (noLs (js.map j3) && (noL (.int size) && true))) = true
    rw [show noLs (js.map j3) = true from h]; rfl
theorem view_set {γ : Ga} {i : Nat} {ds : List D} (h : γ[i]? = some (some (.l ds))) : (γ.set i (some (.d (.lst ds))))[i]? = some (some (.d (.lst ds))) := List.getElem?_set_self (List.getElem?_eq_some_iff.mp h).1
theorem wish_mk (b : Bool) (js : List Jb) (size : Int) (γ : Ga) (Q : D → Prop) (h1 : γ[1]? = some (some (.d (.str (kindS b))))) (h3 : γ[3]? = some (some (.d (.int size)))) (h14 : γ[14]? = some (some (.l (js.map (jT b))))) (h : Q (wishD b js size)) :
    dIf (dTest (dBin oEq (dVar 1) (dC (.str "bench")))) (dTup (aCons (dVar 1) (aCons (dView 14 (dCB oTupOf (aCons (dVar 14) aNil))) aNil))) (dTup (aCons (dVar 1) (aCons (dView 14 (dCB oTupOf (aCons (dVar 14) aNil))) (aCons (dVar 3) aNil)))) γ Q := by
  refine ⟨_, h1, okKind b, _, rfl, ?_⟩
  rw [eqKind]
  have nn := noT b js
  cases b with
  | true => exact ifT rfl ⟨_, h1, _, h14, _, view_set h14, _, .inl rfl, nn, by simp, h⟩
  | false => exact ifF rfl ⟨_, h1, _, h14, _, view_set h14, _, .inl rfl, nn, _, h3, by simp, h⟩
def alikeJ (b : Bool) : List Jb := if b then [⟨0, 4, 1⟩, ⟨1, 2, 1⟩] else [⟨0, 1, 2⟩, ⟨1, 4, 1⟩]
def alikeS (b : Bool) : Int := if b then 1 else 2
theorem alike_ok (b : Bool) {n : Nat} (hn : 2 ≤ n) : WOK b (alikeJ b) (alikeS b) n := by
  cases b with
  | true => exact ⟨by decide, by decide, fun j hj => by (simp only [alikeJ, if_true, List.mem_cons, List.not_mem_nil, or_false] at hj; rcases hj with rfl | rfl <;> (first | (show 0 < n; omega) | (show 1 < n; omega))), fun j hj => by (simp only [alikeJ, if_true, List.mem_cons, List.not_mem_nil, or_false] at hj; rcases hj with rfl | rfl <;> exact ⟨by decide, by decide, by decide⟩), fun _ => rfl⟩
  | false => exact ⟨by decide, by decide, fun j hj => by (simp only [alikeJ, Bool.false_eq_true, if_false, List.mem_cons, List.not_mem_nil, or_false] at hj; rcases hj with rfl | rfl <;> (first | (show 0 < n; omega) | (show 1 < n; omega))), fun j hj => by (simp only [alikeJ, Bool.false_eq_true, if_false, List.mem_cons, List.not_mem_nil, or_false] at hj; rcases hj with rfl | rfl <;> exact ⟨by decide, by decide, by decide⟩), fun z => by cases z⟩
theorem alike_mk (b : Bool) (γ : Ga) (Q : D → Prop) (h1 : γ[1]? = some (some (.d (.str (kindS b))))) (h : Q (wishD b (alikeJ b) (alikeS b))) :
    dIf (dTest (dBin oEq (dVar 1) (dC (.str "bench")))) (dTup (aCons (dC (.str "bench")) (aCons (dTup (aCons (dTup (aCons (dC (.int 0)) (aCons (dC (.int 4)) aNil))) (aCons (dTup (aCons (dC (.int 1)) (aCons (dC (.int 2)) aNil))) aNil))) aNil))) (dTup (aCons (dC (.str "room")) (aCons (dTup (aCons (dTup (aCons (dC (.int 0)) (aCons (dC (.int 1)) (aCons (dC (.int 2)) aNil)))) (aCons (dTup (aCons (dC (.int 1)) (aCons (dC (.int 4)) (aCons (dC (.int 1)) aNil)))) aNil))) (aCons (dC (.int 2)) aNil)))) γ Q := by
  refine ⟨_, h1, okKind b, _, rfl, ?_⟩
  rw [eqKind]
  cases b with
  | true => exact ifT rfl ⟨by simp, by simp, by simp, by simp, h⟩
  | false => exact ifF rfl ⟨by simp, by simp, by simp, by simp, h⟩
theorem noL_u : ∀ us : List (Str × Int × Int), noLs (us.map uD) = true
  | [] => rfl
  | x :: r => by show (noL (uD x) && noLs (r.map uD)) = true; rw [noL_u r]; rfl
theorem noL_b : ∀ us : List (Int × Int), noLs (us.map bD) = true
  | [] => rfl
  | x :: r => by show (noL (bD x) && noLs (r.map bD)) = true; rw [noL_b r]; rfl
theorem law_task_is (b : Bool) (P : D → Prop) (h : ∀ us wishes goal k js size bx, World us wishes goal k b js size bx → size ≤ 4 → P (.tup [.task (.tup (us.map uD)) (.tup wishes) (.tup (goal.map .int)), .int (k : Nat), .tup (bx.map bD)])) : F__law_task [.heap, .str (kindS b)] P := by
  -- many
  refine ⟨_, rfl, by simp, rfl, pickI [3, 2, 4, 3, 5, 3] 2 5 (by decide) (by simp) (by simp) _ fun m m1 m2 => ?_⟩
  -- size, spare
  refine ⟨⟨show 3 < 22 by decide, show 4 < 22 by decide⟩, _, rfl, okKind b, _, rfl, ?_⟩
  have sizeP : ∀ Q : D → Prop, (∀ size : Int, 1 ≤ size → size ≤ 4 → (b = true → size = 1) → Q (.int size)) → (if eqD (.str (kindS b)) (.str "bench") = true then (dC (.int 1)) ((startG N__law_task [.heap, .str (kindS b)]).set 2 (some (.d (.int m)))) Q else (dBin oAdd (dC (.int 1)) (dCall 2 F__law_draw (aCons (dVar 0) (aCons (dC (.int 4)) aNil)))) ((startG N__law_task [.heap, .str (kindS b)]).set 2 (some (.d (.int m)))) Q) := fun Q hQ => by
    rw [eqKind]
    cases b with
    | true => exact ifT rfl (hQ 1 (by decide) (by decide) fun _ => rfl)
    | false =>
      refine ifF rfl ?_
      exact ⟨_, rfl, rfl, _, rfl, ⟨by decide, by decide⟩, fun v v1 v2 => hQ (1 + v) (by omega) (by omega) fun z => by cases z⟩
  refine sizeP _ fun size s1 s4 sb => ?_
  refine ⟨_, rfl, rfl, _, rfl, ⟨by decide, by decide⟩, fun sp sp1 sp2 => ?_⟩
  refine ⟨⟨show 5 < 22 by decide, show 6 < 22 by decide, show 7 < 22 by decide⟩, by simp, by simp, ?_⟩
  -- the unknowns and the box
  refine ⟨_, rfl, _, rfl, _, rfl, ⟨by omega, by omega⟩, ?_⟩
  obtain ⟨N, hN⟩ : ∃ N : Nat, (N : Int) = m + sp := ⟨(m + sp).toNat, by omega⟩
  have eN : (m + sp).toNat = N := by omega
  rw [eN]
  refine forW_inv (enc := fun i : Nat => D.int (i : Nat)) (fun l γ => ∃ done us bx x8 x9 x10 x11, List.range N = done ++ l ∧ Made us bx done.length ∧ γ = [some (.d .heap), some (.d (.str (kindS b))), some (.d (.int m)), some (.d (.int size)), some (.d (.int sp)), some (.d (.str "bdfhjlnprtvxz")), some (.l (us.map uD)), some (.l (bx.map bD)), x8, x9, x10, x11, none, none, none, none, none, none, none, none, none, none]) (List.range N) _ ⟨[], [], [], none, none, none, none, rfl, ⟨rfl, rfl, fun i u z => (by cases z), fun p z => absurd z List.not_mem_nil⟩, rfl⟩ ?_ ?_
  · rintro i l γ ⟨done, us, bx, x8, x9, x10, x11, hd, M, rfl⟩ K2 hK
    obtain ⟨hi, hi2⟩ := range_next hd
    subst hi
    have ul := M.ul
    have bl := M.bl
    refine ⟨_, rfl, rfl, _, rfl, ⟨by decide, by decide⟩, fun v v1 v2 => ?_⟩
    refine ⟨_, rfl, _, rfl, by simp, rfl, pickI [4, 0, 2, 6, 8, 3] 0 8 (by decide) (by simp) (by simp) _ fun w w1 w2 => ?_⟩
    refine ⟨_, rfl, by rw [List.length_map]; omega, _, rfl, _, rfl, by decide +kernel, _, letter_at (by omega), ?_⟩
    refine ⟨_, rfl, rfl, _, rfl, ⟨by decide, by decide⟩, fun c c1 c2 => ⟨rfl, ⟨c1, by omega⟩, ?_⟩⟩
    have sl := strN_len c
    have one : (⟨#[letter done.length]⟩ : Str).length = 1 := rfl
    refine ⟨by rw [one]; omega, _, rfl, _, rfl, by simp, ?_⟩
    refine ⟨_, rfl, _, rfl, _, rfl, _, rfl, _, _, rfl, rfl, _, rfl, ⟨by (split <;> omega), by (split <;> omega)⟩, fun f f1 f2 => ?_⟩
    have f3 : f ≤ w := by (split at f2 <;> omega)
    refine ⟨_, rfl, by rw [List.length_map]; omega, _, rfl, _, rfl, _, rfl, _, rfl, _, rfl, _, _, rfl, rfl, _, rfl, ⟨by (split <;> omega), by (split <;> omega)⟩, fun t t1 t2 => ?_⟩
    have t3 : v - 3 + f ≤ v - 3 + w - t := by (split at t2 <;> omega)
    refine ⟨by simp, hK _ ⟨done ++ [done.length], us ++ [(nm done.length c, v - 3, v - 3 + w)], bx ++ [(v - 3 + f, v - 3 + w - t)], some (.d (.int (done.length : Nat))), some (.d (.int (v - 3))), some (.d (.int (v - 3 + w))), some (.d (.int (v - 3 + f))), by rw [hd]; simp, ?_, ?_⟩⟩
    · rw [List.length_append, List.length_singleton]
      exact M.push c _ _ _ _ c1 (by omega) (by omega) t3
    · rw [List.map_append, List.map_append]
      rfl
  · rintro γ ⟨done, us, bx, x8, x9, x10, x11, hd, M, rfl⟩
    have hdl : done.length = N := by
      have := congrArg List.length hd
      simpa using this.symm
    rw [hdl] at M
    clear hd hdl done
    have hul := M.ul
    have hbl := M.bl
    -- gone
    have goneP : ∀ Q : D → Prop, (∀ g : Int, ((∃ n : Nat, g = (n : Int) ∧ n < N ∧ sp = 1) ∨ (g = -1 ∧ sp = 0)) → Q (.int g)) → (if decide ((0 : Int) < sp) = true then (dCall 2 F__law_draw (aCons (dVar 0) (aCons (dBin oAdd (dVar 2) (dVar 4)) aNil))) [some (.d .heap), some (.d (.str (kindS b))), some (.d (.int m)), some (.d (.int size)), some (.d (.int sp)), some (.d (.str "bdfhjlnprtvxz")), some (.l (us.map uD)), some (.l (bx.map bD)), x8, x9, x10, x11, none, none, none, none, none, none, none, none, none, none] Q else Q (.int (0 - 1))) := fun Q hQ => by
      refine ifB (fun z => ?_) fun z => ?_
      · have z' := of_decide_eq_true z
        refine ⟨_, rfl, _, rfl, _, rfl, rfl, _, rfl, ⟨by omega, by omega⟩, fun g g1 g2 => hQ g (.inl ⟨g.toNat, by omega, by omega, by omega⟩)⟩
      · have z' := of_decide_eq_false z
        exact hQ _ (.inr ⟨rfl, by omega⟩)
    refine ⟨_, rfl, _, rfl, goneP _ fun g hg => ?_⟩
    -- the places
    refine ⟨⟨show 13 < 22 by decide, show 14 < 22 by decide⟩, _, rfl, _, rfl, _, rfl, ⟨by omega, by omega⟩, by rw [List.length_map, List.length_range]; omega, ?_⟩
    rw [eN]
    refine lcW_run (enc := fun i : Nat => D.int (i : Nat)) (fun i : Nat => decide ((i : Int) ≠ g)) jD (List.range N) [] (fun i _ Q1 Q2 h1 h0 => ?_) ?_
    · refine ⟨_, rfl, _, rfl, ⟨okD_int _, okD_int _⟩, _, rfl, ?_⟩
      rw [eqD_int]
      by_cases c : (i : Int) = g
      · rw [decide_eq_true c]
        exact ifF rfl (h0 (by simp [c]))
      · rw [decide_eq_false c]
        exact ifT rfl ⟨_, rfl, h1 (by simp [c])⟩
    rw [List.nil_append]
    have plt : ∀ i ∈ (List.range N).filter (fun i : Nat => decide ((i : Int) ≠ g)), i < N := fun i hi => List.mem_range.mp (List.mem_filter.mp hi).1
    have ppw : ((List.range N).filter (fun i : Nat => decide ((i : Int) ≠ g))).Pairwise (· < ·) := List.pairwise_lt_range.filter _
    have plen : 2 ≤ ((List.range N).filter (fun i : Nat => decide ((i : Int) ≠ g))).length ∧ ((List.range N).filter (fun i : Nat => decide ((i : Int) ≠ g))).length ≤ 6 := by
      rcases hg with ⟨n, rfl, hn, hs1⟩ | ⟨rfl, hs0⟩
      · have e : (fun i : Nat => decide ((i : Int) ≠ (n : Int))) = fun i => decide (i ≠ n) := funext fun i => by
          rw [Bool.eq_iff_iff, decide_eq_true_eq, decide_eq_true_eq]
          omega
        rw [e]
        have := gone_len (N := N) (g := n) (by omega) hn
        omega
      · rw [List.filter_eq_self.mpr fun i _ => decide_eq_true (show ((i : Nat) : Int) ≠ -1 by omega), List.length_range]
        omega
    generalize (List.range N).filter (fun i : Nat => decide ((i : Int) ≠ g)) = pls at plt ppw plen ⊢
    refine ⟨by simp, ?_⟩
    refine ⟨_, rfl, _, rfl, ?_⟩
    refine forW_inv (enc := jD) (fun l γ => ∃ done js x15 x16, pls = done ++ l ∧ js.map Jb.p = done ∧ (∀ j ∈ js, 1 ≤ j.l ∧ 1 ≤ j.n ∧ j.n ≤ size) ∧ γ = [some (.d .heap), some (.d (.str (kindS b))), some (.d (.int m)), some (.d (.int size)), some (.d (.int sp)), some (.d (.str "bdfhjlnprtvxz")), some (.l (us.map uD)), some (.l (bx.map bD)), x8, x9, x10, x11, some (.d (.int g)), some (.d (.lst (pls.map jD))), some (.l (js.map (jT b))), x15, x16, none, none, none, none, none]) pls _ ⟨[], [], none, none, rfl, rfl, fun _ z => absurd z List.not_mem_nil, rfl⟩ ?_ ?_
    · rintro i l γ ⟨done, js, x15, x16, hd, hj, hpos, rfl⟩ K2 hK
      have jl : js.length ≤ 6 := by
        have := congrArg List.length hd
        rw [List.length_append, ← hj, List.length_map] at this
        omega
      refine ⟨_, rfl, by simp, rfl, pickI [1, 0, 2, 3, 1, 4] 0 4 (by decide) (by simp) (by simp) _ fun w w1 w2 => ?_⟩
      refine ⟨_, rfl, by rw [List.length_map]; omega, _, rfl, okKind b, _, rfl, ?_⟩
      have fin : ∀ n : Int, 1 ≤ n → n ≤ size → K2 [some (.d .heap), some (.d (.str (kindS b))), some (.d (.int m)), some (.d (.int size)), some (.d (.int sp)), some (.d (.str "bdfhjlnprtvxz")), some (.l (us.map uD)), some (.l (bx.map bD)), x8, x9, x10, x11, some (.d (.int g)), some (.d (.lst (pls.map jD))), some (.l (js.map (jT b) ++ [jT b ⟨i, 1 + w, n⟩])), some (.d (jD i)), some (.d (.int (1 + w))), none, none, none, none, none] := fun n n1 n2 => by
        refine hK _ ⟨done ++ [i], js ++ [⟨i, 1 + w, n⟩], some (.d (jD i)), some (.d (.int (1 + w))), by rw [hd]; simp, by rw [List.map_append, hj]; rfl, fun j hj2 => ?_, by rw [List.map_append]; rfl⟩
        rcases List.mem_append.mp hj2 with q | q
        · exact hpos j q
        · rw [List.mem_singleton.mp q]
          exact ⟨by show 1 ≤ 1 + w; omega, n1, n2⟩
      rw [eqKind]
      cases b with
      | true => exact ifT rfl ⟨_, rfl, _, rfl, by simp, fin 1 (by decide) s1⟩
      | false =>
        refine ifF rfl ⟨_, rfl, _, rfl, _, rfl, _, rfl, rfl, _, rfl, ⟨s1, by omega⟩, fun v v1 v2 => ⟨by simp, fin (1 + v) (by omega) (by omega)⟩⟩
    · rintro γ ⟨done, js, x15, x16, hd, hj, hpos, rfl⟩
      rw [List.append_nil] at hd
      subst hd
      have jl : js.length = pls.length := by rw [← hj, List.length_map]
      have WK : WOK b js size us.length := by
        refine ⟨by omega, by rw [hj]; exact ppw, fun j hj2 => ?_, hpos, sb⟩
        rw [hul]
        exact plt _ (by rw [← hj]; exact List.mem_map.mpr ⟨j, hj2, rfl⟩)
      have UO := M.usOK (by omega) (by omega)
      have mk : ∀ (k : Nat) (wishes : List D) (other : D), (wishes = [wishD b js size, other] ∧ k = 0) ∨ (wishes = [other, wishD b js size] ∧ k = 1) → (∀ P : D → Prop, P (.bl true) → F_is_wish [other, .int (us.length : Nat)] P) → noL other = true → World us wishes (List.replicate us.length 0) k b js size bx := fun k wishes other hw ho hn => by
        refine ⟨⟨UO, ?_, fun w hw2 P h => ?_, by simp⟩, WK, ?_, by omega, M.bo, by omega, ?_⟩
        · rcases hw with ⟨rfl, rfl⟩ | ⟨rfl, rfl⟩ <;> simp
        · have : w = wishD b js size ∨ w = other := by
            rcases hw with ⟨rfl, rfl⟩ | ⟨rfl, rfl⟩ <;> simp only [List.mem_cons, List.not_mem_nil, or_false] at hw2
            · exact hw2
            · exact hw2.symm
          rcases this with rfl | rfl
          · exact is_wish_is b js size us.length WK P h
          · exact ho P h
        · rcases hw with ⟨rfl, rfl⟩ | ⟨rfl, rfl⟩ <;> rfl
        · rcases hw with ⟨rfl, rfl⟩ | ⟨rfl, rfl⟩
          · show (noL (wishD b js size) && (noL other && true)) = true
            rw [noL_wish, hn]; rfl
          · show (noL other && (noL (wishD b js size) && true)) = true
            rw [noL_wish, hn]; rfl
      refine wish_mk b js size _ _ rfl rfl rfl ?_
      refine alike_mk b _ _ rfl ?_
      refine ⟨⟨show 19 < 22 by decide, show 20 < 22 by decide⟩, _, rfl, rfl, _, rfl, ⟨by decide, by decide⟩, fun k k1 k2 => ?_⟩
      refine ⟨_, rfl, by simp, by simp, _, rfl, by simp, rfl, pick_is _ (by simp) (by simp) _ fun other ho => ?_⟩
      have hoo : ∀ P : D → Prop, P (.bl true) → F_is_wish [other, .int (us.length : Nat)] P := fun P h => by
        simp only [List.mem_cons, List.not_mem_nil, or_false] at ho
        rcases ho with rfl | rfl
        · exact is_wish_unlike us.length (by omega) P h
        · exact is_wish_is b _ _ us.length (alike_ok b (by omega)) P h
      have hon : noL other = true := by
        simp only [List.mem_cons, List.not_mem_nil, or_false] at ho
        rcases ho with rfl | rfl
        · rfl
        · exact noL_wish b _ _
      have end_ : ∀ (k : Nat) (wishes : List D), World us wishes (List.replicate us.length 0) k b js size bx → P (.tup [.task (.tup (us.map uD)) (.tup wishes) (.tup ((List.replicate us.length (0 : Int)).map .int)), .int (k : Nat), .tup (bx.map bD)]) := fun k wishes W => h us wishes _ k js size bx W s4
      have el : (((us.map uD).length : Nat) : Int).toNat = us.length := by rw [List.length_map]; exact Int.toNat_natCast _
      have nu := noL_u us
      have nb := noL_b bx
      have hk2 : k = 0 ∨ k = 1 := by omega
      rcases hk2 with rfl | rfl
      · have W0 := mk 0 [wishD b js size, other] other (.inl ⟨rfl, rfl⟩) hoo hon
        refine ⟨_, rfl, _, rfl, by simp, _, rfl, _, rfl, by simp, by simp, _, rfl, _, rfl, ?_⟩
        refine ⟨_, rfl, _, rfl, _, .inl rfl, nu, _, rfl, by simp, _, rfl, _, rfl, .inl ⟨_, .inr rfl, rfl, ⟨by simp, by (rw [List.length_map]; omega), by (rw [List.length_map]; omega), by simp⟩, ?_⟩⟩
        rw [el, rep_flat]
        exact ⟨_, _, _, rfl, check_task_is us _ _ W0.tk, _, rfl, _, rfl, _, rfl, _, .inl rfl, nb, by simp, end_ 0 _ W0⟩
      · have W0 := mk 1 [other, wishD b js size] other (.inr ⟨rfl, rfl⟩) hoo hon
        refine ⟨_, rfl, _, rfl, by simp, _, rfl, _, rfl, by simp, by simp, _, rfl, _, rfl, ?_⟩
        refine ⟨_, rfl, _, rfl, _, .inl rfl, nu, _, rfl, by simp, _, rfl, _, rfl, .inl ⟨_, .inr rfl, rfl, ⟨by simp, by (rw [List.length_map]; omega), by (rw [List.length_map]; omega), by simp⟩, ?_⟩⟩
        rw [el, rep_flat]
        exact ⟨_, _, _, rfl, check_task_is us _ _ W0.tk, _, rfl, _, rfl, _, rfl, _, .inl rfl, nb, by simp, end_ 1 _ W0⟩
end DW
set_option Elab.async false
set_option linter.all false
set_option maxRecDepth 100000
set_option maxHeartbeats 1000000
set_option autoImplicit false
namespace DW
open PySem L2 K62
theorem nxAt {K : Ga → Prop} {γ γ' : Ga} (e : γ = γ') (h : K γ') : K γ := e ▸ h
def farJ (b : Bool) (many more : Int) (j : Jb) : Jb := ⟨j.p, j.l * many, if b then j.n else j.n * more⟩
def farB (many : Int) (p : Int × Int) : Int × Int := (p.1 * many, p.2 * many)
def farU (many : Int) (u : Str × Int × Int) : Str × Int × Int := (u.1, u.2.1 * many, u.2.2 * many)
theorem far_world {us : List (Str × Int × Int)} {wishes : List D} {goal : List Int} {k : Nat} {b : Bool} {js : List Jb} {size : Int} {bx : List (Int × Int)} (X : World us wishes goal k b js size bx) (s4 : size ≤ 4) {many more : Int} (h1 : 1 ≤ many) (h2 : 1 ≤ more ∧ more ≤ 50) :
    World (us.map (farU many)) (wishes.set k (wishD b (js.map (farJ b many more)) (if b then size else size * more))) goal k b (js.map (farJ b many more)) (if b then size else size * more) (bx.map (farB many)) := by
  have mul_le : ∀ {x y : Int}, x ≤ y → x * many ≤ y * many := fun h => Int.mul_le_mul_of_nonneg_right h (by omega)
  have W := X.W
  have hkl : k < wishes.length := (List.getElem?_eq_some_iff.mp X.hk).1
  have WK : WOK b (js.map (farJ b many more)) (if b then size else size * more) (us.map (farU many)).length := by
    rw [List.length_map]
    refine ⟨by rw [List.length_map]; exact W.len, ?_, fun j hj => ?_, fun j hj => ?_, fun h => ?_⟩
    · rw [List.map_map]
      exact W.asc
    · obtain ⟨j0, h0, rfl⟩ := List.mem_map.mp hj
      exact W.lt j0 h0
    · obtain ⟨j0, h0, rfl⟩ := List.mem_map.mp hj
      obtain ⟨p1, p2, p3⟩ := W.pos j0 h0
      have hl : 1 ≤ j0.l * many := by
        have := Int.mul_pos (show 0 < j0.l by omega) (show 0 < many by omega)
        omega
      cases b with
      | true => exact ⟨hl, p2, p3⟩
      | false =>
        refine ⟨hl, ?_, Int.mul_le_mul_of_nonneg_right p3 (by omega)⟩
        show 1 ≤ j0.n * more
        have := Int.mul_pos (show 0 < j0.n by omega) (show 0 < more by omega)
        omega
    · rw [if_pos h]
      exact W.bench h
  have T := X.tk
  have nlw := X.nl
  refine ⟨⟨⟨?_, by rw [List.length_map]; exact T.uo.len, fun u hu => ?_, fun i u v hu hv => ?_⟩, by rw [List.length_set]; exact T.ws, fun w hw P h => ?_, by rw [List.length_map]; exact T.gl⟩, WK, ?_, by rw [List.length_map, List.length_map]; exact X.bl, fun p hp => ?_, ?_, ?_⟩
  · exact fun z => T.uo.ne (List.map_eq_nil_iff.mp z)
  · obtain ⟨u0, h0, rfl⟩ := List.mem_map.mp hu
    have := T.uo.each u0 h0
    exact ⟨this.name, mul_le this.le⟩
  · rw [List.getElem?_map] at hu hv
    cases hu0 : us[i]? with
    | none => rw [hu0] at hu; cases hu
    | some u0 =>
      cases hv0 : us[i + 1]? with
      | none => rw [hv0] at hv; cases hv
      | some v0 =>
        rw [hu0] at hu
        rw [hv0] at hv
        cases hu
        cases hv
        exact T.uo.asc i u0 v0 hu0 hv0
  · rcases List.mem_or_eq_of_mem_set hw with q | q
    · rw [List.length_map]
      exact T.each w q P h
    · rw [q]
      exact is_wish_is b _ _ _ WK P h
  · exact List.getElem?_set_self hkl
  · obtain ⟨p0, h0, rfl⟩ := List.mem_map.mp hp
    exact mul_le (X.bo p0 h0)
  · split
    · omega
    · have := Int.mul_le_mul_of_nonneg_right s4 (show 0 ≤ more by omega)
      omega
  · have gen : ∀ (l : List D) (k : Nat) (d : D), noLs l = true → noL d = true → noLs (l.set k d) = true := by
      intro l
      induction l with
      | nil => intro k d h1 h2; rfl
      | cons x r ih =>
        intro k d h1 h2
        have h1' : (noL x && noLs r) = true := h1
        rw [Bool.and_eq_true] at h1'
        cases k with
        | zero => show (noL d && noLs r) = true; rw [h2, h1'.2]; rfl
        | succ k => show (noL x && noLs (r.set k d)) = true; rw [h1'.1, ih k d h1'.2 h2]; rfl
    exact gen _ _ _ nlw (noL_wish b _ _)
theorem law_far_is (us : List (Str × Int × Int)) (wishes : List D) (goal : List Int) (k : Nat) (b : Bool) (js : List Jb) (size : Int) (bx : List (Int × Int)) (X : World us wishes goal k b js size bx) (s4 : size ≤ 4) (P : D → Prop)
    (h : ∀ us wishes goal js size bx, World us wishes goal k b js size bx → P (.tup [.task (.tup (us.map uD)) (.tup wishes) (.tup (goal.map .int)), .tup (bx.map bD)])) :
    F__law_far [.heap, .task (.tup (us.map uD)) (.tup wishes) (.tup (goal.map .int)), .int (k : Nat), .tup (bx.map bD)] P := by
  have W := X.W
  have hl := W.len
  have hkl : k < wishes.length := (List.getElem?_eq_some_iff.mp X.hk).1
  have wl := X.tk.ws
  have ul := X.tk.uo.len
  have bl := X.bl
  refine ⟨_, rfl, rfl, _, rfl, ⟨by decide, by decide⟩, fun v v1 v2 => ?_⟩
  refine ⟨_, rfl, rfl, _, rfl, ⟨by decide, by decide⟩, fun w w1 w2 => ⟨by simp, _, rfl, rfl, _, _, rfl, _, _, rfl, rfl, ?_⟩⟩
  obtain ⟨many, em⟩ : ∃ many : Int, many = 1 + v := ⟨_, rfl⟩
  obtain ⟨more, eo⟩ : ∃ more : Int, more = 1 + w := ⟨_, rfl⟩
  have smy : -(2 ^ 64) < many ∧ many < 2 ^ 64 := ⟨by have : (0 : Int) < 2 ^ 64 := by decide
                                                     omega, by have : (1001 : Int) < 2 ^ 64 := by decide
                                                               omega⟩
  have sme : -(2 ^ 64) < more ∧ more < 2 ^ 64 := ⟨by have : (0 : Int) < 2 ^ 64 := by decide
                                                     omega, by have : (1001 : Int) < 2 ^ 64 := by decide
                                                               omega⟩
  have X' := far_world X s4 (many := many) (more := more) (by omega) ⟨by omega, by omega⟩
  rw [← em, ← eo]
  refine ⟨⟨show 6 < 16 by decide, show 7 < 16 by decide⟩, _, rfl, _, rfl, _, rfl, _, atI_nat X.hk, _, rfl, _, rfl, _, .inr rfl, ?_⟩
  have jobs : (js.map (jT b)).length ≤ 1000 := by rw [List.length_map]; omega
  -- the jobs
  have w1' : ∀ Q : D → Prop, Q (.tup (js.map (jT b))) → oIx (wishD b js size) (.int 1) Q := fun Q q => by cases b <;> exact ⟨_, rfl, q⟩
  refine ⟨_, rfl, w1' _ ⟨_, rfl, jobs, ?_⟩⟩
  refine lcW_map (enc := jT b) (fun j => jT b (farJ b many more j)) js (fun j hj Q2 hq => ?_) ?_
  · cases b with
    | true =>
      refine ⟨_, rfl, _, rfl, _, rfl, _, rfl, _, rfl, .inr smy, by simp, _, rfl, _, rfl, _, rfl, (show 0 ≤ 1000 by decide), ?_⟩
      exact lcW_map (enc := D.int) (fun n => D.int (n * more)) [] (fun n hn Q3 hq3 => ⟨_, rfl, _, rfl, .inr sme, hq3⟩) ⟨_, .inl rfl, by simp, hq⟩
    | false =>
      refine ⟨_, rfl, _, rfl, _, rfl, _, rfl, _, rfl, .inr smy, by simp, _, rfl, _, rfl, _, rfl, (show 1 ≤ 1000 by decide), ?_⟩
      exact lcW_map (enc := D.int) (fun n => D.int (n * more)) [j.n] (fun n hn Q3 hq3 => ⟨_, rfl, _, rfl, .inr sme, hq3⟩) ⟨_, .inl rfl, by simp, hq⟩
  have ej : js.map (fun j => jT b (farJ b many more j)) = (js.map (farJ b many more)).map (jT b) := by rw [List.map_map]; rfl
  rw [ej]
  -- the wish
  have wishP : ∀ Q : D → Prop, Q (wishD b (js.map (farJ b many more)) (if b then size else size * more)) → (dBin oAdd (dTup (aCons (dBin oIx (dVar 6) (dC (.int 0))) (aCons (dCB oTupOf (aCons (dVar 8) aNil)) aNil))) (dCB oTupOf (aCons (dLst (dLc (iT (dSl (some 2) none (dVar 6))) (gN 11) (fun _ P => P true) (dBin oMul (dVar 11) (dVar 5)) [11])) aNil))) [some (.d .heap), some (.d (.task (.tup (us.map uD)) (.tup wishes) (.tup (goal.map .int)))), some (.d (.int (k : Nat))), some (.d (.tup (bx.map bD))), some (.d (.int many)), some (.d (.int more)), some (.d (wishD b js size)), some (.l wishes), some (.d (.lst ((js.map (farJ b many more)).map (jT b)))), none, none, none, none, none, none, none] Q := fun Q hQ => by
    cases b with
    | true =>
      refine ⟨_, rfl, _, rfl, _, rfl, _, .inl rfl, by simp, _, rfl, _, rfl, _, rfl, (show 0 ≤ 1000 by decide), ?_⟩
      exact lcW_map (enc := D.int) (fun n => D.int (n * more)) [] (fun n hn Q3 hq3 => ⟨_, rfl, _, rfl, .inr sme, hq3⟩) ⟨_, .inl rfl, by simp, hQ⟩
    | false =>
      refine ⟨_, rfl, _, rfl, _, rfl, _, .inl rfl, by simp, _, rfl, _, rfl, _, rfl, (show 1 ≤ 1000 by decide), ?_⟩
      exact lcW_map (enc := D.int) (fun n => D.int (n * more)) [size] (fun n hn Q3 hq3 => ⟨_, rfl, _, rfl, .inr sme, hq3⟩) ⟨_, .inl rfl, by simp, hQ⟩
  refine wishP _ ⟨_, rfl, _, rfl, _, rfl, k, ixN_nat hkl, ?_⟩
  refine nxAt (γ' := [some (.d .heap), some (.d (.task (.tup (us.map uD)) (.tup wishes) (.tup (goal.map .int)))), some (.d (.int (k : Nat))), some (.d (.tup (bx.map bD))), some (.d (.int many)), some (.d (.int more)), some (.d (wishD b js size)), some (.l (wishes.set k (wishD b (js.map (farJ b many more)) (if b then size else size * more)))), some (.d (.lst ((js.map (farJ b many more)).map (jT b)))), none, none, none, none, none, none, none]) rfl ?_
  -- the unknowns
  refine ⟨_, rfl, _, rfl, _, rfl, by rw [List.length_map]; omega, ?_⟩
  refine lcW_map (enc := uD) (fun u => uD (farU many u)) us (fun u hu Q2 hq => ?_) ?_
  · exact ⟨_, rfl, rfl, _, _, rfl, _, _, rfl, _, _, rfl, rfl, _, rfl, _, rfl, _, rfl, .inr smy, _, rfl, _, rfl, .inr smy, by simp, hq⟩
  have eu : us.map (fun u => uD (farU many u)) = (us.map (farU many)).map uD := by rw [List.map_map]; rfl
  rw [eu]
  refine ⟨_, .inl rfl, ?_⟩
  refine ⟨_, rfl, _, rfl, _, rfl, _, .inl rfl, X'.nl, _, rfl, _, rfl, ?_⟩
  refine ⟨_, _, _, rfl, check_task_is _ _ _ X'.tk, ?_⟩
  refine ⟨_, rfl, _, rfl, by rw [List.length_map]; omega, ?_⟩
  refine lcW_map (enc := bD) (fun p => bD (farB many p)) bx (fun u hu Q2 hq => ?_) ?_
  · exact ⟨_, rfl, rfl, _, _, rfl, _, _, rfl, rfl, _, rfl, _, rfl, .inr smy, _, rfl, _, rfl, .inr smy, by simp, hq⟩
  have eb : bx.map (fun p => bD (farB many p)) = (bx.map (farB many)).map bD := by rw [List.map_map]; rfl
  rw [eb]
  exact ⟨_, .inl rfl, by simp, h _ _ _ _ _ _ X'⟩
end DW
set_option Elab.async false
set_option linter.all false
set_option maxRecDepth 100000
set_option maxHeartbeats 1000000
set_option autoImplicit false
namespace DW
open PySem L2 K62
def τ_turn2 : SD := (sSeq (sIf (bNot (dTest (dCall 4 F__law_world_right (aCons (dVar 1) (aCons (dVar 3) (aCons (dVar 4) (aCons (dVar 5) aNil))))))) (sRet (dC (.bl false))) sNx)
  (sSeq (sAsg (dBin oIx (dVar 5) (dBin oIx (dBin oIx (dBin oIx (dBin oIx (dFld "wishes" (dVar 3)) (dVar 4)) (dC (.int 1))) (dC (.int 0))) (dC (.int 0)))) (gTp 2 (gCn (gN 6) (gCn (gN 7) gNl))))
  (sSeq (sAsg (dCB oTupOf (aCons (dLst (dLc (iT (dVar 5)) (gN 9) (fun _ P => P true) (dIf (dTest (dBin oGt (dCall 2 F__law_draw (aCons (dVar 1) (aCons (dC (.int 3)) aNil))) (dC (.int 0)))) (dTup (aCons (dCB oMax2 (aCons (dVar 6) (aCons (dBin oIx (dVar 9) (dC (.int 0))) aNil))) (aCons (dCB oMax2 (aCons (dVar 6) (aCons (dBin oIx (dVar 9) (dC (.int 0))) aNil))) aNil))) (dVar 9)) [9])) aNil)) (gN 8))
  (sSeq (sAsg (dCB oAll (aCons (dLst (dLc (iZp (aCons (dVar 5) (aCons (dVar 8) aNil))) (gTp 2 (gCn (gN 9) (gCn (gN 11) gNl))) (fun _ P => P true) (dAndV (dBin oLe (dBin oIx (dVar 9) (dC (.int 0))) (dBin oIx (dVar 11) (dC (.int 0)))) (dBin oLe (dBin oIx (dVar 11) (dC (.int 1))) (dBin oIx (dVar 9) (dC (.int 1))))) [9, 11])) aNil)) (gN 10))
  (sIf (bAnd (dTest (dVar 10)) (bNot (dTest (dCall 4 F__law_world_right (aCons (dVar 1) (aCons (dVar 3) (aCons (dVar 4) (aCons (dVar 8) aNil)))))))) (sRet (dC (.bl false))) sNx)))))
def τ_checks : SD := (sSeq (sAsg (dTup (aCons (dTup (aCons (dC (.str "a")) (aCons (dC (.int 0)) (aCons (dC (.int 9)) aNil)))) (aCons (dTup (aCons (dC (.str "b")) (aCons (dC (.int 0)) (aCons (dC (.int 9)) aNil)))) (aCons (dTup (aCons (dC (.str "c")) (aCons (dC (.int 0)) (aCons (dC (.int 9)) aNil)))) aNil)))) (gN 12))
  (sSeq (sAsg (dMake F_check_task (aCons (dVar 12) (aCons (dTup (aCons (dTup (aCons (dC (.str "bench")) (aCons (dTup (aCons (dTup (aCons (dC (.int 0)) (aCons (dC (.int 2)) aNil))) (aCons (dTup (aCons (dC (.int 1)) (aCons (dC (.int 2)) aNil))) (aCons (dTup (aCons (dC (.int 2)) (aCons (dC (.int 2)) aNil))) aNil)))) aNil))) aNil)) (aCons (dTup (aCons (dC (.int 1)) (aCons (dC (.int 0)) (aCons (dC (.int 0)) aNil)))) aNil)))) (gN 13))
  (sSeq (sIf (bOr (dTest (dBin oNe (dBin oIx (dCall 3 F_pieces_or_load (aCons (dVar 13) (aCons (dC (.int 0)) (aCons (dTup (aCons (dTup (aCons (dC (.int 0)) (aCons (dC (.int 4)) aNil))) (aCons (dTup (aCons (dC (.int 1)) (aCons (dC (.int 1)) aNil))) (aCons (dTup (aCons (dC (.int 3)) (aCons (dC (.int 3)) aNil))) aNil)))) aNil)))) (dC (.int 0))) (dC (.str "pieces")))) (dTest (dBin oNe (dBin oIx (dCall 3 F_pieces_or_load (aCons (dVar 13) (aCons (dC (.int 0)) (aCons (dTup (aCons (dTup (aCons (dC (.int 1)) (aCons (dC (.int 2)) aNil))) (aCons (dTup (aCons (dC (.int 1)) (aCons (dC (.int 2)) aNil))) (aCons (dTup (aCons (dC (.int 1)) (aCons (dC (.int 2)) aNil))) aNil)))) aNil)))) (dC (.int 0))) (dC (.str "leaf"))))) (sRet (dC (.bl false))) sNx)
  (sSeq (sIf (bOr (dTest (dBin oEq (dBin oIx (dCall 3 F_pieces_or_load (aCons (dVar 13) (aCons (dC (.int 0)) (aCons (dTup (aCons (dTup (aCons (dC (.int 0)) (aCons (dC (.int 4)) aNil))) (aCons (dTup (aCons (dC (.int 0)) (aCons (dC (.int 4)) aNil))) (aCons (dTup (aCons (dC (.int 0)) (aCons (dC (.int 4)) aNil))) aNil)))) aNil)))) (dC (.int 1))) (dTup aNil))) (dTest (dBin oNe (dBin oIx (dCall 3 F_pieces_or_load (aCons (dVar 13) (aCons (dC (.int 0)) (aCons (dTup (aCons (dTup (aCons (dC (.int 0)) (aCons (dC (.int 3)) aNil))) (aCons (dTup (aCons (dC (.int 0)) (aCons (dC (.int 3)) aNil))) (aCons (dTup (aCons (dC (.int 0)) (aCons (dC (.int 3)) aNil))) aNil)))) aNil)))) (dC (.int 0))) (dC (.str "leaf"))))) (sRet (dC (.bl false))) sNx)
  (sSeq (sAsg (dMake F_check_task (aCons (dVar 12) (aCons (dTup (aCons (dTup (aCons (dC (.str "room")) (aCons (dTup (aCons (dTup (aCons (dC (.int 0)) (aCons (dC (.int 2)) (aCons (dC (.int 3)) aNil)))) (aCons (dTup (aCons (dC (.int 1)) (aCons (dC (.int 2)) (aCons (dC (.int 2)) aNil)))) (aCons (dTup (aCons (dC (.int 2)) (aCons (dC (.int 1)) (aCons (dC (.int 3)) aNil)))) aNil)))) (aCons (dC (.int 4)) aNil)))) aNil)) (aCons (dTup (aCons (dC (.int 1)) (aCons (dC (.int 0)) (aCons (dC (.int 0)) aNil)))) aNil)))) (gN 14))
  (sSeq (sAsg (dCall 3 F_pieces_or_load (aCons (dVar 14) (aCons (dC (.int 0)) (aCons (dTup (aCons (dTup (aCons (dC (.int 0)) (aCons (dC (.int 1)) aNil))) (aCons (dTup (aCons (dC (.int 0)) (aCons (dC (.int 1)) aNil))) (aCons (dTup (aCons (dC (.int 1)) (aCons (dC (.int 2)) aNil))) aNil)))) aNil)))) (gN 15))
  (sRet (dAndV (dBin oEq (dBin oIx (dVar 15) (dC (.int 0))) (dC (.str "leaf"))) (dAndV (dBin oEq (dSl (some 3) none (dBin oIx (dVar 15) (dC (.int 1)))) (dTup (aCons (dC (.int 0)) (aCons (dC (.int 3)) aNil)))) (dAndV (dBin oEq (dBin oIx (dBin oIx (dVar 15) (dC (.int 1))) (dC (.int 2))) (dTup (aCons (dC (.int 0)) (aCons (dC (.int 1)) (aCons (dC (.int 2)) aNil))))) (dBin oEq (dBin oIx (dCall 3 F_pieces_or_load (aCons (dVar 14) (aCons (dC (.int 0)) (aCons (dTup (aCons (dTup (aCons (dC (.int 0)) (aCons (dC (.int 1)) aNil))) (aCons (dTup (aCons (dC (.int 0)) (aCons (dC (.int 2)) aNil))) (aCons (dTup (aCons (dC (.int 1)) (aCons (dC (.int 2)) aNil))) aNil)))) aNil)))) (dC (.int 0))) (dC (.str "pieces")))))))))))))
theorem lcW_any {α β : Type} {g : GD} {δ : ED} {γ : Ga} {enc : α → D} (encB : β → D) (R : β → Prop) {P : List D → Prop} : ∀ (items : List α) (acc : List β),
    (∀ x ∈ items, ∀ Q2 : D → Prop, (∀ y, R y → Q2 (encB y)) → g (enc x) γ fun γ2 => δ γ2 Q2) → (∀ ys : List β, ys.length = acc.length + items.length → (∀ y ∈ ys, y ∈ acc ∨ R y) → P (ys.map encB)) → lcW g (fun _ P => P true) δ γ (items.map enc) (acc.map encB) P
  | [], acc, _, h => h acc (by simp) fun y hy => .inl hy
  | x :: r, acc, hx, h => by
    show g (enc x) γ fun γ2 => if true = true then δ γ2 fun y => lcW g (fun _ P => P true) δ γ (r.map enc) (acc.map encB ++ [y]) P else _
    refine hx x List.mem_cons_self _ fun y hy => ?_
    have := lcW_any (g := g) (δ := δ) (γ := γ) (enc := enc) encB R (P := P) r (acc ++ [y]) (fun z hz => hx z (List.mem_cons_of_mem _ hz)) fun ys hl hys => h ys (by simp at hl ⊢; omega) fun z hz => by
      rcases hys z hz with q | q
      · rcases List.mem_append.mp q with q | q
        · exact .inl q
        · rw [List.mem_singleton.mp q]; exact .inr hy
      · exact .inr q
    rw [List.map_append] at this
    exact this
theorem turn2_is (K : PySem.W.Frag) (a : Addr) (ns : List Int) (us : List (Str × Int × Int)) (wishes : List D) (goal : List Int) (k : Nat) (b : Bool) (js : List Jb) (size : Int) (bx : List (Int × Int)) (X : World us wishes goal k b js size bx) (E : DEnds) (x2 x6 x7 x8 x9 x10 x11 : Option SV)
    (h : ∀ x6 x7 x8 x9 x10 x11, E.nx [some (.r K a ns), some (.d .heap), x2, some (.d (.task (.tup (us.map uD)) (.tup wishes) (.tup (goal.map .int)))), some (.d (.int (k : Nat))), some (.d (.tup (bx.map bD))), x6, x7, x8, x9, x10, x11, none, none, none, none]) :
    τ_turn2 E [some (.r K a ns), some (.d .heap), x2, some (.d (.task (.tup (us.map uD)) (.tup wishes) (.tup (goal.map .int)))), some (.d (.int (k : Nat))), some (.d (.tup (bx.map bD))), x6, x7, x8, x9, x10, x11, none, none, none, none] := by
  have WD := X.wd
  have W := X.W
  have bl := X.bl
  have ul := X.tk.uo.len
  refine ⟨_, rfl, _, rfl, _, rfl, _, rfl, rfl, world_right_is _ _ wishes k b js size bx WD _ ⟨_, rfl, ifF rfl ?_⟩⟩
  obtain ⟨j0, jr, ej⟩ := List.exists_cons_of_ne_nil WD.hne
  have hp0 : j0.p < bx.length := WD.hp j0 (by rw [ej]; exact List.mem_cons_self)
  have first : ∀ Q : D → Prop, Q (.int (j0.p : Nat)) → oIx (wishD b js size) (.int 1) fun d => oIx d (.int 0) fun d => oIx d (.int 0) Q := fun Q q => by
    rw [ej]
    cases b <;> exact ⟨_, rfl, _, atI_map (ws := j0 :: jr) (j := 0) rfl, _, rfl, q⟩
  refine ⟨_, rfl, _, rfl, _, rfl, _, rfl, _, atI_nat X.hk, first _ ⟨_, bx_at hp0, _, rfl, rfl, _, _, rfl, _, _, rfl, rfl, ?_⟩⟩
  refine ⟨_, rfl, _, rfl, by rw [List.length_map]; omega, ?_⟩
  refine lcW_any (enc := bD) bD (fun p => p.1 ≤ p.2) bx [] (fun p hp Q2 hq => ?_) fun ts tl tb => ?_
  · refine ⟨_, rfl, rfl, _, rfl, ⟨by decide, by decide⟩, fun v v1 v2 => ⟨_, rfl, ?_⟩⟩
    refine ifB (fun z => ?_) fun z => ?_
    · refine ⟨_, rfl, _, rfl, _, rfl, _, _, rfl, _, rfl, _, rfl, _, rfl, _, _, rfl, by simp, ?_⟩
      exact hq (_, _) (Int.le_refl _)
    · exact ⟨_, rfl, hq p (X.bo p hp)⟩
  have X2 : World us wishes goal k b js size ts := ⟨X.tk, X.W, X.hk, by simp at tl; omega, fun p hp => by
    rcases tb p hp with q | q
    · exact absurd q List.not_mem_nil
    · exact q, X.sm, X.nl⟩
  have tl2 : ts.length ≤ 100 := by have := X2.bl; omega
  refine ⟨_, .inl rfl, ?_⟩
  refine ⟨_, rfl, _, rfl, _, _, rfl, ?_⟩
  have ez : ((bx.map bD).zip (ts.map bD)).map (fun p => D.tup [p.1, p.2]) = (bx.zip ts).map fun p => D.tup [bD p.1, bD p.2] := by
    rw [List.zip_map, List.map_map]
    rfl
  rw [ez]
  refine ⟨by rw [List.length_map, List.length_zip]; omega, ?_⟩
  refine lcW_any (enc := fun p : (Int × Int) × (Int × Int) => D.tup [bD p.1, bD p.2]) D.bl (fun _ => True) (bx.zip ts) [] (fun p hp Q2 hq => ?_) fun bs _ _ => ?_
  · refine ⟨_, rfl, rfl, _, _, rfl, _, _, rfl, rfl, ?_⟩
    refine ⟨_, rfl, _, rfl, _, rfl, _, rfl, _, rfl, ?_⟩
    refine ifB (fun z => ?_) fun z => hq _ trivial
    exact ⟨_, rfl, _, rfl, _, rfl, _, rfl, hq _ trivial⟩
  refine ⟨bs, rfl, ?_⟩
  refine ⟨_, rfl, _, rfl, ?_⟩
  refine ifB (fun z => ?_) fun z => ?_
  · refine ⟨_, rfl, _, rfl, _, rfl, _, rfl, rfl, world_right_is _ _ wishes k b js size ts X2.wd _ ⟨_, rfl, ifF rfl ?_⟩⟩
    exact h _ _ _ _ _ _
  · refine ifF rfl ?_
    exact h _ _ _ _ _ _
end DW
set_option Elab.async false
set_option linter.all false
set_option maxRecDepth 100000
set_option maxHeartbeats 1000000
set_option autoImplicit false
namespace DW
open PySem L2 K62
/-! ### the written checks -/
def us0 : List (Str × Int × Int) := [("a", 0, 9), ("b", 0, 9), ("c", 0, 9)]
theorem us0_ok : UsOK us0 := by
  refine ⟨by simp [us0], by simp [us0], fun u hu => ?_, fun i u v hu hv => ?_⟩
  · simp only [us0, List.mem_cons, List.not_mem_nil, or_false] at hu
    rcases hu with rfl | rfl | rfl <;> exact ⟨by decide +kernel, by decide⟩
  · match i, hu, hv with
    | 0, hu, hv =>
      cases hu
      cases hv
      intro P h
      show P (.bl (decide (("a" : Str).cps.toList < ("b" : Str).cps.toList)))
      rw [show decide (("a" : Str).cps.toList < ("b" : Str).cps.toList) = true by decide +kernel]
      exact h
    | 1, hu, hv =>
      cases hu
      cases hv
      intro P h
      show P (.bl (decide (("b" : Str).cps.toList < ("c" : Str).cps.toList)))
      rw [show decide (("b" : Str).cps.toList < ("c" : Str).cps.toList) = true by decide +kernel]
      exact h
    | 2, hu, hv => cases hv
    | i + 3, hu, hv => cases hu
def jsB : List Jb := [⟨0, 2, 1⟩, ⟨1, 2, 1⟩, ⟨2, 2, 1⟩]
def jsR : List Jb := [⟨0, 2, 3⟩, ⟨1, 2, 2⟩, ⟨2, 1, 3⟩]
theorem wokB : WOK true jsB 1 3 := ⟨by decide, by decide, fun j hj => by (simp only [jsB, List.mem_cons, List.not_mem_nil, or_false] at hj; rcases hj with rfl | rfl | rfl <;> decide), fun j hj => by (simp only [jsB, List.mem_cons, List.not_mem_nil, or_false] at hj; rcases hj with rfl | rfl | rfl <;> exact ⟨by decide, by decide, by decide⟩), fun _ => rfl⟩
theorem wokR : WOK false jsR 4 3 := ⟨by decide, by decide, fun j hj => by (simp only [jsR, List.mem_cons, List.not_mem_nil, or_false] at hj; rcases hj with rfl | rfl | rfl <;> decide), fun j hj => by (simp only [jsR, List.mem_cons, List.not_mem_nil, or_false] at hj; rcases hj with rfl | rfl | rfl <;> exact ⟨by decide, by decide, by decide⟩), fun z => by cases z⟩
theorem world0 (b : Bool) (js : List Jb) (size : Int) (W : WOK b js size 3) (sm : size ≤ 1000) (bx : List (Int × Int)) (bl : bx.length = 3) (bo : ∀ p ∈ bx, p.1 ≤ p.2) : World us0 [wishD b js size] [1, 0, 0] 0 b js size bx :=
  ⟨⟨us0_ok, by simp, fun w hw P h => by (rw [List.mem_singleton.mp hw]; exact is_wish_is b js size 3 W P h), rfl⟩, W, rfl, bl, bo, sm, by
    show (noL (wishD b js size) && true) = true
    rw [noL_wish]; rfl⟩
def task0 (b : Bool) (js : List Jb) (size : Int) : D := .task (.tup (us0.map uD)) (.tup [wishD b js size]) (.tup (([1, 0, 0] : List Int).map .int))
theorem pol0 {b : Bool} {js : List Jb} {size : Int} {bx : List (Int × Int)} (W : World us0 [wishD b js size] [1, 0, 0] 0 b js size bx) (P : D → Prop) (h : P (toldD 0 (told (wsOf js bx) size))) : F_pieces_or_load [task0 b js size, .int 0, .tup (bx.map bD)] P := by
  obtain ⟨hk, hb1, hb, hp, hl, hne, hg, hs, hz⟩ := W.wd
  exact pol_is _ _ _ 0 b js size bx hk hb1 hb hp hl hne hg hs hz P h
theorem told_in {b : Bool} {js : List Jb} {size : Int} {bx : List (Int × Int)} (W : World us0 [wishD b js size] [1, 0, 0] 0 b js size bx) (h : tooMuch (wsOf js bx) size = false) : ∃ ps, told (wsOf js bx) size = .inl ps ∧ PiecesOK (wsOf js bx) size ps := by
  have WD := W.wd
  have hwne : wsOf js bx ≠ [] := fun z => WD.hne (List.map_eq_nil_iff.mp z)
  cases ht : told (wsOf js bx) size with
  | inl ps => exact ⟨ps, rfl, (told_pieces WD.hg hwne ht).2⟩
  | inr x =>
    have := (told_load WD.hg hwne ht).1
    rw [h] at this
    cases this
theorem told_out {b : Bool} {js : List Jb} {size : Int} {bx : List (Int × Int)} (W : World us0 [wishD b js size] [1, 0, 0] 0 b js size bx) (h : tooMuch (wsOf js bx) size = true) : told (wsOf js bx) size = .inr ((loads (wsOf js bx) size).headD default) := by
  have WD := W.wd
  have hwne : wsOf js bx ≠ [] := fun z => WD.hne (List.map_eq_nil_iff.mp z)
  cases ht : told (wsOf js bx) size with
  | inl ps =>
    have := (told_pieces WD.hg hwne ht).1
    rw [h] at this
    cases this
  | inr x => rw [(told_load WD.hg hwne ht).2.2.1]
def bxA : List (Int × Int) := [(0, 4), (1, 1), (3, 3)]
def bxB : List (Int × Int) := [(1, 2), (1, 2), (1, 2)]
def bxC : List (Int × Int) := [(0, 4), (0, 4), (0, 4)]
def bxD : List (Int × Int) := [(0, 3), (0, 3), (0, 3)]
def bxE : List (Int × Int) := [(0, 1), (0, 1), (1, 2)]
def bxF : List (Int × Int) := [(0, 1), (0, 2), (1, 2)]
theorem checks_is (E : DEnds) (h : E.rt (.bl true)) (K : PySem.W.Frag) (a : Addr) (ns : List Int) (x2 x3 x4 x5 x6 x7 x8 x9 x10 x11 : Option SV) : τ_checks E [some (.r K a ns), some (.d .heap), x2, x3, x4, x5, x6, x7, x8, x9, x10, x11, none, none, none, none] := by
  have wB : ∀ bx : List (Int × Int), bx.length = 3 → (∀ p ∈ bx, p.1 ≤ p.2) → World us0 [wishD true jsB 1] [1, 0, 0] 0 true jsB 1 bx := world0 true jsB 1 wokB (by decide)
  have wR : ∀ bx : List (Int × Int), bx.length = 3 → (∀ p ∈ bx, p.1 ≤ p.2) → World us0 [wishD false jsR 4] [1, 0, 0] 0 false jsR 4 bx := world0 false jsR 4 wokR (by decide)
  have wA := wB bxA rfl (by decide)
  have wB' := wB bxB rfl (by decide)
  have wC := wB bxC rfl (by decide)
  have wD' := wB bxD rfl (by decide)
  have wE := wR bxE rfl (by decide)
  have wF := wR bxF rfl (by decide)
  obtain ⟨psA, tA, _⟩ := told_in wA (by decide +kernel)
  have tB := told_out wB' (by decide +kernel)
  obtain ⟨psC, tC, kC⟩ := told_in wC (by decide +kernel)
  have tD := told_out wD' (by decide +kernel)
  have tE := told_out wE (by decide +kernel)
  obtain ⟨psF, tF, _⟩ := told_in wF (by decide +kernel)
  have pA := pol0 wA
  have pB := pol0 wB'
  have pC := pol0 wC
  have pD_ := pol0 wD'
  have pE := pol0 wE
  have pF := pol0 wF
  rw [tA] at pA
  rw [tB] at pB
  rw [tC] at pC
  rw [tD] at pD_
  rw [show (loads (wsOf jsR bxE) 4).headD default = (⟨[0, 1, 2], 0, 3⟩ : Ld) by decide +kernel] at tE
  rw [tE] at pE
  rw [tF] at pF
  have okS : ∀ s : Str, PyData.canLay0 (.str s) = true → okD (.str s) = true := fun s h => (okN_str (n := 0) h).ok (by decide)
  -- the unknowns, the bench
  refine ⟨by simp, by simp, by simp, by simp, ?_⟩
  refine ⟨_, rfl, by simp, by simp, by simp, by simp, by simp, by simp, by simp, ?_⟩
  refine ⟨_, _, _, rfl, check_task_is us0 [wishD true jsB 1] [1, 0, 0] wA.tk, ?_⟩
  refine nxAt (γ' := [some (.r K a ns), some (.d .heap), x2, x3, x4, x5, x6, x7, x8, x9, x10, x11, some (.d (.tup (us0.map uD))), some (.d (task0 true jsB 1)), none, none]) rfl ?_
  refine ⟨_, rfl, by simp, by simp, by simp, by simp, rfl, pA _ ⟨_, rfl, ⟨by decide +kernel, by decide +kernel⟩, _, rfl, ifF (by decide +kernel) ?_⟩⟩
  refine ⟨_, rfl, by simp, by simp, by simp, by simp, rfl, pB _ ⟨_, rfl, ⟨by decide +kernel, by decide +kernel⟩, _, rfl, ifF (by decide +kernel) ?_⟩⟩
  have neC : psC ≠ [] := fun z => by
    have := kC.whole 0 (by decide +kernel)
    rw [z] at this
    exact absurd this (by decide +kernel)
  obtain ⟨p, r, ep⟩ := List.exists_cons_of_ne_nil neC
  have okC : okN 2 (.tup (psC.map pD)) := okN_tup fun d hd => by
    obtain ⟨p, _, rfl⟩ := List.mem_map.mp hd
    exact okN_p p
  have eqC : eqD (.tup (psC.map pD)) (.tup []) = false := by
    rw [ep]
    show PyData.eqv (.tuple (toP (DW.pD p) :: toPs (r.map DW.pD))) (.tuple []) = false
    rw [PyData.eqv, PyData.eqvAll]
  refine ⟨_, rfl, by simp, by simp, by simp, by simp, rfl, pC _ ⟨_, rfl, by simp, ⟨okC.ok (by decide), by decide +kernel⟩, _, rfl, ifF eqC ?_⟩⟩
  refine ⟨_, rfl, by simp, by simp, by simp, by simp, rfl, pD_ _ ⟨_, rfl, ⟨by decide +kernel, by decide +kernel⟩, _, rfl, ifF (by decide +kernel) ?_⟩⟩
  -- the room
  refine ⟨_, rfl, by simp, by simp, by simp, by simp, by simp, by simp, by simp, ?_⟩
  refine ⟨_, _, _, rfl, check_task_is us0 [wishD false jsR 4] [1, 0, 0] wE.tk, ?_⟩
  refine nxAt (γ' := [some (.r K a ns), some (.d .heap), x2, x3, x4, x5, x6, x7, x8, x9, x10, x11, some (.d (.tup (us0.map uD))), some (.d (task0 true jsB 1)), some (.d (task0 false jsR 4)), none]) rfl ?_
  refine ⟨_, rfl, by simp, by simp, by simp, by simp, rfl, pE _ ?_⟩
  refine ⟨_, rfl, _, rfl, ⟨by decide +kernel, by decide +kernel⟩, _, rfl, ifT (by decide +kernel) ?_⟩
  refine ⟨_, rfl, _, rfl, _, rfl, by simp, ⟨by decide +kernel, by decide +kernel⟩, _, rfl, ifT (by decide +kernel) ?_⟩
  refine ⟨_, rfl, _, rfl, _, rfl, by simp, ⟨by decide +kernel, by decide +kernel⟩, _, rfl, ifT (by decide +kernel) ?_⟩
  refine ⟨_, rfl, by simp, by simp, by simp, by simp, rfl, pF _ ⟨_, rfl, ⟨by decide +kernel, by decide +kernel⟩, ?_⟩⟩
  rw [show eqD (.str "pieces") (.str "pieces") = true by decide +kernel]
  exact h
theorem law_is (K : PySem.W.Frag) (a : Addr) (ns : List Int) : τ_law K ⟨fun _ => False, fun d => d = .bl true⟩ (γ_law K a ns) := by
  refine ⟨a, ns, rfl, .inr ⟨_, rfl, ⟨.inl ⟨by decide, by decide⟩, _, rfl, ⟨by (split <;> omega), by (split <;> omega)⟩, ?_⟩⟩⟩
  refine forW_inv (enc := fun i : Nat => D.int (i : Nat)) (fun l γ => ∃ x2 x3 x4 x5 x6 x7 x8 x9 x10 x11, γ = [some (.r K a ns), some (.d .heap), x2, x3, x4, x5, x6, x7, x8, x9, x10, x11, none, none, none, none]) (List.range _) _ ⟨none, none, none, none, none, none, none, none, none, none, rfl⟩ ?_ ?_
  · rintro i l γ ⟨x2, x3, x4, x5, x6, x7, x8, x9, x10, x11, rfl⟩ K2 hK
    refine ⟨_, rfl, _, rfl, by simp, rfl, pick_is _ (by simp) (by simp) _ fun d hd => ?_⟩
    obtain ⟨b, rfl⟩ : ∃ b, d = .str (kindS b) := by
      simp only [List.mem_cons, List.not_mem_nil, or_false] at hd
      rcases hd with rfl | rfl
      · exact ⟨true, rfl⟩
      · exact ⟨false, rfl⟩
    refine ⟨rfl, law_task_is b _ fun us wishes goal k js size bx X s4 => ⟨_, rfl, rfl, _, _, rfl, _, _, rfl, _, _, rfl, rfl, ?_⟩⟩
    refine ⟨_, rfl, rfl, _, rfl, ⟨by decide, by decide⟩, fun v v1 v2 => ⟨⟨okD_int _, okD_int _⟩, _, rfl, ?_⟩⟩
    have fin : ∀ (us : List (Str × Int × Int)) (wishes : List D) (goal : List Int) (x6 x7 x8 x9 x10 x11 : Option SV) (bx : List (Int × Int)), K2 [some (.r K a ns), some (.d .heap), some (.d (.int (i : Nat))), some (.d (.task (.tup (us.map uD)) (.tup wishes) (.tup (goal.map .int)))), some (.d (.int (k : Nat))), some (.d (.tup (bx.map bD))), x6, x7, x8, x9, x10, x11, none, none, none, none] := fun us wishes goal x6 x7 x8 x9 x10 x11 bx => hK _ ⟨_, _, _, _, _, _, _, _, _, _, rfl⟩
    refine ifB (fun z => ?_) fun z => ?_
    · refine ⟨_, rfl, _, rfl, _, rfl, _, rfl, rfl, law_far_is us wishes goal k b js size bx X s4 _ fun us' wishes' goal' js' size' bx' X' => ⟨_, rfl, rfl, _, _, rfl, _, _, rfl, rfl, ?_⟩⟩
      exact turn2_is K a ns us' wishes' goal' k b js' size' bx' X' _ _ _ _ _ _ _ _ fun x6 x7 x8 x9 x10 x11 => fin _ _ _ _ _ _ _ _ _ _
    · exact turn2_is K a ns us wishes goal k b js size bx X _ _ _ _ _ _ _ _ fun x6 x7 x8 x9 x10 x11 => fin _ _ _ _ _ _ _ _ _ _
  · rintro γ ⟨x2, x3, x4, x5, x6, x7, x8, x9, x10, x11, rfl⟩
    exact checks_is _ rfl K a ns x2 x3 x4 x5 x6 x7 x8 x9 x10 x11
end DW
set_option Elab.async false
set_option linter.all false
set_option maxRecDepth 100000
set_option maxHeartbeats 1000000
namespace HdK
open PySem PySem.Spec PyProof.Rows L2 DW
def cst (K : PySem.W.Frag) : Cst := ⟨He.ga K "Task", [((He.cT K ("served_jobs", none)).2, "served_jobs.<locals>.<lambda>")]⟩
theorem tupB_ok {K : PySem.W.Frag} {a : Addr} {vs : List V} (h : tupB K a vs = true) (hl : vs.length ≤ sizeLine) (H : Hp) : SqT K H a vs := by
  unfold tupB at h
  cases q : K.lookup a with
  | none =>
    rw [q] at h
    cases h
  | some o =>
    obtain ⟨oc, od, dt, osl⟩ := o
    rw [q] at h
    cases oc with
    | type c =>
      cases od with
      | none =>
        cases dt with
        | seq its n =>
          obtain ⟨h1, h2⟩ := He.ba (show (decide (c = "tuple") && He.relAll vs its.toList) = true from h)
          have r := He.relAll_ok h2
          have e : vs.length = its.size := by
            rw [← Array.length_toList]
            exact Vals.length r
          exact .inr ⟨_, its, n, q, congrArg Value.type (of_decide_eq_true h1), rfl, by rw [← e]; exact hl, r⟩
        | _ => cases h
      | some a => cases dt <;> cases h
    | _ => cases od <;> cases dt <;> cases h
theorem facts {w : World} {K : PySem.W.Frag} {h : Heap} {mg : Str → Option Value} (X : K.In h) (G : h.Ns mainGlobals mg) (c : He.SaysX fa fn ts tf ex w h K) (base : Heap)
    (TB : LamX.TabB base mg (He.cT K ("served_jobs", none)).1 (He.cT K ("served_jobs", none)).2) : Facts prog w K mg base (cst K) := by
  have d := c.t.d
  have fglo : ∀ p ∈ fnList, mg p.1 = some (.ref (He.ga K p.1)) := fun p hp => He.glo_ok X G (d.facts (f := .glo p.1) (List.mem_append_left _ (List.mem_append_right _ (List.mem_map.mpr ⟨p, hp, rfl⟩))))
  obtain ⟨m1, m2⟩ := He.ba (show (tupB K (He.ga K "TEXT_WORDS") (textWords.map V.str) && (He.eqO (PySem.W.nsIn K (He.ga K "SHAPES") "load") (some (some (.ref (loadAt K)))) && tupB K (loadAt K) [.int 5, .ref (He.ga K "is_load")])) = true from c.more)
  obtain ⟨m3, m4⟩ := He.ba m2
  have f0 : ∀ i (f : He.Fa), fa[i]? = some f → f.ok K = true := fun i f e => d.fact i e
  refine ⟨fun x i hm => ?_, fun x hx => He.free_ok X G (d.facts (f := .free x) (List.mem_append_right _ (List.mem_map.mpr ⟨x, hx, rfl⟩))), He.cls_ok (f0 5 _ rfl), He.noat_ok (f0 7 _ rfl), He.noat_ok (f0 8 _ rfl), He.noat_ok (f0 9 _ rfl), He.str_ok X G (f0 3 _ rfl), He.int_ok X G (f0 4 _ rfl), ⟨_, He.glo_ok X G (f0 2 _ rfl), fun H => tupB_ok m1 (by decide) H⟩, He.glo_ok X G (f0 0 _ rfl), ?_, ?_, ?_⟩
  · obtain ⟨fd, F⟩ := d.defs (d := dDef x i) (List.mem_cons_of_mem _ (List.mem_map.mpr ⟨(x, i), hm, rfl⟩))
    exact ⟨_, fd, F, fglo (x, i) hm⟩
  · obtain ⟨fd, F⟩ := d.defs (d := dInit) List.mem_cons_self
    exact ⟨_, fd, F, He.mkr_ok (f0 6 _ rfl)⟩
  · refine ⟨_, (He.cT K ("served_jobs", none)).1, rfl, TB, fun f fd F hf => ?_⟩
    have e := hf.symm.trans (fglo ("served_jobs", 14) (by decide))
    cases e
    obtain ⟨oc, od, dV, kV, doc, pm, an, cdv, ct, osl, rfl, lk, hcd, _, _⟩ := F.ex
    obtain ⟨cc, rfl⟩ := He.codeIn_ref hcd
    have lk' : K.lookup (He.fAd K ("served_jobs", none)) = _ := lk
    exact congrArg Value.ref (He.codeOf_eq lk' rfl).symm
  · obtain ⟨es, n, hd⟩ := c.t.tab 0 rfl
    exact ⟨_, _, _, es, n, He.glo_ok X G (f0 1 _ rfl), hd, He.eqO_ok m3, fun H => tupB_ok m4 (show 2 ≤ sizeLine by decide) H, fglo ("is_load", 83) (by decide)⟩
theorem law_at {w : World} {K : PySem.W.Frag} {h : Heap} {mg : Str → Option Value} {f : Addr} (is : ∀ a ns, τ_law K ⟨fun _ => False, fun d => d = .bl true⟩ (γ_law K a ns)) (X : K.In h) (G : h.Ns mainGlobals mg) (hf : mg ("law" : Str) = some (.ref f)) (c : He.SaysX fa fn ts tf ex w h K) (n : Nat) :
    LamX.LawAtS PySem.Challenge.rw_paperbest_k62_whole_pieces_or_a_load w K CX0 16 n "_law_script" mg f h := by
  have d := c.t.d
  obtain ⟨fd, F⟩ := d.defs (d := dDef "law" 100) (List.mem_cons_of_mem _ (List.mem_map.mpr ⟨("law", 100), by decide, rfl⟩))
  have e := hf.symm.trans (He.glo_ok X G (d.facts (f := .glo "law") (List.mem_append_left _ (List.mem_append_right _ (List.mem_map.mpr ⟨("law", 100), by decide, rfl⟩)))))
  cases e
  have b := FunD.bindsA (ps := ["_law_script"]) F fun _ _ _ _ _ _ us hl => match us, hl with | [_], _ => rfl
  have one : ∀ {Pr : Addr × Addr → Prop}, Pr (He.cT K ("served_jobs", none)) → ∀ p ∈ [He.cT K ("served_jobs", none)], Pr p := fun z p hp => by
    rw [List.mem_singleton.mp hp]
    exact z
  have mem : (("served_jobs", none) : He.Defn) ∈ tf := List.mem_cons_self
  refine ⟨fd, [He.cT K ("served_jobs", none)], SpLaw (cst K) K, one (c.empty _ mem), one (c.out _ mem), one (PySem.W.codeHd_of_K X (c.hd _ mem)), fun s v => b s [v] rfl, fun H a ns _ _ hT hS => ⟨a, ns, rfl, fun p hp => ?_, hS, fun _ => rfl⟩, fun base hK hG hTB => ok_law (facts X G c base (hTB _ List.mem_cons_self)) is F⟩
  rw [List.mem_singleton.mp hp]
  exact ⟨#[], hT _ List.mem_cons_self, by trivial, fun pos cv z => by cases z⟩
end HdK
set_option Elab.async false
set_option linter.all false
set_option maxRecDepth 100000
set_option maxHeartbeats 0
open PySem PySem.W PySem.Calls PyProof.Rows
theorem k62_final (is : ∀ K a ns, DW.τ_law K ⟨fun _ => False, fun d => d = .bl true⟩ (DW.γ_law K a ns)) : PySem.Challenge.rw_paperbest_k62_whole_pieces_or_a_load.Holds := by
  w_on; o_law
  refine HandSHeadRun.head_any (r := OpenLaw.row PySem.Challenge.rw_paperbest_k62_whole_pieces_or_a_load) (q := view (OpenLaw.row PySem.Challenge.rw_paperbest_k62_whole_pieces_or_a_load).prog [100]) (H := HdK.hk) (ob := HdK.ob) (M := 8000) (loose := HdK.loose) (d := HandSHeadRun.topDef (OpenLaw.row PySem.Challenge.rw_paperbest_k62_whole_pieces_or_a_load).prog 100) (kwd := []) HdK.ob_eq
    (by kernel_rfl) (fun s => by kernel_rfl) HdK.run (by kernel_rfl) (by kernel_rfl) (by kernel_rfl) (by rfl) (by first | assumption | decide +kernel) (by decide +kernel) ⟨rfl, rfl, rfl, rfl, rfl, by decide +kernel⟩ ?hw ?hc
  case hw => w_witness2
  case hc =>
    refine LamX.walk_ofTsE (l := PySem.Challenge.rw_paperbest_k62_whole_pieces_or_a_load) (n := 63) (k := 16) (CX := fun _ => L2.CX0) (x := "_law_script") rfl (by decide) (by kernel_rfl) ⟨rfl, by decide, by decide⟩ ?F (fun _ _ _ _ _ z => z)
    intro w mg fa h Y G hmg0
    obtain ⟨K, KX, c⟩ := Y
    have hmg : mg ("law" : PySem.Str) = some (.ref fa) := by
      have e : (HandSHeadRun.topDef (OpenLaw.row PySem.Challenge.rw_paperbest_k62_whole_pieces_or_a_load).prog 100).name = ("law" : PySem.Str) := by kernel_rfl
      rw [← e]
      exact hmg0
    exact ⟨K, KX, HdK.law_at (is K) KX G hmg c 63⟩
theorem PySem.Challenge.cw_paperbest_k62_whole_pieces_or_a_load_holds : PySem.Challenge.rw_paperbest_k62_whole_pieces_or_a_load.Holds := by
  exact k62_final fun K a ns => DW.law_is K a ns
