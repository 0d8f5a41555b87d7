import PyProof.Rows.All
import Wide.All
import OpenK.AllK
import Wide.FinOn
import KE.KStateDown
import HandS.ForMost
import HandS.Defaults
import HandS.Head0
import HandS.Head1
import HandS.Head2
import HandS.HeadEnd
import HandS.HeadHook1
import HandS.HeadHook2
import HandS.HeadHook3
import HandS.HeadHook4
import HandS.HeadWalk
import HandS.Deep
import HandS.More
import HandS.Small
import KE.KDictPairs
import KE.KDictCopyH
import KE.KDictKeyed
import PyProof.NeKinds
import HandS.RaiseMore
import HandS.TupAny
import HandS.Style
import HandS.SortInts
import HandS.IsInst
import HandS.Conv
import HandS.Codes
import HandS.Wide
import HandS.Text
import KE.GoesEnum
import PyProof.ReprRoads
import PyProof.ReprBulk
import HandS.EndBits
import HandS.Ends
import PySem.Challenge.RW_allendless_k08_whole_ways
set_option Elab.async false
set_option linter.all false
set_option maxRecDepth 100000
set_option maxHeartbeats 0
namespace Hd
open PySem PySem.Spec PyProof.Rows L2
def top (i : Nat) : Stmt := PySem.Challenge.pw_allendless_k08_whole_ways.main.body.getD i (.Pass ⟨0, 0, 0, 0⟩)
def dd (i : Nat) (x : Str) : He.DefD := ⟨(x, none), x, x, defArgs (top i), defBody (top i), defScope (top i), [], []⟩
def fn : List He.DefD := [dd 4 "split_program", dd 5 "menu_of", dd 8 "row_is_below", dd 9 "least_row", dd 10 "power", dd 11 "shared", dd 12 "finish", dd 16 "game_begun", dd 17 "game_moved", dd 21 "told_entry", dd 25 "put", dd 26 "run_of", dd 27 "combined", dd 28 "step_eval", dd 29 "wait", dd 30 "begin", dd 31 "step_value", dd 32 "give_prim", dd 33 "give_prim_2", dd 34 "give_as", dd 35 "give_part", dd 36 "give_if", dd 37 "give_repeat", dd 38 "give_repeat_2", dd 39 "turn", dd 40 "give_call", dd 41 "give_call_2", dd 42 "give_pair", dd 43 "give_pair_2", dd 44 "give_at", dd 45 "give_at_2", dd 46 "give_share", dd 48 "read_parameter", dd 49 "frame_of", dd 50 "step_stop", dd 51 "go_through", dd 52 "gone", dd 53 "is_done", dd 54 "done", dd 55 "plain_value", dd 56 "body_of", dd 57 "run_within", dd 61 "gone_through", dd 62 "ways", dd 63 "work", dd 64 "is_small", dd 66 "_law_begun", dd 67 "_law_draw", dd 68 "_law_of", dd 69 "_law_fresh", dd 70 "_law_p", dd 71 "_law_n", dd 72 "_law_having", dd 73 "_law_index", dd 74 "_law_entry", dd 75 "_law_few", dd 76 "_law_test", dd 77 "_law_num", dd 78 "_law_over_rows", dd 79 "_law_higher", dd 80 "_law_plain_term", dd 81 "_law_menu", dd 82 "_law_result", dd 83 "_law_with_rows", dd 84 "_law_program", dd 85 "_law_read", dd 86 "_law_prim", dd 87 "_law_all_out", dd 88 "_law_called", dd 89 "_law_out", dd 90 "_law_put", dd 91 "_law_with", dd 92 "_law_inner", dd 93 "_law_going", dd 94 "_law_power", dd 95 "_law_least", dd 96 "_law_run", dd 97 "_law_sizes", dd 99 "_law_ways", dd 100 "_law_branch", dd 101 "_law_everywhere", dd 102 "_law_told_ends", dd 103 "_law_program_right", dd 104 "law"]
def fa : List He.Fa := [.glo "split_program", .glo "menu_of", .glo "row_is_below", .glo "least_row", .glo "power", .glo "shared", .glo "finish", .glo "game_begun", .glo "game_moved", .glo "told_entry", .glo "put", .glo "run_of", .glo "combined", .glo "step_eval", .glo "wait", .glo "begin", .glo "step_value", .glo "give_prim", .glo "give_prim_2", .glo "give_as", .glo "give_part", .glo "give_if", .glo "give_repeat", .glo "give_repeat_2", .glo "turn", .glo "give_call", .glo "give_call_2", .glo "give_pair", .glo "give_pair_2", .glo "give_at", .glo "give_at_2", .glo "give_share", .glo "read_parameter", .glo "frame_of", .glo "step_stop", .glo "go_through", .glo "gone", .glo "is_done", .glo "done", .glo "plain_value", .glo "body_of", .glo "run_within", .glo "gone_through", .glo "ways", .glo "work", .glo "is_small", .glo "_law_begun", .glo "_law_draw", .glo "_law_of", .glo "_law_fresh", .glo "_law_p", .glo "_law_n", .glo "_law_having", .glo "_law_index", .glo "_law_entry", .glo "_law_few", .glo "_law_test", .glo "_law_num", .glo "_law_over_rows", .glo "_law_higher", .glo "_law_plain_term", .glo "_law_menu", .glo "_law_result", .glo "_law_with_rows", .glo "_law_program", .glo "_law_read", .glo "_law_prim", .glo "_law_all_out", .glo "_law_called", .glo "_law_out", .glo "_law_put", .glo "_law_with", .glo "_law_inner", .glo "_law_going", .glo "_law_power", .glo "_law_least", .glo "_law_run", .glo "_law_sizes", .glo "_law_ways", .glo "_law_branch", .glo "_law_everywhere", .glo "_law_told_ends", .glo "_law_program_right", .glo "law", .glo "GIVES", .free "len", .free "int", .free "max", .free "min", .free "sum", .free "sorted", .free "list", .free "dict", .free "tuple", .free "range", .free "str", .free "repr", .free "isinstance", .free "enumerate", .free "all", .int "TOP_settling" 999999999999999999, .int "TOP_plain" 999999999999999999, .int "TURNS" 60, .int "STEPS" 20000, .int "ENDS" 500]
def gks : List Str := ["prim", "prim 2", "as", "count", "first", "second", "if", "repeat", "repeat 2", "call", "call 2", "pair", "pair 2", "at", "at 2", "share"]
def gvs : List (Str × He.Dv) := [("prim", .glo "give_prim"), ("prim 2", .glo "give_prim_2"), ("as", .glo "give_as"), ("count", .glo "give_part"), ("first", .glo "give_part"), ("second", .glo "give_part"), ("if", .glo "give_if"), ("repeat", .glo "give_repeat"), ("repeat 2", .glo "give_repeat_2"), ("call", .glo "give_call"), ("call 2", .glo "give_call_2"), ("pair", .glo "give_pair"), ("pair 2", .glo "give_pair_2"), ("at", .glo "give_at"), ("at 2", .glo "give_at_2"), ("share", .glo "give_share")]
def ts : List He.Tab := [(fun K => He.ga K "GIVES", gks)]
def ex (K : PySem.W.Frag) : Bool := He.valsB K (He.ga K "GIVES") gvs
abbrev R : PySem.W.OpenRow := PySem.W.OpenLaw.row PySem.Challenge.rw_allendless_k08_whole_ways
abbrev hk : PySem.W.Hook := He.hookX 2 fa fn ts [] ex
def ob (s : PySem.W.SharedT) : He.AlX := He.obsX 2 fa fn ts [] ex (HandSHeadRun.getT s)
theorem ob_eq (s : PySem.W.SharedT) : ob s = hk.obs s.abs := He.obsX_eq (HandSHeadRun.getT_eq s)
def lo0 : List Str := ["AllendlessError", "TooGreat", "split_program", "menu_of", "TOP_settling", "row_is_below", "least_row", "power", "shared", "finish", "differing", "least_needed", "left_ends", "game_begun", "game_moved", "game_on", "handed_up", "told_entry", "TOP_plain", "TURNS", "put", "run_of", "combined", "step_eval", "wait", "begin", "step_value", "give_prim", "give_prim_2", "give_as"]
def lo1 : List Str := ["give_part", "give_if", "give_repeat", "give_repeat_2", "turn", "give_call", "give_call_2", "give_pair", "give_pair_2", "give_at", "give_at_2", "give_share", "GIVES", "read_parameter", "frame_of", "step_stop", "go_through", "gone", "is_done", "done", "plain_value", "body_of", "run_within", "STEPS", "ENDS", "gone_through", "ways", "work", "is_small", "_law_begun"]
def lo2 : List Str := ["_law_draw", "_law_of", "_law_fresh", "_law_p", "_law_n", "_law_having", "_law_index", "_law_entry", "_law_few", "_law_test", "_law_num", "_law_over_rows", "_law_higher", "_law_plain_term", "_law_menu", "_law_result", "_law_with_rows", "_law_program", "_law_read", "_law_prim", "_law_all_out", "_law_called", "_law_out", "_law_put", "_law_with", "_law_inner", "_law_going", "_law_power", "_law_least", "_law_run"]
def lo3 : List Str := ["_law_sizes", "_law_pairs", "_law_ways", "_law_branch", "_law_everywhere", "_law_told_ends", "_law_program_right"]
def loose : List Str := lo0 ++ lo1 ++ lo2 ++ lo3
abbrev RunAt (w : World) : Prop := HandSHeadRun.RunEq R (PySem.W.view R.prog [104]) hk ob 4000 loose w
theorem run_f (w : World) : RunAt (w.withFollow "special-get-raises" false) := by
  intro os
  kernel_rfl
theorem run_t (w : World) : RunAt (w.withFollow "special-get-raises" true) := by
  intro os
  kernel_rfl
theorem run (w : World) : RunAt w := PySem.W.byRow2 "special-get-raises" (P := RunAt) run_f run_t w
end Hd
set_option Elab.async false
set_option linter.all false
set_option maxRecDepth 100000
/-! P0: the pure data: terms, values, the own plain meaning as a Lean function, the stepping machine. -/
namespace KW
open PySem L2

abbrev Kn := List (Int × Int)
abbrev Pl := Int × Nat
abbrev KnP := List (Pl × Int)
def TOP : Int := 999999999999999999
def look {κ α : Type} [DecidableEq κ] (l : List (κ × α)) (k : κ) : Option α := (l.find? fun p => decide (p.1 = k)).map (·.2)

inductive Tm where
  | var (x : Str)
  | lit (n : Int)
  | prim (op : Str) (a b : Tm)
  | as (m : Int) (a : Tm)
  | count (a : Tm)
  | ite (c a b : Tm)
  | fn (x : Str) (b : Tm)
  | call (f a : Tm)
  | pair (a b : Tm)
  | fst (a : Tm)
  | snd (a : Tm)
  | rep (n f a : Tm)
  | idx (r i : Tm)
  | row (x : Str) (b : Tm)
  | qu (w x : Str) (m : Nat) (b : Tm)
  | share (x : Str) (m : Nat) (b n : Tm)

mutual
inductive Val where
  | int (i : Int)
  | clo (x : Str) (b : Tm) (e : Nv)
  | made (x : Str) (b : Tm) (e : Nv)
  | gone (n : Nat)
  | given (k : Nat)
  | found (kn : Kn)
  | pair (a b : Val)
inductive Nv where
  | nil
  | cons (x : Str) (v : Val) (e : Nv)
end

def Nv.look : Nv → Str → Option Val
  | .nil, _ => none
  | .cons y v e, x => if y = x then some v else e.look x
def Nv.put (e : Nv) (x : Str) (v : Val) : Nv := .cons x v e
def Nv.len : Nv → Nat
  | .nil => 0
  | .cons _ _ e => e.len + 1

structure S where
  steps : Nat
  marks : Nat
inductive Stop where
  | long
  | place (p : Pl)
  | gone (n : Nat) (i : Int)
inductive R (α : Type) where
  | ok (a : α) (s : S)
  | st (w : Stop) (s : S)
  | die
def R.bind {α β : Type} : R α → (α → S → R β) → R β
  | .ok a s, f => f a s
  | .st w s, _ => .st w s
  | .die, _ => .die
abbrev GK := Nat → Option Kn
def GK.put (gk : GK) (n : Nat) (k : Kn) : GK := fun j => if j = n then some k else gk j
abbrev Ev := Tm → Nv → GK → S → R Val

/-- what a prim gives, of numbers from 0 to TOP -/
def prim (op : Str) (a b : Int) : Option Int :=
  if 0 ≤ a ∧ a ≤ TOP ∧ 0 ≤ b ∧ b ≤ TOP then
    if op = "add" then some (if a + b ≤ TOP then a + b else TOP)
    else if op = "times" then some (if a * b ≤ TOP then a * b else TOP)
    else if op = "less" then some (if a - b ≤ 0 then 0 else a - b)
    else if op = "over" then some (if b = 0 then 0 else a / b)
    else if op = "rest" then some (if b = 0 then 0 else a % b)
    else if op = "below" then some (if a < b then 1 else 0)
    else if op = "same" then some (if a = b then 1 else 0)
    else none
  else none
def primV (op : Str) : Val → Val → Option Val
  | .int a, .int b => (prim op a b).map Val.int
  | _, _ => none
def outV (s : S) : Option Val → R Val
  | some v => .ok v s
  | none => .die
def asV (m : Int) : Val → Option Val
  | .int i => if 0 ≤ i ∧ 0 < m then some (.int (i % m)) else none
  | _ => none
def fstV : Val → Option Val
  | .pair a _ => some a
  | _ => none
def sndV : Val → Option Val
  | .pair _ b => some b
  | _ => none
def intV : Val → Option Val
  | .int i => some (.int i)
  | _ => none

def appl (rec : Ev) (f v : Val) (gk : GK) (s : S) : R Val := match f with
  | .clo x b e => if e.len < 1000 then rec b (e.put x v) gk s else .die
  | _ => .die
def readAt (rec : Ev) (kn : KnP) (r i : Val) (gk : GK) (s : S) : R Val := match r, i with
  | .made x b e, .int i => if e.len < 1000 then rec b (e.put x (.int i)) gk s else .die
  | .found k, .int i => .ok (.int ((look k i).getD 0)) s
  | .gone n, .int i => if 0 ≤ i ∧ i < 4 then (match gk n with
    | none => .die
    | some k => match look k i with
      | some d => .ok (.int d) s
      | none => .st (.gone n i) s) else .die
  | .given k, .int i => if 0 ≤ i ∧ i < 4 then (match look kn (i, k) with
    | some d => .ok (.int d) s
    | none => .st (.place (i, k)) s) else .die
  | _, _ => .die
def reps (rec : Ev) (f : Val) (gk : GK) : Nat → Val → S → R Val
  | 0, v, s => .ok v s
  | n + 1, v, s => (appl rec f v gk s).bind fun v s => reps rec f gk n v s

def heirs (m : Nat) (k : Kn) (i : Int) : List Kn := (List.range m).map fun (d : Nat) => k ++ [(i, (d : Int))]
def loop (run : Kn → S → R Val) (num m : Nat) : Nat → List Kn → List (Kn × Int) → S → R (List (Kn × Int))
  | 0, _, _, _ => .die
  | _ + 1, [], ends, s => .ok ends s
  | f + 1, k :: ps, ends, s => match run k s with
    | .ok (.int i) s => loop run num m f ps (ends ++ [(k, i)]) s
    | .ok _ _ => .die
    | .st (.gone n i) s => if n = num then (match look k i with
        | none => loop run num m f (heirs m k i ++ ps) ends s
        | some _ => .die) else .st (.gone n i) s
    | .st w s => .st w s
    | .die => .die
def FUEL : Nat := 40000
def inner (rec : Ev) (x : Str) (m : Nat) (b : Tm) (env : Nv) (gk : GK) (s : S) : R (List (Kn × Int)) :=
  if env.len < 1000 ∧ 2 ≤ m ∧ m ≤ 9 then loop (fun k s' => rec b (env.put x (.gone s.marks)) (gk.put s.marks k) s') s.marks m FUEL [[]] [] ⟨s.steps, s.marks + 1⟩ else .die

def maxL : List Int → Int
  | [] => 0
  | [a] => a
  | a :: b :: l => if a ≤ maxL (b :: l) then maxL (b :: l) else a
def minL : List Int → Int
  | [] => 0
  | [a] => a
  | a :: b :: l => if minL (b :: l) ≤ a then minL (b :: l) else a
theorem maxL_mem : ∀ {l : List Int}, l ≠ [] → maxL l ∈ l
  | [], h => absurd rfl h
  | [a], _ => List.mem_singleton.mpr rfl
  | a :: b :: l, _ => by
    show (if a ≤ maxL (b :: l) then maxL (b :: l) else a) ∈ a :: b :: l
    split
    · exact List.mem_cons_of_mem _ (maxL_mem (l := b :: l) (by simp))
    · exact List.mem_cons_self
theorem maxL_ge : ∀ {l : List Int} {y : Int}, y ∈ l → y ≤ maxL l
  | [], y, h => by cases h
  | [a], y, h => by rw [List.mem_singleton.mp h]; exact Int.le_refl _
  | a :: b :: l, y, h => by
    show y ≤ (if a ≤ maxL (b :: l) then maxL (b :: l) else a)
    rcases List.mem_cons.mp h with e | h
    · subst e; split <;> omega
    · have := maxL_ge (l := b :: l) h
      split <;> omega
theorem minL_mem : ∀ {l : List Int}, l ≠ [] → minL l ∈ l
  | [], h => absurd rfl h
  | [a], _ => List.mem_singleton.mpr rfl
  | a :: b :: l, _ => by
    show (if minL (b :: l) ≤ a then minL (b :: l) else a) ∈ a :: b :: l
    split
    · exact List.mem_cons_of_mem _ (minL_mem (l := b :: l) (by simp))
    · exact List.mem_cons_self
theorem minL_le : ∀ {l : List Int} {y : Int}, y ∈ l → minL l ≤ y
  | [], y, h => by cases h
  | [a], y, h => by rw [List.mem_singleton.mp h]; exact Int.le_refl _
  | a :: b :: l, y, h => by
    show (if minL (b :: l) ≤ a then minL (b :: l) else a) ≤ y
    rcases List.mem_cons.mp h with e | h
    · subst e; split <;> omega
    · have := minL_le (l := b :: l) h
      split <;> omega
theorem maxL_is {l : List Int} {m : Int} (h : m ∈ l) (g : ∀ y ∈ l, y ≤ m) : m = maxL l := by
  have a := maxL_ge h
  have b := g _ (maxL_mem (l := l) (fun e => by rw [e] at h; cases h))
  omega
theorem minL_is {l : List Int} {m : Int} (h : m ∈ l) (g : ∀ y ∈ l, m ≤ y) : m = minL l := by
  have a := minL_le h
  have b := g _ (minL_mem (l := l) (fun e => by rw [e] at h; cases h))
  omega

def keys (k : Kn) : List Int := k.map (·.1)
def unlike (a b : Kn) (l : List Int) : List Int := l.filter fun i => decide ((look a i).getD 0 ≠ (look b i).getD 0)
def sortI (l : List Int) : List Int := l.mergeSort (fun a b => decide (a ≤ b))
def below (a b : Kn) : Bool := match unlike a b (sortI (keys a ++ keys b)) with
  | [] => false
  | i :: _ => decide ((look a i).getD 0 < (look b i).getD 0)
def lower (best row : Kn) : Kn := if below row best = true then row else best
def leastRow : List Kn → Kn
  | [] => []
  | r :: rs => rs.foldl lower r
theorem sortI_is {l ys : List Int} (p : ys.Perm l) (h : ys.Pairwise (· ≤ ·)) : ys = sortI l := by
  have q : (sortI l).Perm l := List.mergeSort_perm _ _
  have s : (sortI l).Pairwise (fun a b => decide (a ≤ b) = true) := List.pairwise_mergeSort (fun a b c h1 h2 => by
    have := of_decide_eq_true h1; have := of_decide_eq_true h2; exact decide_eq_true (by omega)) (fun a b => by
    rcases Int.le_total a b with h | h
    · simp [h]
    · simp [h]) l
  have s2 : (sortI l).Pairwise (· ≤ ·) := s.imp fun h => of_decide_eq_true h
  exact (p.trans q.symm).eq_of_pairwise (fun a b _ _ h1 h2 => by omega) h s2

def ones (ends : List (Kn × Int)) : List Kn := (ends.filter fun e => decide (e.2 = 1)).map (·.1)
def vals (ends : List (Kn × Int)) : List Int := ends.map (·.2)
def bits (ends : List (Kn × Int)) : Bool := ends.all fun e => decide (e.2 = 0) || decide (e.2 = 1)
def fin (w : Str) (ends : List (Kn × Int)) : Option Val :=
  if ends = [] then none
  else if w = "some" then (if bits ends = true then some (.int (maxL (vals ends))) else none)
  else if w = "every" then (if bits ends = true then some (.int (minL (vals ends))) else none)
  else if w = "least" then some (.int (minL (vals ends)))
  else if w = "greatest" then some (.int (maxL (vals ends)))
  else if w = "find" then some (.found (leastRow (ones ends)))
  else none
def deep (ends : List (Kn × Int)) : Nat := (maxL (ends.map fun e => (e.1.length : Int))).toNat
def partsL (m : Nat) (ends : List (Kn × Int)) : List Int := (ones ends).map fun k => ((m ^ (deep ends - k.length) : Nat) : Int)
def short (ends : List (Kn × Int)) : Bool := ends.all fun e => decide (e.1.length ≤ 8)
def shareV (m : Nat) (n : Int) (ends : List (Kn × Int)) : Option Val :=
  if ends ≠ [] ∧ short ends = true ∧ 0 ≤ n ∧ n ≤ 1000 then
    some (.int (if n * (partsL m ends).sum / ((m ^ deep ends : Nat) : Int) ≤ TOP then n * (partsL m ends).sum / ((m ^ deep ends : Nat) : Int) else TOP))
  else none
def shareO (m : Nat) (v : Val) (ends : List (Kn × Int)) : Option Val := match v with
  | .int n => shareV m n ends
  | _ => none

/-- one term, its parts by rec -/
def body (kn : KnP) (rec : Ev) (t : Tm) (env : Nv) (gk : GK) (s : S) : R Val := match t with
  | .var x => outV s (env.look x)
  | .lit n => .ok (.int n) s
  | .fn x b => .ok (.clo x b env) s
  | .row x b => .ok (.made x b env) s
  | .prim op a b => (rec a env gk s).bind fun va s => (rec b env gk s).bind fun vb s => outV s (primV op va vb)
  | .as m a => (rec a env gk s).bind fun v s => outV s (asV m v)
  | .count a => (rec a env gk s).bind fun v s => outV s (intV v)
  | .fst a => (rec a env gk s).bind fun v s => outV s (fstV v)
  | .snd a => (rec a env gk s).bind fun v s => outV s (sndV v)
  | .ite c a b => (rec c env gk s).bind fun v s => match v with
    | .int i => if i = 1 then rec a env gk s else rec b env gk s
    | _ => .die
  | .call f a => (rec f env gk s).bind fun vf s => (rec a env gk s).bind fun va s => appl rec vf va gk s
  | .pair a b => (rec a env gk s).bind fun va s => (rec b env gk s).bind fun vb s => .ok (.pair va vb) s
  | .rep n f a => (rec n env gk s).bind fun vn s => (rec f env gk s).bind fun vf s => match vn with
    | .int i => if 0 ≤ i then (rec a env gk s).bind fun va s => reps rec vf gk (if i ≤ 60 then i else 60).toNat va s else .die
    | _ => .die
  | .idx r i => (rec r env gk s).bind fun vr s => (rec i env gk s).bind fun vi s => readAt rec kn vr vi gk s
  | .qu w x m b => if w = "share" then .die else (inner rec x m b env gk s).bind fun ends s => outV s (fin w ends)
  | .share x m b n => (rec n env gk s).bind fun vn s => (inner rec x m b env gk s).bind fun ends s => outV s (shareO m vn ends)
def ev (most : Nat) (kn : KnP) : Nat → Ev
  | 0 => fun _ _ _ _ => .die
  | d + 1 => fun t env gk s => if most < s.steps + 1 then .st .long ⟨s.steps + 1, s.marks⟩ else body kn (ev most kn d) t env gk ⟨s.steps + 1, s.marks⟩
end KW
set_option Elab.async false
set_option linter.all false
set_option maxRecDepth 100000
/-! P1: the limit of steps: with a greater limit the same comes, but where the lesser one was met. -/
namespace KW
open PySem L2
def R.long {α : Type} (r : R α) : Prop := ∃ s, r = .st .long s
def Ag {α : Type} (r1 r2 : R α) : Prop := r1 = r2 ∨ r1.long
theorem Ag.rfl {α : Type} {r : R α} : Ag r r := .inl (Eq.refl r)
theorem Ag.bind {α β : Type} {r1 r2 : R α} {f1 f2 : α → S → R β} (h : Ag r1 r2) (g : ∀ a s, Ag (f1 a s) (f2 a s)) : Ag (r1.bind f1) (r2.bind f2) := by
  rcases h with h | ⟨s, h⟩
  · subst h
    cases r1 with
    | ok a s => exact g a s
    | st w s => exact .inl (Eq.refl _)
    | die => exact .inl (Eq.refl _)
  · subst h
    exact .inr ⟨s, Eq.refl _⟩
theorem ag_loop {run1 run2 : Kn → S → R Val} (h : ∀ k s, Ag (run1 k s) (run2 k s)) (num m : Nat) : ∀ (f : Nat) (ps : List Kn) (ends : List (Kn × Int)) (s : S), Ag (loop run1 num m f ps ends s) (loop run2 num m f ps ends s)
  | 0, _, _, _ => .rfl
  | _ + 1, [], _, _ => .rfl
  | f + 1, k :: ps, ends, s => by
    unfold loop
    rcases h k s with e | ⟨s', e⟩
    · rw [e]
      cases e2 : run2 k s with
      | ok v s => cases v <;> first | exact ag_loop h num m f _ _ _ | exact .rfl
      | st w s =>
        cases w with
        | gone n i =>
          dsimp only
          split
          · cases look k i <;> first | exact ag_loop h num m f _ _ _ | exact .rfl
          · exact .rfl
        | _ => exact .rfl
      | die => exact .rfl
    · rw [e]
      exact .inr ⟨s', Eq.refl _⟩
section
variable {r1 r2 : Ev} (h : ∀ t e g s, Ag (r1 t e g s) (r2 t e g s))
include h
theorem ag_appl (f v : Val) (gk : GK) (s : S) : Ag (appl r1 f v gk s) (appl r2 f v gk s) := by
  cases f <;> first | exact .rfl | (unfold appl; dsimp only; split <;> first | exact h _ _ _ _ | exact .rfl)
theorem ag_read (kn : KnP) (r i : Val) (gk : GK) (s : S) : Ag (readAt r1 kn r i gk s) (readAt r2 kn r i gk s) := by
  cases r <;> cases i <;> first | exact .rfl | (unfold readAt; dsimp only; split <;> first | exact h _ _ _ _ | exact .rfl)
theorem ag_reps (f : Val) (gk : GK) : ∀ (n : Nat) (v : Val) (s : S), Ag (reps r1 f gk n v s) (reps r2 f gk n v s)
  | 0, _, _ => .rfl
  | n + 1, v, s => (ag_appl h f v gk s).bind fun v s => ag_reps f gk n v s
theorem ag_inner (x : Str) (m : Nat) (b : Tm) (env : Nv) (gk : GK) (s : S) : Ag (inner r1 x m b env gk s) (inner r2 x m b env gk s) := by
  unfold inner
  split
  · exact ag_loop (fun k s => h _ _ _ _) _ _ _ _ _ _
  · exact .rfl
theorem ag_body (kn : KnP) (t : Tm) (env : Nv) (gk : GK) (s : S) : Ag (body kn r1 t env gk s) (body kn r2 t env gk s) := by
  cases t with
  | var x => exact .rfl
  | lit n => exact .rfl
  | fn x b => exact .rfl
  | row x b => exact .rfl
  | prim op a b => exact (h _ _ _ _).bind fun va s => (h _ _ _ _).bind fun vb s => .rfl
  | as m a => exact (h _ _ _ _).bind fun va s => .rfl
  | count a => exact (h _ _ _ _).bind fun va s => .rfl
  | fst a => exact (h _ _ _ _).bind fun va s => .rfl
  | snd a => exact (h _ _ _ _).bind fun va s => .rfl
  | ite c a b =>
    refine (h _ _ _ _).bind fun v s => ?_
    cases v <;> first | exact .rfl | (dsimp only; split <;> exact h _ _ _ _)
  | call f a => exact (h _ _ _ _).bind fun vf s => (h _ _ _ _).bind fun va s => ag_appl h _ _ _ _
  | pair a b => exact (h _ _ _ _).bind fun va s => (h _ _ _ _).bind fun vb s => .rfl
  | rep n f a =>
    refine (h _ _ _ _).bind fun vn s => (h _ _ _ _).bind fun vf s => ?_
    cases vn <;> first | exact .rfl | (dsimp only; split <;> first | exact (h _ _ _ _).bind fun va s => ag_reps h _ _ _ _ _ | exact .rfl)
  | idx r i => exact (h _ _ _ _).bind fun vf s => (h _ _ _ _).bind fun va s => ag_read h _ _ _ _ _
  | qu w x m b =>
    unfold body
    dsimp only
    split
    · exact .rfl
    · exact (ag_inner h _ _ _ _ _ _).bind fun _ _ => .rfl
  | share x m b n => exact (h _ _ _ _).bind fun _ _ => (ag_inner h _ _ _ _ _ _).bind fun _ _ => .rfl
end
theorem ag_ev {m1 m2 : Nat} (hm : m1 ≤ m2) (kn : KnP) : ∀ (d : Nat) (t : Tm) (env : Nv) (gk : GK) (s : S), Ag (ev m1 kn d t env gk s) (ev m2 kn d t env gk s)
  | 0, _, _, _, _ => .rfl
  | d + 1, t, env, gk, s => by
    unfold ev
    by_cases h1 : m1 < s.steps + 1
    · rw [if_pos h1]
      exact .inr ⟨_, rfl⟩
    · rw [if_neg h1, if_neg (by omega)]
      exact ag_body (ag_ev hm kn d) kn t env gk _
/-- what is not long is the same with a greater limit -/
theorem ev_more {m1 m2 : Nat} (hm : m1 ≤ m2) {kn : KnP} {d : Nat} {t : Tm} {env : Nv} {gk : GK} {s : S} (h : ¬ (ev m1 kn d t env gk s).long) : ev m2 kn d t env gk s = ev m1 kn d t env gk s := by
  rcases ag_ev hm kn d t env gk s with e | e
  · exact e.symm
  · exact absurd e h
/-- with any other limit the same comes, or that limit is met -/
theorem ev_other {m1 m2 : Nat} {kn : KnP} {d : Nat} {t : Tm} {env : Nv} {gk : GK} {s : S} (h : ¬ (ev m1 kn d t env gk s).long) : ev m2 kn d t env gk s = ev m1 kn d t env gk s ∨ (ev m2 kn d t env gk s).long := by
  rcases Nat.le_total m1 m2 with hm | hm
  · exact .inl (ev_more hm h)
  · exact ag_ev hm kn d t env gk s
end KW
set_option Elab.async false
set_option linter.all false
set_option maxRecDepth 100000
/-! P2: the stepping machine of the package, and that it does what the own plain meaning does. -/
namespace KW
open PySem L2

structure AF where
  w : Str
  x : Str
  m : Nat
  b : Tm
  env : Nv
  num : Val
  mark : Nat
  known : Kn
  left : List Kn
  ends : List (Kn × Int)
inductive Fr where
  | prim (op : Str) (b : Tm) (e : Nv)
  | prim2 (op : Str) (v : Val)
  | as (m : Int)
  | count | fst | snd
  | ite (a b : Tm) (e : Nv)
  | rep (f t : Tm) (e : Nv)
  | rep2 (n : Val) (t : Tm) (e : Nv)
  | turns (n : Nat) (f : Val)
  | call (a : Tm) (e : Nv)
  | call2 (f : Val)
  | pair (b : Tm) (e : Nv)
  | pair2 (v : Val)
  | idx (i : Tm) (e : Nv)
  | idx2 (r : Val)
  | share (x : Str) (m : Nat) (b n : Tm) (e : Nv)
  | all (a : AF)
inductive Now where
  | eval (t : Tm) (e : Nv)
  | value (v : Val)
  | stop (r : Val) (i : Int)
structure Cfg where
  now : Now
  stk : List Fr
  s : S
def Fr.isAll (n : Nat) : Fr → Option Kn
  | .all a => if a.mark = n then some a.known else none
  | _ => none
/-- the known entries of the frame with this mark, from the bottom -/
def frameOf (stk : List Fr) (n : Nat) : Option Kn := stk.reverse.findSome? (Fr.isAll n)

def goF (f v : Val) (stk : List Fr) (s : S) : Option Cfg := match f with
  | .clo x b e => if e.len < 1000 then some ⟨.eval b (e.put x v), stk, s⟩ else none
  | _ => none
def valO (stk : List Fr) (s : S) (o : Option Val) : Option Cfg := o.map fun v => ⟨.value v, stk, s⟩
/-- begin to go through the rows of a quantifier -/
def beginC (w x : Str) (m : Nat) (b : Tm) (env : Nv) (num : Val) (stk : List Fr) (s : S) : Option Cfg :=
  if env.len < 1000 ∧ 2 ≤ m ∧ m ≤ 9 then some ⟨.eval b (env.put x (.gone s.marks)), .all ⟨w, x, m, b, env, num, s.marks + 1, [], [], []⟩ :: stk, ⟨s.steps, s.marks + 1⟩⟩ else none
/-- the next known entries of a quantifier's frame -/
def through (a : AF) (k : Kn) (ls : List Kn) (stk : List Fr) (s : S) : Cfg :=
  ⟨.eval a.b (a.env.put a.x (.gone (a.mark - 1))), .all { a with known := k, left := ls } :: stk, s⟩
def finA (a : AF) : Option Val := if a.w = "share" then shareO a.m a.num a.ends else fin a.w a.ends
def turn (n : Nat) (f v : Val) (stk : List Fr) (s : S) : Option Cfg := match n with
  | 0 => some ⟨.value v, stk, s⟩
  | n + 1 => goF f v (.turns n f :: stk) s
def readC (kn : KnP) (r i : Val) (stk : List Fr) (s : S) : Option Cfg := match r, i with
  | .made x b e, .int i => if e.len < 1000 then some ⟨.eval b (e.put x (.int i)), stk, s⟩ else none
  | .found k, .int i => some ⟨.value (.int ((look k i).getD 0)), stk, s⟩
  | .gone n, .int i => if 0 ≤ i ∧ i < 4 then (match frameOf stk (n + 1) with
    | none => none
    | some k => match look k i with
      | some d => some ⟨.value (.int d), stk, s⟩
      | none => some ⟨.stop (.gone n) i, stk, s⟩) else none
  | .given k, .int i => if 0 ≤ i ∧ i < 4 then (match look kn (i, k) with
    | some d => some ⟨.value (.int d), stk, s⟩
    | none => some ⟨.stop (.given k) i, stk, s⟩) else none
  | _, _ => none
def give (kn : KnP) (f : Fr) (v : Val) (stk : List Fr) (s : S) : Option Cfg := match f with
  | .prim op b e => some ⟨.eval b e, .prim2 op v :: stk, s⟩
  | .prim2 op u => valO stk s (primV op u v)
  | .as m => valO stk s (asV m v)
  | .count => valO stk s (intV v)
  | .fst => valO stk s (fstV v)
  | .snd => valO stk s (sndV v)
  | .ite a b e => match v with
    | .int i => some ⟨.eval (if i = 1 then a else b) e, stk, s⟩
    | _ => none
  | .rep f t e => some ⟨.eval f e, .rep2 v t e :: stk, s⟩
  | .rep2 n t e => match n with
    | .int i => if 0 ≤ i then some ⟨.eval t e, .turns (if i ≤ 60 then i else 60).toNat v :: stk, s⟩ else none
    | _ => none
  | .turns n f => turn n f v stk s
  | .call a e => some ⟨.eval a e, .call2 v :: stk, s⟩
  | .call2 f => goF f v stk s
  | .pair b e => some ⟨.eval b e, .pair2 v :: stk, s⟩
  | .pair2 u => some ⟨.value (.pair u v), stk, s⟩
  | .idx i e => some ⟨.eval i e, .idx2 v :: stk, s⟩
  | .idx2 r => readC kn r v stk s
  | .share x m b n e => beginC "share" x m b e v stk s
  | .all a => match v with
    | .int i => match a.left with
      | k :: ls => some (through { a with ends := a.ends ++ [(a.known, i)] } k ls stk s)
      | [] => valO stk s (finA { a with ends := a.ends ++ [(a.known, i)] })
    | _ => none
def evalC (t : Tm) (e : Nv) (stk : List Fr) (s : S) : Option Cfg := match t with
  | .var x => valO stk s (e.look x)
  | .lit n => some ⟨.value (.int n), stk, s⟩
  | .fn x b => some ⟨.value (.clo x b e), stk, s⟩
  | .row x b => some ⟨.value (.made x b e), stk, s⟩
  | .prim op a b => some ⟨.eval a e, .prim op b e :: stk, s⟩
  | .as m a => some ⟨.eval a e, .as m :: stk, s⟩
  | .count a => some ⟨.eval a e, .count :: stk, s⟩
  | .fst a => some ⟨.eval a e, .fst :: stk, s⟩
  | .snd a => some ⟨.eval a e, .snd :: stk, s⟩
  | .ite c a b => some ⟨.eval c e, .ite a b e :: stk, s⟩
  | .call f a => some ⟨.eval f e, .call a e :: stk, s⟩
  | .pair a b => some ⟨.eval a e, .pair b e :: stk, s⟩
  | .rep n f a => some ⟨.eval n e, .rep f a e :: stk, s⟩
  | .idx r i => some ⟨.eval r e, .idx i e :: stk, s⟩
  | .qu w x m b => if w = "share" then none else beginC w x m b e (.int 0) stk s
  | .share x m b n => some ⟨.eval n e, .share x m b n e :: stk, s⟩
/-- the stack down to the frame of a mark -/
def unwind (n : Nat) : List Fr → Option (AF × List Fr)
  | [] => none
  | .all a :: r => if a.mark = n then some (a, r) else unwind n r
  | _ :: r => unwind n r
def stopC (r : Val) (i : Int) (stk : List Fr) (s : S) : Option Cfg := match r with
  | .gone n => match unwind (n + 1) stk with
    | some (a, r) => match heirs a.m a.known i ++ a.left with
      | k :: ls => (match look a.known i with
        | none => some (through a k ls r s)
        | some _ => none)
      | [] => none
    | none => none
  | _ => none
def cstep (most : Nat) (kn : KnP) (c : Cfg) : Option Cfg := match c.now with
  | .eval t e => if most < c.s.steps + 1 then none else evalC t e c.stk ⟨c.s.steps + 1, c.s.marks⟩
  | .value v => match c.stk with
    | [] => none
    | f :: stk => give kn f v stk c.s
  | .stop r i => stopC r i c.stk c.s
/-- so many steps lead from one to the other -/
inductive Run (most : Nat) (kn : KnP) : Nat → Cfg → Cfg → Prop where
  | refl (c : Cfg) : Run most kn 0 c c
  | step {n : Nat} {c c1 c2 : Cfg} (h : cstep most kn c = some c1) (r : Run most kn n c1 c2) : Run most kn (n + 1) c c2
def Rn (most : Nat) (kn : KnP) (c c' : Cfg) : Prop := ∃ n, Run most kn n c c'
section
variable {most : Nat} {kn : KnP} {c c1 c2 : Cfg}
theorem Rn.refl : Rn most kn c c := ⟨0, .refl c⟩
theorem Rn.step (h : cstep most kn c = some c1) (r : Rn most kn c1 c2) : Rn most kn c c2 := let ⟨n, r⟩ := r; ⟨n + 1, .step h r⟩
theorem Run.trans : ∀ {n m : Nat} {c c1 c2 : Cfg}, Run most kn n c c1 → Run most kn m c1 c2 → Run most kn (n + m) c c2
  | _, m, _, _, _, .refl _, r => by rw [Nat.zero_add]; exact r
  | n + 1, m, _, _, _, .step h q, r => by rw [show n + 1 + m = (n + m) + 1 by omega]; exact .step h (Run.trans q r)
theorem Rn.trans (a : Rn most kn c c1) (b : Rn most kn c1 c2) : Rn most kn c c2 := let ⟨n, r⟩ := a; let ⟨m, q⟩ := b; ⟨n + m, r.trans q⟩
end

/-- the frames' marks lie below or at n -/
def Marks (n : Nat) (stk : List Fr) : Prop := ∀ a, Fr.all a ∈ stk → a.mark ≤ n
def MarksOver (n : Nat) (stk : List Fr) : Prop := ∀ a, Fr.all a ∈ stk → n < a.mark
/-- what is known of the rows that are gone through stands in the stack -/
def GkS (gk : GK) (n : Nat) (stk : List Fr) : Prop := ∀ j k, gk j = some k → j < n ∧ frameOf stk (j + 1) = some k
/-- what the machine comes to -/
def Fits (most : Nat) (kn : KnP) (c : Cfg) (stk : List Fr) (n0 : Nat) : R Val → Prop
  | .ok v s => Rn most kn c ⟨.value v, stk, s⟩ ∧ n0 ≤ s.marks
  | .st (.place (i, k)) s => ∃ pre, Rn most kn c ⟨.stop (.given k) i, pre ++ stk, s⟩
  | .st (.gone g i) s => (∃ pre, Rn most kn c ⟨.stop (.gone g) i, pre ++ stk, s⟩ ∧ MarksOver n0 pre) ∧ n0 ≤ s.marks
  | .st .long s => True
  | .die => True
end KW
set_option Elab.async false
set_option linter.all false
set_option maxRecDepth 100000
/-! P3: the machine does what the own plain meaning does. -/
namespace KW
open PySem L2
section
variable {most : Nat} {kn : KnP}

theorem frameOf_app {pre stk : List Fr} {n : Nat} {k : Kn} (h : frameOf stk n = some k) : frameOf (pre ++ stk) n = some k := by
  unfold frameOf at *
  rw [List.reverse_append, List.findSome?_append, h]
  rfl
theorem GkS.app {gk : GK} {n : Nat} {stk : List Fr} (h : GkS gk n stk) (pre : List Fr) {n' : Nat} (hn : n ≤ n') : GkS gk n' (pre ++ stk) := fun j k e => ⟨Nat.lt_of_lt_of_le (h j k e).1 hn, frameOf_app (h j k e).2⟩
theorem GkS.cons {gk : GK} {n : Nat} {stk : List Fr} (h : GkS gk n stk) (f : Fr) {n' : Nat} (hn : n ≤ n') : GkS gk n' (f :: stk) := h.app [f] hn
theorem GkS.le {gk : GK} {n n' : Nat} {stk : List Fr} (h : GkS gk n stk) (hn : n ≤ n') : GkS gk n' stk := h.app [] hn
theorem Marks.le {n n' : Nat} {stk : List Fr} (h : Marks n stk) (hn : n ≤ n') : Marks n' stk := fun a ha => Nat.le_trans (h a ha) hn
theorem Marks.cons {n : Nat} {stk : List Fr} {f : Fr} (h : Marks n stk) (hf : ∀ a, f ≠ .all a) : Marks n (f :: stk) := fun a ha => by
  rcases List.mem_cons.mp ha with e | e
  · exact absurd e.symm (hf a)
  · exact h a e
theorem unwind_pre {n : Nat} {pre stk : List Fr} (h : ∀ a, Fr.all a ∈ pre → a.mark ≠ n) : unwind n (pre ++ stk) = unwind n stk := by
  induction pre with
  | nil => rfl
  | cons f r ih =>
    have ih := ih fun a ha => h a (List.mem_cons_of_mem _ ha)
    cases f with
    | all a =>
      show (if a.mark = n then _ else unwind n (r ++ stk)) = _
      rw [if_neg (h a List.mem_cons_self)]
      exact ih
    | _ => exact ih
/-- what is under a pushed frame is no fit's business -/
theorem Fits.under {c c0 : Cfg} {stk : List Fr} {f : Fr} {n0 : Nat} (hf : ∀ a, f ≠ .all a) {r : R Val} {k : Val → S → R Val} (hc : Rn most kn c0 c) (h : Fits most kn c (f :: stk) n0 r)
    (g : ∀ v s, r = .ok v s → n0 ≤ s.marks → Fits most kn ⟨.value v, f :: stk, s⟩ stk n0 (k v s)) : Fits most kn c0 stk n0 (r.bind k) := by
  cases r with
  | ok v s =>
    obtain ⟨h1, h2⟩ := h
    have q := g v s rfl h2
    show Fits most kn c0 stk n0 (k v s)
    cases hk : k v s with
    | ok v' s' => rw [hk] at q; exact ⟨hc.trans (h1.trans q.1), q.2⟩
    | st w s' =>
      rw [hk] at q
      cases w with
      | long => trivial
      | place p => obtain ⟨pre, q⟩ := q; exact ⟨pre, hc.trans (h1.trans q)⟩
      | gone g i => obtain ⟨⟨pre, q, q2⟩, q3⟩ := q; exact ⟨⟨pre, hc.trans (h1.trans q), q2⟩, q3⟩
    | die => trivial
  | st w s =>
    cases w with
    | long => trivial
    | place p =>
      obtain ⟨pre, h⟩ := h
      exact ⟨pre ++ [f], by rw [List.append_assoc]; exact hc.trans h⟩
    | gone g i =>
      obtain ⟨⟨pre, h, h2⟩, h3⟩ := h
      refine ⟨⟨pre ++ [f], by rw [List.append_assoc]; exact hc.trans h, fun a ha => ?_⟩, h3⟩
      rcases List.mem_append.mp ha with e | e
      · exact h2 a e
      · exact absurd (List.mem_singleton.mp e).symm (hf a)
  | die => trivial
theorem Fits.from {c c0 : Cfg} {stk : List Fr} {n0 n1 : Nat} {r : R Val} (hc : Rn most kn c0 c) (hn : n0 ≤ n1) (h : Fits most kn c stk n1 r) : Fits most kn c0 stk n0 r := by
  cases r with
  | ok v s => exact ⟨hc.trans h.1, Nat.le_trans hn h.2⟩
  | st w s =>
    cases w with
    | long => trivial
    | place p => obtain ⟨pre, q⟩ := h; exact ⟨pre, hc.trans q⟩
    | gone g i =>
      obtain ⟨⟨pre, q, q2⟩, q3⟩ := h
      exact ⟨⟨pre, hc.trans q, fun a ha => Nat.lt_of_le_of_lt hn (q2 a ha)⟩, Nat.le_trans hn q3⟩
  | die => trivial
theorem Fits.out {c0 : Cfg} {stk : List Fr} {n0 : Nat} {s : S} {o : Option Val} (hn : n0 ≤ s.marks) (h : cstep most kn c0 = valO stk s o) : Fits most kn c0 stk n0 (outV s o) := by
  cases o with
  | none => trivial
  | some v => exact ⟨.step h .refl, hn⟩

/-- a term, its machine -/
def SimAt (most : Nat) (kn : KnP) (rec : Ev) : Prop := ∀ (t : Tm) (env : Nv) (gk : GK) (s : S) (stk : List Fr), GkS gk s.marks stk → Marks s.marks stk → Fits most kn ⟨.eval t env, stk, s⟩ stk s.marks (rec t env gk s)
variable {rec : Ev} (hr : SimAt most kn rec)
include hr
theorem sim_appl {f v : Val} {gk : GK} {s : S} {stk : List Fr} {c : Cfg} {n0 : Nat} (hn : n0 ≤ s.marks) (hg : GkS gk s.marks stk) (hm : Marks s.marks stk) (h : cstep most kn c = goF f v stk s) : Fits most kn c stk n0 (appl rec f v gk s) := by
  cases f with
  | clo x b e =>
    unfold goF at h
    unfold appl
    dsimp only at h ⊢
    split
    · rename_i hl
      rw [if_pos hl] at h
      exact .from (.step h .refl) hn (hr _ _ _ _ _ hg hm)
    · trivial
  | _ => trivial
theorem sim_reps {f : Val} {gk : GK} {stk : List Fr} {n0 : Nat} : ∀ (n : Nat) (v : Val) (s : S) (c : Cfg), n0 ≤ s.marks → GkS gk s.marks stk → Marks s.marks stk → cstep most kn c = turn n f v stk s → Fits most kn c stk n0 (reps rec f gk n v s)
  | 0, v, s, c, hn, hg, hm, h => ⟨.step h .refl, hn⟩
  | n + 1, v, s, c, hn, hg, hm, h => by
    have q := sim_appl hr (c := c) (n0 := s.marks) (Nat.le_refl _) (hg.cons (.turns n f) (Nat.le_refl _)) (hm.cons (fun a e => by cases e)) h
    refine .from .refl hn (Fits.under (f := .turns n f) (fun a e => by cases e) .refl q fun v' s' e h2 => ?_)
    refine sim_reps n v' s' _ h2 (hg.le h2) (hm.le h2) ?_
    rfl
theorem sim_read {r i : Val} {gk : GK} {s : S} {stk : List Fr} {c : Cfg} {n0 : Nat} (hn : n0 ≤ s.marks) (hg : GkS gk s.marks stk) (hm : Marks s.marks stk) (h : cstep most kn c = readC kn r i stk s) : Fits most kn c stk n0 (readAt rec kn r i gk s) := by
  cases r with
  | made x b e =>
    cases i with
    | int i =>
      unfold readC at h
      unfold readAt
      dsimp only at h ⊢
      split
      · rename_i hl
        rw [if_pos hl] at h
        exact .from (.step h .refl) hn (hr _ _ _ _ _ hg hm)
      · trivial
    | _ => trivial
  | found k =>
    cases i with
    | int i => exact ⟨.step h .refl, hn⟩
    | _ => trivial
  | gone g =>
    cases i with
    | int i =>
      unfold readC at h
      unfold readAt
      dsimp only at h ⊢
      split
      · rename_i hl
        rw [if_pos hl] at h
        cases e : gk g with
        | none => trivial
        | some k =>
          rw [(hg g k e).2] at h
          dsimp only at h ⊢
          cases e2 : look k i with
          | some d => rw [e2] at h; exact ⟨.step h .refl, hn⟩
          | none => rw [e2] at h; exact ⟨⟨[], .step h .refl, fun a ha => by cases ha⟩, hn⟩
      · trivial
    | _ => trivial
  | given k =>
    cases i with
    | int i =>
      unfold readC at h
      unfold readAt
      dsimp only at h ⊢
      split
      · rename_i hl
        rw [if_pos hl] at h
        cases e2 : look kn (i, k) with
        | some d => rw [e2] at h; exact ⟨.step h .refl, hn⟩
        | none => rw [e2] at h; exact ⟨[], .step h .refl⟩
      · trivial
    | _ => trivial
  | _ => trivial
end
end KW
set_option Elab.async false
set_option linter.all false
set_option maxRecDepth 100000
/-! P4: the machine and the quantifiers; all terms. -/
namespace KW
open PySem L2
section
variable {most : Nat} {kn : KnP}
def finW (w : Str) (m : Nat) (num : Val) (es : List (Kn × Int)) : Option Val := if w = "share" then shareO m num es else fin w es
def FitsL (most : Nat) (kn : KnP) (c : Cfg) (stk : List Fr) (n0 : Nat) (w : Str) (m : Nat) (num : Val) : R (List (Kn × Int)) → Prop
  | .ok es s => (∃ c', Rn most kn c c' ∧ cstep most kn c' = valO stk s (finW w m num es)) ∧ n0 ≤ s.marks
  | .st (.place (i, k)) s => ∃ pre, Rn most kn c ⟨.stop (.given k) i, pre ++ stk, s⟩
  | .st (.gone g i) s => (∃ pre, Rn most kn c ⟨.stop (.gone g) i, pre ++ stk, s⟩ ∧ MarksOver n0 pre) ∧ n0 ≤ s.marks
  | .st .long s => True
  | .die => True
theorem FitsL.from {c c0 : Cfg} {stk : List Fr} {n0 : Nat} {w : Str} {m : Nat} {num : Val} {r : R (List (Kn × Int))} (hc : Rn most kn c0 c) (h : FitsL most kn c stk n0 w m num r) : FitsL most kn c0 stk n0 w m num r := by
  cases r with
  | ok v s => obtain ⟨⟨c', q, q2⟩, q3⟩ := h; exact ⟨⟨c', hc.trans q, q2⟩, q3⟩
  | st w s =>
    cases w with
    | long => trivial
    | place p => obtain ⟨pre, q⟩ := h; exact ⟨pre, hc.trans q⟩
    | gone g i =>
      obtain ⟨⟨pre, q, q2⟩, q3⟩ := h
      exact ⟨⟨pre, hc.trans q, q2⟩, q3⟩
  | die => trivial
theorem frameOf_none {n j : Nat} {stk : List Fr} (h : Marks n stk) (hj : n < j) : frameOf stk j = none := by
  unfold frameOf
  rw [List.findSome?_eq_none_iff]
  intro f hf
  have hf := List.mem_reverse.mp hf
  cases f with
  | all a =>
    show (if a.mark = j then some a.known else none) = none
    rw [if_neg]
    have := h a hf
    omega
  | _ => rfl
theorem frameOf_new {n : Nat} {stk : List Fr} {a : AF} (h : Marks n stk) (ha : a.mark = n + 1) : frameOf (.all a :: stk) (n + 1) = some a.known := by
  have q := frameOf_none h (Nat.lt_succ_self n)
  unfold frameOf at *
  rw [List.reverse_cons, List.findSome?_append, q]
  simp [List.findSome?_cons, Fr.isAll, ha]
variable {rec : Ev} (hr : SimAt most kn rec)
include hr
theorem sim_loop {gk : GK} {stk : List Fr} {num : Nat} (hg : GkS gk num stk) (hm : Marks num stk) : ∀ (f : Nat) (a : AF) (ps : List Kn) (s : S), 1 ≤ a.m → a.mark = num + 1 → a.left = ps → num < s.marks →
    FitsL most kn ⟨.eval a.b (a.env.put a.x (.gone num)), .all a :: stk, s⟩ stk num a.w a.m a.num (loop (fun k s' => rec a.b (a.env.put a.x (.gone num)) (gk.put num k) s') num a.m f (a.known :: ps) a.ends s)
  | 0, a, ps, s, h1, ha, hl, hs => trivial
  | f + 1, a, ps, s, h1, ha, hl, hs => by
    have G : GkS (gk.put num a.known) s.marks (.all a :: stk) := fun j k e => by
      unfold GK.put at e
      by_cases hj : j = num
      · subst hj
        rw [if_pos rfl] at e
        cases e
        exact ⟨hs, frameOf_new hm ha⟩
      · rw [if_neg hj] at e
        exact ⟨by have := (hg j k e).1; omega, frameOf_app (pre := [.all a]) (hg j k e).2⟩
    have Mk : Marks s.marks (.all a :: stk) := fun b hb => by
      rcases List.mem_cons.mp hb with e | e
      · cases e
        omega
      · have := hm b e
        omega
    have q := hr a.b (a.env.put a.x (.gone num)) (gk.put num a.known) s (.all a :: stk) G Mk
    unfold loop
    cases e : rec a.b (a.env.put a.x (.gone num)) (gk.put num a.known) s with
    | ok v s' =>
      rw [e] at q
      obtain ⟨q1, q2⟩ := q
      cases v with
      | int i =>
        dsimp only
        cases ps with
        | nil =>
          cases f with
          | zero => trivial
          | succ f =>
            refine ⟨⟨_, q1, ?_⟩, by omega⟩
            show give kn (.all a) (.int i) stk s' = _
            unfold give
            dsimp only
            rw [hl]
            rfl
        | cons k ps =>
          have st : cstep most kn ⟨.value (.int i), .all a :: stk, s'⟩ = some (through { a with ends := a.ends ++ [(a.known, i)] } k ps stk s') := by
            show give kn (.all a) (.int i) stk s' = _
            unfold give
            dsimp only
            rw [hl]
          have ih := sim_loop hg hm f { a with known := k, left := ps, ends := a.ends ++ [(a.known, i)] } ps s' h1 ha rfl (by omega)
          refine FitsL.from (q1.trans (.step st ?_)) ih
          unfold through
          dsimp only
          rw [ha]
          exact .refl
      | _ => trivial
    | st w s' =>
      rw [e] at q
      cases w with
      | long => trivial
      | place p => obtain ⟨pre, q⟩ := q; exact ⟨pre ++ [.all a], by rw [List.append_assoc]; exact q⟩
      | gone g i =>
        obtain ⟨⟨pre, q1, q2⟩, q3⟩ := q
        dsimp only
        split
        · rename_i hgn
          subst hgn
          cases el : look a.known i with
          | some d => trivial
          | none =>
            have uw : unwind (g + 1) (pre ++ .all a :: stk) = some (a, stk) := by
              rw [unwind_pre fun b hb => by have := q2 b hb; omega]
              show (if a.mark = g + 1 then some (a, stk) else _) = _
              rw [if_pos ha]
            cases eh : heirs a.m a.known i ++ ps with
            | nil =>
              exfalso
              have hz := congrArg List.length (List.append_eq_nil_iff.mp eh).1
              unfold heirs at hz
              rw [List.length_map, List.length_range] at hz
              have : a.m = 0 := hz
              omega
            | cons k ls =>
              have st : cstep most kn ⟨.stop (.gone g) i, pre ++ .all a :: stk, s'⟩ = some (through a k ls stk s') := by
                show stopC (.gone g) i (pre ++ .all a :: stk) s' = _
                unfold stopC
                dsimp only
                rw [uw]
                dsimp only
                rw [hl, eh]
                dsimp only
                rw [el]
              have ih := sim_loop hg hm f { a with known := k, left := ls } ls s' h1 ha rfl (by omega)
              refine FitsL.from (q1.trans (.step st ?_)) ih
              unfold through
              dsimp only
              rw [ha]
              exact .refl
        · rename_i hgn
          refine ⟨⟨pre ++ [.all a], by rw [List.append_assoc]; exact q1, fun b hb => ?_⟩, by omega⟩
          rcases List.mem_append.mp hb with z | z
          · have := q2 b z
            omega
          · cases List.mem_singleton.mp z
            omega
    | die => trivial
theorem sim_inner {w x : Str} {m : Nat} {b : Tm} {env : Nv} {num : Val} {gk : GK} {s : S} {stk : List Fr} {c : Cfg} (hg : GkS gk s.marks stk) (hm : Marks s.marks stk) (h : cstep most kn c = beginC w x m b env num stk s) :
    FitsL most kn c stk s.marks w m num (inner rec x m b env gk s) := by
  unfold inner
  unfold beginC at h
  split
  · rename_i hl
    rw [if_pos hl] at h
    exact .from (.step h .refl) (sim_loop hr hg hm FUEL ⟨w, x, m, b, env, num, s.marks + 1, [], [], []⟩ [] ⟨s.steps, s.marks + 1⟩ (by show 1 ≤ m; omega) rfl rfl (Nat.lt_succ_self _))
  · trivial
omit hr in
theorem FitsL.bind {w : Str} {m : Nat} {num : Val} {r : R (List (Kn × Int))} {c : Cfg} {stk : List Fr} {n0 : Nat} (h : FitsL most kn c stk n0 w m num r) : Fits most kn c stk n0 (r.bind fun es s => outV s (finW w m num es)) := by
  cases r with
  | ok es s =>
    obtain ⟨⟨c', q, q2⟩, q3⟩ := h
    exact .from q (Nat.le_refl _) (Fits.out (s := s) q3 q2)
  | st w s =>
    cases w with
    | long => trivial
    | place p => exact h
    | gone g i => exact h
  | die => trivial
/-- one frame is pushed, the part is worked out, then k -/
theorem sim_push {t : Tm} {env : Nv} {gk : GK} {s : S} {stk : List Fr} {c : Cfg} {n0 : Nat} {f : Fr} {k : Val → S → R Val} (hf : ∀ a, f ≠ .all a) (hn : n0 ≤ s.marks) (hg : GkS gk s.marks stk) (hm : Marks s.marks stk)
    (h : cstep most kn c = some ⟨.eval t env, f :: stk, s⟩) (g : ∀ v s', n0 ≤ s'.marks → GkS gk s'.marks stk → Marks s'.marks stk → Fits most kn ⟨.value v, f :: stk, s'⟩ stk n0 (k v s')) : Fits most kn c stk n0 ((rec t env gk s).bind k) :=
  Fits.under hf (.step h .refl) (.from .refl hn (hr t env gk s (f :: stk) (hg.cons f (Nat.le_refl _)) (hm.cons hf))) fun v s' e h2 => by
    cases e2 : rec t env gk s with
    | ok v2 s2 =>
      rw [e2] at e
      cases e
      have q := hr t env gk s (f :: stk) (hg.cons f (Nat.le_refl _)) (hm.cons hf)
      rw [e2] at q
      exact g v s' h2 (hg.le q.2) (hm.le q.2)
    | st w s2 => rw [e2] at e; cases e
    | die => rw [e2] at e; cases e
theorem sim_body {t : Tm} {env : Nv} {gk : GK} {s : S} {stk : List Fr} {c : Cfg} (hg : GkS gk s.marks stk) (hm : Marks s.marks stk) (h : cstep most kn c = evalC t env stk s) : Fits most kn c stk s.marks (body kn rec t env gk s) := by
  have nn := Nat.le_refl s.marks
  cases t with
  | var x => exact Fits.out nn h
  | lit n => exact ⟨.step h .refl, nn⟩
  | fn x b => exact ⟨.step h .refl, nn⟩
  | row x b => exact ⟨.step h .refl, nn⟩
  | prim op a b => exact sim_push hr (by intro _ e; cases e) nn hg hm h fun va s1 h1 g1 m1 => sim_push hr (f := .prim2 op va) (by intro _ e; cases e) h1 g1 m1 rfl fun vb s2 h2 g2 m2 => Fits.out h2 rfl
  | as m a => exact sim_push hr (by intro _ e; cases e) nn hg hm h fun va s1 h1 g1 m1 => Fits.out h1 rfl
  | count a => exact sim_push hr (by intro _ e; cases e) nn hg hm h fun va s1 h1 g1 m1 => Fits.out h1 rfl
  | fst a => exact sim_push hr (by intro _ e; cases e) nn hg hm h fun va s1 h1 g1 m1 => Fits.out h1 rfl
  | snd a => exact sim_push hr (by intro _ e; cases e) nn hg hm h fun va s1 h1 g1 m1 => Fits.out h1 rfl
  | ite c a b =>
    refine sim_push hr (by intro _ e; cases e) nn hg hm h fun va s1 h1 g1 m1 => ?_
    cases va with
    | int i =>
      dsimp only
      by_cases hi : i = 1
      · rw [if_pos hi]
        refine .from (.step ?_ .refl) h1 (hr a env gk s1 stk g1 m1)
        show some (Cfg.mk (.eval (if i = 1 then a else b) env) stk s1) = _
        rw [if_pos hi]
      · rw [if_neg hi]
        refine .from (.step ?_ .refl) h1 (hr b env gk s1 stk g1 m1)
        show some (Cfg.mk (.eval (if i = 1 then a else b) env) stk s1) = _
        rw [if_neg hi]
    | _ => trivial
  | call f a => exact sim_push hr (by intro _ e; cases e) nn hg hm h fun vf s1 h1 g1 m1 => sim_push hr (f := .call2 vf) (by intro _ e; cases e) h1 g1 m1 rfl fun va s2 h2 g2 m2 => sim_appl hr h2 g2 m2 rfl
  | pair a b => exact sim_push hr (by intro _ e; cases e) nn hg hm h fun va s1 h1 g1 m1 => sim_push hr (f := .pair2 va) (by intro _ e; cases e) h1 g1 m1 rfl fun vb s2 h2 g2 m2 => ⟨.step rfl .refl, h2⟩
  | rep n f a =>
    refine sim_push hr (by intro _ e; cases e) nn hg hm h fun vn s1 h1 g1 m1 => sim_push hr (f := .rep2 vn a env) (by intro _ e; cases e) h1 g1 m1 rfl fun vf s2 h2 g2 m2 => ?_
    cases vn with
    | int i =>
      dsimp only
      by_cases hi : 0 ≤ i
      · rw [if_pos hi]
        exact sim_push hr (f := .turns (if i ≤ 60 then i else 60).toNat vf) (by intro _ e; cases e) h2 g2 m2 (if_pos hi) fun va s3 h3 g3 m3 => sim_reps hr _ _ _ _ h3 g3 m3 rfl
      · rw [if_neg hi]
        trivial
    | _ => trivial
  | idx r i => exact sim_push hr (by intro _ e; cases e) nn hg hm h fun vf s1 h1 g1 m1 => sim_push hr (f := .idx2 vf) (by intro _ e; cases e) h1 g1 m1 rfl fun va s2 h2 g2 m2 => sim_read hr h2 g2 m2 rfl
  | qu w x m b =>
    unfold evalC at h
    unfold body
    dsimp only at h ⊢
    by_cases hw : w = "share"
    · rw [if_pos hw]
      trivial
    · rw [if_neg hw] at h ⊢
      have q := (sim_inner hr hg hm h).bind
      have e : finW w m (.int 0) = fin w := by
        funext es
        unfold finW
        rw [if_neg hw]
      rw [e] at q
      exact q
  | share x m b n =>
    refine sim_push hr (by intro _ e; cases e) nn hg hm h fun vn s1 h1 g1 m1 => ?_
    have q := (sim_inner (w := "share") (x := x) (m := m) (b := b) (env := env) (num := vn) (c := ⟨.value vn, .share x m b n env :: stk, s1⟩) hr g1 m1 rfl).bind
    have e : finW "share" m vn = shareO m vn := by
      funext es
      unfold finW
      rw [if_pos rfl]
    rw [e] at q
    exact .from .refl h1 q
end
theorem sim {most : Nat} {kn : KnP} : ∀ d : Nat, SimAt most kn (ev most kn d)
  | 0 => fun t env gk s stk hg hm => trivial
  | d + 1 => fun t env gk s stk hg hm => by
    unfold ev
    by_cases h1 : most < s.steps + 1
    · rw [if_pos h1]
      trivial
    · rw [if_neg h1]
      exact sim_body (s := ⟨s.steps + 1, s.marks⟩) (sim d) hg hm (if_neg h1)
end KW
set_option Elab.async false
set_option linter.all false
set_option maxRecDepth 100000
set_option maxHeartbeats 4000000
/-! K0: the heap kept in two parts: I, what is never changed, and M, a list of what may be. -/
namespace KW
open PySem PySem.Spec PyProof.Rows L2

def top (i : Nat) : Stmt := PySem.Challenge.pw_allendless_k08_whole_ways.main.body.getD i (.Pass ⟨0, 0, 0, 0⟩)

/-! ### a def that may be called by its name -/
structure DefAt (K : PySem.W.Frag) (mg : Str → Option Value) (x : Str) (i : Nat) : Prop where
  ex : ∃ (f : Addr) (fd : FuncData), FunD K x x (defArgs (top i)) (defBody (top i)) (defScope (top i)) [] [] f fd ∧ mg x = some (.ref f)
structure Cl (P : Program) (w : World) (K : PySem.W.Frag) (mg : Str → Option Value) (base : Heap) (k : Nat) (x : Str) (sp : Sp) : Prop where
  ex : ∃ (f : Addr) (fd : FuncData) (ps : List Str), FnOk P w K mg base CX0 k f fd ps sp ∧ mg x = some (.ref f) ∧ PySem.W.keepIn K (.ref f) = true ∧ Binds K fd ps []
section
variable {P : Program} {w : World} {K : PySem.W.Frag} {mg : Str → Option Value} {base : Heap}
theorem Cl.mono {j k : Nat} {x : Str} {sp : Sp} (c : Cl P w K mg base j x sp) (h : j ≤ k) : Cl P w K mg base k x sp := by
  obtain ⟨f, fd, ps, F, m, kp, b⟩ := c.ex
  exact ⟨f, fd, ps, F.mono h, m, kp, b⟩
theorem Cl.imp {k : Nat} {x : Str} {sp sp' : Sp} (c : Cl P w K mg base k x sp) (h : ∀ vs H Q E, sp' vs H Q E → sp vs H Q E) : Cl P w K mg base k x sp' := by
  obtain ⟨f, fd, ps, F, m, kp, b⟩ := c.ex
  exact ⟨f, fd, ps, F.imp h, m, kp, b⟩
/-- a def by its body -/
theorem cl_mk {x : Str} {i : Nat} {N ps : List Str} {k : Nat} {sp : Sp} (D : DefAt K mg x i) (S : FnScope N ps (defScope (top i)))
    (hb : ∀ (kV doc pm : Value) (an : Option Addr) (cdv ct : Value) (us : List Value), us.length = ps.length → bindArgs (PySem.W.fnOf x x (defArgs (top i)) (defBody (top i)) (defScope (top i)) .none kV doc pm an cdv ct) ⟨us, []⟩ = pure (ps.zip us))
    (len : ∀ vs H Q E, sp vs H Q E → vs.length = ps.length)
    (hbody : ∀ (f : Addr) (cdv : Value) (A : Around) (outer : List Env) (s : Shared) (H : Hp) (vs : List V) (Q : VK) (E : XK), Room k (A.deeper (envOfC x (defScope (top i)) s.heap.objs.size f cdv)) → sp vs H Q E →
      ∃ t, PSs (cxOf CX0 P w K mg base N x (defScope (top i)) f cdv A outer s H E).nox (defBody (top i)) t ∧ t { nx := fun _ H' => Q .non H', rt := Q } (start N vs) H) : Cl P w K mg base (k + 1) x sp := by
  obtain ⟨f, fd, F, m⟩ := D.ex
  refine ⟨f, fd, ps, F.ok S len fun cdv A outer s H vs Q E hr h => ?_, m, F.kp, ?_⟩
  · obtain ⟨t, h1, h2⟩ := hbody f cdv A outer s H vs Q E hr h
    exact ⟨t, h1.nox, h2⟩
  · exact F.bindsN hb
/-- f(e, ..) of such a def -/
def tCl (sp : Sp) (t : TA) : TE := fun σ H Q => t σ H fun vs H1 => sp vs H1 Q E0
end
section
variable {X : Cx} {k j : Nat} {x : Str} {sp : Sp} {p pos : Pos} {e : Expr} {es : List Expr} {t : TA}
theorem pe_cl (c : Cl X.prog X.w X.K X.mg X.base k x sp) (hr : Room j X.A) (hk : k ≤ j) (hg : Gl X x) (ha : PA X (e :: es) t)
    (hdb : (x == ("__debug__" : Str)) = false := by decide) (he : starEach (e :: es) X.env = (false, eval e X.env) :: starEach es X.env := by rfl) (hpl : (backTo pos (starEach es X.env)).any (·.1) = false := by rfl) :
    PE X (.Call (.Name x p) (e :: es) [] pos) (tCl sp t) := by
  obtain ⟨f, fd, ps, F, hm, kp, b⟩ := c.ex
  have q := pe_call (p := p) (pos := pos) F (hr.mono hk) hg hm kp b .nil pass0 ha hdb he hpl
  have e : tCall sp [] E0 t = tCl sp t := by
    funext σ H Q
    unfold tCall tCl
    congr 1
    funext vs H1
    rw [List.append_nil]
  rw [← e]
  exact q
end

/-! ### the heap in two parts -/
structure HS (I : Hp) (M : List (Addr × HO)) (H : Hp) : Prop where
  sub : Same I H
  mem : ∀ p ∈ M, H p.1 = some p.2
  out : ∀ p ∈ M, I p.1 = none
  nd : (M.map (·.1)).Nodup
/-- from I, H to I', H': all that stood and is none of A stands; what is new in I' was free -/
structure Stp (A : List Addr) (I H I' H' : Hp) : Prop where
  same : Same I I'
  fr : ∀ b o, H b = some o → b ∉ A → H' b = some o
  new : ∀ b o, I' b = some o → I b = some o ∨ H b = none
section
variable {A A' : List Addr} {I I' I2 H H' H2 I0 H0 : Hp} {M M1 M2 M1' : List (Addr × HO)} {a p : Addr} {o o' : HO}
theorem HS.get (h : HS I M H) {i : Nat} (e : M[i]? = some (a, o)) : H a = some o := h.mem _ (List.mem_of_getElem? e)
theorem HS.no (h : HS I M H) {i : Nat} (e : M[i]? = some (a, o)) : I a = none := h.out _ (List.mem_of_getElem? e)
theorem Stp.refl (h : Same I H) : Stp A I H I H := ⟨fun _ _ e => e, fun _ _ e _ => e, fun _ _ e => .inl e⟩
theorem Stp.trans (x : Stp A I H I' H') (y : Stp A' I' H' I2 H2) (h : ∀ a ∈ A', a ∈ A ∨ H a = none) (h2 : ∀ a ∈ A, H a ≠ none → H' a ≠ none) : Stp A I H I2 H2 := by
  refine ⟨x.same.trans y.same, fun b o e hb => y.fr b o (x.fr b o e hb) fun z => ?_, fun b o e => ?_⟩
  · rcases h b z with w | w
    · exact hb w
    · rw [e] at w; cases w
  · rcases y.new b o e with z | z
    · exact x.new b o z
    · cases q : H b with
      | none => exact .inr rfl
      | some u =>
        exfalso
        by_cases hb : b ∈ A
        · exact h2 b hb (by rw [q]; intro w; cases w) z
        · rw [x.fr b u q hb] at z; cases z
theorem same_up (h : H p = none) : Same H (upd H p o) := fun b u e => by rw [upd_ne (ne_of_none e h)]; exact e
/-- the state of a def's walk: from I0, H0, the addresses A may be changed; now I, M, H -/
structure W (A : List Addr) (I0 H0 I : Hp) (M : List (Addr × HO)) (H : Hp) : Prop where
  hs : HS I M H
  st : Stp A I0 H0 I H
  ad : ∀ p ∈ M, p.1 ∈ A ∨ H0 p.1 = none
  aa : ∀ a ∈ A, H a ≠ none
theorem upd_some {H : Hp} {a p : Addr} {o : HO} (h : H a ≠ none) : upd H p o a ≠ none := by
  by_cases e : a = p
  · subst e; rw [upd_same]; intro c; cases c
  · rw [upd_ne e]; exact h
theorem W.start (h : HS I M H) : W (M.map (·.1)) I H I M H := ⟨h, .refl h.sub, fun p hp => .inl (List.mem_map_of_mem hp), fun a ha => by
  obtain ⟨p, hp, e⟩ := List.mem_map.mp ha
  rw [← e, h.mem p hp]
  intro c
  cases c⟩
theorem W.get (w : W A I0 H0 I M H) {i : Nat} (e : M[i]? = some (a, o)) : H a = some o := w.hs.get e
theorem W.i (w : W A I0 H0 I M H) (e : I a = some o) : H a = some o := w.hs.sub _ _ e
theorem W.free (w : W A I0 H0 I M H) (h : H p = none) (hA : p ∉ A) : H0 p = none := by
  cases q : H0 p with
  | none => rfl
  | some u => rw [w.st.fr p u q hA] at h; cases h
theorem W.notA (w : W A I0 H0 I M H) (h : H p = none) : p ∉ A := fun hp => w.aa p hp h
theorem HS.noI (h : HS I M H) (hp : H p = none) : I p = none := by
  cases q : I p with
  | none => rfl
  | some u => rw [h.sub _ _ q] at hp; cases hp
theorem HS.neM (h : HS I M H) (hp : H p = none) : ∀ q ∈ M, q.1 ≠ p := fun q hq e => by rw [← e, h.mem q hq] at hp; cases hp
/-- a new object that is never changed -/
theorem W.newI (w : W A I0 H0 I M H) (hp : H p = none) (o : HO) : W A I0 H0 (upd I p o) M (upd H p o) := by
  have hI := w.hs.noI hp
  refine ⟨⟨fun b u e => ?_, fun q hq => ?_, fun q hq => ?_, w.hs.nd⟩, ⟨w.st.same.trans (same_up hI), fun b u e hb => ?_, fun b u e => ?_⟩, w.ad, fun a ha => upd_some (w.aa a ha)⟩
  · by_cases hb : b = p
    · subst hb
      rw [upd_same] at e ⊢
      exact e
    · rw [upd_ne hb] at e ⊢
      exact w.hs.sub _ _ e
  · rw [upd_ne (w.hs.neM hp q hq)]
    exact w.hs.mem q hq
  · rw [upd_ne (w.hs.neM hp q hq)]
    exact w.hs.out q hq
  · rw [upd_ne (ne_of_none (w.st.fr b u e hb) hp)]
    exact w.st.fr b u e hb
  · by_cases hb : b = p
    · subst hb
      exact .inr (w.free hp (w.notA hp))
    · rw [upd_ne hb] at e
      exact w.st.new b u e
theorem W.upI (w : W A I0 H0 I M H) (hp : H p = none) (o : HO) : Same I (upd I p o) := same_up (w.hs.noI hp)
/-- a new object that may be changed -/
theorem W.newM (w : W A I0 H0 I M H) (hp : H p = none) (o : HO) : W A I0 H0 I (M ++ [(p, o)]) (upd H p o) := by
  have hI := w.hs.noI hp
  refine ⟨⟨fun b u e => ?_, fun q hq => ?_, fun q hq => ?_, ?_⟩, ⟨w.st.same, fun b u e hb => ?_, w.st.new⟩, fun q hq => ?_, fun a ha => ?_⟩
  · rw [upd_ne (ne_of_none (w.hs.sub _ _ e) hp)]
    exact w.hs.sub _ _ e
  · rcases List.mem_append.mp hq with z | z
    · rw [upd_ne (w.hs.neM hp q z)]
      exact w.hs.mem q z
    · cases List.mem_singleton.mp z
      exact upd_same
  · rcases List.mem_append.mp hq with z | z
    · exact w.hs.out q z
    · cases List.mem_singleton.mp z
      exact hI
  · rw [List.map_append, List.nodup_append]
    refine ⟨w.hs.nd, by simp, fun b hb c hc e => ?_⟩
    obtain ⟨q, hq, e2⟩ := List.mem_map.mp hb
    have hc : c = p := by simpa using hc
    exact w.hs.neM hp q hq (by rw [e2, e, hc])
  · rw [upd_ne (ne_of_none (w.st.fr b u e hb) hp)]
    exact w.st.fr b u e hb
  · rcases List.mem_append.mp hq with z | z
    · exact w.ad q z
    · cases List.mem_singleton.mp z
      exact .inr (w.free hp (w.notA hp))
  · exact upd_some (w.aa a ha)
theorem map_set_fst : ∀ {M : List (Addr × HO)} {i : Nat}, M[i]? = some (a, o) → ∀ o', (M.set i (a, o')).map (·.1) = M.map (·.1)
  | [], _, e, _ => by simp at e
  | q :: r, 0, e, o' => by
    have e : q = (a, o) := by simpa using e
    subst e
    rfl
  | q :: r, i + 1, e, o' => by
    show q.1 :: ((r.set i (a, o')).map (·.1)) = q.1 :: r.map (·.1)
    rw [map_set_fst (M := r) (i := i) (by simpa using e) o']
theorem mem_set_cases : ∀ {M : List (Addr × HO)} {i : Nat} {x q : Addr × HO}, q ∈ M.set i x → q = x ∨ q ∈ M
  | [], _, _, _, h => by simp at h
  | m :: r, 0, x, q, h => by
    have h : q ∈ x :: r := h
    rcases List.mem_cons.mp h with e | e
    · exact .inl e
    · exact .inr (List.mem_cons_of_mem _ e)
  | m :: r, i + 1, x, q, h => by
    have h : q ∈ m :: r.set i x := h
    rcases List.mem_cons.mp h with e | e
    · exact .inr (by rw [e]; exact List.mem_cons_self)
    · rcases mem_set_cases e with z | z
      · exact .inl z
      · exact .inr (List.mem_cons_of_mem _ z)
theorem mem_fst_uniq : ∀ {M : List (Addr × HO)}, (M.map (·.1)).Nodup → ∀ {x : Addr} {u v : HO}, (x, u) ∈ M → (x, v) ∈ M → u = v
  | [], _, _, _, _, h, _ => by cases h
  | m :: r, nd, x, u, v, h, g => by
    have nd := List.nodup_cons.mp nd
    rcases List.mem_cons.mp h with e | e
    · rcases List.mem_cons.mp g with z | z
      · rw [← e] at z
        exact (Prod.mk.inj z).2.symm
      · exact absurd (List.mem_map.mpr ⟨_, z, rfl⟩) (by rw [← e] at nd; exact nd.1)
    · rcases List.mem_cons.mp g with z | z
      · exact absurd (List.mem_map.mpr ⟨_, e, rfl⟩) (by rw [← z] at nd; exact nd.1)
      · exact mem_fst_uniq nd.2 e z
/-- what may be changed is changed -/
theorem W.set (w : W A I0 H0 I M H) {i : Nat} (e : M[i]? = some (a, o)) (o' : HO) : W A I0 H0 I (M.set i (a, o')) (upd H a o') := by
  have hI := w.hs.no e
  have hm := List.mem_of_getElem? e
  have nd := w.hs.nd
  have nd' : ((M.set i (a, o')).map (·.1)).Nodup := by rw [map_set_fst e]; exact nd
  have here : (a, o') ∈ M.set i (a, o') := List.mem_of_getElem? (i := i) (by rw [List.getElem?_set_self (List.getElem?_eq_some_iff.mp e).1])
  have key : ∀ q ∈ M.set i (a, o'), q = (a, o') ∨ (q ∈ M ∧ q.1 ≠ a) := fun q hq => by
    by_cases hq1 : q.1 = a
    · left
      obtain ⟨q1, q2⟩ := q
      have hq1 : q1 = a := hq1
      subst hq1
      rw [mem_fst_uniq nd' hq here]
    · rcases mem_set_cases hq with z | z
      · exact .inl z
      · exact .inr ⟨z, hq1⟩
  have hA : ∀ b, b ∉ A → H0 b ≠ none → b ≠ a := fun b hb h0 z => by
    subst z
    rcases w.ad _ hm with q | q
    · exact hb q
    · exact h0 q
  refine ⟨⟨fun b u z => ?_, fun q hq => ?_, fun q hq => ?_, nd'⟩, ⟨w.st.same, fun b u z hb => ?_, w.st.new⟩, fun q hq => ?_, fun b hb => ?_⟩
  · rw [upd_ne (fun z2 => by rw [z2, hI] at z; cases z)]
    exact w.hs.sub _ _ z
  · rcases key q hq with z | ⟨z, n⟩
    · subst z; exact upd_same
    · rw [upd_ne n]; exact w.hs.mem q z
  · rcases key q hq with z | ⟨z, n⟩
    · subst z; exact hI
    · exact w.hs.out q z
  · rw [upd_ne (hA b hb (by rw [z]; intro y; cases y))]
    exact w.st.fr b u z hb
  · rcases key q hq with z | ⟨z, n⟩
    · subst z; exact w.ad (a, o) hm
    · exact w.ad q z
  · exact upd_some (w.aa b hb)
/-- a callee that may change the first ones -/
theorem W.call (w : W A I0 H0 I (M1 ++ M2) H) (s : Stp (M1.map (·.1)) I H I' H') (h : HS I' M1' H') (e : M1'.map (·.1) = M1.map (·.1)) : W A I0 H0 I' (M1' ++ M2) H' := by
  have nd := w.hs.nd
  rw [List.map_append] at nd
  have nd2 := List.nodup_append.mp nd
  have n2 : ∀ q ∈ M2, q.1 ∉ M1.map (·.1) := fun q hq z => nd2.2.2 _ z _ (List.mem_map_of_mem hq) rfl
  have m1 : ∀ q ∈ M1', ∃ u, (q.1, u) ∈ M1 := fun q hq => by
    have z : q.1 ∈ M1.map (·.1) := by rw [← e]; exact List.mem_map_of_mem hq
    obtain ⟨r, hr, e2⟩ := List.mem_map.mp z
    exact ⟨r.2, by rw [← e2]; exact hr⟩
  have hn : ∀ b, b ∉ A → H0 b ≠ none → b ∉ M1.map (·.1) := fun b hb h0 z => by
    obtain ⟨r, hr, e2⟩ := List.mem_map.mp z
    rcases w.ad r (List.mem_append_left _ hr) with q | q
    · exact hb (by rw [← e2]; exact q)
    · exact h0 (by rw [← e2]; exact q)
  refine ⟨⟨h.sub, fun q hq => ?_, fun q hq => ?_, ?_⟩, ⟨w.st.same.trans s.same, fun b u z hb => ?_, fun b u z => ?_⟩, fun q hq => ?_, fun b hb => ?_⟩
  · rcases List.mem_append.mp hq with z | z
    · exact h.mem q z
    · exact s.fr _ _ (w.hs.mem q (List.mem_append_right _ z)) (n2 q z)
  · rcases List.mem_append.mp hq with z | z
    · exact h.out q z
    · cases y : I' q.1 with
      | none => rfl
      | some u =>
        rcases s.new _ _ y with v | v
        · rw [w.hs.out q (List.mem_append_right _ z)] at v; cases v
        · rw [w.hs.mem q (List.mem_append_right _ z)] at v; cases v
  · rw [List.map_append, e]
    exact nd
  · exact s.fr _ _ (w.st.fr b u z hb) (hn b hb (by rw [z]; intro y; cases y))
  · rcases s.new _ _ z with v | v
    · exact w.st.new _ _ v
    · exact .inr (w.free v fun hb => w.aa b hb v)
  · rcases List.mem_append.mp hq with z | z
    · obtain ⟨u, hu⟩ := m1 q z
      exact w.ad (q.1, u) (List.mem_append_left _ hu)
    · exact w.ad q (List.mem_append_right _ z)
  · by_cases hm : b ∈ M1.map (·.1)
    · rw [← e] at hm
      obtain ⟨q, hq, e2⟩ := List.mem_map.mp hm
      rw [← e2, h.mem q hq]
      intro c
      cases c
    · cases y : H b with
      | none => exact absurd y (w.aa b hb)
      | some u =>
        rw [s.fr b u y hm]
        intro c
        cases c
/-- scratch is left behind -/
theorem W.drop (w : W A I0 H0 I (M1 ++ M2) H) (h : ∀ a ∈ A, a ∈ M1.map (·.1)) : W A I0 H0 I M1 H := by
  refine ⟨⟨w.hs.sub, fun q hq => w.hs.mem q (List.mem_append_left _ hq), fun q hq => w.hs.out q (List.mem_append_left _ hq), ?_⟩, w.st, fun q hq => w.ad q (List.mem_append_left _ hq), w.aa⟩
  · have nd := w.hs.nd
    rw [List.map_append] at nd
    exact (List.nodup_append.mp nd).1
/-- the last of what may be changed is changed no more -/
theorem W.freeze (w : W A I0 H0 I (M ++ [(p, o)]) H) (h : p ∉ A) : W A I0 H0 (upd I p o) M H := by
  have hp : H p = some o := w.hs.mem (p, o) (List.mem_append_right _ List.mem_cons_self)
  have hI : I p = none := w.hs.out (p, o) (List.mem_append_right _ List.mem_cons_self)
  have h0 : H0 p = none := (w.ad (p, o) (List.mem_append_right _ List.mem_cons_self)).resolve_left h
  have nd := w.hs.nd
  rw [List.map_append] at nd
  have nd2 := List.nodup_append.mp nd
  have n2 : ∀ q ∈ M, q.1 ≠ p := fun q hq => nd2.2.2 _ (List.mem_map_of_mem hq) p (by simp)
  refine ⟨⟨fun b u z => ?_, fun q hq => w.hs.mem q (List.mem_append_left _ hq), fun q hq => ?_, nd2.1⟩, ⟨w.st.same.trans (same_up hI), w.st.fr, fun b u z => ?_⟩, fun q hq => w.ad q (List.mem_append_left _ hq), w.aa⟩
  · by_cases hb : b = p
    · subst hb
      rw [upd_same] at z
      cases z
      exact hp
    · rw [upd_ne hb] at z
      exact w.hs.sub _ _ z
  · rw [upd_ne (n2 q hq)]
    exact w.hs.out q (List.mem_append_left _ hq)
  · by_cases hb : b = p
    · subst hb
      exact .inr h0
    · rw [upd_ne hb] at z
      exact w.st.new b u z
/-- a callee that is given all that may be changed -/
theorem W.callG {M' : List (Addr × HO)} (w : W A I0 H0 I M H) (c : W (M.map (·.1)) I H I' M' H') : W A I0 H0 I' M' H' := by
  have hn : ∀ b, b ∉ A → H0 b ≠ none → b ∉ M.map (·.1) := fun b hb h0 z => by
    obtain ⟨r, hr, e2⟩ := List.mem_map.mp z
    rcases w.ad r hr with q | q
    · exact hb (by rw [← e2]; exact q)
    · exact h0 (by rw [← e2]; exact q)
  refine ⟨c.hs, ⟨w.st.same.trans c.st.same, fun b u z hb => ?_, fun b u z => ?_⟩, fun q hq => ?_, fun b hb => ?_⟩
  · exact c.st.fr _ _ (w.st.fr b u z hb) (hn b hb (by rw [z]; intro y; cases y))
  · rcases c.st.new _ _ z with v | v
    · exact w.st.new _ _ v
    · exact .inr (w.free v fun hb => w.aa b hb v)
  · rcases c.ad q hq with z | z
    · obtain ⟨r, hr, e2⟩ := List.mem_map.mp z
      have := w.ad r hr
      rw [e2] at this
      exact this
    · exact .inr (w.free z fun hb => w.aa _ hb z)
  · by_cases hm : b ∈ M.map (·.1)
    · exact c.aa b hm
    · cases y : H b with
      | none => exact absurd y (w.aa b hb)
      | some u =>
        rw [c.st.fr b u y hm]
        intro c
        cases c
/-- what may be changed, in another order, or some of it -/
theorem W.pick {M' : List (Addr × HO)} (w : W A I0 H0 I M H) (h : ∀ p ∈ M', p ∈ M) (nd : (M'.map (·.1)).Nodup) : W A I0 H0 I M' H :=
  ⟨⟨w.hs.sub, fun q hq => w.hs.mem q (h q hq), fun q hq => w.hs.out q (h q hq), nd⟩, w.st, fun q hq => w.ad q (h q hq), w.aa⟩
theorem W.perm {M' : List (Addr × HO)} (w : W A I0 H0 I M H) (h : M.Perm M') : W A I0 H0 I M' H :=
  w.pick (fun p hp => h.mem_iff.mpr hp) ((h.map (·.1)).nodup_iff.mp w.hs.nd)
theorem W.notA2 (w : W A I0 H0 I M H) (h0 : H0 p = none) (hA : ∀ a ∈ A, H0 a ≠ none) : p ∉ A := fun z => hA p z h0
end
end KW
set_option Elab.async false
set_option linter.all false
set_option maxRecDepth 100000
set_option maxHeartbeats 4000000
/-! K1: how terms, values, known entries stand in the heap. -/
namespace KW
open PySem PySem.Spec PyProof.Rows L2

def knK (k : Kn) : List (Key × V) := k.map fun p => (.inl p.1, .int p.2)
def plK (p : Pl) : List Key := [.inl p.1, .inl (p.2 : Int)]
def knPK (k : KnP) : List (List Key × V) := k.map fun p => (plK p.1, .int p.2)
abbrev SS (x : Str) : V := .str x

/-- a term stands at v -/
def TmAt (I : Hp) : Tm → V → Prop
  | .var x, v => ∃ p, v = .ref p ∧ I p = some (.tup [SS "var", .str x])
  | .lit n, v => ∃ p, v = .ref p ∧ (I p = some (.tup [SS "number", .int n]) ∨ ∃ m, I p = some (.tup [SS "digit", m, .int n]))
  | .prim op a b, v => ∃ p q va vb, v = .ref p ∧ I p = some (.tup [SS "prim", .str op, .ref q]) ∧ I q = some (.tup [va, vb]) ∧ TmAt I a va ∧ TmAt I b vb
  | .as m a, v => ∃ p va, v = .ref p ∧ I p = some (.tup [SS "as", .int m, va]) ∧ TmAt I a va
  | .count a, v => ∃ p va, v = .ref p ∧ I p = some (.tup [SS "count", va]) ∧ TmAt I a va
  | .fst a, v => ∃ p va, v = .ref p ∧ I p = some (.tup [SS "first", va]) ∧ TmAt I a va
  | .snd a, v => ∃ p va, v = .ref p ∧ I p = some (.tup [SS "second", va]) ∧ TmAt I a va
  | .ite c a b, v => ∃ p vc va vb, v = .ref p ∧ I p = some (.tup [SS "if", vc, va, vb]) ∧ TmAt I c vc ∧ TmAt I a va ∧ TmAt I b vb
  | .fn x b, v => ∃ p k vb, v = .ref p ∧ I p = some (.tup [SS "fn", .str x, k, vb]) ∧ TmAt I b vb
  | .call f a, v => ∃ p vf va, v = .ref p ∧ I p = some (.tup [SS "call", vf, va]) ∧ TmAt I f vf ∧ TmAt I a va
  | .pair a b, v => ∃ p va vb, v = .ref p ∧ I p = some (.tup [SS "pair", va, vb]) ∧ TmAt I a va ∧ TmAt I b vb
  | .rep n f a, v => ∃ p vn vf va, v = .ref p ∧ I p = some (.tup [SS "repeat", vn, vf, va]) ∧ TmAt I n vn ∧ TmAt I f vf ∧ TmAt I a va
  | .idx r i, v => ∃ p vr vi, v = .ref p ∧ I p = some (.tup [SS "at", vr, vi]) ∧ TmAt I r vr ∧ TmAt I i vi
  | .row x b, v => ∃ p k vb, v = .ref p ∧ I p = some (.tup [SS "row", .str x, k, vb]) ∧ TmAt I b vb
  | .qu w x m b, v => ∃ p vb, v = .ref p ∧ I p = some (.tup [.str w, .str x, .int (m : Int), vb]) ∧ TmAt I b vb ∧ w ∈ ([("some" : Str), "every", "least", "greatest", "find"] : List Str)
  | .share x m b n, v => ∃ p vb vn, v = .ref p ∧ I p = some (.tup [SS "share", .str x, .int (m : Int), vb, vn]) ∧ TmAt I b vb ∧ TmAt I n vn

/-- which side's values: the law's, the package's -/
inductive Side where
  | law | pack
def Side.goneW : Side → Str
  | .law => "gone"
  | .pack => "bound"
def Side.goneN : Side → Nat → Int
  | .law, n => n
  | .pack, n => n + 1
def Side.givenW : Side → Str
  | .law => "given"
  | .pack => "row"
mutual
/-- a value stands at v -/
def VAt (sd : Side) (I : Hp) : Val → V → Prop
  | .int i, v => v = .int i
  | .clo x b e, v => ∃ p vb d kvs, v = .ref p ∧ I p = some (.tup [SS "fn", .str x, vb, .ref d]) ∧ TmAt I b vb ∧ I d = some (.dK kvs) ∧ kvs.length ≤ e.len ∧ EAt sd I e kvs []
  | .made x b e, v => ∃ p vb d kvs, v = .ref p ∧ I p = some (.tup [SS "made", .str x, vb, .ref d]) ∧ TmAt I b vb ∧ I d = some (.dK kvs) ∧ kvs.length ≤ e.len ∧ EAt sd I e kvs []
  | .gone n, v => ∃ p, v = .ref p ∧ I p = some (.tup [.str sd.goneW, .int (sd.goneN n)])
  | .given k, v => ∃ p, v = .ref p ∧ I p = some (.tup [.str sd.givenW, .int (k : Int)])
  | .found k, v => ∃ p d, v = .ref p ∧ I p = some (.tup [SS "found", .ref d]) ∧ I d = some (.dK (knK k))
  | .pair a b, v => ∃ p va vb, v = .ref p ∧ VAt sd I a va ∧ VAt sd I b vb ∧ (match sd with
    | .law => I p = some (.tup [va, vb])
    | .pack => I p = some (.tup [SS "pair", va, vb]))
/-- an environment stands in a dict's entries -/
def EAt (sd : Side) (I : Hp) : Nv → List (Key × V) → List Str → Prop
  | .nil, _, _ => True
  | .cons x v e, kvs, sh => (x ∉ sh → ∃ u, valV kvs (.inr x) = some u ∧ VAt sd I v u) ∧ EAt sd I e kvs (x :: sh)
end
def NAt (sd : Side) (I : Hp) (e : Nv) (d : Addr) : Prop := ∃ kvs, I d = some (.dK kvs) ∧ kvs.length ≤ e.len ∧ EAt sd I e kvs []

section
variable {I I' : Hp} {sd : Side}
theorem TmAt.mono (h : Same I I') : ∀ {t : Tm} {v : V}, TmAt I t v → TmAt I' t v := by
  intro t
  induction t with
  | var x => rintro v ⟨p, e, g⟩; exact ⟨p, e, h _ _ g⟩
  | lit n => rintro v ⟨p, e, g | ⟨m, g⟩⟩; exact ⟨p, e, .inl (h _ _ g)⟩; exact ⟨p, e, .inr ⟨m, h _ _ g⟩⟩
  | prim op a b ha hb => rintro v ⟨p, q, va, vb, e, g, g2, h1, h2⟩; exact ⟨p, q, va, vb, e, h _ _ g, h _ _ g2, ha h1, hb h2⟩
  | as m a ha => rintro v ⟨p, va, e, g, h1⟩; exact ⟨p, va, e, h _ _ g, ha h1⟩
  | count a ha => rintro v ⟨p, va, e, g, h1⟩; exact ⟨p, va, e, h _ _ g, ha h1⟩
  | fst a ha => rintro v ⟨p, va, e, g, h1⟩; exact ⟨p, va, e, h _ _ g, ha h1⟩
  | snd a ha => rintro v ⟨p, va, e, g, h1⟩; exact ⟨p, va, e, h _ _ g, ha h1⟩
  | ite c a b hc ha hb => rintro v ⟨p, vc, va, vb, e, g, h0, h1, h2⟩; exact ⟨p, vc, va, vb, e, h _ _ g, hc h0, ha h1, hb h2⟩
  | fn x b hb => rintro v ⟨p, k, vb, e, g, h1⟩; exact ⟨p, k, vb, e, h _ _ g, hb h1⟩
  | call f a hf ha => rintro v ⟨p, vf, va, e, g, h1, h2⟩; exact ⟨p, vf, va, e, h _ _ g, hf h1, ha h2⟩
  | pair a b hf ha => rintro v ⟨p, vf, va, e, g, h1, h2⟩; exact ⟨p, vf, va, e, h _ _ g, hf h1, ha h2⟩
  | rep n f a hc ha hb => rintro v ⟨p, vc, va, vb, e, g, h0, h1, h2⟩; exact ⟨p, vc, va, vb, e, h _ _ g, hc h0, ha h1, hb h2⟩
  | idx r i hf ha => rintro v ⟨p, vf, va, e, g, h1, h2⟩; exact ⟨p, vf, va, e, h _ _ g, hf h1, ha h2⟩
  | row x b hb => rintro v ⟨p, k, vb, e, g, h1⟩; exact ⟨p, k, vb, e, h _ _ g, hb h1⟩
  | qu w x m b hb => rintro v ⟨p, vb, e, g, h1, h2⟩; exact ⟨p, vb, e, h _ _ g, hb h1, h2⟩
  | share x m b n hb hn => rintro v ⟨p, vb, vn, e, g, h1, h2⟩; exact ⟨p, vb, vn, e, h _ _ g, hb h1, hn h2⟩
mutual
theorem VAt.mono (h : Same I I') : ∀ {t : Val} {v : V}, VAt sd I t v → VAt sd I' t v
  | .int i, v, e => e
  | .clo x b e, v, ⟨p, vb, d, kvs, e1, g, hb, g2, hl, he⟩ => ⟨p, vb, d, kvs, e1, h _ _ g, hb.mono h, h _ _ g2, hl, EAt.mono h he⟩
  | .made x b e, v, ⟨p, vb, d, kvs, e1, g, hb, g2, hl, he⟩ => ⟨p, vb, d, kvs, e1, h _ _ g, hb.mono h, h _ _ g2, hl, EAt.mono h he⟩
  | .gone n, v, ⟨p, e, g⟩ => ⟨p, e, h _ _ g⟩
  | .given n, v, ⟨p, e, g⟩ => ⟨p, e, h _ _ g⟩
  | .found k, v, ⟨p, d, e, g, g2⟩ => ⟨p, d, e, h _ _ g, h _ _ g2⟩
  | .pair a b, v, ⟨p, va, vb, e, ha, hb, g⟩ => ⟨p, va, vb, e, VAt.mono h ha, VAt.mono h hb, by cases sd <;> exact h _ _ g⟩
theorem EAt.mono (h : Same I I') : ∀ {e : Nv} {kvs : List (Key × V)} {sh : List Str}, EAt sd I e kvs sh → EAt sd I' e kvs sh
  | .nil, _, _, _ => trivial
  | .cons x v e, kvs, sh, ⟨e1, e3⟩ => ⟨fun hx => let ⟨u, e1, e2⟩ := e1 hx; ⟨u, e1, VAt.mono h e2⟩, EAt.mono h e3⟩
end
theorem NAt.mono (h : Same I I') {e : Nv} {d : Addr} : NAt sd I e d → NAt sd I' e d := fun ⟨kvs, g, hl, he⟩ => ⟨kvs, h _ _ g, hl, he.mono h⟩
theorem EAt.look : ∀ {e : Nv} {kvs : List (Key × V)} {sh : List Str} {x : Str} {v : Val}, EAt sd I e kvs sh → x ∉ sh → e.look x = some v → ∃ u, valV kvs (.inr x) = some u ∧ VAt sd I v u
  | .nil, _, _, _, _, _, _, h => by cases h
  | .cons y w e, kvs, sh, x, v, ⟨h1, h2⟩, hx, h => by
    unfold Nv.look at h
    split at h
    · rename_i hy
      subst hy
      cases h
      exact h1 hx
    · rename_i hy
      exact EAt.look h2 (fun z => by rcases List.mem_cons.mp z with e | e; exact hy e.symm; exact hx e) h
theorem EAt.over {k : Str} {u : V} : ∀ {e : Nv} {kvs : List (Key × V)} {sh sh' : List Str}, EAt sd I e kvs sh → k ∈ sh' → (∀ y ∈ sh, y ∈ sh') → EAt sd I e (putK kvs (.inr k) u) sh'
  | .nil, _, _, _, _, _, _ => trivial
  | .cons y w e, kvs, sh, sh', ⟨h1, h2⟩, hk, hs => by
    refine ⟨fun hy => ?_, EAt.over h2 (List.mem_cons_of_mem _ hk) fun z hz => ?_⟩
    · obtain ⟨z, h3, h4⟩ := h1 fun q => hy (hs _ q)
      refine ⟨z, ?_, h4⟩
      rw [valV_put, if_neg]
      · exact h3
      · intro q
        cases q
        exact hy hk
    · rcases List.mem_cons.mp hz with e | e
      · rw [e]; exact List.mem_cons_self
      · exact List.mem_cons_of_mem _ (hs _ e)
theorem EAt.put {e : Nv} {kvs : List (Key × V)} {x : Str} {v : Val} {u : V} (h : EAt sd I e kvs []) (hv : VAt sd I v u) : EAt sd I (e.put x v) (putK kvs (.inr x) u) [] :=
  ⟨fun _ => ⟨u, by rw [valV_put, if_pos rfl], hv⟩, h.over List.mem_cons_self fun _ z => by cases z⟩
end
end KW
set_option Elab.async false
set_option linter.all false
set_option maxRecDepth 100000
set_option maxHeartbeats 4000000
/-! K2: own rules: a list beside the empty list, copies of dicts with tuple keys. -/
namespace KW
open PySem PySem.Spec PyProof.Rows L2
section
variable {X : Cx}
def rEqL0 (K : PySem.W.Frag) : R2 := fun x y H Q => ∃ a b xs, x = .ref a ∧ y = .ref b ∧ SqL K H a xs ∧ SqL K H b [] ∧ Q (.bl xs.isEmpty) H
def rNeL0 (K : PySem.W.Frag) : R2 := fun x y H Q => ∃ a b xs, x = .ref a ∧ y = .ref b ∧ SqL K H a xs ∧ SqL K H b [] ∧ Q (.bl (!xs.isEmpty)) H
theorem op_eqL0 (hu : X.A.units < cLine) : OpR X (compareOp .Eq) (rEqL0 X.K) := by
  intro pins s σ H x y v u Q I rx ry h
  obtain ⟨a, b, xs, rfl, rfl, ha, hb, q⟩ := h
  cases rx
  cases ry
  obtain ⟨its, r1, p1, _⟩ := I.list ha
  obtain ⟨its2, r2, p2, _⟩ := I.list hb
  cases r2
  cases xs with
  | nil =>
    cases r1
    exact SeqAt.eq_listAt (e := fun _ => true) p1.isList p2.isList rfl hu (fun j h1 h2 => absurd h1 (Nat.not_lt_zero _)) ⟨.bl true, H, I, rfl, q⟩
  | cons x xs =>
    have hl := r1.length
    exact SeqAt.eq_list_lengthsAt p1.isList p2.isList (by simp; intro e; rw [e] at hl; cases hl) hu ⟨.bl false, H, I, rfl, q⟩
theorem op_neL0 (hu : X.A.units < cLine) : OpR X (compareOp .NotEq) (rNeL0 X.K) := by
  intro pins s σ H x y v u Q I rx ry h
  obtain ⟨a, b, xs, rfl, rfl, ha, hb, q⟩ := h
  cases rx
  cases ry
  obtain ⟨its, r1, p1, _⟩ := I.list ha
  obtain ⟨its2, r2, p2, _⟩ := I.list hb
  cases r2
  cases xs with
  | nil =>
    cases r1
    exact SeqAt.RcNeAt.lists (e := fun _ => true) p1.isList p2.isList rfl hu (fun j h1 h2 => absurd h1 (Nat.not_lt_zero _)) X.prog X.w _ _ ⟨.bl false, H, I, rfl, q⟩
  | cons x xs =>
    have hl := r1.length
    exact SeqAt.RcNeAt.lists_lengths p1.isList p2.isList (by simp; intro e; rw [e] at hl; cases hl) hu X.prog X.w _ _ ⟨.bl true, H, I, rfl, q⟩

/-! ### dict(d), the keys tuples -/
def hashT (P : Program) (w : World) (ks : List Key) : Int := (tupleKind (mixKind P w)).hash ks
def rDictT (P : Program) (w : World) : List V → Hp → VK → Prop := fun xs H Q => ∃ (a : Addr) (kvs : List (List Key × V)), xs = [.ref a] ∧ Rd H a (.dT kvs) ∧ (kvs.map fun p => hashT P w p.1).Nodup ∧ ∀ p, H p = none → Q (.ref p) (upd H p (.dT kvs))
theorem call_dictT (hu : X.A.units + 2 < cLine) : CallR X (.type "dict") (rDictT X.prog X.w) := by
  intro pins s σ H xs us Q I r q
  obtain ⟨a, kvs, ex, hd, hn, q⟩ := q
  subst ex
  obtain ⟨u, eu, rx⟩ := vals1 r
  subst eu
  cases rx
  obtain ⟨z, lo, ys, rel, dd⟩ := dt_rd I.hok hd
  have hlen : ys.length = kvs.length := (Paired.length rel).symm
  refine callType_codes (Q₁ := fun obj s₁ => obj = .ref s.heap.objs.size ∧ s₁ = { s with heap := s.heap.push { cls := .type "dict", data := .dict #[] } }) PySem.F.kt_called_dict (PySem.F.kt_typeCall_dict_1 _) PySem.F.entry_dict_init (kt_code_dict_new _ ⟨rfl, rfl⟩) ?_
  rintro obj s₁ ⟨rfl, rfl⟩
  have hT : Shared.TypeIs { s with heap := s.heap.push { cls := .type "dict", data := .dict #[] } } (.ref s.heap.objs.size) "dict" := ⟨_, Heap.get?_push_size _ rfl, rfl⟩
  refine ⟨hT, PySem.F.args_dict_init_2 _ _, ?_⟩
  unfold Builtin.«dict.__init__»
  refine wpAny_bind ?_
  unfold Builtin.Dict.selfAndRest
  refine wpAny_bind (wpAny_notOrdered_dict hT ?_)
  refine wpAny_pure ?_
  have ne : s.heap.objs.size ≠ a := fun e => by
    obtain ⟨o, _, _, ho, _⟩ := dd
    exact absurd (Heap.lt_size ho) (by rw [← e]; exact Nat.lt_irrefl _)
  have old : ∀ b o, s.heap.get? b = some o → (s.heap.push { cls := .type "dict", data := .dict #[] }).get? b = some o := fun b o e => Heap.get?_push_of_some _ e
  have dd' : (s.heap.push { cls := .type "dict", data := .dict #[] }).DictOfH (tupleKind (mixKind X.prog X.w)) a ys := by
    obtain ⟨o, es, ep, ho, hc, hdat, he, his, hnn⟩ := dd
    exact ⟨o, es, ep, old _ _ ho, hc, hdat, he, fun x hx => tupleKind_stays.1 (fun b o vs n e _ => old _ _ e) (his x hx), hnn⟩
  have hty : ∀ x ∈ ys, Shared.TypeIs { s with heap := s.heap.push { cls := .type "dict", data := .dict #[] } } (.ref x.2.1) "tuple" := keyed_apart (s := { s with heap := s.heap.push { cls := .type "dict", data := .dict #[] } }) tupleKind_stays dd'
  have hks : ys.map (fun x => (tupleKind (mixKind X.prog X.w)).hash x.1) = kvs.map fun p => hashT X.prog X.w p.1 := by
    have go : ∀ {l1 : List (List Key × V)} {l2 : List (List Key × Addr × Value)}, KT H l1 l2 → l2.map (fun x => (tupleKind (mixKind X.prog X.w)).hash x.1) = l1.map fun p => hashT X.prog X.w p.1 := by
      intro l1 l2 r
      induction r with
      | nil => rfl
      | cons h t ih =>
        rw [List.map_cons, List.map_cons, ih, h.1]
        rfl
    exact go rel
  have hnod : (ys.map (·.1)).Nodup := let ⟨_, _, _, _, _, _, _, _, hnn⟩ := dd; hnn
  refine updateFrom_dictH (A := X.A.in1) (nm := "dict.__init__") (d := s.heap.objs.size) (kvs := []) .none ?_ ne lo (Heap.DictOfH.new s.heap) dd' (.inr ⟨hty, by rw [hks]; exact hn⟩) (by rw [List.length_nil, Nat.zero_add, hlen]; exact z) fun h' hd' ho' hs' => ?_
  · show X.A.in1.in1.units < cLine
    show X.A.units + 1 + 1 < cLine
    omega
  rw [storedAllH_nil_of_nodup ys hnod] at hd'
  have hm : (s.heap.objs.size == sysModules) = false := beq_eq_false_iff_ne.mpr (Nat.ne_of_gt I.big)
  have k : ∀ b u, s.heap.get? b = some u → h'.get? b = some u := fun b u e => (hs'.2 b (Nat.ne_of_lt (Heap.lt_size e))).trans (old _ _ e)
  have hp : H s.heap.objs.size = none := I.hok.fresh (Nat.le_refl _)
  refine ⟨rfl, .ref s.heap.objs.size, upd H s.heap.objs.size (.dT kvs), I.laid (t' := s.toks) k (Nat.le_refl _) ?_, rfl, q _ hp⟩
  obtain ⟨o, es, ep, ho, hc, hdat, he, his, hnn⟩ := hd'
  refine ⟨z, hm, ys, Paired.mapP rel fun p x h => ⟨h.1, ?_, h.2.2⟩, o, es, ep, ho, hc, hdat, he, hnn⟩
  rw [upd_ne (ne_of_none h.2.1 hp)]
  exact h.2.1
end
end KW
set_option Elab.async false
set_option linter.all false
set_option maxRecDepth 100000
set_option maxHeartbeats 4000000
/-! K3: what all defs lean on: the module's names; small words. -/
namespace KW
open PySem PySem.Spec PyProof.Rows L2
structure Txt (K : PySem.W.Frag) (mg : Str → Option Value) : Prop where
  len : mg "len" = none
  int : mg "int" = none
  max : mg "max" = none
  min : mg "min" = none
  sum : mg "sum" = none
  sorted : mg "sorted" = none
  list : mg "list" = none
  dict : mg "dict" = none
  tuple : mg "tuple" = none
  range : mg "range" = none
  str : mg "str" = none
  repr : mg "repr" = none
  isinstance : mg "isinstance" = none
  enumerate : mg "enumerate" = none
  all : mg "all" = none
  cTOP_settling : ∃ u, mg "TOP_settling" = some u ∧ RelV (.int TOP) u
  cTOP_plain : ∃ u, mg "TOP_plain" = some u ∧ RelV (.int TOP) u
  cTURNS : ∃ u, mg "TURNS" = some u ∧ RelV (.int 60) u
  cSTEPS : ∃ u, mg "STEPS" = some u ∧ RelV (.int 20000) u
  cENDS : ∃ u, mg "ENDS" = some u ∧ RelV (.int 500) u

def fsB (N P : List Str) (sc : Scope) : Bool :=
  decide (sc.kind = .function) && (!sc.isCoroutine && (!sc.isGenerator && (decide N.Nodup && (decide (N.take P.length = P) && (P.all (fun x => decide (sc.names.lookup x = some .local) || decide (sc.names.lookup x = some .cell)) && sc.names.all fun y => !decide (y.2 = .free))))))
theorem fnScope_ok {N P : List Str} {sc : Scope} (h : fsB N P sc = true) : FnScope N P sc := by
  unfold fsB at h
  simp only [Bool.and_eq_true, Bool.not_eq_true', decide_eq_true_eq, List.all_eq_true, Bool.or_eq_true, decide_eq_false_iff_not] at h
  obtain ⟨h1, h2, h3, h4, h5, h6, h7⟩ := h
  exact ⟨h1, h2, h3, h4, h5, h6, h7⟩
theorem hu65 {A : Around} {k : Nat} (hr : Room k A) : A.units + 65 < cLine := by have := hr.un; omega
theorem hu2 {A : Around} {k : Nat} (hr : Room k A) : A.units + 2 < cLine := by have := hr.un; omega
/-- a test that is known -/
theorem tT {c A B : Prop} [Decidable c] (hc : c) (h : A) : if decide c = true then A else B := by rw [decide_eq_true hc]; exact iteT h
theorem tF {c A B : Prop} [Decidable c] (hc : ¬ c) (h : B) : if decide c = true then A else B := by rw [decide_eq_false hc]; exact iteF h
theorem nT {c A B : Prop} [Decidable c] (hc : ¬ c) (h : A) : if (!decide c) = true then A else B := by rw [decide_eq_false hc]; exact iteT h
theorem nF {c A B : Prop} [Decidable c] (hc : c) (h : B) : if (!decide c) = true then A else B := by rw [decide_eq_true hc]; exact iteF h
theorem bT {b : Bool} {A B : Prop} (hb : b = true) (h : A) : if b = true then A else B := by rw [hb]; exact iteT h
theorem bF {b : Bool} {A B : Prop} (hb : b = false) (h : B) : if b = true then A else B := by rw [hb]; exact iteF h
/-- a dict's entry by a written key -/
theorem DG {H : Hp} {a : Addr} {kvs : List (Key × V)} {x : Str} {v : V} (h : H a = some (.dK kvs)) (e : valV kvs (.inr x) = some v) : DGet H a (.str x) (some v) := .inl ⟨kvs, .inr x, .inl h, rfl, e.symm⟩
theorem DGi {H : Hp} {a : Addr} {kvs : List (Key × V)} {x : Int} {v : Option V} (h : H a = some (.dK kvs)) (e : valV kvs (.inl x) = v) : DGet H a (.int x) v := .inl ⟨kvs, .inl x, .inl h, rfl, e.symm⟩
theorem DP {H : Hp} {a : Addr} {kvs kvs' : List (Key × V)} {x : Str} {v : V} (h : H a = some (.dK kvs)) (e : putK kvs (.inr x) v = kvs') (hl : kvs.length < sizeLine) : DPut H a (.str x) v (upd H a (.dK kvs')) := .inl ⟨kvs, .inr x, h, rfl, hl, by rw [e]⟩
theorem small {n : Nat} (h : n < 100000) : n < sizeLine := Nat.lt_of_lt_of_le h (by decide)
end KW
set_option Elab.async false
set_option linter.all false
set_option maxRecDepth 100000
set_option maxHeartbeats 4000000
/-! L0: the law's interpreter: the pure parts, the run's dict, what its defs promise. -/
namespace KW
open PySem PySem.Spec PyProof.Rows L2

/-! ### pure parts -/
def evAll (rec : Ev) (env : Nv) (gk : GK) : List Tm → S → R (List Val)
  | [], s => .ok [] s
  | t :: ts, s => (rec t env gk s).bind fun v s => (evAll rec env gk ts s).bind fun vs s => .ok (v :: vs) s
def parts : Tm → List Tm
  | .prim _ a b => [a, b]
  | .as _ a => [a]
  | .count a => [a]
  | .fst a => [a]
  | .snd a => [a]
  | .call f a => [f, a]
  | .pair a b => [a, b]
  | .rep n f a => [n, f, a]
  | .idx r i => [r, i]
  | _ => []
def putR (kn : KnP) (rec : Ev) (gk : GK) (t : Tm) (vs : List Val) (s : S) : R Val := match t, vs with
  | .prim op _ _, [a, b] => outV s (primV op a b)
  | .as m _, [a] => outV s (asV m a)
  | .count _, [a] => outV s (intV a)
  | .fst _, [a] => outV s (fstV a)
  | .snd _, [a] => outV s (sndV a)
  | .call _ _, [f, a] => appl rec f a gk s
  | .pair _ _, [a, b] => .ok (.pair a b) s
  | .rep _ _ _, [.int i, f, a] => if 0 ≤ i then reps rec f gk (if i ≤ 60 then i else 60).toNat a s else .die
  | .idx _ _, [r, i] => readAt rec kn r i gk s
  | _, _ => .die
theorem bind_assoc {α β γ : Type} (r : R α) (f : α → S → R β) (g : β → S → R γ) : (r.bind f).bind g = r.bind fun a s => (f a s).bind g := by
  cases r <;> rfl
theorem bind_ok {α : Type} (r : R α) : (r.bind fun a s => .ok a s) = r := by cases r <;> rfl
theorem all1 (rec : Ev) (env : Nv) (gk : GK) (a : Tm) (s : S) {β : Type} (k : List Val → S → R β) : (evAll rec env gk [a] s).bind k = (rec a env gk s).bind fun v s => k [v] s := by
  unfold evAll evAll
  rw [bind_assoc]
  rfl
theorem all2 (rec : Ev) (env : Nv) (gk : GK) (a b : Tm) (s : S) {β : Type} (k : List Val → S → R β) : (evAll rec env gk [a, b] s).bind k = (rec a env gk s).bind fun v s => (rec b env gk s).bind fun u s => k [v, u] s := by
  unfold evAll
  rw [bind_assoc]
  congr 1
  funext v s
  rw [bind_assoc, all1]
  rfl
theorem all3 (rec : Ev) (env : Nv) (gk : GK) (a b c : Tm) (s : S) {β : Type} (k : List Val → S → R β) : (evAll rec env gk [a, b, c] s).bind k = (rec a env gk s).bind fun v s => (rec b env gk s).bind fun u s => (rec c env gk s).bind fun w s => k [v, u, w] s := by
  unfold evAll
  rw [bind_assoc]
  congr 1
  funext v s
  rw [bind_assoc, all2]
  rfl
def plain (t : Tm) : Prop := parts t ≠ []
theorem body_parts {kn : KnP} {rec : Ev} {t : Tm} {env : Nv} {gk : GK} {s : S} (h : plain t) (hd : body kn rec t env gk s ≠ .die) : body kn rec t env gk s = (evAll rec env gk (parts t) s).bind fun vs s => putR kn rec gk t vs s := by
  cases t with
  | prim op a b => unfold parts; rw [all2]; rfl
  | as m a => unfold parts; rw [all1]; rfl
  | count a => unfold parts; rw [all1]; rfl
  | fst a => unfold parts; rw [all1]; rfl
  | snd a => unfold parts; rw [all1]; rfl
  | call f a => unfold parts; rw [all2]; rfl
  | pair a b => unfold parts; rw [all2]; rfl
  | idx a b => unfold parts; rw [all2]; rfl
  | rep n f a =>
    unfold parts
    rw [all3]
    unfold body at hd ⊢
    dsimp only at hd ⊢
    cases h1 : rec n env gk s with
    | ok vn s1 =>
      rw [h1] at hd
      unfold R.bind at hd ⊢
      dsimp only at hd ⊢
      cases h2 : rec f env gk s1 with
      | ok vf s2 =>
        rw [h2] at hd
        dsimp only at hd ⊢
        cases vn with
        | int i =>
          dsimp only at hd ⊢
          by_cases hi : 0 ≤ i
          · rw [if_pos hi]
            cases h3 : rec a env gk s2 with
            | ok va s3 =>
              show _ = putR _ _ _ _ _ _
              unfold putR
              dsimp only
              rw [if_pos hi]
            | st w s3 => rfl
            | die => rfl
          · rw [if_neg hi] at hd
            exact absurd rfl hd
        | _ => exact absurd rfl hd
      | st w s2 => rfl
      | die => rfl
    | st w s1 => rfl
    | die => rfl
  | _ => exact absurd rfl h

/-! ### the run's dict -/
def lrunK (kn rows asked gone stop : V) (steps most : Int) : List (Key × V) :=
  [(.inr "known", kn), (.inr "rows", rows), (.inr "asked", asked), (.inr "gone", gone), (.inr "stop", stop), (.inr "steps", .int steps), (.inr "most", .int most)]
section
variable {kn rows asked gone stop x : V} {steps most i : Int}
theorem lr_known : valV (lrunK kn rows asked gone stop steps most) (.inr "known") = some kn := by kernel_rfl
theorem lr_asked : valV (lrunK kn rows asked gone stop steps most) (.inr "asked") = some asked := by kernel_rfl
theorem lr_gone : valV (lrunK kn rows asked gone stop steps most) (.inr "gone") = some gone := by kernel_rfl
theorem lr_stop : valV (lrunK kn rows asked gone stop steps most) (.inr "stop") = some stop := by kernel_rfl
theorem lr_steps : valV (lrunK kn rows asked gone stop steps most) (.inr "steps") = some (.int steps) := by kernel_rfl
theorem lr_most : valV (lrunK kn rows asked gone stop steps most) (.inr "most") = some (.int most) := by kernel_rfl
theorem lp_stop : putK (lrunK kn rows asked gone stop steps most) (.inr "stop") x = lrunK kn rows asked gone x steps most := by kernel_rfl
theorem lp_steps : putK (lrunK kn rows asked gone stop steps most) (.inr "steps") (.int i) = lrunK kn rows asked gone stop i most := by kernel_rfl
theorem lr_len : (lrunK kn rows asked gone stop steps most).length < sizeLine := by show 7 < sizeLine; decide
end
def lM (r q g k : Addr) (most : Nat) (asked gones : List V) (stop : V) (steps : Nat) : List (Addr × HO) :=
  [(r, .dK (lrunK (.ref k) .non (.ref q) (.ref g) stop (steps : Int) (most : Int))), (q, .lst asked), (g, .lst gones)]
structure LOk (c : Nat) (I : Hp) (k : Addr) (kn : KnP) (gk : GK) (asked gones : List V) (s : S) : Prop where
  kn : I k = some (.dT (knPK kn))
  ask : ∀ v ∈ asked, ∃ p pl, v = .ref p ∧ I p = some (.tup ((plK pl).map kV))
  askl : asked.length + c ≤ s.steps
  gl : gones.length = s.marks
  gs : s.marks + c ≤ s.steps
  gk : ∀ n kv, gk n = some kv → ∃ a, gones[n]? = some (.ref a) ∧ I a = some (.dK (knK kv))
theorem LOk.mono {c : Nat} {I I' : Hp} {k : Addr} {kn : KnP} {gk : GK} {asked gones : List V} {s : S} (h : Same I I') (x : LOk c I k kn gk asked gones s) : LOk c I' k kn gk asked gones s :=
  ⟨h _ _ x.kn, fun v hv => let ⟨p, pl, e, g⟩ := x.ask v hv; ⟨p, pl, e, h _ _ g⟩, x.askl, x.gl, x.gs, fun n kv e => let ⟨a, e1, e2⟩ := x.gk n kv e; ⟨a, e1, h _ _ e2⟩⟩
def StopAt (I : Hp) : Stop → V → Prop
  | .long, x => ∃ p, x = .ref p ∧ I p = some (.tup [SS "long"])
  | .place (i, k), x => ∃ p q, x = .ref p ∧ I p = some (.tup [SS "place", .ref q]) ∧ I q = some (.tup [.int i, .int (k : Int)])
  | .gone n i, x => ∃ p, x = .ref p ∧ I p = some (.tup [SS "gone", .int (n : Int), .int i])
theorem StopAt.ne {I : Hp} {w : Stop} {x : V} (h : StopAt I w x) : ∃ p, x = .ref p := by
  cases w with
  | long => exact ⟨_, h.choose_spec.1⟩
  | place p => obtain ⟨p, q, e, _⟩ := h; exact ⟨p, e⟩
  | gone n i => exact ⟨_, h.choose_spec.1⟩
theorem StopAt.mono {I I' : Hp} (s : Same I I') {w : Stop} {x : V} (h : StopAt I w x) : StopAt I' w x := by
  cases w with
  | long => obtain ⟨p, e, g⟩ := h; exact ⟨p, e, s _ _ g⟩
  | place p => obtain ⟨p, q, e, g, g2⟩ := h; exact ⟨p, q, e, s _ _ g, s _ _ g2⟩
  | gone n i => obtain ⟨p, e, g⟩ := h; exact ⟨p, e, s _ _ g⟩
/-- what a def of the interpreter promises of its result -/
def LPost {α : Type} (c : Nat) (okv : α → V → Hp → Prop) (I H : Hp) (r q g k : Addr) (kn : KnP) (gk : GK) (most : Nat) (gones : List V) (Q : VK) : R α → Prop
  | .ok a s' => ∀ u I' H' asked' gones', Stp [r, q, g] I H I' H' → HS I' (lM r q g k most asked' gones' .non s'.steps) H' → LOk c I' k kn gk asked' gones' s' → gones <+: gones' → s'.steps ≤ most → okv a u I' → Q u H'
  | .st w s' => ∀ x I' H' asked' gones', Stp [r, q, g] I H I' H' → HS I' (lM r q g k most asked' gones' x s'.steps) H' → StopAt I' w x → LOk c I' k kn gk asked' gones' s' → gones <+: gones' → (w = .long ∨ s'.steps ≤ most) → Q .non H'
  | .die => False
def VAts (sd : Side) (I : Hp) : List Val → List V → Prop
  | [], us => us = []
  | v :: vs, us => ∃ u r, us = u :: r ∧ VAt sd I v u ∧ VAts sd I vs r
theorem VAts.mono {sd : Side} {I I' : Hp} (h : Same I I') : ∀ {vs : List Val} {us : List V}, VAts sd I vs us → VAts sd I' vs us
  | [], _, e => e
  | _ :: _, _, ⟨u, r, e, a, b⟩ => ⟨u, r, e, a.mono h, VAts.mono h b⟩
def okV (v : Val) (u : V) (I : Hp) : Prop := VAt .law I v u
def okL (vs : List Val) (u : V) (I : Hp) : Prop := ∃ l us, u = .ref l ∧ I l = some (.lst us) ∧ VAts .law I vs us
def EndAt (sd : Side) (I : Hp) (e : Kn × Int) (u : V) : Prop := ∃ p d, u = .ref p ∧ I p = some (.tup [.ref d, .int e.2]) ∧ I d = some (.dK (knK e.1))
def EndsAt (sd : Side) (I : Hp) : List (Kn × Int) → List V → Prop
  | [], us => us = []
  | e :: es, us => ∃ u r, us = u :: r ∧ EndAt sd I e u ∧ EndsAt sd I es r
theorem EndAt.mono {sd : Side} {I I' : Hp} (h : Same I I') {e : Kn × Int} {u : V} : EndAt sd I e u → EndAt sd I' e u := fun ⟨p, d, e1, g1, g2⟩ => ⟨p, d, e1, h _ _ g1, h _ _ g2⟩
theorem EndsAt.mono {sd : Side} {I I' : Hp} (h : Same I I') : ∀ {es : List (Kn × Int)} {us : List V}, EndsAt sd I es us → EndsAt sd I' es us
  | [], _, e => e
  | _ :: _, _, ⟨u, r, e, a, b⟩ => ⟨u, r, e, a.mono h, EndsAt.mono h b⟩
theorem EndsAt.snoc {sd : Side} {I : Hp} {e : Kn × Int} {u : V} : ∀ {es : List (Kn × Int)} {us : List V}, EndsAt sd I es us → EndAt sd I e u → EndsAt sd I (es ++ [e]) (us ++ [u])
  | [], _, h, g => by rw [show _ = [] from h]; exact ⟨u, [], rfl, g, rfl⟩
  | _ :: _, _, ⟨v, r, e, a, b⟩, g => ⟨v, r ++ [u], by rw [e]; rfl, a, EndsAt.snoc b g⟩
theorem VAts.snoc {sd : Side} {I : Hp} {e : Val} {u : V} : ∀ {es : List Val} {us : List V}, VAts sd I es us → VAt sd I e u → VAts sd I (es ++ [e]) (us ++ [u])
  | [], _, h, g => by rw [show _ = [] from h]; exact ⟨u, [], rfl, g, rfl⟩
  | _ :: _, _, ⟨v, r, e, a, b⟩, g => ⟨v, r ++ [u], by rw [e]; rfl, a, VAts.snoc b g⟩
def okE (es : List (Kn × Int)) (u : V) (I : Hp) : Prop := ∃ l us, u = .ref l ∧ I l = some (.lst us) ∧ EndsAt .law I es us
def TmsAt (I : Hp) : List Tm → List V → Prop
  | [], us => us = []
  | t :: ts, us => ∃ u r, us = u :: r ∧ TmAt I t u ∧ TmsAt I ts r
theorem TmsAt.mono {I I' : Hp} (h : Same I I') : ∀ {ts : List Tm} {us : List V}, TmsAt I ts us → TmsAt I' ts us
  | [], _, e => e
  | _ :: _, _, ⟨u, r, e, a, b⟩ => ⟨u, r, e, a.mono h, TmsAt.mono h b⟩

def MOST : Nat := 30000
/-- the common start of the defs' promises -/
structure LPre (c : Nat) (I H : Hp) (r q g k : Addr) (kn : KnP) (gk : GK) (most : Nat) (asked gones : List V) (s : S) : Prop where
  hs : HS I (lM r q g k most asked gones .non s.steps) H
  ok : LOk c I k kn gk asked gones s
  mo : most ≤ MOST
  sm : s.steps ≤ most
theorem LOk.less {c : Nat} {I : Hp} {k : Addr} {kn : KnP} {gk : GK} {asked gones : List V} {s : S} (x : LOk (c + 1) I k kn gk asked gones s) : LOk c I k kn gk asked gones s := ⟨x.kn, x.ask, by have := x.askl; omega, x.gl, by have := x.gs; omega, x.gk⟩
def spOut (d : Nat) : Sp := fun vs H Q _ => ∃ c I r q g k kn gk most asked gones s tv e t env, vs = [.ref r, tv, .ref e] ∧ LPre c I H r q g k kn gk most asked gones s ∧ TmAt I t tv ∧ NAt .law I env e ∧
  LPost c okV I H r q g k kn gk most gones Q (ev most kn d t env gk s)
def spCalled (d : Nat) : Sp := fun vs H Q _ => ∃ c I r q g k kn gk most asked gones s fv vv f v, vs = [.ref r, fv, vv] ∧ LPre c I H r q g k kn gk most asked gones s ∧ VAt .law I f fv ∧ VAt .law I v vv ∧
  LPost c okV I H r q g k kn gk most gones Q (appl (ev most kn d) f v gk s)
def spRead (d : Nat) : Sp := fun vs H Q _ => ∃ c I r q g k kn gk most asked gones s fv vv f v, vs = [.ref r, fv, vv] ∧ LPre (c + 1) I H r q g k kn gk most asked gones s ∧ VAt .law I f fv ∧ VAt .law I v vv ∧
  LPost c okV I H r q g k kn gk most gones Q (readAt (ev most kn d) kn f v gk s)
def spAll (d : Nat) : Sp := fun vs H Q _ => ∃ c I r q g k kn gk most asked gones s p us e ts env, vs = [.ref r, .ref p, .ref e] ∧ LPre c I H r q g k kn gk most asked gones s ∧ I p = some (.tup us) ∧ us.length ≤ 100 ∧ TmsAt I ts us ∧ NAt .law I env e ∧
  LPost c okL I H r q g k kn gk most gones Q (evAll (ev most kn d) env gk ts s)
def spPutR (d : Nat) : Sp := fun vs H Q _ => ∃ c I r q g k kn gk most asked gones s tv l us t vl, vs = [.ref r, tv, .ref l] ∧ LPre (c + 1) I H r q g k kn gk most asked gones s ∧ TmAt I t tv ∧ I l = some (.lst us) ∧ VAts .law I vl us ∧
  LPost c okV I H r q g k kn gk most gones Q (putR kn (ev most kn d) gk t vl s)
def spInner (d : Nat) : Sp := fun vs H Q _ => ∃ c I r q g k kn gk most asked gones s x bv e b env, ∃ m : Nat, vs = [.ref r, .str x, .int (m : Int), bv, .ref e] ∧ LPre (c + 1) I H r q g k kn gk most asked gones s ∧ TmAt I b bv ∧ NAt .law I env e ∧
  LPost c okE I H r q g k kn gk most gones Q (inner (ev most kn d) x m b env gk s)
end KW
set_option Elab.async false
set_option linter.all false
set_option maxRecDepth 100000
set_option maxHeartbeats 4000000
/-! L1: the law's small defs: a dict with one more, a function called, a row read. -/
namespace KW
open PySem PySem.Spec PyProof.Rows L2
section
variable {P : Program} {w : World} {K : PySem.W.Frag} {mg : Str → Option Value} {base : Heap}
abbrev N__law_with : List Str := ["_law_known", "_law_place", "_law_digit", "_law_more"]
theorem sc__law_with : FnScope N__law_with ["_law_known", "_law_place", "_law_digit"] (defScope (top 91)) := fnScope_ok (by decide +kernel)
def spPut : Sp := fun vs H Q _ => ∃ (d : Addr) (kvs : List (Key × V)) (k : Key) (v : V), vs = [.ref d, kV k, v] ∧ H d = some (.dK kvs) ∧ kvs.length < sizeLine ∧ ∀ p, H p = none → Q (.ref p) (upd H p (.dK (putK kvs k v)))
def spPutT (P : Program) (w : World) : Sp := fun vs H Q _ => ∃ (d b : Addr) (kvs : List (List Key × V)) (k : List Key) (v : V), vs = [.ref d, .ref b, v] ∧ H d = some (.dT kvs) ∧ H b = some (.tup (k.map kV)) ∧ kvs.length < sizeLine ∧ (kvs.map fun p => hashT P w p.1).Nodup ∧
  ∀ p, H p = none → Q (.ref p) (upd H p (.dT (putK kvs k v)))
theorem ok_withK (D : DefAt K mg "_law_with" 91) (T : Txt K mg) : Cl P w K mg base 1 "_law_with" spPut := by
  refine cl_mk (i := 91) (N := N__law_with) (ps := ["_law_known", "_law_place", "_law_digit"]) D sc__law_with (fun _ _ _ _ _ _ us hl => match us, hl with | [_, _, _], _ => rfl) ?_ ?_
  · rintro vs H Q E ⟨d, kvs, k, v, rfl, _⟩
    rfl
  rintro f cdv A outer s H vs Q E hr ⟨d, kvs, k, v, rfl, hd, hl, q⟩
  refine ⟨_, (pss_cons (ps_set (i := 3) sc__law_with.nd rfl (Or.inl rfl) (pe_callTy call_dictD (by rfl) T.dict (by decide +kernel) (pa_cons (pv 0) pa_nil))) (pss_cons (ps_dput (hu_of hr) (pv 3) (pv 1) (pv 2) rfl) (pss_one (ps_ret (pv 3))))), ?_⟩
  refine ⟨_, rfl, d, kvs, rfl, .inl hd, fun p hp => ?_⟩
  refine ⟨_, rfl, _, rfl, _, rfl, p, _, rfl, DPut.k upd_same hl, _, rfl, ?_⟩
  rw [upd_upd]
  exact q p hp
theorem ok_withT (D : DefAt K mg "_law_with" 91) (T : Txt K mg) : Cl P w K mg base 1 "_law_with" (spPutT P w) := by
  refine cl_mk (i := 91) (N := N__law_with) (ps := ["_law_known", "_law_place", "_law_digit"]) D sc__law_with (fun _ _ _ _ _ _ us hl => match us, hl with | [_, _, _], _ => rfl) ?_ ?_
  · rintro vs H Q E ⟨d, b, kvs, k, v, rfl, _⟩
    rfl
  rintro f cdv A outer s H vs Q E hr ⟨d, b, kvs, k, v, rfl, hd, hb, hl, hn, q⟩
  refine ⟨_, (pss_cons (ps_set (i := 3) sc__law_with.nd rfl (Or.inl rfl) (pe_callTy (call_dictT (hu2 hr)) (by rfl) T.dict (by decide +kernel) (pa_cons (pv 0) pa_nil))) (pss_cons (ps_dput (hu_of hr) (pv 3) (pv 1) (pv 2) rfl) (pss_one (ps_ret (pv 3))))), ?_⟩
  refine ⟨_, rfl, d, kvs, rfl, .inl hd, hn, fun p hp => ?_⟩
  refine ⟨_, rfl, _, rfl, _, rfl, p, _, rfl, DPut.t upd_same (by rw [upd_ne (ne_of_none hb hp)]; exact hb) hl, _, rfl, ?_⟩
  rw [upd_upd]
  exact q p hp
/-- a def's end, of nothing that may be changed -/
theorem LPost.ok_now {α : Type} {c : Nat} {okv : α → V → Hp → Prop} {I H I' H' : Hp} {r q g k : Addr} {kn : KnP} {gk : GK} {most : Nat} {asked gones : List V} {s : S} {Q : VK} {a : α} {u : V}
    (h : LPost c okv I H r q g k kn gk most gones Q (.ok a s)) (w : W [r, q, g] I H I' (lM r q g k most asked gones .non s.steps) H') (ok : LOk c I' k kn gk asked gones s) (hs : s.steps ≤ most) (hv : okv a u I') : Q u H' :=
  h u I' H' asked gones w.st w.hs ok (List.prefix_refl _) hs hv
theorem LPost.from {α : Type} {c : Nat} {okv : α → V → Hp → Prop} {I H I' H' : Hp} {r q g k : Addr} {kn : KnP} {gk : GK} {most : Nat} {gones gones' : List V} {Q : VK} {R : R α} {M : List (Addr × HO)}
    (h : LPost c okv I H r q g k kn gk most gones Q R) (w : W [r, q, g] I H I' M H') (pf : gones <+: gones') : LPost c okv I' H' r q g k kn gk most gones' Q R := by
  have tr : ∀ {I2 H2 : Hp}, Stp [r, q, g] I' H' I2 H2 → Stp [r, q, g] I H I2 H2 := fun y => w.st.trans y (fun a ha => .inl ha) fun a ha _ => by
    exact w.aa a ha
  cases R with
  | ok a s => exact fun u I2 H2 asked2 gones2 y hs ok p hl hv => h u I2 H2 asked2 gones2 (tr y) hs ok (pf.trans p) hl hv
  | st w s => exact fun x I2 H2 asked2 gones2 y hs hx ok p hl => h x I2 H2 asked2 gones2 (tr y) hs hx ok (pf.trans p) hl
  | die => exact h
abbrev N__law_called : List Str := ["_law_run_here", "_law_f", "_law_value", "_law_inner_here"]
theorem sc__law_called : FnScope N__law_called ["_law_run_here", "_law_f", "_law_value"] (defScope (top 88)) := fnScope_ok (by decide +kernel)
theorem ok_called {d k : Nat} (D : DefAt K mg "_law_called" 88) (T : Txt K mg) (c__law_out : Cl P w K mg base k "_law_out" (spOut d)) : Cl P w K mg base (k + 1) "_law_called" (spCalled d) := by
  refine cl_mk (i := 88) (N := N__law_called) (ps := ["_law_run_here", "_law_f", "_law_value"]) D sc__law_called (fun _ _ _ _ _ _ us hl => match us, hl with | [_, _, _], _ => rfl) ?_ ?_
  · rintro vs H Q E ⟨c, I, r, q, g, ka, kn, gk, most, asked, gones, s, fv, vv, f, v, rfl, _⟩
    rfl
  rintro f0 cdv A outer s0 H vs Q E hr ⟨c, I, r, q, g, ka, kn, gk, most, asked, gones, s, fv, vv, f, v, rfl, pre, hf, hv, post⟩
  refine ⟨_, (pss_cons (ps_set (i := 3) sc__law_called.nd rfl (Or.inl rfl) (pe_callTy call_dictD (by rfl) T.dict (by decide +kernel) (pa_cons (pe_ix ix_tup (pv 1) pe_int (fun _ _ => rfl)) pa_nil))) (pss_cons (ps_dput (hu_of hr) (pv 3) (pe_ix ix_tup (pv 1) pe_int (fun _ _ => rfl)) (pv 2) rfl) (pss_one (ps_ret (pe_cl c__law_out hr (by omega) rfl (pa_cons (pv 0) (pa_cons (pe_ix ix_tup (pv 1) pe_int (fun _ _ => rfl)) (pa_cons (pv 3) pa_nil)))))))), ?_⟩
  cases f with
  | clo x b e =>
    obtain ⟨p, vb, d1, kvs, rfl, hp, hb, hd, hl, he⟩ := hf
    unfold appl at post
    dsimp only at post
    by_cases hlen : e.len < 1000
    · rw [if_pos hlen] at post
      have w0 := W.start pre.hs
      refine ⟨_, rfl, p, _, _, _, rfl, rfl, SqT.of (w0.i hp), rfl, d1, kvs, rfl, .inl (w0.i hd), fun n hn => ?_⟩
      have w1 := w0.newM hn (.dK kvs)
      have hp1 : upd H n (.dK kvs) p = some _ := w1.i hp
      refine ⟨_, rfl, _, rfl, _, rfl, p, _, _, _, rfl, rfl, SqT.of hp1, rfl, n, _, rfl, DPut.k (k := .inr x) upd_same (small (by omega)), ?_⟩
      have w2 := w1.set (i := 3) rfl (.dK (putK kvs (.inr x) vv))
      have w3 := w2.freeze (M := lM r q g ka most asked gones .non s.steps) (w0.notA hn)
      have s3 : Same I (upd I n (.dK (putK kvs (.inr x) vv))) := w3.st.same
      refine ⟨_, rfl, _, rfl, p, _, _, _, rfl, rfl, SqT.of (w3.i (s3 _ _ hp)), rfl, _, rfl, ?_⟩
      refine ⟨c, _, r, q, g, ka, kn, gk, most, asked, gones, s, vb, n, b, e.put x v, rfl, ⟨w3.hs, pre.ok.mono s3, pre.mo, pre.sm⟩, hb.mono s3, ⟨_, upd_same, ?_, ?_⟩, ?_⟩
      · have := length_putK kvs (.inr x) vv
        show _ ≤ e.len + 1
        omega
      · exact (he.mono s3).put (hv.mono s3)
      · exact post.from w3 (List.prefix_refl _)
    · rw [if_neg hlen] at post
      exact post.elim
  | _ => exact post.elim
end
end KW
set_option Elab.async false
set_option linter.all false
set_option maxRecDepth 100000
set_option maxHeartbeats 4000000
/-! L2: a row read. -/
namespace KW
open PySem PySem.Spec PyProof.Rows L2
section
variable {P : Program} {w : World} {K : PySem.W.Frag} {mg : Str → Option Value} {base : Heap}
theorem valV_kn {k : Kn} {i : Int} : valV (knK k) (.inl i) = (look k i).map V.int := by
  unfold valV look knK
  induction k with
  | nil => rfl
  | cons p r ih =>
    rw [List.map_cons, List.find?_cons, List.find?_cons]
    by_cases h : p.1 = i
    · simp [h]
    · have h2 : ¬ (Sum.inl p.1 : Key) = .inl i := fun z => h (Sum.inl.inj z)
      simp only [h, h2, decide_false]
      exact ih
theorem valV_knP {k : KnP} {p : Pl} : valV (knPK k) (plK p) = (look k p).map V.int := by
  unfold valV look knPK
  induction k with
  | nil => rfl
  | cons q r ih =>
    rw [List.map_cons, List.find?_cons, List.find?_cons]
    by_cases h : q.1 = p
    · simp [h]
    · have h2 : ¬ plK q.1 = plK p := fun z => h (by
        obtain ⟨⟨a, b⟩, c⟩ := q
        obtain ⟨a2, b2⟩ := p
        unfold plK at z
        simp only [List.cons.injEq, Sum.inl.injEq, and_true] at z
        obtain ⟨z1, z2⟩ := z
        have z2 : b = b2 := by omega
        rw [z1, z2])
      simp only [h, h2, decide_false]
      exact ih
theorem asked_data {I H : Hp} (sub : Same I H) : ∀ {asked : List V}, (∀ v ∈ asked, ∃ p pl, v = .ref p ∧ I p = some (.tup ((plK pl).map kV))) → ∃ ds, DpAll K H asked ds ∧ PyData.canLayAll0 ds = true ∧ PyData.depthAll ds ≤ 2
  | [], _ => ⟨[], .nil, rfl, Nat.zero_le _⟩
  | v :: r, h => by
    obtain ⟨p, pl, rfl, hp⟩ := h v List.mem_cons_self
    obtain ⟨ds, d1, d2, d3⟩ := asked_data sub fun v hv => h v (List.mem_cons_of_mem _ hv)
    refine ⟨.tuple [.int pl.1, .int pl.2] :: ds, .cons (.tup (SqT.of (sub _ _ hp)) (.cons (.int _) (.cons (.int _) .nil))) d1, ?_, ?_⟩
    · show (PyData.canLay0 (.tuple [.int pl.1, .int pl.2]) && PyData.canLayAll0 ds) = true
      rw [d2]
      rfl
    · show max (PyData.depth (.tuple [.int pl.1, .int pl.2])) (PyData.depthAll ds) ≤ 2
      have : PyData.depth (.tuple [.int pl.1, .int pl.2]) ≤ 2 := by simp [PyData.depth, PyData.depthAll]
      omega
abbrev N__law_read : List Str := ["_law_run_here", "_law_row", "_law_i", "_law_inner_here", "_law_known", "_law_place"]
theorem sc__law_read : FnScope N__law_read ["_law_run_here", "_law_row", "_law_i"] (defScope (top 85)) := fnScope_ok (by decide +kernel)
theorem ok_read {d k : Nat} (D : DefAt K mg "_law_read" 85) (T : Txt K mg) (c__law_out : Cl P w K mg base k "_law_out" (spOut d)) : Cl P w K mg base (k + 1) "_law_read" (spRead d) := by
  refine cl_mk (i := 85) (N := N__law_read) (ps := ["_law_run_here", "_law_row", "_law_i"]) D sc__law_read (fun _ _ _ _ _ _ us hl => match us, hl with | [_, _, _], _ => rfl) ?_ ?_
  · rintro vs H Q E ⟨c, I, r, q, g, ka, kn, gk, most, asked, gones, s, fv, vv, f, v, rfl, _⟩
    rfl
  rintro f0 cdv A outer s0 H vs Q E hr ⟨c, I, r, q, g, ka, kn, gk, most, asked, gones, s, fv, vv, f, v, rfl, pre, hf, hv, post⟩
  refine ⟨_, (pss_cons (ps_if (pt_cmpR op_eq (pe_ix ix_tup (pv 1) pe_int (fun _ _ => rfl)) pe_str (nomark _)) (pss_cons (ps_set (i := 3) sc__law_read.nd rfl (Or.inl rfl) (pe_callTy call_dictD (by rfl) T.dict (by decide +kernel) (pa_cons (pe_ix ix_tup (pv 1) pe_int (fun _ _ => rfl)) pa_nil))) (pss_cons (ps_dput (hu_of hr) (pv 3) (pe_ix ix_tup (pv 1) pe_int (fun _ _ => rfl)) (pv 2) rfl) (pss_one (ps_ret (pe_cl c__law_out hr (by omega) rfl (pa_cons (pv 0) (pa_cons (pe_ix ix_tup (pv 1) pe_int (fun _ _ => rfl)) (pa_cons (pv 3) pa_nil)))))))) pss_nil) (pss_cons (ps_if (pt_cmpR op_eq (pe_ix ix_tup (pv 1) pe_int (fun _ _ => rfl)) pe_str (nomark _)) (pss_one (ps_ret (pe_dget2 (hu_of hr) (pe_ix ix_tup (pv 1) pe_int (fun _ _ => rfl)) (pv 2) pe_int ⟨rfl, rfl, rfl, rfl⟩))) pss_nil) (pss_cons (ps_if (pt_cmpR op_eq (pe_ix ix_tup (pv 1) pe_int (fun _ _ => rfl)) pe_str (nomark _)) (pss_cons (ps_set (i := 4) sc__law_read.nd rfl (Or.inl rfl) (pe_ix ix_list (pe_dget (hu_of hr) (pv 0) pe_str (fun _ _ => rfl)) (pe_ix ix_tup (pv 1) pe_int (fun _ _ => rfl)) (fun _ _ => rfl))) (pss_cons (ps_if (pt_cmp (pc_dnotin (hu_of hr) (pv 2) (pv 4))) (pss_one (ps_dput (hu_of hr) (pv 0) pe_str (pe_tup (pa_cons pe_str (pa_cons (pe_ix ix_tup (pv 1) pe_int (fun _ _ => rfl)) (pa_cons (pv 2) pa_nil)))) rfl)) pss_nil) (pss_one (ps_ret (pe_dget1 (hu_of hr) (pv 4) (pv 2) ⟨rfl, rfl, rfl, rfl⟩))))) pss_nil) (pss_cons (ps_set (i := 5) sc__law_read.nd rfl (Or.inl rfl) (pe_tup (pa_cons (pv 2) (pa_cons (pe_ix ix_tup (pv 1) pe_int (fun _ _ => rfl)) pa_nil)))) (pss_cons (ps_if (pt_cmp (pc_dnotin (hu_of hr) (pv 5) (pe_dget (hu_of hr) (pv 0) pe_str (fun _ _ => rfl)))) (pss_cons (ps_dput (hu_of hr) (pv 0) pe_str (pe_tup (pa_cons pe_str (pa_cons (pv 5) pa_nil))) rfl) (pss_one (ps_ret pe_non))) pss_nil) (pss_cons (ps_if (pt_cmpR (op_notInD (hu65 hr)) (pv 5) (pe_dget (hu_of hr) (pv 0) pe_str (fun _ _ => rfl)) (by rfl)) (pss_one (ps_expr (pe_bm PySem.F.plainAttrs_list PySem.F.slot_list_append PySem.F.type_list_append mt_append (pe_dget (hu_of hr) (pv 0) pe_str (fun _ _ => rfl)) (pa_cons (pv 5) pa_nil)))) pss_nil) (pss_one (ps_ret (pe_dget (hu_of hr) (pe_dget (hu_of hr) (pv 0) pe_str (fun _ _ => rfl)) (pv 5) (fun _ _ => rfl)))))))))), ?_⟩
  have w0 := W.start pre.hs
  have hR : H r = some (.dK (lrunK (.ref ka) .non (.ref q) (.ref g) .non (s.steps : Int) (most : Int))) := w0.get (i := 0) rfl
  cases v with
  | int iv =>
    cases hv
    cases f with
    | made x b e =>
      obtain ⟨p, vb, d1, kvs, rfl, hp, hb, hd, hl, he⟩ := hf
      unfold readAt at post
      dsimp only at post
      by_cases hlen : e.len < 1000
      · rw [if_pos hlen] at post
        refine ⟨_, rfl, p, _, _, _, rfl, rfl, SqT.of (w0.i hp), rfl, rfl, _, rfl, tT (by rfl) ?_⟩
        refine ⟨_, rfl, p, _, _, _, rfl, rfl, SqT.of (w0.i hp), rfl, d1, kvs, rfl, .inl (w0.i hd), fun n hn => ?_⟩
        have w1 := w0.newM hn (.dK kvs)
        have hp1 : upd H n (.dK kvs) p = some _ := w1.i hp
        refine ⟨_, rfl, _, rfl, _, rfl, p, _, _, _, rfl, rfl, SqT.of hp1, rfl, n, _, rfl, DPut.k (k := .inr x) upd_same (small (by omega)), ?_⟩
        have w2 := w1.set (i := 3) rfl (.dK (putK kvs (.inr x) (.int iv)))
        have w3 := w2.freeze (M := lM r q g ka most asked gones .non s.steps) (w0.notA hn)
        have s3 : Same I (upd I n (.dK (putK kvs (.inr x) (.int iv)))) := w3.st.same
        refine ⟨_, rfl, _, rfl, p, _, _, _, rfl, rfl, SqT.of (w3.i (s3 _ _ hp)), rfl, _, rfl, ?_⟩
        refine ⟨c, _, r, q, g, ka, kn, gk, most, asked, gones, s, vb, n, b, e.put x (.int iv), rfl, ⟨w3.hs, pre.ok.less.mono s3, pre.mo, pre.sm⟩, hb.mono s3, ⟨_, upd_same, ?_, (he.mono s3).put rfl⟩, post.from w3 (List.prefix_refl _)⟩
        have := length_putK kvs (.inr x) (.int iv)
        show _ ≤ e.len + 1
        omega
      · rw [if_neg hlen] at post
        exact post.elim
    | found kf =>
      obtain ⟨p, d1, rfl, hp, hd⟩ := hf
      refine ⟨_, rfl, p, _, _, _, rfl, rfl, SqT.of (w0.i hp), rfl, rfl, _, rfl, tF (by decide +kernel) ?_⟩
      refine ⟨_, rfl, p, _, _, _, rfl, rfl, SqT.of (w0.i hp), rfl, rfl, _, rfl, tT (by rfl) ?_⟩
      refine ⟨_, rfl, p, _, _, _, rfl, rfl, SqT.of (w0.i hp), rfl, d1, rfl, .inl ⟨_, .inl (w0.i hd)⟩, _, rfl, _, DGi (w0.i hd) rfl, ?_⟩
      refine LPost.ok_now post w0 pre.ok.less pre.sm ?_
      show _ = V.int _
      rw [valV_kn]
      cases look kf iv <;> rfl
    | gone n =>
      obtain ⟨p, rfl, hp⟩ := hf
      unfold readAt at post
      dsimp only at post
      by_cases hi : 0 ≤ iv ∧ iv < 4
      · rw [if_pos hi] at post
        cases hg : gk n with
        | none => rw [hg] at post; exact post.elim
        | some kv =>
          rw [hg] at post
          dsimp only at post
          obtain ⟨a, e1, e2⟩ := pre.ok.gk n kv hg
          have hG : H g = some (.lst gones) := w0.get (i := 2) rfl
          refine ⟨_, rfl, p, _, _, _, rfl, rfl, SqT.of (w0.i hp), rfl, rfl, _, rfl, tF (by decide +kernel) ?_⟩
          refine ⟨_, rfl, p, _, _, _, rfl, rfl, SqT.of (w0.i hp), rfl, rfl, _, rfl, tF (by decide +kernel) ?_⟩
          refine ⟨_, rfl, p, _, _, _, rfl, rfl, SqT.of (w0.i hp), rfl, rfl, _, rfl, tT (by rfl) ?_⟩
          refine ⟨_, rfl, r, _, rfl, DG hR lr_gone, _, rfl, p, _, _, _, rfl, rfl, SqT.of (w0.i hp), rfl, g, _, _, _, rfl, rfl, SqL.of hG, atI_nat e1, ?_⟩
          refine ⟨_, rfl, _, rfl, a, _, rfl, DGi (w0.i e2) rfl, _, rfl, ?_⟩
          rw [valV_kn]
          cases hl : look kv iv with
          | some dg =>
            rw [hl] at post
            refine bF (by rfl) ?_
            refine ⟨_, rfl, a, rfl, .inl ⟨_, .inl (w0.i e2)⟩, _, rfl, _, DGi (w0.i e2) rfl, ?_⟩
            refine LPost.ok_now post w0 pre.ok.less pre.sm ?_
            show _ = V.int _
            rw [valV_kn, hl]
            rfl
          | none =>
            rw [hl] at post
            refine bT (by rfl) ?_
            refine ⟨_, rfl, p, _, _, _, rfl, rfl, SqT.of (w0.i hp), rfl, _, rfl, (by show 3 ≤ sizeLine; decide), fun n1 hn1 => ?_⟩
            have w1 := w0.newI hn1 (.tup [SS "gone", .int (n : Int), .int iv])
            have s1 := w0.upI hn1 (.tup [SS "gone", .int (n : Int), .int iv])
            refine ⟨_, rfl, r, _, rfl, DP (w1.get (i := 0) rfl) lp_stop lr_len, ?_⟩
            have w2 := w1.set (i := 0) rfl (.dK (lrunK (.ref ka) .non (.ref q) (.ref g) (.ref n1) (s.steps : Int) (most : Int)))
            refine ⟨_, rfl, a, rfl, .inl ⟨_, .inl (w2.i (s1 _ _ e2))⟩, _, rfl, _, DGi (w2.i (s1 _ _ e2)) rfl, ?_⟩
            rw [valV_kn, hl]
            exact post _ _ _ asked gones w2.st w2.hs ⟨n1, rfl, upd_same⟩ (pre.ok.less.mono s1) (List.prefix_refl _) (.inr pre.sm)
      · rw [if_neg hi] at post
        exact post.elim
    | given kk =>
      obtain ⟨p, rfl, hp⟩ := hf
      unfold readAt at post
      dsimp only at post
      by_cases hi : 0 ≤ iv ∧ iv < 4
      · rw [if_pos hi] at post
        refine ⟨_, rfl, p, _, _, _, rfl, rfl, SqT.of (w0.i hp), rfl, rfl, _, rfl, tF (by decide +kernel) ?_⟩
        refine ⟨_, rfl, p, _, _, _, rfl, rfl, SqT.of (w0.i hp), rfl, rfl, _, rfl, tF (by decide +kernel) ?_⟩
        refine ⟨_, rfl, p, _, _, _, rfl, rfl, SqT.of (w0.i hp), rfl, rfl, _, rfl, tF (by decide +kernel) ?_⟩
        refine ⟨_, rfl, _, rfl, p, _, _, _, rfl, rfl, SqT.of (w0.i hp), rfl, (by show 2 ≤ sizeLine; decide), fun n hn => ?_⟩
        have w1 := w0.newI hn (.tup [.int iv, .int (kk : Int)])
        have s1 := w0.upI hn (.tup [.int iv, .int (kk : Int)])
        have hn1 : upd I n (.tup [.int iv, .int (kk : Int)]) n = some (.tup ((plK (iv, kk)).map kV)) := upd_same
        have ok1 := pre.ok.mono s1
        refine ⟨_, rfl, _, rfl, r, _, rfl, DG (w1.get (i := 0) rfl) lr_known, ka, _, rfl, DGet.t (w1.i ok1.kn) (w1.i hn1), _, rfl, ?_⟩
        rw [valV_knP]
        cases hl : look kn (iv, kk) with
        | none =>
          rw [hl] at post
          refine bT (by rfl) ?_
          refine ⟨_, rfl, (by show 2 ≤ sizeLine; decide), fun n2 hn2 => ?_⟩
          have w2 := w1.newI hn2 (.tup [SS "place", .ref n])
          have s2 := w1.upI hn2 (.tup [SS "place", .ref n])
          refine ⟨_, rfl, r, _, rfl, DP (w2.get (i := 0) rfl) lp_stop lr_len, ?_⟩
          have w3 := w2.set (i := 0) rfl (.dK (lrunK (.ref ka) .non (.ref q) (.ref g) (.ref n2) (s.steps : Int) (most : Int)))
          exact post _ _ _ asked gones w3.st w3.hs ⟨n2, n, rfl, upd_same, s2 _ _ hn1⟩ (ok1.less.mono s2) (List.prefix_refl _) (.inr pre.sm)
        | some dg =>
          rw [hl] at post
          refine bF (by rfl) ?_
          obtain ⟨ds, hd1, hd2, hd3⟩ := asked_data w1.hs.sub ok1.ask
          have hq : upd H n (.tup [.int iv, .int (kk : Int)]) q = some (.lst asked) := w1.get (i := 1) rfl
          refine ⟨_, rfl, _, rfl, r, _, rfl, DG (w1.get (i := 0) rfl) lr_asked, .tuple [.int iv, .int kk], ds, .tup (SqT.of (w1.i hn1)) (.cons (.int _) (.cons (.int _) .nil)), .lst (SqL.of hq) hd1, ?_, ?_, _, rfl, ?_⟩
          · unfold SeqAt.shaped
            simp [PyData.depth, PyData.depthAll, PyData.canLay0, PyData.canLayAll0]
          · unfold SeqAt.shaped
            have : PyData.canLay0 (.list ds) = true := hd2
            have h4 : PyData.depth (.list ds) ≤ 64 := by
              show PyData.depthAll ds + 1 ≤ 64
              omega
            rw [this, decide_eq_true h4]
            rfl
          have fin : ∀ (asked' : List V) (H2 : Hp), W [r, q, g] I H (upd I n (.tup [.int iv, .int (kk : Int)])) (lM r q g ka most asked' gones .non s.steps) H2 → LOk c (upd I n (.tup [.int iv, .int (kk : Int)])) ka kn gk asked' gones s →
              (tRet (tDGet (tDGet (tVar 0) (tC (V.str ("known" : Str)))) (tVar 5))) { nx := fun _ H' => Q .non H', rt := Q } [some (.ref r), some (.ref p), some (.int iv), none, none, some (.ref n)] H2 := fun asked' H2 w2 ok2 => by
            refine ⟨_, rfl, r, _, rfl, DG (w2.get (i := 0) rfl) lr_known, _, rfl, ka, V.int dg, rfl, ?_, ?_⟩
            · have z := DGet.t (w2.i ok2.kn) (w2.i hn1)
              rw [valV_knP, hl] at z
              exact z
            · exact post.ok_now w2 ok2 pre.sm rfl
          refine ite2 (fun _ => ?_) (fun _ => ?_)
          · have hla : asked.length < sizeLine := small (by have := pre.ok.askl; have := pre.sm; have := pre.mo; unfold MOST at *; omega)
            refine ⟨_, rfl, r, _, rfl, DG (w1.get (i := 0) rfl) lr_asked, .inl ⟨rfl, _, SqL.of hq⟩, _, rfl, q, asked, _, rfl, rfl, hq, hla, ?_⟩
            refine fin (asked ++ [V.ref n]) _ (w1.set (i := 1) rfl (.lst (asked ++ [V.ref n]))) ⟨ok1.kn, fun v hv => ?_, ?_, ok1.gl, ok1.less.gs, ok1.gk⟩
            · rcases List.mem_append.mp hv with z | z
              · exact ok1.ask v z
              · rw [List.mem_singleton.mp z]
                exact ⟨n, _, rfl, hn1⟩
            · have := ok1.askl
              rw [List.length_append, List.length_singleton]
              omega
          · exact fin asked _ w1 ok1.less
      · rw [if_neg hi] at post
        exact post.elim
    | _ => exact post.elim
  | _ => cases f <;> exact post.elim
end
end KW
set_option Elab.async false
set_option linter.all false
set_option maxRecDepth 100000
set_option maxHeartbeats 4000000
/-! L3: the parts of a term, one by one. -/
namespace KW
open PySem PySem.Spec PyProof.Rows L2 
section
variable {P : Program} {w : World} {K : PySem.W.Frag} {mg : Str → Option Value} {base : Heap}

theorem HS.left {I H : Hp} {M1 M2 : List (Addr × HO)} (h : HS I (M1 ++ M2) H) : HS I M1 H := by
  refine ⟨h.sub, fun q hq => h.mem q (List.mem_append_left _ hq), fun q hq => h.out q (List.mem_append_left _ hq), ?_⟩
  have nd := h.nd
  rw [List.map_append] at nd
  exact (List.nodup_append.mp nd).1
theorem HS.noU {I H : Hp} {M : List (Addr × HO)} {p : Addr} {o o' : HO} (h : HS I (M ++ [(p, o)]) H) : Same I (upd I p o') := same_up (h.out (p, o) (List.mem_append_right _ List.mem_cons_self))
theorem TmsAt.get {I : Hp} : ∀ {ts : List Tm} {us : List V} {i : Nat} {u : V}, TmsAt I ts us → us[i]? = some u → ∃ t, ts.drop i = t :: ts.drop (i + 1) ∧ TmAt I t u
  | [], us, i, u, h, e => by rw [show us = [] from h] at e; simp at e
  | t :: ts, us, 0, u, ⟨v, r, e1, h1, h2⟩, e => by
    rw [e1] at e
    have e : v = u := by simpa using e
    subst e
    exact ⟨t, rfl, h1⟩
  | t :: ts, us, i + 1, u, ⟨v, r, e1, h1, h2⟩, e => by
    rw [e1] at e
    obtain ⟨t', g1, g2⟩ := TmsAt.get (i := i) h2 (by simpa using e)
    exact ⟨t', g1, g2⟩
theorem TmsAt.len {I : Hp} : ∀ {ts : List Tm} {us : List V}, TmsAt I ts us → us.length = ts.length
  | [], us, h => by rw [show us = [] from h]; rfl
  | t :: ts, us, ⟨v, r, e1, h1, h2⟩ => by rw [e1, List.length_cons, List.length_cons, TmsAt.len h2]
theorem VAts.len {sd : Side} {I : Hp} : ∀ {ts : List Val} {us : List V}, VAts sd I ts us → us.length = ts.length
  | [], us, h => by rw [show us = [] from h]; rfl
  | t :: ts, us, ⟨v, r, e1, h1, h2⟩ => by rw [e1, List.length_cons, List.length_cons, VAts.len h2]
abbrev N__law_all_out : List Str := ["_law_run_here", "_law_terms", "_law_env", "_law_found", "_law_term"]
theorem sc__law_all_out : FnScope N__law_all_out ["_law_run_here", "_law_terms", "_law_env"] (defScope (top 87)) := fnScope_ok (by decide +kernel)
theorem ok_all {d k : Nat} (D : DefAt K mg "_law_all_out" 87) (T : Txt K mg) (c__law_out : Cl P w K mg base k "_law_out" (spOut d)) : Cl P w K mg base (k + 1) "_law_all_out" (spAll d) := by
  refine cl_mk (i := 87) (N := N__law_all_out) (ps := ["_law_run_here", "_law_terms", "_law_env"]) D sc__law_all_out (fun _ _ _ _ _ _ us hl => match us, hl with | [_, _, _], _ => rfl) ?_ ?_
  · rintro vs H Q E ⟨c, I, r, q, g, ka, kn, gk, most, asked, gones, s, p, us, e, ts, env, rfl, _⟩
    rfl
  rintro f0 cdv A outer s0 H vs Q E hr ⟨c, I, r, q, g, ka, kn, gk, most, asked, gones, s, p, us, e, ts, env, rfl, pre, hp, hul, hts, hen, post⟩
  refine ⟨_, (pss_cons (ps_set (i := 3) sc__law_all_out.nd rfl (Or.inl rfl) (pe_lst pa_nil)) (pss_cons (ps_for PassesOwn.never rfl (pi_tup (pv 1)) (pg_name (i := 4) sc__law_all_out.nd rfl (Or.inl rfl)) (pss_cons (ps_expr (pe_bm PySem.F.plainAttrs_list PySem.F.slot_list_append PySem.F.type_list_append mt_append (pv 3) (pa_cons (pe_cl c__law_out hr (by omega) rfl (pa_cons (pv 0) (pa_cons (pv 4) (pa_cons (pv 2) pa_nil)))) pa_nil))) (pss_one (ps_if (pt_cmpR op_notN (pe_dget (hu_of hr) (pv 0) pe_str (fun _ _ => rfl)) pe_non (nomark _)) (pss_one (ps_ret pe_non)) pss_nil)))) (pss_one (ps_ret (pv 3))))), ?_⟩
  have w0 := W.start pre.hs
  refine ⟨Nat.zero_le _, fun l hl => ?_⟩
  have w1 := w0.newM hl (.lst [])
  have nl := w0.notA hl
  refine ⟨_, rfl, p, rfl, ⟨_, SqT.of (w1.i hp)⟩, for_tup (K := K) (a := p) (xs := us) (fun i σ H' => ∃ (v4 : Option V) (I' : Hp) (asked' gones' : List V) (s' : S) (vals : List Val) (us' : List V),
    σ = [some (.ref r), some (.ref p), some (.ref e), some (.ref l), v4] ∧ W [r, q, g] I H I' (lM r q g ka most asked' gones' .non s'.steps ++ [(l, .lst us')]) H' ∧ LOk c I' ka kn gk asked' gones' s' ∧ gones <+: gones' ∧ s'.steps ≤ most ∧
      VAts .law I' vals us' ∧ us'.length = i ∧ LPost c okL I H r q g ka kn gk most gones Q ((evAll (ev most kn d) env gk (ts.drop i) s').bind fun vs s => .ok (vals ++ vs) s)) ?_ ?_ ?_ ?_⟩
  · refine ⟨none, I, asked, gones, s, [], [], rfl, w1, pre.ok, List.prefix_refl _, pre.sm, rfl, rfl, ?_⟩
    have e : (fun (vs : List Val) (s : S) => R.ok ([] ++ vs) s) = fun vs s => .ok vs s := rfl
    rw [List.drop_zero, e, bind_ok]
    exact post
  · rintro i σ H' hi ⟨v4, I', asked', gones', s', vals, us', rfl, w2, _⟩
    exact SqT.of (w2.i (w2.st.same _ _ hp))
  · rintro i x σ H' hx ⟨v4, I', asked', gones', s', vals, us', rfl, w2, ok2, pf2, sm2, hv2, hl2, post2⟩
    obtain ⟨t, ht, hta⟩ := TmsAt.get hts hx
    have s2 := w2.st.same
    have hi : i < us.length := (List.getElem?_eq_some_iff.mp hx).1
    refine ⟨_, rfl, .inl ⟨rfl, _, SqL.of (w2.get (i := 3) rfl)⟩, _, rfl, _, rfl, _, rfl, ?_⟩
    refine ⟨c, I', r, q, g, ka, kn, gk, most, asked', gones', s', x, e, t, env, rfl, ⟨w2.hs.left, ok2, pre.mo, sm2⟩, hta.mono s2, hen.mono s2, ?_⟩
    rw [ht] at post2
    unfold evAll at post2
    cases hev : ev most kn d t env gk s' with
    | ok v s3 =>
      rw [hev] at post2
      rintro u I3 H3 asked3 gones3 st3 hs3 ok3 pf3 sm3 hv3
      have w3 := w2.call st3 hs3 rfl
      refine ⟨l, us', u, rfl, rfl, w3.get (i := 3) rfl, small (by omega), ?_⟩
      have w4 := w3.set (i := 3) rfl (.lst (us' ++ [u]))
      refine ⟨_, rfl, r, _, rfl, DG (w4.get (i := 0) rfl) lr_stop, rfl, _, rfl, nF rfl ?_⟩
      refine ⟨_, I3, asked3, gones3, s3, vals ++ [v], us' ++ [u], rfl, w4, ok3, pf2.trans pf3, sm3, (hv2.mono st3.same).snoc hv3, by rw [List.length_append, List.length_singleton, hl2], ?_⟩
      have e : ((evAll (ev most kn d) env gk (ts.drop (i + 1)) s3).bind fun vs s => R.ok (v :: vs) s).bind (fun vs s => R.ok (vals ++ vs) s) = (evAll (ev most kn d) env gk (ts.drop (i + 1)) s3).bind fun vs s => R.ok (vals ++ [v] ++ vs) s := by
        rw [bind_assoc]
        congr 1
        funext vs s
        show R.ok (vals ++ v :: vs) s = _
        rw [List.append_assoc]
        rfl
      rw [← e]
      exact post2
    | st w3 s3 =>
      rw [hev] at post2
      rintro x3 I3 H3 asked3 gones3 st3 hs3 hx3 ok3 pf3 sm3
      obtain ⟨px, rfl⟩ := hx3.ne
      have w3' := w2.call st3 hs3 rfl
      refine ⟨l, us', .non, rfl, rfl, w3'.get (i := 3) rfl, small (by omega), ?_⟩
      have w4 := w3'.set (i := 3) rfl (.lst (us' ++ [.non]))
      refine ⟨_, rfl, r, _, rfl, DG (w4.get (i := 0) rfl) lr_stop, rfl, _, rfl, nT (by intro z; cases z) ?_⟩
      have w5 := W.drop (M1 := lM r q g ka most asked3 gones3 (.ref px) s3.steps) w4 fun a ha => ha
      exact post2 _ _ _ asked3 gones3 w5.st w5.hs hx3 ok3 (pf2.trans pf3) sm3
    | die =>
      rw [hev] at post2
      exact post2.elim
  · rintro σ H' ⟨v4, I', asked', gones', s', vals, us', rfl, w2, ok2, pf2, sm2, hv2, hl2, post2⟩
    have z : ts.drop us.length = [] := List.drop_eq_nil_of_le (by rw [hts.len]; exact Nat.le_refl _)
    rw [z] at post2
    have w3 := w2.freeze nl
    have s3 := w2.hs.noU (o' := .lst us')
    refine ⟨_, rfl, ?_⟩
    refine post2 _ _ _ asked' gones' w3.st w3.hs (ok2.mono s3) pf2 sm2 ⟨l, us', rfl, upd_same, ?_⟩
    rw [List.append_nil]
    exact hv2.mono s3
end
end KW
set_option Elab.async false
set_option linter.all false
set_option maxRecDepth 100000
set_option maxHeartbeats 4000000
/-! L4: what a prim gives. -/
namespace KW
open PySem PySem.Spec PyProof.Rows L2 
section
variable {P : Program} {w : World} {K : PySem.W.Frag} {mg : Str → Option Value} {base : Heap}

/-- what stands stays, new objects come -/
theorem W.same {A : List Addr} {I0 H0 I H H' : Hp} {M : List (Addr × HO)} (w : W A I0 H0 I M H) (h : Same H H') : W A I0 H0 I M H' :=
  ⟨⟨w.hs.sub.trans h, fun q hq => h _ _ (w.hs.mem q hq), w.hs.out, w.hs.nd⟩, ⟨w.st.same, fun b o e hb => h _ _ (w.st.fr b o e hb), w.st.new⟩, w.ad, fun a ha z => by
    cases q : H a with
    | none => exact w.aa a ha q
    | some u => rw [h _ _ q] at z; cases z⟩
def spPrim : Sp := fun vs H Q _ => ∃ (op : Str) (a b r : Int), vs = [.str op, .int a, .int b] ∧ prim op a b = some r ∧ ∀ H', Same H H' → Q (.int r) H'
theorem prim_range {op : Str} {a b r : Int} (h : prim op a b = some r) : 0 ≤ a ∧ a ≤ TOP ∧ 0 ≤ b ∧ b ≤ TOP := by
  unfold prim at h
  split at h
  · rename_i z
    exact z
  · cases h
theorem prim_op {op : Str} {a b r : Int} (h : prim op a b = some r) :
    (op = "add" ∧ r = (if a + b ≤ TOP then a + b else TOP)) ∨ (op = "times" ∧ r = (if a * b ≤ TOP then a * b else TOP)) ∨ (op = "less" ∧ r = (if a - b ≤ 0 then 0 else a - b)) ∨
    (op = "over" ∧ r = (if b = 0 then 0 else a / b)) ∨ (op = "rest" ∧ r = (if b = 0 then 0 else a % b)) ∨ (op = "below" ∧ r = (if a < b then 1 else 0)) ∨ (op = "same" ∧ r = (if a = b then 1 else 0)) := by
  unfold prim at h
  rw [if_pos (prim_range h)] at h
  by_cases h1 : op = "add"
  · rw [if_pos h1] at h; exact .inl ⟨h1, (Option.some.inj h).symm⟩
  rw [if_neg h1] at h
  by_cases h2 : op = "times"
  · rw [if_pos h2] at h; exact .inr (.inl ⟨h2, (Option.some.inj h).symm⟩)
  rw [if_neg h2] at h
  by_cases h3 : op = "less"
  · rw [if_pos h3] at h; exact .inr (.inr (.inl ⟨h3, (Option.some.inj h).symm⟩))
  rw [if_neg h3] at h
  by_cases h4 : op = "over"
  · rw [if_pos h4] at h; exact .inr (.inr (.inr (.inl ⟨h4, (Option.some.inj h).symm⟩)))
  rw [if_neg h4] at h
  by_cases h5 : op = "rest"
  · rw [if_pos h5] at h; exact .inr (.inr (.inr (.inr (.inl ⟨h5, (Option.some.inj h).symm⟩))))
  rw [if_neg h5] at h
  by_cases h6 : op = "below"
  · rw [if_pos h6] at h; exact .inr (.inr (.inr (.inr (.inr (.inl ⟨h6, (Option.some.inj h).symm⟩)))))
  rw [if_neg h6] at h
  by_cases h7 : op = "same"
  · rw [if_pos h7] at h; exact .inr (.inr (.inr (.inr (.inr (.inr ⟨h7, (Option.some.inj h).symm⟩)))))
  rw [if_neg h7] at h
  cases h
theorem top_is : (10 : Int) ^ ((18 : Int).toNat) - 1 = TOP := by decide +kernel
theorem lt64 {a : Int} (h0 : 0 ≤ a) (h : a ≤ TOP) : -(2 ^ 64) < a ∧ a < 2 ^ 64 := by unfold TOP at h; omega
theorem divW {a b : Int} (h0 : 0 ≤ b) (h1 : b ≤ TOP) (h : b ≠ 0) : CDivW a b := wide_div (b := 64) (by omega) (by unfold TOP at h1; omega) (by decide) (by decide)
theorem s2 : 2 ≤ sizeLine := by decide
abbrev N__law_prim : List Str := ["_law_word", "_law_one", "_law_two", "_law_top"]
theorem sc__law_prim : FnScope N__law_prim ["_law_word", "_law_one", "_law_two"] (defScope (top 86)) := fnScope_ok (by decide +kernel)
theorem ok_prim (D : DefAt K mg "_law_prim" 86) (T : Txt K mg) : Cl P w K mg base 1 "_law_prim" spPrim := by
  refine cl_mk (i := 86) (N := N__law_prim) (ps := ["_law_word", "_law_one", "_law_two"]) D sc__law_prim (fun _ _ _ _ _ _ us hl => match us, hl with | [_, _, _], _ => rfl) ?_ ?_
  · rintro vs H Q E ⟨op, a, b, r, rfl, _⟩
    rfl
  rintro f0 cdv A outer s0 H vs Q E hr ⟨op, a, b, r, rfl, hp, q⟩
  obtain ⟨a0, a1, b0, b1⟩ := prim_range hp
  refine ⟨_, (pss_cons (ps_set (i := 3) sc__law_prim.nd rfl (Or.inl rfl) (pe_op op_sub (pe_op op_pow pe_int pe_int) pe_int)) (pss_cons (ps_if (pt_cmpR op_in_seq (pv 0) (pe_tup (pa_cons pe_str (pa_cons pe_str pa_nil))) (by rfl)) (pss_one (ps_ret (pe_callB (call_min2 rfl) (by rfl) T.min (by decide +kernel) (pa_cons (pv 3) (pa_cons (pe_ifExp (pt_cmpR op_eq (pv 0) pe_str (nomark _)) (pe_op op_add (pv 1) (pv 2)) (pe_op op_mul (pv 1) (pv 2))) pa_nil))))) pss_nil) (pss_cons (ps_if (pt_cmpR op_eq (pv 0) pe_str (nomark _)) (pss_one (ps_ret (pe_callB (call_max2 rfl) (by rfl) T.max (by decide +kernel) (pa_cons pe_int (pa_cons (pe_op op_sub (pv 1) (pv 2)) pa_nil))))) pss_nil) (pss_cons (ps_if (pt_cmpR op_in_seq (pv 0) (pe_tup (pa_cons pe_str (pa_cons pe_str pa_nil))) (by rfl)) (pss_cons (ps_if (pt_cmpR op_eq (pv 2) pe_int (nomark _)) (pss_one (ps_ret pe_int)) pss_nil) (pss_one (ps_ret (pe_ifExp (pt_cmpR op_eq (pv 0) pe_str (nomark _)) (pe_op op_fdivW (pv 1) (pv 2)) (pe_op op_mod (pe_callTy call_int1 (by rfl) T.int (by decide +kernel) (pa_cons (pv 1) pa_nil)) (pv 2)))))) pss_nil) (pss_one (ps_ret (pe_callTy call_int1 (by rfl) T.int (by decide +kernel) (pa_cons (pe_ifExp (pt_cmpR op_eq (pv 0) pe_str (nomark _)) (pe_cmpR op_lt (pv 1) (pv 2) (nomark _)) (pe_cmpR op_eq (pv 1) (pv 2) (nomark _))) pa_nil)))))))), ?_⟩
  refine ⟨_, _, rfl, rfl, (by show (0 : Int) ≤ 18 ∧ (18 : Int) ≤ 1000000 ∧ (10 : Int).natAbs < 2 ^ 64; decide), _, _, rfl, rfl, ?_⟩
  refine ⟨_, rfl, s2, fun p hp1 => ⟨p, _, rfl, .inr (SqT.of upd_same), rfl, rfl, _, rfl, ?_⟩⟩
  have e1 := same_up (o := .tup [SS "add", SS "times"]) hp1
  rcases prim_op hp with ⟨rfl, rfl⟩ | ⟨rfl, rfl⟩ | ⟨rfl, rfl⟩ | ⟨rfl, rfl⟩ | ⟨rfl, rfl⟩ | ⟨rfl, rfl⟩ | ⟨rfl, rfl⟩
  · refine bT (by decide +kernel) ?_
    refine ⟨_, rfl, _, rfl, rfl, _, rfl, tT rfl ⟨_, rfl, _, rfl, _, _, rfl, rfl, _, _, rfl, ?_⟩⟩
    rw [top_is]
    have e : (if a + b < TOP then a + b else TOP) = if a + b ≤ TOP then a + b else TOP := by split <;> split <;> omega
    show Q (.int (if a + b < TOP then a + b else TOP)) _
    rw [e]
    exact q _ e1
  · refine bT (by decide +kernel) ?_
    refine ⟨_, rfl, _, rfl, rfl, _, rfl, tF (by decide +kernel) ⟨_, rfl, _, rfl, _, _, rfl, rfl, .inl (lt64 a0 a1), _, _, rfl, ?_⟩⟩
    rw [top_is]
    have e : (if a * b < TOP then a * b else TOP) = if a * b ≤ TOP then a * b else TOP := by split <;> split <;> omega
    show Q (.int (if a * b < TOP then a * b else TOP)) _
    rw [e]
    exact q _ e1
  · refine bF (by decide +kernel) ?_
    refine ⟨_, rfl, rfl, _, rfl, tT rfl ⟨_, rfl, _, rfl, _, _, rfl, rfl, _, _, rfl, ?_⟩⟩
    have e : (if a - b > 0 then a - b else 0) = if a - b ≤ 0 then 0 else a - b := by split <;> split <;> omega
    show Q (.int (if a - b > 0 then a - b else 0)) _
    rw [e]
    exact q _ e1
  · refine bF (by decide +kernel) ?_
    refine ⟨_, rfl, rfl, _, rfl, tF (by decide +kernel) ?_⟩
    refine ⟨_, rfl, s2, fun p2 hp2 => ⟨p2, _, rfl, .inr (SqT.of upd_same), rfl, rfl, _, rfl, bT (by decide +kernel) ?_⟩⟩
    have e2 := e1.trans (same_up (o := .tup [SS "over", SS "rest"]) hp2)
    by_cases hb : b = 0
    · subst hb
      refine ⟨_, rfl, rfl, _, rfl, tT rfl ?_⟩
      rw [if_pos rfl] at q
      exact q _ e2
    · rw [if_neg hb] at q
      refine ⟨_, rfl, rfl, _, rfl, tF (by intro z; exact hb (V.int.inj z)) ?_⟩
      exact ⟨_, rfl, rfl, _, rfl, tT rfl ⟨_, rfl, _, rfl, _, _, rfl, rfl, divW b0 b1 hb, q _ e2⟩⟩
  · refine bF (by decide +kernel) ?_
    refine ⟨_, rfl, rfl, _, rfl, tF (by decide +kernel) ?_⟩
    refine ⟨_, rfl, s2, fun p2 hp2 => ⟨p2, _, rfl, .inr (SqT.of upd_same), rfl, rfl, _, rfl, bT (by decide +kernel) ?_⟩⟩
    have e2 := e1.trans (same_up (o := .tup [SS "over", SS "rest"]) hp2)
    by_cases hb : b = 0
    · subst hb
      refine ⟨_, rfl, rfl, _, rfl, tT rfl ?_⟩
      rw [if_pos rfl] at q
      exact q _ e2
    · rw [if_neg hb] at q
      refine ⟨_, rfl, rfl, _, rfl, tF (by intro z; exact hb (V.int.inj z)) ?_⟩
      exact ⟨_, rfl, rfl, _, rfl, tF (by decide +kernel) ⟨_, rfl, .inl ⟨_, rfl, _, rfl, _, _, rfl, rfl, (by show 0 < b; omega), q _ e2⟩⟩⟩
  · refine bF (by decide +kernel) ?_
    refine ⟨_, rfl, rfl, _, rfl, tF (by decide +kernel) ?_⟩
    refine ⟨_, rfl, s2, fun p2 hp2 => ⟨p2, _, rfl, .inr (SqT.of upd_same), rfl, rfl, _, rfl, bF (by decide +kernel) ?_⟩⟩
    have e2 := e1.trans (same_up (o := .tup [SS "over", SS "rest"]) hp2)
    refine ⟨_, rfl, rfl, _, rfl, tT rfl ⟨_, rfl, _, rfl, _, _, rfl, rfl, .inr ⟨_, rfl, ?_⟩⟩⟩
    have e : (if decide (a < b) = true then (1 : Int) else 0) = if a < b then 1 else 0 := by by_cases h : a < b <;> simp [h]
    have z := q _ e2
    rw [← e] at z
    exact z
  · refine bF (by decide +kernel) ?_
    refine ⟨_, rfl, rfl, _, rfl, tF (by decide +kernel) ?_⟩
    refine ⟨_, rfl, s2, fun p2 hp2 => ⟨p2, _, rfl, .inr (SqT.of upd_same), rfl, rfl, _, rfl, bF (by decide +kernel) ?_⟩⟩
    have e2 := e1.trans (same_up (o := .tup [SS "over", SS "rest"]) hp2)
    refine ⟨_, rfl, rfl, _, rfl, tF (by decide +kernel) ⟨_, rfl, _, rfl, rfl, .inr ⟨_, rfl, ?_⟩⟩⟩
    have e : (if decide (V.int a = V.int b) = true then (1 : Int) else 0) = if a = b then 1 else 0 := by by_cases h : a = b <;> simp [h]
    have z := q _ e2
    rw [← e] at z
    exact z
end
end KW
set_option Elab.async false
set_option linter.all false
set_option maxRecDepth 100000
set_option maxHeartbeats 4000000
/-! L5: a term whose parts are worked out. -/
namespace KW
open PySem PySem.Spec PyProof.Rows L2 
section
variable {P : Program} {w : World} {K : PySem.W.Frag} {mg : Str → Option Value} {base : Heap}
theorem W.call0 {A : List Addr} {I0 H0 I I' H H' : Hp} {M1 M1' : List (Addr × HO)} (w : W A I0 H0 I M1 H) (s : Stp (M1.map (·.1)) I H I' H') (h : HS I' M1' H') (e : M1'.map (·.1) = M1.map (·.1)) : W A I0 H0 I' M1' H' := by
  have q := W.call (M1 := M1) (M2 := []) (by rw [List.append_nil]; exact w) s h e
  rw [List.append_nil] at q
  exact q
theorem VAts.one {sd : Side} {I : Hp} {x : Val} {us : List V} : VAts sd I [x] us → ∃ u, us = [u] ∧ VAt sd I x u := fun ⟨u, _, e, h, e2⟩ => ⟨u, by rw [e, e2], h⟩
theorem VAts.two {sd : Side} {I : Hp} {x y : Val} {us : List V} : VAts sd I [x, y] us → ∃ u v, us = [u, v] ∧ VAt sd I x u ∧ VAt sd I y v := fun ⟨u, _, e, h, v, _, e2, h2, e3⟩ => ⟨u, v, by rw [e, e2, e3], h, h2⟩
theorem VAts.three {sd : Side} {I : Hp} {x y z : Val} {us : List V} : VAts sd I [x, y, z] us → ∃ u v w, us = [u, v, w] ∧ VAt sd I x u ∧ VAt sd I y v ∧ VAt sd I z w := fun ⟨u, _, e, h, v, _, e2, h2, w, _, e3, h3, e4⟩ => ⟨u, v, w, by rw [e, e2, e3, e4], h, h2, h3⟩
abbrev N__law_put : List Str := ["_law_run_here", "_law_term", "_law_found", "_law_kind", "_law_value", "_law_turn"]
theorem sc__law_put : FnScope N__law_put ["_law_run_here", "_law_term", "_law_found"] (defScope (top 90)) := fnScope_ok (by decide +kernel)
theorem ok_put {d k : Nat} (D : DefAt K mg "_law_put" 90) (T : Txt K mg) (c__law_prim : Cl P w K mg base 1 "_law_prim" spPrim) (c__law_read : Cl P w K mg base (k + 1) "_law_read" (spRead d)) (c__law_called : Cl P w K mg base (k + 1) "_law_called" (spCalled d)) :
    Cl P w K mg base (k + 2) "_law_put" (spPutR d) := by
  refine cl_mk (i := 90) (N := N__law_put) (ps := ["_law_run_here", "_law_term", "_law_found"]) D sc__law_put (fun _ _ _ _ _ _ us hl => match us, hl with | [_, _, _], _ => rfl) ?_ ?_
  · rintro vs H Q E ⟨c, I, r, q, g, ka, kn, gk, most, asked, gones, s, tv, l, us, t, vl, rfl, _⟩
    rfl
  rintro f0 cdv A outer s0 H vs Q E hr ⟨c, I, r, q, g, ka, kn, gk, most, asked, gones, s, tv, l, us, t, vl, rfl, pre, htv, hl, hvl, post⟩
  refine ⟨_, (pss_cons (ps_set (i := 3) sc__law_put.nd rfl (Or.inl rfl) (pe_ix ix_tup (pv 1) pe_int (fun _ _ => rfl))) (pss_cons (ps_if (pt_cmpR op_eq (pv 3) pe_str (nomark _)) (pss_one (ps_ret (pe_cl c__law_prim hr (by omega) rfl (pa_cons (pe_ix ix_tup (pv 1) pe_int (fun _ _ => rfl)) (pa_cons (pe_ix ix_list (pv 2) pe_int (fun _ _ => rfl)) (pa_cons (pe_ix ix_list (pv 2) pe_int (fun _ _ => rfl)) pa_nil)))))) pss_nil) (pss_cons (ps_if (pt_cmpR op_eq (pv 3) pe_str (nomark _)) (pss_one (ps_ret (pe_op op_mod (pe_callTy call_int1 (by rfl) T.int (by decide +kernel) (pa_cons (pe_ix ix_list (pv 2) pe_int (fun _ _ => rfl)) pa_nil)) (pe_ix ix_tup (pv 1) pe_int (fun _ _ => rfl))))) pss_nil) (pss_cons (ps_if (pt_cmpR op_eq (pv 3) pe_str (nomark _)) (pss_one (ps_ret (pe_ix ix_list (pv 2) pe_int (fun _ _ => rfl)))) pss_nil) (pss_cons (ps_if (pt_cmpR op_eq (pv 3) pe_str (nomark _)) (pss_one (ps_ret (pe_tup (pa_cons (pe_ix ix_list (pv 2) pe_int (fun _ _ => rfl)) (pa_cons (pe_ix ix_list (pv 2) pe_int (fun _ _ => rfl)) pa_nil))))) pss_nil) (pss_cons (ps_if (pt_cmpR op_in_seq (pv 3) (pe_tup (pa_cons pe_str (pa_cons pe_str pa_nil))) (by rfl)) (pss_one (ps_ret (pe_ix ix_tup (pe_ix ix_list (pv 2) pe_int (fun _ _ => rfl)) (pe_ifExp (pt_cmpR op_eq (pv 3) pe_str (nomark _)) pe_int pe_int) (fun _ _ => rfl)))) pss_nil) (pss_cons (ps_if (pt_cmpR op_eq (pv 3) pe_str (nomark _)) (pss_one (ps_ret (pe_cl c__law_read hr (by omega) rfl (pa_cons (pv 0) (pa_cons (pe_ix ix_list (pv 2) pe_int (fun _ _ => rfl)) (pa_cons (pe_ix ix_list (pv 2) pe_int (fun _ _ => rfl)) pa_nil)))))) pss_nil) (pss_cons (ps_if (pt_cmpR op_eq (pv 3) pe_str (nomark _)) (pss_one (ps_ret (pe_cl c__law_called hr (by omega) rfl (pa_cons (pv 0) (pa_cons (pe_ix ix_list (pv 2) pe_int (fun _ _ => rfl)) (pa_cons (pe_ix ix_list (pv 2) pe_int (fun _ _ => rfl)) pa_nil)))))) pss_nil) (pss_cons (ps_set (i := 4) sc__law_put.nd rfl (Or.inl rfl) (pe_ix ix_list (pv 2) pe_int (fun _ _ => rfl))) (pss_cons (ps_for PassesOwn.never rfl (pi_range1 rfl T.range (pa_cons (pe_callB (call_min2 rfl) (by rfl) T.min (by decide +kernel) (pa_cons pe_int (pa_cons (pe_ix ix_list (pv 2) pe_int (fun _ _ => rfl)) pa_nil))) pa_nil)) (pg_name (i := 5) sc__law_put.nd rfl (Or.inl rfl)) (pss_cons (ps_set (i := 4) sc__law_put.nd rfl (Or.inl rfl) (pe_cl c__law_called hr (by omega) rfl (pa_cons (pv 0) (pa_cons (pe_ix ix_list (pv 2) pe_int (fun _ _ => rfl)) (pa_cons (pv 4) pa_nil))))) (pss_one (ps_if (pt_cmpR op_notN (pe_dget (hu_of hr) (pv 0) pe_str (fun _ _ => rfl)) pe_non (nomark _)) (pss_one (ps_ret pe_non)) pss_nil)))) (pss_one (ps_ret (pv 4))))))))))))), ?_⟩
  have w0 := W.start pre.hs
  have okl := pre.ok.less
  cases t with
  | prim op a b =>
    obtain ⟨p, q2, va, vb, rfl, hp, hq2, _, _⟩ := htv
    refine ⟨_, rfl, p, _, _, _, rfl, rfl, SqT.of (w0.i hp), rfl, ?_⟩
    match vl, hvl, post with
    | [x, y], hvl, post =>
      obtain ⟨ux, uy, rfl, hx, hy⟩ := hvl.two
      cases x with
      | int x =>
        cases y with
        | int y =>
          obtain rfl : ux = V.int x := hx
          obtain rfl : uy = V.int y := hy
          have post : LPost c okV I H r q g ka kn gk most gones Q (outV s ((prim op x y).map Val.int)) := post
          cases hpr : prim op x y with
          | none => rw [hpr] at post; exact post.elim
          | some z =>
            rw [hpr] at post
            refine ⟨_, rfl, rfl, _, rfl, tT rfl ?_⟩
            refine ⟨_, rfl, p, _, _, _, rfl, rfl, SqT.of (w0.i hp), rfl, _, rfl, l, _, _, _, rfl, rfl, SqL.of (w0.i hl), rfl, _, rfl, l, _, _, _, rfl, rfl, SqL.of (w0.i hl), rfl, ?_⟩
            exact ⟨op, x, y, z, rfl, hpr, fun H' sm => post.ok_now (w0.same sm) okl pre.sm rfl⟩
        | _ => exact post.elim
      | _ => exact post.elim
    | [], _, post => exact post.elim
    | [_], _, post => exact post.elim
    | _ :: _ :: _ :: _, _, post => exact post.elim
  | as m a =>
    obtain ⟨p, va, rfl, hp, _⟩ := htv
    refine ⟨_, rfl, p, _, _, _, rfl, rfl, SqT.of (w0.i hp), rfl, ?_⟩
    match vl, hvl, post with
    | [x], hvl, post =>
      obtain ⟨ux, rfl, hx⟩ := hvl.one
      cases x with
      | int x =>
        obtain rfl : ux = V.int x := hx
        have post : LPost c okV I H r q g ka kn gk most gones Q (outV s (if 0 ≤ x ∧ 0 < m then some (.int (x % m)) else none)) := post
        by_cases hm : 0 ≤ x ∧ 0 < m
        · rw [if_pos hm] at post
          refine ⟨_, rfl, rfl, _, rfl, tF (by decide +kernel) ?_⟩
          refine ⟨_, rfl, rfl, _, rfl, tT rfl ?_⟩
          refine ⟨_, rfl, l, _, _, _, rfl, rfl, SqL.of (w0.i hl), rfl, .inl ⟨_, rfl, _, rfl, p, _, _, _, rfl, rfl, SqT.of (w0.i hp), rfl, _, _, rfl, rfl, hm.2, ?_⟩⟩
          exact post.ok_now w0 okl pre.sm rfl
        · rw [if_neg hm] at post
          exact post.elim
      | _ => exact post.elim
    | [], _, post => exact post.elim
    | _ :: _ :: _, _, post => exact post.elim
  | count a =>
    obtain ⟨p, va, rfl, hp, _⟩ := htv
    refine ⟨_, rfl, p, _, _, _, rfl, rfl, SqT.of (w0.i hp), rfl, ?_⟩
    match vl, hvl, post with
    | [x], hvl, post =>
      obtain ⟨ux, rfl, hx⟩ := hvl.one
      cases x with
      | int x =>
        obtain rfl : ux = V.int x := hx
        refine ⟨_, rfl, rfl, _, rfl, tF (by decide +kernel) ?_⟩
        refine ⟨_, rfl, rfl, _, rfl, tF (by decide +kernel) ?_⟩
        refine ⟨_, rfl, rfl, _, rfl, tT rfl ?_⟩
        refine ⟨_, rfl, l, _, _, _, rfl, rfl, SqL.of (w0.i hl), rfl, ?_⟩
        exact post.ok_now w0 okl pre.sm rfl
      | _ => exact post.elim
    | [], _, post => exact post.elim
    | _ :: _ :: _, _, post => exact post.elim
  | pair a b =>
    obtain ⟨p, va, vb, rfl, hp, _, _⟩ := htv
    refine ⟨_, rfl, p, _, _, _, rfl, rfl, SqT.of (w0.i hp), rfl, ?_⟩
    match vl, hvl, post with
    | [x, y], hvl, post =>
      obtain ⟨ux, uy, rfl, hx, hy⟩ := hvl.two
      refine ⟨_, rfl, rfl, _, rfl, tF (by decide +kernel) ?_⟩
      refine ⟨_, rfl, rfl, _, rfl, tF (by decide +kernel) ?_⟩
      refine ⟨_, rfl, rfl, _, rfl, tF (by decide +kernel) ?_⟩
      refine ⟨_, rfl, rfl, _, rfl, tT rfl ?_⟩
      refine ⟨_, rfl, l, _, _, _, rfl, rfl, SqL.of (w0.i hl), rfl, _, rfl, l, _, _, _, rfl, rfl, SqL.of (w0.i hl), rfl, s2, fun n hn => ?_⟩
      have w1 := w0.newI hn (.tup [ux, uy])
      have s1 := w0.upI hn (.tup [ux, uy])
      exact post.ok_now w1 (okl.mono s1) pre.sm ⟨n, ux, uy, rfl, hx.mono s1, hy.mono s1, upd_same⟩
    | [], _, post => exact post.elim
    | [_], _, post => exact post.elim
    | _ :: _ :: _ :: _, _, post => exact post.elim
  | fst a =>
    obtain ⟨p, va, rfl, hp, _⟩ := htv
    refine ⟨_, rfl, p, _, _, _, rfl, rfl, SqT.of (w0.i hp), rfl, ?_⟩
    match vl, hvl, post with
    | [x], hvl, post =>
      obtain ⟨ux, rfl, hx⟩ := hvl.one
      cases x with
      | pair x y =>
        obtain ⟨pp, vx, vy, rfl, h1, h2, h3⟩ := hx
        refine ⟨_, rfl, rfl, _, rfl, tF (by decide +kernel) ?_⟩
        refine ⟨_, rfl, rfl, _, rfl, tF (by decide +kernel) ?_⟩
        refine ⟨_, rfl, rfl, _, rfl, tF (by decide +kernel) ?_⟩
        refine ⟨_, rfl, rfl, _, rfl, tF (by decide +kernel) ?_⟩
        refine ⟨_, rfl, s2, fun p5 hp5 => ⟨p5, _, rfl, .inr (SqT.of upd_same), rfl, rfl, _, rfl, bT (by decide +kernel) ?_⟩⟩
        have w0 := w0.same (same_up (o := .tup [SS "first", SS "second"]) hp5)
        refine ⟨_, rfl, l, _, _, _, rfl, rfl, SqL.of (w0.i hl), rfl, _, rfl, rfl, _, rfl, tT rfl ⟨pp, _, _, _, rfl, rfl, SqT.of (w0.i h3), rfl, ?_⟩⟩
        exact post.ok_now w0 okl pre.sm h1
      | _ => exact post.elim
    | [], _, post => exact post.elim
    | _ :: _ :: _, _, post => exact post.elim
  | snd a =>
    obtain ⟨p, va, rfl, hp, _⟩ := htv
    refine ⟨_, rfl, p, _, _, _, rfl, rfl, SqT.of (w0.i hp), rfl, ?_⟩
    match vl, hvl, post with
    | [x], hvl, post =>
      obtain ⟨ux, rfl, hx⟩ := hvl.one
      cases x with
      | pair x y =>
        obtain ⟨pp, vx, vy, rfl, h1, h2, h3⟩ := hx
        refine ⟨_, rfl, rfl, _, rfl, tF (by decide +kernel) ?_⟩
        refine ⟨_, rfl, rfl, _, rfl, tF (by decide +kernel) ?_⟩
        refine ⟨_, rfl, rfl, _, rfl, tF (by decide +kernel) ?_⟩
        refine ⟨_, rfl, rfl, _, rfl, tF (by decide +kernel) ?_⟩
        refine ⟨_, rfl, s2, fun p5 hp5 => ⟨p5, _, rfl, .inr (SqT.of upd_same), rfl, rfl, _, rfl, bT (by decide +kernel) ?_⟩⟩
        have w0 := w0.same (same_up (o := .tup [SS "first", SS "second"]) hp5)
        refine ⟨_, rfl, l, _, _, _, rfl, rfl, SqL.of (w0.i hl), rfl, _, rfl, rfl, _, rfl, tF (by decide +kernel) ⟨pp, _, _, _, rfl, rfl, SqT.of (w0.i h3), rfl, ?_⟩⟩
        exact post.ok_now w0 okl pre.sm h2
      | _ => exact post.elim
    | [], _, post => exact post.elim
    | _ :: _ :: _, _, post => exact post.elim
  | idx a b =>
    obtain ⟨p, va, vb, rfl, hp, _, _⟩ := htv
    refine ⟨_, rfl, p, _, _, _, rfl, rfl, SqT.of (w0.i hp), rfl, ?_⟩
    match vl, hvl, post with
    | [x, y], hvl, post =>
      obtain ⟨ux, uy, rfl, hx, hy⟩ := hvl.two
      refine ⟨_, rfl, rfl, _, rfl, tF (by decide +kernel) ?_⟩
      refine ⟨_, rfl, rfl, _, rfl, tF (by decide +kernel) ?_⟩
      refine ⟨_, rfl, rfl, _, rfl, tF (by decide +kernel) ?_⟩
      refine ⟨_, rfl, rfl, _, rfl, tF (by decide +kernel) ?_⟩
      refine ⟨_, rfl, s2, fun p5 hp5 => ⟨p5, _, rfl, .inr (SqT.of upd_same), rfl, rfl, _, rfl, bF (by decide +kernel) ?_⟩⟩
      have w0 := w0.same (same_up (o := .tup [SS "first", SS "second"]) hp5)
      refine ⟨_, rfl, rfl, _, rfl, tT rfl ?_⟩
      refine ⟨_, rfl, _, rfl, l, _, _, _, rfl, rfl, SqL.of (w0.i hl), rfl, _, rfl, l, _, _, _, rfl, rfl, SqL.of (w0.i hl), rfl, ?_⟩
      exact ⟨c, I, r, q, g, ka, kn, gk, most, asked, gones, s, ux, uy, x, y, rfl, ⟨w0.hs, pre.ok, pre.mo, pre.sm⟩, hx, hy, post.from w0 (List.prefix_refl _)⟩
    | [], _, post => exact post.elim
    | [_], _, post => exact post.elim
    | _ :: _ :: _ :: _, _, post => exact post.elim
  | call a b =>
    obtain ⟨p, va, vb, rfl, hp, _, _⟩ := htv
    refine ⟨_, rfl, p, _, _, _, rfl, rfl, SqT.of (w0.i hp), rfl, ?_⟩
    match vl, hvl, post with
    | [x, y], hvl, post =>
      obtain ⟨ux, uy, rfl, hx, hy⟩ := hvl.two
      refine ⟨_, rfl, rfl, _, rfl, tF (by decide +kernel) ?_⟩
      refine ⟨_, rfl, rfl, _, rfl, tF (by decide +kernel) ?_⟩
      refine ⟨_, rfl, rfl, _, rfl, tF (by decide +kernel) ?_⟩
      refine ⟨_, rfl, rfl, _, rfl, tF (by decide +kernel) ?_⟩
      refine ⟨_, rfl, s2, fun p5 hp5 => ⟨p5, _, rfl, .inr (SqT.of upd_same), rfl, rfl, _, rfl, bF (by decide +kernel) ?_⟩⟩
      have w0 := w0.same (same_up (o := .tup [SS "first", SS "second"]) hp5)
      refine ⟨_, rfl, rfl, _, rfl, tF (by decide +kernel) ?_⟩
      refine ⟨_, rfl, rfl, _, rfl, tT rfl ?_⟩
      refine ⟨_, rfl, _, rfl, l, _, _, _, rfl, rfl, SqL.of (w0.i hl), rfl, _, rfl, l, _, _, _, rfl, rfl, SqL.of (w0.i hl), rfl, ?_⟩
      exact ⟨c, I, r, q, g, ka, kn, gk, most, asked, gones, s, ux, uy, x, y, rfl, ⟨w0.hs, okl, pre.mo, pre.sm⟩, hx, hy, post.from w0 (List.prefix_refl _)⟩
    | [], _, post => exact post.elim
    | [_], _, post => exact post.elim
    | _ :: _ :: _ :: _, _, post => exact post.elim
  | rep n f a =>
    obtain ⟨p, vn, vf, va, rfl, hp, _, _, _⟩ := htv
    refine ⟨_, rfl, p, _, _, _, rfl, rfl, SqT.of (w0.i hp), rfl, ?_⟩
    match vl, hvl, post with
    | [x, y, z], hvl, post =>
      obtain ⟨ux, uy, uz, rfl, hx, hy, hz⟩ := hvl.three
      cases x with
      | int i =>
        obtain rfl : ux = V.int i := hx
        have post : LPost c okV I H r q g ka kn gk most gones Q (if 0 ≤ i then reps (ev most kn d) y gk (if i ≤ 60 then i else 60).toNat z s else .die) := post
        by_cases hi : 0 ≤ i
        · rw [if_pos hi] at post
          refine ⟨_, rfl, rfl, _, rfl, tF (by decide +kernel) ?_⟩
          refine ⟨_, rfl, rfl, _, rfl, tF (by decide +kernel) ?_⟩
          refine ⟨_, rfl, rfl, _, rfl, tF (by decide +kernel) ?_⟩
          refine ⟨_, rfl, rfl, _, rfl, tF (by decide +kernel) ?_⟩
          refine ⟨_, rfl, s2, fun p5 hp5 => ⟨p5, _, rfl, .inr (SqT.of upd_same), rfl, rfl, _, rfl, bF (by decide +kernel) ?_⟩⟩
          have w0 := w0.same (same_up (o := .tup [SS "first", SS "second"]) hp5)
          refine ⟨_, rfl, rfl, _, rfl, tF (by decide +kernel) ?_⟩
          refine ⟨_, rfl, rfl, _, rfl, tF (by decide +kernel) ?_⟩
          refine ⟨_, rfl, l, _, _, _, rfl, rfl, SqL.of (w0.i hl), rfl, ?_⟩
          refine ⟨_, rfl, l, _, _, _, rfl, rfl, SqL.of (w0.i hl), rfl, 60, i, rfl, ?_⟩
          have en : (if i < 60 then i else (60 : Int)) = if i ≤ 60 then i else 60 := by split <;> split <;> omega
          have b1 : -(2 ^ 62) ≤ (if i < 60 then i else (60 : Int)) := by split <;> omega
          have b2 : (if i < 60 then i else (60 : Int)) < 2 ^ 62 := by split <;> omega
          refine ⟨_, rfl, b1, b2, ?_⟩
          rw [en]
          generalize (if i ≤ 60 then i else (60 : Int)).toNat = m at post ⊢
          refine for_range (lo := 0) (n := m) (fun j σ H' => ∃ (v5 : Option V) (v : Val) (u : V) (I' : Hp) (asked' gones' : List V) (s' : S), σ = [some (.ref r), some (.ref p), some (.ref l), some (SS "repeat"), some u, v5] ∧
            W [r, q, g] I H I' (lM r q g ka most asked' gones' .non s'.steps) H' ∧ LOk c I' ka kn gk asked' gones' s' ∧ gones <+: gones' ∧ s'.steps ≤ most ∧ VAt .law I' v u ∧ LPost c okV I H r q g ka kn gk most gones Q (reps (ev most kn d) y gk (m - j) v s')) ?_ ?_ ?_
          · exact ⟨none, z, uz, I, asked, gones, s, rfl, w0, okl, List.prefix_refl _, pre.sm, hz, post⟩
          · rintro j σ H' hj ⟨v5, v, u, I', asked', gones', s', rfl, w2, ok2, pf2, sm2, hv2, post2⟩
            have sI := w2.st.same
            obtain ⟨m', hm'⟩ : ∃ m', m - j = m' + 1 := ⟨m - j - 1, by omega⟩
            rw [hm'] at post2
            unfold reps at post2
            refine ⟨_, rfl, _, rfl, l, _, _, _, rfl, rfl, SqL.of (w2.i (sI _ _ hl)), rfl, _, rfl, ?_⟩
            refine ⟨c, I', r, q, g, ka, kn, gk, most, asked', gones', s', uy, u, y, v, rfl, ⟨w2.hs, ok2, pre.mo, sm2⟩, hy.mono sI, hv2, ?_⟩
            cases hev : appl (ev most kn d) y v gk s' with
            | ok v' s3 =>
              rw [hev] at post2
              rintro u3 I3 H3 asked3 gones3 st3 hs3 ok3 pf3 sm3 hv3
              have w3 := w2.call0 st3 hs3 rfl
              refine ⟨_, rfl, r, _, rfl, DG (w3.get (i := 0) rfl) lr_stop, rfl, _, rfl, nF rfl ?_⟩
              refine ⟨_, v', u3, I3, asked3, gones3, s3, rfl, w3, ok3, pf2.trans pf3, sm3, hv3, ?_⟩
              rw [show m - (j + 1) = m' by omega]
              exact post2
            | st w3 s3 =>
              rw [hev] at post2
              rintro x3 I3 H3 asked3 gones3 st3 hs3 hx3 ok3 pf3 sm3
              obtain ⟨px, rfl⟩ := hx3.ne
              have w3 := w2.call0 st3 hs3 rfl
              refine ⟨_, rfl, r, _, rfl, DG (w3.get (i := 0) rfl) lr_stop, rfl, _, rfl, nT (by intro z; cases z) ?_⟩
              exact post2 _ _ _ asked3 gones3 w3.st w3.hs hx3 ok3 (pf2.trans pf3) sm3
            | die =>
              rw [hev] at post2
              exact post2.elim
          · rintro σ H' ⟨v5, v, u, I', asked', gones', s', rfl, w2, ok2, pf2, sm2, hv2, post2⟩
            rw [Nat.sub_self] at post2
            refine ⟨_, rfl, ?_⟩
            exact post2 _ _ _ asked' gones' w2.st w2.hs ok2 pf2 sm2 hv2
        · rw [if_neg hi] at post
          exact post.elim
      | _ => exact post.elim
    | [], _, post => exact post.elim
    | [x1], _, post => cases x1 <;> exact post.elim
    | [x1, _], _, post => cases x1 <;> exact post.elim
    | x1 :: _ :: _ :: _ :: _, _, post => cases x1 <;> exact post.elim
  | _ => exact post.elim
end
end KW
set_option Elab.async false
set_option linter.all false
set_option maxRecDepth 100000
set_option maxHeartbeats 4000000
/-! L6: the ends of a term over a row. -/
namespace KW
open PySem PySem.Spec PyProof.Rows L2 
section
variable {P : Program} {w : World} {K : PySem.W.Frag} {mg : Str → Option Value} {base : Heap}

theorem W.sub {A : List Addr} {I0 H0 I H : Hp} {M M' : List (Addr × HO)} (w : W A I0 H0 I M H) (h : ∀ p ∈ M', p ∈ M) (nd : (M'.map (·.1)).Nodup) (ha : ∀ a ∈ A, a ∈ M'.map (·.1)) : W A I0 H0 I M' H :=
  ⟨⟨w.hs.sub, fun q hq => w.hs.mem q (h q hq), fun q hq => w.hs.out q (h q hq), nd⟩, w.st, fun q hq => w.ad q (h q hq), w.aa⟩
theorem lc_rangeC {lo c : Int} {n : Nat} {g : TG} {tt : TT} {te : TE} {vs : List Nat} {σ : L2.St} {H1 : Hp} {D : Addr} {Qd : Hp → Prop} (Pv : Nat → Hp → Prop) (h0 : Pv 0 (upd H1 D (.lst [])))
    (hs : ∀ (i : Nat) H, i < n → Pv i H → g (.int (lo + (i : Nat) * c)) (wipe σ vs) H fun σ2 H2 => wipe σ2 vs = wipe σ vs ∧ tt σ2 H2 fun b H3 =>
      if b = true then te σ2 H3 fun y H4 => ∃ acc, H4 D = some (.lst acc) ∧ acc.length < sizeLine ∧ Pv (i + 1) (upd H4 D (.lst (acc ++ [y]))) else Pv (i + 1) H3)
    (hd : ∀ H, Pv n H → Qd H) : ∃ W : Nat → Nat → Hp → Prop, (∃ m, W 0 m (upd H1 D (.lst []))) ∧ ∀ i m H, W i m H →
      ((Itc lo c n).stop i H ∧ Qd H) ∨ ((Itc lo c n).go i H ∧ ∃ Nx : Hp → Prop, (∀ H', Nx H' → ∃ m', m' < m ∧ W (i + 1) m' H') ∧ ∀ x H', (Itc lo c n).yld i H x H' → g x (wipe σ vs) H' fun σ2 H2 => wipe σ2 vs = wipe σ vs ∧ tt σ2 H2 fun b H3 =>
        if b = true then te σ2 H3 fun y H4 => ∃ acc, H4 D = some (.lst acc) ∧ acc.length < sizeLine ∧ Nx (upd H4 D (.lst (acc ++ [y]))) else Nx H3) := by
  refine ⟨fun i m H => m = n - i ∧ i ≤ n ∧ Pv i H, ⟨n, rfl, Nat.zero_le _, h0⟩, ?_⟩
  rintro i m H ⟨rfl, hi, p⟩
  by_cases h : i < n
  · refine .inr ⟨h, Pv (i + 1), fun H' p' => ⟨n - (i + 1), by omega, rfl, h, p'⟩, ?_⟩
    rintro x H' ⟨rfl, rfl⟩
    exact hs i H' h p
  · have e : i = n := by omega
    subst e
    exact .inl ⟨Nat.le_refl _, hd H p⟩
def KnR (I : Hp) (k : Kn) (a : Addr) : Prop := I a = some (.dK (knK k))
def PendAt (I : Hp) (kps : List Kn) (pend : List V) : Prop := ∃ rs : List Addr, pend = (rs.map V.ref).reverse ∧ Paired (KnR I) kps rs
theorem Paired.app {α β : Type} {R : α → β → Prop} : ∀ {a : List α} {b : List β} {c : List α} {d : List β}, Paired R a b → Paired R c d → Paired R (a ++ c) (b ++ d)
  | _, _, _, _, .nil, h => h
  | _, _, _, _, .cons x y, h => .cons x (Paired.app y h)
theorem Paired.rev {α β : Type} {R : α → β → Prop} : ∀ {a : List α} {b : List β}, Paired R a b → Paired R a.reverse b.reverse
  | _, _, .nil => .nil
  | _, _, .cons x y => by rw [List.reverse_cons, List.reverse_cons]; exact Paired.app (Paired.rev y) (.cons x .nil)
def down (m : Nat) (k : Kn) (i : Int) (j : Nat) : List Kn := (List.range j).map fun (t : Nat) => k ++ [(i, ((m - 1 - t : Nat) : Int))]
theorem down_all (m : Nat) (k : Kn) (i : Int) : (down m k i m).reverse = heirs m k i := by
  unfold down heirs
  apply List.ext_getElem
  · simp
  · intro n h1 h2
    simp only [List.length_reverse, List.length_map, List.length_range] at h1
    rw [List.getElem_reverse, List.getElem_map, List.getElem_map, List.getElem_range, List.getElem_range]
    simp only [List.length_map, List.length_range]
    rw [show m - 1 - (m - 1 - n) = n by omega]
theorem down_succ (m : Nat) (k : Kn) (i : Int) (j : Nat) : down m k i (j + 1) = down m k i j ++ [k ++ [(i, ((m - 1 - j : Nat) : Int))]] := by
  unfold down
  rw [List.range_succ, List.map_append]
  rfl
theorem knK_app {k : Kn} {i d : Int} (h : look k i = none) : putK (knK k) (.inl i) (.int d) = knK (k ++ [(i, d)]) := by
  rw [putK_new _ (by rw [valV_kn, h]; rfl)]
  unfold knK
  rw [List.map_append]
  rfl
theorem knK_len (k : Kn) : (knK k).length = k.length := List.length_map _
structure InnerC where
  c : Nat
  I : Hp
  H : Hp
  r : Addr
  q : Addr
  g : Addr
  ka : Addr
  kn : KnP
  gk : GK
  most : Nat
  gones : List V
  s : S
  x : Str
  m : Nat
  bv : V
  e : Addr
  b : Tm
  env : Nv
  n5 : Addr
  I7 : Hp
  d : Nat
  Q : VK
def InnerW (Z : InnerC) (f : Nat) (σ : L2.St) (H' : Hp) : Prop := ∃ (pa ea : Addr) (pend ends : List V) (I' : Hp) (asked' gones' : List V) (s' : S) (kps : List Kn) (es : List (Kn × Int)) (v9 v10 v11 v12 : Option V),
      σ = [some (.ref Z.r), some (.str Z.x), some (.int (Z.m : Int)), some Z.bv, some (.ref Z.e), some (.int (Z.s.marks : Int)), some (.ref pa), some (.ref ea), some (.ref Z.n5), v9, v10, v11, v12] ∧
      W [Z.r, Z.q, Z.g] Z.I Z.H I' (lM Z.r Z.q Z.g Z.ka Z.most asked' gones' .non s'.steps ++ [(pa, .lst pend), (ea, .lst ends)]) H' ∧ Same Z.I7 I' ∧ LOk Z.c I' Z.ka Z.kn Z.gk asked' gones' s' ∧ Z.gones <+: gones' ∧ Z.s.marks < gones'.length ∧ s'.steps ≤ Z.most ∧
      PendAt I' kps pend ∧ EndsAt .law I' es ends ∧ pend.length + 9 * f ≤ 9 * FUEL + 1 ∧ ends.length + f ≤ FUEL ∧ (∀ k ∈ kps, k.length + f ≤ FUEL) ∧
      LPost Z.c okE Z.I Z.H Z.r Z.q Z.g Z.ka Z.kn Z.gk Z.most Z.gones Z.Q (loop (fun k s' => ev Z.most Z.kn Z.d Z.b (Z.env.put Z.x (.gone Z.s.marks)) (Z.gk.put Z.s.marks k) s') Z.s.marks Z.m f kps es s')
theorem prefix_set {l l' : List V} {n : Nat} {x : V} (h : l <+: l') (hn : l.length = n) : l <+: l'.set n x := by
  obtain ⟨t, rfl⟩ := h
  rw [List.set_append_right _ _ (by omega)]
  exact List.prefix_append _ _
theorem ixN_at {n k : Nat} (h : k < n) : ixN n (k : Int) = some k := by
  unfold ixN
  rw [if_pos (by omega), if_pos (by omega)]
  simp
theorem sh_gone {i : Int} : SeqAt.shaped (.tuple [.str "gone", .int i]) = true := by
  have h : PyData.strOk "gone" = true := by decide +kernel
  unfold SeqAt.shaped
  simp [PyData.depth, PyData.depthAll, PyData.canLay0, PyData.canLayAll0, h]
theorem sh_str1 : SeqAt.shaped (.tuple [.str "long"]) = true := by
  have h : PyData.strOk "long" = true := by decide +kernel
  unfold SeqAt.shaped
  simp [PyData.depth, PyData.depthAll, PyData.canLay0, PyData.canLayAll0, h]
theorem sh_place {i k : Int} : SeqAt.shaped (.tuple [.str "place", .tuple [.int i, .int k]]) = true := by
  have h : PyData.strOk "place" = true := by decide +kernel
  unfold SeqAt.shaped
  simp [PyData.depth, PyData.depthAll, PyData.canLay0, PyData.canLayAll0, h]
theorem eqv_place {i k j : Int} : PyData.eqv (.tuple [.str "place", .tuple [.int i, .int k]]) (.tuple [.str "gone", .int j]) = false := by
  have h : (("place" : Str) == "gone") = false := by decide +kernel
  simp [PyData.eqv, PyData.eqvAll, h]
theorem eqv_long {j : Int} : PyData.eqv (.tuple [.str "long"]) (.tuple [.str "gone", .int j]) = false := by
  have h : (("long" : Str) == "gone") = false := by decide +kernel
  simp [PyData.eqv, PyData.eqvAll, h]
theorem eqv_gone {i j : Nat} : PyData.eqv (.tuple [.str "gone", .int (i : Int)]) (.tuple [.str "gone", .int (j : Int)]) = decide (i = j) := by
  have h : (("gone" : Str) == "gone") = true := by decide +kernel
  by_cases e : i = j
  · subst e; simp [PyData.eqv, PyData.eqvAll, h]
  · have e2 : ((i : Int) == (j : Int)) = false := by simp; omega
    simp only [PyData.eqv, PyData.eqvAll, h, e2, e, decide_false, Bool.and_false, Bool.and_true, Bool.true_and]
abbrev N__law_inner : List Str := ["_law_run_here", "_law_name", "_law_m", "_law_body", "_law_env", "_law_number", "_law_pending", "_law_ends", "_law_inner_here", "_law_known", "_law_value", "_law_i", "_law_d"]
theorem sc__law_inner : FnScope N__law_inner ["_law_run_here", "_law_name", "_law_m", "_law_body", "_law_env"] (defScope (top 92)) := fnScope_ok (by decide +kernel)
theorem ok_inner {d k : Nat} (D : DefAt K mg "_law_inner" 92) (T : Txt K mg) (c__law_with : Cl P w K mg base 1 "_law_with" spPut) (c__law_out : Cl P w K mg base (k + 1) "_law_out" (spOut d)) : Cl P w K mg base (k + 2) "_law_inner" (spInner d) := by
  refine cl_mk (i := 92) (N := N__law_inner) (ps := ["_law_run_here", "_law_name", "_law_m", "_law_body", "_law_env"]) D sc__law_inner (fun _ _ _ _ _ _ us hl => match us, hl with | [_, _, _, _, _], _ => rfl) ?_ ?_
  · rintro vs H Q E ⟨c, I, r, q, g, ka, kn, gk, most, asked, gones, s, x, bv, e, b, env, m, rfl, _⟩
    rfl
  rintro f0 cdv A outer s0 H vs Q E hr ⟨c, I, r, q, g, ka, kn, gk, most, asked, gones, s, x, bv, e, b, env, m, rfl, pre, hb, hen, post⟩
  refine ⟨_, (pss_cons (ps_par3 (i := 5) (j := 6) (l := 7) rfl sc__law_inner.nd rfl rfl rfl (by decide) (by decide) (by decide) rfl rfl rfl (pa_cons (pe_callB call_len_seq (by rfl) T.len (by decide +kernel) (pa_cons (pe_dget (hu_of hr) (pv 0) pe_str (fun _ _ => rfl)) pa_nil)) (pa_cons (pe_lst (pa_cons pe_dnewK pa_nil)) (pa_cons (pe_lst pa_nil) pa_nil))) (by rfl)) (pss_cons (ps_expr (pe_bm PySem.F.plainAttrs_list PySem.F.slot_list_append PySem.F.type_list_append mt_append (pe_dget (hu_of hr) (pv 0) pe_str (fun _ _ => rfl)) (pa_cons pe_dnewK pa_nil))) (pss_cons (ps_set (i := 8) sc__law_inner.nd rfl (Or.inl rfl) (pe_cl c__law_with hr (by omega) rfl (pa_cons (pv 4) (pa_cons (pv 1) (pa_cons (pe_tup (pa_cons pe_str (pa_cons (pv 5) pa_nil))) pa_nil))))) (pss_cons (ps_while PassesOwn.never (pt_cmpR (op_neL0 hr.units0) (pv 6) (pe_lst pa_nil) (nomark _)) (pss_cons (ps_set (i := 9) sc__law_inner.nd rfl (Or.inr rfl) (pe_bm0 PySem.F.plainAttrs_list PySem.F.slot_list_pop PySem.F.type_list_pop mt_pop (pv 6))) (pss_cons (ps_asg (pv 9) (pg_sub (pe_dget (hu_of hr) (pv 0) pe_str (fun _ _ => rfl)) (pv 5) set_list)) (pss_cons (ps_set (i := 10) sc__law_inner.nd rfl (Or.inl rfl) (pe_cl c__law_out hr (by omega) rfl (pa_cons (pv 0) (pa_cons (pv 3) (pa_cons (pv 8) pa_nil))))) (pss_one (ps_if (pt_cmpR op_isN (pe_dget (hu_of hr) (pv 0) pe_str (fun _ _ => rfl)) pe_non (nomark _)) (pss_one (ps_expr (pe_bm PySem.F.plainAttrs_list PySem.F.slot_list_append PySem.F.type_list_append mt_append (pv 7) (pa_cons (pe_tup (pa_cons (pv 9) (pa_cons (pv 10) pa_nil))) pa_nil)))) (pss_one (ps_if (pt_cmpR (op_eqD hr.units) (pe_slice sl_tupA (pe_dget (hu_of hr) (pv 0) pe_str (fun _ _ => rfl)) po_none (po_some pe_int)) (pe_tup (pa_cons pe_str (pa_cons (pv 5) pa_nil))) (nomark _)) (pss_cons (ps_asg (pe_tup (pa_cons (pe_ix ix_tup (pe_dget (hu_of hr) (pv 0) pe_str (fun _ _ => rfl)) pe_int (fun _ _ => rfl)) (pa_cons pe_non pa_nil))) (pg_tup rfl (pgs_cons (pg_name (i := 11) sc__law_inner.nd rfl (Or.inr rfl)) (pgs_cons (pg_sub (pv 0) pe_str (set_dict (hu_of hr))) pgs_nil)))) (pss_one (ps_set (i := 6) sc__law_inner.nd rfl (Or.inl rfl) (pe_op op_cat (pv 6) (pe_lc (own := [("_law_d", 12)]) rfl sc__law_inner.nd (pi_range3 rfl T.range (pa_cons (pe_op op_sub (pv 2) pe_int) (pa_cons (pe_un un_neg pe_int) (pa_cons (pe_un un_neg pe_int) pa_nil)))) (blkOk_by (N := N__law_inner) (sc := defScope (top 92)) (by decide +kernel)) (fun _ _ _ _ _ => (pg_name (i := 12) sc__law_inner.nd rfl (Or.inl rfl))) (fun _ _ _ _ _ => pts_nil) (fun _ _ _ _ _ => (pe_cl c__law_with hr (by omega) rfl (pa_cons (pv 9) (pa_cons (pv 11) (pa_cons (pv 12) pa_nil)))))))))) (pss_one (ps_ret pe_non)))))))))) (pss_one (ps_ret (pv 7))))))), ?_⟩
  have w0 := W.start pre.hs
  have gl := pre.ok.gl
  obtain ⟨kvs, hkv, hkl, hea⟩ := hen
  unfold inner at post
  by_cases hm : env.len < 1000 ∧ 2 ≤ m ∧ m ≤ 9
  · rw [if_pos hm] at post
    refine ⟨_, rfl, r, _, rfl, DG (w0.get (i := 0) rfl) lr_gone, g, _, rfl, .inl (SqL.of (w0.get (i := 2) rfl)), fun n0 hn0 => ⟨(by show 1 ≤ sizeLine; decide), fun n1 hn1 => ⟨Nat.zero_le _, fun n2 hn2 => ⟨_, _, _, rfl, ?_⟩⟩⟩⟩
    have w1 := w0.newI hn0 (.dK [])
    have w2 := w1.newM hn1 (.lst [.ref n0])
    have w3 := w2.newM hn2 (.lst [])
    refine ⟨_, rfl, r, _, rfl, DG (w3.get (i := 0) rfl) lr_gone, .inl ⟨rfl, _, SqL.of (w3.get (i := 2) rfl)⟩, fun n3 hn3 => ?_⟩
    have w4 := w3.newI hn3 (.dK [])
    have hgl : gones.length < sizeLine := small (by have := pre.ok.gs; have := pre.sm; have := pre.mo; unfold MOST at *; omega)
    refine ⟨g, gones, .ref n3, rfl, rfl, w4.get (i := 2) rfl, hgl, ?_⟩
    have w5 := w4.set (i := 2) rfl (.lst (gones ++ [.ref n3]))
    refine ⟨_, rfl, _, rfl, _, rfl, s2, fun n4 hn4 => ?_⟩
    have w6 := w5.newI hn4 (.tup [SS "gone", .int ((gones.length : Nat) : Int)])
    have e6 := w6.st.same
    refine ⟨e, kvs, .inr x, .ref n4, rfl, w6.i (e6 _ _ hkv), small (by omega), fun n5 hn5 => ?_⟩
    have w7 := w6.newI hn5 (.dK (putK kvs (.inr x) (.ref n4)))
    have e7 := w7.st.same
    have hn4' : upd (upd (upd (upd I n0 (.dK [])) n3 (.dK [])) n4 (.tup [SS "gone", .int ((gones.length : Nat) : Int)])) n5 (.dK (putK kvs (.inr x) (.ref n4))) n4 = some (.tup [SS "gone", .int ((gones.length : Nat) : Int)]) := w6.upI hn5 _ _ _ upd_same
    have hih : NAt .law (upd (upd (upd (upd I n0 (.dK [])) n3 (.dK [])) n4 (.tup [SS "gone", .int ((gones.length : Nat) : Int)])) n5 (.dK (putK kvs (.inr x) (.ref n4)))) (env.put x (.gone s.marks)) n5 := by
      refine ⟨_, upd_same, ?_, (hea.mono e7).put ⟨n4, rfl, ?_⟩⟩
      · have := length_putK kvs (.inr x) (.ref n4)
        show _ ≤ env.len + 1
        omega
      · rw [hn4', gl]
        rfl
    have ok7 : LOk c (upd (upd (upd (upd I n0 (.dK [])) n3 (.dK [])) n4 (.tup [SS "gone", .int ((gones.length : Nat) : Int)])) n5 (.dK (putK kvs (.inr x) (.ref n4)))) ka kn gk asked (gones ++ [.ref n3]) ⟨s.steps, s.marks + 1⟩ := by
      have ok0 := pre.ok.mono e7
      refine ⟨ok0.kn, ok0.ask, ok0.less.askl, ?_, ?_, fun j kv hj => ?_⟩
      · rw [List.length_append, List.length_singleton, gl]
      · have := pre.ok.gs
        show s.marks + 1 + c ≤ s.steps
        omega
      · obtain ⟨a, h1, h2⟩ := ok0.gk j kv hj
        exact ⟨a, by rw [List.getElem?_append_left (List.getElem?_eq_some_iff.mp h1).1]; exact h1, h2⟩
    have gk0 : gk s.marks = none := by
      cases hq : gk s.marks with
      | none => rfl
      | some kv =>
        obtain ⟨a, h1, h2⟩ := pre.ok.gk _ _ hq
        have := (List.getElem?_eq_some_iff.mp h1).1
        omega
    have hk0 : upd (upd (upd (upd I n0 (.dK [])) n3 (.dK [])) n4 (.tup [SS "gone", .int ((gones.length : Nat) : Int)])) n5 (.dK (putK kvs (.inr x) (.ref n4))) n0 = some (.dK (knK [])) :=
      w6.upI hn5 _ _ _ (w5.upI hn4 _ _ _ (w3.upI hn3 _ _ _ upd_same))
    have hb7 := hb.mono e7
    clear w0 w1 w2 w3 w4 w5 w6 e6 hn4'
    rw [gl] at *
    generalize hI7 : upd (upd (upd (upd I n0 (.dK [])) n3 (.dK [])) n4 (.tup [SS "gone", .int ((s.marks : Nat) : Int)])) n5 (.dK (putK kvs (.inr x) (.ref n4))) = I7 at *
    have w8 : W [r, q, g] I H I7 (lM r q g ka most asked (gones ++ [.ref n3]) .non s.steps ++ [(n1, .lst [.ref n0]), (n2, .lst [])]) _ := w7
    clear w7
    have gl0 := pre.ok.gl
    have gs0 := pre.ok.gk
    refine ⟨InnerW ⟨c, I, H, r, q, g, ka, kn, gk, most, gones, s, x, m, bv, e, b, env, n5, I7, d, Q⟩, ⟨FUEL, ?_⟩, ?_⟩
    · refine ⟨n1, n2, _, _, I7, asked, _, ⟨s.steps, s.marks + 1⟩, [[]], [], _, _, _, _, rfl, w8, Same.refl _, ok7, List.prefix_append _ _, ?_, pre.sm, ⟨[n0], rfl, .cons hk0 .nil⟩, rfl, ?_, ?_, ?_, post⟩
      · have := pre.ok.gl
        show s.marks < (gones ++ [V.ref n3]).length
        rw [List.length_append, List.length_singleton]
        omega
      · show 1 + 9 * FUEL ≤ 9 * FUEL + 1; omega
      · show 0 + FUEL ≤ FUEL; omega
      · intro k hk
        rw [List.mem_singleton.mp hk]
        show 0 + FUEL ≤ FUEL
        omega
    clear post
    · rintro f σ H' ⟨pa, ea, pend, ends, I', asked', gones', s', kps, es, v9, v10, v11, v12, rfl, w9, s9, ok9, pf9, ng9, sm9, ⟨rs, rfl, hpr⟩, hes, hb1, hb2, hb3, post9⟩
      dsimp only at *
      have nd9 : ([r, q, g, pa, ea] : List Addr).Nodup := w9.hs.nd
      refine ⟨_, rfl, Nat.zero_le _, fun n6 hn6 => ⟨pa, n6, _, rfl, rfl, SqL.of ((same_up hn6) _ _ (w9.get (i := 3) rfl)), SqL.of upd_same, _, rfl, ?_⟩⟩
      have w10 := w9.same (same_up (o := .lst []) hn6)
      cases hpr with
      | nil =>
        refine bF (by rfl) ?_
        cases f with
        | zero => exact post9.elim
        | succ f =>
          have nea : ea ∉ [r, q, g] := by
            intro z
            have := List.nodup_cons.mp nd9
            simp only [List.nodup_cons, List.mem_cons, List.not_mem_nil, or_false, not_or] at nd9 z
            rcases z with z | z | z
            · exact nd9.1.2.2.2 z.symm
            · exact nd9.2.1.2.2 z.symm
            · exact nd9.2.2.1.2 z.symm
          have w11 := W.freeze (M := lM r q g ka most asked' gones' .non s'.steps ++ [(pa, .lst [])]) (p := ea) (o := .lst ends) w10 nea
          have s11 : Same I' (upd I' ea (.lst ends)) := same_up (w10.hs.out (ea, .lst ends) (by simp))
          have w12 := W.drop (M1 := lM r q g ka most asked' gones' .non s'.steps) w11 fun a ha => ha
          refine ⟨_, rfl, ?_⟩
          exact post9 _ _ _ asked' gones' w12.st w12.hs (ok9.mono s11) pf9 sm9 ⟨ea, ends, rfl, upd_same, hes.mono s11⟩
      | cons hk hpr =>
        rename_i k0 a0 kps' rs'
        refine bT (by rw [List.map_cons, List.reverse_cons]; simp) ?_
        cases f with
        | zero => exact post9.elim
        | succ f =>
        refine ⟨InnerW ⟨c, I, H, r, q, g, ka, kn, gk, most, gones, s, x, m, bv, e, b, env, n5, I7, d, Q⟩ f, fun σ' H' z => ⟨f, Nat.lt_succ_self _, z⟩, ?_⟩
        have ep : ((a0 :: rs').map V.ref).reverse = (rs'.map V.ref).reverse ++ [V.ref a0] := by rw [List.map_cons, List.reverse_cons]
        rw [ep] at w10 hb1
        refine ⟨_, rfl, .inl ⟨rfl, _, SqL.of (w10.get (i := 3) rfl)⟩, pa, _, .ref a0, rfl, rfl, w10.get (i := 3) rfl, (by simp), ?_⟩
        have w11 := w10.set (i := 3) rfl (.lst (rs'.map V.ref).reverse)
        have e11 : ((rs'.map V.ref).reverse ++ [V.ref a0]).dropLast = (rs'.map V.ref).reverse := List.dropLast_concat
        rw [e11]
        refine ⟨_, rfl, _, rfl, r, _, rfl, DG (w11.get (i := 0) rfl) lr_gone, _, rfl, g, gones', _, s.marks, rfl, rfl, w11.get (i := 2) rfl, ixN_at ng9, ?_⟩
        have w12 : W [r, q, g] I H I' (lM r q g ka most asked' (gones'.set s.marks (.ref a0)) .non s'.steps ++ [(pa, .lst (rs'.map V.ref).reverse), (ea, .lst ends)]) _ := w11.set (i := 2) rfl (.lst (gones'.set s.marks (.ref a0)))
        have pf12 : gones <+: gones'.set s.marks (.ref a0) := prefix_set pf9 gl0
        have ok12 : LOk c I' ka kn (gk.put s.marks k0) asked' (gones'.set s.marks (.ref a0)) s' := by
          refine ⟨ok9.kn, ok9.ask, ok9.askl, by rw [List.length_set]; exact ok9.gl, ok9.gs, fun j kv hj => ?_⟩
          unfold GK.put at hj
          by_cases hjm : j = s.marks
          · subst hjm
            rw [if_pos rfl] at hj
            cases hj
            exact ⟨a0, List.getElem?_set_self ng9, hk⟩
          · rw [if_neg hjm] at hj
            obtain ⟨a1, h1, h2⟩ := ok9.gk j kv hj
            exact ⟨a1, by rw [List.getElem?_set_ne (Ne.symm hjm)]; exact h1, h2⟩
        have back : ∀ {I3 : Hp} {asked3 gones3 : List V} {s3 : S}, LOk c I3 ka kn (gk.put s.marks k0) asked3 gones3 s3 → LOk c I3 ka kn gk asked3 gones3 s3 := fun o => ⟨o.kn, o.ask, o.askl, o.gl, o.gs, fun j kv hj => o.gk j kv (by
          unfold GK.put
          rw [if_neg]
          · exact hj
          · intro z
            rw [z, gk0] at hj
            cases hj)⟩
        refine ⟨_, rfl, _, rfl, _, rfl, ?_⟩
        refine ⟨c, I', r, q, g, ka, kn, gk.put s.marks k0, most, asked', gones'.set s.marks (.ref a0), s', bv, n5, b, env.put x (.gone s.marks), rfl, ⟨w12.hs.left, ok12, pre.mo, sm9⟩, hb7.mono s9, hih.mono s9, ?_⟩
        have hk0l := hb3 k0 List.mem_cons_self
        unfold loop at post9
        cases hev : ev most kn d b (env.put x (.gone s.marks)) (gk.put s.marks k0) s' with
        | ok v s3 =>
          rw [hev] at post9
          rintro u I3 H3 asked3 gones3 st3 hs3 ok3 pf3 sm3 hv3
          have w13 := w12.call st3 hs3 rfl
          cases v with
          | int vi =>
            obtain rfl : u = V.int vi := hv3
            refine ⟨_, rfl, r, _, rfl, DG (w13.get (i := 0) rfl) lr_stop, rfl, _, rfl, tT rfl ?_⟩
            refine ⟨_, rfl, .inl ⟨rfl, _, SqL.of (w13.get (i := 4) rfl)⟩, _, rfl, _, rfl, s2, fun n7 hn7 => ?_⟩
            have w14 := w13.newI hn7 (.tup [.ref a0, .int vi])
            have s14 := w13.upI hn7 (.tup [.ref a0, .int vi])
            refine ⟨ea, ends, .ref n7, rfl, rfl, w14.get (i := 4) rfl, Nat.lt_of_lt_of_le (by omega : ends.length < FUEL) (by decide), ?_⟩
            have w15 := w14.set (i := 4) rfl (.lst (ends ++ [.ref n7]))
            have s15 := st3.same.trans s14
            refine ⟨pa, ea, _, _, _, asked3, gones3, s3, kps', es ++ [(k0, vi)], _, _, _, _, rfl, w15, s9.trans s15, (back ok3).mono s14, pf12.trans pf3, ?_, sm3, ⟨rs', rfl, Paired.mapP hpr fun k a z => s15 _ _ z⟩, ?_, ?_, ?_, ?_, post9⟩
            · have := pf3.length_le
              rw [List.length_set] at this
              exact Nat.lt_of_lt_of_le ng9 this
            · exact (hes.mono s15).snoc ⟨n7, a0, rfl, upd_same, s15 _ _ hk⟩
            · rw [List.length_append, List.length_singleton] at hb1
              omega
            · rw [List.length_append, List.length_singleton]
              omega
            · intro k hk1
              have := hb3 k (List.mem_cons_of_mem _ hk1)
              omega
          | _ => exact post9.elim
        | st w3 s3 =>
          rw [hev] at post9
          rintro x3 I3 H3 asked3 gones3 st3 hs3 hx3 ok3 pf3 sm3
          have w13 := w12.call st3 hs3 rfl
          obtain ⟨px, rfl⟩ := hx3.ne
          refine ⟨_, rfl, r, _, rfl, DG (w13.get (i := 0) rfl) lr_stop, rfl, _, rfl, tF (by intro z; cases z) ?_⟩
          have leave : ∀ {H5 : Hp}, Same H3 H5 → (∀ x I4 H4 asked4 gones4, Stp [r, q, g] I H I4 H4 → HS I4 (lM r q g ka most asked4 gones4 x s3.steps) H4 → StopAt I4 w3 x → LOk c I4 ka kn gk asked4 gones4 s3 → gones <+: gones4 → (w3 = .long ∨ s3.steps ≤ most) → Q .non H4) → Q .non H5 := fun sm p9 => by
            have w14 := W.drop (M1 := lM r q g ka most asked3 gones3 (.ref px) s3.steps) (w13.same sm) fun a ha => ha
            exact p9 _ _ _ asked3 gones3 w14.st w14.hs hx3 (back ok3) (pf12.trans pf3) sm3
          cases w3 with
          | long =>
            obtain ⟨py, epy, hpx⟩ := id hx3
            cases epy
            refine ⟨_, rfl, r, _, rfl, DG (w13.get (i := 0) rfl) lr_stop, _, rfl, px, _, rfl, SqT.of (w13.i hpx), fun _ => ?_, fun z => absurd ⟨rfl, rfl⟩ z⟩
            refine ⟨_, rfl, s2, fun n8 hn8 => ?_⟩
            have w14 := w13.newI hn8 (.tup [SS "gone", .int (s.marks : Int)])
            have s14 := w13.upI hn8 (.tup [SS "gone", .int (s.marks : Int)])
            refine ⟨.tuple [.str "long"], .tuple [.str "gone", .int (s.marks : Int)], .tup (SqT.of (w14.i (s14 _ _ hpx))) (.cons (.str _) .nil), .tup (SqT.of upd_same) (.cons (.str _) (.cons (.int _) .nil)), sh_str1, sh_gone, _, rfl, bF eqv_long ?_⟩
            exact leave (same_up hn8) post9
          | place p =>
            obtain ⟨pi, pk⟩ := p
            obtain ⟨py, pq, epy, hpx, hpq⟩ := id hx3
            cases epy
            refine ⟨_, rfl, r, _, rfl, DG (w13.get (i := 0) rfl) lr_stop, _, rfl, px, _, rfl, SqT.of (w13.i hpx), fun _ => ?_, fun z => absurd ⟨rfl, rfl⟩ z⟩
            refine ⟨_, rfl, s2, fun n8 hn8 => ?_⟩
            have w14 := w13.newI hn8 (.tup [SS "gone", .int (s.marks : Int)])
            have s14 := w13.upI hn8 (.tup [SS "gone", .int (s.marks : Int)])
            refine ⟨.tuple [.str "place", .tuple [.int pi, .int pk]], .tuple [.str "gone", .int (s.marks : Int)], .tup (SqT.of (w14.i (s14 _ _ hpx))) (.cons (.str _) (.cons (.tup (SqT.of (w14.i (s14 _ _ hpq))) (.cons (.int _) (.cons (.int _) .nil))) .nil)), .tup (SqT.of upd_same) (.cons (.str _) (.cons (.int _) .nil)), sh_place, sh_gone, _, rfl, bF eqv_place ?_⟩
            exact leave (same_up hn8) post9
          | gone gn gi =>
            obtain ⟨py, epy, hpx⟩ := id hx3
            cases epy
            refine ⟨_, rfl, r, _, rfl, DG (w13.get (i := 0) rfl) lr_stop, _, rfl, px, _, rfl, SqT.of (w13.i hpx), fun z => absurd (show HT.sIx 3 3 (some 2) = 3 from z.2) (by decide), fun _ n7 hn7 => ?_⟩
            have e7' : cutV [SS "gone", V.int (gn : Int), V.int gi] none (some 2) = [SS "gone", V.int (gn : Int)] := rfl
            rw [e7']
            have w14 := w13.newI hn7 (.tup [SS "gone", .int (gn : Int)])
            have s14 := w13.upI hn7 (.tup [SS "gone", .int (gn : Int)])
            refine ⟨_, rfl, s2, fun n8 hn8 => ?_⟩
            have w15 := w14.newI hn8 (.tup [SS "gone", .int (s.marks : Int)])
            have s15 := w14.upI hn8 (.tup [SS "gone", .int (s.marks : Int)])
            refine ⟨.tuple [.str "gone", .int (gn : Int)], .tuple [.str "gone", .int (s.marks : Int)], .tup (SqT.of (w15.i (s15 _ _ upd_same))) (.cons (.str _) (.cons (.int _) .nil)), .tup (SqT.of upd_same) (.cons (.str _) (.cons (.int _) .nil)), sh_gone, sh_gone, _, rfl, ?_⟩
            rw [eqv_gone]
            by_cases hgm : gn = s.marks
            · refine tT hgm ?_
              subst hgm
              dsimp only at post9
              rw [if_pos rfl] at post9
              cases hlk : look k0 gi with
              | some z => rw [hlk] at post9; exact post9.elim
              | none =>
                rw [hlk] at post9
                dsimp only at post9
                refine ⟨_, rfl, r, _, rfl, DG (w15.get (i := 0) rfl) lr_stop, px, _, _, _, rfl, rfl, SqT.of (w15.i (s15 _ _ (s14 _ _ hpx))), rfl, s2, fun n9 hn9 => ?_⟩
                have w16 := w15.newI hn9 (.tup [.int gi, .non])
                have s16 := w15.upI hn9 (.tup [.int gi, .non])
                refine ⟨n9, _, rfl, SqT.of upd_same, rfl, _, _, rfl, _, _, rfl, _, rfl, r, _, rfl, DP (w16.get (i := 0) rfl) lp_stop lr_len, rfl, ?_⟩
                have w17 : W [r, q, g] I H _ (lM r q g ka most asked3 gones3 .non s3.steps ++ [(pa, .lst (rs'.map V.ref).reverse), (ea, .lst ends)]) _ := w16.set (i := 0) rfl (.dK (lrunK (.ref ka) .non (.ref q) (.ref g) .non (s3.steps : Int) (most : Int)))
                have s17 := (st3.same.trans s14).trans (s15.trans s16)
                have ok17 := (back ok3).mono (s14.trans (s15.trans s16))
                have hk17 := s17 _ _ hk
                have hpr17 : Paired (KnR _) kps' rs' := Paired.mapP hpr fun k a z => s17 _ _ z
                have hes17 := hes.mono s17
                have s7 := s9.trans s17
                clear w14 w15 w16 s14 s15 s16
                generalize upd (upd (upd I3 n7 (.tup [SS "gone", .int (s.marks : Int)])) n8 (.tup [SS "gone", .int (s.marks : Int)])) n9 (.tup [.int gi, .non]) = I4 at *
                generalize upd (upd (upd (upd H3 n7 (.tup [SS "gone", .int (s.marks : Int)])) n8 (.tup [SS "gone", .int (s.marks : Int)])) n9 (.tup [.int gi, .non])) r (.dK (lrunK (.ref ka) .non (.ref q) (.ref g) .non (s3.steps : Int) (most : Int))) = H4 at *
                refine ⟨_, rfl, _, rfl, _, _, rfl, rfl, _, rfl, _, rfl, _, _, _, _, rfl, RgC.neg (by omega) (by omega) (by decide) (by decide), fun D hD => ?_⟩
                have em : ((m : Int) - 1 - -1).toNat = m := by omega
                rw [em]
                have w18 := w17.newM hD (.lst [])
                refine lc_rangeC (fun j H' => ∃ (I' : Hp) (ds : List Addr), W [r, q, g] I H I' ((lM r q g ka most asked3 gones3 .non s3.steps ++ [(pa, .lst (rs'.map V.ref).reverse), (ea, .lst ends)]) ++ [(D, .lst (ds.map V.ref))]) H' ∧ Same I4 I' ∧ Paired (KnR I') (down m k0 gi j) ds ∧ ds.length = j)
                  ⟨I4, [], w18, Same.refl _, .nil, rfl⟩ ?_ ?_
                · rintro j H' hj ⟨I', ds, w19, s19, hds, hdl⟩
                  refine ⟨rfl, _, rfl, _, rfl, _, rfl, ?_⟩
                  refine ⟨a0, knK k0, .inl gi, .int ((m : Int) - 1 + (j : Nat) * -1), rfl, w19.i (s19 _ _ hk17), Nat.lt_of_lt_of_le (by rw [knK_len]; omega : (knK k0).length < FUEL) (by decide), fun n10 hn10 => ?_⟩
                  have w20 := w19.newI hn10 (.dK (putK (knK k0) (.inl gi) (.int ((m : Int) - 1 + (j : Nat) * -1))))
                  have s20 := w19.upI hn10 (.dK (putK (knK k0) (.inl gi) (.int ((m : Int) - 1 + (j : Nat) * -1))))
                  refine ⟨ds.map V.ref, w20.get (i := 5) rfl, small (by rw [List.length_map]; omega), ?_⟩
                  have w21 := w20.set (i := 5) rfl (.lst (ds.map V.ref ++ [.ref n10]))
                  refine ⟨_, ds ++ [n10], ?_, s19.trans s20, ?_, by rw [List.length_append, List.length_singleton, hdl]⟩
                  · rw [List.map_append]
                    exact w21
                  · rw [down_succ]
                    refine Paired.app (Paired.mapP hds fun k a z => s20 _ _ z) (.cons ?_ .nil)
                    show upd I' n10 _ n10 = _
                    rw [upd_same, knK_app hlk]
                    have e : (m : Int) - 1 + (j : Nat) * -1 = ((m - 1 - j : Nat) : Int) := by omega
                    rw [e]
                · rintro H' ⟨I', ds, w19, s19, hds, hdl⟩
                  have lp : (rs'.map V.ref).reverse.length + (ds.map V.ref).length ≤ sizeLine := by
                    rw [List.length_append, List.length_singleton] at hb1
                    rw [List.length_map, hdl]
                    have : 9 * FUEL + 10 ≤ sizeLine := by decide
                    omega
                  refine ⟨pa, D, _, _, rfl, rfl, w19.get (i := 3) rfl, w19.get (i := 5) rfl, lp, fun n11 hn11 => ?_⟩
                  have w20 := w19.newM hn11 (.lst ((rs'.map V.ref).reverse ++ ds.map V.ref))
                  have nd20 : ([r, q, g, pa, ea, D, n11] : List Addr).Nodup := w20.hs.nd
                  have w21 : W [r, q, g] I H I' (lM r q g ka most asked3 gones3 .non s3.steps ++ [(n11, .lst ((rs'.map V.ref).reverse ++ ds.map V.ref)), (ea, .lst ends)]) _ := w20.sub (fun p hp => by
                    unfold lM at hp ⊢
                    simp only [List.cons_append, List.nil_append, List.mem_cons, List.not_mem_nil, or_false] at hp ⊢
                    rcases hp with z | z | z | z | z
                    · exact .inl z
                    · exact .inr (.inl z)
                    · exact .inr (.inr (.inl z))
                    · exact .inr (.inr (.inr (.inr (.inr (.inr z)))))
                    · exact .inr (.inr (.inr (.inr (.inl z))))) (by
                    show ([r, q, g, n11, ea] : List Addr).Nodup
                    simp only [List.nodup_cons, List.mem_cons, List.not_mem_nil, or_false, not_or, not_false_eq_true, and_true, List.nodup_nil] at nd20 ⊢
                    obtain ⟨⟨a1, a2, a3, a4, a5, a6⟩, ⟨b1, b2, b3, b4, b5⟩, ⟨c1, c2, c3, c4⟩, ⟨d1, d2, d3⟩, ⟨e1, e2⟩, f1⟩ := nd20
                    exact ⟨⟨a1, a2, a6, a4⟩, ⟨b1, b5, b3⟩, ⟨c4, c2⟩, fun z => e2 z.symm⟩) (fun a ha => by
                    show a ∈ ([r, q, g, n11, ea] : List Addr)
                    simp only [List.mem_cons, List.not_mem_nil, or_false] at ha ⊢
                    rcases ha with z | z | z
                    · exact .inl z
                    · exact .inr (.inl z)
                    · exact .inr (.inr (.inl z)))
                  refine ⟨n11, ea, _, _, I', asked3, gones3, s3, heirs m k0 gi ++ kps', es, _, _, _, _, rfl, w21, s7.trans s19, ok17.mono s19, pf12.trans pf3, ?_, ?_, ⟨ds.reverse ++ rs', ?_, ?_⟩, hes17.mono s19, ?_, ?_, ?_, post9⟩
                  · have := pf3.length_le
                    rw [List.length_set] at this
                    exact Nat.lt_of_lt_of_le ng9 this
                  · rcases sm3 with z | z
                    · cases z
                    · exact z
                  · rw [List.map_append, List.reverse_append, List.map_reverse, List.reverse_reverse]
                  · rw [← down_all]
                    exact Paired.app (Paired.rev hds) (Paired.mapP hpr17 fun k a z => s19 _ _ z)
                  · rw [List.length_append, List.length_singleton] at hb1
                    rw [List.length_append, List.length_map, hdl]
                    omega
                  · omega
                  · intro k hk1
                    rcases List.mem_append.mp hk1 with z | z
                    · unfold heirs at z
                      obtain ⟨dd, _, rfl⟩ := List.mem_map.mp z
                      rw [List.length_append, List.length_singleton]
                      omega
                    · have := hb3 k (List.mem_cons_of_mem _ z)
                      omega
            · refine tF hgm ?_
              dsimp only at post9
              rw [if_neg hgm] at post9
              exact leave ((same_up hn7).trans (same_up hn8)) post9
        | die =>
          rw [hev] at post9
          exact post9.elim
  · rw [if_neg hm] at post
    exact post.elim
end
end KW
set_option Elab.async false
set_option linter.all false
set_option maxRecDepth 100000
set_option maxHeartbeats 4000000
/-! L7: powers, the least of some rows. -/
namespace KW
open PySem PySem.Spec PyProof.Rows L2 
section
variable {P : Program} {w : World} {K : PySem.W.Frag} {mg : Str → Option Value} {base : Heap}

def spPower : Sp := fun vs H Q _ => ∃ (b n : Nat), vs = [.int (b : Int), .int (n : Int)] ∧ b ≤ 9 ∧ n ≤ 8 ∧ Q (.int ((b ^ n : Nat) : Int)) H
theorem pow_le {b n : Nat} (hb : b ≤ 9) (hn : n ≤ 8) : b ^ n ≤ 43046721 := by
  have h1 : b ^ n ≤ 9 ^ n := Nat.pow_le_pow_left hb n
  have h2 : 9 ^ n ≤ 9 ^ 8 := Nat.pow_le_pow_right (by decide) hn
  have h3 : 9 ^ 8 = 43046721 := by decide
  omega
abbrev N__law_power : List Str := ["_law_base", "_law_many", "_law_found", "_law_turn"]
theorem sc__law_power : FnScope N__law_power ["_law_base", "_law_many"] (defScope (top 94)) := fnScope_ok (by decide +kernel)
theorem ok_power (D : DefAt K mg "_law_power" 94) (T : Txt K mg) : Cl P w K mg base 1 "_law_power" spPower := by
  refine cl_mk (i := 94) (N := N__law_power) (ps := ["_law_base", "_law_many"]) D sc__law_power (fun _ _ _ _ _ _ us hl => match us, hl with | [_, _], _ => rfl) ?_ ?_
  · rintro vs H Q E ⟨b, n, rfl, _⟩
    rfl
  rintro f0 cdv A outer s0 H vs Q E hr ⟨b, n, rfl, hb, hn, q⟩
  refine ⟨_, (pss_cons (ps_set (i := 2) sc__law_power.nd rfl (Or.inl rfl) pe_int) (pss_cons (ps_for PassesOwn.never rfl (pi_range1 rfl T.range (pa_cons (pv 1) pa_nil)) (pg_name (i := 3) sc__law_power.nd rfl (Or.inl rfl)) (pss_one (ps_set (i := 2) sc__law_power.nd rfl (Or.inl rfl) (pe_op op_mul (pv 2) (pv 0))))) (pss_one (ps_ret (pv 2))))), ?_⟩
  refine ⟨_, rfl, _, rfl, (by omega), (by omega), ?_⟩
  have e : ((n : Int)).toNat = n := by omega
  rw [e]
  refine for_range (lo := 0) (n := n) (fun j σ H' => H' = H ∧ ∃ v, σ = [some (.int (b : Int)), some (.int (n : Int)), some (.int ((b ^ j : Nat) : Int)), v]) ⟨rfl, none, rfl⟩ ?_ ?_
  · rintro j σ H' hj ⟨rfl, v, rfl⟩
    have hp := pow_le hb (show j ≤ 8 by omega)
    refine ⟨_, rfl, _, rfl, _, _, rfl, rfl, .inl (by omega), rfl, some (.int (0 + (j : Int))), ?_⟩
    rw [Nat.pow_succ, Int.natCast_mul]
    rfl
  · rintro σ H' ⟨rfl, v, rfl⟩
    exact ⟨_, rfl, q⟩

def spLeast : Sp := fun vs H Q _ => ∃ (l : Addr) (rs : List Addr) (ks : List Kn), vs = [.ref l] ∧ H l = some (.lst (rs.map V.ref)) ∧ Paired (KnR H) ks rs ∧ (∀ k ∈ ks, k.length ≤ 40000) ∧
  ∀ (a : Addr) (H' : Hp), Same H H' → H' a = some (.dK (knK (leastRow ks))) → (a ∈ rs ∨ H a = none) → Q (.ref a) H'
theorem Paired.get {α β : Type} {R : α → β → Prop} : ∀ {a : List α} {b : List β} {i : Nat} {y : β}, Paired R a b → b[i]? = some y → ∃ x, a[i]? = some x ∧ R x y
  | _, _, _, _, .nil, e => by simp at e
  | _, _, 0, y, .cons (b := z) h _, e => by
    have e : z = y := by simpa using e
    subst e
    exact ⟨_, rfl, h⟩
  | _, _, i + 1, _, .cons _ t, e => by
    obtain ⟨x, h1, h2⟩ := Paired.get (i := i) t (by simpa using e)
    exact ⟨x, by simpa using h1, h2⟩
theorem unlike_succ {a b : Kn} {l : List Int} {i : Nat} {y : Int} (h : l[i]? = some y) : unlike a b (l.take (i + 1)) = unlike a b (l.take i) ++ (if (look a y).getD 0 ≠ (look b y).getD 0 then [y] else []) := by
  unfold unlike
  rw [List.take_succ, h, List.filter_append]
  congr 1
  show List.filter _ [y] = _
  rw [List.filter_cons]
  by_cases q : (look a y).getD 0 ≠ (look b y).getD 0
  · rw [decide_eq_true q, if_pos rfl, if_pos q]; rfl
  · rw [decide_eq_false q, if_neg q]; rfl
theorem atI_0 (x : V) (xs : List V) : atI (x :: xs) (0 : Int) = some x := atI_nat (xs := x :: xs) (j := 0) (v := x) rfl
theorem keys_V (k : Kn) : ((knK k).map fun kv => kV kv.1) = (keys k).map V.int := by
  unfold knK keys
  rw [List.map_map, List.map_map]
  rfl
theorem getV (k : Kn) (i : Int) : (valV (knK k) (.inl i)).getD (V.int 0) = V.int ((look k i).getD 0) := by
  rw [valV_kn]
  cases look k i <;> rfl
theorem cut1 {α : Type} (xs : List α) : (xs.drop (HT.sIx xs.length 0 (some 1))).take (HT.sIx xs.length xs.length none - HT.sIx xs.length 0 (some 1)) = xs.drop 1 := by
  have e : HT.sIx xs.length 0 (some ((1 : Nat) : Int)) = min 1 xs.length := HT.sIx_nat _ _ _
  have e2 : HT.sIx xs.length xs.length none = xs.length := rfl
  have e3 : HT.sIx xs.length 0 (some 1) = min 1 xs.length := e
  rw [e3, e2]
  cases xs with
  | nil => rfl
  | cons x r =>
    have : min 1 (x :: r).length = 1 := by rw [List.length_cons]; omega
    rw [this, List.take_of_length_le]
    rw [List.length_drop]
    exact Nat.le_refl _
abbrev N__law_least : List Str := ["_law_rows", "_law_least_here", "_law_row", "_law_unlike", "_law_i"]
theorem sc__law_least : FnScope N__law_least ["_law_rows"] (defScope (top 95)) := fnScope_ok (by decide +kernel)
theorem ok_least (D : DefAt K mg "_law_least" 95) (T : Txt K mg) : Cl P w K mg base 1 "_law_least" spLeast := by
  refine cl_mk (i := 95) (N := N__law_least) (ps := ["_law_rows"]) D sc__law_least (fun _ _ _ _ _ _ us hl => match us, hl with | [_], _ => rfl) ?_ ?_
  · rintro vs H Q E ⟨l, rs, ks, rfl, _⟩
    rfl
  rintro f0 cdv A outer s0 H vs Q E hr ⟨l, rs, ks, rfl, hl, hks, hkl, q⟩
  refine ⟨_, (C8.pss_cut (ps_set (i := 1) sc__law_least.nd rfl (Or.inr rfl) (pe_ifExp (pt_cmpR (op_neL0 hr.units0) (pv 0) (pe_lst pa_nil) (nomark _)) (pe_ix ix_list (pv 0) pe_int (fun _ _ => rfl)) pe_dnewK)) (pss_cons (ps_for PassesOwn.never rfl (pi_list (pe_slice sl_list (pv 0) (po_some pe_int) po_none)) (pg_name (i := 2) sc__law_least.nd rfl (Or.inr rfl)) (pss_cons (ps_setLc (i := 3) (own := [("_law_i", 4)]) rfl sc__law_least.nd rfl rfl (sw_true rfl rfl rfl (by decide +kernel)) (pi_list (pe_callB cr_sortedI (by rfl) T.sorted (by decide +kernel) (pa_cons (pe_op op_cat (pe_callTy (call_listD rfl) (by rfl) T.list (by decide +kernel) (pa_cons (pv 2) pa_nil)) (pe_callTy (call_listD rfl) (by rfl) T.list (by decide +kernel) (pa_cons (pv 1) pa_nil))) pa_nil))) (blkOk_by (N := N__law_least) (sc := defScope (top 95)) (by decide +kernel)) (fun _ _ _ _ _ => (pg_name (i := 4) sc__law_least.nd rfl (Or.inl rfl))) (fun _ _ _ _ _ => (pts_one (pt_cmpR op_ne (pe_dget2 (hu_of hr) (pv 2) (pv 4) pe_int ⟨rfl, rfl, rfl, rfl⟩) (pe_dget2 (hu_of hr) (pv 1) (pv 4) pe_int ⟨rfl, rfl, rfl, rfl⟩) (nomark _)))) (fun _ _ _ _ _ => (pv 4))) (pss_one (ps_if (PW.pt (pw_and (pt_cmpR (op_neL0 hr.units0) (pv 3) (pe_lst pa_nil) (nomark _)) (pw_and1 (pt_cmpR op_lt (pe_dget2 (hu_of hr) (pv 2) (pe_ix ix_list (pv 3) pe_int (fun _ _ => rfl)) pe_int ⟨rfl, rfl, rfl, rfl⟩) (pe_dget2 (hu_of hr) (pv 1) (pe_ix ix_list (pv 3) pe_int (fun _ _ => rfl)) pe_int ⟨rfl, rfl, rfl, rfl⟩) (nomark _))))) (pss_one (ps_set (i := 1) sc__law_least.nd rfl (Or.inr rfl) (pv 2))) pss_nil)))) (pss_one (ps_ret (pv 1))))), ?_⟩
  refine ⟨fun σ' H' => ∃ (k0 : Kn) (a0 : Addr) (v2 v3 v4 : Option V), σ' = [some (.ref l), some (.ref a0), v2, v3, v4] ∧ Same H H' ∧ H' a0 = some (.dK (knK k0)) ∧ (a0 ∈ rs ∨ H a0 = none) ∧ k0.length ≤ 40000 ∧ leastRow ks = (ks.drop 1).foldl lower k0, ?_, ?_⟩
  · refine ⟨_, rfl, Nat.zero_le _, fun n0 hn0 => ⟨l, n0, _, rfl, rfl, SqL.of (same_up hn0 _ _ hl), SqL.of upd_same, _, rfl, ?_⟩⟩
    cases hks with
    | nil =>
      refine bF rfl ?_
      intro n1 hn1
      exact ⟨[], n1, _, _, _, rfl, (same_up hn0).trans (same_up hn1), upd_same, .inr (by
        cases q : H n1 with
        | none => rfl
        | some u => rw [same_up hn0 _ _ q] at hn1; cases hn1), by decide, rfl⟩
    | cons h0 hr0 =>
      refine bT rfl ?_
      refine ⟨_, rfl, l, _, _, _, rfl, rfl, SqL.of (same_up hn0 _ _ hl), atI_0 _ _, ?_⟩
      exact ⟨_, _, _, _, _, rfl, same_up hn0, same_up hn0 _ _ h0, .inl List.mem_cons_self, hkl _ List.mem_cons_self, rfl⟩
  · rintro σ' H' ⟨k0, a0, v2, v3, v4, rfl, sm, ha0, hin, hk0, hlr⟩
    refine ⟨_, rfl, _, rfl, l, _, rfl, SqL.of (sm _ _ hl), fun n2 hn2 => ⟨n2, rfl, ⟨_, SqL.of upd_same⟩, ?_⟩⟩
    have e1 : cutV (rs.map V.ref) (some 1) none = (rs.map V.ref).drop 1 := cut1 _
    rw [e1]
    have hd : Paired (KnR H) (ks.drop 1) (rs.drop 1) := by
      cases hks with
      | nil => exact .nil
      | cons _ t => exact t
    refine for_list (K := K) (a := n2) (xs := (rs.map V.ref).drop 1) (fun j σ H2 => ∃ (kb : Kn) (ab : Addr) (v2 v3 v4 : Option V), σ = [some (.ref l), some (.ref ab), v2, v3, v4] ∧ Same H H2 ∧ H2 n2 = some (.lst ((rs.map V.ref).drop 1)) ∧ H2 ab = some (.dK (knK kb)) ∧ (ab ∈ rs ∨ H ab = none) ∧ kb.length ≤ 40000 ∧ kb = ((ks.drop 1).take j).foldl lower k0) ?_ ?_ ?_ ?_
    · exact ⟨k0, a0, v2, v3, v4, rfl, sm.trans (same_up hn2), upd_same, same_up hn2 _ _ ha0, hin, hk0, rfl⟩
    · rintro j σ H2 hj ⟨kb, ab, v2, v3, v4, rfl, sm2, h2, _⟩
      exact SqL.of h2
    · rintro j x σ H2 hx ⟨kb, ab, v2, v3, v4, rfl, sm2, h2, hab, hin2, hkb, ekb⟩
      rw [List.getElem?_drop] at hx
      rw [List.getElem?_map] at hx
      obtain ⟨ax, hax, rfl⟩ : ∃ ax, rs[1 + j]? = some ax ∧ x = .ref ax := by
        cases q : rs[1 + j]? with
        | none => rw [q] at hx; cases hx
        | some ax => rw [q] at hx; exact ⟨ax, rfl, (Option.some.inj hx).symm⟩
      obtain ⟨kx, hkx, hKx⟩ := Paired.get hks hax
      have hkxl := hkl kx (List.mem_of_getElem? hkx)
      have hx2 : H2 ax = some (.dK (knK kx)) := sm2 _ _ hKx
      refine ⟨_, rfl, ax, _, rfl, .inl hx2, fun p1 hp1 => ⟨_, rfl, ab, _, rfl, .inl (same_up hp1 _ _ hab), fun p2 hp2 => ⟨p1, p2, _, _, rfl, rfl, same_up hp2 _ _ upd_same, upd_same, ?_, fun p3 hp3 => ⟨p3, keys kx ++ keys kb, rfl, SqL.of ?_, fun ns p4 hperm hsort hp4 => ⟨p4, rfl, ⟨_, SqL.of upd_same⟩, fun Dd hDd => ?_⟩⟩⟩⟩⟩
      · rw [List.length_map, List.length_map]
        have e1 : (knK kx).length = kx.length := List.length_map _
        have e2 : (knK kb).length = kb.length := List.length_map _
        rw [e1, e2]
        exact Nat.le_trans (Nat.add_le_add hkxl hkb) (by decide)
      · rw [upd_same, keys_V, keys_V, ← List.map_append]
      obtain rfl := sortI_is hperm hsort
      have s4 : Same H2 (upd (upd (upd (upd H2 p1 (.lst ((knK kx).map fun kv => kV kv.1))) p2 (.lst ((knK kb).map fun kv => kV kv.1))) p3 (.lst ((knK kx).map (fun kv => kV kv.1) ++ (knK kb).map fun kv => kV kv.1))) p4 (.lst ((sortI (keys kx ++ keys kb)).map V.int))) :=
        (((same_up hp1).trans (same_up hp2)).trans (same_up hp3)).trans (same_up hp4)
      have h4 : upd (upd (upd (upd H2 p1 (.lst ((knK kx).map fun kv => kV kv.1))) p2 (.lst ((knK kb).map fun kv => kV kv.1))) p3 (.lst ((knK kx).map (fun kv => kV kv.1) ++ (knK kb).map fun kv => kV kv.1))) p4 (.lst ((sortI (keys kx ++ keys kb)).map V.int)) p4 = some (.lst ((sortI (keys kx ++ keys kb)).map V.int)) := upd_same
      revert hDd s4 h4
      generalize upd (upd (upd (upd H2 p1 (.lst ((knK kx).map fun kv => kV kv.1))) p2 (.lst ((knK kb).map fun kv => kV kv.1))) p3 (.lst ((knK kx).map (fun kv => kV kv.1) ++ (knK kb).map fun kv => kV kv.1))) p4 (.lst ((sortI (keys kx ++ keys kb)).map V.int)) = H4
      intro hDd s4 h4
      refine lc_list (K := K) (a := p4) (xs := (sortI (keys kx ++ keys kb)).map V.int) (fun i H' => Same H4 H' ∧ H' Dd = some (.lst ((unlike kx kb ((sortI (keys kx ++ keys kb)).take i)).map V.int))) ?_ ?_ ?_ ?_
      · exact ⟨same_up hDd, upd_same⟩
      · rintro i H' hi ⟨sm3, _⟩
        exact SqL.of (sm3 _ _ h4)
      · rintro i x H' hx' ⟨sm3, hD⟩
        rw [List.getElem?_map] at hx'
        obtain ⟨y, hy, rfl⟩ : ∃ y, (sortI (keys kx ++ keys kb))[i]? = some y ∧ x = .int y := by
          cases q : (sortI (keys kx ++ keys kb))[i]? with
          | none => rw [q] at hx'; cases hx'
          | some y => rw [q] at hx'; exact ⟨y, rfl, (Option.some.inj hx').symm⟩
        have g1 := sm3 _ _ (s4 _ _ hx2)
        have g2 := sm3 _ _ (s4 _ _ hab)
        refine ⟨rfl, _, rfl, ax, rfl, .inl ⟨_, .inl g1⟩, _, rfl, _, DGi g1 rfl, ?_⟩
        refine ⟨_, rfl, ab, rfl, .inl ⟨_, .inl g2⟩, _, rfl, _, DGi g2 rfl, ?_⟩
        rw [getV, getV]
        refine ⟨rfl, ?_⟩
        have hll : (unlike kx kb ((sortI (keys kx ++ keys kb)).take i)).length < 100000 := by
          have h1 : (unlike kx kb ((sortI (keys kx ++ keys kb)).take i)).length ≤ ((sortI (keys kx ++ keys kb)).take i).length := List.length_filter_le _ _
          have h2 : ((sortI (keys kx ++ keys kb)).take i).length ≤ (sortI (keys kx ++ keys kb)).length := by rw [List.length_take]; exact Nat.min_le_right _ _
          have h3 : (sortI (keys kx ++ keys kb)).length = (keys kx ++ keys kb).length := List.length_mergeSort _
          rw [List.length_append] at h3
          have h4 : (keys kx).length = kx.length := List.length_map _
          have h5 : (keys kb).length = kb.length := List.length_map _
          omega
        by_cases hq : (look kx y).getD 0 ≠ (look kb y).getD 0
        · refine ⟨_, rfl, nT (fun e => hq (V.int.inj e)) ?_⟩
          refine ⟨_, rfl, _, hD, (by rw [List.length_map]; exact small hll), fun a o e => ?_, ?_⟩
          · rw [upd_ne (fun e2 => by rw [e2, hDd] at e; cases e)]
            exact sm3 _ _ e
          · rw [upd_same, unlike_succ hy, if_pos hq, List.map_append]
            rfl
        · refine ⟨_, rfl, nF (congrArg V.int (Decidable.not_not.mp hq)) ⟨sm3, ?_⟩⟩
          rw [unlike_succ hy, if_neg hq, List.append_nil]
          exact hD
      · rintro H' ⟨sm3, hD⟩
        rw [List.length_map, List.take_length] at hD
        have sm5 : Same H2 H' := s4.trans sm3
        have hnx : (ks.drop 1)[j]? = some kx := by rw [List.getElem?_drop]; exact hkx
        have enx : ((ks.drop 1).take (j + 1)).foldl lower k0 = lower kb kx := by
          rw [List.take_succ, hnx, List.foldl_append, ← ekb]
          rfl
        refine ⟨_, rfl, Nat.zero_le _, fun n5 hn5 => ⟨Dd, n5, _, rfl, rfl, SqL.of (same_up hn5 _ _ hD), SqL.of upd_same, _, rfl, ?_⟩⟩
        have sm6 := sm5.trans (same_up (o := HO.lst []) hn5)
        generalize hU : unlike kx kb (sortI (keys kx ++ keys kb)) = us at hD ⊢
        cases us with
        | nil =>
          refine bF rfl (bF rfl ?_)
          refine ⟨kb, ab, _, _, _, rfl, sm2.trans sm6, sm6 _ _ h2, sm6 _ _ hab, hin2, hkb, ?_⟩
          rw [enx]
          unfold lower below
          rw [hU]
          rfl
        | cons u ur =>
          refine bT rfl ?_
          have g1 := sm6 _ _ hx2
          have g2 := sm6 _ _ hab
          have hD6 := same_up (o := HO.lst []) hn5 _ _ hD
          refine ⟨_, rfl, ax, rfl, .inl ⟨_, .inl g1⟩, ⟨_, rfl, Dd, _, _, _, rfl, rfl, SqL.of hD6, atI_0 _ _, _, DGi g1 rfl, ?_⟩⟩
          refine ⟨_, rfl, ab, rfl, .inl ⟨_, .inl g2⟩, ⟨_, rfl, Dd, _, _, _, rfl, rfl, SqL.of hD6, atI_0 _ _, _, DGi g2 rfl, ?_⟩⟩
          rw [getV, getV]
          refine ⟨_, _, rfl, rfl, _, rfl, ?_⟩
          by_cases hq : (look kx u).getD 0 < (look kb u).getD 0
          · refine tT hq ?_
            refine ⟨_, rfl, ⟨kx, ax, _, _, _, rfl, sm2.trans sm6, sm6 _ _ h2, g1, .inl (List.mem_of_getElem? hax), hkxl, ?_⟩⟩
            rw [enx]
            unfold lower below
            rw [hU]
            show kx = if decide (_ < _) = true then kx else kb
            rw [decide_eq_true hq, if_pos rfl]
          · refine tF hq ?_
            refine ⟨kb, ab, _, _, _, rfl, sm2.trans sm6, sm6 _ _ h2, g2, hin2, hkb, ?_⟩
            rw [enx]
            unfold lower below
            rw [hU]
            show kb = if decide (_ < _) = true then kx else kb
            rw [decide_eq_false hq]
            rfl
    · rintro σ H2 ⟨kb, ab, v2, v3, v4, rfl, sm2, h2, hab, hin2, hkb, ekb⟩
      refine ⟨_, rfl, q ab H2 sm2 ?_ hin2⟩
      rw [hab, hlr, ekb, List.take_of_length_le]
      rw [Paired.length hd, List.length_drop, List.length_drop, List.length_map]
      exact Nat.le_refl _
end
end KW
set_option Elab.async false
set_option linter.all false
set_option maxRecDepth 100000
set_option maxHeartbeats 4000000
/-! L8: a term over a row, going. -/
namespace KW
open PySem PySem.Spec PyProof.Rows L2 
section
variable {P : Program} {w : World} {K : PySem.W.Frag} {mg : Str → Option Value} {base : Heap}

theorem ix_tupK {X : Cx} {K' : PySem.W.Frag} (hK : X.K = K') : IxR X (rIxT K') := by
  subst hK
  exact ix_tup
theorem ix_listK {X : Cx} {K' : PySem.W.Frag} (hK : X.K = K') : IxR X (rIxL K') := by
  subst hK
  exact ix_list
theorem pg_tupK {X : Cx} {K' : PySem.W.Frag} {pos : Pos} {es : List Expr} {k : Nat} {t : TGs} {n : Nat} (hK : X.K = K') (hc : X.calm = true) (h : PGs X es t)
    (hn : (assignEach es X.env).length = n := by rfl) (hst : (assignEach es X.env).findIdx? (·.1) = none := by rfl) : PG X (.Tuple es k pos) (gTup K' n t) := by
  subst hK
  exact pg_tup hc h hn hst
theorem loop_len {run : Kn → S → R Val} {num m : Nat} : ∀ {f : Nat} {ps : List Kn} {ends : List (Kn × Int)} {s : S} {es : List (Kn × Int)} {s' : S}, (∀ k ∈ ps, k.length + f ≤ FUEL) → loop run num m f ps ends s = .ok es s' → es.length ≤ ends.length + f ∧ ∀ e ∈ es, e ∈ ends ∨ e.1.length ≤ FUEL
  | 0, _, _, _, _, _, _, h => by unfold loop at h; cases h
  | f + 1, [], ends, s, es, s', _, h => by
    unfold loop at h
    cases h
    exact ⟨by omega, fun e he => .inl he⟩
  | f + 1, k :: ps, ends, s, es, s', hk, h => by
    unfold loop at h
    have h0 := hk k List.mem_cons_self
    cases hr : run k s with
    | ok v s1 =>
      rw [hr] at h
      cases v with
      | int i =>
        obtain ⟨h1, h2⟩ := loop_len (f := f) (fun k' hk' => by have := hk k' (List.mem_cons_of_mem _ hk'); omega) h
        rw [List.length_append, List.length_singleton] at h1
        refine ⟨by omega, fun e he => ?_⟩
        rcases h2 e he with z | z
        · rcases List.mem_append.mp z with z | z
          · exact .inl z
          · rw [List.mem_singleton.mp z]
            exact .inr (by show k.length ≤ FUEL; omega)
        · exact .inr z
      | _ => cases h
    | st w s1 =>
      rw [hr] at h
      cases w with
      | gone n i =>
        dsimp only at h
        split at h
        · split at h
          · obtain ⟨h1, h2⟩ := loop_len (f := f) (fun k' hk' => by
              rcases List.mem_append.mp hk' with z | z
              · unfold heirs at z
                obtain ⟨dd, _, rfl⟩ := List.mem_map.mp z
                rw [List.length_append, List.length_singleton]
                omega
              · have := hk k' (List.mem_cons_of_mem _ z)
                omega) h
            exact ⟨by omega, h2⟩
          · cases h
        · cases h
      | _ => cases h
    | die => rw [hr] at h; cases h
theorem inner_len {rec : Ev} {x : Str} {m : Nat} {b : Tm} {env : Nv} {gk : GK} {s s' : S} {es : List (Kn × Int)} (h : inner rec x m b env gk s = .ok es s') : es.length ≤ FUEL ∧ ∀ e ∈ es, e.1.length ≤ FUEL := by
  unfold inner at h
  split at h
  · obtain ⟨h1, h2⟩ := loop_len (fun k hk => by rw [List.mem_singleton.mp hk]; show 0 + FUEL ≤ FUEL; omega) h
    refine ⟨by rw [List.length_nil] at h1; omega, fun e he => ?_⟩
    rcases h2 e he with z | z
    · cases z
    · exact z
  · cases h
theorem inner_m {rec : Ev} {x : Str} {m : Nat} {b : Tm} {env : Nv} {gk : GK} {s s' : S} {es : List (Kn × Int)} (h : inner rec x m b env gk s = .ok es s') : 2 ≤ m ∧ m ≤ 9 := by
  unfold inner at h
  split at h
  · rename_i z; exact z.2
  · cases h
theorem EndsAt.len {sd : Side} {I : Hp} : ∀ {es : List (Kn × Int)} {us : List V}, EndsAt sd I es us → us.length = es.length
  | [], _, h => by rw [show _ = [] from h]; rfl
  | _ :: _, _, ⟨_, _, e, _, b⟩ => by rw [e, List.length_cons, List.length_cons, EndsAt.len b]
theorem EndsAt.get {sd : Side} {I : Hp} : ∀ {es : List (Kn × Int)} {us : List V} {i : Nat} {x : V}, EndsAt sd I es us → us[i]? = some x → ∃ e, es[i]? = some e ∧ EndAt sd I e x
  | [], _, i, x, h, g => by rw [show _ = [] from h] at g; simp at g
  | e :: es, _, 0, x, ⟨u, r, rfl, a, b⟩, g => by
    have : u = x := by simpa using g
    subst this
    exact ⟨e, rfl, a⟩
  | e :: es, _, i + 1, x, ⟨u, r, rfl, a, b⟩, g => by
    obtain ⟨e', h1, h2⟩ := EndsAt.get (i := i) b (by simpa using g)
    exact ⟨e', by simpa using h1, h2⟩
/-- a comprehension over ends -/
theorem lc_ends {sd : Side} {K : PySem.W.Frag} {a : Addr} {es : List (Kn × Int)} {us : List V} {g : TG} {tt : TT} {te : TE} {vs : List Nat} {σ : L2.St} {H1 : Hp} {D : Addr} {Qd : Hp → Prop} (keep : Kn × Int → Bool) (R : Kn × Int → V → Prop)
    {I' : Hp} (hD : H1 D = none) (ha : I' a = some (.lst us)) (sI : Same I' H1) (hes : EndsAt sd I' es us) (hl : es.length ≤ FUEL)
    (hs : ∀ (e : Kn × Int) (p d : Addr) (H : Hp) (F : Bool → V → Hp → Prop), e ∈ es → Same I' H → I' p = some (.tup [.ref d, .int e.2]) → I' d = some (.dK (knK e.1)) → (∀ b y H', b = keep e → Same H H' → (b = true → R e y) → F b y H') →
      g (.ref p) (wipe σ vs) H fun σ2 H2 => wipe σ2 vs = wipe σ vs ∧ tt σ2 H2 fun b H3 => if b = true then te σ2 H3 fun y H4 => F true y H4 else F false .non H3)
    (hd : ∀ H ys, Same H1 H → H D = some (.lst ys) → Paired R (es.filter keep) ys → Qd H) : ∃ W : Nat → Nat → Hp → Prop, (∃ m, W 0 m (upd H1 D (.lst []))) ∧ ∀ i m H, W i m H →
      ((Itl K a).stop i H ∧ Qd H) ∨ ((Itl K a).go i H ∧ ∃ Nx : Hp → Prop, (∀ H', Nx H' → ∃ m', m' < m ∧ W (i + 1) m' H') ∧ ∀ x H', (Itl K a).yld i H x H' → g x (wipe σ vs) H' fun σ2 H2 => wipe σ2 vs = wipe σ vs ∧ tt σ2 H2 fun b H3 =>
        if b = true then te σ2 H3 fun y H4 => ∃ acc, H4 D = some (.lst acc) ∧ acc.length < sizeLine ∧ Nx (upd H4 D (.lst (acc ++ [y]))) else Nx H3) := by
  refine lc_list (K := K) (a := a) (xs := us) (fun i H => Same H1 H ∧ ∃ ys, H D = some (.lst ys) ∧ ys.length ≤ i ∧ Paired R ((es.take i).filter keep) ys) ⟨same_up hD, [], upd_same, Nat.le_refl _, .nil⟩ (fun i H _ h => SqL.of (h.1 _ _ (sI _ _ ha))) ?_ ?_
  · rintro i x H hx ⟨sm, ys, hys, hyl, hp⟩
    obtain ⟨e, he, p, d, rfl, h1, h2⟩ := hes.get hx
    have hi := (List.getElem?_eq_some_iff.mp hx).1
    have hul := hes.len
    refine hs e p d H (fun b y H4 => match b with | true => (∃ acc, H4 D = some (.lst acc) ∧ acc.length < sizeLine ∧ Same H1 (upd H4 D (.lst (acc ++ [y]))) ∧ ∃ ys, upd H4 D (.lst (acc ++ [y])) D = some (.lst ys) ∧ ys.length ≤ i + 1 ∧ Paired R ((es.take (i + 1)).filter keep) ys) | false => Same H1 H4 ∧ ∃ ys, H4 D = some (.lst ys) ∧ ys.length ≤ i + 1 ∧ Paired R ((es.take (i + 1)).filter keep) ys) (List.mem_of_getElem? he) (sI.trans sm) h1 h2 ?_
    have et : (es.take (i + 1)).filter keep = (es.take i).filter keep ++ (if keep e = true then [e] else []) := by
      rw [List.take_succ, he, List.filter_append]
      congr 1
      show List.filter _ [e] = _
      rw [List.filter_cons]
      rfl
    intro b y H4 hb sm4 hR
    cases b with
    | true =>
      refine ⟨ys, sm4 _ _ hys, Nat.lt_of_lt_of_le (by omega : ys.length < FUEL) (by decide), fun c o hc => ?_, _, upd_same, by rw [List.length_append, List.length_singleton]; omega, ?_⟩
      · rw [upd_ne (fun z => by rw [z, hD] at hc; cases hc)]
        exact sm4 _ _ (sm _ _ hc)
      · rw [et, if_pos hb.symm]
        exact Paired.app hp (.cons (hR rfl) .nil)
    | false =>
      refine ⟨sm.trans sm4, ys, sm4 _ _ hys, by omega, ?_⟩
      rw [et, if_neg (by rw [← hb]; decide), List.append_nil]
      exact hp
  · rintro H ⟨sm, ys, hys, hyl, hp⟩
    refine hd H ys sm hys ?_
    rw [hes.len, List.take_length] at hp
    exact hp
theorem paired_map {α : Type} {f : α → V} {R : α → V → Prop} (h : ∀ a v, R a v → v = f a) : ∀ {l : List α} {ys : List V}, Paired R l ys → ys = l.map f
  | _, _, .nil => rfl
  | _, _, .cons x y => by rw [List.map_cons, paired_map h y, h _ _ x]
theorem paired_refs {H : Hp} : ∀ {es : List (Kn × Int)} {ys : List V}, Paired (fun (e : Kn × Int) v => ∃ d, v = V.ref d ∧ KnR H e.1 d) es ys → ∃ rs : List Addr, ys = rs.map V.ref ∧ Paired (KnR H) (es.map (·.1)) rs
  | _, _, .nil => ⟨[], rfl, .nil⟩
  | _, _, .cons ⟨d, e, h⟩ t => by
    obtain ⟨rs, e2, h2⟩ := paired_refs t
    exact ⟨d :: rs, by rw [e, e2]; rfl, .cons h h2⟩
/-- what stands and is not to be changed is adopted -/
theorem W.adopt {A : List Addr} {I0 H0 I H : Hp} {M : List (Addr × HO)} {p : Addr} {o : HO} (w : W A I0 H0 I M H) (hp : H p = some o) (hM : p ∉ M.map (·.1)) (h0 : (∃ u, I p = some u) ∨ H0 p = none) : W A I0 H0 (upd I p o) M H ∧ Same I (upd I p o) := by
  have sm : Same I (upd I p o) := fun b u z => by
    by_cases hb : b = p
    · subst hb
      rw [upd_same, ← hp]
      exact w.hs.sub _ _ z
    · rw [upd_ne hb]; exact z
  refine ⟨⟨⟨fun b u z => ?_, w.hs.mem, fun q hq => ?_, w.hs.nd⟩, ⟨w.st.same.trans sm, w.st.fr, fun b u z => ?_⟩, w.ad, w.aa⟩, sm⟩
  · by_cases hb : b = p
    · subst hb
      rw [upd_same] at z
      cases z
      exact hp
    · rw [upd_ne hb] at z
      exact w.hs.sub _ _ z
  · rw [upd_ne (fun z => hM (by rw [← z]; exact List.mem_map_of_mem hq))]
    exact w.hs.out q hq
  · by_cases hb : b = p
    · subst hb
      rcases h0 with ⟨u', hu⟩ | h0
      · rcases w.st.new _ _ hu with y | y
        · rw [upd_same] at z
          cases z
          have e1 : H b = some u' := w.hs.sub _ _ hu
          rw [hp] at e1
          cases e1
          exact .inl y
        · exact .inr y
      · exact .inr h0
    · rw [upd_ne hb] at z
      exact w.st.new b u z
theorem Paired.mem2 {α β : Type} {R : α → β → Prop} : ∀ {a : List α} {b : List β} {y : β}, Paired R a b → y ∈ b → ∃ x, x ∈ a ∧ R x y
  | _, _, _, .nil, h => by cases h
  | _, _, _, .cons x t, h => by
    rcases List.mem_cons.mp h with e | e
    · subst e; exact ⟨_, List.mem_cons_self, x⟩
    · obtain ⟨z, h1, h2⟩ := Paired.mem2 t e
      exact ⟨z, List.mem_cons_of_mem _ h1, h2⟩
theorem deep_is {es : List (Kn × Int)} {mx : Int} (hne : es ≠ []) (h1 : mx ∈ es.map fun e => (e.1.length : Int)) (h2 : ∀ y ∈ es.map fun e => (e.1.length : Int), y ≤ mx) : mx = ((deep es : Nat) : Int) := by
  have h := maxL_is h1 h2
  obtain ⟨e, he, e2⟩ := List.mem_map.mp h1
  unfold deep
  rw [← h, ← e2]
  rfl
theorem deep_ge {es : List (Kn × Int)} {e : Kn × Int} (h : e ∈ es) : e.1.length ≤ deep es := by
  have := maxL_ge (l := es.map fun e => (e.1.length : Int)) (List.mem_map_of_mem h)
  unfold deep
  omega
theorem deep_le {es : List (Kn × Int)} (h : short es = true) (hne : es ≠ []) : deep es ≤ 8 := by
  have h1 := maxL_mem (l := es.map fun e => (e.1.length : Int)) (fun z => hne (List.map_eq_nil_iff.mp z))
  obtain ⟨e, he, e2⟩ := List.mem_map.mp h1
  have h2 := of_decide_eq_true (List.all_eq_true.mp h e he)
  unfold deep
  omega
theorem filter_all {α : Type} (l : List α) : l.filter (fun _ => true) = l := List.filter_eq_self.mpr fun _ _ => rfl

def spGoing (d : Nat) : Sp := fun vs H Q _ => ∃ c I r q g k kn gk most asked gones s tv e t env, vs = [.ref r, tv, .ref e] ∧ LPre (c + 1) I H r q g k kn gk most asked gones s ∧ TmAt I t tv ∧ NAt .law I env e ∧
  (match t with | .qu _ _ _ _ => True | .share _ _ _ _ => True | _ => False) ∧ LPost c okV I H r q g k kn gk most gones Q (body kn (ev most kn d) t env gk s)
abbrev N__law_going : List Str := ["_law_run_here", "_law_term", "_law_env", "_law_kind", "_law_n_here", "_law_ends", "_law_values", "_law_known", "_law_value", "_law_deep", "_law_parts"]
theorem sc__law_going : FnScope N__law_going ["_law_run_here", "_law_term", "_law_env"] (defScope (top 93)) := fnScope_ok (by decide +kernel)
theorem ok_going {d k : Nat} (D : DefAt K mg "_law_going" 93) (T : Txt K mg) (c__law_out : Cl P w K mg base (k + 1) "_law_out" (spOut d)) (c__law_inner : Cl P w K mg base (k + 2) "_law_inner" (spInner d)) (c__law_power : Cl P w K mg base 1 "_law_power" spPower) (c__law_least : Cl P w K mg base 1 "_law_least" spLeast) : Cl P w K mg base (k + 3) "_law_going" (spGoing d) := by
  refine cl_mk (i := 93) (N := N__law_going) (ps := ["_law_run_here", "_law_term", "_law_env"]) D sc__law_going (fun _ _ _ _ _ _ us hl => match us, hl with | [_, _, _], _ => rfl) ?_ ?_
  · rintro vs H Q E ⟨c, I, r, q, g, ka, kn, gk, most, asked, gones, s, tv, e, t, env, rfl, _⟩
    rfl
  rintro f0 cdv A outer s0 H vs Q E hr ⟨c, I, r, q, g, ka, kn, gk, most, asked, gones, s, tv, e, t, env, rfl, pre, ht, hen, hqs, post⟩
  refine ⟨_, (pss_cons (ps_par (i := 3) (j := 4) rfl sc__law_going.nd rfl rfl (by decide) rfl rfl (pa_cons (pe_ix ix_tup (pv 1) pe_int (fun _ _ => rfl)) (pa_cons pe_int pa_nil)) (by rfl)) (pss_cons (ps_if (pt_cmpR op_eq (pv 3) pe_str (nomark _)) (pss_cons (ps_set (i := 4) sc__law_going.nd rfl (Or.inl rfl) (pe_cl c__law_out hr (by omega) rfl (pa_cons (pv 0) (pa_cons (pe_ix ix_tup (pv 1) pe_int (fun _ _ => rfl)) (pa_cons (pv 2) pa_nil))))) (pss_one (ps_if (pt_cmpR op_notN (pe_dget (hu_of hr) (pv 0) pe_str (fun _ _ => rfl)) pe_non (nomark _)) (pss_one (ps_ret pe_non)) pss_nil))) pss_nil) (pss_cons (ps_set (i := 5) sc__law_going.nd rfl (Or.inl rfl) (pe_cl c__law_inner hr (by omega) rfl (pa_cons (pv 0) (pa_cons (pe_ix ix_tup (pv 1) pe_int (fun _ _ => rfl)) (pa_cons (pe_ix ix_tup (pv 1) pe_int (fun _ _ => rfl)) (pa_cons (pe_ifExp (pt_cmpR op_ne (pv 3) pe_str (nomark _)) (pe_ix ix_tup (pv 1) (pe_un un_neg pe_int) (fun _ _ => rfl)) (pe_ix ix_tup (pv 1) pe_int (fun _ _ => rfl))) (pa_cons (pv 2) pa_nil))))))) (pss_cons (ps_if (pt_cmpR op_isN (pv 5) pe_non (nomark _)) (pss_one (ps_ret pe_non)) pss_nil) (pss_cons (ps_setLc (i := 6) (own := [("_law_known", 7), ("_law_value", 8)]) rfl sc__law_going.nd rfl rfl (sw_true rfl rfl rfl (by decide +kernel)) (pi_list (pv 5)) (blkOk_by (N := N__law_going) (sc := defScope (top 93)) (by decide +kernel)) (fun _ _ _ _ _ => (pg_tupK (K' := K) (n := 2) rfl rfl (pgs_cons (pg_name (i := 7) sc__law_going.nd rfl (Or.inl rfl)) (pgs_cons (pg_name (i := 8) sc__law_going.nd rfl (Or.inl rfl)) pgs_nil)))) (fun _ _ _ _ _ => pts_nil) (fun _ _ _ _ _ => (pv 8))) (pss_cons (ps_if (pt_cmpR op_in_seq (pv 3) (pe_tup (pa_cons pe_str (pa_cons pe_str pa_nil))) (by rfl)) (pss_one (ps_ret (pe_callB (cr_max rfl) (by rfl) T.max (by decide +kernel) (pa_cons (pv 6) pa_nil)))) pss_nil) (pss_cons (ps_if (pt_cmpR op_in_seq (pv 3) (pe_tup (pa_cons pe_str (pa_cons pe_str pa_nil))) (by rfl)) (pss_one (ps_ret (pe_callB (cr_min rfl) (by rfl) T.min (by decide +kernel) (pa_cons (pv 6) pa_nil)))) pss_nil) (pss_cons (ps_if (pt_cmpR op_eq (pv 3) pe_str (nomark _)) (pss_one (ps_ret (pe_tup (pa_cons pe_str (pa_cons (pe_cl c__law_least hr (by omega) rfl (pa_cons (pe_lc (own := [("_law_known", 7), ("_law_value", 8)]) rfl sc__law_going.nd (pi_list (pv 5)) (blkOk_by (N := N__law_going) (sc := defScope (top 93)) (by decide +kernel)) (fun _ _ _ _ _ => (pg_tupK (K' := K) (n := 2) rfl rfl (pgs_cons (pg_name (i := 7) sc__law_going.nd rfl (Or.inl rfl)) (pgs_cons (pg_name (i := 8) sc__law_going.nd rfl (Or.inl rfl)) pgs_nil)))) (fun _ _ _ _ _ => (pts_one (pt_cmpR op_eq (pv 8) pe_int (nomark _)))) (fun _ _ _ _ _ => (pv 7))) pa_nil)) pa_nil))))) pss_nil) (pss_cons (ps_set (i := 9) sc__law_going.nd rfl (Or.inr rfl) (pe_callB (cr_max rfl) (by rfl) T.max (by decide +kernel) (pa_cons (pe_lc (own := [("_law_known", 7), ("_law_value", 8)]) rfl sc__law_going.nd (pi_list (pv 5)) (blkOk_by (N := N__law_going) (sc := defScope (top 93)) (by decide +kernel)) (fun _ _ _ _ _ => (pg_tupK (K' := K) (n := 2) rfl rfl (pgs_cons (pg_name (i := 7) sc__law_going.nd rfl (Or.inl rfl)) (pgs_cons (pg_name (i := 8) sc__law_going.nd rfl (Or.inl rfl)) pgs_nil)))) (fun _ _ _ _ _ => pts_nil) (fun _ _ _ _ _ => (pe_callB call_lenD (by rfl) T.len (by decide +kernel) (pa_cons (pv 7) pa_nil)))) pa_nil))) (pss_cons (ps_set (i := 10) sc__law_going.nd rfl (Or.inl rfl) (pe_callB (cr_sum rfl) (by rfl) T.sum (by decide +kernel) (pa_cons (pe_lc (own := [("_law_known", 7), ("_law_value", 8)]) rfl sc__law_going.nd (pi_list (pv 5)) (blkOk_by (N := N__law_going) (sc := defScope (top 93)) (by decide +kernel)) (fun _ _ _ _ _ => (pg_tupK (K' := K) (n := 2) rfl rfl (pgs_cons (pg_name (i := 7) sc__law_going.nd rfl (Or.inl rfl)) (pgs_cons (pg_name (i := 8) sc__law_going.nd rfl (Or.inl rfl)) pgs_nil)))) (fun _ _ _ _ _ => (pts_one (pt_cmpR op_eq (pv 8) pe_int (nomark _)))) (fun _ _ _ _ _ => (pe_cl c__law_power hr (by omega) rfl (pa_cons (pe_ix (ix_tupK (K' := K) rfl) (pv 1) pe_int (fun _ _ => rfl)) (pa_cons (pe_op op_sub (pv 9) (pe_callB call_lenD (by rfl) T.len (by decide +kernel) (pa_cons (pv 7) pa_nil))) pa_nil))))) pa_nil))) (pss_one (ps_ret (pe_callB (call_min2 rfl) (by rfl) T.min (by decide +kernel) (pa_cons (pe_op op_sub (pe_op op_pow pe_int pe_int) pe_int) (pa_cons (pe_op op_fdivW (pe_op op_mul (pv 4) (pv 10)) (pe_cl c__law_power hr (by omega) rfl (pa_cons (pe_ix ix_tup (pv 1) pe_int (fun _ _ => rfl)) (pa_cons (pv 9) pa_nil)))) pa_nil))))))))))))))), ?_⟩
  have w0 := W.start pre.hs
  cases t with
  | qu wd x m b =>
    obtain ⟨p, vb, rfl, hp, hb, hw⟩ := ht
    unfold body at post
    dsimp only at post
    have hws : wd ≠ "share" := by rintro rfl; revert hw; decide +kernel
    rw [if_neg hws] at post
    refine ⟨_, rfl, p, _, _, _, rfl, rfl, SqT.of (w0.i hp), rfl, _, _, rfl, ?_⟩
    refine ⟨_, rfl, rfl, _, rfl, tF (fun z => hws (V.str.inj z)) ?_⟩
    refine ⟨_, rfl, _, rfl, p, _, _, _, rfl, rfl, SqT.of (w0.i hp), rfl, _, rfl, p, _, _, _, rfl, rfl, SqT.of (w0.i hp), rfl, ?_⟩
    refine ⟨_, rfl, rfl, _, rfl, nT (fun z => hws (V.str.inj z)) ?_⟩
    refine ⟨_, rfl, _, rfl, p, _, _, _, rfl, rfl, SqT.of (w0.i hp), rfl, _, rfl, ?_⟩
    refine ⟨c, I, r, q, g, ka, kn, gk, most, asked, gones, s, x, vb, e, b, env, m, rfl, pre, hb, hen, ?_⟩
    cases hin : inner (ev most kn d) x m b env gk s with
    | die => rw [hin] at post; exact post.elim
    | st w1 s1 =>
      rw [hin] at post
      rintro x1 I' H' asked' gones' st hs hx ok pf sm
      exact ⟨_, rfl, rfl, _, rfl, tT rfl (post x1 I' H' asked' gones' st hs hx ok pf sm)⟩
    | ok es s1 =>
      rw [hin] at post
      have post : LPost c okV I H r q g ka kn gk most gones Q (outV s1 (fin wd es)) := post
      obtain ⟨hel, hkl⟩ := inner_len hin
      rintro u I' H' asked' gones' st hs ok pf sm ⟨l, us, rfl, hl, hes⟩
      have w1 := w0.call0 st hs rfl
      refine ⟨_, rfl, rfl, _, rfl, tF (by intro z; cases z) ?_⟩
      refine ⟨_, rfl, l, rfl, ⟨_, SqL.of (w1.i hl)⟩, fun D hD => ?_⟩
      have up1 : Same I' H' := fun a o h => w1.i h
      refine lc_ends (K := K) (a := l) (es := es) (us := us) (sd := .law) (fun _ => true) (fun e v => v = .int e.2) hD hl up1 hes hel ?_ ?_
      · rintro e p d H2 F he sm2 h1 h2 hF
        exact ⟨p, _, rfl, SqT.of (sm2 _ _ h1), rfl, _, _, rfl, _, _, rfl, rfl, rfl, _, rfl, hF true _ H2 rfl (Same.refl _) fun _ => rfl⟩
      · rintro H2 ys sm2 hys hp2
        rw [filter_all] at hp2
        obtain rfl : ys = (vals es).map V.int := by
          rw [paired_map (f := fun e : Kn × Int => V.int e.2) (fun _ _ z => z) hp2]
          unfold vals
          rw [List.map_map]
          rfl
        have w2 := w1.same sm2
        have done : ∀ (v : Val) (u : V) (I9 H9 : Hp), fin wd es = some v → W [r, q, g] I H I9 (lM r q g ka most asked' gones' .non s1.steps) H9 → Same I' I9 → VAt .law I9 v u → Q u H9 := fun v u I9 H9 hf w9 s9 hv => by
          rw [hf] at post
          exact LPost.ok_now (post.from w9 pf) (W.start w9.hs) (ok.mono s9) sm hv
        obtain ⟨hne, hfv⟩ : es ≠ [] ∧ ∃ v, fin wd es = some v := by
          constructor
          · rintro rfl
            exact post
          · cases hf : fin wd es with
            | none => rw [hf] at post; exact post.elim
            | some v => exact ⟨v, rfl⟩
        obtain ⟨v, hfv⟩ := hfv
        have hvl : 0 < (vals es).length := by
          unfold vals
          rw [List.length_map]
          exact List.length_pos_iff.mpr hne
        have w2H := w2.hs.sub
        clear w1
        simp only [List.mem_cons, List.not_mem_nil, or_false] at hw
        have inT : ∀ {A B : Prop} {x y : Str} {R : Bool → Prop}, True := trivial
        refine ⟨_, rfl, s2, fun p1 hp1 => ⟨p1, _, rfl, .inr (SqT.of upd_same), rfl, rfl, _, rfl, ?_⟩⟩
        have w3 := w2.same (same_up (o := .tup [SS "some", SS "greatest"]) hp1)
        have y3 := same_up (o := .tup [SS "some", SS "greatest"]) hp1 _ _ hys
        rcases hw with rfl | rfl | rfl | rfl | rfl
        · refine bT (by decide +kernel) ?_
          refine ⟨_, rfl, D, vals es, rfl, SqL.of y3, hvl, fun mx h1 h2 => ?_⟩
          refine done (.int mx) _ _ _ ?_ w3 (Same.refl _) rfl
          rw [maxL_is h1 h2]
          unfold fin at hfv ⊢
          rw [if_neg hne] at hfv ⊢
          rw [if_pos rfl] at hfv ⊢
          split at hfv
          · rename_i z; rw [if_pos z]
          · cases hfv
        · refine bF (by decide +kernel) ?_
          refine ⟨_, rfl, s2, fun p2 hp2 => ⟨p2, _, rfl, .inr (SqT.of upd_same), rfl, rfl, _, rfl, ?_⟩⟩
          have w4 := w3.same (same_up (o := .tup [SS "every", SS "least"]) hp2)
          have y4 := same_up (o := .tup [SS "every", SS "least"]) hp2 _ _ y3
          refine bT (by decide +kernel) ?_
          refine ⟨_, rfl, D, vals es, rfl, SqL.of y4, hvl, fun mx h1 h2 => ?_⟩
          refine done (.int mx) _ _ _ ?_ w4 (Same.refl _) rfl
          rw [minL_is h1 h2]
          unfold fin at hfv ⊢
          rw [if_neg hne] at hfv ⊢
          rw [if_neg (by decide +kernel), if_pos rfl] at hfv ⊢
          split at hfv
          · rename_i z; rw [if_pos z]
          · cases hfv
        · refine bF (by decide +kernel) ?_
          refine ⟨_, rfl, s2, fun p2 hp2 => ⟨p2, _, rfl, .inr (SqT.of upd_same), rfl, rfl, _, rfl, ?_⟩⟩
          have w4 := w3.same (same_up (o := .tup [SS "every", SS "least"]) hp2)
          have y4 := same_up (o := .tup [SS "every", SS "least"]) hp2 _ _ y3
          refine bT (by decide +kernel) ?_
          refine ⟨_, rfl, D, vals es, rfl, SqL.of y4, hvl, fun mx h1 h2 => ?_⟩
          refine done (.int mx) _ _ _ ?_ w4 (Same.refl _) rfl
          rw [minL_is h1 h2]
          unfold fin
          rw [if_neg hne, if_neg (by decide +kernel), if_neg (by decide +kernel), if_pos rfl]
        · refine bT (by decide +kernel) ?_
          refine ⟨_, rfl, D, vals es, rfl, SqL.of y3, hvl, fun mx h1 h2 => ?_⟩
          refine done (.int mx) _ _ _ ?_ w3 (Same.refl _) rfl
          rw [maxL_is h1 h2]
          unfold fin
          rw [if_neg hne, if_neg (by decide +kernel), if_neg (by decide +kernel), if_neg (by decide +kernel), if_pos rfl]
        · refine bF (by decide +kernel) ?_
          refine ⟨_, rfl, s2, fun p2 hp2 => ⟨p2, _, rfl, .inr (SqT.of upd_same), rfl, rfl, _, rfl, ?_⟩⟩
          have w4 := w3.same (same_up (o := .tup [SS "every", SS "least"]) hp2)
          refine bF (by decide +kernel) ?_
          refine ⟨_, rfl, rfl, _, rfl, tT rfl ?_⟩
          generalize upd (upd H2 p1 (.tup [SS "some", SS "greatest"])) p2 (.tup [SS "every", SS "least"]) = H4 at *
          have up4 : Same I' H4 := fun a o h => w4.i h
          refine ⟨_, rfl, l, rfl, ⟨_, SqL.of (w4.i hl)⟩, fun D2 hD2 => ?_⟩
          refine lc_ends (K := K) (a := l) (es := es) (us := us) (sd := .law) (fun e => decide (e.2 = 1)) (fun e v => ∃ d, v = .ref d ∧ KnR I' e.1 d) hD2 hl up4 hes hel ?_ ?_
          · rintro e p d H2 F he sm2 h1 h2 hF
            refine ⟨p, _, rfl, SqT.of (sm2 _ _ h1), rfl, _, _, rfl, _, _, rfl, rfl, rfl, _, rfl, rfl, _, rfl, ?_⟩
            by_cases h : e.2 = 1
            · refine tT (congrArg V.int h) ⟨_, rfl, hF true _ H2 (decide_eq_true h).symm (Same.refl _) fun _ => ?_⟩
              exact ⟨d, rfl, h2⟩
            · exact tF (fun z => h (V.int.inj z)) (hF false _ H2 (decide_eq_false h).symm (Same.refl _) fun z => by cases z)
          · rintro H5 ys sm5 hys5 hp5
            obtain ⟨rs, rfl, hrs⟩ := paired_refs hp5
            have w5 := w4.same sm5
            refine ⟨D2, rs, ones es, rfl, hys5, Paired.mapP hrs fun k a z => sm5 _ _ (up4 _ _ z), fun kx hkx => ?_, fun ar H6 sm6 har hor => ⟨s2, fun n hn => ?_⟩⟩
            · unfold ones at hkx
              obtain ⟨e, he, rfl⟩ := List.mem_map.mp hkx
              exact Nat.le_trans (hkl e (List.mem_filter.mp he).1) (by decide)
            have w6 := w5.same sm6
            have harM : ar ∉ (lM r q g ka most asked' gones' .non s1.steps).map (·.1) ∧ ((∃ u, I' ar = some u) ∨ H ar = none) := by
              rcases hor with z | z
              · obtain ⟨kx, _, hz⟩ := Paired.mem2 hrs z
                refine ⟨fun y => ?_, .inl ⟨_, hz⟩⟩
                obtain ⟨q', hq', e'⟩ := List.mem_map.mp y
                have := w5.hs.out q' hq'
                rw [e', hz] at this
                cases this
              · refine ⟨fun y => ?_, .inr (w5.free z (w5.notA z))⟩
                obtain ⟨q', hq', e'⟩ := List.mem_map.mp y
                exact w5.hs.neM z q' hq' e'
            obtain ⟨w7, s7⟩ := w6.adopt har harM.1 harM.2
            have w8 := w7.newI hn (.tup [SS "found", .ref ar])
            have s8 := w7.upI hn (.tup [SS "found", .ref ar])
            refine done (.found (leastRow (ones es))) _ _ _ ?_ w8 (s7.trans s8) ⟨n, ar, rfl, upd_same, s8 _ _ upd_same⟩
            unfold fin
            rw [if_neg hne, if_neg (by decide +kernel), if_neg (by decide +kernel), if_neg (by decide +kernel), if_neg (by decide +kernel), if_pos rfl]
  | share x m b n =>
    obtain ⟨p, vb, vn, rfl, hp, hb, hn⟩ := ht
    unfold body at post
    dsimp only at post
    refine ⟨_, rfl, p, _, _, _, rfl, rfl, SqT.of (w0.i hp), rfl, _, _, rfl, ?_⟩
    refine ⟨_, rfl, rfl, _, rfl, tT rfl ?_⟩
    refine ⟨_, rfl, _, rfl, p, _, _, _, rfl, rfl, SqT.of (w0.i hp), rfl, _, rfl, ?_⟩
    refine ⟨c + 1, I, r, q, g, ka, kn, gk, most, asked, gones, s, vn, e, n, env, rfl, pre, hn, hen, ?_⟩
    cases hev : ev most kn d n env gk s with
    | die => rw [hev] at post; exact post.elim
    | st w1 s1 =>
      rw [hev] at post
      rintro x1 I' H' asked' gones' st hs hx ok pf sm
      have w1 := w0.call0 st hs rfl
      obtain ⟨px, rfl⟩ := hx.ne
      refine ⟨_, rfl, r, _, rfl, DG (w1.get (i := 0) rfl) lr_stop, rfl, _, rfl, nT (by intro z; cases z) ?_⟩
      exact post _ I' H' asked' gones' st hs hx ok.less pf sm
    | ok v s1 =>
      rw [hev] at post
      rintro u I1 H1 asked1 gones1 st1 hs1 ok1 pf1 sm1 hv
      have w1 := w0.call0 st1 hs1 rfl
      refine ⟨_, rfl, r, _, rfl, DG (w1.get (i := 0) rfl) lr_stop, rfl, _, rfl, nF rfl ?_⟩
      refine ⟨_, rfl, _, rfl, p, _, _, _, rfl, rfl, SqT.of (w1.i (st1.same _ _ hp)), rfl, _, rfl, p, _, _, _, rfl, rfl, SqT.of (w1.i (st1.same _ _ hp)), rfl, ?_⟩
      refine ⟨_, rfl, rfl, _, rfl, nF rfl ?_⟩
      refine ⟨_, rfl, p, _, _, _, rfl, rfl, SqT.of (w1.i (st1.same _ _ hp)), rfl, _, rfl, ?_⟩
      refine ⟨c, I1, r, q, g, ka, kn, gk, most, asked1, gones1, s1, x, vb, e, b, env, m, rfl, ⟨hs1, ok1, pre.mo, sm1⟩, hb.mono st1.same, hen.mono st1.same, ?_⟩
      have post : LPost c okV I H r q g ka kn gk most gones Q ((inner (ev most kn d) x m b env gk s1).bind fun ends s => outV s (shareO m v ends)) := post
      have post := post.from w1 pf1
      cases hin : inner (ev most kn d) x m b env gk s1 with
      | die => rw [hin] at post; exact post.elim
      | st w2 s2' =>
        rw [hin] at post
        rintro x1 I' H' asked' gones' st hs hx ok pf sm
        exact ⟨_, rfl, rfl, _, rfl, tT rfl (post x1 I' H' asked' gones' st hs hx ok pf sm)⟩
      | ok es s2' =>
        rw [hin] at post
        have post : LPost c okV I1 H1 r q g ka kn gk most gones1 Q (outV s2' (shareO m v es)) := post
        obtain ⟨hel, hkl⟩ := inner_len hin
        obtain ⟨hm2, hm9⟩ := inner_m hin
        rintro u2 I' H' asked' gones' st hs ok pf sm ⟨l, us, rfl, hl, hes⟩
        have w2 := (W.start (M := lM r q g ka most asked1 gones1 .non s1.steps) hs1).call0 st hs rfl
        refine ⟨_, rfl, rfl, _, rfl, tF (by intro z; cases z) ?_⟩
        refine ⟨_, rfl, l, rfl, ⟨_, SqL.of (w2.i hl)⟩, fun D hD => ?_⟩
        have up1 : Same I' H' := fun a o h => w2.i h
        obtain ⟨nv, rfl, hne, hsh, hn0, hn1, post⟩ : ∃ nv : Int, v = .int nv ∧ es ≠ [] ∧ short es = true ∧ 0 ≤ nv ∧ nv ≤ 1000 ∧ LPost c okV I1 H1 r q g ka kn gk most gones1 Q (.ok (.int (if nv * (partsL m es).sum / ((m ^ deep es : Nat) : Int) ≤ TOP then nv * (partsL m es).sum / ((m ^ deep es : Nat) : Int) else TOP)) s2') := by
          cases v with
          | int nv =>
            unfold shareO shareV at post
            dsimp only at post
            split at post
            · rename_i z
              exact ⟨nv, rfl, z.1, z.2.1, z.2.2.1, z.2.2.2, post⟩
            · exact post.elim
          | _ => exact post.elim
        obtain rfl : u = V.int nv := hv
        refine lc_ends (K := K) (a := l) (es := es) (us := us) (sd := .law) (fun _ => true) (fun e v => v = .int e.2) hD hl up1 hes hel ?_ ?_
        · rintro e p d H2 F he sm2 h1 h2 hF
          exact ⟨p, _, rfl, SqT.of (sm2 _ _ h1), rfl, _, _, rfl, _, _, rfl, rfl, rfl, _, rfl, hF true _ H2 rfl (Same.refl _) fun _ => rfl⟩
        · rintro H2 ys sm2 hys hp2
          have w3 := w2.same sm2
          refine ⟨_, rfl, s2, fun p1 hp1 => ⟨p1, _, rfl, .inr (SqT.of upd_same), rfl, rfl, _, rfl, bF (by decide +kernel) ?_⟩⟩
          refine ⟨_, rfl, s2, fun p2 hp2 => ⟨p2, _, rfl, .inr (SqT.of upd_same), rfl, rfl, _, rfl, bF (by decide +kernel) ?_⟩⟩
          refine ⟨_, rfl, rfl, _, rfl, tF (by decide +kernel) ?_⟩
          have w4 := (w3.same (same_up (o := .tup [SS "some", SS "greatest"]) hp1)).same (same_up (o := .tup [SS "every", SS "least"]) hp2)
          generalize upd (upd H2 p1 (.tup [SS "some", SS "greatest"])) p2 (.tup [SS "every", SS "least"]) = H4 at *
          have up4 : Same I' H4 := fun a o h => w4.i h
          refine ⟨_, rfl, l, rfl, ⟨_, SqL.of (w4.i hl)⟩, fun D2 hD2 => ?_⟩
          refine lc_ends (K := K) (a := l) (es := es) (us := us) (sd := .law) (fun _ => true) (fun e v => v = .int (e.1.length : Nat)) hD2 hl up4 hes hel ?_ ?_
          · rintro e p d H2 F he sm2 h1 h2 hF
            exact ⟨p, _, rfl, SqT.of (sm2 _ _ h1), rfl, _, _, rfl, _, _, rfl, rfl, rfl, _, rfl, d, _, rfl, sm2 _ _ h2, hF true _ H2 rfl (Same.refl _) fun _ => by rw [knK_len]⟩
          · rintro H5 ys5 sm5 hys5 hp5
            have w5 := w4.same sm5
            rw [filter_all] at hp5
            obtain rfl : ys5 = (es.map fun e => (e.1.length : Int)).map V.int := by
              rw [paired_map (f := fun e : Kn × Int => V.int (e.1.length : Nat)) (fun _ _ z => z) hp5, List.map_map]
              rfl
            refine ⟨D2, _, rfl, SqL.of hys5, by rw [List.length_map]; exact List.length_pos_iff.mpr hne, fun mx h1 h2 => ?_⟩
            obtain rfl : mx = ((deep es : Nat) : Int) := deep_is hne h1 h2
            have hdp := deep_le hsh hne
            have up5 : Same I' H5 := up4.trans sm5
            refine ⟨_, rfl, l, rfl, ⟨_, SqL.of (w5.i hl)⟩, fun D3 hD3 => ?_⟩
            refine lc_ends (K := K) (a := l) (es := es) (us := us) (sd := .law) (fun e => decide (e.2 = 1)) (fun e v => v = .int ((m ^ (deep es - e.1.length) : Nat) : Int)) hD3 hl up5 hes hel ?_ ?_
            · rintro e p' d H2 F he sm2 h1 h2 hF
              refine ⟨p', _, rfl, SqT.of (sm2 _ _ h1), rfl, _, _, rfl, _, _, rfl, rfl, rfl, _, rfl, rfl, _, rfl, ?_⟩
              by_cases h : e.2 = 1
              · refine tT (congrArg V.int h) ?_
                refine ⟨_, rfl, p, _, _, _, rfl, rfl, SqT.of (sm2 _ _ (st.same _ _ (st1.same _ _ hp))), rfl, _, rfl, _, rfl, d, _, rfl, sm2 _ _ h2, _, _, rfl, rfl, ?_⟩
                refine ⟨m, deep es - e.1.length, ?_, hm9, by omega, ?_⟩
                · have := deep_ge he
                  rw [knK_len, Int.ofNat_sub this]
                · exact hF true _ H2 (decide_eq_true h).symm (Same.refl _) fun _ => rfl
              · exact tF (fun z => h (V.int.inj z)) (hF false _ H2 (decide_eq_false h).symm (Same.refl _) fun z => by cases z)
            · rintro H6 ys6 sm6 hys6 hp6
              have w6 := w5.same sm6
              have up6 : Same I' H6 := up5.trans sm6
              obtain rfl : ys6 = (partsL m es).map V.int := by
                rw [paired_map (f := fun e : Kn × Int => V.int ((m ^ (deep es - e.1.length) : Nat) : Int)) (fun _ _ z => z) hp6]
                unfold partsL ones
                rw [List.map_map, List.map_map]
                rfl
              refine ⟨D3, _, rfl, SqL.of hys6, ?_⟩
              refine ⟨_, _, rfl, rfl, (by show (0 : Int) ≤ 18 ∧ (18 : Int) ≤ 1000000 ∧ (10 : Int).natAbs < 2 ^ 64; decide), _, _, rfl, rfl, ?_⟩
              refine ⟨_, rfl, _, rfl, _, _, rfl, rfl, .inl (by omega), ?_⟩
              refine ⟨_, rfl, p, _, _, _, rfl, rfl, SqT.of (w6.i (st.same _ _ (st1.same _ _ hp))), rfl, _, rfl, m, deep es, rfl, hm9, hdp, ?_⟩
              have pl := pow_le hm9 hdp
              have pp : 0 < m ^ deep es := Nat.pow_pos (by omega)
              refine ⟨_, _, rfl, rfl, divW (by omega) (by unfold TOP; omega) (by omega), _, _, rfl, ?_⟩
              rw [top_is]
              have e : ∀ z : Int, (if z < TOP then z else TOP) = if z ≤ TOP then z else TOP := fun z => by split <;> split <;> omega
              show Q (.int (if nv * (partsL m es).sum / ((m ^ deep es : Nat) : Int) < TOP then nv * (partsL m es).sum / ((m ^ deep es : Nat) : Int) else TOP)) _
              rw [e]
              exact LPost.ok_now (post.from w6 pf) (W.start w6.hs) ok sm rfl
  | _ => exact hqs.elim
end
end KW
set_option Elab.async false
set_option linter.all false
set_option maxRecDepth 100000
set_option maxHeartbeats 4000000
/-! L9: a term worked out. -/
namespace KW
open PySem PySem.Spec PyProof.Rows L2 
section
variable {P : Program} {w : World} {K : PySem.W.Frag} {mg : Str → Option Value} {base : Heap}

theorem cutN {α : Type} (xs : List α) (n : Nat) : (xs.drop (HT.sIx xs.length 0 (some (n : Int)))).take (HT.sIx xs.length xs.length none - HT.sIx xs.length 0 (some (n : Int))) = xs.drop n := by
  have e2 : HT.sIx xs.length xs.length none = xs.length := rfl
  rw [HT.sIx_nat, e2]
  rcases Nat.le_total n xs.length with h | h
  · rw [Nat.min_eq_left h, List.take_of_length_le]
    rw [List.length_drop]
    exact Nat.le_refl _
  · rw [Nat.min_eq_right h, List.drop_eq_nil_of_le (Nat.le_refl _), List.drop_eq_nil_of_le h, List.take_nil]
def plainW : List Str := ["prim", "as", "count", "first", "second", "call", "pair", "repeat", "at"]
theorem plain_kind {wd : Str} (h : wd ∈ plainW) : wd ≠ "var" ∧ inV (.str wd) [SS "digit", SS "number"] = false ∧ wd ≠ "fn" ∧ wd ≠ "row" ∧ inV (.str wd) [SS "some", SS "every", SS "least", SS "greatest", SS "find", SS "share", SS "contest"] = false ∧ wd ≠ "if" := by
  revert wd
  decide +kernel
theorem plain_disp {a b c z : V} : ∀ {wd : Str}, wd ∈ plainW → (valV (mergeK [] [(.inr "prim", a), (.inr "as", b), (.inr "repeat", c)]) (.inr wd)).getD z = (if wd = "prim" then a else if wd = "as" then b else if wd = "repeat" then c else z) := by
  intro wd h
  unfold plainW at h
  simp only [List.mem_cons, List.not_mem_nil, or_false] at h
  rcases h with rfl | rfl | rfl | rfl | rfl | rfl | rfl | rfl | rfl
  · rfl
  · rfl
  · rfl
  · rfl
  · rfl
  · rfl
  · rfl
  · rfl
  · rfl
theorem plain_shape {I : Hp} {t : Tm} {tv : V} (hp : plain t) (h : TmAt I t tv) : ∃ (p : Addr) (wd : Str) (x : V) (rest : List V), tv = .ref p ∧ I p = some (.tup (.str wd :: x :: rest)) ∧ wd ∈ plainW ∧ rest.length ≤ 2 ∧
    ((wd = "prim" ∧ ∃ q us, rest = [.ref q] ∧ I q = some (.tup us) ∧ TmsAt I (parts t) us ∧ us.length ≤ 100) ∨ (wd = "as" ∧ TmsAt I (parts t) rest) ∨ (wd ≠ "prim" ∧ wd ≠ "as" ∧ TmsAt I (parts t) (x :: rest))) := by
  cases t with
  | prim op a b =>
    obtain ⟨p, q, va, vb, e, h1, h2, h3, h4⟩ := h
    exact ⟨p, _, _, _, e, h1, by decide +kernel, by simp, .inl ⟨rfl, q, _, rfl, h2, ⟨_, _, rfl, h3, _, _, rfl, h4, rfl⟩, by show 2 ≤ 100; decide⟩⟩
  | as m a =>
    obtain ⟨p, va, e, h1, h2⟩ := h
    exact ⟨p, _, _, _, e, h1, by decide +kernel, by simp, .inr (.inl ⟨rfl, _, _, rfl, h2, rfl⟩)⟩
  | count a =>
    obtain ⟨p, va, e, h1, h2⟩ := h
    exact ⟨p, _, _, _, e, h1, by decide +kernel, by simp, .inr (.inr ⟨by decide +kernel, by decide +kernel, _, _, rfl, h2, rfl⟩)⟩
  | fst a =>
    obtain ⟨p, va, e, h1, h2⟩ := h
    exact ⟨p, _, _, _, e, h1, by decide +kernel, by simp, .inr (.inr ⟨by decide +kernel, by decide +kernel, _, _, rfl, h2, rfl⟩)⟩
  | snd a =>
    obtain ⟨p, va, e, h1, h2⟩ := h
    exact ⟨p, _, _, _, e, h1, by decide +kernel, by simp, .inr (.inr ⟨by decide +kernel, by decide +kernel, _, _, rfl, h2, rfl⟩)⟩
  | call f a =>
    obtain ⟨p, va, vb, e, h1, h2, h3⟩ := h
    exact ⟨p, _, _, _, e, h1, by decide +kernel, by simp, .inr (.inr ⟨by decide +kernel, by decide +kernel, _, _, rfl, h2, _, _, rfl, h3, rfl⟩)⟩
  | pair f a =>
    obtain ⟨p, va, vb, e, h1, h2, h3⟩ := h
    exact ⟨p, _, _, _, e, h1, by decide +kernel, by simp, .inr (.inr ⟨by decide +kernel, by decide +kernel, _, _, rfl, h2, _, _, rfl, h3, rfl⟩)⟩
  | idx f a =>
    obtain ⟨p, va, vb, e, h1, h2, h3⟩ := h
    exact ⟨p, _, _, _, e, h1, by decide +kernel, by simp, .inr (.inr ⟨by decide +kernel, by decide +kernel, _, _, rfl, h2, _, _, rfl, h3, rfl⟩)⟩
  | rep n f a =>
    obtain ⟨p, vn, va, vb, e, h1, h2, h3, h4⟩ := h
    exact ⟨p, _, _, _, e, h1, by decide +kernel, by simp, .inr (.inr ⟨by decide +kernel, by decide +kernel, _, _, rfl, h2, _, _, rfl, h3, _, _, rfl, h4, rfl⟩)⟩
  | _ => exact absurd rfl hp
theorem going_kind {wd : Str} (h : wd ∈ ([("some" : Str), "every", "least", "greatest", "find"] : List Str) ∨ wd = "share") : wd ≠ "var" ∧ inV (.str wd) [SS "digit", SS "number"] = false ∧ wd ≠ "fn" ∧ wd ≠ "row" ∧ inV (.str wd) [SS "some", SS "every", SS "least", SS "greatest", SS "find", SS "share", SS "contest"] = true := by
  have h : wd ∈ ([("some" : Str), "every", "least", "greatest", "find", "share"] : List Str) := by
    rcases h with h | h
    · simp only [List.mem_cons, List.not_mem_nil, or_false] at h ⊢
      rcases h with rfl | rfl | rfl | rfl | rfl <;> simp
    · rw [h]; simp
  have key : ∀ wd ∈ ([("some" : Str), "every", "least", "greatest", "find", "share"] : List Str), wd ≠ "var" ∧ inV (.str wd) [SS "digit", SS "number"] = false ∧ wd ≠ "fn" ∧ wd ≠ "row" ∧ inV (.str wd) [SS "some", SS "every", SS "least", SS "greatest", SS "find", SS "share", SS "contest"] = true := by decide +kernel
  exact key wd h
theorem ne_s {a b : Str} (h : a ≠ b) : ¬ (V.str a = V.str b) := fun z => h (V.str.inj z)
theorem LOk.more {c : Nat} {I : Hp} {k : Addr} {kn : KnP} {gk : GK} {asked gones : List V} {s : S} (x : LOk c I k kn gk asked gones s) : LOk (c + 1) I k kn gk asked gones ⟨s.steps + 1, s.marks⟩ :=
  ⟨x.kn, x.ask, by have := x.askl; show _ ≤ s.steps + 1; omega, x.gl, by have := x.gs; show s.marks + (c + 1) ≤ s.steps + 1; omega, x.gk⟩
theorem atI_last {a x : V} {rest : List V} (h : rest.length ≤ 2) : ∃ z, atI (a :: x :: rest) (-1) = some z ∧ ∀ y, rest = [y] → z = y := by
  match rest, h with
  | [], _ => exact ⟨x, rfl, fun y e => by cases e⟩
  | [y], _ => exact ⟨y, rfl, fun y' e => by cases e; rfl⟩
  | [y, z], _ => exact ⟨z, rfl, fun y' e => by cases e⟩
theorem notfull1 {n : Nat} {P : Prop} (h : HT.sIx (n + 1) 0 (some 1) = 0 ∧ P) : False := by
  have e : HT.sIx (n + 1) 0 (some ((1 : Nat) : Int)) = min 1 (n + 1) := HT.sIx_nat _ _ _
  have h1 : HT.sIx (n + 1) 0 (some ((1 : Nat) : Int)) = 0 := h.1
  omega
theorem notfull2 {n : Nat} {P : Prop} (h : HT.sIx (n + 1) 0 (some 2) = 0 ∧ P) : False := by
  have e : HT.sIx (n + 1) 0 (some ((2 : Nat) : Int)) = min 2 (n + 1) := HT.sIx_nat _ _ _
  have h1 : HT.sIx (n + 1) 0 (some ((2 : Nat) : Int)) = 0 := h.1
  omega
abbrev N__law_out : List Str := ["_law_run_here", "_law_term", "_law_env", "_law_kind", "_law_test_here", "_law_parts", "_law_found"]
theorem sc__law_out : FnScope N__law_out ["_law_run_here", "_law_term", "_law_env"] (defScope (top 89)) := fnScope_ok (by decide +kernel)
theorem ok_out {d k : Nat} (D : DefAt K mg "_law_out" 89) (T : Txt K mg) (c__law_out : Cl P w K mg base k "_law_out" (spOut d)) (c__law_going : Cl P w K mg base (k + 2) "_law_going" (spGoing d)) (c__law_all_out : Cl P w K mg base (k + 1) "_law_all_out" (spAll d)) (c__law_put : Cl P w K mg base (k + 2) "_law_put" (spPutR d)) : Cl P w K mg base (k + 3) "_law_out" (spOut (d + 1)) := by
  refine cl_mk (i := 89) (N := N__law_out) (ps := ["_law_run_here", "_law_term", "_law_env"]) D sc__law_out (fun _ _ _ _ _ _ us hl => match us, hl with | [_, _, _], _ => rfl) ?_ ?_
  · rintro vs H Q E ⟨c, I, r, q, g, ka, kn, gk, most, asked, gones, s, tv, e, t, env, rfl, _⟩
    rfl
  rintro f0 cdv A outer s0 H vs Q E hr ⟨c, I, r, q, g, ka, kn, gk, most, asked, gones, s, tv, e, t, env, rfl, pre, ht, hen, post⟩
  refine ⟨_, (pss_cons (ps_dput (hu_of hr) (pv 0) pe_str (pe_op op_add (pe_dget (hu_of hr) (pv 0) pe_str (fun _ _ => rfl)) pe_int) rfl) (pss_cons (ps_if (pt_cmpR op_gt (pe_dget (hu_of hr) (pv 0) pe_str (fun _ _ => rfl)) (pe_dget (hu_of hr) (pv 0) pe_str (fun _ _ => rfl)) (nomark _)) (pss_cons (ps_dput (hu_of hr) (pv 0) pe_str (pe_tup (pa_cons pe_str pa_nil)) rfl) (pss_one (ps_ret pe_non))) pss_nil) (pss_cons (ps_set (i := 3) sc__law_out.nd rfl (Or.inl rfl) (pe_ix ix_tup (pv 1) pe_int (fun _ _ => rfl))) (pss_cons (ps_if (pt_cmpR op_eq (pv 3) pe_str (nomark _)) (pss_one (ps_ret (pe_dget (hu_of hr) (pv 2) (pe_ix ix_tup (pv 1) pe_int (fun _ _ => rfl)) (fun _ _ => rfl)))) pss_nil) (pss_cons (ps_if (pt_cmpR op_in_seq (pv 3) (pe_tup (pa_cons pe_str (pa_cons pe_str pa_nil))) (by rfl)) (pss_one (ps_ret (pe_ix ix_tup (pv 1) (pe_un un_neg pe_int) (fun _ _ => rfl)))) pss_nil) (pss_cons (ps_if (pt_cmpR op_eq (pv 3) pe_str (nomark _)) (pss_one (ps_ret (pe_tup (pa_cons pe_str (pa_cons (pe_ix ix_tup (pv 1) pe_int (fun _ _ => rfl)) (pa_cons (pe_ix ix_tup (pv 1) pe_int (fun _ _ => rfl)) (pa_cons (pv 2) pa_nil))))))) pss_nil) (pss_cons (ps_if (pt_cmpR op_eq (pv 3) pe_str (nomark _)) (pss_one (ps_ret (pe_tup (pa_cons pe_str (pa_cons (pe_ix ix_tup (pv 1) pe_int (fun _ _ => rfl)) (pa_cons (pe_ix ix_tup (pv 1) pe_int (fun _ _ => rfl)) (pa_cons (pv 2) pa_nil))))))) pss_nil) (pss_cons (ps_if (pt_cmpR op_in_seq (pv 3) (pe_tup (pa_cons pe_str (pa_cons pe_str (pa_cons pe_str (pa_cons pe_str (pa_cons pe_str (pa_cons pe_str (pa_cons pe_str pa_nil)))))))) (by rfl)) (pss_one (ps_ret (pe_cl c__law_going hr (by omega) rfl (pa_cons (pv 0) (pa_cons (pv 1) (pa_cons (pv 2) pa_nil)))))) pss_nil) (pss_cons (ps_if (pt_cmpR op_eq (pv 3) pe_str (nomark _)) (pss_cons (ps_set (i := 4) sc__law_out.nd rfl (Or.inl rfl) (pe_cl c__law_out hr (by omega) rfl (pa_cons (pv 0) (pa_cons (pe_ix ix_tup (pv 1) pe_int (fun _ _ => rfl)) (pa_cons (pv 2) pa_nil))))) (pss_cons (ps_if (pt_cmpR op_notN (pe_dget (hu_of hr) (pv 0) pe_str (fun _ _ => rfl)) pe_non (nomark _)) (pss_one (ps_ret pe_non)) pss_nil) (pss_one (ps_ret (pe_cl c__law_out hr (by omega) rfl (pa_cons (pv 0) (pa_cons (pe_ifExp (pt_cmpR op_eq (pv 4) pe_int (nomark _)) (pe_ix ix_tup (pv 1) pe_int (fun _ _ => rfl)) (pe_ix ix_tup (pv 1) pe_int (fun _ _ => rfl))) (pa_cons (pv 2) pa_nil)))))))) pss_nil) (pss_cons (ps_set (i := 5) sc__law_out.nd rfl (Or.inl rfl) (pe_dget2 (hu_of hr) (pe_disp (pps_cons pe_str (pe_ix ix_tup (pv 1) (pe_un un_neg pe_int) (fun _ _ => rfl)) (pps_cons pe_str (pe_slice sl_tupA (pv 1) (po_some pe_int) po_none) (pps_cons pe_str (pe_slice sl_tupA (pv 1) (po_some pe_int) po_none) pps_nil))) (by rfl) (by rfl) (fun z => by cases z) (by decide)) (pv 3) (pe_slice sl_tupA (pv 1) (po_some pe_int) po_none) ⟨rfl, rfl, rfl, rfl⟩)) (pss_cons (ps_set (i := 6) sc__law_out.nd rfl (Or.inl rfl) (pe_cl c__law_all_out hr (by omega) rfl (pa_cons (pv 0) (pa_cons (pv 5) (pa_cons (pv 2) pa_nil))))) (pss_one (ps_ret (pe_ifExp (pt_cmpR op_isN (pv 6) pe_non (nomark _)) pe_non (pe_cl c__law_put hr (by omega) rfl (pa_cons (pv 0) (pa_cons (pv 1) (pa_cons (pv 6) pa_nil)))))))))))))))))), ?_⟩
  have w0 := W.start pre.hs
  refine ⟨_, rfl, r, _, rfl, DG (w0.get (i := 0) rfl) lr_steps, _, _, rfl, rfl, _, rfl, r, _, rfl, DP (w0.get (i := 0) rfl) lp_steps lr_len, ?_⟩
  have w1 : W [r, q, g] I H I (lM r q g ka most asked gones .non (s.steps + 1)) _ := w0.set (i := 0) rfl (.dK (lrunK (.ref ka) .non (.ref q) (.ref g) .non ((s.steps + 1 : Nat) : Int) (most : Int)))
  have w1 : W [r, q, g] I H I (lM r q g ka most asked gones .non (s.steps + 1)) (upd H r (.dK (lrunK (.ref ka) .non (.ref q) (.ref g) .non ((s.steps : Int) + 1) (most : Int)))) := w1
  refine ⟨_, rfl, r, _, rfl, DG (w1.get (i := 0) rfl) lr_steps, _, rfl, r, _, rfl, DG (w1.get (i := 0) rfl) lr_most, _, _, rfl, rfl, _, rfl, ?_⟩
  unfold ev at post
  by_cases hlt : most < s.steps + 1
  · rw [if_pos hlt] at post
    refine tT (by show (most : Int) < ((s.steps + 1 : Nat) : Int); omega) ?_
    refine ⟨(by show 1 ≤ sizeLine; decide), fun n hn => ?_⟩
    have w2 := w1.newI hn (.tup [SS "long"])
    have s2' := w1.upI hn (.tup [SS "long"])
    refine ⟨_, rfl, r, _, rfl, DP (w2.get (i := 0) rfl) lp_stop lr_len, ?_⟩
    have w3 : W [r, q, g] I H _ (lM r q g ka most asked gones (.ref n) (s.steps + 1)) _ := w2.set (i := 0) rfl (.dK (lrunK (.ref ka) .non (.ref q) (.ref g) (.ref n) ((s.steps + 1 : Nat) : Int) (most : Int)))
    have ok3 := (pre.ok.more.less.mono s2' : LOk c _ ka kn gk asked gones ⟨s.steps + 1, s.marks⟩)
    exact post (.ref n) _ _ asked gones w3.st w3.hs ⟨n, rfl, upd_same⟩ ok3 (List.prefix_refl _) (.inl rfl)
  rw [if_neg hlt] at post
  refine tF (by show ¬ (most : Int) < ((s.steps + 1 : Nat) : Int); omega) ?_
  have ok1 := pre.ok.more
  have sm1 : s.steps + 1 ≤ most := by omega
  have pre1 : LPre (c + 1) I _ r q g ka kn gk most asked gones ⟨s.steps + 1, s.marks⟩ := ⟨w1.hs, ok1, pre.mo, sm1⟩
  have post := post.from w1 (List.prefix_refl _)
  revert pre1 w1 post
  generalize upd H r (.dK (lrunK (.ref ka) .non (.ref q) (.ref g) .non ((s.steps : Int) + 1) (most : Int))) = H1
  intro w1 pre1 post
  have v1 := W.start pre1.hs
  by_cases hpl : plain t
  · obtain ⟨p, wd, x, rest, rfl, hp, hwd, hrl, hsh⟩ := plain_shape hpl ht
    obtain ⟨k1, k2, k3, k4, k5, k6⟩ := plain_kind hwd
    have hp1 := w1.i hp
    refine ⟨_, rfl, p, _, _, _, rfl, rfl, SqT.of hp1, atI_0 _ _, ?_⟩
    refine ⟨_, rfl, rfl, _, rfl, tF (ne_s k1) ?_⟩
    refine ⟨_, rfl, s2, fun p1 hn1 => ⟨p1, _, rfl, .inr (SqT.of upd_same), rfl, rfl, _, rfl, bF k2 ?_⟩⟩
    refine ⟨_, rfl, rfl, _, rfl, tF (ne_s k3) ?_⟩
    refine ⟨_, rfl, rfl, _, rfl, tF (ne_s k4) ?_⟩
    refine ⟨_, rfl, (by show 7 ≤ sizeLine; decide), fun p2 hn2 => ⟨p2, _, rfl, .inr (SqT.of upd_same), rfl, rfl, _, rfl, bF k5 ?_⟩⟩
    refine ⟨_, rfl, rfl, _, rfl, tF (ne_s k6) ?_⟩
    have e2a := (same_up (o := HO.tup [SS "digit", SS "number"]) hn1).trans (same_up (o := HO.tup [SS "some", SS "every", SS "least", SS "greatest", SS "find", SS "share", SS "contest"]) hn2)
    have v2 := v1.same e2a
    revert v2
    generalize upd (upd H1 p1 (HO.tup [SS "digit", SS "number"])) p2 (HO.tup [SS "some", SS "every", SS "least", SS "greatest", SS "find", SS "share", SS "contest"]) = H2
    intro v2
    obtain ⟨z, hz, hzl⟩ := atI_last (a := V.str wd) (x := x) hrl
    have x1 : cutV (V.str wd :: x :: rest) (some 1) none = x :: rest := cutN _ 1
    have x2 : cutV (V.str wd :: x :: rest) (some 2) none = rest := cutN _ 2
    refine fun pd hpd => ?_
    have v3 := v2.newM hpd (.dK [])
    refine ⟨_, rfl, _, rfl, p, _, _, _, rfl, rfl, SqT.of (v3.i hp), hz, ?_⟩
    refine ⟨_, rfl, _, rfl, p, _, rfl, SqT.of (v3.i hp), fun z => (notfull2 z).elim, fun _ pa hpa => ?_⟩
    rw [x2]
    have v4 := v3.newI hpa (.tup rest)
    have u4 := v3.upI hpa (.tup rest)
    refine ⟨_, rfl, _, rfl, p, _, rfl, SqT.of (v4.i (u4 _ _ hp)), fun z => (notfull1 z).elim, fun _ pb hpb => ?_⟩
    rw [x1]
    have v5 := v4.newI hpb (.tup (x :: rest))
    have u5 := u4.trans (v4.upI hpb (.tup (x :: rest)))
    refine ⟨v5.get (i := 3) rfl, [(.inr "prim", z), (.inr "as", .ref pa), (.inr "repeat", .ref pb)], rfl, (by show 3 ≤ 15; decide), ?_⟩
    have v6 := v5.set (i := 3) rfl (.dK (mergeK [] [(.inr "prim", z), (.inr "as", .ref pa), (.inr "repeat", .ref pb)]))
    have ga : upd (upd I pa (.tup rest)) pb (.tup (x :: rest)) pa = some (.tup rest) := v4.upI hpb _ _ _ upd_same
    have gb : upd (upd I pa (.tup rest)) pb (.tup (x :: rest)) pb = some (.tup (x :: rest)) := upd_same
    clear v5 v4 v3
    refine ⟨pd, rfl, .inl ⟨_, .inl (v6.get (i := 3) rfl)⟩, _, rfl, _, rfl, _, rfl, p, _, rfl, SqT.of (v6.i (u5 _ _ hp)), fun z => (notfull1 z).elim, fun _ pc hpc => ?_⟩
    rw [x1]
    have v7 := v6.newI hpc (.tup (x :: rest))
    have u7 := u5.trans (v6.upI hpc (.tup (x :: rest)))
    have ga := v6.upI hpc (.tup (x :: rest)) _ _ ga
    have gb := v6.upI hpc (.tup (x :: rest)) _ _ gb
    have gc : upd (upd (upd I pa (.tup rest)) pb (.tup (x :: rest))) pc (.tup (x :: rest)) pc = some (.tup (x :: rest)) := upd_same
    refine ⟨_, .inl ⟨_, .inr wd, .inl (v7.get (i := 3) rfl), rfl, rfl⟩, ?_⟩
    rw [plain_disp hwd]
    obtain ⟨pv0, us, epv, hpv, hts, hul⟩ : ∃ (pv : Addr) (us : List V), (if wd = "prim" then z else if wd = "as" then .ref pa else if wd = "repeat" then .ref pb else .ref pc) = V.ref pv ∧ upd (upd (upd I pa (.tup rest)) pb (.tup (x :: rest))) pc (.tup (x :: rest)) pv = some (.tup us) ∧ TmsAt I (parts t) us ∧ us.length ≤ 100 := by
      rcases hsh with ⟨h1, q', us, h2, h3, h4, h5⟩ | ⟨h1, h2⟩ | ⟨h1, h2, h3⟩
      · exact ⟨q', us, by rw [if_pos h1]; exact hzl _ h2, u7 _ _ h3, h4, h5⟩
      · exact ⟨pa, rest, by rw [h1, if_neg (by decide +kernel), if_pos rfl], ga, h2, by omega⟩
      · by_cases h4 : wd = "repeat"
        · exact ⟨pb, x :: rest, by rw [if_neg h1, if_neg h2, if_pos h4], gb, h3, by rw [List.length_cons]; omega⟩
        · exact ⟨pc, x :: rest, by rw [if_neg h1, if_neg h2, if_neg h4], gc, h3, by rw [List.length_cons]; omega⟩
    have epv : (if wd = "prim" then z else if wd = "as" then .ref pa else if wd = "repeat" then .ref pb else .ref pc) = V.ref pv0 := epv
    rw [epv]
    have v8 : W _ I H1 _ (lM r q g ka most asked gones .non (s.steps + 1)) _ := W.drop (M1 := lM r q g ka most asked gones .non (s.steps + 1)) v7 fun a ha => ha
    have ht8 := ht.mono u7
    have hen8 := hen.mono u7
    have hts8 := hts.mono u7
    revert v8 hpv u7 ht8 hen8 hts8
    clear v7 v6 ga gb gc
    generalize upd (upd (upd I pa (.tup rest)) pb (.tup (x :: rest))) pc (.tup (x :: rest)) = I8
    generalize upd (upd (upd (upd (upd H2 pd (.dK [])) pa (.tup rest)) pb (.tup (x :: rest))) pd (.dK (mergeK [] [(.inr "prim", z), (.inr "as", .ref pa), (.inr "repeat", .ref pb)]))) pc (.tup (x :: rest)) = H8
    intro u7 hpv v8 ht8 hen8 hts8
    refine ⟨_, rfl, _, rfl, _, rfl, ?_⟩
    refine ⟨c + 1, I8, r, q, g, ka, kn, gk, most, asked, gones, ⟨s.steps + 1, s.marks⟩, pv0, us, e, parts t, env, rfl, ⟨v8.hs, ok1.mono u7, pre.mo, sm1⟩, hpv, hul, hts8, hen8, ?_⟩
    by_cases hdie : body kn (ev most kn d) t env gk ⟨s.steps + 1, s.marks⟩ = .die
    · rw [hdie] at post; exact post.elim
    rw [body_parts hpl hdie] at post
    cases hall : evAll (ev most kn d) env gk (parts t) ⟨s.steps + 1, s.marks⟩ with
    | die => rw [hall] at post; exact post.elim
    | st w1' s1 =>
      rw [hall] at post
      rintro x1 I' H' asked' gones' st hs hx ok pf sm
      have v9 := v8.call0 st hs rfl
      exact ⟨_, rfl, rfl, _, rfl, tT rfl (post x1 I' H' asked' gones' v9.st hs hx ok.less pf sm)⟩
    | ok vl s1 =>
      rw [hall] at post
      rintro u I' H' asked' gones' st hs ok pf sm ⟨l, us2, rfl, hl, hvs⟩
      have v9 := v8.call0 st hs rfl
      have post : LPost c okV I H1 r q g ka kn gk most gones Q (putR kn (ev most kn d) gk t vl s1) := post
      refine ⟨_, rfl, rfl, _, rfl, tF (by intro z; cases z) ?_⟩
      refine ⟨_, rfl, _, rfl, _, rfl, ?_⟩
      exact ⟨c, I', r, q, g, ka, kn, gk, most, asked', gones', s1, .ref p, l, us2, t, vl, rfl, ⟨hs, ok, pre.mo, sm⟩, ht8.mono st.same, hl, hvs, post.from v9 pf⟩
  cases t with
  | var x =>
    obtain ⟨p, rfl, hp⟩ := ht
    refine ⟨_, rfl, p, _, _, _, rfl, rfl, SqT.of (v1.i hp), rfl, ?_⟩
    refine ⟨_, rfl, rfl, _, rfl, tT rfl ?_⟩
    obtain ⟨kvs, hkv, hkl, hea⟩ := hen
    unfold body at post
    dsimp only at post
    cases hlk : env.look x with
    | none => rw [hlk] at post; exact post.elim
    | some v =>
      rw [hlk] at post
      obtain ⟨u, hu, hv⟩ := hea.look (by simp) hlk
      refine ⟨_, rfl, _, rfl, p, _, _, _, rfl, rfl, SqT.of (v1.i hp), rfl, e, u, rfl, DG (v1.i hkv) hu, ?_⟩
      exact post.ok_now v1 ok1.less sm1 hv
  | lit n =>
    obtain ⟨p, rfl, hp⟩ := ht
    rcases hp with hp | ⟨m, hp⟩
    · refine ⟨_, rfl, p, _, _, _, rfl, rfl, SqT.of (v1.i hp), rfl, ?_⟩
      refine ⟨_, rfl, rfl, _, rfl, tF (by decide +kernel) ?_⟩
      refine ⟨_, rfl, s2, fun p1 hn1 => ⟨p1, _, rfl, .inr (SqT.of upd_same), rfl, rfl, _, rfl, bT (by decide +kernel) ?_⟩⟩
      have v2 := v1.same (same_up (o := .tup [SS "digit", SS "number"]) hn1)
      refine ⟨_, rfl, _, rfl, p, _, _, _, rfl, rfl, SqT.of (v2.i hp), rfl, ?_⟩
      exact post.ok_now v2 ok1.less sm1 rfl
    · refine ⟨_, rfl, p, _, _, _, rfl, rfl, SqT.of (v1.i hp), rfl, ?_⟩
      refine ⟨_, rfl, rfl, _, rfl, tF (by decide +kernel) ?_⟩
      refine ⟨_, rfl, s2, fun p1 hn1 => ⟨p1, _, rfl, .inr (SqT.of upd_same), rfl, rfl, _, rfl, bT (by decide +kernel) ?_⟩⟩
      have v2 := v1.same (same_up (o := .tup [SS "digit", SS "number"]) hn1)
      refine ⟨_, rfl, _, rfl, p, _, _, _, rfl, rfl, SqT.of (v2.i hp), rfl, ?_⟩
      exact post.ok_now v2 ok1.less sm1 rfl
  | fn x b =>
    obtain ⟨p, ky, vb, rfl, hp, hb⟩ := ht
    refine ⟨_, rfl, p, _, _, _, rfl, rfl, SqT.of (v1.i hp), rfl, ?_⟩
    refine ⟨_, rfl, rfl, _, rfl, tF (by decide +kernel) ?_⟩
    refine ⟨_, rfl, s2, fun p1 hn1 => ⟨p1, _, rfl, .inr (SqT.of upd_same), rfl, rfl, _, rfl, bF (by decide +kernel) ?_⟩⟩
    have v2 := v1.same (same_up (o := .tup [SS "digit", SS "number"]) hn1)
    refine ⟨_, rfl, rfl, _, rfl, tT rfl ?_⟩
    refine ⟨_, rfl, p, _, _, _, rfl, rfl, SqT.of (v2.i hp), rfl, _, rfl, p, _, _, _, rfl, rfl, SqT.of (v2.i hp), rfl, _, rfl, (by show 4 ≤ sizeLine; decide), fun n hn => ?_⟩
    have v3 := v2.newI hn (.tup [SS "fn", .str x, vb, .ref e])
    have u3 := v2.upI hn (.tup [SS "fn", .str x, vb, .ref e])
    obtain ⟨kvs, hkv, hkl, hea⟩ := hen.mono u3
    exact LPost.ok_now post v3 (ok1.less.mono u3) sm1 ⟨n, vb, e, kvs, rfl, upd_same, hb.mono u3, hkv, hkl, hea⟩
  | row x b =>
    obtain ⟨p, ky, vb, rfl, hp, hb⟩ := ht
    refine ⟨_, rfl, p, _, _, _, rfl, rfl, SqT.of (v1.i hp), rfl, ?_⟩
    refine ⟨_, rfl, rfl, _, rfl, tF (by decide +kernel) ?_⟩
    refine ⟨_, rfl, s2, fun p1 hn1 => ⟨p1, _, rfl, .inr (SqT.of upd_same), rfl, rfl, _, rfl, bF (by decide +kernel) ?_⟩⟩
    have v2 := v1.same (same_up (o := .tup [SS "digit", SS "number"]) hn1)
    refine ⟨_, rfl, rfl, _, rfl, tF (by decide +kernel) ?_⟩
    refine ⟨_, rfl, rfl, _, rfl, tT rfl ?_⟩
    refine ⟨_, rfl, p, _, _, _, rfl, rfl, SqT.of (v2.i hp), rfl, _, rfl, p, _, _, _, rfl, rfl, SqT.of (v2.i hp), rfl, _, rfl, (by show 4 ≤ sizeLine; decide), fun n hn => ?_⟩
    have v3 := v2.newI hn (.tup [SS "made", .str x, vb, .ref e])
    have u3 := v2.upI hn (.tup [SS "made", .str x, vb, .ref e])
    obtain ⟨kvs, hkv, hkl, hea⟩ := hen.mono u3
    exact LPost.ok_now post v3 (ok1.less.mono u3) sm1 ⟨n, vb, e, kvs, rfl, upd_same, hb.mono u3, hkv, hkl, hea⟩
  | qu wd x m b =>
    have ht' := ht
    obtain ⟨p, vb, rfl, hp, hb, hw⟩ := ht'
    obtain ⟨k1, k2, k3, k4, k5⟩ := going_kind (.inl hw)
    refine ⟨_, rfl, p, _, _, _, rfl, rfl, SqT.of (v1.i hp), rfl, ?_⟩
    refine ⟨_, rfl, rfl, _, rfl, tF (ne_s k1) ?_⟩
    refine ⟨_, rfl, s2, fun p1 hn1 => ⟨p1, _, rfl, .inr (SqT.of upd_same), rfl, rfl, _, rfl, bF k2 ?_⟩⟩
    refine ⟨_, rfl, rfl, _, rfl, tF (ne_s k3) ?_⟩
    refine ⟨_, rfl, rfl, _, rfl, tF (ne_s k4) ?_⟩
    refine ⟨_, rfl, (by show 7 ≤ sizeLine; decide), fun p2 hn2 => ⟨p2, _, rfl, .inr (SqT.of upd_same), rfl, rfl, _, rfl, bT k5 ?_⟩⟩
    have e2a := (same_up (o := HO.tup [SS "digit", SS "number"]) hn1).trans (same_up (o := HO.tup [SS "some", SS "every", SS "least", SS "greatest", SS "find", SS "share", SS "contest"]) hn2)
    have v2 := v1.same e2a
    refine ⟨_, rfl, _, rfl, _, rfl, ?_⟩
    exact ⟨c, I, r, q, g, ka, kn, gk, most, asked, gones, ⟨s.steps + 1, s.marks⟩, .ref p, e, .qu wd x m b, env, rfl, ⟨v2.hs, ok1, pre.mo, sm1⟩, ht, hen, trivial, post.from v2 (List.prefix_refl _)⟩
  | share x m b n =>
    have ht' := ht
    obtain ⟨p, vb, vn, rfl, hp, hb, hn⟩ := ht'
    obtain ⟨k1, k2, k3, k4, k5⟩ := going_kind (.inr rfl)
    refine ⟨_, rfl, p, _, _, _, rfl, rfl, SqT.of (v1.i hp), rfl, ?_⟩
    refine ⟨_, rfl, rfl, _, rfl, tF (ne_s k1) ?_⟩
    refine ⟨_, rfl, s2, fun p1 hn1 => ⟨p1, _, rfl, .inr (SqT.of upd_same), rfl, rfl, _, rfl, bF k2 ?_⟩⟩
    refine ⟨_, rfl, rfl, _, rfl, tF (ne_s k3) ?_⟩
    refine ⟨_, rfl, rfl, _, rfl, tF (ne_s k4) ?_⟩
    refine ⟨_, rfl, (by show 7 ≤ sizeLine; decide), fun p2 hn2 => ⟨p2, _, rfl, .inr (SqT.of upd_same), rfl, rfl, _, rfl, bT k5 ?_⟩⟩
    have e2a := (same_up (o := HO.tup [SS "digit", SS "number"]) hn1).trans (same_up (o := HO.tup [SS "some", SS "every", SS "least", SS "greatest", SS "find", SS "share", SS "contest"]) hn2)
    have v2 := v1.same e2a
    refine ⟨_, rfl, _, rfl, _, rfl, ?_⟩
    exact ⟨c, I, r, q, g, ka, kn, gk, most, asked, gones, ⟨s.steps + 1, s.marks⟩, .ref p, e, .share x m b n, env, rfl, ⟨v2.hs, ok1, pre.mo, sm1⟩, ht, hen, trivial, post.from v2 (List.prefix_refl _)⟩
  | ite tc ta tb =>
    obtain ⟨p, vc, va, vb, rfl, hp, hc, ha, hb⟩ := ht
    refine ⟨_, rfl, p, _, _, _, rfl, rfl, SqT.of (v1.i hp), rfl, ?_⟩
    refine ⟨_, rfl, rfl, _, rfl, tF (by decide +kernel) ?_⟩
    refine ⟨_, rfl, s2, fun p1 hn1 => ⟨p1, _, rfl, .inr (SqT.of upd_same), rfl, rfl, _, rfl, bF (by decide +kernel) ?_⟩⟩
    refine ⟨_, rfl, rfl, _, rfl, tF (by decide +kernel) ?_⟩
    refine ⟨_, rfl, rfl, _, rfl, tF (by decide +kernel) ?_⟩
    refine ⟨_, rfl, (by show 7 ≤ sizeLine; decide), fun p2 hn2 => ⟨p2, _, rfl, .inr (SqT.of upd_same), rfl, rfl, _, rfl, bF (by decide +kernel) ?_⟩⟩
    refine ⟨_, rfl, rfl, _, rfl, tT rfl ?_⟩
    have e2a := (same_up (o := HO.tup [SS "digit", SS "number"]) hn1).trans (same_up (o := HO.tup [SS "some", SS "every", SS "least", SS "greatest", SS "find", SS "share", SS "contest"]) hn2)
    have v2 := v1.same e2a
    revert v2
    generalize upd (upd H1 p1 (HO.tup [SS "digit", SS "number"])) p2 (HO.tup [SS "some", SS "every", SS "least", SS "greatest", SS "find", SS "share", SS "contest"]) = H2
    intro v2
    unfold body at post
    dsimp only at post
    refine ⟨_, rfl, _, rfl, p, _, _, _, rfl, rfl, SqT.of (v2.i hp), rfl, _, rfl, ?_⟩
    refine ⟨c, I, r, q, g, ka, kn, gk, most, asked, gones, ⟨s.steps + 1, s.marks⟩, vc, e, tc, env, rfl, ⟨v2.hs, ok1.less, pre.mo, sm1⟩, hc, hen, ?_⟩
    cases hev : ev most kn d tc env gk ⟨s.steps + 1, s.marks⟩ with
    | die => rw [hev] at post; exact post.elim
    | st w1 s1 =>
      rw [hev] at post
      rintro x1 I' H' asked' gones' st hs hx ok pf sm
      have v3 := v2.call0 st hs rfl
      obtain ⟨px, rfl⟩ := hx.ne
      refine ⟨_, rfl, r, _, rfl, DG (v3.get (i := 0) rfl) lr_stop, rfl, _, rfl, nT (by intro z; cases z) ?_⟩
      exact post _ I' H' asked' gones' v3.st hs hx ok pf sm
    | ok v s1 =>
      rw [hev] at post
      rintro u I' H' asked' gones' st hs ok pf sm hv
      have v3 := v2.call0 st hs rfl
      refine ⟨_, rfl, r, _, rfl, DG (v3.get (i := 0) rfl) lr_stop, rfl, _, rfl, nF rfl ?_⟩
      cases v with
      | int i =>
        obtain rfl : u = V.int i := hv
        have post : LPost c okV I H1 r q g ka kn gk most gones Q (if i = 1 then ev most kn d ta env gk s1 else ev most kn d tb env gk s1) := post
        have post := post.from v3 pf
        refine ⟨_, rfl, _, rfl, rfl, _, rfl, ?_⟩
        by_cases hi : i = 1
        · rw [if_pos hi] at post
          refine tT (congrArg V.int hi) ?_
          refine ⟨_, rfl, p, _, _, _, rfl, rfl, SqT.of (v3.i (st.same _ _ hp)), rfl, _, rfl, ?_⟩
          exact ⟨c, I', r, q, g, ka, kn, gk, most, asked', gones', s1, va, e, ta, env, rfl, ⟨hs, ok, pre.mo, sm⟩, ha.mono st.same, hen.mono st.same, post⟩
        · rw [if_neg hi] at post
          refine tF (fun z => hi (V.int.inj z)) ?_
          refine ⟨_, rfl, p, _, _, _, rfl, rfl, SqT.of (v3.i (st.same _ _ hp)), rfl, _, rfl, ?_⟩
          exact ⟨c, I', r, q, g, ka, kn, gk, most, asked', gones', s1, vb, e, tb, env, rfl, ⟨hs, ok, pre.mo, sm⟩, hb.mono st.same, hen.mono st.same, post⟩
      | _ => exact post.elim
  | _ => exact absurd (fun z => by unfold parts at z; cases z) hpl
theorem ok_out0 (D : DefAt K mg "_law_out" 89) : Cl P w K mg base 1 "_law_out" (spOut 0) := by
  refine cl_mk (i := 89) (N := N__law_out) (ps := ["_law_run_here", "_law_term", "_law_env"]) D sc__law_out (fun _ _ _ _ _ _ us hl => match us, hl with | [_, _, _], _ => rfl) ?_ ?_
  · rintro vs H Q E ⟨c, I, r, q, g, ka, kn, gk, most, asked, gones, s, tv, e, t, env, rfl, _⟩
    rfl
  rintro f0 cdv A outer s0 H vs Q E hr ⟨c, I, r, q, g, ka, kn, gk, most, asked, gones, s, tv, e, t, env, rfl, pre, ht, hen, post⟩
  exact post.elim
structure LawDefs (K : PySem.W.Frag) (mg : Str → Option Value) : Prop where
  read : DefAt K mg "_law_read" 85
  prim : DefAt K mg "_law_prim" 86
  all : DefAt K mg "_law_all_out" 87
  called : DefAt K mg "_law_called" 88
  out : DefAt K mg "_law_out" 89
  put : DefAt K mg "_law_put" 90
  wth : DefAt K mg "_law_with" 91
  inner : DefAt K mg "_law_inner" 92
  going : DefAt K mg "_law_going" 93
  power : DefAt K mg "_law_power" 94
  least : DefAt K mg "_law_least" 95
theorem out_all (D : LawDefs K mg) (T : Txt K mg) : ∀ d, Cl P w K mg base (3 * d + 1) "_law_out" (spOut d)
  | 0 => ok_out0 D.out
  | d + 1 => by
    have h := out_all D T d
    have c1 := ok_called (k := 3 * d + 1) D.called T h
    have c2 := ok_read (k := 3 * d + 1) D.read T h
    have c3 := ok_all (k := 3 * d + 1) D.all T h
    have c4 := ok_put (k := 3 * d + 1) D.put T (ok_prim D.prim T) c2 c1
    have c5 := ok_inner (k := 3 * d) D.inner T (ok_withK D.wth T) h
    have c6 := ok_going (k := 3 * d) D.going T h c5 (ok_power D.power T) (ok_least D.least T)
    exact ok_out (k := 3 * d + 1) D.out T h c6 c3 c4
end
end KW
set_option Elab.async false
set_option linter.all false
set_option maxRecDepth 100000
set_option maxHeartbeats 4000000
/-! M0: a program run, its sizes. -/
namespace KW
open PySem PySem.Spec PyProof.Rows L2 
section
variable {P : Program} {w : World} {K : PySem.W.Frag} {mg : Str → Option Value} {base : Heap}

/-- a program: fns over rows, then a term that is no fn -/
def PrAt (I : Hp) : List (Str × Nat) → Tm → V → Prop
  | [], b, v => TmAt I b v
  | (x, m) :: ps, b, v => ∃ p q vb, v = .ref p ∧ I p = some (.tup [SS "fn", .str x, .ref q, vb]) ∧ I q = some (.tup [SS "rows", .int (m : Int)]) ∧ PrAt I ps b vb
theorem PrAt.mono {I I' : Hp} (h : Same I I') : ∀ {ps : List (Str × Nat)} {b : Tm} {v : V}, PrAt I ps b v → PrAt I' ps b v
  | [], _, _, x => TmAt.mono h x
  | (_, _) :: _, _, _, ⟨p, q, vb, e, h1, h2, h3⟩ => ⟨p, q, vb, e, h _ _ h1, h _ _ h2, PrAt.mono h h3⟩
def notFn : Tm → Prop
  | .fn _ _ => False
  | _ => True
theorem head_word {I : Hp} {t : Tm} {v : V} (h : TmAt I t v) (hn : notFn t) : ∃ (p : Addr) (wd : Str) (rest : List V), v = .ref p ∧ I p = some (.tup (.str wd :: rest)) ∧ wd ≠ "fn" := by
  cases t with
  | var x => obtain ⟨p, e, h1⟩ := h; exact ⟨p, _, _, e, h1, by decide +kernel⟩
  | lit n =>
    obtain ⟨p, e, h1 | ⟨m, h1⟩⟩ := h
    · exact ⟨p, _, _, e, h1, by decide +kernel⟩
    · exact ⟨p, _, _, e, h1, by decide +kernel⟩
  | prim op a b => obtain ⟨p, q, va, vb, e, h1, _⟩ := h; exact ⟨p, _, _, e, h1, by decide +kernel⟩
  | as m a => obtain ⟨p, va, e, h1, _⟩ := h; exact ⟨p, _, _, e, h1, by decide +kernel⟩
  | count a => obtain ⟨p, va, e, h1, _⟩ := h; exact ⟨p, _, _, e, h1, by decide +kernel⟩
  | fst a => obtain ⟨p, va, e, h1, _⟩ := h; exact ⟨p, _, _, e, h1, by decide +kernel⟩
  | snd a => obtain ⟨p, va, e, h1, _⟩ := h; exact ⟨p, _, _, e, h1, by decide +kernel⟩
  | ite c a b => obtain ⟨p, vc, va, vb, e, h1, _⟩ := h; exact ⟨p, _, _, e, h1, by decide +kernel⟩
  | fn x b => exact hn.elim
  | call f a => obtain ⟨p, va, vb, e, h1, _⟩ := h; exact ⟨p, _, _, e, h1, by decide +kernel⟩
  | pair f a => obtain ⟨p, va, vb, e, h1, _⟩ := h; exact ⟨p, _, _, e, h1, by decide +kernel⟩
  | rep n f a => obtain ⟨p, vn, va, vb, e, h1, _⟩ := h; exact ⟨p, _, _, e, h1, by decide +kernel⟩
  | idx f a => obtain ⟨p, va, vb, e, h1, _⟩ := h; exact ⟨p, _, _, e, h1, by decide +kernel⟩
  | row x b => obtain ⟨p, k, vb, e, h1, _⟩ := h; exact ⟨p, _, _, e, h1, by decide +kernel⟩
  | qu wd x m b =>
    obtain ⟨p, vb, e, h1, _, hw⟩ := h
    refine ⟨p, _, _, e, h1, ?_⟩
    rintro rfl
    revert hw
    decide +kernel
  | share x m b n => obtain ⟨p, va, vb, e, h1, _⟩ := h; exact ⟨p, _, _, e, h1, by decide +kernel⟩
def envG : List (Str × Nat) → Nat → Nv → Nv
  | [], _, e => e
  | (x, _) :: xs, k, e => envG xs (k + 1) (e.put x (.given k))
def RunAt (I : Hp) (r : Addr) (stop : V) (steps : Nat) (u : V) : Prop := ∃ kvs, I r = some (.dK kvs) ∧ valV kvs (.inr "stop") = some stop ∧ valV kvs (.inr "steps") = some (.int (steps : Int)) ∧ valV kvs (.inr "value") = some u
theorem RunAt.mono {I I' : Hp} (h : Same I I') {r : Addr} {x u : V} {n : Nat} : RunAt I r x n u → RunAt I' r x n u := fun ⟨k, a, b⟩ => ⟨k, h _ _ a, b⟩
def RPost (most : Nat) (I H : Hp) (Q : VK) : R Val → Prop
  | .ok v s' => ∀ r u I' H', Stp [] I H I' H' → HS I' [] H' → RunAt I' r .non s'.steps u → VAt .law I' v u → s'.steps ≤ most → Q (.ref r) H'
  | .st w s' => ∀ r x I' H', Stp [] I H I' H' → HS I' [] H' → RunAt I' r x s'.steps .non → StopAt I' w x → (w = .long ∨ s'.steps ≤ most) → Q (.ref r) H'
  | .die => False
def nogk : GK := fun _ => none
def spRunL (d : Nat) : Sp := fun vs H Q _ => ∃ I ka kn ps b pv, ∃ most : Nat, vs = [pv, .ref ka, .non, .int (most : Int)] ∧ HS I [] H ∧ I ka = some (.dT (knPK kn)) ∧ PrAt I ps b pv ∧ notFn b ∧ ps.length ≤ 10 ∧ most ≤ MOST ∧
  RPost most I H Q (ev most kn d b (envG ps 0 .nil) nogk ⟨0, 0⟩)
theorem lp_value {kn rows asked gone stop u : V} {steps most : Int} : putK (lrunK kn rows asked gone stop steps most) (.inr "value") u = lrunK kn rows asked gone stop steps most ++ [(.inr "value", u)] := by kernel_rfl
theorem lv_stop {kn rows asked gone stop u : V} {steps most : Int} : valV (lrunK kn rows asked gone stop steps most ++ [(.inr "value", u)]) (.inr "stop") = some stop := by kernel_rfl
theorem lv_steps {kn rows asked gone stop u : V} {steps most : Int} : valV (lrunK kn rows asked gone stop steps most ++ [(.inr "value", u)]) (.inr "steps") = some (.int steps) := by kernel_rfl
theorem lv_value {kn rows asked gone stop u : V} {steps most : Int} : valV (lrunK kn rows asked gone stop steps most ++ [(.inr "value", u)]) (.inr "value") = some u := by kernel_rfl
theorem lm_run {kn rows asked gone stop : V} {steps most : Int} : mergeK [] [(.inr "known", kn), (.inr "rows", rows), (.inr "asked", asked), (.inr "gone", gone), (.inr "stop", stop), (.inr "steps", .int steps), (.inr "most", .int most)] = lrunK kn rows asked gone stop steps most := by kernel_rfl
abbrev N__law_run : List Str := ["_law_program_here", "_law_known", "_law_rows", "_law_most", "_law_run_here", "_law_env", "_law_k"]
theorem sc__law_run : FnScope N__law_run ["_law_program_here", "_law_known", "_law_rows", "_law_most"] (defScope (top 96)) := fnScope_ok (by decide +kernel)
theorem ok_run {d k : Nat} (D : DefAt K mg "_law_run" 96) (T : Txt K mg) (c__law_out : Cl P w K mg base k "_law_out" (spOut d)) : Cl P w K mg base (k + 1) "_law_run" (spRunL d) := by
  refine cl_mk (i := 96) (N := N__law_run) (ps := ["_law_program_here", "_law_known", "_law_rows", "_law_most"]) D sc__law_run (fun _ _ _ _ _ _ us hl => match us, hl with | [_, _, _, _], _ => rfl) ?_ ?_
  · rintro vs H Q E ⟨I, ka, kn, ps, b, gv, most, rfl, _⟩
    rfl
  rintro f0 cdv A outer s0 H vs Q E hr ⟨I, ka, kn, ps, b, gv, most, rfl, hs, hkn, hpr, hnf, hpl, hmo, post⟩
  refine ⟨_, (pss_cons (ps_set (i := 4) sc__law_run.nd rfl (Or.inl rfl) (pe_disp (pps_cons pe_str (pv 1) (pps_cons pe_str (pv 2) (pps_cons pe_str (pe_lst pa_nil) (pps_cons pe_str (pe_lst pa_nil) (pps_cons pe_str pe_non (pps_cons pe_str pe_int (pps_cons pe_str (pv 3) pps_nil))))))) (by rfl) (by rfl) (fun z => by cases z) (by decide))) (pss_cons (ps_par (i := 5) (j := 6) rfl sc__law_run.nd rfl rfl (by decide) rfl rfl (pa_cons pe_dnewK (pa_cons pe_int pa_nil)) (by rfl)) (pss_cons (ps_while PassesOwn.never (pt_cmpR op_eq (pe_ix ix_tup (pv 0) pe_int (fun _ _ => rfl)) pe_str (nomark _)) (pss_cons (ps_dput (hu_of hr) (pv 5) (pe_ix ix_tup (pv 0) pe_int (fun _ _ => rfl)) (pe_tup (pa_cons pe_str (pa_cons (pv 6) pa_nil))) rfl) (pss_one (ps_par (i := 0) (j := 6) rfl sc__law_run.nd rfl rfl (by decide) rfl rfl (pa_cons (pe_ix ix_tup (pv 0) pe_int (fun _ _ => rfl)) (pa_cons (pe_op op_add (pv 6) pe_int) pa_nil)) (by rfl))))) (pss_cons (ps_dput (hu_of hr) (pv 4) pe_str (pe_cl c__law_out hr (by omega) rfl (pa_cons (pv 4) (pa_cons (pv 0) (pa_cons (pv 5) pa_nil)))) rfl) (pss_one (ps_ret (pv 4))))))), ?_⟩
  have w0 := W.start hs
  refine fun r hr0 => ?_
  have w1 := w0.newM hr0 (.dK [])
  refine ⟨_, rfl, _, rfl, Nat.zero_le _, fun q hq => ⟨Nat.zero_le _, fun g hg => ?_⟩⟩
  have w2 := (w1.newM hq (.lst [])).newM hg (.lst [])
  refine ⟨_, rfl, w2.get (i := 0) rfl, [(.inr "known", .ref ka), (.inr "rows", .non), (.inr "asked", .ref q), (.inr "gone", .ref g), (.inr "stop", .non), (.inr "steps", .int 0), (.inr "most", .int (most : Int))], rfl, (by show 7 ≤ 15; decide), ?_⟩
  rw [lm_run]
  have w3 : W [] I H I (lM r q g ka most [] [] .non 0) _ := w2.set (i := 0) rfl (.dK (lrunK (.ref ka) .non (.ref q) (.ref g) .non 0 (most : Int)))
  revert w3
  clear w2 w1
  generalize upd (upd (upd (upd H r (.dK [])) q (.lst [])) g (.lst [])) r (.dK (lrunK (.ref ka) .non (.ref q) (.ref g) .non 0 (most : Int))) = H3
  intro w3
  refine fun e he => ⟨_, _, rfl, ?_⟩
  have w4 := w3.newM he (.dK [])
  refine ⟨fun n σ H' => ∃ (ps' : List (Str × Nat)) (pv' : V) (k' : Nat) (env : Nv) (I' : Hp) (kvs : List (Key × V)), σ = [some pv', some (.ref ka), some .non, some (.int (most : Int)), some (.ref r), some (.ref e), some (.int (k' : Int))] ∧ ps'.length = n ∧
    PrAt I' ps' b pv' ∧ W [] I H I' (lM r q g ka most [] [] .non 0 ++ [(e, .dK kvs)]) H' ∧ Same I I' ∧ kvs.length ≤ env.len ∧ env.len ≤ k' ∧ EAt .law I' env kvs [] ∧ k' + n ≤ 10 ∧ envG ps 0 .nil = envG ps' k' env, ⟨ps.length, ps, gv, 0, .nil, I, [], rfl, rfl, hpr, w4, Same.refl _, Nat.le_refl _, Nat.le_refl _, trivial, by omega, rfl⟩, ?_⟩
  rintro n σ H' ⟨ps', pv', k', env, I', kvs, rfl, hn, hpr', w5, s5, hkl, hel, hea, hk10, henv⟩
  cases ps' with
  | nil =>
    obtain ⟨p, wd, rest, rfl, hp, hwd⟩ := head_word hpr' hnf
    refine ⟨_, rfl, p, _, _, _, rfl, rfl, SqT.of (w5.i hp), atI_0 _ _, rfl, _, rfl, tF (ne_s hwd) ?_⟩
    have w6 := W.freeze (M := lM r q g ka most [] [] .non 0) w5 (by simp)
    have s6 : Same I' (upd I' e (.dK kvs)) := same_up (w5.hs.out (e, .dK kvs) (by simp))
    refine ⟨_, rfl, _, rfl, _, rfl, ?_⟩
    refine ⟨0, _, r, q, g, ka, kn, nogk, most, [], [], ⟨0, 0⟩, .ref p, e, b, env, rfl, ⟨w6.hs, ⟨s6 _ _ (s5 _ _ hkn), fun v hv => by (cases hv), Nat.le_refl _, rfl, Nat.le_refl _, fun _ _ z => by cases z⟩, hmo, Nat.zero_le _⟩, TmAt.mono s6 hpr', ⟨kvs, upd_same, hkl, hea.mono s6⟩, ?_⟩
    rw [henv] at post
    have post : RPost most I H Q (ev most kn d b env nogk ⟨0, 0⟩) := post
    cases hev : ev most kn d b env nogk ⟨0, 0⟩ with
    | die => rw [hev] at post; exact post.elim
    | ok v s1 =>
      rw [hev] at post
      rintro u I1 H1 asked gones st hs1 ok pf sm hv
      have w7 := w6.call0 st hs1 rfl
      refine ⟨_, rfl, r, _, rfl, DP (w7.get (i := 0) rfl) lp_value lr_len, ?_⟩
      have w8 := w7.set (i := 0) rfl (.dK (lrunK (.ref ka) .non (.ref q) (.ref g) .non (s1.steps : Int) (most : Int) ++ [(.inr "value", u)]))
      have w9 := W.drop (M1 := [(r, .dK (lrunK (.ref ka) .non (.ref q) (.ref g) .non (s1.steps : Int) (most : Int) ++ [(.inr "value", u)]))]) (M2 := [(q, .lst asked), (g, .lst gones)]) w8 (by simp)
      have w10 := W.freeze (M := []) w9 (by simp)
      have s10 := same_up (o := HO.dK (lrunK (.ref ka) .non (.ref q) (.ref g) .non (s1.steps : Int) (most : Int) ++ [(.inr "value", u)])) (w9.hs.out (r, _) (List.mem_singleton.mpr rfl))
      refine ⟨_, rfl, ?_⟩
      exact post r u _ _ w10.st w10.hs ⟨_, upd_same, lv_stop, lv_steps, lv_value⟩ (hv.mono s10) sm
    | st w1 s1 =>
      rw [hev] at post
      rintro x I1 H1 asked gones st hs1 hx ok pf sm
      have w7 := w6.call0 st hs1 rfl
      refine ⟨_, rfl, r, _, rfl, DP (w7.get (i := 0) rfl) lp_value lr_len, ?_⟩
      have w8 := w7.set (i := 0) rfl (.dK (lrunK (.ref ka) .non (.ref q) (.ref g) x (s1.steps : Int) (most : Int) ++ [(.inr "value", .non)]))
      have w9 := W.drop (M1 := [(r, .dK (lrunK (.ref ka) .non (.ref q) (.ref g) x (s1.steps : Int) (most : Int) ++ [(.inr "value", .non)]))]) (M2 := [(q, .lst asked), (g, .lst gones)]) w8 (by simp)
      have w10 := W.freeze (M := []) w9 (by simp)
      have s10 := same_up (o := HO.dK (lrunK (.ref ka) .non (.ref q) (.ref g) x (s1.steps : Int) (most : Int) ++ [(.inr "value", .non)])) (w9.hs.out (r, _) (List.mem_singleton.mpr rfl))
      refine ⟨_, rfl, ?_⟩
      exact post r x _ _ w10.st w10.hs ⟨_, upd_same, lv_stop, lv_steps, lv_value⟩ (hx.mono s10) sm
  | cons pr ps' =>
    obtain ⟨x, m⟩ := pr
    obtain ⟨p, q2, vb, rfl, hp, hq2, hrest⟩ := hpr'
    refine ⟨_, rfl, p, _, _, _, rfl, rfl, SqT.of (w5.i hp), rfl, rfl, _, rfl, tT rfl ?_⟩
    refine ⟨_, fun σ' H' z => ⟨ps'.length, by rw [← hn]; exact Nat.lt_succ_self _, z⟩, ?_⟩
    refine ⟨_, rfl, s2, fun t ht => ?_⟩
    have w6 := w5.newI ht (.tup [SS "given", .int (k' : Int)])
    have s6 := w5.upI ht (.tup [SS "given", .int (k' : Int)])
    rw [List.length_cons] at hn
    refine ⟨_, rfl, _, rfl, p, _, _, _, rfl, rfl, SqT.of (w6.i (s6 _ _ hp)), rfl, e, _, rfl, DPut.k (k := .inr x) (w6.get (i := 3) rfl) (small (by omega)), ?_⟩
    have w7 : W [] I H _ (lM r q g ka most [] [] .non 0 ++ [(e, .dK (putK kvs (.inr x) (.ref t)))]) _ := w6.set (i := 3) rfl (.dK (putK kvs (.inr x) (.ref t)))
    refine ⟨_, rfl, p, _, _, _, rfl, rfl, SqT.of (w7.i (s6 _ _ hp)), rfl, _, rfl, _, _, rfl, rfl, _, _, rfl, ?_⟩
    refine ⟨ps', vb, k' + 1, env.put x (.given k'), _, _, rfl, rfl, hrest.mono s6, w7, s5.trans s6, ?_, ?_, (hea.mono s6).put ⟨t, rfl, upd_same⟩, by omega, henv⟩
    · have := length_putK kvs (.inr x) (.ref t)
      show _ ≤ env.len + 1
      omega
    · show env.len + 1 ≤ k' + 1
      omega
def spSizes : Sp := fun vs H Q _ => ∃ ps b pv, vs = [pv] ∧ PrAt H ps b pv ∧ notFn b ∧ ps.length ≤ 10 ∧ ∀ p, H p = none → Q (.ref p) (upd H p (.lst (ps.map fun e => .int (e.2 : Nat))))
abbrev N__law_sizes : List Str := ["_law_program_here", "_law_found"]
theorem sc__law_sizes : FnScope N__law_sizes ["_law_program_here"] (defScope (top 97)) := fnScope_ok (by decide +kernel)
theorem ok_sizes (D : DefAt K mg "_law_sizes" 97) (T : Txt K mg) : Cl P w K mg base 1 "_law_sizes" spSizes := by
  refine cl_mk (i := 97) (N := N__law_sizes) (ps := ["_law_program_here"]) D sc__law_sizes (fun _ _ _ _ _ _ us hl => match us, hl with | [_], _ => rfl) ?_ ?_
  · rintro vs H Q E ⟨ps, b, gv, rfl, _⟩
    rfl
  rintro f0 cdv A outer s0 H vs Q E hr ⟨ps, b, gv, rfl, hpr, hnf, hpl, q⟩
  refine ⟨_, (pss_cons (ps_set (i := 1) sc__law_sizes.nd rfl (Or.inl rfl) (pe_lst pa_nil)) (pss_cons (ps_while PassesOwn.never (pt_cmpR op_eq (pe_ix ix_tup (pv 0) pe_int (fun _ _ => rfl)) pe_str (nomark _)) (pss_cons (ps_expr (pe_bm PySem.F.plainAttrs_list PySem.F.slot_list_append PySem.F.type_list_append mt_append (pv 1) (pa_cons (pe_ix ix_tup (pe_ix ix_tup (pv 0) pe_int (fun _ _ => rfl)) pe_int (fun _ _ => rfl)) pa_nil))) (pss_one (ps_set (i := 0) sc__law_sizes.nd rfl (Or.inl rfl) (pe_ix ix_tup (pv 0) pe_int (fun _ _ => rfl)))))) (pss_one (ps_ret (pv 1))))), ?_⟩
  refine ⟨Nat.zero_le _, fun l hl => ?_⟩
  refine ⟨fun n σ H' => ∃ (pre ps' : List (Str × Nat)) (pv' : V), σ = [some pv', some (.ref l)] ∧ ps'.length = n ∧ PrAt H ps' b pv' ∧ H' = upd H l (.lst (pre.map fun e => .int (e.2 : Nat))) ∧ ps = pre ++ ps', ⟨ps.length, [], ps, gv, rfl, rfl, hpr, rfl, rfl⟩, ?_⟩
  rintro n σ H' ⟨pr0, ps', pv', rfl, hn, hpr', rfl, rfl⟩
  have sm : Same H (upd H l (.lst (pr0.map fun e => .int (e.2 : Nat)))) := same_up hl
  cases ps' with
  | nil =>
    obtain ⟨p, wd, rest, rfl, hp, hwd⟩ := head_word hpr' hnf
    refine ⟨_, rfl, p, _, _, _, rfl, rfl, SqT.of (sm _ _ hp), atI_0 _ _, rfl, _, rfl, tF (ne_s hwd) ?_⟩
    refine ⟨_, rfl, ?_⟩
    rw [List.append_nil] at q
    exact q l hl
  | cons e ps' =>
    obtain ⟨x, m⟩ := e
    obtain ⟨p, q2, vb, rfl, hp, hq2, hrest⟩ := hpr'
    refine ⟨_, rfl, p, _, _, _, rfl, rfl, SqT.of (sm _ _ hp), rfl, rfl, _, rfl, tT rfl ?_⟩
    refine ⟨_, fun σ' H' z => ⟨ps'.length, by rw [← hn]; exact Nat.lt_succ_self _, z⟩, ?_⟩
    refine ⟨_, rfl, .inl ⟨rfl, _, SqL.of upd_same⟩, _, rfl, p, _, _, _, rfl, rfl, SqT.of (sm _ _ hp), rfl, q2, _, _, _, rfl, rfl, SqT.of (sm _ _ hq2), rfl, ?_⟩
    refine ⟨l, _, _, rfl, rfl, upd_same, ?_, ?_⟩
    · rw [List.length_map]
      rw [List.length_append] at hpl
      exact small (by omega)
    refine ⟨_, rfl, p, _, _, _, rfl, rfl, SqT.of (by rw [upd_upd]; exact same_up hl _ _ hp), rfl, ?_⟩
    refine ⟨pr0 ++ [(x, m)], ps', vb, rfl, rfl, hrest, ?_, by rw [List.append_assoc]; rfl⟩
    rw [upd_upd, List.map_append]
    rfl
end
end KW
set_option Elab.async false
set_option linter.all false
set_option maxRecDepth 100000
set_option maxHeartbeats 4000000
namespace KW
open PySem PySem.Spec PyProof.Rows L2
theorem hash_of (P : Program) (w : World) (i : Int) (k : Nat) : hashT P w (plK (i, k)) = reduceHash (Builtin.Tuple.tupleHashOf [hashInt i, hashInt (k : Int)]) := by
  unfold hashT plK
  show tupleKeyHash (mixKind P w) [.inl i, .inl (k : Int)] = _
  unfold tupleKeyHash
  rfl
theorem hash_tab : ∀ i j : Fin 4, ∀ k l : Fin 3, reduceHash (Builtin.Tuple.tupleHashOf [hashInt (i.val : Int), hashInt (k.val : Int)]) = reduceHash (Builtin.Tuple.tupleHashOf [hashInt (j.val : Int), hashInt (l.val : Int)]) → i = j ∧ k = l := by decide +kernel
def goodPl (p : Pl) : Prop := 0 ≤ p.1 ∧ p.1 < 4 ∧ p.2 < 3
theorem hash_inj (P : Program) (w : World) {p q : Pl} (hp : goodPl p) (hq : goodPl q) (h : hashT P w (plK p) = hashT P w (plK q)) : p = q := by
  obtain ⟨i, k⟩ := p
  obtain ⟨j, l⟩ := q
  obtain ⟨a1, a2, a3⟩ := hp
  obtain ⟨b1, b2, b3⟩ := hq
  obtain ⟨i', rfl⟩ := Int.eq_ofNat_of_zero_le a1
  obtain ⟨j', rfl⟩ := Int.eq_ofNat_of_zero_le b1
  have a1 : 0 ≤ (i' : Int) := a1
  have a2 : (i' : Int) < 4 := a2
  have b2 : (j' : Int) < 4 := b2
  rw [hash_of, hash_of] at h
  obtain ⟨e1, e2⟩ := hash_tab ⟨i', by omega⟩ ⟨j', by omega⟩ ⟨k, a3⟩ ⟨l, b3⟩ h
  have e1 : i' = j' := congrArg Fin.val e1
  have e2 : k = l := congrArg Fin.val e2
  rw [e1, e2]
/-- what is known: places apart, in bounds -/
def goodKn (kn : KnP) : Prop := (kn.map (·.1)).Nodup ∧ ∀ p ∈ kn, goodPl p.1
theorem goodKn.hash (P : Program) (w : World) : ∀ {kn : KnP}, goodKn kn → ((knPK kn).map fun p => hashT P w p.1).Nodup
  | [], _ => List.nodup_nil
  | (p, d) :: kn, ⟨h1, h2⟩ => by
    have h1 := List.nodup_cons.mp h1
    show (hashT P w (plK p) :: ((knPK kn).map fun p => hashT P w p.1)).Nodup
    refine List.nodup_cons.mpr ⟨fun z => ?_, goodKn.hash P w ⟨h1.2, fun q hq => h2 q (List.mem_cons_of_mem _ hq)⟩⟩
    obtain ⟨q, hq, e⟩ := List.mem_map.mp z
    obtain ⟨q', hq', rfl⟩ := List.mem_map.mp hq
    have := hash_inj P w (h2 q' (List.mem_cons_of_mem _ hq')) (h2 (p, d) List.mem_cons_self) e
    exact h1.1 (by rw [show p = q'.1 from this.symm]; exact List.mem_map.mpr ⟨q', hq', rfl⟩)
theorem plK_inj {p q : Pl} (h : plK p = plK q) : p = q := by
  obtain ⟨i, k⟩ := p
  obtain ⟨j, l⟩ := q
  unfold plK at h
  have h1 : (Sum.inl i : Key) = .inl j := (List.cons.inj h).1
  have h2 : (Sum.inl (k : Int) : Key) = .inl (l : Int) := (List.cons.inj (List.cons.inj h).2).1
  have e1 : i = j := Sum.inl.inj h1
  have e2 : (k : Int) = l := Sum.inl.inj h2
  rw [e1, show k = l by omega]
theorem look_none {α β : Type} [DecidableEq α] {k : List (α × β)} {i : α} : look k i = none ↔ i ∉ k.map (·.1) := by
  unfold look
  rw [Option.map_eq_none_iff, List.find?_eq_none]
  constructor
  · intro h z
    obtain ⟨q, hq, e⟩ := List.mem_map.mp z
    exact h q hq (decide_eq_true e)
  · intro h x hx z
    exact h (List.mem_map.mpr ⟨x, hx, of_decide_eq_true z⟩)
theorem knPK_put {kn : KnP} {p : Pl} {d : Int} (h : look kn p = none) : putK (knPK kn) (plK p) (.int d) = knPK (kn ++ [(p, d)]) := by
  obtain ⟨i, k⟩ := p
  rw [putK_new _ (by rw [valV_knP, h]; rfl)]
  unfold knPK
  rw [List.map_append]
  rfl
theorem knPK_len (k : KnP) : (knPK k).length = k.length := List.length_map _
theorem goodKn.snoc {kn : KnP} {p : Pl} {d : Int} (h : goodKn kn) (hp : goodPl p) (hl : look kn p = none) : goodKn (kn ++ [(p, d)]) := by
  have hn := look_none.mp hl
  refine ⟨?_, fun q hq => ?_⟩
  · rw [List.map_append]
    exact List.nodup_append.mpr ⟨h.1, by simp, fun a ha b hb e => hn (by rw [show p = a by rw [e]; exact (List.mem_singleton.mp hb).symm]; exact ha)⟩
  · rcases List.mem_append.mp hq with z | z
    · exact h.2 q z
    · rw [List.mem_singleton.mp z]; exact hp
/-- no more than twelve places -/
theorem goodKn.len {kn : KnP} (h : goodKn kn) : kn.length ≤ 12 := by
  have hs : ∀ p ∈ kn.map (·.1), p ∈ ((List.range 4).map fun (i : Nat) => ((i : Int), 0)) ++ ((List.range 4).map fun (i : Nat) => ((i : Int), 1)) ++ ((List.range 4).map fun (i : Nat) => ((i : Int), 2)) := by
    intro p hp
    obtain ⟨q, hq, rfl⟩ := List.mem_map.mp hp
    obtain ⟨a1, a2, a3⟩ := h.2 q hq
    obtain ⟨⟨i, k⟩, d⟩ := q
    obtain ⟨i', rfl⟩ := Int.eq_ofNat_of_zero_le a1
    have a2 : (i' : Int) < 4 := a2
    have a3 : k < 3 := a3
    have hi : i' ∈ List.range 4 := List.mem_range.mpr (by omega)
    match k, a3 with
    | 0, _ => exact List.mem_append_left _ (List.mem_append_left _ (List.mem_map.mpr ⟨i', hi, rfl⟩))
    | 1, _ => exact List.mem_append_left _ (List.mem_append_right _ (List.mem_map.mpr ⟨i', hi, rfl⟩))
    | 2, _ => exact List.mem_append_right _ (List.mem_map.mpr ⟨i', hi, rfl⟩)
  have := h.1.length_le_of_subset hs
  rw [List.length_map] at this
  exact this
end KW
set_option Elab.async false
set_option linter.all false
set_option maxRecDepth 100000
set_option maxHeartbeats 4000000
/-! M2: the tree of a program's ways. -/
namespace KW
open PySem PySem.Spec PyProof.Rows L2 
section
variable {P : Program} {w : World} {K : PySem.W.Frag} {mg : Str → Option Value} {base : Heap}

inductive Tr where
  | fin (v : Val)
  | ask (pl : Pl) (bs : List Tr)
inductive BR (α : Type) where
  | ok (a : α) (w n : Nat)
  | no
  | die
def BR.bind {α β : Type} : BR α → (α → Nat → Nat → BR β) → BR β
  | .ok a w n, f => f a w n
  | .no, _ => .no
  | .die, _ => .die
def brs (rec : KnP → Nat → Nat → BR Tr) (kn : KnP) (pl : Pl) : Nat → Nat → Nat → Nat → BR (List Tr)
  | _, 0, w, n => .ok [] w n
  | d, t + 1, w, n => (rec (kn ++ [(pl, (d : Int))]) w n).bind fun tr w n => (brs rec kn pl (d + 1) t w n).bind fun ts w n => .ok (tr :: ts) w n
def br (E : KnP → Nat → R Val) (sz : List Nat) : Nat → KnP → Nat → Nat → BR Tr
  | 0, _, _, _ => .die
  | f + 1, kn, w, n => match E kn w with
    | .ok v s => if n + 1 ≤ 500 then .ok (.fin v) (w + s.steps) (n + 1) else .no
    | .st .long _ => .no
    | .st (.place pl) s => match look kn pl, sz[pl.2]? with
      | none, some m => if 0 ≤ pl.1 ∧ pl.1 < 4 ∧ pl.2 < 3 ∧ m ≤ 10 then (brs (br E sz f) kn pl 0 m (w + s.steps) n).bind fun ts w n => .ok (.ask pl ts) w n else .die
      | _, _ => .die
    | .st (.gone _ _) _ => .die
    | .die => .die
mutual
def TrAt (I : Hp) : Tr → V → Prop
  | .fin v, x => ∃ p u, x = .ref p ∧ I p = some (.tup [SS "end", u]) ∧ VAt .law I v u
  | .ask pl bs, x => ∃ p q l us, x = .ref p ∧ I p = some (.tup [SS "ask", .ref q, .ref l]) ∧ I q = some (.tup [.int pl.1, .int (pl.2 : Int)]) ∧ I l = some (.tup us) ∧ TrsAt I bs us
def TrsAt (I : Hp) : List Tr → List V → Prop
  | [], us => us = []
  | t :: ts, us => ∃ u r, us = u :: r ∧ TrAt I t u ∧ TrsAt I ts r
end
mutual
theorem TrAt.mono {I I' : Hp} (h : Same I I') : ∀ {t : Tr} {v : V}, TrAt I t v → TrAt I' t v
  | .fin _, _, ⟨p, u, e, g, hv⟩ => ⟨p, u, e, h _ _ g, hv.mono h⟩
  | .ask _ _, _, ⟨p, q, l, us, e, g1, g2, g3, hb⟩ => ⟨p, q, l, us, e, h _ _ g1, h _ _ g2, h _ _ g3, TrsAt.mono h hb⟩
theorem TrsAt.mono {I I' : Hp} (h : Same I I') : ∀ {t : List Tr} {v : List V}, TrsAt I t v → TrsAt I' t v
  | [], _, e => e
  | _ :: _, _, ⟨u, r, e, a, b⟩ => ⟨u, r, e, TrAt.mono h a, TrsAt.mono h b⟩
end
theorem TrsAt.snoc {I : Hp} {t : Tr} {u : V} : ∀ {ts : List Tr} {us : List V}, TrsAt I ts us → TrAt I t u → TrsAt I (ts ++ [t]) (us ++ [u])
  | [], _, h, g => by rw [show _ = [] from h]; exact ⟨u, [], rfl, g, rfl⟩
  | _ :: _, _, ⟨v, r, e, a, b⟩, g => ⟨v, r ++ [u], by rw [e]; rfl, a, TrsAt.snoc b g⟩
theorem TrAt.ne {I : Hp} {t : Tr} {x : V} (h : TrAt I t x) : ∃ p, x = .ref p := by
  cases t with
  | fin v => obtain ⟨p, u, e, _⟩ := h; exact ⟨p, e⟩
  | ask pl bs => obtain ⟨p, q, l, us, e, _⟩ := h; exact ⟨p, e⟩
def fK (l : Addr) (w : Nat) (z : Addr) : List (Key × V) := [(.inr "ends", .ref l), (.inr "work", .int (w : Int)), (.inr "sizes", .ref z)]
section
variable {l z : Addr} {w w' : Nat} {u : V}
theorem fk_ends : valV (fK l w z) (.inr "ends") = some (.ref l) := by kernel_rfl
theorem fk_work : valV (fK l w z) (.inr "work") = some (.int (w : Int)) := by kernel_rfl
theorem fk_sizes : valV (fK l w z) (.inr "sizes") = some (.ref z) := by kernel_rfl
theorem fp_work : putK (fK l w z) (.inr "work") (.int (w' : Int)) = fK l w' z := by kernel_rfl
theorem fk_len : (fK l w z).length < sizeLine := by show 3 < sizeLine; decide
end
def bM (f l z : Addr) (us : List V) (w : Nat) : List (Addr × HO) := [(f, .dK (fK l w z)), (l, .lst us)]
def BPost (I H : Hp) (f l z : Addr) (Q : VK) : BR Tr → Prop
  | .ok tr w' n' => ∀ u I' H' us', Stp [f, l] I H I' H' → HS I' (bM f l z us' w') H' → us'.length = n' → TrAt I' tr u → w' ≤ 6000 → n' ≤ 500 → Q u H'
  | .no => ∀ I' H' us' w', Stp [f, l] I H I' H' → HS I' (bM f l z us' w') H' → Q .non H'
  | .die => False
theorem BPost.from {I H I' H' : Hp} {f l z : Addr} {Q : VK} {R : BR Tr} {M : List (Addr × HO)} (h : BPost I H f l z Q R) (w : W [f, l] I H I' M H') : BPost I' H' f l z Q R := by
  have tr : ∀ {I2 H2 : Hp}, Stp [f, l] I' H' I2 H2 → Stp [f, l] I H I2 H2 := fun y => w.st.trans y (fun a ha => .inl ha) fun a ha _ => by
    exact w.aa a ha
  cases R with
  | ok a w' n' => exact fun u I2 H2 us' y hs e ht hw hn => h u I2 H2 us' (tr y) hs e ht hw hn
  | no => exact fun I2 H2 us' w' y hs => h I2 H2 us' w' (tr y) hs
  | die => exact h
def runE (d : Nat) (ps : List (Str × Nat)) (b : Tm) (kn : KnP) (w : Nat) : R Val := ev (6000 - w) kn d b (envG ps 0 .nil) nogk ⟨0, 0⟩
def spBr (d f : Nat) : Sp := fun vs H Q _ => ∃ I ka kn ps b gv fa la sa us, ∃ w : Nat, vs = [gv, .ref ka, .int 6000, .ref fa] ∧ HS I (bM fa la sa us w) H ∧ I ka = some (.dT (knPK kn)) ∧ PrAt I ps b gv ∧ notFn b ∧ ps.length ≤ 10 ∧
  I sa = some (.lst (ps.map fun e => .int (e.2 : Nat))) ∧ goodKn kn ∧ w ≤ 6000 ∧ us.length ≤ 500 ∧ BPost I H fa la sa Q (br (runE d ps b) (ps.map (·.2)) f kn w us.length)
theorem HS.left0 {I H : Hp} {M : List (Addr × HO)} (h : HS I M H) : HS I [] H := ⟨h.sub, fun _ z => (by cases z), fun _ z => (by cases z), List.nodup_nil⟩
theorem eqv_long1 : PyData.eqv (.tuple [.str "long"]) (.tuple [.str "long"]) = true := by decide +kernel
theorem eqv_place_long {i k : Int} : PyData.eqv (.tuple [.str "place", .tuple [.int i, .int k]]) (.tuple [.str "long"]) = false := by
  have h : (("place" : Str) == "long") = false := by decide +kernel
  simp [PyData.eqv, PyData.eqvAll, h]
theorem atI_snoc {α : Type} (xs : List α) (y : α) : atI (xs ++ [y]) (-1) = some y := by
  unfold atI
  have e : ixN (xs ++ [y]).length (-1) = some xs.length := by
    unfold ixN
    rw [List.length_append, List.length_singleton, if_neg (by omega)]
    simp
    omega
  rw [e]
  simp
abbrev N__law_branch : List Str := ["_law_program_here", "_law_known", "_law_most", "_law_found", "_law_run_here", "_law_place", "_law_branches", "_law_d"]
theorem sc__law_branch : FnScope N__law_branch ["_law_program_here", "_law_known", "_law_most", "_law_found"] (defScope (top 100)) := fnScope_ok (by decide +kernel)
theorem ok_branch {d f k : Nat} (D : DefAt K mg "_law_branch" 100) (T : Txt K mg) (c__law_with : Cl P w K mg base 1 "_law_with" (spPutT P w)) (c__law_run : Cl P w K mg base (k + 1) "_law_run" (spRunL d)) (c__law_branch : Cl P w K mg base (k + 1) "_law_branch" (spBr d f)) : Cl P w K mg base (k + 2) "_law_branch" (spBr d (f + 1)) := by
  refine cl_mk (i := 100) (N := N__law_branch) (ps := ["_law_program_here", "_law_known", "_law_most", "_law_found"]) D sc__law_branch (fun _ _ _ _ _ _ us hl => match us, hl with | [_, _, _, _], _ => rfl) ?_ ?_
  · rintro vs H Q E ⟨I, ka, kn, ps, b, gv, fa, la, sa, us, w, rfl, _⟩
    rfl
  rintro f0 cdv A outer s0 H vs Q E hr ⟨I, ka, kn, ps, b, gv, fa, la, sa, us, wn, rfl, hs, hkn, hpr, hnf, hpl, hsa, hgk, hw6, hul, post⟩
  refine ⟨_, (pss_cons (ps_set (i := 4) sc__law_branch.nd rfl (Or.inl rfl) (pe_cl c__law_run hr (by omega) rfl (pa_cons (pv 0) (pa_cons (pv 1) (pa_cons pe_non (pa_cons (pe_op op_sub (pv 2) (pe_dget (hu_of hr) (pv 3) pe_str (fun _ _ => rfl))) pa_nil)))))) (pss_cons (ps_dput (hu_of hr) (pv 3) pe_str (pe_op op_add (pe_dget (hu_of hr) (pv 3) pe_str (fun _ _ => rfl)) (pe_dget (hu_of hr) (pv 4) pe_str (fun _ _ => rfl))) rfl) (pss_cons (ps_if (pt_cmpR op_isN (pe_dget (hu_of hr) (pv 4) pe_str (fun _ _ => rfl)) pe_non (nomark _)) (pss_cons (ps_expr (pe_bm PySem.F.plainAttrs_list PySem.F.slot_list_append PySem.F.type_list_append mt_append (pe_dget (hu_of hr) (pv 3) pe_str (fun _ _ => rfl)) (pa_cons (pe_tup (pa_cons (pv 1) (pa_cons (pe_dget (hu_of hr) (pv 4) pe_str (fun _ _ => rfl)) pa_nil))) pa_nil))) (pss_one (ps_ret (pe_ifExp (pt_cmpR op_le (pe_callB call_len_seq (by rfl) T.len (by decide +kernel) (pa_cons (pe_dget (hu_of hr) (pv 3) pe_str (fun _ _ => rfl)) pa_nil)) pe_int (nomark _)) (pe_tup (pa_cons pe_str (pa_cons (pe_dget (hu_of hr) (pv 4) pe_str (fun _ _ => rfl)) pa_nil))) pe_non)))) pss_nil) (pss_cons (ps_if (pt_cmpR (op_eqD hr.units) (pe_dget (hu_of hr) (pv 4) pe_str (fun _ _ => rfl)) (pe_tup (pa_cons pe_str pa_nil)) (nomark _)) (pss_one (ps_ret pe_non)) pss_nil) (pss_cons (ps_par (i := 5) (j := 6) rfl sc__law_branch.nd rfl rfl (by decide) rfl rfl (pa_cons (pe_ix ix_tup (pe_dget (hu_of hr) (pv 4) pe_str (fun _ _ => rfl)) pe_int (fun _ _ => rfl)) (pa_cons (pe_lst pa_nil) pa_nil)) (by rfl)) (pss_cons (ps_for PassesOwn.never rfl (pi_range1 rfl T.range (pa_cons (pe_ix ix_list (pe_dget (hu_of hr) (pv 3) pe_str (fun _ _ => rfl)) (pe_ix ix_tup (pv 5) pe_int (fun _ _ => rfl)) (fun _ _ => rfl)) pa_nil)) (pg_name (i := 7) sc__law_branch.nd rfl (Or.inl rfl)) (pss_cons (ps_expr (pe_bm PySem.F.plainAttrs_list PySem.F.slot_list_append PySem.F.type_list_append mt_append (pv 6) (pa_cons (pe_cl c__law_branch hr (by omega) rfl (pa_cons (pv 0) (pa_cons (pe_cl c__law_with hr (by omega) rfl (pa_cons (pv 1) (pa_cons (pv 5) (pa_cons (pv 7) pa_nil)))) (pa_cons (pv 2) (pa_cons (pv 3) pa_nil))))) pa_nil))) (pss_one (ps_if (pt_cmpR op_isN (pe_ix ix_list (pv 6) (pe_un un_neg pe_int) (fun _ _ => rfl)) pe_non (nomark _)) (pss_one (ps_ret pe_non)) pss_nil)))) (pss_one (ps_ret (pe_tup (pa_cons pe_str (pa_cons (pv 5) (pa_cons (pe_callTy call_tuple_of (by rfl) T.tuple (by decide +kernel) (pa_cons (pv 6) pa_nil)) pa_nil)))))))))))), ?_⟩
  have w0 := W.start hs
  refine ⟨_, rfl, _, rfl, _, rfl, _, rfl, fa, _, rfl, DG (w0.get (i := 0) rfl) fk_work, _, _, rfl, rfl, ?_⟩
  have em : (6000 : Int) - (wn : Int) = ((6000 - wn : Nat) : Int) := by omega
  refine ⟨I, ka, kn, ps, b, gv, 6000 - wn, (by rw [← em]), w0.hs.left0, hkn, hpr, hnf, hpl, by unfold MOST; omega, ?_⟩
  unfold br at post
  have er : runE d ps b kn wn = ev (6000 - wn) kn d b (envG ps 0 .nil) nogk ⟨0, 0⟩ := rfl
  rw [er] at post
  cases hev : ev (6000 - wn) kn d b (envG ps 0 .nil) nogk ⟨0, 0⟩ with
  | die => rw [hev] at post; exact post.elim
  | ok v s1 =>
    rw [hev] at post
    rintro r u I' H' st hs1 ⟨rkv, hr1, hr2, hr3, hr4⟩ hv sm
    have w1 : W [fa, la] I H I' (bM fa la sa us wn) H' := W.call (M1 := []) (M1' := []) w0 st hs1 rfl
    refine ⟨_, rfl, fa, _, rfl, DG (w1.get (i := 0) rfl) fk_work, ⟨_, rfl, r, _, rfl, DG (w1.i hr1) hr3, _, _, rfl, rfl, _, rfl, fa, _, rfl, DP (w1.get (i := 0) rfl) (fp_work (w' := wn + s1.steps)) fk_len, ?_⟩⟩
    have w2 : W [fa, la] I H I' (bM fa la sa us (wn + s1.steps)) _ := w1.set (i := 0) rfl (.dK (fK la (wn + s1.steps) sa))
    refine ⟨_, rfl, r, _, rfl, DG (w2.i hr1) hr2, rfl, _, rfl, tT rfl ?_⟩
    refine ⟨_, rfl, fa, _, rfl, DG (w2.get (i := 0) rfl) fk_ends, .inl ⟨rfl, _, SqL.of (w2.get (i := 1) rfl)⟩, _, rfl, _, rfl, r, _, rfl, DG (w2.i hr1) hr4, s2, fun t ht => ?_⟩
    have w3 := w2.newI ht (.tup [.ref ka, u])
    have u3 := w2.upI ht (.tup [.ref ka, u])
    refine ⟨la, us, .ref t, rfl, rfl, w3.get (i := 1) rfl, small (by omega), ?_⟩
    have w4 : W [fa, la] I H _ (bM fa la sa (us ++ [.ref t]) (wn + s1.steps)) _ := w3.set (i := 1) rfl (.lst (us ++ [.ref t]))
    have el : (us ++ [V.ref t]).length = us.length + 1 := by rw [List.length_append, List.length_singleton]
    refine ⟨_, rfl, fa, _, rfl, DG (w4.get (i := 0) rfl) fk_ends, la, _, rfl, .inl (SqL.of (w4.get (i := 1) rfl)), _, _, rfl, rfl, _, rfl, ?_⟩
    rw [el]
    dsimp only at post
    by_cases h5 : us.length + 1 ≤ 500
    · rw [if_pos h5] at post
      refine tT (by omega) ?_
      refine ⟨_, rfl, r, _, rfl, DG (w4.i (u3 _ _ hr1)) hr4, s2, fun t2 ht2 => ?_⟩
      have w5 := w4.newI ht2 (.tup [SS "end", u])
      have u5 := w4.upI ht2 (.tup [SS "end", u])
      exact post (.ref t2) _ _ _ w5.st w5.hs el ⟨t2, u, rfl, upd_same, hv.mono (u3.trans u5)⟩ (by omega) h5
    · rw [if_neg h5] at post
      refine tF (by omega) ?_
      exact post _ _ _ _ w4.st w4.hs
  | st wd s1 =>
    rw [hev] at post
    rintro r x I' H' st hs1 ⟨rkv, hr1, hr2, hr3, hr4⟩ hx sm
    have w1 : W [fa, la] I H I' (bM fa la sa us wn) H' := W.call (M1 := []) (M1' := []) w0 st hs1 rfl
    refine ⟨_, rfl, fa, _, rfl, DG (w1.get (i := 0) rfl) fk_work, ⟨_, rfl, r, _, rfl, DG (w1.i hr1) hr3, _, _, rfl, rfl, _, rfl, fa, _, rfl, DP (w1.get (i := 0) rfl) (fp_work (w' := wn + s1.steps)) fk_len, ?_⟩⟩
    have w2 : W [fa, la] I H I' (bM fa la sa us (wn + s1.steps)) _ := w1.set (i := 0) rfl (.dK (fK la (wn + s1.steps) sa))
    obtain ⟨px, rfl⟩ := hx.ne
    refine ⟨_, rfl, r, _, rfl, DG (w2.i hr1) hr2, rfl, _, rfl, tF (by intro z; cases z) ?_⟩
    refine ⟨_, rfl, r, _, rfl, DG (w2.i hr1) hr2, (by show 1 ≤ sizeLine; decide), fun t ht => ?_⟩
    have w3 := w2.newI ht (.tup [SS "long"])
    have u3 := w2.upI ht (.tup [SS "long"])
    cases wd with
    | gone gn gi => exact post.elim
    | long =>
      obtain ⟨py, epy, hpx⟩ := id hx
      cases epy
      refine ⟨.tuple [.str "long"], .tuple [.str "long"], .tup (SqT.of (w3.i (u3 _ _ hpx))) (.cons (.str _) .nil), .tup (SqT.of upd_same) (.cons (.str _) .nil), sh_str1, sh_str1, _, rfl, bT eqv_long1 ?_⟩
      exact post _ _ _ _ w3.st w3.hs
    | place pl =>
      obtain ⟨pi, pk⟩ := pl
      obtain ⟨py, pq, epy, hpx, hpq⟩ := id hx
      cases epy
      refine ⟨.tuple [.str "place", .tuple [.int pi, .int pk]], .tuple [.str "long"], .tup (SqT.of (w3.i (u3 _ _ hpx))) (.cons (.str _) (.cons (.tup (SqT.of (w3.i (u3 _ _ hpq))) (.cons (.int _) (.cons (.int _) .nil))) .nil)), .tup (SqT.of upd_same) (.cons (.str _) .nil), sh_place, sh_str1, _, rfl, bF eqv_place_long ?_⟩
      refine ⟨_, rfl, r, _, rfl, DG (w3.i (u3 _ _ hr1)) hr2, px, _, _, _, rfl, rfl, SqT.of (w3.i (u3 _ _ hpx)), rfl, Nat.zero_le _, fun ba hba => ⟨_, _, rfl, ?_⟩⟩
      dsimp only at post
      obtain ⟨m, hlk, hsz, ⟨hp0, hp1, hp2, hm10⟩, post⟩ : ∃ m, look kn (pi, pk) = none ∧ (ps.map (·.2))[pk]? = some m ∧ (0 ≤ pi ∧ pi < 4 ∧ pk < 3 ∧ m ≤ 10) ∧ BPost I H fa la sa Q ((brs (br (runE d ps b) (ps.map (·.2)) f) kn (pi, pk) 0 m (wn + s1.steps) us.length).bind fun ts w n => .ok (.ask (pi, pk) ts) w n) := by
        cases hl : look kn (pi, pk) with
        | some z => rw [hl] at post; exact post.elim
        | none =>
          rw [hl] at post
          cases hz : (ps.map (·.2))[pk]? with
          | none => rw [hz] at post; exact post.elim
          | some m =>
            rw [hz] at post
            dsimp only at post
            by_cases hc : 0 ≤ pi ∧ pi < 4 ∧ pk < 3 ∧ m ≤ 10
            · rw [if_pos hc] at post
              exact ⟨m, rfl, rfl, hc, post⟩
            · rw [if_neg hc] at post
              exact post.elim
      have w4 := w3.newM hba (.lst [])
      have hsz2 : (ps.map fun e => V.int (e.2 : Nat))[pk]? = some (.int (m : Int)) := by
        rw [List.getElem?_map] at hsz ⊢
        cases hq : ps[pk]? with
        | none => rw [hq] at hsz; cases hsz
        | some z => rw [hq] at hsz; cases hsz; rfl
      have s14 := st.same.trans u3
      have hpq4 := u3 _ _ hpq
      have hkn4 := s14 _ _ hkn
      have hsa4 := s14 _ _ hsa
      have hpr4 := hpr.mono s14
      refine ⟨_, rfl, fa, _, rfl, DG (w4.get (i := 0) rfl) fk_sizes, ⟨_, rfl, pq, _, _, _, rfl, rfl, SqT.of (w4.i hpq4), rfl, sa, _, _, _, rfl, rfl, SqL.of (w4.i hsa4), atI_nat hsz2, ?_⟩⟩
      revert w4 hpq4 hkn4 hsa4 hpr4
      clear w3 u3 w2 w1 s14
      generalize upd I' t (.tup [SS "long"]) = I4
      generalize upd (upd (upd H' fa (.dK (fK la (wn + s1.steps) sa))) t (.tup [SS "long"])) ba (.lst []) = H4
      intro w4 hpq4 hkn4 hsa4 hpr4
      refine ⟨_, rfl, (by omega), (by omega), ?_⟩
      have etn : ((m : Int)).toNat = m := by omega
      rw [etn]
      have hnb : ba ∉ [fa, la] := by
        have nd : ([fa, la, ba] : List Addr).Nodup := w4.hs.nd
        simp only [List.nodup_cons, List.mem_cons, List.not_mem_nil, or_false, not_or] at nd ⊢
        exact ⟨fun z => nd.1.2 z.symm, fun z => nd.2.1 z.symm⟩
      have hws : wn + s1.steps ≤ 6000 := by
        rcases sm with z | z
        · cases z
        · omega
      refine for_range (lo := 0) (n := m) (fun j σ H' => ∃ (I' : Hp) (us' vs : List V) (trs : List Tr) (w' : Nat) (vd : Option V), σ = [some gv, some (.ref ka), some (.int 6000), some (.ref fa), some (.ref r), some (.ref pq), some (.ref ba), vd] ∧
        W [fa, la] I H I' (bM fa la sa us' w' ++ [(ba, .lst vs)]) H' ∧ Same I4 I' ∧ TrsAt I' trs vs ∧ vs.length = j ∧ w' ≤ 6000 ∧ us'.length ≤ 500 ∧
        BPost I H fa la sa Q ((brs (br (runE d ps b) (ps.map (·.2)) f) kn (pi, pk) j (m - j) w' us'.length).bind fun ts w n => .ok (.ask (pi, pk) (trs ++ ts)) w n)) ⟨I4, us, [], [], _, none, rfl, w4, Same.refl _, rfl, rfl, hws, hul, post⟩ ?_ ?_
      · rintro j σ H' hj ⟨I5, us5, vs5, trs, w5, vd, rfl, v5, s5, htr, hvl, hw5, hu5, post5⟩
        refine ⟨_, rfl, .inl ⟨rfl, _, SqL.of (v5.get (i := 2) rfl)⟩, _, rfl, _, rfl, _, rfl, _, rfl, ?_⟩
        refine ⟨ka, pq, knPK kn, plK (pi, pk), .int (0 + (j : Int)), rfl, v5.i (s5 _ _ hkn4), v5.i (s5 _ _ hpq4), ?_, hgk.hash P w, fun kq hkq => ?_⟩
        · rw [knPK_len]
          have := hgk.len
          exact small (by omega)
        have v6 := v5.newI hkq (.dT (putK (knPK kn) (plK (pi, pk)) (.int (0 + (j : Int)))))
        have u6 := v5.upI hkq (.dT (putK (knPK kn) (plK (pi, pk)) (.int (0 + (j : Int)))))
        have ekn : putK (knPK kn) (plK (pi, pk)) (.int (0 + (j : Int))) = knPK (kn ++ [((pi, pk), (j : Int))]) := by
          rw [knPK_put hlk, Int.zero_add]
        refine ⟨_, rfl, _, rfl, ?_⟩
        have s6 := s5.trans u6
        have emj : m - j = (m - (j + 1)) + 1 := by omega
        rw [emj] at post5
        unfold brs at post5
        refine ⟨_, kq, kn ++ [((pi, pk), (j : Int))], ps, b, gv, fa, la, sa, us5, w5, rfl, v6.hs.left, ?_, hpr4.mono s6, hnf, hpl, s6 _ _ hsa4, hgk.snoc ⟨hp0, hp1, hp2⟩ hlk, hw5, hu5, ?_⟩
        · rw [← ekn]
          exact upd_same
        cases hb : br (runE d ps b) (ps.map (·.2)) f (kn ++ [((pi, pk), (j : Int))]) w5 us5.length with
        | die => rw [hb] at post5; exact post5.elim
        | no =>
          rw [hb] at post5
          rintro I7 H7 us7 w7 st7 hs7
          have v7 := v6.call st7 hs7 rfl
          refine ⟨ba, vs5, .non, rfl, rfl, v7.get (i := 2) rfl, small (by omega), ?_⟩
          have v8 := v7.set (i := 2) rfl (.lst (vs5 ++ [.non]))
          refine ⟨_, rfl, _, rfl, ba, _, _, _, rfl, rfl, SqL.of (v8.get (i := 2) rfl), atI_snoc _ _, rfl, _, rfl, tT rfl ?_⟩
          have v9 := W.drop (M1 := bM fa la sa us7 w7) v8 fun a ha => ha
          exact post5 _ _ _ _ v9.st v9.hs
        | ok tr w7 n7 =>
          rw [hb] at post5
          rintro u I7 H7 us7 st7 hs7 hn7 htr7 hw7 hn500
          have v7 := v6.call st7 hs7 rfl
          refine ⟨ba, vs5, u, rfl, rfl, v7.get (i := 2) rfl, small (by omega), ?_⟩
          have v8 : W [fa, la] I H I7 (bM fa la sa us7 w7 ++ [(ba, .lst (vs5 ++ [u]))]) _ := v7.set (i := 2) rfl (.lst (vs5 ++ [u]))
          obtain ⟨pu, rfl⟩ := htr7.ne
          refine ⟨_, rfl, _, rfl, ba, _, _, _, rfl, rfl, SqL.of (v8.get (i := 2) rfl), atI_snoc _ _, rfl, _, rfl, tF (by intro z; cases z) ?_⟩
          refine ⟨I7, us7, vs5 ++ [.ref pu], trs ++ [tr], w7, _, rfl, v8, s6.trans st7.same, (htr.mono (u6.trans st7.same)).snoc htr7, by rw [List.length_append, List.length_singleton, hvl], hw7, ?_, ?_⟩
          · omega
          · rw [hn7]
            have e : ((brs (br (runE d ps b) (ps.map (·.2)) f) kn (pi, pk) (j + 1) (m - (j + 1)) w7 n7).bind fun ts w n => BR.ok (tr :: ts) w n).bind (fun ts w n => BR.ok (Tr.ask (pi, pk) (trs ++ ts)) w n) = (brs (br (runE d ps b) (ps.map (·.2)) f) kn (pi, pk) (j + 1) (m - (j + 1)) w7 n7).bind fun ts w n => .ok (.ask (pi, pk) (trs ++ [tr] ++ ts)) w n := by
              cases brs (br (runE d ps b) (ps.map (·.2)) f) kn (pi, pk) (j + 1) (m - (j + 1)) w7 n7 with
              | ok ts w n => show BR.ok (Tr.ask (pi, pk) (trs ++ tr :: ts)) w n = BR.ok (Tr.ask (pi, pk) (trs ++ [tr] ++ ts)) w n; rw [List.append_assoc]; rfl
              | no => rfl
              | die => rfl
            rw [← e]
            exact post5
      · rintro σ H' ⟨I5, us5, vs5, trs, w5, vd, rfl, v5, s5, htr, hvl, hw5, hu5, post5⟩
        rw [Nat.sub_self] at post5
        have post5 : BPost I H fa la sa Q (.ok (.ask (pi, pk) (trs ++ [])) w5 us5.length) := post5
        rw [List.append_nil] at post5
        refine ⟨_, rfl, _, rfl, ba, vs5, rfl, .inl ⟨SqL.of (v5.get (i := 2) rfl), fun tl htl => ?_⟩⟩
        have v6 := v5.newI htl (.tup vs5)
        have u6 := v5.upI htl (.tup vs5)
        refine ⟨(by show 3 ≤ sizeLine; decide), fun ta hta => ?_⟩
        have v7 := v6.newI hta (.tup [SS "ask", .ref pq, .ref tl])
        have u7 := v6.upI hta (.tup [SS "ask", .ref pq, .ref tl])
        have v8 := W.drop (M1 := bM fa la sa us5 w5) v7 fun a ha => ha
        exact post5 (.ref ta) _ _ us5 v8.st v8.hs rfl ⟨ta, pq, tl, vs5, rfl, upd_same, u7 _ _ (u6 _ _ (s5 _ _ hpq4)), u7 _ _ upd_same, htr.mono (u6.trans u7)⟩ hw5 hu5

theorem ok_branch0 {d : Nat} (D : DefAt K mg "_law_branch" 100) : Cl P w K mg base 1 "_law_branch" (spBr d 0) := by
  refine cl_mk (i := 100) (N := N__law_branch) (ps := ["_law_program_here", "_law_known", "_law_most", "_law_found"]) D sc__law_branch (fun _ _ _ _ _ _ us hl => match us, hl with | [_, _, _, _], _ => rfl) ?_ ?_
  · rintro vs H Q E ⟨I, ka, kn, ps, b, gv, fa, la, sa, us, w, rfl, _⟩
    rfl
  rintro f0 cdv A outer s0 H vs Q E hr ⟨I, ka, kn, ps, b, gv, fa, la, sa, us, wn, rfl, hs, hkn, hpr, hnf, hpl, hsa, hgk, hw6, hul, post⟩
  exact post.elim
structure LawDefs2 (K : PySem.W.Frag) (mg : Str → Option Value) : Prop extends LawDefs K mg where
  run : DefAt K mg "_law_run" 96
  sizes : DefAt K mg "_law_sizes" 97
  ways : DefAt K mg "_law_ways" 99
  branch : DefAt K mg "_law_branch" 100
theorem branch_all (D : LawDefs2 K mg) (T : Txt K mg) (d : Nat) : ∀ f, Cl P w K mg base (3 * d + 2 + f) "_law_branch" (spBr d f)
  | 0 => (ok_branch0 D.branch).mono (by omega)
  | f + 1 => by
    have h := branch_all D T d f
    have c1 := ok_run (P := P) (w := w) (base := base) (k := 3 * d + 1) D.run T (out_all D.toLawDefs T d)
    exact (ok_branch (k := 3 * d + 1 + f) D.branch T (ok_withT D.wth T) (c1.mono (by omega)) (h.mono (by omega))).mono (by omega)
def WaysAt (I : Hp) (fa : Addr) (tr : Tr) (w n : Nat) : Prop := ∃ kvs la us u, I fa = some (.dK kvs) ∧ valV kvs (.inr "tree") = some u ∧ valV kvs (.inr "work") = some (.int (w : Int)) ∧ valV kvs (.inr "ends") = some (.ref la) ∧ I la = some (.lst us) ∧ us.length = n ∧ TrAt I tr u
def WPost (I H : Hp) (Q : VK) : BR Tr → Prop
  | .ok tr w n => ∀ fa I' H', Stp [] I H I' H' → HS I' [] H' → WaysAt I' fa tr w n → w ≤ 6000 → n ≤ 500 → Q (.ref fa) H'
  | .no => ∀ I' H', Stp [] I H I' H' → HS I' [] H' → Q .non H'
  | .die => False
def spWays (d f : Nat) : Sp := fun vs H Q _ => ∃ I ps b gv, vs = [gv, .int 6000] ∧ HS I [] H ∧ PrAt I ps b gv ∧ notFn b ∧ ps.length ≤ 10 ∧ WPost I H Q (br (runE d ps b) (ps.map (·.2)) f [] 0 0)
theorem fp_tree {l z : Addr} {w : Nat} {u : V} : putK (fK l w z) (.inr "tree") u = fK l w z ++ [(.inr "tree", u)] := by kernel_rfl
theorem ft_tree {l z : Addr} {w : Nat} {u : V} : valV (fK l w z ++ [(.inr "tree", u)]) (.inr "tree") = some u := by kernel_rfl
theorem ft_work {l z : Addr} {w : Nat} {u : V} : valV (fK l w z ++ [(.inr "tree", u)]) (.inr "work") = some (.int (w : Int)) := by kernel_rfl
theorem ft_ends {l z : Addr} {w : Nat} {u : V} : valV (fK l w z ++ [(.inr "tree", u)]) (.inr "ends") = some (.ref l) := by kernel_rfl
theorem fm_run {l z : Addr} : mergeK [] [(.inr "ends", .ref l), (.inr "work", .int 0), (.inr "sizes", .ref z)] = fK l 0 z := by kernel_rfl
abbrev N__law_ways : List Str := ["_law_program_here", "_law_most", "_law_found"]
theorem sc__law_ways : FnScope N__law_ways ["_law_program_here", "_law_most"] (defScope (top 99)) := fnScope_ok (by decide +kernel)
theorem ok_ways {d f k : Nat} (D : DefAt K mg "_law_ways" 99) (T : Txt K mg) (c__law_sizes : Cl P w K mg base 1 "_law_sizes" spSizes) (c__law_branch : Cl P w K mg base (k + 1) "_law_branch" (spBr d f)) : Cl P w K mg base (k + 2) "_law_ways" (spWays d f) := by
  refine cl_mk (i := 99) (N := N__law_ways) (ps := ["_law_program_here", "_law_most"]) D sc__law_ways (fun _ _ _ _ _ _ us hl => match us, hl with | [_, _], _ => rfl) ?_ ?_
  · rintro vs H Q E ⟨I, ps, b, gv, rfl, _⟩
    rfl
  rintro f0 cdv A outer s0 H vs Q E hr ⟨I, ps, b, gv, rfl, hs, hpr, hnf, hpl, post⟩
  refine ⟨_, (pss_cons (ps_set (i := 2) sc__law_ways.nd rfl (Or.inl rfl) (pe_disp (pps_cons pe_str (pe_lst pa_nil) (pps_cons pe_str pe_int (pps_cons pe_str (pe_cl c__law_sizes hr (by omega) rfl (pa_cons (pv 0) pa_nil)) pps_nil))) (by rfl) (by rfl) (fun z => by cases z) (by decide))) (pss_cons (ps_dput (hu_of hr) (pv 2) pe_str (pe_cl c__law_branch hr (by omega) rfl (pa_cons (pv 0) (pa_cons pe_dnewT (pa_cons (pv 1) (pa_cons (pv 2) pa_nil))))) rfl) (pss_one (ps_ret (pe_ifExp (pt_cmpR op_isN (pe_dget (hu_of hr) (pv 2) pe_str (fun _ _ => rfl)) pe_non (nomark _)) pe_non (pv 2)))))), ?_⟩
  have w0 := W.start hs
  refine fun fa hfa => ?_
  have w1 := w0.newM hfa (.dK [])
  refine ⟨Nat.zero_le _, fun la hla => ?_⟩
  have w2 := w1.newM hla (.lst [])
  refine ⟨_, rfl, ps, b, gv, rfl, hpr.mono w2.hs.sub, hnf, hpl, fun sa hsa => ?_⟩
  have w3 := w2.newI hsa (.lst (ps.map fun e => .int (e.2 : Nat)))
  have u3 := w2.upI hsa (.lst (ps.map fun e => .int (e.2 : Nat)))
  refine ⟨w3.get (i := 0) rfl, [(.inr "ends", .ref la), (.inr "work", .int 0), (.inr "sizes", .ref sa)], rfl, (by show 3 ≤ 15; decide), ?_⟩
  rw [fm_run]
  have w4 : W [] I H _ (bM fa la sa [] 0) _ := w3.set (i := 0) rfl (.dK (fK la 0 sa))
  refine ⟨_, rfl, fun ka hka => ?_⟩
  have w5 := w4.newI hka (.dT [])
  have u5 := u3.trans (w4.upI hka (.dT []))
  refine ⟨_, rfl, _, rfl, ?_⟩
  refine ⟨_, ka, [], ps, b, gv, fa, la, sa, [], 0, rfl, w5.hs, upd_same, hpr.mono u5, hnf, hpl, w4.upI hka (.dT []) _ _ upd_same, ⟨List.nodup_nil, fun _ z => by cases z⟩, Nat.zero_le _, Nat.zero_le _, ?_⟩
  have e0 : ([] : List V).length = 0 := rfl
  rw [e0]
  cases hb : br (runE d ps b) (ps.map (·.2)) f [] 0 0 with
  | die => rw [hb] at post; exact post.elim
  | no =>
    rw [hb] at post
    rintro I7 H7 us7 w7 st7 hs7
    have v7 := w5.call0 st7 hs7 rfl
    refine ⟨_, rfl, fa, _, rfl, DP (v7.get (i := 0) rfl) fp_tree fk_len, ?_⟩
    have v8 := v7.set (i := 0) rfl (.dK (fK la w7 sa ++ [(.inr "tree", .non)]))
    refine ⟨_, rfl, fa, _, rfl, DG (v8.get (i := 0) rfl) ft_tree, rfl, _, rfl, tT rfl ?_⟩
    have v9 := W.drop (M1 := []) v8 (by simp)
    exact post _ _ v9.st v9.hs
  | ok tr w7 n7 =>
    rw [hb] at post
    rintro u I7 H7 us7 st7 hs7 hn7 htr7 hw7 hn500
    have v7 := w5.call0 st7 hs7 rfl
    refine ⟨_, rfl, fa, _, rfl, DP (v7.get (i := 0) rfl) fp_tree fk_len, ?_⟩
    have v8 := v7.set (i := 0) rfl (.dK (fK la w7 sa ++ [(.inr "tree", u)]))
    obtain ⟨pu, rfl⟩ := htr7.ne
    refine ⟨_, rfl, fa, _, rfl, DG (v8.get (i := 0) rfl) ft_tree, rfl, _, rfl, tF (by intro z; cases z) ?_⟩
    have v9 := W.freeze (M := [(fa, .dK (fK la w7 sa ++ [(.inr "tree", .ref pu)]))]) (p := la) (o := .lst us7) v8 (by simp)
    have u9 := same_up (o := HO.lst us7) (v8.hs.out (la, .lst us7) (List.mem_cons_of_mem _ List.mem_cons_self))
    have v10 := W.freeze (M := []) (p := fa) (o := .dK (fK la w7 sa ++ [(.inr "tree", .ref pu)])) v9 (by simp)
    have u10 := same_up (o := HO.dK (fK la w7 sa ++ [(.inr "tree", .ref pu)])) (v9.hs.out (fa, _) List.mem_cons_self)
    refine ⟨_, rfl, ?_⟩
    exact post fa _ _ v10.st v10.hs ⟨_, la, us7, .ref pu, upd_same, ft_tree, ft_work, ft_ends, u10 _ _ upd_same, hn7, htr7.mono (u9.trans u10)⟩ hw7 hn500
end
end KW
set_option Elab.async false
set_option linter.all false
set_option maxRecDepth 100000
set_option maxHeartbeats 4000000
/-! B0: the package's machine in the heap; its bounds. -/
namespace KW
open PySem PySem.Spec PyProof.Rows L2

/-! ### bounds -/
def goodK (k : Kn) : Prop := (k.map (·.1)).Nodup ∧ ∀ p ∈ k, 0 ≤ p.1 ∧ p.1 < 4
theorem goodK.len {k : Kn} (h : goodK k) : k.length ≤ 4 := by
  have hs : ∀ i ∈ k.map (·.1), i ∈ (List.range 4).map fun (i : Nat) => (i : Int) := by
    intro i hi
    obtain ⟨q, hq, rfl⟩ := List.mem_map.mp hi
    obtain ⟨a1, a2⟩ := h.2 q hq
    obtain ⟨j, hj⟩ := Int.eq_ofNat_of_zero_le a1
    rw [hj]
    exact List.mem_map.mpr ⟨j, List.mem_range.mpr (by omega), rfl⟩
  have := h.1.length_le_of_subset hs
  rw [List.length_map] at this
  exact this
theorem look_none0 {α β : Type} [DecidableEq α] {k : List (α × β)} {i : α} : look k i = none ↔ i ∉ k.map (·.1) := by
  unfold look
  rw [Option.map_eq_none_iff, List.find?_eq_none]
  constructor
  · intro h z
    obtain ⟨q, hq, e⟩ := List.mem_map.mp z
    exact h q hq (decide_eq_true e)
  · intro h x hx z
    exact h (List.mem_map.mpr ⟨x, hx, of_decide_eq_true z⟩)
theorem goodK.snoc {k : Kn} {i d : Int} (h : goodK k) (h0 : 0 ≤ i) (h4 : i < 4) (hl : look k i = none) : goodK (k ++ [(i, d)]) := by
  have hn := look_none0.mp hl
  refine ⟨?_, fun q hq => ?_⟩
  · rw [List.map_append]
    exact List.nodup_append.mpr ⟨h.1, by simp, fun a ha b hb e => hn (by rw [show i = a by rw [e]; exact (List.mem_singleton.mp hb).symm]; exact ha)⟩
  · rcases List.mem_append.mp hq with z | z
    · exact h.2 q z
    · rw [List.mem_singleton.mp z]; exact ⟨h0, h4⟩
def Now.sl : Now → Nat
  | .eval _ _ => 0
  | _ => 1
def Now.ok : Now → Prop
  | .stop _ i => 0 ≤ i ∧ i < 4
  | _ => True
structure AB (δ n : Nat) (a : AF) : Prop where
  mk' ::
  left : a.left.length + 9 * δ ≤ 9 * n
  ends : a.ends.length + δ ≤ n
  kn : goodK a.known
  kl : ∀ k ∈ a.left, goodK k
  ke : ∀ e ∈ a.ends, goodK e.1
  m2 : 2 ≤ a.m
  m9 : a.m ≤ 9
  el : a.env.len < 1000
  mk : 1 ≤ a.mark
theorem AB.le {δ δ' n n' : Nat} {a : AF} (h : AB δ n a) (e : n + δ' ≤ n' + δ) : AB δ' n' a := ⟨by have := h.left; omega, by have := h.ends; omega, h.kn, h.kl, h.ke, h.m2, h.m9, h.el, h.mk⟩
structure BD (c : Cfg) : Prop where
  st : c.stk.length + c.now.sl ≤ c.s.steps
  ok : c.now.ok
  fr : ∀ a, Fr.all a ∈ c.stk → AB c.now.sl c.s.steps a
section
variable {most : Nat} {kn : KnP}
theorem BD.same {c c' : Cfg} (b : BD c) (hl : c'.stk.length + c'.now.sl + c.s.steps ≤ c.stk.length + c.now.sl + c'.s.steps) (hs : c'.now.sl + c.s.steps ≤ c.now.sl + c'.s.steps) (hok : c'.now.ok) (hsub : ∀ a, Fr.all a ∈ c'.stk → Fr.all a ∈ c.stk) : BD c' :=
  ⟨by have := b.st; omega, hok, fun a ha => (b.fr a (hsub a ha)).le (by omega)⟩
theorem bd_valO {c c' : Cfg} {stk : List Fr} {s : S} {o : Option Val} (b : BD c) (h : valO stk s o = some c') (hl : stk.length + 1 + c.s.steps ≤ c.stk.length + c.now.sl + s.steps) (hs : 1 + c.s.steps ≤ c.now.sl + s.steps) (hsub : ∀ a, Fr.all a ∈ stk → Fr.all a ∈ c.stk) : BD c' := by
  cases o with
  | none => cases h
  | some v => cases h; exact b.same hl hs trivial hsub
theorem goodK.nil : goodK [] := ⟨List.nodup_nil, fun _ z => (by cases z)⟩
theorem bd_begin {c c' : Cfg} {w x : Str} {m : Nat} {bd : Tm} {e : Nv} {num : Val} {stk : List Fr} {s : S} (b : BD c) (h : beginC w x m bd e num stk s = some c') (hl : stk.length + 1 + c.s.steps ≤ c.stk.length + c.now.sl + s.steps) (hs : c.s.steps ≤ c.now.sl + s.steps) (hsub : ∀ a, Fr.all a ∈ stk → Fr.all a ∈ c.stk) : BD c' := by
  unfold beginC at h
  split at h
  · rename_i hc
    cases h
    refine ⟨?_, trivial, fun a ha => ?_⟩
    · have := b.st
      show stk.length + 1 + 0 ≤ s.steps
      omega
    · rcases List.mem_cons.mp ha with z | z
      · cases z
        exact ⟨Nat.zero_le _, Nat.zero_le _, goodK.nil, fun _ z => (by cases z), fun _ z => (by cases z), hc.2.1, hc.2.2, hc.1, Nat.succ_le_succ (Nat.zero_le _)⟩
      · exact (b.fr a (hsub a z)).le (by show c.s.steps + 0 ≤ s.steps + c.now.sl; omega)
  · cases h
theorem bd_goF {c c' : Cfg} {f v : Val} {stk : List Fr} {s : S} (b : BD c) (h : goF f v stk s = some c') (hl : stk.length + c.s.steps ≤ c.stk.length + c.now.sl + s.steps) (hs : c.s.steps ≤ c.now.sl + s.steps) (hsub : ∀ a, Fr.all a ∈ stk → Fr.all a ∈ c.stk) : BD c' := by
  cases f with
  | clo x bd e =>
    unfold goF at h
    dsimp only at h
    split at h
    · cases h
      exact b.same (by show stk.length + 0 + c.s.steps ≤ c.stk.length + c.now.sl + s.steps; omega) (by show 0 + c.s.steps ≤ c.now.sl + s.steps; omega) trivial hsub
    · cases h
  | _ => cases h
theorem bd_eval {c c' : Cfg} {t : Tm} {e : Nv} (b : BD c) (hn : c.now = .eval t e) (h : evalC t e c.stk ⟨c.s.steps + 1, c.s.marks⟩ = some c') : BD c' := by
  have h0 : c.now.sl = 0 := by rw [hn]; rfl
  have push : ∀ {t' : Tm} {e' : Nv} {f : Fr}, (∀ a, f ≠ .all a) → some (⟨.eval t' e', f :: c.stk, ⟨c.s.steps + 1, c.s.marks⟩⟩ : Cfg) = some c' → BD c' := fun hf h => by
    cases h
    exact b.same (by show c.stk.length + 1 + 0 + c.s.steps ≤ c.stk.length + c.now.sl + (c.s.steps + 1); omega) (by show 0 + c.s.steps ≤ c.now.sl + (c.s.steps + 1); omega) trivial fun a ha => by
      rcases List.mem_cons.mp ha with z | z
      · exact absurd z.symm (hf a)
      · exact z
  have val : ∀ {v : Val}, some (⟨.value v, c.stk, ⟨c.s.steps + 1, c.s.marks⟩⟩ : Cfg) = some c' → BD c' := fun h => by
    cases h
    exact b.same (by show c.stk.length + 1 + c.s.steps ≤ c.stk.length + c.now.sl + (c.s.steps + 1); omega) (by show 1 + c.s.steps ≤ c.now.sl + (c.s.steps + 1); omega) trivial fun a ha => ha
  cases t with
  | var x => exact bd_valO b h (by show c.stk.length + 1 + c.s.steps ≤ c.stk.length + c.now.sl + (c.s.steps + 1); omega) (by show 1 + c.s.steps ≤ c.now.sl + (c.s.steps + 1); omega) fun a ha => ha
  | lit n => exact val h
  | fn x bd => exact val h
  | row x bd => exact val h
  | qu w x m bd =>
    unfold evalC at h
    dsimp only at h
    split at h
    · cases h
    · exact bd_begin b h (by show c.stk.length + 1 + c.s.steps ≤ c.stk.length + c.now.sl + (c.s.steps + 1); omega) (by show c.s.steps ≤ c.now.sl + (c.s.steps + 1); omega) fun a ha => ha
  | prim op x y => exact push (fun a z => by cases z) h
  | as m x => exact push (fun a z => by cases z) h
  | count x => exact push (fun a z => by cases z) h
  | fst x => exact push (fun a z => by cases z) h
  | snd x => exact push (fun a z => by cases z) h
  | ite x y z => exact push (fun a z => by cases z) h
  | call x y => exact push (fun a z => by cases z) h
  | pair x y => exact push (fun a z => by cases z) h
  | rep x y z => exact push (fun a z => by cases z) h
  | idx x y => exact push (fun a z => by cases z) h
  | share x m y z => exact push (fun a z => by cases z) h
theorem bd_through {c : Cfg} {a : AF} {k : Kn} {ls : List Kn} {stk : List Fr} {s : S} (b : BD c) (ab : AB 0 s.steps { a with known := k, left := ls }) (hl : stk.length + 1 ≤ s.steps) (hs : c.s.steps ≤ c.now.sl + s.steps) (hsub : ∀ a, Fr.all a ∈ stk → Fr.all a ∈ c.stk) : BD (through a k ls stk s) := by
  refine ⟨hl, trivial, fun a' ha => ?_⟩
  rcases List.mem_cons.mp ha with z | z
  · cases z
    exact ab
  · exact (b.fr a' (hsub a' z)).le (by show c.s.steps + 0 ≤ s.steps + c.now.sl; omega)
theorem bd_value {c c' : Cfg} {v : Val} {f : Fr} {stk : List Fr} (b : BD c) (hn : c.now = .value v) (hk : c.stk = f :: stk) (h : give kn f v stk c.s = some c') : BD c' := by
  have h0 : c.now.sl = 1 := by rw [hn]; rfl
  have hl : c.stk.length = stk.length + 1 := by rw [hk]; rfl
  have hst := b.st
  have sub : ∀ a, Fr.all a ∈ stk → Fr.all a ∈ c.stk := fun a ha => by rw [hk]; exact List.mem_cons_of_mem _ ha
  have push : ∀ {t' : Tm} {e' : Nv} {f : Fr}, (∀ a, f ≠ .all a) → some (⟨.eval t' e', f :: stk, c.s⟩ : Cfg) = some c' → BD c' := fun hf h => by
    cases h
    exact b.same (by show stk.length + 1 + 0 + c.s.steps ≤ c.stk.length + c.now.sl + c.s.steps; omega) (by show 0 + c.s.steps ≤ c.now.sl + c.s.steps; omega) trivial fun a ha => by
      rcases List.mem_cons.mp ha with z | z
      · exact absurd z.symm (hf a)
      · exact sub a z
  have ev : ∀ {t' : Tm} {e' : Nv}, some (⟨.eval t' e', stk, c.s⟩ : Cfg) = some c' → BD c' := fun h => by
    cases h
    exact b.same (by show stk.length + 0 + c.s.steps ≤ c.stk.length + c.now.sl + c.s.steps; omega) (by show 0 + c.s.steps ≤ c.now.sl + c.s.steps; omega) trivial sub
  have vo : ∀ {o : Option Val}, valO stk c.s o = some c' → BD c' := fun h => bd_valO b h (by omega) (by omega) sub
  have val : ∀ {v : Val}, some (⟨.value v, stk, c.s⟩ : Cfg) = some c' → BD c' := fun h => vo (o := some _) h
  have goo : ∀ {f v : Val}, goF f v stk c.s = some c' → BD c' := fun h => bd_goF b h (by omega) (by omega) sub
  cases f with
  | prim op x e => exact push (fun a z => by cases z) h
  | prim2 op u => exact vo h
  | as m => exact vo h
  | count => exact vo h
  | fst => exact vo h
  | snd => exact vo h
  | ite x y e =>
    cases v with
    | int i => exact ev h
    | _ => cases h
  | rep x y e => exact push (fun a z => by cases z) h
  | rep2 n t e =>
    cases n with
    | int i =>
      unfold give at h
      dsimp only at h
      split at h
      · exact push (fun a z => by cases z) h
      · cases h
    | _ => cases h
  | turns n f =>
    cases n with
    | zero => exact val h
    | succ n =>
      refine bd_goF b h (by show stk.length + 1 + c.s.steps ≤ _; omega) (by omega) fun a ha => ?_
      rcases List.mem_cons.mp ha with z | z
      · cases z
      · exact sub a z
  | call x e => exact push (fun a z => by cases z) h
  | call2 f => exact goo h
  | pair x e => exact push (fun a z => by cases z) h
  | pair2 u => exact val h
  | idx x e => exact push (fun a z => by cases z) h
  | idx2 r =>
    have h : readC kn r v stk c.s = some c' := h
    unfold readC at h
    split at h
    · split at h
      · exact ev h
      · cases h
    · exact val h
    · split at h
      · rename_i hc
        split at h
        · cases h
        · split at h
          · exact val h
          · cases h
            exact b.same (by show stk.length + 1 + c.s.steps ≤ c.stk.length + c.now.sl + c.s.steps; omega) (by show 1 + c.s.steps ≤ c.now.sl + c.s.steps; omega) hc sub
      · cases h
    · split at h
      · rename_i hc
        split at h
        · exact val h
        · cases h
          exact b.same (by show stk.length + 1 + c.s.steps ≤ c.stk.length + c.now.sl + c.s.steps; omega) (by show 1 + c.s.steps ≤ c.now.sl + c.s.steps; omega) hc sub
      · cases h
    · cases h
  | share x m y n e => exact bd_begin b h (by omega) (by omega) sub
  | all a =>
    have ab := b.fr a (by rw [hk]; exact List.mem_cons_self)
    rw [h0] at ab
    have ke : ∀ i : Int, ∀ e ∈ a.ends ++ [(a.known, i)], goodK e.1 := fun i e he => by
      rcases List.mem_append.mp he with z | z
      · exact ab.ke e z
      · rw [List.mem_singleton.mp z]; exact ab.kn
    cases v with
    | int i =>
      unfold give at h
      dsimp only at h
      cases hlf : a.left with
      | nil => rw [hlf] at h; exact vo h
      | cons k ls =>
        rw [hlf] at h
        cases h
        have h1 := ab.left
        have h2 := ab.ends
        rw [hlf, List.length_cons] at h1
        refine bd_through b ⟨?_, ?_, ab.kl k (by rw [hlf]; exact List.mem_cons_self), fun k' hk' => ab.kl k' (by rw [hlf]; exact List.mem_cons_of_mem _ hk'), ke i, ab.m2, ab.m9, ab.el, ab.mk⟩ (by omega) (by omega) sub
        · show ls.length + 9 * 0 ≤ 9 * c.s.steps
          omega
        · show (a.ends ++ [(a.known, i)]).length + 0 ≤ c.s.steps
          rw [List.length_append, List.length_singleton]
          omega
    | _ => cases h
theorem unwind_mem {n : Nat} : ∀ {stk r : List Fr} {a : AF}, unwind n stk = some (a, r) → Fr.all a ∈ stk ∧ (∀ b, Fr.all b ∈ r → Fr.all b ∈ stk) ∧ r.length + 1 ≤ stk.length
  | [], _, _, h => by cases h
  | f :: stk, r, a, h => by
    have rest : unwind n stk = some (a, r) → Fr.all a ∈ f :: stk ∧ (∀ b, Fr.all b ∈ r → Fr.all b ∈ f :: stk) ∧ r.length + 1 ≤ (f :: stk).length := fun h => by
      obtain ⟨h1, h2, h3⟩ := unwind_mem h
      exact ⟨List.mem_cons_of_mem _ h1, fun b hb => List.mem_cons_of_mem _ (h2 b hb), by rw [List.length_cons]; omega⟩
    cases f with
    | all b =>
      unfold unwind at h
      split at h
      · cases h
        exact ⟨List.mem_cons_self, fun b hb => List.mem_cons_of_mem _ hb, Nat.le_refl _⟩
      · exact rest h
    | _ => exact rest h
theorem bd_stop {c c' : Cfg} {r : Val} {i : Int} (b : BD c) (hn : c.now = .stop r i) (h : stopC r i c.stk c.s = some c') : BD c' := by
  have h0 : c.now.sl = 1 := by rw [hn]; rfl
  have hok := b.ok
  rw [hn] at hok
  cases r with
  | gone n =>
    unfold stopC at h
    dsimp only at h
    cases hu : unwind (n + 1) c.stk with
    | none => rw [hu] at h; cases h
    | some p =>
      obtain ⟨a, r⟩ := p
      rw [hu] at h
      dsimp only at h
      obtain ⟨ha, hsub, hlen⟩ := unwind_mem hu
      have ab := b.fr a ha
      rw [h0] at ab
      cases hh : heirs a.m a.known i ++ a.left with
      | nil => rw [hh] at h; cases h
      | cons k ls =>
        rw [hh] at h
        dsimp only at h
        cases hl : look a.known i with
        | some z => rw [hl] at h; cases h
        | none =>
          rw [hl] at h
          cases h
          have all : ∀ k' ∈ k :: ls, goodK k' := fun k' hk' => by
            rw [← hh] at hk'
            rcases List.mem_append.mp hk' with z | z
            · unfold heirs at z
              obtain ⟨dd, _, rfl⟩ := List.mem_map.mp z
              exact ab.kn.snoc hok.1 hok.2 hl
            · exact ab.kl k' z
          have hlen2 : (heirs a.m a.known i ++ a.left).length = a.m + a.left.length := by
            rw [List.length_append]
            unfold heirs
            rw [List.length_map, List.length_range]
          rw [hh, List.length_cons] at hlen2
          have h1 := ab.left
          have h2 := ab.ends
          have h9 := ab.m9
          have hst := b.st
          refine bd_through b ⟨?_, ?_, all k List.mem_cons_self, fun k' hk' => all k' (List.mem_cons_of_mem _ hk'), ab.ke, ab.m2, ab.m9, ab.el, ab.mk⟩ (by omega) (by omega) hsub
          · show ls.length + 9 * 0 ≤ 9 * c.s.steps
            omega
          · show a.ends.length + 0 ≤ c.s.steps
            omega
  | _ => cases h
theorem bd_step {c c' : Cfg} (b : BD c) (h : cstep most kn c = some c') : BD c' := by
  unfold cstep at h
  cases hn : c.now with
  | eval t e =>
    rw [hn] at h
    dsimp only at h
    split at h
    · cases h
    · exact bd_eval b hn h
  | value v =>
    rw [hn] at h
    dsimp only at h
    cases hk : c.stk with
    | nil => rw [hk] at h; cases h
    | cons f stk => rw [hk] at h; exact bd_value b hn hk h
  | stop r i => rw [hn] at h; exact bd_stop b hn h
end
end KW
set_option Elab.async false
set_option linter.all false
set_option maxRecDepth 100000
set_option maxHeartbeats 4000000
/-! B1: the package's run in the heap; put, wait. -/
namespace KW
open PySem PySem.Spec PyProof.Rows L2 
section
variable {P : Program} {w : World} {K : PySem.W.Frag} {mg : Str → Option Value} {base : Heap}

/-- of the frames that hold no row -/
def FrAt (I : Hp) : Fr → V → Prop
  | .prim op b e, v => ∃ p vb d, v = .ref p ∧ I p = some (.tup [SS "prim", .str op, vb, .ref d]) ∧ TmAt I b vb ∧ NAt .pack I e d
  | .prim2 op u, v => ∃ p x, v = .ref p ∧ I p = some (.tup [SS "prim 2", .str op, x]) ∧ VAt .pack I u x
  | .as m, v => ∃ p, v = .ref p ∧ I p = some (.tup [SS "as", .int m])
  | .count, v => ∃ p, v = .ref p ∧ I p = some (.tup [SS "count"])
  | .fst, v => ∃ p, v = .ref p ∧ I p = some (.tup [SS "first"])
  | .snd, v => ∃ p, v = .ref p ∧ I p = some (.tup [SS "second"])
  | .ite a b e, v => ∃ p va vb d, v = .ref p ∧ I p = some (.tup [SS "if", va, vb, .ref d]) ∧ TmAt I a va ∧ TmAt I b vb ∧ NAt .pack I e d
  | .rep a b e, v => ∃ p va vb d, v = .ref p ∧ I p = some (.tup [SS "repeat", va, vb, .ref d]) ∧ TmAt I a va ∧ TmAt I b vb ∧ NAt .pack I e d
  | .rep2 n t e, v => ∃ p x vb d, v = .ref p ∧ I p = some (.tup [SS "repeat 2", x, vb, .ref d]) ∧ VAt .pack I n x ∧ TmAt I t vb ∧ NAt .pack I e d
  | .turns n f, v => ∃ p x, v = .ref p ∧ I p = some (.tup [SS "turns", .int (n : Int), x]) ∧ VAt .pack I f x
  | .call a e, v => ∃ p va d, v = .ref p ∧ I p = some (.tup [SS "call", va, .ref d]) ∧ TmAt I a va ∧ NAt .pack I e d
  | .call2 f, v => ∃ p x, v = .ref p ∧ I p = some (.tup [SS "call 2", x]) ∧ VAt .pack I f x
  | .pair a e, v => ∃ p va d, v = .ref p ∧ I p = some (.tup [SS "pair", va, .ref d]) ∧ TmAt I a va ∧ NAt .pack I e d
  | .pair2 f, v => ∃ p x, v = .ref p ∧ I p = some (.tup [SS "pair 2", x]) ∧ VAt .pack I f x
  | .idx a e, v => ∃ p va d, v = .ref p ∧ I p = some (.tup [SS "at", va, .ref d]) ∧ TmAt I a va ∧ NAt .pack I e d
  | .idx2 f, v => ∃ p x, v = .ref p ∧ I p = some (.tup [SS "at 2", x]) ∧ VAt .pack I f x
  | .share x m b n e, v => ∃ p tv d, v = .ref p ∧ I p = some (.tup [SS "share", tv, .ref d]) ∧ TmAt I (.share x m b n) tv ∧ NAt .pack I e d
  | .all _, _ => False
def afK (tv ev nv : V) (mk : Nat) (bv kd lf en : V) : List (Key × V) :=
  [(.inr "term", tv), (.inr "env", ev), (.inr "number", nv), (.inr "mark", .int (mk : Int)), (.inr "body", bv), (.inr "known", kd), (.inr "left", lf), (.inr "ends", en), (.inr "game", .non)]
def TermOf (I : Hp) (a : AF) (tv nv bv : V) : Prop := (a.w ∈ ([("some" : Str), "every", "least", "greatest", "find"] : List Str) ∧ ∃ p, tv = .ref p ∧ I p = some (.tup [.str a.w, .str a.x, .int (a.m : Int), bv])) ∨
  (a.w = "share" ∧ VAt .pack I a.num nv ∧ ∃ p vn, tv = .ref p ∧ I p = some (.tup [SS "share", .str a.x, .int (a.m : Int), bv, vn]))
structure AF.Is (I : Hp) (a : AF) (fd lf en : Addr) (kvs : List (Key × V)) (ls us : List V) : Prop where
  ex : ∃ tv ed nv bv kd rs, kvs = afK tv (.ref ed) nv a.mark bv (.ref kd) (.ref lf) (.ref en) ∧ ls = (rs.map V.ref).reverse ∧ TermOf I a tv nv bv ∧ NAt .pack I a.env ed ∧ TmAt I a.b bv ∧ KnR I a.known kd ∧ Paired (KnR I) a.left rs ∧ EndsAt .pack I a.ends us
theorem FrAt.mono {I I' : Hp} (h : Same I I') : ∀ {f : Fr} {v : V}, FrAt I f v → FrAt I' f v
  | .prim _ _ _, _, ⟨p, vb, d, e, g, t, n⟩ => ⟨p, vb, d, e, h _ _ g, t.mono h, n.mono h⟩
  | .prim2 _ _, _, ⟨p, x, e, g, u⟩ => ⟨p, x, e, h _ _ g, u.mono h⟩
  | .as _, _, ⟨p, e, g⟩ => ⟨p, e, h _ _ g⟩
  | .count, _, ⟨p, e, g⟩ => ⟨p, e, h _ _ g⟩
  | .fst, _, ⟨p, e, g⟩ => ⟨p, e, h _ _ g⟩
  | .snd, _, ⟨p, e, g⟩ => ⟨p, e, h _ _ g⟩
  | .ite _ _ _, _, ⟨p, va, vb, d, e, g, t, t2, n⟩ => ⟨p, va, vb, d, e, h _ _ g, t.mono h, t2.mono h, n.mono h⟩
  | .rep _ _ _, _, ⟨p, va, vb, d, e, g, t, t2, n⟩ => ⟨p, va, vb, d, e, h _ _ g, t.mono h, t2.mono h, n.mono h⟩
  | .rep2 _ _ _, _, ⟨p, va, vb, d, e, g, t, t2, n⟩ => ⟨p, va, vb, d, e, h _ _ g, t.mono h, t2.mono h, n.mono h⟩
  | .turns _ _, _, ⟨p, x, e, g, u⟩ => ⟨p, x, e, h _ _ g, u.mono h⟩
  | .call _ _, _, ⟨p, vb, d, e, g, t, n⟩ => ⟨p, vb, d, e, h _ _ g, t.mono h, n.mono h⟩
  | .call2 _, _, ⟨p, x, e, g, u⟩ => ⟨p, x, e, h _ _ g, u.mono h⟩
  | .pair _ _, _, ⟨p, vb, d, e, g, t, n⟩ => ⟨p, vb, d, e, h _ _ g, t.mono h, n.mono h⟩
  | .pair2 _, _, ⟨p, x, e, g, u⟩ => ⟨p, x, e, h _ _ g, u.mono h⟩
  | .idx _ _, _, ⟨p, vb, d, e, g, t, n⟩ => ⟨p, vb, d, e, h _ _ g, t.mono h, n.mono h⟩
  | .idx2 _, _, ⟨p, x, e, g, u⟩ => ⟨p, x, e, h _ _ g, u.mono h⟩
  | .share _ _ _ _ _, _, ⟨p, vb, d, e, g, t, n⟩ => ⟨p, vb, d, e, h _ _ g, t.mono h, n.mono h⟩
theorem TermOf.mono {I I' : Hp} (h : Same I I') {a : AF} {tv nv bv : V} : TermOf I a tv nv bv → TermOf I' a tv nv bv
  | .inl ⟨x, p, e, g⟩ => .inl ⟨x, p, e, h _ _ g⟩
  | .inr ⟨x, u, p, vn, e, g⟩ => .inr ⟨x, u.mono h, p, vn, e, h _ _ g⟩
theorem AF.Is.mono {I I' : Hp} (h : Same I I') {a : AF} {fd lf en : Addr} {kvs : List (Key × V)} {ls us : List V} (x : AF.Is I a fd lf en kvs ls us) : AF.Is I' a fd lf en kvs ls us := by
  obtain ⟨tv, ed, nv, bv, kd, rs, e1, e2, h1, h2, h3, h4, h5, h6⟩ := x.ex
  exact ⟨⟨tv, ed, nv, bv, kd, rs, e1, e2, h1.mono h, h2.mono h, h3.mono h, h _ _ h4, Paired.mapP h5 fun k a z => h _ _ z, h6.mono h⟩⟩
/-- the stack, the top first; what its frames of rows may change -/
def SR (I : Hp) : List Fr → List V → List (Addr × HO) → Prop
  | [], vs, M => vs = [] ∧ M = []
  | f :: r, vs, M => ∃ v vs', vs = v :: vs' ∧ match f with
    | .all a => ∃ p fd lf en kvs ls us M', v = .ref p ∧ I p = some (.tup [SS "all", .ref fd]) ∧ M = [(fd, .dK kvs), (lf, .lst ls), (en, .lst us)] ++ M' ∧ AF.Is I a fd lf en kvs ls us ∧ SR I r vs' M'
    | f => FrAt I f v ∧ SR I r vs' M
theorem SR.mono {I I' : Hp} (h : Same I I') : ∀ {stk : List Fr} {vs : List V} {M : List (Addr × HO)}, SR I stk vs M → SR I' stk vs M
  | [], _, _, e => e
  | f :: r, vs, M, ⟨v, vs', e, q⟩ => ⟨v, vs', e, by
    cases f with
    | all a =>
      obtain ⟨p, fd, lf, en, kvs, ls, us, M', e1, g, e2, x, s⟩ := q
      exact ⟨p, fd, lf, en, kvs, ls, us, M', e1, h _ _ g, e2, x.mono h, s.mono h⟩
    | _ => exact ⟨q.1.mono h, q.2.mono h⟩⟩
theorem SR.len {I : Hp} : ∀ {stk : List Fr} {vs : List V} {M : List (Addr × HO)}, SR I stk vs M → vs.length = stk.length
  | [], _, _, e => by rw [e.1]; rfl
  | f :: r, vs, M, ⟨v, vs', e, q⟩ => by
    rw [e, List.length_cons, List.length_cons]
    cases f with
    | all a =>
      obtain ⟨p, fd, lf, en, kvs, ls, us, M', e1, g, e2, x, s⟩ := q
      rw [SR.len s]
    | _ => rw [SR.len q.2]
def runK (nw sk en rd : V) (steps : Nat) (most : Nat) (marks : Nat) : List (Key × V) :=
  [(.inr "now", nw), (.inr "stack", sk), (.inr "entries", en), (.inr "read", rd), (.inr "steps", .int (steps : Int)), (.inr "most", .int (most : Int)), (.inr "marks", .int (marks : Int))]
section
variable {nw sk en rd x : V} {steps most marks n : Nat}
theorem rk_now : valV (runK nw sk en rd steps most marks) (.inr "now") = some nw := by kernel_rfl
theorem rk_stack : valV (runK nw sk en rd steps most marks) (.inr "stack") = some sk := by kernel_rfl
theorem rk_entries : valV (runK nw sk en rd steps most marks) (.inr "entries") = some en := by kernel_rfl
theorem rk_read : valV (runK nw sk en rd steps most marks) (.inr "read") = some rd := by kernel_rfl
theorem rk_steps : valV (runK nw sk en rd steps most marks) (.inr "steps") = some (.int (steps : Int)) := by kernel_rfl
theorem rk_most : valV (runK nw sk en rd steps most marks) (.inr "most") = some (.int (most : Int)) := by kernel_rfl
theorem rk_marks : valV (runK nw sk en rd steps most marks) (.inr "marks") = some (.int (marks : Int)) := by kernel_rfl
theorem rp_now : putK (runK nw sk en rd steps most marks) (.inr "now") x = runK x sk en rd steps most marks := by kernel_rfl
theorem rp_steps : putK (runK nw sk en rd steps most marks) (.inr "steps") (.int (n : Int)) = runK nw sk en rd n most marks := by kernel_rfl
theorem rp_marks : putK (runK nw sk en rd steps most marks) (.inr "marks") (.int (n : Int)) = runK nw sk en rd steps most n := by kernel_rfl
theorem rk_len : (runK nw sk en rd steps most marks).length < sizeLine := by show 7 < sizeLine; decide
end
section
variable {tv ev nv bv kd lf en x : V} {mk : Nat}
theorem ak_term : valV (afK tv ev nv mk bv kd lf en) (.inr "term") = some tv := by kernel_rfl
theorem ak_env : valV (afK tv ev nv mk bv kd lf en) (.inr "env") = some ev := by kernel_rfl
theorem ak_number : valV (afK tv ev nv mk bv kd lf en) (.inr "number") = some nv := by kernel_rfl
theorem ak_mark : valV (afK tv ev nv mk bv kd lf en) (.inr "mark") = some (.int (mk : Int)) := by kernel_rfl
theorem ak_body : valV (afK tv ev nv mk bv kd lf en) (.inr "body") = some bv := by kernel_rfl
theorem ak_known : valV (afK tv ev nv mk bv kd lf en) (.inr "known") = some kd := by kernel_rfl
theorem ak_left : valV (afK tv ev nv mk bv kd lf en) (.inr "left") = some lf := by kernel_rfl
theorem ak_ends : valV (afK tv ev nv mk bv kd lf en) (.inr "ends") = some en := by kernel_rfl
theorem ak_game : valV (afK tv ev nv mk bv kd lf en) (.inr "game") = some .non := by kernel_rfl
theorem ap_known : putK (afK tv ev nv mk bv kd lf en) (.inr "known") x = afK tv ev nv mk bv x lf en := by kernel_rfl
theorem ak_len : (afK tv ev nv mk bv kd lf en).length < sizeLine := by show 9 < sizeLine; decide
end
def PlAt (I : Hp) (pl : Pl) (v : V) : Prop := ∃ p, v = .ref p ∧ I p = some (.tup ((plK pl).map kV))
structure Rds (I : Hp) (kn : KnP) (rs : List V) : Prop where
  ex : ∃ pls : List Pl, Paired (PlAt I) pls rs ∧ pls.Nodup ∧ ∀ p ∈ pls, p ∈ kn.map (·.1)
theorem Rds.mono {I I' : Hp} {kn : KnP} {rs : List V} (h : Same I I') (x : Rds I kn rs) : Rds I' kn rs := by
  obtain ⟨pls, a, b, c⟩ := x.ex
  exact ⟨⟨pls, Paired.mapP a fun pl v ⟨p, e, g⟩ => ⟨p, e, h _ _ g⟩, b, c⟩⟩
theorem Rds.len {I : Hp} {kn : KnP} {rs : List V} (x : Rds I kn rs) : rs.length ≤ kn.length := by
  obtain ⟨pls, a, b, c⟩ := x.ex
  rw [← Paired.length a]
  have := b.length_le_of_subset c
  rwa [List.length_map] at this
/-- what a run may change: the dict, the stack, the places read -/
def cM (r sk rd ka : Addr) (nv : V) (vs rs : List V) (s : S) (most : Nat) : List (Addr × HO) :=
  [(r, .dK (runK nv (.ref sk) (.ref ka) (.ref rd) s.steps most s.marks)), (sk, .lst vs.reverse), (rd, .lst rs)]
structure RS (I : Hp) (r ka : Addr) (kn : KnP) (most : Nat) (nv : V) (stk : List Fr) (s : S) (M : List (Addr × HO)) : Prop where
  ex : ∃ sk rd vs rs M2, M = cM r sk rd ka nv vs rs s most ++ M2 ∧ SR I stk vs M2 ∧ Rds I kn rs ∧ I ka = some (.dT (knPK kn))
def NowAt (I : Hp) : Now → V → Prop
  | .eval t e, v => ∃ p tv d, v = .ref p ∧ I p = some (.tup [SS "eval", tv, .ref d]) ∧ TmAt I t tv ∧ NAt .pack I e d
  | .value u, v => ∃ p x, v = .ref p ∧ I p = some (.tup [SS "value", x]) ∧ VAt .pack I u x
  | .stop u i, v => ∃ p x, v = .ref p ∧ I p = some (.tup [SS "stop", x, .int i]) ∧ VAt .pack I u x
def RR (I : Hp) (r ka : Addr) (kn : KnP) (most : Nat) (c : Cfg) (M : List (Addr × HO)) : Prop := ∃ nv, RS I r ka kn most nv c.stk c.s M ∧ NowAt I c.now nv
def SPost (I H : Hp) (r ka : Addr) (kn : KnP) (most : Nat) (M : List (Addr × HO)) (Q : VK) (x : V) : Option Cfg → Prop
  | none => False
  | some c => ∀ I' H' M', W (M.map (·.1)) I H I' M' H' → RR I' r ka kn most c M' → Q x H'
theorem SPost.from {I H I1 H1 : Hp} {r ka : Addr} {kn : KnP} {most : Nat} {M M1 : List (Addr × HO)} {Q : VK} {x : V} {o : Option Cfg} (h : SPost I H r ka kn most M Q x o) (w : W (M.map (·.1)) I H I1 M1 H1) : SPost I1 H1 r ka kn most M1 Q x o := by
  cases o with
  | none => exact h
  | some c => exact fun I' H' M' c => h I' H' M' (w.callG c)
/-- the common start -/
structure SPre (I H : Hp) (r ka : Addr) (kn : KnP) (most : Nat) (nv : V) (stk : List Fr) (s : S) (M : List (Addr × HO)) : Prop where
  hs : HS I M H
  rs : RS I r ka kn most nv stk s M
  gk : kn.length ≤ 12
  st : stk.length ≤ s.steps
  sm : s.steps ≤ most
  mo : most ≤ MOST
def spWait : Sp := fun vs H Q _ => ∃ I r ka kn most nv stk s M fv tv e f t env, vs = [.ref r, fv, tv, .ref e] ∧ SPre I H r ka kn most nv stk s M ∧ FrAt I f fv ∧ TmAt I t tv ∧ NAt .pack I env e ∧
  SPost I H r ka kn most M Q .non (some ⟨.eval t env, f :: stk, s⟩)
theorem SR.push {I : Hp} {f : Fr} {v : V} {stk : List Fr} {vs : List V} {M : List (Addr × HO)} (h : FrAt I f v) (s : SR I stk vs M) : SR I (f :: stk) (v :: vs) M := ⟨v, vs, rfl, by
  cases f with
  | all a => exact h.elim
  | _ => exact ⟨h, s⟩⟩
abbrev N_put : List Str := ["env", "name", "value", "found"]
theorem sc_put : FnScope N_put ["env", "name", "value"] (defScope (top 25)) := fnScope_ok (by decide +kernel)
theorem ok_putP (D : DefAt K mg "put" 25) (T : Txt K mg) : Cl P w K mg base 1 "put" spPut := by
  refine cl_mk (i := 25) (N := N_put) (ps := ["env", "name", "value"]) D sc_put (fun _ _ _ _ _ _ us hl => match us, hl with | [_, _, _], _ => rfl) ?_ ?_
  · rintro vs H Q E ⟨d, kvs, k, v, rfl, _⟩
    rfl
  rintro f0 cdv A outer s0 H vs Q E hr ⟨d, kvs, k, v, rfl, hd, hl, q⟩
  refine ⟨_, (pss_cons (ps_set (i := 3) sc_put.nd rfl (Or.inl rfl) (pe_callTy call_dictD (by rfl) T.dict (by decide +kernel) (pa_cons (pv 0) pa_nil))) (pss_cons (ps_dput (hu_of hr) (pv 3) (pv 1) (pv 2) rfl) (pss_one (ps_ret (pv 3))))), ?_⟩
  refine ⟨_, rfl, d, kvs, rfl, .inl hd, fun p hp => ?_⟩
  refine ⟨_, rfl, _, rfl, _, rfl, p, _, rfl, DPut.k upd_same hl, _, rfl, ?_⟩
  rw [upd_upd]
  exact q p hp
abbrev N_wait : List Str := ["run", "frame", "term", "env"]
theorem sc_wait : FnScope N_wait ["run", "frame", "term", "env"] (defScope (top 29)) := fnScope_ok (by decide +kernel)
theorem ok_wait (D : DefAt K mg "wait" 29) (T : Txt K mg) : Cl P w K mg base 1 "wait" spWait := by
  refine cl_mk (i := 29) (N := N_wait) (ps := ["run", "frame", "term", "env"]) D sc_wait (fun _ _ _ _ _ _ us hl => match us, hl with | [_, _, _, _], _ => rfl) ?_ ?_
  · rintro vs H Q E ⟨I, r, ka, kn, most, nv, stk, s, M, fv, tv, e, f, t, env, rfl, _⟩
    rfl
  rintro f0 cdv A outer s0 H vs Q E hr ⟨I, r, ka, kn, most, nv, stk, s, M, fv, tv, e, f, t, env, rfl, pre, hf, ht, hen, post⟩
  refine ⟨_, (pss_cons (ps_expr (pe_bm PySem.F.plainAttrs_list PySem.F.slot_list_append PySem.F.type_list_append mt_append (pe_dget (hu_of hr) (pv 0) pe_str (fun _ _ => rfl)) (pa_cons (pv 1) pa_nil))) (pss_one (ps_dput (hu_of hr) (pv 0) pe_str (pe_tup (pa_cons pe_str (pa_cons (pv 2) (pa_cons (pv 3) pa_nil)))) rfl))), ?_⟩
  obtain ⟨sk, rd, vs, rs, M2, rfl, hsr, hrd, hka⟩ := pre.rs.ex
  have w0 := W.start pre.hs
  have hvl := hsr.len
  refine ⟨_, rfl, r, _, rfl, DG (w0.get (i := 0) rfl) rk_stack, .inl ⟨rfl, _, SqL.of (w0.get (i := 1) rfl)⟩, _, rfl, sk, _, _, rfl, rfl, w0.get (i := 1) rfl, ?_, ?_⟩
  · rw [List.length_reverse, hvl]
    have := pre.st
    have := pre.sm
    have := pre.mo
    unfold MOST at *
    exact small (by omega)
  have w1 := w0.set (i := 1) rfl (.lst (vs.reverse ++ [fv]))
  refine ⟨_, rfl, _, rfl, (by show 3 ≤ sizeLine; decide), fun p hp => ?_⟩
  have w2 := w1.newI hp (.tup [SS "eval", tv, .ref e])
  have u2 := w1.upI hp (.tup [SS "eval", tv, .ref e])
  refine ⟨_, rfl, r, _, rfl, DP (w2.get (i := 0) rfl) rp_now rk_len, ?_⟩
  have w3 := w2.set (i := 0) rfl (.dK (runK (.ref p) (.ref sk) (.ref ka) (.ref rd) s.steps most s.marks))
  refine post _ _ (cM r sk rd ka (.ref p) (fv :: vs) rs s most ++ M2) ?_ ⟨.ref p, ⟨sk, rd, fv :: vs, rs, M2, rfl, (hsr.mono u2).push (hf.mono u2), hrd.mono u2, u2 _ _ hka⟩, p, tv, e, rfl, upd_same, ht.mono u2, hen.mono u2⟩
  have e1 : (fv :: vs).reverse = vs.reverse ++ [fv] := List.reverse_cons
  unfold cM
  rw [e1]
  exact w3
end
end KW
set_option Elab.async false
set_option linter.all false
set_option maxRecDepth 100000
set_option maxHeartbeats 4000000
/-! B2: what a waiting frame is given. -/
namespace KW
open PySem PySem.Spec PyProof.Rows L2 
section
variable {P : Program} {w : World} {K : PySem.W.Frag} {mg : Str → Option Value} {base : Heap}

/-- a call of what an expression gives -/
def tCallE (P : Program) (w : World) (K : PySem.W.Frag) (mg : Str → Option Value) (base : Heap) (k : Nat) (tf : TE) (t : TA) : TE := fun σ H Q => tf σ H fun x H1 => ∃ (f : Addr) (sp : Sp), x = .ref f ∧ C8.CalAt P w K mg base k f sp ∧ t σ H1 fun vs H2 => sp vs H2 Q E0
end
section
variable {X : Cx} {k j : Nat} {p pos : Pos} {a b e : Expr} {es : List Expr} {tf : TE} {t : TA}
theorem pe_callE (hr : Room j X.A) (hk : k ≤ j) (hf : PE X (.Subscript a b p) tf) (ha : PA X (e :: es) t)
    (he : starEach (e :: es) X.env = (false, eval e X.env) :: starEach es X.env := by rfl) (hpl : (backTo pos (starEach es X.env)).any (·.1) = false := by rfl) :
    PE X (.Call (.Subscript a b p) (e :: es) [] pos) (tCallE X.prog X.w X.K X.mg X.base k tf t) := by
  refine ⟨fun pins s σ H Q I h => ?_⟩
  show wpAny _ _ (do callWith pos (← eval (.Subscript a b p) X.env) [] (backTo pos (starEach (e :: es) X.env)) (backToKw pos (keywordEach [] X.env))) _ _ _
  refine wpAny_bind (thn (hf.run pins s σ H _ I h) fun u s1 ⟨v, H1, I1, r1, q1⟩ => ?_)
  obtain ⟨f, sp, rfl, c, ht⟩ := q1
  cases r1
  obtain ⟨fd, ps, F, kp, b⟩ := c.ex
  refine PySem.W.callWith_K (h₀ := X.base) I.ok.mod.kin kp (thn (ha.run pos pins s1 σ _ _ I1 ht) fun us s2 ⟨vs, H2, I2, r, q⟩ => ⟨I2.kIn, ?_⟩) he hpl
  exact run_fn F (hr.mono hk) b .nil pass0 I2 r (by rw [List.append_nil]; exact q)
end
section
variable {P : Program} {w : World} {K : PySem.W.Frag} {mg : Str → Option Value} {base : Heap}
theorem Cl.at {k : Nat} {x : Str} {sp : Sp} {f : Addr} (c : Cl P w K mg base k x sp) (h : mg x = some (.ref f)) : C8.CalAt P w K mg base k f sp := by
  obtain ⟨f', fd, ps, F, hm, kp, b⟩ := c.ex
  rw [hm] at h
  cases h
  exact ⟨⟨fd, ps, F, kp, b⟩⟩
theorem SPre.step {I H I' H' : Hp} {r ka : Addr} {kn : KnP} {most : Nat} {nv : V} {stk : List Fr} {s : S} {M : List (Addr × HO)} {A : List Addr} {I0 H0 : Hp} (pre : SPre I H r ka kn most nv stk s M) (w : W A I0 H0 I' M H') (sm : Same I I') : SPre I' H' r ka kn most nv stk s M := by
  obtain ⟨sk, rd, vs, rs, M2, e, hsr, hrd, hka⟩ := pre.rs.ex
  exact ⟨w.hs, ⟨sk, rd, vs, rs, M2, e, hsr.mono sm, hrd.mono sm, sm _ _ hka⟩, pre.gk, pre.st, pre.sm, pre.mo⟩
def spGive (C : Fr → Prop) : Sp := fun vs H Q _ => ∃ I r ka kn most nv stk s M fv vv f v, vs = [.ref r, fv, vv] ∧ SPre I H r ka kn most nv stk s M ∧ stk.length + 1 ≤ s.steps ∧ FrAt I f fv ∧ VAt .pack I v vv ∧ C f ∧
  SPost I H r ka kn most M Q .non (give kn f v stk s)
theorem RS.mono {I I' : Hp} {r ka : Addr} {kn : KnP} {most : Nat} {nv : V} {stk : List Fr} {s : S} {M : List (Addr × HO)} (h : Same I I') (x : RS I r ka kn most nv stk s M) : RS I' r ka kn most nv stk s M := by
  obtain ⟨sk, rd, vs, rs, M2, e, hsr, hrd, hka⟩ := x.ex
  exact ⟨⟨sk, rd, vs, rs, M2, e, hsr.mono h, hrd.mono h, h _ _ hka⟩⟩
/-- a run whose "now" is set: the last statement of many defs -/
theorem now_end2 {I H I1 H1 : Hp} {r ka : Addr} {kn : KnP} {most : Nat} {nv nv' : V} {stk : List Fr} {s : S} {M M1 : List (Addr × HO)} {now : Now} {Q : VK} {x : V}
    (rs0 : RS I1 r ka kn most nv stk s M1) (w : W (M.map (·.1)) I H I1 M1 H1) (hn : NowAt I1 now nv') (post : SPost I H r ka kn most M Q x (some ⟨now, stk, s⟩)) :
    ∃ H2, DPut H1 r (.str "now") nv' H2 ∧ Q x H2 := by
  obtain ⟨sk, rd, vs, rs, M2, rfl, hsr, hrd, hka⟩ := rs0.ex
  refine ⟨_, DP (w.get (i := 0) rfl) rp_now rk_len, ?_⟩
  have w3 := w.set (i := 0) rfl (.dK (runK nv' (.ref sk) (.ref ka) (.ref rd) s.steps most s.marks))
  exact post _ _ (cM r sk rd ka nv' vs rs s most ++ M2) w3 ⟨nv', ⟨sk, rd, vs, rs, M2, rfl, hsr, hrd, hka⟩, hn⟩
theorem now_end {I H I1 H1 : Hp} {r ka : Addr} {kn : KnP} {most : Nat} {nv nv' : V} {stk : List Fr} {s : S} {M : List (Addr × HO)} {now : Now} {Q : VK} {x : V}
    (rs0 : RS I r ka kn most nv stk s M) (w : W (M.map (·.1)) I H I1 M H1) (hn : NowAt I1 now nv') (post : SPost I H r ka kn most M Q x (some ⟨now, stk, s⟩)) :
    ∃ H2, DPut H1 r (.str "now") nv' H2 ∧ Q x H2 := now_end2 (rs0.mono w.st.same) w hn post
/-- a frame pushed -/
theorem W.push {A : List Addr} {I0 H0 I H : Hp} {r sk rd ka : Addr} {nv : V} {vs rs : List V} {s : S} {most : Nat} {M2 : List (Addr × HO)} (w : W A I0 H0 I (cM r sk rd ka nv vs rs s most ++ M2) H) (fv : V) :
    W A I0 H0 I (cM r sk rd ka nv (fv :: vs) rs s most ++ M2) (upd H sk (.lst (vs.reverse ++ [fv]))) := by
  have w1 := w.set (i := 1) rfl (.lst (vs.reverse ++ [fv]))
  have e1 : (fv :: vs).reverse = vs.reverse ++ [fv] := List.reverse_cons
  unfold cM
  rw [e1]
  exact w1
theorem SPre.stl {I H : Hp} {r ka : Addr} {kn : KnP} {most : Nat} {nv : V} {stk : List Fr} {s : S} {M : List (Addr × HO)} (pre : SPre I H r ka kn most nv stk s M) {vs : List V} (h : vs.length = stk.length) : vs.reverse.length < sizeLine := by
  rw [List.length_reverse, h]
  have := pre.st
  have := pre.sm
  have := pre.mo
  unfold MOST at *
  exact small (by omega)
abbrev N_give_prim : List Str := ["run", "frame", "value"]
theorem sc_give_prim : FnScope N_give_prim ["run", "frame", "value"] (defScope (top 32)) := fnScope_ok (by decide +kernel)
theorem ok_give_prim (D : DefAt K mg "give_prim" 32) (T : Txt K mg) (c_wait : Cl P w K mg base 1 "wait" spWait) : Cl P w K mg base 2 "give_prim" (spGive fun f => ∃ op b e, f = .prim op b e) := by
  refine cl_mk (i := 32) (N := N_give_prim) (ps := ["run", "frame", "value"]) D sc_give_prim (fun _ _ _ _ _ _ us hl => match us, hl with | [_, _, _], _ => rfl) ?_ ?_
  · rintro vs H Q E ⟨I, r, ka, kn, most, nv, stk, s, M, fv, vv, f, v, rfl, _⟩
    rfl
  rintro f0 cdv A outer s0 H vs Q E hr ⟨I, r, ka, kn, most, nv, stk, s, M, fv, vv, f, v, rfl, pre, hst, hf, hv, hc, post⟩
  refine ⟨_, (pss_one (ps_expr (pe_cl c_wait hr (by omega) rfl (pa_cons (pv 0) (pa_cons (pe_tup (pa_cons pe_str (pa_cons (pe_ix ix_tup (pv 1) pe_int (fun _ _ => rfl)) (pa_cons (pv 2) pa_nil)))) (pa_cons (pe_ix ix_tup (pv 1) pe_int (fun _ _ => rfl)) (pa_cons (pe_ix ix_tup (pv 1) pe_int (fun _ _ => rfl)) pa_nil))))))), ?_⟩
  obtain ⟨op, b, e, rfl⟩ := hc
  obtain ⟨p, vb, d, rfl, hp, ht, hn⟩ := hf
  have w0 := W.start pre.hs
  refine ⟨_, rfl, _, rfl, p, _, _, _, rfl, rfl, SqT.of (w0.i hp), rfl, _, rfl, (by show 3 ≤ sizeLine; decide), fun n hnn => ?_⟩
  have w1 := w0.newI hnn (.tup [SS "prim 2", .str op, vv])
  have u1 := w0.upI hnn (.tup [SS "prim 2", .str op, vv])
  have hp := u1 _ _ hp
  refine ⟨_, rfl, p, _, _, _, rfl, rfl, SqT.of (w1.i hp), rfl, _, rfl, p, _, _, _, rfl, rfl, SqT.of (w1.i hp), rfl, ?_⟩
  exact ⟨_, r, ka, kn, most, nv, stk, s, M, .ref n, vb, d, .prim2 op v, b, e, rfl, pre.step w1 u1, ⟨n, vv, rfl, upd_same, hv.mono u1⟩, ht.mono u1, hn.mono u1, post.from w1⟩
abbrev N_give_repeat : List Str := ["run", "frame", "value"]
theorem sc_give_repeat : FnScope N_give_repeat ["run", "frame", "value"] (defScope (top 37)) := fnScope_ok (by decide +kernel)
theorem ok_give_repeat (D : DefAt K mg "give_repeat" 37) (T : Txt K mg) (c_wait : Cl P w K mg base 1 "wait" spWait) : Cl P w K mg base 2 "give_repeat" (spGive fun f => ∃ a b e, f = .rep a b e) := by
  refine cl_mk (i := 37) (N := N_give_repeat) (ps := ["run", "frame", "value"]) D sc_give_repeat (fun _ _ _ _ _ _ us hl => match us, hl with | [_, _, _], _ => rfl) ?_ ?_
  · rintro vs H Q E ⟨I, r, ka, kn, most, nv, stk, s, M, fv, vv, f, v, rfl, _⟩
    rfl
  rintro f0 cdv A outer s0 H vs Q E hr ⟨I, r, ka, kn, most, nv, stk, s, M, fv, vv, f, v, rfl, pre, hst, hf, hv, hc, post⟩
  refine ⟨_, (pss_one (ps_expr (pe_cl c_wait hr (by omega) rfl (pa_cons (pv 0) (pa_cons (pe_tup (pa_cons pe_str (pa_cons (pv 2) (pa_cons (pe_ix ix_tup (pv 1) pe_int (fun _ _ => rfl)) (pa_cons (pe_ix ix_tup (pv 1) pe_int (fun _ _ => rfl)) pa_nil))))) (pa_cons (pe_ix ix_tup (pv 1) pe_int (fun _ _ => rfl)) (pa_cons (pe_ix ix_tup (pv 1) pe_int (fun _ _ => rfl)) pa_nil))))))), ?_⟩
  obtain ⟨a, b, e, rfl⟩ := hc
  obtain ⟨p, va, vb, d, rfl, hp, hta, ht, hn⟩ := hf
  have w0 := W.start pre.hs
  refine ⟨_, rfl, _, rfl, _, rfl, p, _, _, _, rfl, rfl, SqT.of (w0.i hp), rfl, _, rfl, p, _, _, _, rfl, rfl, SqT.of (w0.i hp), rfl, (by show 4 ≤ sizeLine; decide), fun n hnn => ?_⟩
  have w1 := w0.newI hnn (.tup [SS "repeat 2", vv, vb, .ref d])
  have u1 := w0.upI hnn (.tup [SS "repeat 2", vv, vb, .ref d])
  have hp := u1 _ _ hp
  refine ⟨_, rfl, p, _, _, _, rfl, rfl, SqT.of (w1.i hp), rfl, _, rfl, p, _, _, _, rfl, rfl, SqT.of (w1.i hp), rfl, ?_⟩
  exact ⟨_, r, ka, kn, most, nv, stk, s, M, .ref n, va, d, .rep2 v b e, a, e, rfl, pre.step w1 u1, ⟨n, vv, vb, d, rfl, upd_same, hv.mono u1, ht.mono u1, hn.mono u1⟩, hta.mono u1, hn.mono u1, post.from w1⟩
abbrev N_give_call : List Str := ["run", "frame", "value"]
theorem sc_give_call : FnScope N_give_call ["run", "frame", "value"] (defScope (top 40)) := fnScope_ok (by decide +kernel)
theorem ok_give_call (D : DefAt K mg "give_call" 40) (T : Txt K mg) (c_wait : Cl P w K mg base 1 "wait" spWait) : Cl P w K mg base 2 "give_call" (spGive fun f => ∃ a e, f = .call a e) := by
  refine cl_mk (i := 40) (N := N_give_call) (ps := ["run", "frame", "value"]) D sc_give_call (fun _ _ _ _ _ _ us hl => match us, hl with | [_, _, _], _ => rfl) ?_ ?_
  · rintro vs H Q E ⟨I, r, ka, kn, most, nv, stk, s, M, fv, vv, f, v, rfl, _⟩
    rfl
  rintro f0 cdv A outer s0 H vs Q E hr ⟨I, r, ka, kn, most, nv, stk, s, M, fv, vv, f, v, rfl, pre, hst, hf, hv, hc, post⟩
  refine ⟨_, (pss_one (ps_expr (pe_cl c_wait hr (by omega) rfl (pa_cons (pv 0) (pa_cons (pe_tup (pa_cons pe_str (pa_cons (pv 2) pa_nil))) (pa_cons (pe_ix ix_tup (pv 1) pe_int (fun _ _ => rfl)) (pa_cons (pe_ix ix_tup (pv 1) pe_int (fun _ _ => rfl)) pa_nil))))))), ?_⟩
  obtain ⟨a, e, rfl⟩ := hc
  obtain ⟨p, va, d, rfl, hp, ht, hn⟩ := hf
  have w0 := W.start pre.hs
  refine ⟨_, rfl, _, rfl, (by show 2 ≤ sizeLine; decide), fun n hnn => ?_⟩
  have w1 := w0.newI hnn (.tup [SS "call 2", vv])
  have u1 := w0.upI hnn (.tup [SS "call 2", vv])
  have hp := u1 _ _ hp
  refine ⟨_, rfl, p, _, _, _, rfl, rfl, SqT.of (w1.i hp), rfl, _, rfl, p, _, _, _, rfl, rfl, SqT.of (w1.i hp), rfl, ?_⟩
  exact ⟨_, r, ka, kn, most, nv, stk, s, M, .ref n, va, d, .call2 v, a, e, rfl, pre.step w1 u1, ⟨n, vv, rfl, upd_same, hv.mono u1⟩, ht.mono u1, hn.mono u1, post.from w1⟩
abbrev N_give_pair : List Str := ["run", "frame", "value"]
theorem sc_give_pair : FnScope N_give_pair ["run", "frame", "value"] (defScope (top 42)) := fnScope_ok (by decide +kernel)
theorem ok_give_pair (D : DefAt K mg "give_pair" 42) (T : Txt K mg) (c_wait : Cl P w K mg base 1 "wait" spWait) : Cl P w K mg base 2 "give_pair" (spGive fun f => ∃ a e, f = .pair a e) := by
  refine cl_mk (i := 42) (N := N_give_pair) (ps := ["run", "frame", "value"]) D sc_give_pair (fun _ _ _ _ _ _ us hl => match us, hl with | [_, _, _], _ => rfl) ?_ ?_
  · rintro vs H Q E ⟨I, r, ka, kn, most, nv, stk, s, M, fv, vv, f, v, rfl, _⟩
    rfl
  rintro f0 cdv A outer s0 H vs Q E hr ⟨I, r, ka, kn, most, nv, stk, s, M, fv, vv, f, v, rfl, pre, hst, hf, hv, hc, post⟩
  refine ⟨_, (pss_one (ps_expr (pe_cl c_wait hr (by omega) rfl (pa_cons (pv 0) (pa_cons (pe_tup (pa_cons pe_str (pa_cons (pv 2) pa_nil))) (pa_cons (pe_ix ix_tup (pv 1) pe_int (fun _ _ => rfl)) (pa_cons (pe_ix ix_tup (pv 1) pe_int (fun _ _ => rfl)) pa_nil))))))), ?_⟩
  obtain ⟨a, e, rfl⟩ := hc
  obtain ⟨p, va, d, rfl, hp, ht, hn⟩ := hf
  have w0 := W.start pre.hs
  refine ⟨_, rfl, _, rfl, (by show 2 ≤ sizeLine; decide), fun n hnn => ?_⟩
  have w1 := w0.newI hnn (.tup [SS "pair 2", vv])
  have u1 := w0.upI hnn (.tup [SS "pair 2", vv])
  have hp := u1 _ _ hp
  refine ⟨_, rfl, p, _, _, _, rfl, rfl, SqT.of (w1.i hp), rfl, _, rfl, p, _, _, _, rfl, rfl, SqT.of (w1.i hp), rfl, ?_⟩
  exact ⟨_, r, ka, kn, most, nv, stk, s, M, .ref n, va, d, .pair2 v, a, e, rfl, pre.step w1 u1, ⟨n, vv, rfl, upd_same, hv.mono u1⟩, ht.mono u1, hn.mono u1, post.from w1⟩
abbrev N_give_at : List Str := ["run", "frame", "value"]
theorem sc_give_at : FnScope N_give_at ["run", "frame", "value"] (defScope (top 44)) := fnScope_ok (by decide +kernel)
theorem ok_give_at (D : DefAt K mg "give_at" 44) (T : Txt K mg) (c_wait : Cl P w K mg base 1 "wait" spWait) : Cl P w K mg base 2 "give_at" (spGive fun f => ∃ a e, f = .idx a e) := by
  refine cl_mk (i := 44) (N := N_give_at) (ps := ["run", "frame", "value"]) D sc_give_at (fun _ _ _ _ _ _ us hl => match us, hl with | [_, _, _], _ => rfl) ?_ ?_
  · rintro vs H Q E ⟨I, r, ka, kn, most, nv, stk, s, M, fv, vv, f, v, rfl, _⟩
    rfl
  rintro f0 cdv A outer s0 H vs Q E hr ⟨I, r, ka, kn, most, nv, stk, s, M, fv, vv, f, v, rfl, pre, hst, hf, hv, hc, post⟩
  refine ⟨_, (pss_one (ps_expr (pe_cl c_wait hr (by omega) rfl (pa_cons (pv 0) (pa_cons (pe_tup (pa_cons pe_str (pa_cons (pv 2) pa_nil))) (pa_cons (pe_ix ix_tup (pv 1) pe_int (fun _ _ => rfl)) (pa_cons (pe_ix ix_tup (pv 1) pe_int (fun _ _ => rfl)) pa_nil))))))), ?_⟩
  obtain ⟨a, e, rfl⟩ := hc
  obtain ⟨p, va, d, rfl, hp, ht, hn⟩ := hf
  have w0 := W.start pre.hs
  refine ⟨_, rfl, _, rfl, (by show 2 ≤ sizeLine; decide), fun n hnn => ?_⟩
  have w1 := w0.newI hnn (.tup [SS "at 2", vv])
  have u1 := w0.upI hnn (.tup [SS "at 2", vv])
  have hp := u1 _ _ hp
  refine ⟨_, rfl, p, _, _, _, rfl, rfl, SqT.of (w1.i hp), rfl, _, rfl, p, _, _, _, rfl, rfl, SqT.of (w1.i hp), rfl, ?_⟩
  exact ⟨_, r, ka, kn, most, nv, stk, s, M, .ref n, va, d, .idx2 v, a, e, rfl, pre.step w1 u1, ⟨n, vv, rfl, upd_same, hv.mono u1⟩, ht.mono u1, hn.mono u1, post.from w1⟩
abbrev N_combined : List Str := ["op", "one", "two"]
theorem sc_combined : FnScope N_combined ["op", "one", "two"] (defScope (top 27)) := fnScope_ok (by decide +kernel)
theorem ok_combined (D : DefAt K mg "combined" 27) (T : Txt K mg) : Cl P w K mg base 1 "combined" spPrim := by
  refine cl_mk (i := 27) (N := N_combined) (ps := ["op", "one", "two"]) D sc_combined (fun _ _ _ _ _ _ us hl => match us, hl with | [_, _, _], _ => rfl) ?_ ?_
  · rintro vs H Q E ⟨op, a, b, r, rfl, _⟩
    rfl
  rintro f0 cdv A outer s0 H vs Q E hr ⟨op, a, b, r, rfl, hp, q⟩
  obtain ⟨a0, a1, b0, b1⟩ := prim_range hp
  refine ⟨_, (pss_cons (ps_if (pt_cmpR op_eq (pv 0) pe_str (nomark _)) (pss_one (ps_ret (pe_callB (call_min2 rfl) (by rfl) T.min (by decide +kernel) (pa_cons (pe_op op_add (pv 1) (pv 2)) (pa_cons (C8.pe_gc rfl T.cTOP_plain) pa_nil))))) pss_nil) (pss_cons (ps_if (pt_cmpR op_eq (pv 0) pe_str (nomark _)) (pss_one (ps_ret (pe_callB (call_min2 rfl) (by rfl) T.min (by decide +kernel) (pa_cons (pe_op op_mul (pv 1) (pv 2)) (pa_cons (C8.pe_gc rfl T.cTOP_plain) pa_nil))))) pss_nil) (pss_cons (ps_if (pt_cmpR op_eq (pv 0) pe_str (nomark _)) (pss_one (ps_ret (pe_callB (call_max2 rfl) (by rfl) T.max (by decide +kernel) (pa_cons (pe_op op_sub (pv 1) (pv 2)) (pa_cons pe_int pa_nil))))) pss_nil) (pss_cons (ps_if (pt_cmpR op_in_seq (pv 0) (pe_tup (pa_cons pe_str (pa_cons pe_str pa_nil))) (by rfl)) (pss_cons (ps_if (pt_cmpR op_eq (pv 2) pe_int (nomark _)) (pss_one (ps_ret pe_int)) pss_nil) (pss_one (ps_ret (pe_ifExp (pt_cmpR op_eq (pv 0) pe_str (nomark _)) (pe_op op_fdivW (pv 1) (pv 2)) (pe_op op_mod (pv 1) (pv 2)))))) pss_nil) (pss_one (ps_ret (pe_ifExp (pt_cmpR op_eq (pv 0) pe_str (nomark _)) (pe_callTy call_int1 (by rfl) T.int (by decide +kernel) (pa_cons (pe_cmpR op_lt (pv 1) (pv 2) (nomark _)) pa_nil)) (pe_callTy call_int1 (by rfl) T.int (by decide +kernel) (pa_cons (pe_cmpR op_eq (pv 1) (pv 2) (nomark _)) pa_nil))))))))), ?_⟩
  have min_ : ∀ z : Int, (if TOP < z then TOP else z) = if z ≤ TOP then z else TOP := fun z => by split <;> split <;> omega
  rcases prim_op hp with ⟨rfl, rfl⟩ | ⟨rfl, rfl⟩ | ⟨rfl, rfl⟩ | ⟨rfl, rfl⟩ | ⟨rfl, rfl⟩ | ⟨rfl, rfl⟩ | ⟨rfl, rfl⟩
  · refine ⟨_, rfl, rfl, _, rfl, tT rfl ?_⟩
    refine ⟨_, rfl, _, rfl, _, _, rfl, rfl, _, _, rfl, ?_⟩
    show Q (.int (if TOP < a + b then TOP else a + b)) _
    rw [min_]
    exact q _ (Same.refl _)
  · refine ⟨_, rfl, rfl, _, rfl, tF (by decide +kernel) ?_⟩
    refine ⟨_, rfl, rfl, _, rfl, tT rfl ?_⟩
    refine ⟨_, rfl, _, rfl, _, _, rfl, rfl, .inl (lt64 a0 a1), _, _, rfl, ?_⟩
    show Q (.int (if TOP < a * b then TOP else a * b)) _
    rw [min_]
    exact q _ (Same.refl _)
  · refine ⟨_, rfl, rfl, _, rfl, tF (by decide +kernel) ?_⟩
    refine ⟨_, rfl, rfl, _, rfl, tF (by decide +kernel) ?_⟩
    refine ⟨_, rfl, rfl, _, rfl, tT rfl ?_⟩
    refine ⟨_, rfl, _, rfl, _, _, rfl, rfl, _, _, rfl, ?_⟩
    have e : (if (0 : Int) > a - b then 0 else a - b) = if a - b ≤ 0 then 0 else a - b := by split <;> split <;> omega
    show Q (.int (if (0 : Int) > a - b then 0 else a - b)) _
    rw [e]
    exact q _ (Same.refl _)
  · refine ⟨_, rfl, rfl, _, rfl, tF (by decide +kernel) ?_⟩
    refine ⟨_, rfl, rfl, _, rfl, tF (by decide +kernel) ?_⟩
    refine ⟨_, rfl, rfl, _, rfl, tF (by decide +kernel) ?_⟩
    refine ⟨_, rfl, s2, fun p2 hp2 => ⟨p2, _, rfl, .inr (SqT.of upd_same), rfl, rfl, _, rfl, bT (by decide +kernel) ?_⟩⟩
    refine ⟨_, rfl, rfl, _, rfl, ?_⟩
    by_cases h : b = 0
    · rw [if_pos h] at q
      exact tT (congrArg V.int h) (q _ (same_up hp2))
    · rw [if_neg h] at q
      refine tF (fun z => h (V.int.inj z)) ?_
      refine ⟨_, rfl, rfl, _, rfl, tT rfl ?_⟩
      exact ⟨_, rfl, _, rfl, _, _, rfl, rfl, divW b0 b1 h, q _ (same_up hp2)⟩
  · refine ⟨_, rfl, rfl, _, rfl, tF (by decide +kernel) ?_⟩
    refine ⟨_, rfl, rfl, _, rfl, tF (by decide +kernel) ?_⟩
    refine ⟨_, rfl, rfl, _, rfl, tF (by decide +kernel) ?_⟩
    refine ⟨_, rfl, s2, fun p2 hp2 => ⟨p2, _, rfl, .inr (SqT.of upd_same), rfl, rfl, _, rfl, bT (by decide +kernel) ?_⟩⟩
    refine ⟨_, rfl, rfl, _, rfl, ?_⟩
    by_cases h : b = 0
    · rw [if_pos h] at q
      exact tT (congrArg V.int h) (q _ (same_up hp2))
    · rw [if_neg h] at q
      refine tF (fun z => h (V.int.inj z)) ?_
      refine ⟨_, rfl, rfl, _, rfl, tF (by decide +kernel) ?_⟩
      exact ⟨_, rfl, _, rfl, _, _, rfl, rfl, (by show 0 < b; omega), q _ (same_up hp2)⟩
  · refine ⟨_, rfl, rfl, _, rfl, tF (by decide +kernel) ?_⟩
    refine ⟨_, rfl, rfl, _, rfl, tF (by decide +kernel) ?_⟩
    refine ⟨_, rfl, rfl, _, rfl, tF (by decide +kernel) ?_⟩
    refine ⟨_, rfl, s2, fun p2 hp2 => ⟨p2, _, rfl, .inr (SqT.of upd_same), rfl, rfl, _, rfl, bF (by decide +kernel) ?_⟩⟩
    refine ⟨_, rfl, rfl, _, rfl, tT rfl ?_⟩
    refine ⟨_, rfl, _, rfl, _, _, rfl, rfl, .inr ⟨_, rfl, ?_⟩⟩
    have e : (if decide (a < b) = true then (1 : Int) else 0) = if a < b then 1 else 0 := by by_cases h : a < b <;> simp [h]
    have z := q _ (same_up (o := .tup [SS "over", SS "rest"]) hp2)
    rw [← e] at z
    exact z
  · refine ⟨_, rfl, rfl, _, rfl, tF (by decide +kernel) ?_⟩
    refine ⟨_, rfl, rfl, _, rfl, tF (by decide +kernel) ?_⟩
    refine ⟨_, rfl, rfl, _, rfl, tF (by decide +kernel) ?_⟩
    refine ⟨_, rfl, s2, fun p2 hp2 => ⟨p2, _, rfl, .inr (SqT.of upd_same), rfl, rfl, _, rfl, bF (by decide +kernel) ?_⟩⟩
    refine ⟨_, rfl, rfl, _, rfl, tF (by decide +kernel) ?_⟩
    refine ⟨_, rfl, _, rfl, rfl, .inr ⟨_, rfl, ?_⟩⟩
    have e : (if decide (V.int a = V.int b) = true then (1 : Int) else 0) = if a = b then 1 else 0 := by by_cases h : a = b <;> simp [h]
    have z := q _ (same_up (o := .tup [SS "over", SS "rest"]) hp2)
    rw [← e] at z
    exact z
abbrev N_give_prim_2 : List Str := ["run", "frame", "value"]
theorem sc_give_prim_2 : FnScope N_give_prim_2 ["run", "frame", "value"] (defScope (top 33)) := fnScope_ok (by decide +kernel)
theorem ok_give_prim_2 (D : DefAt K mg "give_prim_2" 33) (T : Txt K mg) (c_combined : Cl P w K mg base 1 "combined" spPrim) : Cl P w K mg base 2 "give_prim_2" (spGive fun f => ∃ op u, f = .prim2 op u) := by
  refine cl_mk (i := 33) (N := N_give_prim_2) (ps := ["run", "frame", "value"]) D sc_give_prim_2 (fun _ _ _ _ _ _ us hl => match us, hl with | [_, _, _], _ => rfl) ?_ ?_
  · rintro vs H Q E ⟨I, r, ka, kn, most, nv, stk, s, M, fv, vv, f, v, rfl, _⟩
    rfl
  rintro f0 cdv A outer s0 H vs Q E hr ⟨I, r, ka, kn, most, nv, stk, s, M, fv, vv, f, v, rfl, pre, hst, hf, hv, hc, post⟩
  refine ⟨_, (pss_one (ps_dput (hu_of hr) (pv 0) pe_str (pe_tup (pa_cons pe_str (pa_cons (pe_cl c_combined hr (by omega) rfl (pa_cons (pe_ix ix_tup (pv 1) pe_int (fun _ _ => rfl)) (pa_cons (pe_ix ix_tup (pv 1) pe_int (fun _ _ => rfl)) (pa_cons (pv 2) pa_nil)))) pa_nil))) rfl)), ?_⟩
  obtain ⟨op, u, rfl⟩ := hc
  obtain ⟨p, x, rfl, hp, hu⟩ := hf
  have w0 := W.start pre.hs
  have post : SPost I H r ka kn most M Q .non (valO stk s (primV op u v)) := post
  cases u with
  | int a =>
    cases v with
    | int b =>
      obtain rfl : x = V.int a := hu
      obtain rfl : vv = V.int b := hv
      cases hpr : prim op a b with
      | none =>
        have e : primV op (.int a) (.int b) = none := by show (prim op a b).map Val.int = none; rw [hpr]; rfl
        rw [e] at post; exact post.elim
      | some z =>
        have e : primV op (.int a) (.int b) = some (.int z) := by show (prim op a b).map Val.int = _; rw [hpr]; rfl
        rw [e] at post
        refine ⟨_, rfl, p, _, _, _, rfl, rfl, SqT.of (w0.i hp), rfl, _, rfl, p, _, _, _, rfl, rfl, SqT.of (w0.i hp), rfl, _, rfl, ?_⟩
        refine ⟨op, a, b, z, rfl, hpr, fun H1 sm1 => ⟨s2, fun n hnn => ?_⟩⟩
        have w1 := (w0.same sm1).newI hnn (.tup [SS "value", .int z])
        obtain ⟨H2, dp, q⟩ := now_end (now := .value (.int z)) pre.rs w1 ⟨n, _, rfl, upd_same, rfl⟩ post
        exact ⟨_, rfl, r, H2, rfl, dp, q⟩
    | _ => exact post.elim
  | _ => exact post.elim
abbrev N_give_as : List Str := ["run", "frame", "value"]
theorem sc_give_as : FnScope N_give_as ["run", "frame", "value"] (defScope (top 34)) := fnScope_ok (by decide +kernel)
theorem ok_give_as (D : DefAt K mg "give_as" 34) (T : Txt K mg) : Cl P w K mg base 1 "give_as" (spGive fun f => ∃ m, f = .as m) := by
  refine cl_mk (i := 34) (N := N_give_as) (ps := ["run", "frame", "value"]) D sc_give_as (fun _ _ _ _ _ _ us hl => match us, hl with | [_, _, _], _ => rfl) ?_ ?_
  · rintro vs H Q E ⟨I, r, ka, kn, most, nv, stk, s, M, fv, vv, f, v, rfl, _⟩
    rfl
  rintro f0 cdv A outer s0 H vs Q E hr ⟨I, r, ka, kn, most, nv, stk, s, M, fv, vv, f, v, rfl, pre, hst, hf, hv, hc, post⟩
  refine ⟨_, (pss_one (ps_dput (hu_of hr) (pv 0) pe_str (pe_tup (pa_cons pe_str (pa_cons (pe_op op_mod (pv 2) (pe_ix ix_tup (pv 1) pe_int (fun _ _ => rfl))) pa_nil))) rfl)), ?_⟩
  obtain ⟨m, rfl⟩ := hc
  obtain ⟨p, rfl, hp⟩ := hf
  have w0 := W.start pre.hs
  have post : SPost I H r ka kn most M Q .non (valO stk s (asV m v)) := post
  cases v with
  | int b =>
    obtain rfl : vv = V.int b := hv
    unfold asV at post
    dsimp only at post
    by_cases hm : 0 ≤ b ∧ 0 < m
    · rw [if_pos hm] at post
      refine ⟨_, rfl, _, rfl, p, _, _, _, rfl, rfl, SqT.of (w0.i hp), rfl, _, _, rfl, rfl, hm.2, s2, fun n hnn => ?_⟩
      have w1 := w0.newI hnn (.tup [SS "value", .int (b % m)])
      obtain ⟨H2, dp, q⟩ := now_end (now := .value (.int (b % m))) pre.rs w1 ⟨n, _, rfl, upd_same, rfl⟩ post
      exact ⟨_, rfl, r, H2, rfl, dp, q⟩
    · rw [if_neg hm] at post
      exact post.elim
  | _ => exact post.elim
abbrev N_give_part : List Str := ["run", "frame", "value"]
theorem sc_give_part : FnScope N_give_part ["run", "frame", "value"] (defScope (top 35)) := fnScope_ok (by decide +kernel)
theorem ok_give_part (D : DefAt K mg "give_part" 35) (T : Txt K mg) : Cl P w K mg base 1 "give_part" (spGive fun f => f = .count ∨ f = .fst ∨ f = .snd) := by
  refine cl_mk (i := 35) (N := N_give_part) (ps := ["run", "frame", "value"]) D sc_give_part (fun _ _ _ _ _ _ us hl => match us, hl with | [_, _, _], _ => rfl) ?_ ?_
  · rintro vs H Q E ⟨I, r, ka, kn, most, nv, stk, s, M, fv, vv, f, v, rfl, _⟩
    rfl
  rintro f0 cdv A outer s0 H vs Q E hr ⟨I, r, ka, kn, most, nv, stk, s, M, fv, vv, f, v, rfl, pre, hst, hf, hv, hc, post⟩
  refine ⟨_, (pss_one (ps_dput (hu_of hr) (pv 0) pe_str (pe_tup (pa_cons pe_str (pa_cons (pe_ifExp (pt_cmpR op_eq (pe_ix ix_tup (pv 1) pe_int (fun _ _ => rfl)) pe_str (nomark _)) (pv 2) (pe_ix ix_tup (pv 2) (pe_ifExp (pt_cmpR op_eq (pe_ix ix_tup (pv 1) pe_int (fun _ _ => rfl)) pe_str (nomark _)) pe_int pe_int) (fun _ _ => rfl))) pa_nil))) rfl)), ?_⟩
  have w0 := W.start pre.hs
  rcases hc with rfl | rfl | rfl
  · obtain ⟨p, rfl, hp⟩ := hf
    have post : SPost I H r ka kn most M Q .non (valO stk s (intV v)) := post
    cases v with
    | int b =>
      obtain rfl : vv = V.int b := hv
      refine ⟨_, rfl, p, _, _, _, rfl, rfl, SqT.of (w0.i hp), rfl, rfl, _, rfl, tT rfl ⟨_, rfl, s2, fun n hnn => ?_⟩⟩
      have w1 := w0.newI hnn (.tup [SS "value", .int b])
      obtain ⟨H2, dp, q⟩ := now_end (now := .value (.int b)) pre.rs w1 ⟨n, _, rfl, upd_same, rfl⟩ post
      exact ⟨_, rfl, r, H2, rfl, dp, q⟩
    | _ => exact post.elim
  · obtain ⟨p, rfl, hp⟩ := hf
    have post : SPost I H r ka kn most M Q .non (valO stk s (fstV v)) := post
    cases v with
    | pair a b =>
      obtain ⟨p2, va, vb, rfl, ha, hb, hp2⟩ := hv
      refine ⟨_, rfl, p, _, _, _, rfl, rfl, SqT.of (w0.i hp), rfl, rfl, _, rfl, tF (by decide +kernel) ?_⟩
      refine ⟨_, rfl, _, rfl, p, _, _, _, rfl, rfl, SqT.of (w0.i hp), rfl, rfl, _, rfl, tT rfl ⟨p2, _, _, _, rfl, rfl, SqT.of (w0.i hp2), rfl, s2, fun n hnn => ?_⟩⟩
      have w1 := w0.newI hnn (.tup [SS "value", va])
      have u1 := w0.upI hnn (.tup [SS "value", va])
      obtain ⟨H2, dp, q⟩ := now_end (now := .value a) pre.rs w1 ⟨n, _, rfl, upd_same, ha.mono u1⟩ post
      exact ⟨_, rfl, r, H2, rfl, dp, q⟩
    | _ => exact post.elim
  · obtain ⟨p, rfl, hp⟩ := hf
    have post : SPost I H r ka kn most M Q .non (valO stk s (sndV v)) := post
    cases v with
    | pair a b =>
      obtain ⟨p2, va, vb, rfl, ha, hb, hp2⟩ := hv
      refine ⟨_, rfl, p, _, _, _, rfl, rfl, SqT.of (w0.i hp), rfl, rfl, _, rfl, tF (by decide +kernel) ?_⟩
      refine ⟨_, rfl, _, rfl, p, _, _, _, rfl, rfl, SqT.of (w0.i hp), rfl, rfl, _, rfl, tF (by decide +kernel) ⟨p2, _, _, _, rfl, rfl, SqT.of (w0.i hp2), rfl, s2, fun n hnn => ?_⟩⟩
      have w1 := w0.newI hnn (.tup [SS "value", vb])
      have u1 := w0.upI hnn (.tup [SS "value", vb])
      obtain ⟨H2, dp, q⟩ := now_end (now := .value b) pre.rs w1 ⟨n, _, rfl, upd_same, hb.mono u1⟩ post
      exact ⟨_, rfl, r, H2, rfl, dp, q⟩
    | _ => exact post.elim
abbrev N_give_if : List Str := ["run", "frame", "value"]
theorem sc_give_if : FnScope N_give_if ["run", "frame", "value"] (defScope (top 36)) := fnScope_ok (by decide +kernel)
theorem ok_give_if (D : DefAt K mg "give_if" 36) (T : Txt K mg) : Cl P w K mg base 1 "give_if" (spGive fun f => ∃ a b e, f = .ite a b e) := by
  refine cl_mk (i := 36) (N := N_give_if) (ps := ["run", "frame", "value"]) D sc_give_if (fun _ _ _ _ _ _ us hl => match us, hl with | [_, _, _], _ => rfl) ?_ ?_
  · rintro vs H Q E ⟨I, r, ka, kn, most, nv, stk, s, M, fv, vv, f, v, rfl, _⟩
    rfl
  rintro f0 cdv A outer s0 H vs Q E hr ⟨I, r, ka, kn, most, nv, stk, s, M, fv, vv, f, v, rfl, pre, hst, hf, hv, hc, post⟩
  refine ⟨_, (pss_one (ps_dput (hu_of hr) (pv 0) pe_str (pe_tup (pa_cons pe_str (pa_cons (pe_ifExp (pt_cmpR op_eq (pv 2) pe_int (nomark _)) (pe_ix ix_tup (pv 1) pe_int (fun _ _ => rfl)) (pe_ix ix_tup (pv 1) pe_int (fun _ _ => rfl))) (pa_cons (pe_ix ix_tup (pv 1) pe_int (fun _ _ => rfl)) pa_nil)))) rfl)), ?_⟩
  obtain ⟨a, b, e, rfl⟩ := hc
  obtain ⟨p, va, vb, d, rfl, hp, hta, htb, hn⟩ := hf
  have w0 := W.start pre.hs
  cases v with
  | int i =>
    obtain rfl : vv = V.int i := hv
    have post : SPost I H r ka kn most M Q .non (some ⟨.eval (if i = 1 then a else b) e, stk, s⟩) := post
    refine ⟨_, rfl, rfl, _, rfl, ?_⟩
    by_cases hi : i = 1
    · rw [if_pos hi] at post
      refine tT (congrArg V.int hi) ⟨_, rfl, p, _, _, _, rfl, rfl, SqT.of (w0.i hp), rfl, _, rfl, p, _, _, _, rfl, rfl, SqT.of (w0.i hp), rfl, (by show 3 ≤ sizeLine; decide), fun n hnn => ?_⟩
      have w1 := w0.newI hnn (.tup [SS "eval", va, .ref d])
      have u1 := w0.upI hnn (.tup [SS "eval", va, .ref d])
      obtain ⟨H2, dp, q⟩ := now_end (now := .eval a e) pre.rs w1 ⟨n, _, _, rfl, upd_same, hta.mono u1, hn.mono u1⟩ post
      exact ⟨_, rfl, r, H2, rfl, dp, q⟩
    · rw [if_neg hi] at post
      refine tF (fun z => hi (V.int.inj z)) ⟨_, rfl, p, _, _, _, rfl, rfl, SqT.of (w0.i hp), rfl, _, rfl, p, _, _, _, rfl, rfl, SqT.of (w0.i hp), rfl, (by show 3 ≤ sizeLine; decide), fun n hnn => ?_⟩
      have w1 := w0.newI hnn (.tup [SS "eval", vb, .ref d])
      have u1 := w0.upI hnn (.tup [SS "eval", vb, .ref d])
      obtain ⟨H2, dp, q⟩ := now_end (now := .eval b e) pre.rs w1 ⟨n, _, _, rfl, upd_same, htb.mono u1, hn.mono u1⟩ post
      exact ⟨_, rfl, r, H2, rfl, dp, q⟩
  | _ => exact post.elim
abbrev N_give_pair_2 : List Str := ["run", "frame", "value"]
theorem sc_give_pair_2 : FnScope N_give_pair_2 ["run", "frame", "value"] (defScope (top 43)) := fnScope_ok (by decide +kernel)
theorem ok_give_pair_2 (D : DefAt K mg "give_pair_2" 43) (T : Txt K mg) : Cl P w K mg base 1 "give_pair_2" (spGive fun f => ∃ u, f = .pair2 u) := by
  refine cl_mk (i := 43) (N := N_give_pair_2) (ps := ["run", "frame", "value"]) D sc_give_pair_2 (fun _ _ _ _ _ _ us hl => match us, hl with | [_, _, _], _ => rfl) ?_ ?_
  · rintro vs H Q E ⟨I, r, ka, kn, most, nv, stk, s, M, fv, vv, f, v, rfl, _⟩
    rfl
  rintro f0 cdv A outer s0 H vs Q E hr ⟨I, r, ka, kn, most, nv, stk, s, M, fv, vv, f, v, rfl, pre, hst, hf, hv, hc, post⟩
  refine ⟨_, (pss_one (ps_dput (hu_of hr) (pv 0) pe_str (pe_tup (pa_cons pe_str (pa_cons (pe_tup (pa_cons pe_str (pa_cons (pe_ix ix_tup (pv 1) pe_int (fun _ _ => rfl)) (pa_cons (pv 2) pa_nil)))) pa_nil))) rfl)), ?_⟩
  obtain ⟨u, rfl⟩ := hc
  obtain ⟨p, x, rfl, hp, hu⟩ := hf
  have w0 := W.start pre.hs
  refine ⟨_, rfl, p, _, _, _, rfl, rfl, SqT.of (w0.i hp), rfl, _, rfl, (by show 3 ≤ sizeLine; decide), fun n1 hn1 => ⟨s2, fun n hnn => ?_⟩⟩
  have w1 := w0.newI hn1 (.tup [SS "pair", x, vv])
  have u1 := w0.upI hn1 (.tup [SS "pair", x, vv])
  have w2 := w1.newI hnn (.tup [SS "value", .ref n1])
  have u2 := w1.upI hnn (.tup [SS "value", .ref n1])
  obtain ⟨H2, dp, q⟩ := now_end (now := .value (.pair u v)) pre.rs w2 ⟨n, _, rfl, upd_same, ⟨n1, x, vv, rfl, hu.mono (u1.trans u2), hv.mono (u1.trans u2), u2 _ _ upd_same⟩⟩ post
  exact ⟨_, rfl, r, H2, rfl, dp, q⟩
abbrev N_give_call_2 : List Str := ["run", "frame", "value", "function"]
theorem sc_give_call_2 : FnScope N_give_call_2 ["run", "frame", "value"] (defScope (top 41)) := fnScope_ok (by decide +kernel)
theorem ok_give_call_2 (D : DefAt K mg "give_call_2" 41) (T : Txt K mg) (c_put : Cl P w K mg base 1 "put" spPut) : Cl P w K mg base 2 "give_call_2" (spGive fun f => ∃ u, f = .call2 u) := by
  refine cl_mk (i := 41) (N := N_give_call_2) (ps := ["run", "frame", "value"]) D sc_give_call_2 (fun _ _ _ _ _ _ us hl => match us, hl with | [_, _, _], _ => rfl) ?_ ?_
  · rintro vs H Q E ⟨I, r, ka, kn, most, nv, stk, s, M, fv, vv, f, v, rfl, _⟩
    rfl
  rintro f0 cdv A outer s0 H vs Q E hr ⟨I, r, ka, kn, most, nv, stk, s, M, fv, vv, f, v, rfl, pre, hst, hf, hv, hc, post⟩
  refine ⟨_, (pss_cons (ps_set (i := 3) sc_give_call_2.nd rfl (Or.inl rfl) (pe_ix ix_tup (pv 1) pe_int (fun _ _ => rfl))) (pss_one (ps_dput (hu_of hr) (pv 0) pe_str (pe_tup (pa_cons pe_str (pa_cons (pe_ix ix_tup (pv 3) pe_int (fun _ _ => rfl)) (pa_cons (pe_cl c_put hr (by omega) rfl (pa_cons (pe_ix ix_tup (pv 3) pe_int (fun _ _ => rfl)) (pa_cons (pe_ix ix_tup (pv 3) pe_int (fun _ _ => rfl)) (pa_cons (pv 2) pa_nil)))) pa_nil)))) rfl))), ?_⟩
  obtain ⟨u, rfl⟩ := hc
  obtain ⟨p, x, rfl, hp, hu⟩ := hf
  have w0 := W.start pre.hs
  have post : SPost I H r ka kn most M Q .non (goF u v stk s) := post
  cases u with
  | clo y b e =>
    obtain ⟨pf, vb, d, kvs, rfl, hpf, hb, hd, hl, he⟩ := hu
    unfold goF at post
    dsimp only at post
    by_cases hlen : e.len < 1000
    · rw [if_pos hlen] at post
      refine ⟨_, rfl, p, _, _, _, rfl, rfl, SqT.of (w0.i hp), rfl, ?_⟩
      refine ⟨_, rfl, pf, _, _, _, rfl, rfl, SqT.of (w0.i hpf), rfl, _, rfl, pf, _, _, _, rfl, rfl, SqT.of (w0.i hpf), rfl, _, rfl, pf, _, _, _, rfl, rfl, SqT.of (w0.i hpf), rfl, _, rfl, ?_⟩
      refine ⟨d, kvs, .inr y, vv, rfl, w0.i hd, small (by omega), fun n1 hn1 => ⟨(by show 3 ≤ sizeLine; decide), fun n hnn => ?_⟩⟩
      have w1 := w0.newI hn1 (.dK (putK kvs (.inr y) vv))
      have u1 := w0.upI hn1 (.dK (putK kvs (.inr y) vv))
      have w2 := w1.newI hnn (.tup [SS "eval", vb, .ref n1])
      have u2 := w1.upI hnn (.tup [SS "eval", vb, .ref n1])
      have hen : NAt .pack _ (e.put y v) n1 := ⟨_, u2 _ _ upd_same, by have := length_putK kvs (.inr y) vv; show _ ≤ e.len + 1; omega, (he.mono (u1.trans u2)).put (hv.mono (u1.trans u2))⟩
      obtain ⟨H2, dp, q⟩ := now_end (now := .eval b (e.put y v)) pre.rs w2 ⟨n, vb, n1, rfl, upd_same, hb.mono (u1.trans u2), hen⟩ post
      exact ⟨_, rfl, r, H2, rfl, dp, q⟩
    · rw [if_neg hlen] at post
      exact post.elim
  | _ => exact post.elim
abbrev N_give_repeat_2 : List Str := ["run", "frame", "value"]
theorem sc_give_repeat_2 : FnScope N_give_repeat_2 ["run", "frame", "value"] (defScope (top 38)) := fnScope_ok (by decide +kernel)
theorem ok_give_repeat_2 (D : DefAt K mg "give_repeat_2" 38) (T : Txt K mg) : Cl P w K mg base 1 "give_repeat_2" (spGive fun f => ∃ n t e, f = .rep2 n t e) := by
  refine cl_mk (i := 38) (N := N_give_repeat_2) (ps := ["run", "frame", "value"]) D sc_give_repeat_2 (fun _ _ _ _ _ _ us hl => match us, hl with | [_, _, _], _ => rfl) ?_ ?_
  · rintro vs H Q E ⟨I, r, ka, kn, most, nv, stk, s, M, fv, vv, f, v, rfl, _⟩
    rfl
  rintro f0 cdv A outer s0 H vs Q E hr ⟨I, r, ka, kn, most, nv, stk, s, M, fv, vv, f, v, rfl, pre, hst, hf, hv, hc, post⟩
  refine ⟨_, (pss_cons (ps_expr (pe_bm PySem.F.plainAttrs_list PySem.F.slot_list_append PySem.F.type_list_append mt_append (pe_dget (hu_of hr) (pv 0) pe_str (fun _ _ => rfl)) (pa_cons (pe_tup (pa_cons pe_str (pa_cons (pe_callB (call_min2 rfl) (by rfl) T.min (by decide +kernel) (pa_cons (pe_ix ix_tup (pv 1) pe_int (fun _ _ => rfl)) (pa_cons (C8.pe_gc rfl T.cTURNS) pa_nil))) (pa_cons (pv 2) pa_nil)))) pa_nil))) (pss_one (ps_dput (hu_of hr) (pv 0) pe_str (pe_tup (pa_cons pe_str (pa_cons (pe_ix ix_tup (pv 1) pe_int (fun _ _ => rfl)) (pa_cons (pe_ix ix_tup (pv 1) pe_int (fun _ _ => rfl)) pa_nil)))) rfl))), ?_⟩
  obtain ⟨n, t, e, rfl⟩ := hc
  obtain ⟨p, x, vb, d, rfl, hp, hx, ht, hn⟩ := hf
  have w0 := W.start pre.hs
  cases n with
  | int i =>
    obtain rfl : x = V.int i := hx
    have post : SPost I H r ka kn most M Q .non (if 0 ≤ i then some ⟨.eval t e, .turns (if i ≤ 60 then i else 60).toNat v :: stk, s⟩ else none) := post
    by_cases hi : 0 ≤ i
    · rw [if_pos hi] at post
      obtain ⟨sk, rd, vs, rs, M2, rfl, hsr, hrd, hka⟩ := pre.rs.ex
      have hvl := hsr.len
      refine ⟨_, rfl, r, _, rfl, DG (w0.get (i := 0) rfl) rk_stack, .inl ⟨rfl, _, SqL.of (w0.get (i := 1) rfl)⟩, _, rfl, p, _, _, _, rfl, rfl, SqT.of (w0.i hp), rfl, _, _, rfl, ?_⟩
      have e60 : (if (60 : Int) < i then (60 : Int) else i) = ((if i ≤ 60 then i else 60).toNat : Int) := by split <;> split <;> omega
      refine ⟨_, rfl, (by show 3 ≤ sizeLine; decide), fun n1 hn1 => ?_⟩
      have e60' : (if i > (60 : Int) then (60 : Int) else i) = ((if i ≤ 60 then i else 60).toNat : Int) := e60
      have w1 := w0.newI hn1 (.tup [SS "turns", .int ((if i ≤ 60 then i else 60).toNat : Int), vv])
      have u1 := w0.upI hn1 (.tup [SS "turns", .int ((if i ≤ 60 then i else 60).toNat : Int), vv])
      rw [← e60'] at w1 u1
      refine ⟨sk, _, _, rfl, rfl, w1.get (i := 1) rfl, pre.stl hvl, ?_⟩
      have w2 := w1.push (.ref n1)
      have hp2 := u1 _ _ hp
      refine ⟨_, rfl, p, _, _, _, rfl, rfl, SqT.of (w2.i hp2), rfl, _, rfl, p, _, _, _, rfl, rfl, SqT.of (w2.i hp2), rfl, (by show 3 ≤ sizeLine; decide), fun n2 hn2 => ?_⟩
      have w3 := w2.newI hn2 (.tup [SS "eval", vb, .ref d])
      have u3 := u1.trans (w2.upI hn2 (.tup [SS "eval", vb, .ref d]))
      have hf1 : FrAt _ (.turns (if i ≤ 60 then i else 60).toNat v) (.ref n1) := ⟨n1, vv, rfl, by rw [← e60']; exact w2.upI hn2 (.tup [SS "eval", vb, .ref d]) _ _ upd_same, hv.mono u3⟩
      obtain ⟨H2, dp, q⟩ := now_end2 (now := .eval t e) ⟨sk, rd, .ref n1 :: vs, rs, M2, rfl, (hsr.mono u3).push hf1, hrd.mono u3, u3 _ _ hka⟩ w3 ⟨n2, vb, d, rfl, upd_same, ht.mono u3, hn.mono u3⟩ post
      exact ⟨_, rfl, r, H2, rfl, dp, q⟩
    · rw [if_neg hi] at post
      exact post.elim
  | _ => exact post.elim
end
end KW
set_option Elab.async false
set_option linter.all false
set_option maxRecDepth 100000
set_option maxHeartbeats 4000000
/-! B3: turns, frames found, places read. -/
namespace KW
open PySem PySem.Spec PyProof.Rows L2 
section
variable {P : Program} {w : World} {K : PySem.W.Frag} {mg : Str → Option Value} {base : Heap}

def spTurn : Sp := fun vs H Q _ => ∃ I r ka kn most nv stk s M fv vv f v, ∃ n : Nat, vs = [.ref r, .int (n : Int), fv, vv] ∧ SPre I H r ka kn most nv stk s M ∧ stk.length + 1 ≤ s.steps ∧ VAt .pack I f fv ∧ VAt .pack I v vv ∧
  SPost I H r ka kn most M Q .non (turn n f v stk s)
/-- a frame in its place -/
def FvAt (I : Hp) (M : List (Addr × HO)) (f : Fr) (v : V) : Prop := match f with
  | .all a => ∃ p fd lf en kvs ls us, v = .ref p ∧ I p = some (.tup [SS "all", .ref fd]) ∧ (fd, HO.dK kvs) ∈ M ∧ AF.Is I a fd lf en kvs ls us
  | f => FrAt I f v
theorem FvAt.more {I : Hp} {M M' : List (Addr × HO)} (h : ∀ p ∈ M, p ∈ M') {f : Fr} {v : V} (x : FvAt I M f v) : FvAt I M' f v := by
  cases f with
  | all a =>
    obtain ⟨p, fd, lf, en, kvs, ls, us, e, g, m, i⟩ := x
    exact ⟨p, fd, lf, en, kvs, ls, us, e, g, h _ m, i⟩
  | _ => exact x
theorem FvAt.fr {I : Hp} {M : List (Addr × HO)} {f : Fr} {v : V} (x : FvAt I M f v) (h : ∀ a, f ≠ .all a) : FrAt I f v := by
  cases f with
  | all a => exact absurd rfl (h a)
  | _ => exact x
theorem SR.all {I : Hp} : ∀ {stk : List Fr} {vs : List V} {M : List (Addr × HO)}, SR I stk vs M → Paired (FvAt I M) stk vs
  | [], _, _, e => by rw [e.1]; exact .nil
  | f :: r, vs, M, ⟨v, vs', e, q⟩ => by
    rw [e]
    cases f with
    | all a =>
      obtain ⟨p, fd, lf, en, kvs, ls, us, M', e1, g, e2, x, s⟩ := q
      refine .cons ⟨p, fd, lf, en, kvs, ls, us, e1, g, by rw [e2]; exact List.mem_append_left _ List.mem_cons_self, x⟩ ?_
      exact Paired.mapP s.all fun f v h => h.more fun p hp => by rw [e2]; exact List.mem_append_right _ hp
    | _ => exact .cons q.1 q.2.all
theorem FrAt.word {I : Hp} {f : Fr} {v : V} (h : FrAt I f v) : ∃ (p : Addr) (wd : Str) (rest : List V), v = .ref p ∧ I p = some (.tup (.str wd :: rest)) ∧ wd ≠ "all" := by
  cases f with
  | prim op b e => obtain ⟨p, vb, d, e, g, _⟩ := h; exact ⟨p, _, _, e, g, by decide +kernel⟩
  | prim2 op u => obtain ⟨p, x, e, g, _⟩ := h; exact ⟨p, _, _, e, g, by decide +kernel⟩
  | as m => obtain ⟨p, e, g⟩ := h; exact ⟨p, _, _, e, g, by decide +kernel⟩
  | count => obtain ⟨p, e, g⟩ := h; exact ⟨p, _, _, e, g, by decide +kernel⟩
  | fst => obtain ⟨p, e, g⟩ := h; exact ⟨p, _, _, e, g, by decide +kernel⟩
  | snd => obtain ⟨p, e, g⟩ := h; exact ⟨p, _, _, e, g, by decide +kernel⟩
  | ite a b e => obtain ⟨p, va, vb, d, e, g, _⟩ := h; exact ⟨p, _, _, e, g, by decide +kernel⟩
  | rep a b e => obtain ⟨p, va, vb, d, e, g, _⟩ := h; exact ⟨p, _, _, e, g, by decide +kernel⟩
  | rep2 a b e => obtain ⟨p, va, vb, d, e, g, _⟩ := h; exact ⟨p, _, _, e, g, by decide +kernel⟩
  | turns n f => obtain ⟨p, x, e, g, _⟩ := h; exact ⟨p, _, _, e, g, by decide +kernel⟩
  | call a e => obtain ⟨p, vb, d, e, g, _⟩ := h; exact ⟨p, _, _, e, g, by decide +kernel⟩
  | call2 f => obtain ⟨p, x, e, g, _⟩ := h; exact ⟨p, _, _, e, g, by decide +kernel⟩
  | pair a e => obtain ⟨p, vb, d, e, g, _⟩ := h; exact ⟨p, _, _, e, g, by decide +kernel⟩
  | pair2 f => obtain ⟨p, x, e, g, _⟩ := h; exact ⟨p, _, _, e, g, by decide +kernel⟩
  | idx a e => obtain ⟨p, vb, d, e, g, _⟩ := h; exact ⟨p, _, _, e, g, by decide +kernel⟩
  | idx2 f => obtain ⟨p, x, e, g, _⟩ := h; exact ⟨p, _, _, e, g, by decide +kernel⟩
  | share x m b n e => obtain ⟨p, vb, d, e, g, _⟩ := h; exact ⟨p, _, _, e, g, by decide +kernel⟩
  | all a => exact h.elim
def spFrameOf : Sp := fun vs H Q _ => ∃ I r ka kn most nv stk s M k, ∃ n : Nat, vs = [.ref r, .int (n : Int)] ∧ HS I M H ∧ RS I r ka kn most nv stk s M ∧ frameOf stk n = some k ∧
  ∀ fd kvs kd, H fd = some (.dK kvs) → valV kvs (.inr "known") = some (.ref kd) → I kd = some (.dK (knK k)) → Q (.ref fd) H
theorem findSome_drop {α β : Type} {f : α → Option β} {l : List α} {i : Nat} {x : α} (h : l[i]? = some x) : (l.drop i).findSome? f = (f x).or ((l.drop (i + 1)).findSome? f) := by
  have hi := (List.getElem?_eq_some_iff.mp h).1
  have e : l.drop i = x :: l.drop (i + 1) := by
    rw [List.drop_eq_getElem_cons hi]
    congr 1
    rw [List.getElem?_eq_getElem hi] at h
    exact Option.some.inj h
  rw [e, List.findSome?_cons]
  cases f x <;> rfl
theorem eqv_pl {p q : Pl} : PyData.eqv (.tuple [.int p.1, .int (p.2 : Int)]) (.tuple [.int q.1, .int (q.2 : Int)]) = decide (p = q) := by
  obtain ⟨i, k⟩ := p
  obtain ⟨j, l⟩ := q
  have h : PyData.eqv (.tuple [.int i, .int (k : Int)]) (.tuple [.int j, .int (l : Int)]) = (i == j && (k : Int) == (l : Int)) := by simp [PyData.eqv, PyData.eqvAll]
  show PyData.eqv (.tuple [.int i, .int (k : Int)]) (.tuple [.int j, .int (l : Int)]) = _
  rw [h]
  by_cases e : i = j
  · subst e
    by_cases e2 : k = l
    · subst e2; simp
    · have : ((k : Int) == (l : Int)) = false := by simp; omega
      rw [this]
      simp [e2]
  · simp [e]
theorem rds_data {I H : Hp} (sub : Same I H) : ∀ {pls : List Pl} {rs : List V}, Paired (PlAt I) pls rs → DpAll K H rs (pls.map fun p => .tuple [.int p.1, .int (p.2 : Int)])
  | _, _, .nil => .nil
  | _, _, .cons ⟨p, e, h⟩ t => by
    rw [e]
    exact .cons (.tup (SqT.of (sub _ _ h)) (.cons (.int _) (.cons (.int _) .nil))) (rds_data sub t)
theorem pls_shaped : ∀ (pls : List Pl), PyData.canLayAll0 (pls.map fun p => .tuple [.int p.1, .int (p.2 : Int)]) = true ∧ PyData.depthAll (pls.map fun p => .tuple [.int p.1, .int (p.2 : Int)]) ≤ 2
  | [] => ⟨rfl, Nat.zero_le _⟩
  | p :: r => by
    obtain ⟨h1, h2⟩ := pls_shaped r
    constructor
    · show (PyData.canLay0 (.tuple [.int p.1, .int (p.2 : Int)]) && PyData.canLayAll0 (r.map fun p => .tuple [.int p.1, .int (p.2 : Int)])) = true
      rw [h1]; rfl
    · show max (PyData.depth (.tuple [.int p.1, .int (p.2 : Int)])) (PyData.depthAll (r.map fun p => .tuple [.int p.1, .int (p.2 : Int)])) ≤ 2
      have : PyData.depth (.tuple [.int p.1, .int (p.2 : Int)]) ≤ 2 := by simp [PyData.depth, PyData.depthAll]
      omega
theorem any_pl {pls : List Pl} {q : Pl} : ((pls.map fun p => PyData.tuple [.int p.1, .int (p.2 : Int)]).any fun z => PyData.eqv z (.tuple [.int q.1, .int (q.2 : Int)])) = decide (q ∈ pls) := by
  induction pls with
  | nil => simp
  | cons p r ih =>
    rw [List.map_cons, List.any_cons, ih, eqv_pl]
    by_cases h : p = q
    · subst h; simp
    · have h2 : ¬ q = p := fun z => h z.symm
      simp [h, h2]
def spReadP : Sp := fun vs H Q _ => ∃ I r ka kn most nv stk s M rv, ∃ (k : Nat) (i : Int), vs = [.ref r, rv, .int i] ∧ SPre I H r ka kn most nv stk s M ∧ VAt .pack I (.given k) rv ∧ 0 ≤ i ∧ i < 4 ∧
  SPost I H r ka kn most M Q .non (match look kn (i, k) with
    | some d => some ⟨.value (.int d), stk, s⟩
    | none => some ⟨.stop (.given k) i, stk, s⟩)
abbrev N_turn : List Str := ["run", "left", "function", "value"]
theorem sc_turn : FnScope N_turn ["run", "left", "function", "value"] (defScope (top 39)) := fnScope_ok (by decide +kernel)
theorem ok_turn (D : DefAt K mg "turn" 39) (T : Txt K mg) (c_put : Cl P w K mg base 1 "put" spPut) : Cl P w K mg base 2 "turn" spTurn := by
  refine cl_mk (i := 39) (N := N_turn) (ps := ["run", "left", "function", "value"]) D sc_turn (fun _ _ _ _ _ _ us hl => match us, hl with | [_, _, _, _], _ => rfl) ?_ ?_
  · rintro vs H Q E ⟨I, r, ka, kn, most, nv, stk, s, M, fv, vv, f, v, n, rfl, _⟩
    rfl
  rintro f0 cdv A outer s0 H vs Q E hr ⟨I, r, ka, kn, most, nv, stk, s, M, fv, vv, f, v, n, rfl, pre, hst, hf, hv, post⟩
  refine ⟨_, (pss_one (ps_if (pt_cmpR op_eq (pv 1) pe_int (nomark _)) (pss_one (ps_dput (hu_of hr) (pv 0) pe_str (pe_tup (pa_cons pe_str (pa_cons (pv 3) pa_nil))) rfl)) (pss_cons (ps_expr (pe_bm PySem.F.plainAttrs_list PySem.F.slot_list_append PySem.F.type_list_append mt_append (pe_dget (hu_of hr) (pv 0) pe_str (fun _ _ => rfl)) (pa_cons (pe_tup (pa_cons pe_str (pa_cons (pe_op op_sub (pv 1) pe_int) (pa_cons (pv 2) pa_nil)))) pa_nil))) (pss_one (ps_dput (hu_of hr) (pv 0) pe_str (pe_tup (pa_cons pe_str (pa_cons (pe_ix ix_tup (pv 2) pe_int (fun _ _ => rfl)) (pa_cons (pe_cl c_put hr (by omega) rfl (pa_cons (pe_ix ix_tup (pv 2) pe_int (fun _ _ => rfl)) (pa_cons (pe_ix ix_tup (pv 2) pe_int (fun _ _ => rfl)) (pa_cons (pv 3) pa_nil)))) pa_nil)))) rfl))))), ?_⟩
  have w0 := W.start pre.hs
  refine ⟨_, rfl, rfl, _, rfl, ?_⟩
  cases n with
  | zero =>
    refine tT rfl ⟨_, rfl, s2, fun n hnn => ?_⟩
    have w1 := w0.newI hnn (.tup [SS "value", vv])
    have u1 := w0.upI hnn (.tup [SS "value", vv])
    obtain ⟨H2, dp, q⟩ := now_end (now := .value v) pre.rs w1 ⟨n, _, rfl, upd_same, hv.mono u1⟩ post
    exact ⟨_, rfl, r, H2, rfl, dp, q⟩
  | succ n =>
    refine tF (by intro z; have := V.int.inj z; omega) ?_
    have post : SPost I H r ka kn most M Q .non (goF f v (.turns n f :: stk) s) := post
    cases f with
    | clo y b e =>
      obtain ⟨pf, vb, d, kvs, rfl, hpf, hb, hd, hl, he⟩ := id hf
      unfold goF at post
      dsimp only at post
      by_cases hlen : e.len < 1000
      · rw [if_pos hlen] at post
        obtain ⟨sk, rd, vs, rs, M2, rfl, hsr, hrd, hka⟩ := pre.rs.ex
        have hvl := hsr.len
        refine ⟨_, rfl, r, _, rfl, DG (w0.get (i := 0) rfl) rk_stack, .inl ⟨rfl, _, SqL.of (w0.get (i := 1) rfl)⟩, _, rfl, _, _, rfl, rfl, _, rfl, (by show 3 ≤ sizeLine; decide), fun n1 hn1 => ?_⟩
        have en : ((n + 1 : Nat) : Int) - 1 = (n : Int) := by omega
        have w1 := w0.newI hn1 (.tup [SS "turns", .int (((n + 1 : Nat) : Int) - 1), .ref pf])
        have u1 := w0.upI hn1 (.tup [SS "turns", .int (((n + 1 : Nat) : Int) - 1), .ref pf])
        refine ⟨sk, _, _, rfl, rfl, w1.get (i := 1) rfl, pre.stl hvl, ?_⟩
        have w2 := w1.push (.ref n1)
        have hpf2 := u1 _ _ hpf
        refine ⟨_, rfl, pf, _, _, _, rfl, rfl, SqT.of (w2.i hpf2), rfl, _, rfl, pf, _, _, _, rfl, rfl, SqT.of (w2.i hpf2), rfl, _, rfl, pf, _, _, _, rfl, rfl, SqT.of (w2.i hpf2), rfl, _, rfl, ?_⟩
        refine ⟨d, kvs, .inr y, vv, rfl, w2.i (u1 _ _ hd), small (by omega), fun n2 hn2 => ⟨(by show 3 ≤ sizeLine; decide), fun n3 hn3 => ?_⟩⟩
        have w3 := w2.newI hn2 (.dK (putK kvs (.inr y) vv))
        have u3 := w2.upI hn2 (.dK (putK kvs (.inr y) vv))
        have w4 := w3.newI hn3 (.tup [SS "eval", vb, .ref n2])
        have u4 := w3.upI hn3 (.tup [SS "eval", vb, .ref n2])
        have u := u1.trans (u3.trans u4)
        have hen : NAt .pack _ (e.put y v) n2 := ⟨_, u4 _ _ upd_same, by have := length_putK kvs (.inr y) vv; show _ ≤ e.len + 1; omega, (he.mono u).put (hv.mono u)⟩
        have hf1 : FrAt _ (.turns n (.clo y b e)) (.ref n1) := ⟨n1, .ref pf, rfl, by rw [← en]; exact u4 _ _ (u3 _ _ upd_same), hf.mono u⟩
        obtain ⟨H2, dp, q⟩ := now_end2 (now := .eval b (e.put y v)) ⟨sk, rd, .ref n1 :: vs, rs, M2, rfl, (hsr.mono u).push hf1, hrd.mono u, u _ _ hka⟩ w4 ⟨n3, vb, n2, rfl, upd_same, hb.mono u, hen⟩ post
        exact ⟨_, rfl, r, H2, rfl, dp, q⟩
      · rw [if_neg hlen] at post
        exact post.elim
    | _ => exact post.elim
abbrev N_frame_of : List Str := ["run", "mark", "frame"]
theorem sc_frame_of : FnScope N_frame_of ["run", "mark"] (defScope (top 49)) := fnScope_ok (by decide +kernel)
theorem ok_frame_of (D : DefAt K mg "frame_of" 49) (T : Txt K mg) : Cl P w K mg base 1 "frame_of" spFrameOf := by
  refine cl_mk (i := 49) (N := N_frame_of) (ps := ["run", "mark"]) D sc_frame_of (fun _ _ _ _ _ _ us hl => match us, hl with | [_, _], _ => rfl) ?_ ?_
  · rintro vs H Q E ⟨I, r, ka, kn, most, nv, stk, s, M, k, n, rfl, _⟩
    rfl
  rintro f0 cdv A outer s0 H vs Q E hr ⟨I, r, ka, kn, most, nv, stk, s, M, k, n, rfl, hs, rs0, hfo, q⟩
  refine ⟨_, (pss_cons (ps_for PassesOwn.never rfl (pi_list (pe_dget (hu_of hr) (pv 0) pe_str (fun _ _ => rfl))) (pg_name (i := 2) sc_frame_of.nd rfl (Or.inl rfl)) (pss_one (ps_if (PW.pt (pw_and (pt_cmpR op_eq (pe_ix ix_tup (pv 2) pe_int (fun _ _ => rfl)) pe_str (nomark _)) (pw_and1 (pt_cmpR op_eq (pe_dget (hu_of hr) (pe_ix ix_tup (pv 2) pe_int (fun _ _ => rfl)) pe_str (fun _ _ => rfl)) (pv 1) (nomark _))))) (pss_one (ps_ret (pe_ix ix_tup (pv 2) pe_int (fun _ _ => rfl)))) pss_nil))) (pss_one (ps_ret (pe_disp (pps_cons pe_str pe_dnewK pps_nil) (by rfl) (by rfl) (fun z => by cases z) (by decide))))), ?_⟩
  obtain ⟨sk, rd, vs, rs, M2, rfl, hsr, hrd, hka⟩ := rs0.ex
  have w0 := W.start hs
  have hall : Paired (FvAt I (cM r sk rd ka nv vs rs s most ++ M2)) stk.reverse vs.reverse := Paired.rev (Paired.mapP hsr.all fun f v h => h.more fun p hp => List.mem_append_right _ hp)
  refine ⟨_, rfl, r, _, rfl, DG (w0.get (i := 0) rfl) rk_stack, sk, rfl, ⟨_, SqL.of (w0.get (i := 1) rfl)⟩, ?_⟩
  refine for_list (K := K) (a := sk) (xs := vs.reverse) (fun j σ H' => H' = H ∧ (stk.reverse.drop j).findSome? (Fr.isAll n) = some k ∧ ∃ v2, σ = [some (.ref r), some (.int (n : Int)), v2]) ⟨rfl, hfo, none, rfl⟩ ?_ ?_ ?_
  · rintro j σ H' hj ⟨rfl, _⟩
    exact SqL.of (w0.get (i := 1) rfl)
  · rintro j x σ H' hx ⟨rfl, hfs, v2, rfl⟩
    obtain ⟨fr, hfr, hat⟩ := Paired.get hall hx
    rw [findSome_drop hfr] at hfs
    cases fr with
    | all a =>
      obtain ⟨p, fd, lf, en, kvs, ls, us, rfl, hp, hm, ai⟩ := hat
      obtain ⟨tv, ed, nv', bv, kd, rs', rfl, e2, h1, h2, h3, h4, h5, h6⟩ := ai.ex
      have hfd := w0.hs.mem _ hm
      refine ⟨_, rfl, p, _, _, _, rfl, rfl, SqT.of (w0.i hp), rfl, rfl, _, rfl, tT rfl ?_⟩
      refine ⟨_, rfl, p, _, _, _, rfl, rfl, SqT.of (w0.i hp), rfl, fd, _, rfl, DG hfd ak_mark, _, rfl, rfl, _, rfl, ?_⟩
      by_cases hm : a.mark = n
      · refine tT (by rw [hm]) ?_
        refine ⟨_, rfl, p, _, _, _, rfl, rfl, SqT.of (w0.i hp), rfl, ?_⟩
        have e : Fr.isAll n (.all a) = some a.known := by show (if a.mark = n then some a.known else none) = _; rw [if_pos hm]
        rw [e] at hfs
        have hfs : some a.known = some k := hfs
        cases hfs
        exact q fd _ kd hfd ak_known h4
      · refine tF (by intro z; have := V.int.inj z; omega) ?_
        have e : Fr.isAll n (.all a) = none := by show (if a.mark = n then some a.known else none) = _; rw [if_neg hm]
        rw [e] at hfs
        exact ⟨rfl, hfs, _, rfl⟩
    | _ =>
      obtain ⟨p, wd, rest, rfl, hp, hwd⟩ := FrAt.word (FvAt.fr hat (by intro a z; cases z))
      exact ⟨_, rfl, p, _, _, _, rfl, rfl, SqT.of (w0.i hp), atI_0 _ _, rfl, _, rfl, tF (ne_s hwd) (bF rfl ⟨rfl, hfs, _, rfl⟩)⟩
  · rintro σ H' ⟨rfl, hfs, v2, rfl⟩
    rw [List.drop_eq_nil_of_le (by rw [List.length_reverse, List.length_reverse, hsr.len]; exact Nat.le_refl _)] at hfs
    cases hfs
abbrev N_read_parameter : List Str := ["run", "row", "i", "place", "entries"]
theorem sc_read_parameter : FnScope N_read_parameter ["run", "row", "i"] (defScope (top 48)) := fnScope_ok (by decide +kernel)
theorem ok_read_parameter (D : DefAt K mg "read_parameter" 48) (T : Txt K mg) (c_told_entry : Cl P w K mg base 1 "told_entry" (fun _ _ _ _ => False)) : Cl P w K mg base 2 "read_parameter" spReadP := by
  refine cl_mk (i := 48) (N := N_read_parameter) (ps := ["run", "row", "i"]) D sc_read_parameter (fun _ _ _ _ _ _ us hl => match us, hl with | [_, _, _], _ => rfl) ?_ ?_
  · rintro vs H Q E ⟨I, r, ka, kn, most, nv, stk, s, M, rv, k, i, rfl, _⟩
    rfl
  rintro f0 cdv A outer s0 H vs Q E hr ⟨I, r, ka, kn, most, nv, stk, s, M, rv, k, i, rfl, pre, hv, hi0, hi4, post⟩
  refine ⟨_, (pss_cons (ps_par (i := 3) (j := 4) rfl sc_read_parameter.nd rfl rfl (by decide) rfl rfl (pa_cons (pe_tup (pa_cons (pv 2) (pa_cons (pe_ix ix_tup (pv 1) pe_int (fun _ _ => rfl)) pa_nil))) (pa_cons (pe_dget (hu_of hr) (pv 0) pe_str (fun _ _ => rfl)) pa_nil)) (by rfl)) (pss_cons (ps_if (PW.pt (pw_and (pt_val (pe_callB call_isi (by rfl) T.isinstance (by decide +kernel) (pa_cons (pv 4) (pa_cons (pe_bltn (v := .ty "dict") (u := .type "dict") (by rfl) T.dict (by decide +kernel) rfl) pa_nil)))) (pw_and1 (pt_cmp (pc_dnotin (hu_of hr) (pv 3) (pv 4)))))) (pss_cons (ps_dput (hu_of hr) (pv 0) pe_str (pe_tup (pa_cons pe_str (pa_cons (pv 1) (pa_cons (pv 2) pa_nil)))) rfl) (pss_one ps_retN)) pss_nil) (pss_cons (ps_if (pt_cmpR (op_notInD (hu65 hr)) (pv 3) (pe_dget (hu_of hr) (pv 0) pe_str (fun _ _ => rfl)) (by rfl)) (pss_one (ps_expr (pe_bm PySem.F.plainAttrs_list PySem.F.slot_list_append PySem.F.type_list_append mt_append (pe_dget (hu_of hr) (pv 0) pe_str (fun _ _ => rfl)) (pa_cons (pv 3) pa_nil)))) pss_nil) (pss_one (ps_dput (hu_of hr) (pv 0) pe_str (pe_tup (pa_cons pe_str (pa_cons (pe_ifExp (pt_val (pe_callB call_isi (by rfl) T.isinstance (by decide +kernel) (pa_cons (pv 4) (pa_cons (pe_bltn (v := .ty "dict") (u := .type "dict") (by rfl) T.dict (by decide +kernel) rfl) pa_nil)))) (pe_dget (hu_of hr) (pv 4) (pv 3) (fun _ _ => rfl)) (pe_cl c_told_entry hr (by omega) rfl (pa_cons (pe_dget (hu_of hr) (pv 4) (pe_ix ix_tup (pv 1) pe_int (fun _ _ => rfl)) (fun _ _ => rfl)) (pa_cons (pv 2) pa_nil)))) pa_nil))) rfl))))), ?_⟩
  have w0 := W.start pre.hs
  obtain ⟨p, rfl, hp⟩ := id hv
  obtain ⟨sk, rd, vs, rs, M2, rfl, hsr, hrd, hka⟩ := pre.rs.ex
  refine ⟨_, rfl, _, rfl, p, _, _, _, rfl, rfl, SqT.of (w0.i hp), rfl, s2, fun n hn => ?_⟩
  have w1 := w0.newI hn (.tup [.int i, .int (k : Int)])
  have u1 := w0.upI hn (.tup [.int i, .int (k : Int)])
  have hn1 : upd I n (.tup [.int i, .int (k : Int)]) n = some (.tup ((plK (i, k)).map kV)) := upd_same
  refine ⟨_, rfl, r, _, rfl, DG (w1.get (i := 0) rfl) rk_entries, _, _, rfl, ?_⟩
  refine ⟨_, rfl, _, _, _, _, _, rfl, .ty _, .base (.dT (w1.i (u1 _ _ hka))), rfl, ?_⟩
  refine ⟨_, rfl, iteT ?_⟩
  refine ⟨_, rfl, _, rfl, ka, _, rfl, DGet.t (w1.i (u1 _ _ hka)) (w1.i hn1), _, rfl, ?_⟩
  rw [valV_knP]
  have rs1 : RS _ r ka kn most nv stk s _ := pre.rs.mono u1
  cases hl : look kn (i, k) with
  | none =>
    rw [hl] at post
    refine bT (by rfl) ?_
    refine ⟨_, rfl, _, rfl, (by show 3 ≤ sizeLine; decide), fun n2 hn2 => ?_⟩
    have w2 := w1.newI hn2 (.tup [SS "stop", .ref p, .int i])
    have u2 := w1.upI hn2 (.tup [SS "stop", .ref p, .int i])
    obtain ⟨H2, dp, q⟩ := now_end2 (now := .stop (.given k) i) (rs1.mono u2) w2 ⟨n2, _, rfl, upd_same, hv.mono (u1.trans u2)⟩ post
    exact ⟨_, rfl, r, H2, rfl, dp, q⟩
  | some dg =>
    rw [hl] at post
    refine bF (by rfl) ?_
    obtain ⟨pls, hpl, hnd, hsub⟩ := (hrd.mono u1).ex
    obtain ⟨hd2, hd3⟩ := pls_shaped pls
    have hq : upd H n (.tup [.int i, .int (k : Int)]) rd = some (.lst rs) := w1.get (i := 2) rfl
    refine ⟨_, rfl, _, rfl, r, _, rfl, DG (w1.get (i := 0) rfl) rk_read, .tuple [.int i, .int (k : Int)], _, .tup (SqT.of (w1.i hn1)) (.cons (.int _) (.cons (.int _) .nil)), .lst (SqL.of hq) (rds_data w1.hs.sub hpl), ?_, ?_, _, rfl, ?_⟩
    · unfold SeqAt.shaped
      simp [PyData.depth, PyData.depthAll, PyData.canLay0, PyData.canLayAll0]
    · unfold SeqAt.shaped
      have : PyData.canLay0 (.list (pls.map fun p => .tuple [.int p.1, .int (p.2 : Int)])) = true := hd2
      have h4 : PyData.depth (.list (pls.map fun p => .tuple [.int p.1, .int (p.2 : Int)])) ≤ 64 := by
        show PyData.depthAll _ + 1 ≤ 64
        omega
      rw [this, decide_eq_true h4]
      rfl
    have hmem : (i, k) ∈ kn.map (·.1) := Decidable.byContradiction fun z => by
      rw [look_none0.mpr z] at hl
      cases hl
    have ea : ((pls.map fun p => PyData.tuple [.int p.1, .int (p.2 : Int)]).any fun z => PyData.eqv z (.tuple [.int i, .int (k : Int)])) = decide ((i, k) ∈ pls) := any_pl (q := (i, k))
    rw [ea]
    by_cases hin : (i, k) ∈ pls
    · refine nF hin ?_
      refine ⟨_, rfl, _, _, _, _, _, rfl, .ty _, .base (.dT (w1.i (u1 _ _ hka))), rfl, ?_⟩
      refine ⟨_, rfl, iteT ?_⟩
      refine ⟨_, rfl, _, rfl, ka, V.int dg, rfl, ?_, s2, fun n2 hn2 => ?_⟩
      · have z := DGet.t (w1.i (u1 _ _ hka)) (w1.i hn1)
        rw [valV_knP, hl] at z
        exact z
      have w2 := w1.newI hn2 (.tup [SS "value", .int dg])
      have u2 := w1.upI hn2 (.tup [SS "value", .int dg])
      obtain ⟨H2, dp, q⟩ := now_end2 (now := .value (.int dg)) (rs1.mono u2) w2 ⟨n2, _, rfl, upd_same, rfl⟩ post
      exact ⟨_, rfl, r, H2, rfl, dp, q⟩
    · refine nT hin ?_
      have hrl : rs.length < sizeLine := by
        have := hrd.len
        have := pre.gk
        exact small (by omega)
      refine ⟨_, rfl, r, _, rfl, DG (w1.get (i := 0) rfl) rk_read, .inl ⟨rfl, _, SqL.of hq⟩, _, rfl, rd, rs, _, rfl, rfl, hq, hrl, ?_⟩
      have w2 : W _ I H _ (cM r sk rd ka nv vs (rs ++ [V.ref n]) s most ++ M2) _ := w1.set (i := 2) rfl (.lst (rs ++ [V.ref n]))
      have hrd2 : Rds (upd I n (.tup [.int i, .int (k : Int)])) kn (rs ++ [V.ref n]) := by
        refine ⟨⟨pls ++ [(i, k)], Paired.app hpl (.cons ⟨n, rfl, hn1⟩ .nil), ?_, fun p hp => ?_⟩⟩
        · exact List.nodup_append.mpr ⟨hnd, by simp, fun a ha b hb e => hin (by rw [← List.mem_singleton.mp hb, ← e]; exact ha)⟩
        · rcases List.mem_append.mp hp with z | z
          · exact hsub p z
          · rw [List.mem_singleton.mp z]; exact hmem
      refine ⟨_, rfl, _, _, _, _, _, rfl, .ty _, .base (.dT (w2.i (u1 _ _ hka))), rfl, ?_⟩
      refine ⟨_, rfl, iteT ?_⟩
      refine ⟨_, rfl, _, rfl, ka, V.int dg, rfl, ?_, s2, fun n2 hn2 => ?_⟩
      · have z := DGet.t (w2.i (u1 _ _ hka)) (w2.i hn1)
        rw [valV_knP, hl] at z
        exact z
      have w3 := w2.newI hn2 (.tup [SS "value", .int dg])
      have u3 := w2.upI hn2 (.tup [SS "value", .int dg])
      obtain ⟨H2, dp, q⟩ := now_end2 (now := .value (.int dg)) ⟨⟨sk, rd, vs, _, M2, rfl, hsr.mono (u1.trans u3), hrd2.mono u3, (u1.trans u3) _ _ hka⟩⟩ w3 ⟨n2, _, rfl, upd_same, rfl⟩ post
      exact ⟨_, rfl, r, H2, rfl, dp, q⟩
abbrev N_give_at_2 : List Str := ["run", "frame", "value", "row", "known"]
theorem sc_give_at_2 : FnScope N_give_at_2 ["run", "frame", "value"] (defScope (top 45)) := fnScope_ok (by decide +kernel)
theorem ok_give_at_2 (D : DefAt K mg "give_at_2" 45) (T : Txt K mg) (c_put : Cl P w K mg base 1 "put" spPut) (c_frame_of : Cl P w K mg base 1 "frame_of" spFrameOf) (c_read_parameter : Cl P w K mg base 2 "read_parameter" spReadP) : Cl P w K mg base 3 "give_at_2" (spGive fun f => ∃ u, f = .idx2 u) := by
  refine cl_mk (i := 45) (N := N_give_at_2) (ps := ["run", "frame", "value"]) D sc_give_at_2 (fun _ _ _ _ _ _ us hl => match us, hl with | [_, _, _], _ => rfl) ?_ ?_
  · rintro vs H Q E ⟨I, r, ka, kn, most, nv, stk, s, M, fv, vv, f, v, rfl, _⟩
    rfl
  rintro f0 cdv A outer s0 H vs Q E hr ⟨I, r, ka, kn, most, nv, stk, s, M, fv, vv, f, v, rfl, pre, hst, hf, hv, hc, post⟩
  refine ⟨_, (pss_cons (ps_set (i := 3) sc_give_at_2.nd rfl (Or.inl rfl) (pe_ix ix_tup (pv 1) pe_int (fun _ _ => rfl))) (pss_one (ps_if (pt_cmpR op_eq (pe_ix ix_tup (pv 3) pe_int (fun _ _ => rfl)) pe_str (nomark _)) (pss_one (ps_dput (hu_of hr) (pv 0) pe_str (pe_tup (pa_cons pe_str (pa_cons (pe_ix ix_tup (pv 3) pe_int (fun _ _ => rfl)) (pa_cons (pe_cl c_put hr (by omega) rfl (pa_cons (pe_ix ix_tup (pv 3) pe_int (fun _ _ => rfl)) (pa_cons (pe_ix ix_tup (pv 3) pe_int (fun _ _ => rfl)) (pa_cons (pv 2) pa_nil)))) pa_nil)))) rfl)) (pss_one (ps_if (pt_cmpR op_eq (pe_ix ix_tup (pv 3) pe_int (fun _ _ => rfl)) pe_str (nomark _)) (pss_one (ps_dput (hu_of hr) (pv 0) pe_str (pe_tup (pa_cons pe_str (pa_cons (pe_dget2 (hu_of hr) (pe_ix ix_tup (pv 3) pe_int (fun _ _ => rfl)) (pv 2) pe_int ⟨rfl, rfl, rfl, rfl⟩) pa_nil))) rfl)) (pss_one (ps_if (pt_cmpR op_eq (pe_ix ix_tup (pv 3) pe_int (fun _ _ => rfl)) pe_str (nomark _)) (pss_cons (ps_set (i := 4) sc_give_at_2.nd rfl (Or.inl rfl) (pe_dget (hu_of hr) (pe_cl c_frame_of hr (by omega) rfl (pa_cons (pv 0) (pa_cons (pe_ix ix_tup (pv 3) pe_int (fun _ _ => rfl)) pa_nil))) pe_str (fun _ _ => rfl))) (pss_one (ps_dput (hu_of hr) (pv 0) pe_str (pe_ifExp (pt_cmp (pc_din (hu_of hr) (pv 2) (pv 4))) (pe_tup (pa_cons pe_str (pa_cons (pe_dget (hu_of hr) (pv 4) (pv 2) (fun _ _ => rfl)) pa_nil))) (pe_tup (pa_cons pe_str (pa_cons (pv 3) (pa_cons (pv 2) pa_nil))))) rfl))) (pss_one (ps_expr (pe_cl c_read_parameter hr (by omega) rfl (pa_cons (pv 0) (pa_cons (pv 3) (pa_cons (pv 2) pa_nil))))))))))))), ?_⟩
  obtain ⟨u, rfl⟩ := hc
  obtain ⟨p, x, rfl, hp, hu⟩ := hf
  have w0 := W.start pre.hs
  have post : SPost I H r ka kn most M Q .non (readC kn u v stk s) := post
  refine ⟨_, rfl, p, _, _, _, rfl, rfl, SqT.of (w0.i hp), rfl, ?_⟩
  cases v with
  | int i =>
    obtain rfl : vv = V.int i := hv
    cases u with
    | made y b e =>
      obtain ⟨pf, vb, d, kvs, rfl, hpf, hb, hd, hl, he⟩ := hu
      unfold readC at post
      dsimp only at post
      by_cases hlen : e.len < 1000
      · rw [if_pos hlen] at post
        refine ⟨_, rfl, pf, _, _, _, rfl, rfl, SqT.of (w0.i hpf), rfl, rfl, _, rfl, tT rfl ?_⟩
        refine ⟨_, rfl, pf, _, _, _, rfl, rfl, SqT.of (w0.i hpf), rfl, _, rfl, pf, _, _, _, rfl, rfl, SqT.of (w0.i hpf), rfl, _, rfl, pf, _, _, _, rfl, rfl, SqT.of (w0.i hpf), rfl, _, rfl, ?_⟩
        refine ⟨d, kvs, .inr y, .int i, rfl, w0.i hd, small (by omega), fun n1 hn1 => ⟨(by show 3 ≤ sizeLine; decide), fun n hnn => ?_⟩⟩
        have w1 := w0.newI hn1 (.dK (putK kvs (.inr y) (.int i)))
        have u1 := w0.upI hn1 (.dK (putK kvs (.inr y) (.int i)))
        have w2 := w1.newI hnn (.tup [SS "eval", vb, .ref n1])
        have u2 := w1.upI hnn (.tup [SS "eval", vb, .ref n1])
        have hen : NAt .pack _ (e.put y (.int i)) n1 := ⟨_, u2 _ _ upd_same, by have := length_putK kvs (.inr y) (.int i); show _ ≤ e.len + 1; omega, (he.mono (u1.trans u2)).put rfl⟩
        obtain ⟨H2, dp, q⟩ := now_end (now := .eval b (e.put y (.int i))) pre.rs w2 ⟨n, vb, n1, rfl, upd_same, hb.mono (u1.trans u2), hen⟩ post
        exact ⟨_, rfl, r, H2, rfl, dp, q⟩
      · rw [if_neg hlen] at post
        exact post.elim
    | found k =>
      obtain ⟨pf, d, rfl, hpf, hd⟩ := hu
      refine ⟨_, rfl, pf, _, _, _, rfl, rfl, SqT.of (w0.i hpf), rfl, rfl, _, rfl, tF (by decide +kernel) ?_⟩
      refine ⟨_, rfl, pf, _, _, _, rfl, rfl, SqT.of (w0.i hpf), rfl, rfl, _, rfl, tT rfl ?_⟩
      refine ⟨_, rfl, pf, _, _, _, rfl, rfl, SqT.of (w0.i hpf), rfl, d, rfl, .inl ⟨_, .inl (w0.i hd)⟩, _, rfl, _, DGi (w0.i hd) rfl, ?_⟩
      rw [getV]
      refine ⟨s2, fun n hnn => ?_⟩
      have w1 := w0.newI hnn (.tup [SS "value", .int ((look k i).getD 0)])
      obtain ⟨H2, dp, q⟩ := now_end (now := .value (.int ((look k i).getD 0))) pre.rs w1 ⟨n, _, rfl, upd_same, rfl⟩ post
      exact ⟨_, rfl, r, H2, rfl, dp, q⟩
    | gone g =>
      obtain ⟨pf, rfl, hpf⟩ := id hu
      refine ⟨_, rfl, pf, _, _, _, rfl, rfl, SqT.of (w0.i hpf), rfl, rfl, _, rfl, tF (by decide +kernel) ?_⟩
      refine ⟨_, rfl, pf, _, _, _, rfl, rfl, SqT.of (w0.i hpf), rfl, rfl, _, rfl, tF (by decide +kernel) ?_⟩
      refine ⟨_, rfl, pf, _, _, _, rfl, rfl, SqT.of (w0.i hpf), rfl, rfl, _, rfl, tT rfl ?_⟩
      unfold readC at post
      dsimp only at post
      by_cases hi : 0 ≤ i ∧ i < 4
      · rw [if_pos hi] at post
        cases hfo : frameOf stk (g + 1) with
        | none => rw [hfo] at post; exact post.elim
        | some k =>
          rw [hfo] at post
          dsimp only at post
          refine ⟨_, rfl, _, rfl, pf, _, _, _, rfl, rfl, SqT.of (w0.i hpf), rfl, ?_⟩
          refine ⟨I, r, ka, kn, most, nv, stk, s, M, k, g + 1, rfl, pre.hs, pre.rs, hfo, fun fd kvs kd hfd hkd hk => ?_⟩
          refine ⟨fd, _, rfl, DG hfd hkd, ?_⟩
          refine ⟨_, rfl, _, rfl, kd, _, rfl, DGi (w0.i hk) rfl, _, rfl, ?_⟩
          rw [valV_kn]
          cases hl : look k i with
          | some dg =>
            rw [hl] at post
            refine bT (by rfl) ?_
            refine ⟨_, rfl, _, rfl, kd, V.int dg, rfl, DGi (w0.i hk) (by rw [valV_kn, hl]; rfl), s2, fun n hnn => ?_⟩
            have w1 := w0.newI hnn (.tup [SS "value", .int dg])
            obtain ⟨H2, dp, q⟩ := now_end (now := .value (.int dg)) pre.rs w1 ⟨n, _, rfl, upd_same, rfl⟩ post
            exact ⟨_, rfl, r, H2, rfl, dp, q⟩
          | none =>
            rw [hl] at post
            refine bF (by rfl) ?_
            refine ⟨_, rfl, _, rfl, (by show 3 ≤ sizeLine; decide), fun n hnn => ?_⟩
            have w1 := w0.newI hnn (.tup [SS "stop", .ref pf, .int i])
            have u1 := w0.upI hnn (.tup [SS "stop", .ref pf, .int i])
            obtain ⟨H2, dp, q⟩ := now_end (now := .stop (.gone g) i) pre.rs w1 ⟨n, _, rfl, upd_same, hu.mono u1⟩ post
            exact ⟨_, rfl, r, H2, rfl, dp, q⟩
      · rw [if_neg hi] at post
        exact post.elim
    | given k =>
      obtain ⟨pf, rfl, hpf⟩ := id hu
      refine ⟨_, rfl, pf, _, _, _, rfl, rfl, SqT.of (w0.i hpf), rfl, rfl, _, rfl, tF (by decide +kernel) ?_⟩
      refine ⟨_, rfl, pf, _, _, _, rfl, rfl, SqT.of (w0.i hpf), rfl, rfl, _, rfl, tF (by decide +kernel) ?_⟩
      refine ⟨_, rfl, pf, _, _, _, rfl, rfl, SqT.of (w0.i hpf), rfl, rfl, _, rfl, tF (by decide +kernel) ?_⟩
      unfold readC at post
      dsimp only at post
      by_cases hi : 0 ≤ i ∧ i < 4
      · rw [if_pos hi] at post
        refine ⟨_, rfl, _, rfl, _, rfl, ?_⟩
        exact ⟨I, r, ka, kn, most, nv, stk, s, M, .ref pf, k, i, rfl, pre, hu, hi.1, hi.2, post⟩
      · rw [if_neg hi] at post
        exact post.elim
    | _ => exact post.elim
  | _ => cases u <;> exact post.elim
end
end KW
set_option Elab.async false
set_option linter.all false
set_option maxRecDepth 100000
set_option maxHeartbeats 4000000
/-! B4: a quantifier begun; a term's step. -/
namespace KW
open PySem PySem.Spec PyProof.Rows L2 
section
variable {P : Program} {w : World} {K : PySem.W.Frag} {mg : Str → Option Value} {base : Heap}

def spBegin : Sp := fun vs H Q _ => ∃ I r ka kn most nv stk s M tv ed nvv bv wd x b env num, ∃ m : Nat, vs = [.ref r, tv, .ref ed, nvv] ∧ SPre I H r ka kn most nv stk s M ∧ TermOf I ⟨wd, x, m, b, env, num, 0, [], [], []⟩ tv nvv bv ∧ TmAt I b bv ∧ NAt .pack I env ed ∧
  SPost I H r ka kn most M Q .non (beginC wd x m b env num stk s)
theorem permPush {α : Type} (C F : List α) (a b c : α) : (C ++ F ++ [a] ++ [b] ++ [c]).Perm (C ++ ([a, b, c] ++ F)) := by
  have e : C ++ F ++ [a] ++ [b] ++ [c] = C ++ (F ++ [a, b, c]) := by simp
  rw [e]
  exact List.Perm.append_left C List.perm_append_comm
theorem am_new {tv ev nv bv kd lf en : V} {mk : Nat} : mergeK [] [(.inr "term", tv), (.inr "env", ev), (.inr "number", nv), (.inr "mark", .int (mk : Int)), (.inr "body", bv), (.inr "known", kd), (.inr "left", lf), (.inr "ends", en), (.inr "game", .non)] = afK tv ev nv mk bv kd lf en := by kernel_rfl
abbrev N_begin : List Str := ["run", "term", "env", "number", "body", "frame"]
theorem sc_begin : FnScope N_begin ["run", "term", "env", "number"] (defScope (top 30)) := fnScope_ok (by decide +kernel)
theorem ok_begin (D : DefAt K mg "begin" 30) (T : Txt K mg) (c_put : Cl P w K mg base 1 "put" spPut) : Cl P w K mg base 2 "begin" spBegin := by
  refine cl_mk (i := 30) (N := N_begin) (ps := ["run", "term", "env", "number"]) D sc_begin (fun _ _ _ _ _ _ us hl => match us, hl with | [_, _, _, _], _ => rfl) ?_ ?_
  · rintro vs H Q E ⟨I, r, ka, kn, most, nv, stk, s, M, tv, ed, nvv, bv, wd, x, b, env, num, m, rfl, _⟩
    rfl
  rintro f0 cdv A outer s0 H vs Q E hr ⟨I, r, ka, kn, most, nv, stk, s, M, tv, ed, nvv, bv, wd, x, b, env, num, m, rfl, pre, hto, hb, hen, post⟩
  refine ⟨_, (pss_cons (ps_dput (hu_of hr) (pv 0) pe_str (pe_op op_add (pe_dget (hu_of hr) (pv 0) pe_str (fun _ _ => rfl)) pe_int) rfl) (pss_cons (ps_set (i := 4) sc_begin.nd rfl (Or.inl rfl) (pe_ifExp (pt_cmpR op_eq (pe_ix ix_tup (pv 1) pe_int (fun _ _ => rfl)) pe_str (nomark _)) (pe_ix ix_tup (pv 1) pe_int (fun _ _ => rfl)) (pe_ix ix_tup (pv 1) pe_int (fun _ _ => rfl)))) (pss_cons (ps_set (i := 5) sc_begin.nd rfl (Or.inl rfl) (pe_disp (pps_cons pe_str (pv 1) (pps_cons pe_str (pv 2) (pps_cons pe_str (pv 3) (pps_cons pe_str (pe_dget (hu_of hr) (pv 0) pe_str (fun _ _ => rfl)) (pps_cons pe_str (pv 4) (pps_cons pe_str pe_dnewK (pps_cons pe_str (pe_lst pa_nil) (pps_cons pe_str (pe_lst pa_nil) (pps_cons pe_str pe_non pps_nil))))))))) (by rfl) (by rfl) (fun z => by cases z) (by decide))) (pss_cons (ps_expr (pe_bm PySem.F.plainAttrs_list PySem.F.slot_list_append PySem.F.type_list_append mt_append (pe_dget (hu_of hr) (pv 0) pe_str (fun _ _ => rfl)) (pa_cons (pe_tup (pa_cons pe_str (pa_cons (pv 5) pa_nil))) pa_nil))) (pss_one (ps_dput (hu_of hr) (pv 0) pe_str (pe_tup (pa_cons pe_str (pa_cons (pv 4) (pa_cons (pe_cl c_put hr (by omega) rfl (pa_cons (pv 2) (pa_cons (pe_ix ix_tup (pv 1) pe_int (fun _ _ => rfl)) (pa_cons (pe_tup (pa_cons pe_str (pa_cons (pe_dget (hu_of hr) (pv 5) pe_str (fun _ _ => rfl)) pa_nil))) pa_nil)))) pa_nil)))) rfl)))))), ?_⟩
  have w0 := W.start pre.hs
  obtain ⟨sk, rd, vs, rs, M2, rfl, hsr, hrd, hka⟩ := pre.rs.ex
  have hvl := hsr.len
  obtain ⟨kvs, hkv, hkl, hea⟩ := hen
  unfold beginC at post
  by_cases hc : env.len < 1000 ∧ 2 ≤ m ∧ m ≤ 9
  · rw [if_pos hc] at post
    refine ⟨_, rfl, r, _, rfl, DG (w0.get (i := 0) rfl) rk_marks, _, _, rfl, rfl, _, rfl, r, _, rfl, DP (w0.get (i := 0) rfl) (rp_marks (n := s.marks + 1)) rk_len, ?_⟩
    have w1 : W _ I H I (cM r sk rd ka nv vs rs ⟨s.steps, s.marks + 1⟩ most ++ M2) _ := w0.set (i := 0) rfl (.dK (runK nv (.ref sk) (.ref ka) (.ref rd) s.steps most (s.marks + 1)))
    rcases id hto with ⟨hw, p, rfl, hp⟩ | ⟨rfl, hnum, p, vn, rfl, hp⟩
    · have hwc : wd ≠ "contest" := by
        rintro rfl
        have hw' : ("contest" : Str) ∈ ([("some" : Str), "every", "least", "greatest", "find"] : List Str) := hw
        revert hw'
        decide +kernel
      refine ⟨_, rfl, p, _, _, _, rfl, rfl, SqT.of (w1.i hp), atI_0 _ _, rfl, _, rfl, tF (ne_s hwc) ⟨_, rfl, p, _, _, _, rfl, rfl, SqT.of (w1.i hp), rfl, ?_⟩⟩
      refine fun fd hfd => ?_
      have w2 := w1.newM hfd (.dK [])
      refine ⟨_, rfl, _, rfl, _, rfl, _, rfl, r, _, rfl, DG (w2.get (i := 0) rfl) rk_marks, _, rfl, fun kd hkd => ⟨Nat.zero_le _, fun lf hlf => ⟨Nat.zero_le _, fun en hen' => ?_⟩⟩⟩
      have w3 := w2.newI hkd (.dK [])
      have u3 := w2.upI hkd (.dK [])
      have w4 := (w3.newM hlf (.lst [])).newM hen' (.lst [])
      have w5 := w4.perm (permPush _ _ _ _ _)
      refine ⟨w5.get (i := 3) rfl, [(.inr "term", .ref p), (.inr "env", .ref ed), (.inr "number", nvv), (.inr "mark", .int ((s.marks + 1 : Nat) : Int)), (.inr "body", bv), (.inr "known", .ref kd), (.inr "left", .ref lf), (.inr "ends", .ref en), (.inr "game", .non)], rfl, (by show 9 ≤ 15; decide), ?_⟩
      rw [am_new]
      have w6 := w5.set (i := 3) rfl (.dK (afK (.ref p) (.ref ed) nvv (s.marks + 1) bv (.ref kd) (.ref lf) (.ref en)))
      refine ⟨_, rfl, r, _, rfl, DG (w6.get (i := 0) rfl) rk_stack, .inl ⟨rfl, _, SqL.of (w6.get (i := 1) rfl)⟩, _, rfl, s2, fun t ht => ?_⟩
      have w7 := w6.newI ht (.tup [SS "all", .ref fd])
      have u7 := u3.trans (w6.upI ht (.tup [SS "all", .ref fd]))
      have w7 : W _ I H _ (cM r sk rd ka nv vs rs ⟨s.steps, s.marks + 1⟩ most ++ ([(fd, .dK (afK (.ref p) (.ref ed) nvv (s.marks + 1) bv (.ref kd) (.ref lf) (.ref en))), (lf, .lst []), (en, .lst [])] ++ M2)) _ := w7
      refine ⟨sk, _, _, rfl, rfl, w7.get (i := 1) rfl, pre.stl hvl, ?_⟩
      have w8 := w7.push (.ref t)
      have hp8 := u7 _ _ hp
      refine ⟨_, rfl, _, rfl, _, rfl, p, _, _, _, rfl, rfl, SqT.of (w8.i hp8), rfl, _, rfl, fd, _, rfl, DG (w8.get (i := 3) rfl) ak_mark, s2, fun nb hnb => ?_⟩
      have w9 := w8.newI hnb (.tup [SS "bound", .int ((s.marks + 1 : Nat) : Int)])
      have u9 := u7.trans (w8.upI hnb (.tup [SS "bound", .int ((s.marks + 1 : Nat) : Int)]))
      refine ⟨ed, kvs, .inr x, .ref nb, rfl, w9.i (u9 _ _ hkv), small (by omega), fun n1 hn1 => ⟨(by show 3 ≤ sizeLine; decide), fun n2 hn2 => ?_⟩⟩
      have w10 := w9.newI hn1 (.dK (putK kvs (.inr x) (.ref nb)))
      have u10 := w9.upI hn1 (.dK (putK kvs (.inr x) (.ref nb)))
      have w11 := w10.newI hn2 (.tup [SS "eval", bv, .ref n1])
      have u11 := w10.upI hn2 (.tup [SS "eval", bv, .ref n1])
      have uu := u9.trans (u10.trans u11)
      have hnb' := u11 _ _ (u10 _ _ (show upd _ nb _ nb = some _ from upd_same))
      have hnew : NAt .pack _ (env.put x (.gone s.marks)) n1 := ⟨_, u11 _ _ upd_same, by have := length_putK kvs (.inr x) (.ref nb); show _ ≤ env.len + 1; omega, (hea.mono uu).put ⟨nb, rfl, hnb'⟩⟩
      have ht' := w8.upI hnb (.tup [SS "bound", .int ((s.marks + 1 : Nat) : Int)]) _ _ (show upd _ t _ t = some (.tup [SS "all", .ref fd]) from upd_same)
      have hkd' : KnR _ [] kd := u11 _ _ (u10 _ _ (w8.upI hnb (.tup [SS "bound", .int ((s.marks + 1 : Nat) : Int)]) _ _ (w6.upI ht (.tup [SS "all", .ref fd]) _ _ (show upd _ kd _ kd = some (.dK (knK [])) from upd_same))))
      obtain ⟨H2, dp, q⟩ := now_end2 (now := .eval b (env.put x (.gone s.marks))) (stk := .all ⟨wd, x, m, b, env, num, s.marks + 1, [], [], []⟩ :: stk) (s := ⟨s.steps, s.marks + 1⟩) ⟨⟨sk, rd, .ref t :: vs, rs, _, rfl, ⟨.ref t, vs, rfl, t, fd, lf, en, _, _, _, M2, rfl, u11 _ _ (u10 _ _ ht'), rfl, ⟨⟨.ref p, ed, nvv, bv, kd, [], rfl, rfl, TermOf.mono uu hto, ⟨kvs, uu _ _ hkv, hkl, hea.mono uu⟩, hb.mono uu, hkd', .nil, rfl⟩⟩, hsr.mono uu⟩, hrd.mono uu, uu _ _ hka⟩⟩ w11 ⟨n2, bv, n1, rfl, upd_same, hb.mono uu, hnew⟩ post
      exact ⟨_, rfl, r, H2, rfl, dp, q⟩
    · refine ⟨_, rfl, p, _, _, _, rfl, rfl, SqT.of (w1.i hp), rfl, rfl, _, rfl, tF (by decide +kernel) ⟨_, rfl, p, _, _, _, rfl, rfl, SqT.of (w1.i hp), rfl, ?_⟩⟩
      refine fun fd hfd => ?_
      have w2 := w1.newM hfd (.dK [])
      refine ⟨_, rfl, _, rfl, _, rfl, _, rfl, r, _, rfl, DG (w2.get (i := 0) rfl) rk_marks, _, rfl, fun kd hkd => ⟨Nat.zero_le _, fun lf hlf => ⟨Nat.zero_le _, fun en hen' => ?_⟩⟩⟩
      have w3 := w2.newI hkd (.dK [])
      have u3 := w2.upI hkd (.dK [])
      have w4 := (w3.newM hlf (.lst [])).newM hen' (.lst [])
      have w5 := w4.perm (permPush _ _ _ _ _)
      refine ⟨w5.get (i := 3) rfl, [(.inr "term", .ref p), (.inr "env", .ref ed), (.inr "number", nvv), (.inr "mark", .int ((s.marks + 1 : Nat) : Int)), (.inr "body", bv), (.inr "known", .ref kd), (.inr "left", .ref lf), (.inr "ends", .ref en), (.inr "game", .non)], rfl, (by show 9 ≤ 15; decide), ?_⟩
      rw [am_new]
      have w6 := w5.set (i := 3) rfl (.dK (afK (.ref p) (.ref ed) nvv (s.marks + 1) bv (.ref kd) (.ref lf) (.ref en)))
      refine ⟨_, rfl, r, _, rfl, DG (w6.get (i := 0) rfl) rk_stack, .inl ⟨rfl, _, SqL.of (w6.get (i := 1) rfl)⟩, _, rfl, s2, fun t ht => ?_⟩
      have w7 := w6.newI ht (.tup [SS "all", .ref fd])
      have u7 := u3.trans (w6.upI ht (.tup [SS "all", .ref fd]))
      have w7 : W _ I H _ (cM r sk rd ka nv vs rs ⟨s.steps, s.marks + 1⟩ most ++ ([(fd, .dK (afK (.ref p) (.ref ed) nvv (s.marks + 1) bv (.ref kd) (.ref lf) (.ref en))), (lf, .lst []), (en, .lst [])] ++ M2)) _ := w7
      refine ⟨sk, _, _, rfl, rfl, w7.get (i := 1) rfl, pre.stl hvl, ?_⟩
      have w8 := w7.push (.ref t)
      have hp8 := u7 _ _ hp
      refine ⟨_, rfl, _, rfl, _, rfl, p, _, _, _, rfl, rfl, SqT.of (w8.i hp8), rfl, _, rfl, fd, _, rfl, DG (w8.get (i := 3) rfl) ak_mark, s2, fun nb hnb => ?_⟩
      have w9 := w8.newI hnb (.tup [SS "bound", .int ((s.marks + 1 : Nat) : Int)])
      have u9 := u7.trans (w8.upI hnb (.tup [SS "bound", .int ((s.marks + 1 : Nat) : Int)]))
      refine ⟨ed, kvs, .inr x, .ref nb, rfl, w9.i (u9 _ _ hkv), small (by omega), fun n1 hn1 => ⟨(by show 3 ≤ sizeLine; decide), fun n2 hn2 => ?_⟩⟩
      have w10 := w9.newI hn1 (.dK (putK kvs (.inr x) (.ref nb)))
      have u10 := w9.upI hn1 (.dK (putK kvs (.inr x) (.ref nb)))
      have w11 := w10.newI hn2 (.tup [SS "eval", bv, .ref n1])
      have u11 := w10.upI hn2 (.tup [SS "eval", bv, .ref n1])
      have uu := u9.trans (u10.trans u11)
      have hnb' := u11 _ _ (u10 _ _ (show upd _ nb _ nb = some _ from upd_same))
      have hnew : NAt .pack _ (env.put x (.gone s.marks)) n1 := ⟨_, u11 _ _ upd_same, by have := length_putK kvs (.inr x) (.ref nb); show _ ≤ env.len + 1; omega, (hea.mono uu).put ⟨nb, rfl, hnb'⟩⟩
      have ht' := w8.upI hnb (.tup [SS "bound", .int ((s.marks + 1 : Nat) : Int)]) _ _ (show upd _ t _ t = some (.tup [SS "all", .ref fd]) from upd_same)
      have hkd' : KnR _ [] kd := u11 _ _ (u10 _ _ (w8.upI hnb (.tup [SS "bound", .int ((s.marks + 1 : Nat) : Int)]) _ _ (w6.upI ht (.tup [SS "all", .ref fd]) _ _ (show upd _ kd _ kd = some (.dK (knK [])) from upd_same))))
      obtain ⟨H2, dp, q⟩ := now_end2 (now := .eval b (env.put x (.gone s.marks))) (stk := .all ⟨"share", x, m, b, env, num, s.marks + 1, [], [], []⟩ :: stk) (s := ⟨s.steps, s.marks + 1⟩) ⟨⟨sk, rd, .ref t :: vs, rs, _, rfl, ⟨.ref t, vs, rfl, t, fd, lf, en, _, _, _, M2, rfl, u11 _ _ (u10 _ _ ht'), rfl, ⟨⟨.ref p, ed, nvv, bv, kd, [], rfl, rfl, TermOf.mono uu hto, ⟨kvs, uu _ _ hkv, hkl, hea.mono uu⟩, hb.mono uu, hkd', .nil, rfl⟩⟩, hsr.mono uu⟩, hrd.mono uu, uu _ _ hka⟩⟩ w11 ⟨n2, bv, n1, rfl, upd_same, hb.mono uu, hnew⟩ post
      exact ⟨_, rfl, r, H2, rfl, dp, q⟩
  · rw [if_neg hc] at post
    exact post.elim
abbrev N_give_share : List Str := ["run", "frame", "value"]
theorem sc_give_share : FnScope N_give_share ["run", "frame", "value"] (defScope (top 46)) := fnScope_ok (by decide +kernel)
theorem ok_give_share (D : DefAt K mg "give_share" 46) (T : Txt K mg) (c_begin : Cl P w K mg base 2 "begin" spBegin) : Cl P w K mg base 3 "give_share" (spGive fun f => ∃ x m b n e, f = .share x m b n e) := by
  refine cl_mk (i := 46) (N := N_give_share) (ps := ["run", "frame", "value"]) D sc_give_share (fun _ _ _ _ _ _ us hl => match us, hl with | [_, _, _], _ => rfl) ?_ ?_
  · rintro vs H Q E ⟨I, r, ka, kn, most, nv, stk, s, M, fv, vv, f, v, rfl, _⟩
    rfl
  rintro f0 cdv A outer s0 H vs Q E hr ⟨I, r, ka, kn, most, nv, stk, s, M, fv, vv, f, v, rfl, pre, hst, hf, hv, hc, post⟩
  refine ⟨_, (pss_one (ps_expr (pe_cl c_begin hr (by omega) rfl (pa_cons (pv 0) (pa_cons (pe_ix ix_tup (pv 1) pe_int (fun _ _ => rfl)) (pa_cons (pe_ix ix_tup (pv 1) pe_int (fun _ _ => rfl)) (pa_cons (pv 2) pa_nil))))))), ?_⟩
  obtain ⟨x, m, b, n, e, rfl⟩ := hc
  obtain ⟨p, tv, d, rfl, hp, ht, hn⟩ := hf
  have w0 := W.start pre.hs
  obtain ⟨pt, vb, vn, rfl, hpt, hb, hvn⟩ := ht
  refine ⟨_, rfl, _, rfl, p, _, _, _, rfl, rfl, SqT.of (w0.i hp), rfl, _, rfl, p, _, _, _, rfl, rfl, SqT.of (w0.i hp), rfl, _, rfl, ?_⟩
  exact ⟨I, r, ka, kn, most, nv, stk, s, M, .ref pt, d, vv, vb, "share", x, b, e, v, m, rfl, pre, .inr ⟨rfl, hv, pt, vn, rfl, hpt⟩, hb, hn, post⟩

def spEval : Sp := fun vs H Q _ => ∃ I r ka kn most nv stk s M tv ed t env, vs = [.ref r, tv, .ref ed] ∧ SPre I H r ka kn most nv stk s M ∧ stk.length + 1 ≤ s.steps ∧ TmAt I t tv ∧ NAt .pack I env ed ∧
  SPost I H r ka kn most M Q .non (evalC t env stk s)
theorem qu_kind {wd : Str} (h : wd ∈ ([("some" : Str), "every", "least", "greatest", "find"] : List Str)) : inV (.str wd) [SS "var", SS "number", SS "digit"] = false ∧ wd ≠ "fn" ∧ wd ≠ "row" ∧ wd ≠ "prim" ∧ wd ≠ "as" ∧ inV (.str wd) [SS "count", SS "first", SS "second"] = false ∧
    inV (.str wd) [SS "if", SS "repeat"] = false ∧ inV (.str wd) [SS "call", SS "pair", SS "at"] = false ∧ wd ≠ "share" := by
  revert wd
  decide +kernel
abbrev N_step_eval : List Str := ["run", "term", "env", "kind"]
theorem sc_step_eval : FnScope N_step_eval ["run", "term", "env"] (defScope (top 28)) := fnScope_ok (by decide +kernel)
theorem ok_step_eval (D : DefAt K mg "step_eval" 28) (T : Txt K mg) (c_wait : Cl P w K mg base 1 "wait" spWait) (c_begin : Cl P w K mg base 2 "begin" spBegin) : Cl P w K mg base 3 "step_eval" spEval := by
  refine cl_mk (i := 28) (N := N_step_eval) (ps := ["run", "term", "env"]) D sc_step_eval (fun _ _ _ _ _ _ us hl => match us, hl with | [_, _, _], _ => rfl) ?_ ?_
  · rintro vs H Q E ⟨I, r, ka, kn, most, nv, stk, s, M, tv, ed, t, env, rfl, _⟩
    rfl
  rintro f0 cdv A outer s0 H vs Q E hr ⟨I, r, ka, kn, most, nv, stk, s, M, tv, ed, t, env, rfl, pre, hst, ht, hen, post⟩
  refine ⟨_, (pss_cons (ps_set (i := 3) sc_step_eval.nd rfl (Or.inl rfl) (pe_ix ix_tup (pv 1) pe_int (fun _ _ => rfl))) (pss_one (ps_if (pt_cmpR op_in_seq (pv 3) (pe_tup (pa_cons pe_str (pa_cons pe_str (pa_cons pe_str pa_nil)))) (by rfl)) (pss_one (ps_dput (hu_of hr) (pv 0) pe_str (pe_tup (pa_cons pe_str (pa_cons (pe_ifExp (pt_cmpR op_eq (pv 3) pe_str (nomark _)) (pe_dget (hu_of hr) (pv 2) (pe_ix ix_tup (pv 1) pe_int (fun _ _ => rfl)) (fun _ _ => rfl)) (pe_ix ix_tup (pv 1) (pe_un un_neg pe_int) (fun _ _ => rfl))) pa_nil))) rfl)) (pss_one (ps_if (pt_cmpR op_eq (pv 3) pe_str (nomark _)) (pss_one (ps_dput (hu_of hr) (pv 0) pe_str (pe_tup (pa_cons pe_str (pa_cons (pe_tup (pa_cons pe_str (pa_cons (pe_ix ix_tup (pv 1) pe_int (fun _ _ => rfl)) (pa_cons (pe_ix ix_tup (pv 1) pe_int (fun _ _ => rfl)) (pa_cons (pv 2) pa_nil))))) pa_nil))) rfl)) (pss_one (ps_if (pt_cmpR op_eq (pv 3) pe_str (nomark _)) (pss_one (ps_dput (hu_of hr) (pv 0) pe_str (pe_tup (pa_cons pe_str (pa_cons (pe_tup (pa_cons pe_str (pa_cons (pe_ix ix_tup (pv 1) pe_int (fun _ _ => rfl)) (pa_cons (pe_ix ix_tup (pv 1) pe_int (fun _ _ => rfl)) (pa_cons (pv 2) pa_nil))))) pa_nil))) rfl)) (pss_one (ps_if (pt_cmpR op_eq (pv 3) pe_str (nomark _)) (pss_one (ps_expr (pe_cl c_wait hr (by omega) rfl (pa_cons (pv 0) (pa_cons (pe_tup (pa_cons pe_str (pa_cons (pe_ix ix_tup (pv 1) pe_int (fun _ _ => rfl)) (pa_cons (pe_ix ix_tup (pe_ix ix_tup (pv 1) pe_int (fun _ _ => rfl)) pe_int (fun _ _ => rfl)) (pa_cons (pv 2) pa_nil))))) (pa_cons (pe_ix ix_tup (pe_ix ix_tup (pv 1) pe_int (fun _ _ => rfl)) pe_int (fun _ _ => rfl)) (pa_cons (pv 2) pa_nil))))))) (pss_one (ps_if (pt_cmpR op_eq (pv 3) pe_str (nomark _)) (pss_one (ps_expr (pe_cl c_wait hr (by omega) rfl (pa_cons (pv 0) (pa_cons (pe_tup (pa_cons pe_str (pa_cons (pe_ix ix_tup (pv 1) pe_int (fun _ _ => rfl)) pa_nil))) (pa_cons (pe_ix ix_tup (pv 1) pe_int (fun _ _ => rfl)) (pa_cons (pv 2) pa_nil))))))) (pss_one (ps_if (pt_cmpR op_in_seq (pv 3) (pe_tup (pa_cons pe_str (pa_cons pe_str (pa_cons pe_str pa_nil)))) (by rfl)) (pss_one (ps_expr (pe_cl c_wait hr (by omega) rfl (pa_cons (pv 0) (pa_cons (pe_tup (pa_cons (pv 3) pa_nil)) (pa_cons (pe_ix ix_tup (pv 1) pe_int (fun _ _ => rfl)) (pa_cons (pv 2) pa_nil))))))) (pss_one (ps_if (pt_cmpR op_in_seq (pv 3) (pe_tup (pa_cons pe_str (pa_cons pe_str pa_nil))) (by rfl)) (pss_one (ps_expr (pe_cl c_wait hr (by omega) rfl (pa_cons (pv 0) (pa_cons (pe_tup (pa_cons (pv 3) (pa_cons (pe_ix ix_tup (pv 1) pe_int (fun _ _ => rfl)) (pa_cons (pe_ix ix_tup (pv 1) pe_int (fun _ _ => rfl)) (pa_cons (pv 2) pa_nil))))) (pa_cons (pe_ix ix_tup (pv 1) pe_int (fun _ _ => rfl)) (pa_cons (pv 2) pa_nil))))))) (pss_one (ps_if (pt_cmpR op_in_seq (pv 3) (pe_tup (pa_cons pe_str (pa_cons pe_str (pa_cons pe_str pa_nil)))) (by rfl)) (pss_one (ps_expr (pe_cl c_wait hr (by omega) rfl (pa_cons (pv 0) (pa_cons (pe_tup (pa_cons (pv 3) (pa_cons (pe_ix ix_tup (pv 1) pe_int (fun _ _ => rfl)) (pa_cons (pv 2) pa_nil)))) (pa_cons (pe_ix ix_tup (pv 1) pe_int (fun _ _ => rfl)) (pa_cons (pv 2) pa_nil))))))) (pss_one (ps_if (pt_cmpR op_eq (pv 3) pe_str (nomark _)) (pss_one (ps_expr (pe_cl c_wait hr (by omega) rfl (pa_cons (pv 0) (pa_cons (pe_tup (pa_cons pe_str (pa_cons (pv 1) (pa_cons (pv 2) pa_nil)))) (pa_cons (pe_ix ix_tup (pv 1) pe_int (fun _ _ => rfl)) (pa_cons (pv 2) pa_nil))))))) (pss_one (ps_expr (pe_cl c_begin hr (by omega) rfl (pa_cons (pv 0) (pa_cons (pv 1) (pa_cons (pv 2) (pa_cons pe_non pa_nil)))))))))))))))))))))))))), ?_⟩
  have w0 := W.start pre.hs
  cases t with
  | var x =>
    obtain ⟨p, rfl, hp⟩ := ht
    refine ⟨_, rfl, p, _, _, _, rfl, rfl, SqT.of (w0.i hp), atI_0 _ _, ?_⟩
    refine ⟨_, rfl, (by show 3 ≤ sizeLine; decide), fun q0 hq0 => ⟨q0, _, rfl, .inr (SqT.of upd_same), rfl, rfl, _, rfl, bT (by decide +kernel) ?_⟩⟩
    have w1 := w0.same (same_up (o := .tup [SS "var", SS "number", SS "digit"]) hq0)
    have post : SPost I H r ka kn most M Q .non (valO stk s (env.look x)) := post
    obtain ⟨kvs, hkv, hkl, hea⟩ := id hen
    cases hlk : env.look x with
    | none => rw [hlk] at post; exact post.elim
    | some v =>
      rw [hlk] at post
      obtain ⟨u, hu, hv⟩ := hea.look (by simp) hlk
      refine ⟨_, rfl, rfl, _, rfl, tT rfl ⟨_, rfl, _, rfl, p, _, _, _, rfl, rfl, SqT.of (w1.i hp), rfl, ed, u, rfl, DG (w1.i hkv) hu, s2, fun n hnn => ?_⟩⟩
      have w9 := w1.newI hnn (.tup [SS "value", u])
      have u9 := w1.upI hnn (.tup [SS "value", u])
      obtain ⟨H2, dp, q⟩ := now_end (now := .value v) pre.rs w9 ⟨n, _, rfl, upd_same, hv.mono u9⟩ post
      exact ⟨_, rfl, r, H2, rfl, dp, q⟩
  | lit nn =>
    obtain ⟨p, rfl, hp | ⟨mm, hp⟩⟩ := ht
    · refine ⟨_, rfl, p, _, _, _, rfl, rfl, SqT.of (w0.i hp), atI_0 _ _, ?_⟩
      refine ⟨_, rfl, (by show 3 ≤ sizeLine; decide), fun q0 hq0 => ⟨q0, _, rfl, .inr (SqT.of upd_same), rfl, rfl, _, rfl, bT (by decide +kernel) ?_⟩⟩
      have w1 := w0.same (same_up (o := .tup [SS "var", SS "number", SS "digit"]) hq0)
      refine ⟨_, rfl, rfl, _, rfl, tF (by decide +kernel) ⟨_, rfl, _, rfl, p, _, _, _, rfl, rfl, SqT.of (w1.i hp), rfl, s2, fun n hnn => ?_⟩⟩
      have w9 := w1.newI hnn (.tup [SS "value", .int nn])
      have u9 := w1.upI hnn (.tup [SS "value", .int nn])
      obtain ⟨H2, dp, q⟩ := now_end (now := .value (.int nn)) pre.rs w9 ⟨n, _, rfl, upd_same, rfl⟩ post
      exact ⟨_, rfl, r, H2, rfl, dp, q⟩
    · refine ⟨_, rfl, p, _, _, _, rfl, rfl, SqT.of (w0.i hp), atI_0 _ _, ?_⟩
      refine ⟨_, rfl, (by show 3 ≤ sizeLine; decide), fun q0 hq0 => ⟨q0, _, rfl, .inr (SqT.of upd_same), rfl, rfl, _, rfl, bT (by decide +kernel) ?_⟩⟩
      have w1 := w0.same (same_up (o := .tup [SS "var", SS "number", SS "digit"]) hq0)
      refine ⟨_, rfl, rfl, _, rfl, tF (by decide +kernel) ⟨_, rfl, _, rfl, p, _, _, _, rfl, rfl, SqT.of (w1.i hp), rfl, s2, fun n hnn => ?_⟩⟩
      have w9 := w1.newI hnn (.tup [SS "value", .int nn])
      have u9 := w1.upI hnn (.tup [SS "value", .int nn])
      obtain ⟨H2, dp, q⟩ := now_end (now := .value (.int nn)) pre.rs w9 ⟨n, _, rfl, upd_same, rfl⟩ post
      exact ⟨_, rfl, r, H2, rfl, dp, q⟩
  | fn x b =>
    obtain ⟨p, ky, vb, rfl, hp, hb⟩ := ht
    refine ⟨_, rfl, p, _, _, _, rfl, rfl, SqT.of (w0.i hp), atI_0 _ _, ?_⟩
    refine ⟨_, rfl, (by show 3 ≤ sizeLine; decide), fun q0 hq0 => ⟨q0, _, rfl, .inr (SqT.of upd_same), rfl, rfl, _, rfl, bF (by decide +kernel) ?_⟩⟩
    have w1 := w0.same (same_up (o := .tup [SS "var", SS "number", SS "digit"]) hq0)
    refine ⟨_, rfl, rfl, _, rfl, tT rfl ?_⟩
    refine ⟨_, rfl, p, _, _, _, rfl, rfl, SqT.of (w1.i hp), rfl, _, rfl, p, _, _, _, rfl, rfl, SqT.of (w1.i hp), rfl, _, rfl, (by show 4 ≤ sizeLine; decide), fun n1 hn1 => ⟨s2, fun n hnn => ?_⟩⟩
    have w8 := w1.newI hn1 (.tup [SS "fn", .str x, vb, .ref ed])
    have u8 := w1.upI hn1 (.tup [SS "fn", .str x, vb, .ref ed])
    have w9 := w8.newI hnn (.tup [SS "value", .ref n1])
    have u9 := w8.upI hnn (.tup [SS "value", .ref n1])
    obtain ⟨kvs, hkv, hkl, hea⟩ := hen.mono (u8.trans u9)
    obtain ⟨H2, dp, q⟩ := now_end (now := .value (.clo x b env)) pre.rs w9 ⟨n, _, rfl, upd_same, n1, vb, ed, kvs, rfl, u9 _ _ upd_same, hb.mono (u8.trans u9), hkv, hkl, hea⟩ post
    exact ⟨_, rfl, r, H2, rfl, dp, q⟩
  | row x b =>
    obtain ⟨p, ky, vb, rfl, hp, hb⟩ := ht
    refine ⟨_, rfl, p, _, _, _, rfl, rfl, SqT.of (w0.i hp), atI_0 _ _, ?_⟩
    refine ⟨_, rfl, (by show 3 ≤ sizeLine; decide), fun q0 hq0 => ⟨q0, _, rfl, .inr (SqT.of upd_same), rfl, rfl, _, rfl, bF (by decide +kernel) ?_⟩⟩
    have w1 := w0.same (same_up (o := .tup [SS "var", SS "number", SS "digit"]) hq0)
    refine ⟨_, rfl, rfl, _, rfl, tF (by decide +kernel) ?_⟩
    refine ⟨_, rfl, rfl, _, rfl, tT rfl ?_⟩
    refine ⟨_, rfl, p, _, _, _, rfl, rfl, SqT.of (w1.i hp), rfl, _, rfl, p, _, _, _, rfl, rfl, SqT.of (w1.i hp), rfl, _, rfl, (by show 4 ≤ sizeLine; decide), fun n1 hn1 => ⟨s2, fun n hnn => ?_⟩⟩
    have w8 := w1.newI hn1 (.tup [SS "made", .str x, vb, .ref ed])
    have u8 := w1.upI hn1 (.tup [SS "made", .str x, vb, .ref ed])
    have w9 := w8.newI hnn (.tup [SS "value", .ref n1])
    have u9 := w8.upI hnn (.tup [SS "value", .ref n1])
    obtain ⟨kvs, hkv, hkl, hea⟩ := hen.mono (u8.trans u9)
    obtain ⟨H2, dp, q⟩ := now_end (now := .value (.made x b env)) pre.rs w9 ⟨n, _, rfl, upd_same, n1, vb, ed, kvs, rfl, u9 _ _ upd_same, hb.mono (u8.trans u9), hkv, hkl, hea⟩ post
    exact ⟨_, rfl, r, H2, rfl, dp, q⟩
  | prim op a b =>
    obtain ⟨p, q, va, vb, rfl, hp, hq, ha, hb⟩ := ht
    refine ⟨_, rfl, p, _, _, _, rfl, rfl, SqT.of (w0.i hp), atI_0 _ _, ?_⟩
    refine ⟨_, rfl, (by show 3 ≤ sizeLine; decide), fun q0 hq0 => ⟨q0, _, rfl, .inr (SqT.of upd_same), rfl, rfl, _, rfl, bF (by decide +kernel) ?_⟩⟩
    have w1 := w0.same (same_up (o := .tup [SS "var", SS "number", SS "digit"]) hq0)
    refine ⟨_, rfl, rfl, _, rfl, tF (by decide +kernel) ?_⟩
    refine ⟨_, rfl, rfl, _, rfl, tF (by decide +kernel) ?_⟩
    refine ⟨_, rfl, rfl, _, rfl, tT rfl ?_⟩
    refine ⟨_, rfl, _, rfl, p, _, _, _, rfl, rfl, SqT.of (w1.i hp), rfl, _, rfl, p, _, _, _, rfl, rfl, SqT.of (w1.i hp), rfl, q, _, _, _, rfl, rfl, SqT.of (w1.i hq), rfl, _, rfl,  (by show 4 ≤ sizeLine; decide), fun n hnn => ?_⟩
    have w9 := w1.newI hnn (.tup [SS "prim", .str op, vb, .ref ed])
    have u9 := w1.upI hnn (.tup [SS "prim", .str op, vb, .ref ed])
    have hp9 := u9 _ _ hp
    have hq9 := u9 _ _ hq
    refine ⟨_, rfl, p, _, _, _, rfl, rfl, SqT.of (w9.i hp9), rfl, q, _, _, _, rfl, rfl, SqT.of (w9.i hq9), rfl, _, rfl, ?_⟩
    exact ⟨_, r, ka, kn, most, nv, stk, s, M, .ref n, va, ed, .prim op b env, a, env, rfl, (pre.step w9 u9), ⟨n, vb, ed, rfl, upd_same, hb.mono u9, hen.mono u9⟩, ha.mono u9, hen.mono u9, post.from w9⟩
  | as m a =>
    obtain ⟨p, va, rfl, hp, ha⟩ := ht
    refine ⟨_, rfl, p, _, _, _, rfl, rfl, SqT.of (w0.i hp), atI_0 _ _, ?_⟩
    refine ⟨_, rfl, (by show 3 ≤ sizeLine; decide), fun q0 hq0 => ⟨q0, _, rfl, .inr (SqT.of upd_same), rfl, rfl, _, rfl, bF (by decide +kernel) ?_⟩⟩
    have w1 := w0.same (same_up (o := .tup [SS "var", SS "number", SS "digit"]) hq0)
    refine ⟨_, rfl, rfl, _, rfl, tF (by decide +kernel) ?_⟩
    refine ⟨_, rfl, rfl, _, rfl, tF (by decide +kernel) ?_⟩
    refine ⟨_, rfl, rfl, _, rfl, tF (by decide +kernel) ?_⟩
    refine ⟨_, rfl, rfl, _, rfl, tT rfl ?_⟩
    refine ⟨_, rfl, _, rfl, p, _, _, _, rfl, rfl, SqT.of (w1.i hp), rfl,  (by show 2 ≤ sizeLine; decide), fun n hnn => ?_⟩
    have w9 := w1.newI hnn (.tup [SS "as", .int m])
    have u9 := w1.upI hnn (.tup [SS "as", .int m])
    have hp9 := u9 _ _ hp
    refine ⟨_, rfl, p, _, _, _, rfl, rfl, SqT.of (w9.i hp9), rfl, _, rfl, ?_⟩
    exact ⟨_, r, ka, kn, most, nv, stk, s, M, .ref n, va, ed, .as m, a, env, rfl, (pre.step w9 u9), ⟨n, rfl, upd_same⟩, ha.mono u9, hen.mono u9, post.from w9⟩
  | count a =>
    obtain ⟨p, va, rfl, hp, ha⟩ := ht
    refine ⟨_, rfl, p, _, _, _, rfl, rfl, SqT.of (w0.i hp), atI_0 _ _, ?_⟩
    refine ⟨_, rfl, (by show 3 ≤ sizeLine; decide), fun q0 hq0 => ⟨q0, _, rfl, .inr (SqT.of upd_same), rfl, rfl, _, rfl, bF (by decide +kernel) ?_⟩⟩
    have w1 := w0.same (same_up (o := .tup [SS "var", SS "number", SS "digit"]) hq0)
    refine ⟨_, rfl, rfl, _, rfl, tF (by decide +kernel) ?_⟩
    refine ⟨_, rfl, rfl, _, rfl, tF (by decide +kernel) ?_⟩
    refine ⟨_, rfl, rfl, _, rfl, tF (by decide +kernel) ?_⟩
    refine ⟨_, rfl, rfl, _, rfl, tF (by decide +kernel) ?_⟩
    refine ⟨_, rfl, (by show 3 ≤ sizeLine; decide), fun q5 hq5 => ⟨q5, _, rfl, .inr (SqT.of upd_same), rfl, rfl, _, rfl, bT (by decide +kernel) ?_⟩⟩
    have w2 := w1.same (same_up (o := .tup [SS "count", SS "first", SS "second"]) hq5)
    refine ⟨_, rfl, _, rfl,  (by show 1 ≤ sizeLine; decide), fun n hnn => ?_⟩
    have w9 := w2.newI hnn (.tup [SS "count"])
    have u9 := w2.upI hnn (.tup [SS "count"])
    have hp9 := u9 _ _ hp
    refine ⟨_, rfl, p, _, _, _, rfl, rfl, SqT.of (w9.i hp9), rfl, _, rfl, ?_⟩
    exact ⟨_, r, ka, kn, most, nv, stk, s, M, .ref n, va, ed, .count, a, env, rfl, (pre.step w9 u9), ⟨n, rfl, upd_same⟩, ha.mono u9, hen.mono u9, post.from w9⟩
  | fst a =>
    obtain ⟨p, va, rfl, hp, ha⟩ := ht
    refine ⟨_, rfl, p, _, _, _, rfl, rfl, SqT.of (w0.i hp), atI_0 _ _, ?_⟩
    refine ⟨_, rfl, (by show 3 ≤ sizeLine; decide), fun q0 hq0 => ⟨q0, _, rfl, .inr (SqT.of upd_same), rfl, rfl, _, rfl, bF (by decide +kernel) ?_⟩⟩
    have w1 := w0.same (same_up (o := .tup [SS "var", SS "number", SS "digit"]) hq0)
    refine ⟨_, rfl, rfl, _, rfl, tF (by decide +kernel) ?_⟩
    refine ⟨_, rfl, rfl, _, rfl, tF (by decide +kernel) ?_⟩
    refine ⟨_, rfl, rfl, _, rfl, tF (by decide +kernel) ?_⟩
    refine ⟨_, rfl, rfl, _, rfl, tF (by decide +kernel) ?_⟩
    refine ⟨_, rfl, (by show 3 ≤ sizeLine; decide), fun q5 hq5 => ⟨q5, _, rfl, .inr (SqT.of upd_same), rfl, rfl, _, rfl, bT (by decide +kernel) ?_⟩⟩
    have w2 := w1.same (same_up (o := .tup [SS "count", SS "first", SS "second"]) hq5)
    refine ⟨_, rfl, _, rfl,  (by show 1 ≤ sizeLine; decide), fun n hnn => ?_⟩
    have w9 := w2.newI hnn (.tup [SS "first"])
    have u9 := w2.upI hnn (.tup [SS "first"])
    have hp9 := u9 _ _ hp
    refine ⟨_, rfl, p, _, _, _, rfl, rfl, SqT.of (w9.i hp9), rfl, _, rfl, ?_⟩
    exact ⟨_, r, ka, kn, most, nv, stk, s, M, .ref n, va, ed, .fst, a, env, rfl, (pre.step w9 u9), ⟨n, rfl, upd_same⟩, ha.mono u9, hen.mono u9, post.from w9⟩
  | snd a =>
    obtain ⟨p, va, rfl, hp, ha⟩ := ht
    refine ⟨_, rfl, p, _, _, _, rfl, rfl, SqT.of (w0.i hp), atI_0 _ _, ?_⟩
    refine ⟨_, rfl, (by show 3 ≤ sizeLine; decide), fun q0 hq0 => ⟨q0, _, rfl, .inr (SqT.of upd_same), rfl, rfl, _, rfl, bF (by decide +kernel) ?_⟩⟩
    have w1 := w0.same (same_up (o := .tup [SS "var", SS "number", SS "digit"]) hq0)
    refine ⟨_, rfl, rfl, _, rfl, tF (by decide +kernel) ?_⟩
    refine ⟨_, rfl, rfl, _, rfl, tF (by decide +kernel) ?_⟩
    refine ⟨_, rfl, rfl, _, rfl, tF (by decide +kernel) ?_⟩
    refine ⟨_, rfl, rfl, _, rfl, tF (by decide +kernel) ?_⟩
    refine ⟨_, rfl, (by show 3 ≤ sizeLine; decide), fun q5 hq5 => ⟨q5, _, rfl, .inr (SqT.of upd_same), rfl, rfl, _, rfl, bT (by decide +kernel) ?_⟩⟩
    have w2 := w1.same (same_up (o := .tup [SS "count", SS "first", SS "second"]) hq5)
    refine ⟨_, rfl, _, rfl,  (by show 1 ≤ sizeLine; decide), fun n hnn => ?_⟩
    have w9 := w2.newI hnn (.tup [SS "second"])
    have u9 := w2.upI hnn (.tup [SS "second"])
    have hp9 := u9 _ _ hp
    refine ⟨_, rfl, p, _, _, _, rfl, rfl, SqT.of (w9.i hp9), rfl, _, rfl, ?_⟩
    exact ⟨_, r, ka, kn, most, nv, stk, s, M, .ref n, va, ed, .snd, a, env, rfl, (pre.step w9 u9), ⟨n, rfl, upd_same⟩, ha.mono u9, hen.mono u9, post.from w9⟩
  | ite c a b =>
    obtain ⟨p, vc, va, vb, rfl, hp, hc, ha, hb⟩ := ht
    refine ⟨_, rfl, p, _, _, _, rfl, rfl, SqT.of (w0.i hp), atI_0 _ _, ?_⟩
    refine ⟨_, rfl, (by show 3 ≤ sizeLine; decide), fun q0 hq0 => ⟨q0, _, rfl, .inr (SqT.of upd_same), rfl, rfl, _, rfl, bF (by decide +kernel) ?_⟩⟩
    have w1 := w0.same (same_up (o := .tup [SS "var", SS "number", SS "digit"]) hq0)
    refine ⟨_, rfl, rfl, _, rfl, tF (by decide +kernel) ?_⟩
    refine ⟨_, rfl, rfl, _, rfl, tF (by decide +kernel) ?_⟩
    refine ⟨_, rfl, rfl, _, rfl, tF (by decide +kernel) ?_⟩
    refine ⟨_, rfl, rfl, _, rfl, tF (by decide +kernel) ?_⟩
    refine ⟨_, rfl, (by show 3 ≤ sizeLine; decide), fun q5 hq5 => ⟨q5, _, rfl, .inr (SqT.of upd_same), rfl, rfl, _, rfl, bF (by decide +kernel) ?_⟩⟩
    have w2 := w1.same (same_up (o := .tup [SS "count", SS "first", SS "second"]) hq5)
    refine ⟨_, rfl, (by show 2 ≤ sizeLine; decide), fun q6 hq6 => ⟨q6, _, rfl, .inr (SqT.of upd_same), rfl, rfl, _, rfl, bT (by decide +kernel) ?_⟩⟩
    have w3 := w2.same (same_up (o := .tup [SS "if", SS "repeat"]) hq6)
    refine ⟨_, rfl, _, rfl, _, rfl, p, _, _, _, rfl, rfl, SqT.of (w3.i hp), rfl, _, rfl, p, _, _, _, rfl, rfl, SqT.of (w3.i hp), rfl, _, rfl,  (by show 4 ≤ sizeLine; decide), fun n hnn => ?_⟩
    have w9 := w3.newI hnn (.tup [SS "if", va, vb, .ref ed])
    have u9 := w3.upI hnn (.tup [SS "if", va, vb, .ref ed])
    have hp9 := u9 _ _ hp
    refine ⟨_, rfl, p, _, _, _, rfl, rfl, SqT.of (w9.i hp9), rfl, _, rfl, ?_⟩
    exact ⟨_, r, ka, kn, most, nv, stk, s, M, .ref n, vc, ed, .ite a b env, c, env, rfl, (pre.step w9 u9), ⟨n, va, vb, ed, rfl, upd_same, ha.mono u9, hb.mono u9, hen.mono u9⟩, hc.mono u9, hen.mono u9, post.from w9⟩
  | rep c a b =>
    obtain ⟨p, vc, va, vb, rfl, hp, hc, ha, hb⟩ := ht
    refine ⟨_, rfl, p, _, _, _, rfl, rfl, SqT.of (w0.i hp), atI_0 _ _, ?_⟩
    refine ⟨_, rfl, (by show 3 ≤ sizeLine; decide), fun q0 hq0 => ⟨q0, _, rfl, .inr (SqT.of upd_same), rfl, rfl, _, rfl, bF (by decide +kernel) ?_⟩⟩
    have w1 := w0.same (same_up (o := .tup [SS "var", SS "number", SS "digit"]) hq0)
    refine ⟨_, rfl, rfl, _, rfl, tF (by decide +kernel) ?_⟩
    refine ⟨_, rfl, rfl, _, rfl, tF (by decide +kernel) ?_⟩
    refine ⟨_, rfl, rfl, _, rfl, tF (by decide +kernel) ?_⟩
    refine ⟨_, rfl, rfl, _, rfl, tF (by decide +kernel) ?_⟩
    refine ⟨_, rfl, (by show 3 ≤ sizeLine; decide), fun q5 hq5 => ⟨q5, _, rfl, .inr (SqT.of upd_same), rfl, rfl, _, rfl, bF (by decide +kernel) ?_⟩⟩
    have w2 := w1.same (same_up (o := .tup [SS "count", SS "first", SS "second"]) hq5)
    refine ⟨_, rfl, (by show 2 ≤ sizeLine; decide), fun q6 hq6 => ⟨q6, _, rfl, .inr (SqT.of upd_same), rfl, rfl, _, rfl, bT (by decide +kernel) ?_⟩⟩
    have w3 := w2.same (same_up (o := .tup [SS "if", SS "repeat"]) hq6)
    refine ⟨_, rfl, _, rfl, _, rfl, p, _, _, _, rfl, rfl, SqT.of (w3.i hp), rfl, _, rfl, p, _, _, _, rfl, rfl, SqT.of (w3.i hp), rfl, _, rfl,  (by show 4 ≤ sizeLine; decide), fun n hnn => ?_⟩
    have w9 := w3.newI hnn (.tup [SS "repeat", va, vb, .ref ed])
    have u9 := w3.upI hnn (.tup [SS "repeat", va, vb, .ref ed])
    have hp9 := u9 _ _ hp
    refine ⟨_, rfl, p, _, _, _, rfl, rfl, SqT.of (w9.i hp9), rfl, _, rfl, ?_⟩
    exact ⟨_, r, ka, kn, most, nv, stk, s, M, .ref n, vc, ed, .rep a b env, c, env, rfl, (pre.step w9 u9), ⟨n, va, vb, ed, rfl, upd_same, ha.mono u9, hb.mono u9, hen.mono u9⟩, hc.mono u9, hen.mono u9, post.from w9⟩
  | call a b =>
    obtain ⟨p, va, vb, rfl, hp, ha, hb⟩ := ht
    refine ⟨_, rfl, p, _, _, _, rfl, rfl, SqT.of (w0.i hp), atI_0 _ _, ?_⟩
    refine ⟨_, rfl, (by show 3 ≤ sizeLine; decide), fun q0 hq0 => ⟨q0, _, rfl, .inr (SqT.of upd_same), rfl, rfl, _, rfl, bF (by decide +kernel) ?_⟩⟩
    have w1 := w0.same (same_up (o := .tup [SS "var", SS "number", SS "digit"]) hq0)
    refine ⟨_, rfl, rfl, _, rfl, tF (by decide +kernel) ?_⟩
    refine ⟨_, rfl, rfl, _, rfl, tF (by decide +kernel) ?_⟩
    refine ⟨_, rfl, rfl, _, rfl, tF (by decide +kernel) ?_⟩
    refine ⟨_, rfl, rfl, _, rfl, tF (by decide +kernel) ?_⟩
    refine ⟨_, rfl, (by show 3 ≤ sizeLine; decide), fun q5 hq5 => ⟨q5, _, rfl, .inr (SqT.of upd_same), rfl, rfl, _, rfl, bF (by decide +kernel) ?_⟩⟩
    have w2 := w1.same (same_up (o := .tup [SS "count", SS "first", SS "second"]) hq5)
    refine ⟨_, rfl, (by show 2 ≤ sizeLine; decide), fun q6 hq6 => ⟨q6, _, rfl, .inr (SqT.of upd_same), rfl, rfl, _, rfl, bF (by decide +kernel) ?_⟩⟩
    have w3 := w2.same (same_up (o := .tup [SS "if", SS "repeat"]) hq6)
    refine ⟨_, rfl, (by show 3 ≤ sizeLine; decide), fun q7 hq7 => ⟨q7, _, rfl, .inr (SqT.of upd_same), rfl, rfl, _, rfl, bT (by decide +kernel) ?_⟩⟩
    have w4 := w3.same (same_up (o := .tup [SS "call", SS "pair", SS "at"]) hq7)
    refine ⟨_, rfl, _, rfl, _, rfl, p, _, _, _, rfl, rfl, SqT.of (w4.i hp), rfl, _, rfl,  (by show 3 ≤ sizeLine; decide), fun n hnn => ?_⟩
    have w9 := w4.newI hnn (.tup [SS "call", vb, .ref ed])
    have u9 := w4.upI hnn (.tup [SS "call", vb, .ref ed])
    have hp9 := u9 _ _ hp
    refine ⟨_, rfl, p, _, _, _, rfl, rfl, SqT.of (w9.i hp9), rfl, _, rfl, ?_⟩
    exact ⟨_, r, ka, kn, most, nv, stk, s, M, .ref n, va, ed, .call b env, a, env, rfl, (pre.step w9 u9), ⟨n, vb, ed, rfl, upd_same, hb.mono u9, hen.mono u9⟩, ha.mono u9, hen.mono u9, post.from w9⟩
  | pair a b =>
    obtain ⟨p, va, vb, rfl, hp, ha, hb⟩ := ht
    refine ⟨_, rfl, p, _, _, _, rfl, rfl, SqT.of (w0.i hp), atI_0 _ _, ?_⟩
    refine ⟨_, rfl, (by show 3 ≤ sizeLine; decide), fun q0 hq0 => ⟨q0, _, rfl, .inr (SqT.of upd_same), rfl, rfl, _, rfl, bF (by decide +kernel) ?_⟩⟩
    have w1 := w0.same (same_up (o := .tup [SS "var", SS "number", SS "digit"]) hq0)
    refine ⟨_, rfl, rfl, _, rfl, tF (by decide +kernel) ?_⟩
    refine ⟨_, rfl, rfl, _, rfl, tF (by decide +kernel) ?_⟩
    refine ⟨_, rfl, rfl, _, rfl, tF (by decide +kernel) ?_⟩
    refine ⟨_, rfl, rfl, _, rfl, tF (by decide +kernel) ?_⟩
    refine ⟨_, rfl, (by show 3 ≤ sizeLine; decide), fun q5 hq5 => ⟨q5, _, rfl, .inr (SqT.of upd_same), rfl, rfl, _, rfl, bF (by decide +kernel) ?_⟩⟩
    have w2 := w1.same (same_up (o := .tup [SS "count", SS "first", SS "second"]) hq5)
    refine ⟨_, rfl, (by show 2 ≤ sizeLine; decide), fun q6 hq6 => ⟨q6, _, rfl, .inr (SqT.of upd_same), rfl, rfl, _, rfl, bF (by decide +kernel) ?_⟩⟩
    have w3 := w2.same (same_up (o := .tup [SS "if", SS "repeat"]) hq6)
    refine ⟨_, rfl, (by show 3 ≤ sizeLine; decide), fun q7 hq7 => ⟨q7, _, rfl, .inr (SqT.of upd_same), rfl, rfl, _, rfl, bT (by decide +kernel) ?_⟩⟩
    have w4 := w3.same (same_up (o := .tup [SS "call", SS "pair", SS "at"]) hq7)
    refine ⟨_, rfl, _, rfl, _, rfl, p, _, _, _, rfl, rfl, SqT.of (w4.i hp), rfl, _, rfl,  (by show 3 ≤ sizeLine; decide), fun n hnn => ?_⟩
    have w9 := w4.newI hnn (.tup [SS "pair", vb, .ref ed])
    have u9 := w4.upI hnn (.tup [SS "pair", vb, .ref ed])
    have hp9 := u9 _ _ hp
    refine ⟨_, rfl, p, _, _, _, rfl, rfl, SqT.of (w9.i hp9), rfl, _, rfl, ?_⟩
    exact ⟨_, r, ka, kn, most, nv, stk, s, M, .ref n, va, ed, .pair b env, a, env, rfl, (pre.step w9 u9), ⟨n, vb, ed, rfl, upd_same, hb.mono u9, hen.mono u9⟩, ha.mono u9, hen.mono u9, post.from w9⟩
  | idx a b =>
    obtain ⟨p, va, vb, rfl, hp, ha, hb⟩ := ht
    refine ⟨_, rfl, p, _, _, _, rfl, rfl, SqT.of (w0.i hp), atI_0 _ _, ?_⟩
    refine ⟨_, rfl, (by show 3 ≤ sizeLine; decide), fun q0 hq0 => ⟨q0, _, rfl, .inr (SqT.of upd_same), rfl, rfl, _, rfl, bF (by decide +kernel) ?_⟩⟩
    have w1 := w0.same (same_up (o := .tup [SS "var", SS "number", SS "digit"]) hq0)
    refine ⟨_, rfl, rfl, _, rfl, tF (by decide +kernel) ?_⟩
    refine ⟨_, rfl, rfl, _, rfl, tF (by decide +kernel) ?_⟩
    refine ⟨_, rfl, rfl, _, rfl, tF (by decide +kernel) ?_⟩
    refine ⟨_, rfl, rfl, _, rfl, tF (by decide +kernel) ?_⟩
    refine ⟨_, rfl, (by show 3 ≤ sizeLine; decide), fun q5 hq5 => ⟨q5, _, rfl, .inr (SqT.of upd_same), rfl, rfl, _, rfl, bF (by decide +kernel) ?_⟩⟩
    have w2 := w1.same (same_up (o := .tup [SS "count", SS "first", SS "second"]) hq5)
    refine ⟨_, rfl, (by show 2 ≤ sizeLine; decide), fun q6 hq6 => ⟨q6, _, rfl, .inr (SqT.of upd_same), rfl, rfl, _, rfl, bF (by decide +kernel) ?_⟩⟩
    have w3 := w2.same (same_up (o := .tup [SS "if", SS "repeat"]) hq6)
    refine ⟨_, rfl, (by show 3 ≤ sizeLine; decide), fun q7 hq7 => ⟨q7, _, rfl, .inr (SqT.of upd_same), rfl, rfl, _, rfl, bT (by decide +kernel) ?_⟩⟩
    have w4 := w3.same (same_up (o := .tup [SS "call", SS "pair", SS "at"]) hq7)
    refine ⟨_, rfl, _, rfl, _, rfl, p, _, _, _, rfl, rfl, SqT.of (w4.i hp), rfl, _, rfl,  (by show 3 ≤ sizeLine; decide), fun n hnn => ?_⟩
    have w9 := w4.newI hnn (.tup [SS "at", vb, .ref ed])
    have u9 := w4.upI hnn (.tup [SS "at", vb, .ref ed])
    have hp9 := u9 _ _ hp
    refine ⟨_, rfl, p, _, _, _, rfl, rfl, SqT.of (w9.i hp9), rfl, _, rfl, ?_⟩
    exact ⟨_, r, ka, kn, most, nv, stk, s, M, .ref n, va, ed, .idx b env, a, env, rfl, (pre.step w9 u9), ⟨n, vb, ed, rfl, upd_same, hb.mono u9, hen.mono u9⟩, ha.mono u9, hen.mono u9, post.from w9⟩
  | share x m b nn =>
    obtain ⟨p, vb, vn, rfl, hp, hb, hn⟩ := ht
    refine ⟨_, rfl, p, _, _, _, rfl, rfl, SqT.of (w0.i hp), atI_0 _ _, ?_⟩
    refine ⟨_, rfl, (by show 3 ≤ sizeLine; decide), fun q0 hq0 => ⟨q0, _, rfl, .inr (SqT.of upd_same), rfl, rfl, _, rfl, bF (by decide +kernel) ?_⟩⟩
    have w1 := w0.same (same_up (o := .tup [SS "var", SS "number", SS "digit"]) hq0)
    refine ⟨_, rfl, rfl, _, rfl, tF (by decide +kernel) ?_⟩
    refine ⟨_, rfl, rfl, _, rfl, tF (by decide +kernel) ?_⟩
    refine ⟨_, rfl, rfl, _, rfl, tF (by decide +kernel) ?_⟩
    refine ⟨_, rfl, rfl, _, rfl, tF (by decide +kernel) ?_⟩
    refine ⟨_, rfl, (by show 3 ≤ sizeLine; decide), fun q5 hq5 => ⟨q5, _, rfl, .inr (SqT.of upd_same), rfl, rfl, _, rfl, bF (by decide +kernel) ?_⟩⟩
    have w2 := w1.same (same_up (o := .tup [SS "count", SS "first", SS "second"]) hq5)
    refine ⟨_, rfl, (by show 2 ≤ sizeLine; decide), fun q6 hq6 => ⟨q6, _, rfl, .inr (SqT.of upd_same), rfl, rfl, _, rfl, bF (by decide +kernel) ?_⟩⟩
    have w3 := w2.same (same_up (o := .tup [SS "if", SS "repeat"]) hq6)
    refine ⟨_, rfl, (by show 3 ≤ sizeLine; decide), fun q7 hq7 => ⟨q7, _, rfl, .inr (SqT.of upd_same), rfl, rfl, _, rfl, bF (by decide +kernel) ?_⟩⟩
    have w4 := w3.same (same_up (o := .tup [SS "call", SS "pair", SS "at"]) hq7)
    refine ⟨_, rfl, rfl, _, rfl, tT rfl ?_⟩
    refine ⟨_, rfl, _, rfl, _, rfl, (by show 3 ≤ sizeLine; decide), fun n hnn => ?_⟩
    have w9 := w4.newI hnn (.tup [SS "share", .ref p, .ref ed])
    have u9 := w4.upI hnn (.tup [SS "share", .ref p, .ref ed])
    have hp9 := u9 _ _ hp
    refine ⟨_, rfl, p, _, _, _, rfl, rfl, SqT.of (w9.i hp9), rfl, _, rfl, ?_⟩
    exact ⟨_, r, ka, kn, most, nv, stk, s, M, .ref n, vn, ed, .share x m b nn env, nn, env, rfl, (pre.step w9 u9), ⟨n, .ref p, ed, rfl, upd_same, TmAt.mono u9 (t := .share x m b nn) ⟨p, vb, vn, rfl, hp, hb, hn⟩, hen.mono u9⟩, hn.mono u9, hen.mono u9, post.from w9⟩
  | qu wd x m b =>
    obtain ⟨p, vb, rfl, hp, hb, hw⟩ := ht
    obtain ⟨k1, k2, k3, k4, k5, k6, k7, k8, k9⟩ := qu_kind hw
    refine ⟨_, rfl, p, _, _, _, rfl, rfl, SqT.of (w0.i hp), atI_0 _ _, ?_⟩
    refine ⟨_, rfl, (by show 3 ≤ sizeLine; decide), fun q0 hq0 => ⟨q0, _, rfl, .inr (SqT.of upd_same), rfl, rfl, _, rfl, bF k1 ?_⟩⟩
    have w1 := w0.same (same_up (o := .tup [SS "var", SS "number", SS "digit"]) hq0)
    refine ⟨_, rfl, rfl, _, rfl, tF (ne_s k2) ?_⟩
    refine ⟨_, rfl, rfl, _, rfl, tF (ne_s k3) ?_⟩
    refine ⟨_, rfl, rfl, _, rfl, tF (ne_s k4) ?_⟩
    refine ⟨_, rfl, rfl, _, rfl, tF (ne_s k5) ?_⟩
    refine ⟨_, rfl, (by show 3 ≤ sizeLine; decide), fun q5 hq5 => ⟨q5, _, rfl, .inr (SqT.of upd_same), rfl, rfl, _, rfl, bF k6 ?_⟩⟩
    have w2 := w1.same (same_up (o := .tup [SS "count", SS "first", SS "second"]) hq5)
    refine ⟨_, rfl, (by show 2 ≤ sizeLine; decide), fun q6 hq6 => ⟨q6, _, rfl, .inr (SqT.of upd_same), rfl, rfl, _, rfl, bF k7 ?_⟩⟩
    have w3 := w2.same (same_up (o := .tup [SS "if", SS "repeat"]) hq6)
    refine ⟨_, rfl, (by show 3 ≤ sizeLine; decide), fun q7 hq7 => ⟨q7, _, rfl, .inr (SqT.of upd_same), rfl, rfl, _, rfl, bF k8 ?_⟩⟩
    have w4 := w3.same (same_up (o := .tup [SS "call", SS "pair", SS "at"]) hq7)
    refine ⟨_, rfl, rfl, _, rfl, tF (ne_s k9) ?_⟩
    have post : SPost I H r ka kn most M Q .non (if wd = "share" then none else beginC wd x m b env (.int 0) stk s) := post
    rw [if_neg k9] at post
    refine ⟨_, rfl, _, rfl, _, rfl, ?_⟩
    exact ⟨I, r, ka, kn, most, nv, stk, s, M, .ref p, ed, .non, vb, wd, x, b, env, .int 0, m, rfl, pre.step w4 (Same.refl _), .inl ⟨hw, p, rfl, hp⟩, hb, hen, post.from w4⟩
end
end KW
set_option Elab.async false
set_option linter.all false
set_option maxRecDepth 100000
set_option maxHeartbeats 4000000
/-! B5: what a quantifier's ends give. -/
namespace KW
open PySem PySem.Spec PyProof.Rows L2 
section
variable {P : Program} {w : World} {K : PySem.W.Frag} {mg : Str → Option Value} {base : Heap}
abbrev N_power : List Str := ["m", "number", "found", "turn"]
theorem sc_power : FnScope N_power ["m", "number"] (defScope (top 10)) := fnScope_ok (by decide +kernel)
theorem ok_powerP (D : DefAt K mg "power" 10) (T : Txt K mg) : Cl P w K mg base 1 "power" spPower := by
  refine cl_mk (i := 10) (N := N_power) (ps := ["m", "number"]) D sc_power (fun _ _ _ _ _ _ us hl => match us, hl with | [_, _], _ => rfl) ?_ ?_
  · rintro vs H Q E ⟨b, n, rfl, _⟩
    rfl
  rintro f0 cdv A outer s0 H vs Q E hr ⟨b, n, rfl, hb, hn, q⟩
  refine ⟨_, (pss_cons (ps_set (i := 2) sc_power.nd rfl (Or.inl rfl) pe_int) (pss_cons (ps_for PassesOwn.never rfl (pi_range1 rfl T.range (pa_cons (pv 1) pa_nil)) (pg_name (i := 3) sc_power.nd rfl (Or.inl rfl)) (pss_one (ps_set (i := 2) sc_power.nd rfl (Or.inl rfl) (pe_op op_mul (pv 2) (pv 0))))) (pss_one (ps_ret (pv 2))))), ?_⟩
  refine ⟨_, rfl, _, rfl, (by omega), (by omega), ?_⟩
  have e : ((n : Int)).toNat = n := by omega
  rw [e]
  refine for_range (lo := 0) (n := n) (fun j σ H' => H' = H ∧ ∃ v, σ = [some (.int (b : Int)), some (.int (n : Int)), some (.int ((b ^ j : Nat) : Int)), v]) ⟨rfl, none, rfl⟩ ?_ ?_
  · rintro j σ H' hj ⟨rfl, v, rfl⟩
    have hp := pow_le hb (show j ≤ 8 by omega)
    refine ⟨_, rfl, _, rfl, _, _, rfl, rfl, .inl (by omega), rfl, some (.int (0 + (j : Int))), ?_⟩
    rw [Nat.pow_succ, Int.natCast_mul]
    rfl
  · rintro σ H' ⟨rfl, v, rfl⟩
    exact ⟨_, rfl, q⟩

def spBelow : Sp := fun vs H Q _ => ∃ (a b : Addr) (ka kb : Kn), vs = [.ref a, .ref b] ∧ H a = some (.dK (knK ka)) ∧ H b = some (.dK (knK kb)) ∧ ka.length ≤ 40000 ∧ kb.length ≤ 40000 ∧ ∀ H', Same H H' → Q (.bl (below ka kb)) H'
theorem below_at {a b : Kn} {l : List Int} {j : Nat} {y : Int} (h : l[j]? = some y) (h0 : unlike a b (l.take j) = []) (hq : (look a y).getD 0 ≠ (look b y).getD 0) : ∃ r, unlike a b l = y :: r := by
  have hi := (List.getElem?_eq_some_iff.mp h).1
  have e : l = l.take j ++ (y :: l.drop (j + 1)) := by
    conv => lhs; rw [← List.take_append_drop j l]
    congr 1
    rw [List.drop_eq_getElem_cons hi]
    congr 1
    rw [List.getElem?_eq_getElem hi] at h
    exact Option.some.inj h
  rw [e]
  unfold unlike at h0 ⊢
  rw [List.filter_append, h0, List.filter_cons, decide_eq_true hq]
  exact ⟨_, rfl⟩
abbrev N_row_is_below : List Str := ["one", "other", "i", "digits"]
theorem sc_row_is_below : FnScope N_row_is_below ["one", "other"] (defScope (top 8)) := fnScope_ok (by decide +kernel)
theorem ok_row_is_below (D : DefAt K mg "row_is_below" 8) (T : Txt K mg) : Cl P w K mg base 1 "row_is_below" spBelow := by
  refine cl_mk (i := 8) (N := N_row_is_below) (ps := ["one", "other"]) D sc_row_is_below (fun _ _ _ _ _ _ us hl => match us, hl with | [_, _], _ => rfl) ?_ ?_
  · rintro vs H Q E ⟨a, b, ka, kb, rfl, _⟩
    rfl
  rintro f0 cdv A outer s0 H vs Q E hr ⟨a, b, ka, kb, rfl, ha, hb, hla, hlb, q⟩
  refine ⟨_, (pss_cons (ps_for PassesOwn.never rfl (pi_list (pe_callB cr_sortedI (by rfl) T.sorted (by decide +kernel) (pa_cons (pe_op op_cat (pe_callTy (call_listD rfl) (by rfl) T.list (by decide +kernel) (pa_cons (pv 0) pa_nil)) (pe_callTy (call_listD rfl) (by rfl) T.list (by decide +kernel) (pa_cons (pv 1) pa_nil))) pa_nil))) (pg_name (i := 2) sc_row_is_below.nd rfl (Or.inl rfl)) (pss_cons (ps_set (i := 3) sc_row_is_below.nd rfl (Or.inl rfl) (pe_tup (pa_cons (pe_dget2 (hu_of hr) (pv 0) (pv 2) pe_int ⟨rfl, rfl, rfl, rfl⟩) (pa_cons (pe_dget2 (hu_of hr) (pv 1) (pv 2) pe_int ⟨rfl, rfl, rfl, rfl⟩) pa_nil)))) (pss_one (ps_if (pt_cmpR op_ne (pe_ix ix_tup (pv 3) pe_int (fun _ _ => rfl)) (pe_ix ix_tup (pv 3) pe_int (fun _ _ => rfl)) (nomark _)) (pss_one (ps_ret (pe_cmpR op_lt (pe_ix ix_tup (pv 3) pe_int (fun _ _ => rfl)) (pe_ix ix_tup (pv 3) pe_int (fun _ _ => rfl)) (nomark _)))) pss_nil)))) (pss_one (ps_ret pe_bl))), ?_⟩
  refine ⟨_, rfl, a, _, rfl, .inl ha, fun p1 hp1 => ⟨_, rfl, b, _, rfl, .inl (same_up hp1 _ _ hb), fun p2 hp2 => ⟨p1, p2, _, _, rfl, rfl, same_up hp2 _ _ upd_same, upd_same, ?_, fun p3 hp3 => ⟨p3, keys ka ++ keys kb, rfl, SqL.of ?_, fun ns p4 hperm hsort hp4 => ⟨p4, rfl, ⟨_, SqL.of upd_same⟩, ?_⟩⟩⟩⟩⟩
  · rw [List.length_map, List.length_map]
    have e1 : (knK ka).length = ka.length := List.length_map _
    have e2 : (knK kb).length = kb.length := List.length_map _
    rw [e1, e2]
    exact Nat.le_trans (Nat.add_le_add hla hlb) (by decide)
  · rw [upd_same, keys_V, keys_V, ← List.map_append]
  obtain rfl := sortI_is hperm hsort
  have s4 : Same H (upd (upd (upd (upd H p1 (.lst ((knK ka).map fun kv => kV kv.1))) p2 (.lst ((knK kb).map fun kv => kV kv.1))) p3 (.lst ((knK ka).map (fun kv => kV kv.1) ++ (knK kb).map fun kv => kV kv.1))) p4 (.lst ((sortI (keys ka ++ keys kb)).map V.int))) :=
    (((same_up hp1).trans (same_up hp2)).trans (same_up hp3)).trans (same_up hp4)
  have h4 : upd (upd (upd (upd H p1 (.lst ((knK ka).map fun kv => kV kv.1))) p2 (.lst ((knK kb).map fun kv => kV kv.1))) p3 (.lst ((knK ka).map (fun kv => kV kv.1) ++ (knK kb).map fun kv => kV kv.1))) p4 (.lst ((sortI (keys ka ++ keys kb)).map V.int)) p4 = some (.lst ((sortI (keys ka ++ keys kb)).map V.int)) := upd_same
  revert s4 h4
  generalize upd (upd (upd (upd H p1 (.lst ((knK ka).map fun kv => kV kv.1))) p2 (.lst ((knK kb).map fun kv => kV kv.1))) p3 (.lst ((knK ka).map (fun kv => kV kv.1) ++ (knK kb).map fun kv => kV kv.1))) p4 (.lst ((sortI (keys ka ++ keys kb)).map V.int)) = H4
  intro s4 h4
  refine for_list (K := K) (a := p4) (xs := (sortI (keys ka ++ keys kb)).map V.int) (fun j σ H' => Same H4 H' ∧ unlike ka kb ((sortI (keys ka ++ keys kb)).take j) = [] ∧ ∃ v2 v3, σ = [some (.ref a), some (.ref b), v2, v3]) ⟨Same.refl _, by rfl, none, none, rfl⟩ ?_ ?_ ?_
  · rintro j σ H' hj ⟨sm, _⟩
    exact SqL.of (sm _ _ h4)
  · rintro j x σ H' hx ⟨sm, hun, v2, v3, rfl⟩
    rw [List.getElem?_map] at hx
    obtain ⟨y, hy, rfl⟩ : ∃ y, (sortI (keys ka ++ keys kb))[j]? = some y ∧ x = .int y := by
      cases q : (sortI (keys ka ++ keys kb))[j]? with
      | none => rw [q] at hx; cases hx
      | some y => rw [q] at hx; exact ⟨y, rfl, (Option.some.inj hx).symm⟩
    have g1 := sm _ _ (s4 _ _ ha)
    have g2 := sm _ _ (s4 _ _ hb)
    refine ⟨_, rfl, a, rfl, .inl ⟨_, .inl g1⟩, _, rfl, _, DGi g1 rfl, ?_⟩
    refine ⟨_, rfl, b, rfl, .inl ⟨_, .inl g2⟩, _, rfl, _, DGi g2 rfl, ?_⟩
    rw [getV, getV]
    refine ⟨s2, fun n hn => ?_⟩
    have sm2 := sm.trans (same_up (o := .tup [.int ((look ka y).getD 0), .int ((look kb y).getD 0)]) hn)
    refine ⟨_, rfl, n, _, _, _, rfl, rfl, SqT.of upd_same, rfl, ⟨_, rfl, n, _, _, _, rfl, rfl, SqT.of upd_same, rfl, rfl, _, rfl, ?_⟩⟩
    by_cases hq : (look ka y).getD 0 ≠ (look kb y).getD 0
    · refine nT (fun e => hq (V.int.inj e)) ?_
      obtain ⟨rr, hr2⟩ := below_at hy hun hq
      refine ⟨_, rfl, n, _, _, _, rfl, rfl, SqT.of upd_same, rfl, ⟨_, rfl, n, _, _, _, rfl, rfl, SqT.of upd_same, rfl, _, _, rfl, rfl, ?_⟩⟩
      have e : below ka kb = decide ((look ka y).getD 0 < (look kb y).getD 0) := by unfold below; rw [hr2]
      have z := q _ (s4.trans sm2)
      rw [e] at z
      exact z
    · refine nF (congrArg V.int (Decidable.not_not.mp hq)) ⟨sm2, ?_, _, _, rfl⟩
      rw [unlike_succ hy, if_neg hq, List.append_nil]
      exact hun
  · rintro σ H' ⟨sm, hun, v2, v3, rfl⟩
    rw [List.length_map, List.take_length] at hun
    have e : below ka kb = false := by unfold below; rw [hun]
    rw [← e]
    exact q _ (s4.trans sm)

theorem leastRow_snoc (l : List Kn) (x : Kn) : leastRow (l ++ [x]) = if l = [] then x else lower (leastRow l) x := by
  cases l with
  | nil => rfl
  | cons a r =>
    rw [if_neg (by intro z; cases z)]
    show (r ++ [x]).foldl lower a = lower (r.foldl lower a) x
    rw [List.foldl_append]
    rfl
theorem ones_snoc (es : List (Kn × Int)) (e : Kn × Int) : ones (es ++ [e]) = ones es ++ (if e.2 = 1 then [e.1] else []) := by
  unfold ones
  rw [List.filter_append, List.map_append]
  congr 1
  rw [List.filter_cons]
  by_cases h : e.2 = 1
  · rw [decide_eq_true h, if_pos h]; rfl
  · rw [decide_eq_false h, if_neg h]; rfl
theorem ones_take {es : List (Kn × Int)} {j : Nat} {e : Kn × Int} (h : es[j]? = some e) : ones (es.take (j + 1)) = ones (es.take j) ++ (if e.2 = 1 then [e.1] else []) := by
  rw [List.take_succ, h]
  exact ones_snoc _ _
theorem leastRow_mem : ∀ {l : List Kn}, l ≠ [] → leastRow l ∈ l
  | [], h => absurd rfl h
  | a :: r, _ => by
    have key : ∀ (r : List Kn) (a : Kn), r.foldl lower a = a ∨ r.foldl lower a ∈ r := by
      intro r
      induction r with
      | nil => exact fun a => .inl rfl
      | cons x r ih =>
        intro a
        show r.foldl lower (lower a x) = a ∨ _
        have e : lower a x = a ∨ lower a x = x := by
          unfold lower
          split
          · exact .inr rfl
          · exact .inl rfl
        rcases ih (lower a x) with h | h
        · rw [h]
          rcases e with e | e
          · exact .inl e
          · exact .inr (by rw [List.foldl_cons, h, e]; exact List.mem_cons_self)
        · exact .inr (List.mem_cons_of_mem _ h)
    rcases key r a with h | h
    · show r.foldl lower a ∈ _
      rw [h]
      exact List.mem_cons_self
    · exact List.mem_cons_of_mem _ h
def spLeastR : Sp := fun vs H Q _ => ∃ (I : Hp) (en : Addr) (us : List V) (es : List (Kn × Int)), vs = [.ref en] ∧ Same I H ∧ H en = some (.lst us) ∧ EndsAt .pack I es us ∧ (∀ e ∈ es, e.1.length ≤ 40000) ∧
  ∀ (a : Addr) (H' : Hp), Same H H' → H' a = some (.dK (knK (leastRow (ones es)))) → ((∃ u, I a = some u) ∨ H a = none) → Q (.ref a) H'
abbrev N_least_row : List Str := ["ends", "best", "known", "value"]
theorem sc_least_row : FnScope N_least_row ["ends"] (defScope (top 9)) := fnScope_ok (by decide +kernel)
theorem ok_least_row (D : DefAt K mg "least_row" 9) (T : Txt K mg) (c_row_is_below : Cl P w K mg base 1 "row_is_below" spBelow) : Cl P w K mg base 2 "least_row" spLeastR := by
  refine cl_mk (i := 9) (N := N_least_row) (ps := ["ends"]) D sc_least_row (fun _ _ _ _ _ _ us hl => match us, hl with | [_], _ => rfl) ?_ ?_
  · rintro vs H Q E ⟨I, en, us, es, rfl, _⟩
    rfl
  rintro f0 cdv A outer s0 H vs Q E hr ⟨I, en, us, es, rfl, sub, hen, hes, hkl, q⟩
  refine ⟨_, (pss_cons (ps_set (i := 1) sc_least_row.nd rfl (Or.inl rfl) pe_non) (pss_cons (ps_for PassesOwn.never rfl (pi_list (pv 0)) (pg_tup rfl (pgs_cons (pg_name (i := 2) sc_least_row.nd rfl (Or.inl rfl)) (pgs_cons (pg_name (i := 3) sc_least_row.nd rfl (Or.inl rfl)) pgs_nil))) (pss_one (ps_if (PW.pt (pw_and (pt_cmpR op_eq (pv 3) pe_int (nomark _)) (pw_and1 (PW.pt (pw_or (pt_cmpR op_isN (pv 1) pe_non (nomark _)) (pw_or1 (pt_val (pe_cl c_row_is_below hr (by omega) rfl (pa_cons (pv 2) (pa_cons (pv 1) pa_nil)))))))))) (pss_one (ps_set (i := 1) sc_least_row.nd rfl (Or.inl rfl) (pv 2))) pss_nil))) (pss_one (ps_ret (pe_ifExp (pt_cmpR op_isN (pv 1) pe_non (nomark _)) pe_dnewK (pv 1)))))), ?_⟩
  refine ⟨_, rfl, en, rfl, ⟨_, SqL.of hen⟩, ?_⟩
  refine for_list (K := K) (a := en) (xs := us) (fun j σ H' => Same H H' ∧ ∃ (bv : V) (v2 v3 : Option V), σ = [some (.ref en), some bv, v2, v3] ∧ ((ones (es.take j) = [] ∧ bv = .non) ∨ (ones (es.take j) ≠ [] ∧ ∃ d, bv = .ref d ∧ KnR I (leastRow (ones (es.take j))) d))) ⟨Same.refl _, .non, none, none, rfl, .inl ⟨rfl, rfl⟩⟩ ?_ ?_ ?_
  · rintro j σ H' hj ⟨sm, _⟩
    exact SqL.of (sm _ _ hen)
  · rintro j x σ H' hx ⟨sm, bv, v2, v3, rfl, hb⟩
    obtain ⟨e, he, p, d, rfl, hp, hd⟩ := hes.get hx
    have sub' := sub.trans sm
    refine ⟨p, _, rfl, SqT.of (sub' _ _ hp), rfl, _, _, rfl, _, _, rfl, rfl, ?_⟩
    refine ⟨_, rfl, rfl, _, rfl, ?_⟩
    have hkd := hkl e (List.mem_of_getElem? he)
    by_cases h1 : e.2 = 1
    · refine tT (congrArg V.int h1) ?_
      rcases hb with ⟨h0, rfl⟩ | ⟨h0, d0, rfl, hd0⟩
      · refine ⟨_, rfl, rfl, _, rfl, tT rfl ?_⟩
        refine ⟨_, rfl, sm, _, _, _, rfl, .inr ⟨?_, d, rfl, ?_⟩⟩
        · rw [ones_take he, if_pos h1, h0]; intro z; cases z
        · rw [ones_take he, if_pos h1, h0]; exact hd
      · refine ⟨_, rfl, rfl, _, rfl, tF (by intro z; cases z) ?_⟩
        refine ⟨_, rfl, _, rfl, d, d0, e.1, leastRow (ones (es.take j)), rfl, sub' _ _ hd, sub' _ _ hd0, hkd, ?_, fun H2 sm2 => ⟨_, rfl, ?_⟩⟩
        · have hm := leastRow_mem h0
          unfold ones at hm
          obtain ⟨e', he', e2⟩ := List.mem_map.mp hm
          rw [← show _ = leastRow (ones (es.take j)) from e2]
          exact hkl e' (List.mem_of_mem_take (List.mem_filter.mp he').1)
        have eq1 : leastRow (ones (es.take (j + 1))) = lower (leastRow (ones (es.take j))) e.1 := by
          rw [ones_take he, if_pos h1, leastRow_snoc, if_neg h0]
        have hne : ones (es.take (j + 1)) ≠ [] := by
          rw [ones_take he, if_pos h1]
          intro z
          exact absurd (List.append_eq_nil_iff.mp z).2 (by intro y; cases y)
        cases hbl : below e.1 (leastRow (ones (es.take j))) with
        | true =>
          refine iteT ?_
          refine ⟨_, rfl, sm.trans sm2, _, _, _, rfl, .inr ⟨hne, d, rfl, ?_⟩⟩
          rw [eq1]
          unfold lower
          rw [hbl, if_pos rfl]
          exact hd
        | false =>
          refine iteF ?_
          refine ⟨sm.trans sm2, _, _, _, rfl, .inr ⟨hne, d0, rfl, ?_⟩⟩
          rw [eq1]
          unfold lower
          rw [hbl, if_neg (by decide)]
          exact hd0
    · refine tF (fun z => h1 (V.int.inj z)) ?_
      refine iteF ⟨sm, bv, _, _, rfl, ?_⟩
      rw [ones_take he, if_neg h1, List.append_nil]
      exact hb
  · rintro σ H' ⟨sm, bv, v2, v3, rfl, hb⟩
    rw [hes.len, List.take_length] at hb
    rcases hb with ⟨h0, rfl⟩ | ⟨h0, d0, rfl, hd0⟩
    · refine ⟨_, rfl, rfl, _, rfl, tT rfl fun n hn => ?_⟩
      refine q n _ (sm.trans (same_up hn)) (by rw [h0]; exact upd_same) (.inr ?_)
      cases y : H n with
      | none => rfl
      | some u => rw [sm _ _ y] at hn; cases hn
    · refine ⟨_, rfl, rfl, _, rfl, tF (by intro z; cases z) ⟨_, rfl, ?_⟩⟩
      exact q d0 _ sm (sm _ _ (sub _ _ hd0)) (.inl ⟨_, hd0⟩)

def spShared : Sp := fun vs H Q _ => ∃ (en : Addr) (us : List V) (es : List (Kn × Int)) (n z : Int), ∃ m : Nat, vs = [.int (m : Int), .int n, .ref en] ∧ H en = some (.lst us) ∧ EndsAt .pack H es us ∧ es.length ≤ FUEL ∧ 2 ≤ m ∧ m ≤ 9 ∧ shareV m n es = some (.int z) ∧
  ∀ H', Same H H' → Q (.int z) H'
abbrev N_shared : List Str := ["m", "number", "ends", "longest", "known", "value", "top"]
theorem sc_shared : FnScope N_shared ["m", "number", "ends"] (defScope (top 11)) := fnScope_ok (by decide +kernel)
theorem ok_shared (D : DefAt K mg "shared" 11) (T : Txt K mg) (c_power : Cl P w K mg base 1 "power" spPower) : Cl P w K mg base 2 "shared" spShared := by
  refine cl_mk (i := 11) (N := N_shared) (ps := ["m", "number", "ends"]) D sc_shared (fun _ _ _ _ _ _ us hl => match us, hl with | [_, _, _], _ => rfl) ?_ ?_
  · rintro vs H Q E ⟨en, us, es, n, z, m, rfl, _⟩
    rfl
  rintro f0 cdv A outer s0 H vs Q E hr ⟨en, us, es, n, z, m, rfl, hen, hes, hel, hm2, hm9, hsv, q⟩
  refine ⟨_, (pss_cons (ps_set (i := 3) sc_shared.nd rfl (Or.inr rfl) (pe_callB (cr_max rfl) (by rfl) T.max (by decide +kernel) (pa_cons (pe_lc (own := [("known", 4), ("value", 5)]) rfl sc_shared.nd (pi_list (pv 2)) (blkOk_by (N := N_shared) (sc := defScope (top 11)) (by decide +kernel)) (fun _ _ _ _ _ => (pg_tupK (K' := K) (n := 2) rfl rfl (pgs_cons (pg_name (i := 4) sc_shared.nd rfl (Or.inl rfl)) (pgs_cons (pg_name (i := 5) sc_shared.nd rfl (Or.inl rfl)) pgs_nil)))) (fun _ _ _ _ _ => pts_nil) (fun _ _ _ _ _ => (pe_callB call_lenD (by rfl) T.len (by decide +kernel) (pa_cons (pv 4) pa_nil)))) pa_nil))) (pss_cons (ps_set (i := 6) sc_shared.nd rfl (Or.inl rfl) (pe_callB (cr_sum rfl) (by rfl) T.sum (by decide +kernel) (pa_cons (pe_lc (own := [("known", 4), ("value", 5)]) rfl sc_shared.nd (pi_list (pv 2)) (blkOk_by (N := N_shared) (sc := defScope (top 11)) (by decide +kernel)) (fun _ _ _ _ _ => (pg_tupK (K' := K) (n := 2) rfl rfl (pgs_cons (pg_name (i := 4) sc_shared.nd rfl (Or.inl rfl)) (pgs_cons (pg_name (i := 5) sc_shared.nd rfl (Or.inl rfl)) pgs_nil)))) (fun _ _ _ _ _ => (pts_one (pt_cmpR op_eq (pv 5) pe_int (nomark _)))) (fun _ _ _ _ _ => (pe_cl c_power hr (by omega) rfl (pa_cons (pv 0) (pa_cons (pe_op op_sub (pv 3) (pe_callB call_lenD (by rfl) T.len (by decide +kernel) (pa_cons (pv 4) pa_nil))) pa_nil))))) pa_nil))) (pss_one (ps_ret (pe_callB (call_min2 rfl) (by rfl) T.min (by decide +kernel) (pa_cons (pe_op op_fdivW (pe_op op_mul (pv 1) (pv 6)) (pe_cl c_power hr (by omega) rfl (pa_cons (pv 0) (pa_cons (pv 3) pa_nil)))) (pa_cons (C8.pe_gc rfl T.cTOP_settling) pa_nil))))))), ?_⟩
  obtain ⟨hne, hsh, hn0, hn1, rfl⟩ : es ≠ [] ∧ short es = true ∧ 0 ≤ n ∧ n ≤ 1000 ∧ z = (if n * (partsL m es).sum / ((m ^ deep es : Nat) : Int) ≤ TOP then n * (partsL m es).sum / ((m ^ deep es : Nat) : Int) else TOP) := by
    unfold shareV at hsv
    split at hsv
    · rename_i y
      exact ⟨y.1, y.2.1, y.2.2.1, y.2.2.2, (Val.int.inj (Option.some.inj hsv)).symm⟩
    · cases hsv
  refine ⟨_, rfl, en, rfl, ⟨_, SqL.of hen⟩, fun D2 hD2 => ?_⟩
  refine lc_ends (K := K) (a := en) (es := es) (us := us) (sd := .pack) (fun _ => true) (fun e v => v = .int (e.1.length : Nat)) hD2 hen (Same.refl _) hes hel ?_ ?_
  · rintro e p d H2 F he sm2 h1 h2 hF
    exact ⟨p, _, rfl, SqT.of (sm2 _ _ h1), rfl, _, _, rfl, _, _, rfl, rfl, rfl, _, rfl, d, _, rfl, sm2 _ _ h2, hF true _ H2 rfl (Same.refl _) fun _ => by rw [knK_len]⟩
  · rintro H5 ys5 sm5 hys5 hp5
    rw [filter_all] at hp5
    obtain rfl : ys5 = (es.map fun e => (e.1.length : Int)).map V.int := by
      rw [paired_map (f := fun e : Kn × Int => V.int (e.1.length : Nat)) (fun _ _ z => z) hp5, List.map_map]
      rfl
    refine ⟨D2, _, rfl, SqL.of hys5, by rw [List.length_map]; exact List.length_pos_iff.mpr hne, fun mx h1 h2 => ?_⟩
    obtain rfl : mx = ((deep es : Nat) : Int) := deep_is hne h1 h2
    have hdp := deep_le hsh hne
    refine ⟨_, rfl, en, rfl, ⟨_, SqL.of (sm5 _ _ hen)⟩, fun D3 hD3 => ?_⟩
    refine lc_ends (K := K) (a := en) (es := es) (us := us) (sd := .pack) (fun e => decide (e.2 = 1)) (fun e v => v = .int ((m ^ (deep es - e.1.length) : Nat) : Int)) hD3 hen sm5 hes hel ?_ ?_
    · rintro e p' d H2 F he sm2 h1 h2 hF
      refine ⟨p', _, rfl, SqT.of (sm2 _ _ h1), rfl, _, _, rfl, _, _, rfl, rfl, rfl, _, rfl, rfl, _, rfl, ?_⟩
      by_cases h : e.2 = 1
      · refine tT (congrArg V.int h) ?_
        refine ⟨_, rfl, _, rfl, _, rfl, d, _, rfl, sm2 _ _ h2, _, _, rfl, rfl, ?_⟩
        refine ⟨m, deep es - e.1.length, ?_, hm9, by omega, ?_⟩
        · have := deep_ge he
          rw [knK_len, Int.ofNat_sub this]
        · exact hF true _ H2 (decide_eq_true h).symm (Same.refl _) fun _ => rfl
      · exact tF (fun z => h (V.int.inj z)) (hF false _ H2 (decide_eq_false h).symm (Same.refl _) fun z => by cases z)
    · rintro H6 ys6 sm6 hys6 hp6
      have sm7 : Same H H6 := sm5.trans sm6
      obtain rfl : ys6 = (partsL m es).map V.int := by
        rw [paired_map (f := fun e : Kn × Int => V.int ((m ^ (deep es - e.1.length) : Nat) : Int)) (fun _ _ z => z) hp6]
        unfold partsL ones
        rw [List.map_map, List.map_map]
        rfl
      refine ⟨D3, _, rfl, SqL.of hys6, ?_⟩
      refine ⟨_, rfl, _, rfl, _, _, rfl, rfl, .inl (by omega), ?_⟩
      refine ⟨_, rfl, _, rfl, m, deep es, rfl, hm9, hdp, ?_⟩
      have pl := pow_le hm9 hdp
      have pp : 0 < m ^ deep es := Nat.pow_pos (by omega)
      refine ⟨_, _, rfl, rfl, divW (by omega) (by unfold TOP; omega) (by omega), _, _, rfl, ?_⟩
      have e : ∀ z : Int, (if TOP < z then TOP else z) = if z ≤ TOP then z else TOP := fun z => by split <;> split <;> omega
      show Q (.int (if TOP < n * (partsL m es).sum / ((m ^ deep es : Nat) : Int) then TOP else n * (partsL m es).sum / ((m ^ deep es : Nat) : Int))) _
      rw [e]
      exact q _ sm7

theorem inV_int (i : Int) : ∀ l : List Int, inV (.int i) (l.map V.int) = decide (i ∈ l)
  | [] => by simp [inV]
  | a :: r => by
    have ih := inV_int i r
    unfold inV at ih ⊢
    rw [List.map_cons, List.any_cons, ih]
    show (a == i || decide (i ∈ r)) = decide (i ∈ a :: r)
    by_cases h : a = i
    · subst h; simp
    · have h2 : ¬ i = a := fun z => h z.symm
      simp [h, h2]
theorem flat_ints (l : List Int) : (l.map V.int).all flatV = true := by
  rw [List.all_map, List.all_eq_true]
  intro x _
  rfl
theorem bits_mem {es : List (Kn × Int)} (h : bits es = true) {v : Int} (hv : v ∈ vals es) : v = 0 ∨ v = 1 := by
  unfold vals at hv
  obtain ⟨e, he, rfl⟩ := List.mem_map.mp hv
  have := List.all_eq_true.mp h e he
  simpa using this
theorem max_bits {es : List (Kn × Int)} (h : bits es = true) (hne : es ≠ []) : (if decide ((1 : Int) ∈ vals es) = true then (1 : Int) else 0) = maxL (vals es) := by
  have hm : maxL (vals es) ∈ vals es := maxL_mem (fun z => hne (List.map_eq_nil_iff.mp z))
  by_cases h1 : (1 : Int) ∈ vals es
  · rw [decide_eq_true h1, if_pos rfl]
    have := maxL_ge h1
    rcases bits_mem h hm with z | z <;> omega
  · rw [decide_eq_false h1, if_neg (by decide)]
    rcases bits_mem h hm with z | z
    · exact z.symm
    · rw [z] at hm; exact absurd hm h1
theorem min_bits {es : List (Kn × Int)} (h : bits es = true) (hne : es ≠ []) : (if ((vals es).map fun v => decide (V.int v = V.int 1)).all id = true then (1 : Int) else 0) = minL (vals es) := by
  have hm : minL (vals es) ∈ vals es := minL_mem (fun z => hne (List.map_eq_nil_iff.mp z))
  by_cases h1 : ((vals es).map fun v => decide (V.int v = V.int 1)).all id = true
  · rw [if_pos h1]
    have := List.all_eq_true.mp h1 _ (List.mem_map_of_mem hm)
    have := of_decide_eq_true (show decide (V.int (minL (vals es)) = V.int 1) = true from this)
    exact (V.int.inj this).symm
  · rw [if_neg h1]
    rcases bits_mem h hm with z | z
    · exact z.symm
    · exfalso
      apply h1
      rw [List.all_eq_true]
      intro b hb
      obtain ⟨v, hv, rfl⟩ := List.mem_map.mp hb
      have := minL_le hv
      rcases bits_mem h hv with y | y
      · omega
      · rw [y]; rfl
def spFinish : Sp := fun vs H Q _ => ∃ I M tv nvv bv en us a v, vs = [tv, nvv, .ref en] ∧ HS I M H ∧ TermOf I a tv nvv bv ∧ H en = some (.lst us) ∧ EndsAt .pack I a.ends us ∧ a.ends.length ≤ FUEL ∧ (∀ e ∈ a.ends, e.1.length ≤ 40000) ∧ 2 ≤ a.m ∧ a.m ≤ 9 ∧ finA a = some v ∧
  ∀ u I' H', W (M.map (·.1)) I H I' M H' → VAt .pack I' v u → Q u H'
abbrev N_finish : List Str := ["term", "number", "ends", "kind", "values", "end", "value"]
theorem sc_finish : FnScope N_finish ["term", "number", "ends"] (defScope (top 12)) := fnScope_ok (by decide +kernel)
theorem ok_finish (D : DefAt K mg "finish" 12) (T : Txt K mg) (c_shared : Cl P w K mg base 2 "shared" spShared) (c_least_row : Cl P w K mg base 2 "least_row" spLeastR) : Cl P w K mg base 3 "finish" spFinish := by
  refine cl_mk (i := 12) (N := N_finish) (ps := ["term", "number", "ends"]) D sc_finish (fun _ _ _ _ _ _ us hl => match us, hl with | [_, _, _], _ => rfl) ?_ ?_
  · rintro vs H Q E ⟨I, M, tv, nvv, bv, en, us, a, v, rfl, _⟩
    rfl
  rintro f0 cdv A outer s0 H vs Q E hr ⟨I, M, tv, nvv, bv, en, us, a, v, rfl, hs, hto, hen, hes, hel, hkl, hm2, hm9, hfin, q⟩
  refine ⟨_, (pss_cons (ps_par (i := 3) (j := 4) rfl sc_finish.nd rfl rfl (by decide) rfl rfl (pa_cons (pe_ix ix_tup (pv 0) pe_int (fun _ _ => rfl)) (pa_cons (pe_lc (own := [("end", 5)]) rfl sc_finish.nd (pi_list (pv 2)) (blkOk_by (N := N_finish) (sc := defScope (top 12)) (by decide +kernel)) (fun _ _ _ _ _ => (pg_name (i := 5) sc_finish.nd rfl (Or.inl rfl))) (fun _ _ _ _ _ => pts_nil) (fun _ _ _ _ _ => (pe_ix (ix_tupK (K' := K) rfl) (pv 5) pe_int (fun _ _ => rfl)))) pa_nil)) (by rfl)) (pss_cons (ps_if (pt_cmpR op_eq (pv 3) pe_str (nomark _)) (pss_one (ps_ret (pe_callTy call_int1 (by rfl) T.int (by decide +kernel) (pa_cons (pe_cmpR op_in_seq pe_int (pv 4) (by rfl)) pa_nil)))) pss_nil) (pss_cons (ps_if (pt_cmpR op_eq (pv 3) pe_str (nomark _)) (pss_one (ps_ret (pe_callTy call_int1 (by rfl) T.int (by decide +kernel) (pa_cons (pe_callB (cr_all rfl) (by rfl) T.all (by decide +kernel) (pa_cons (pe_lc (own := [("value", 6)]) rfl sc_finish.nd (pi_list (pv 4)) (blkOk_by (N := N_finish) (sc := defScope (top 12)) (by decide +kernel)) (fun _ _ _ _ _ => (pg_name (i := 6) sc_finish.nd rfl (Or.inl rfl))) (fun _ _ _ _ _ => pts_nil) (fun _ _ _ _ _ => (pe_cmpR op_eq (pv 6) pe_int (nomark _)))) pa_nil)) pa_nil)))) pss_nil) (pss_cons (ps_if (pt_cmpR op_eq (pv 3) pe_str (nomark _)) (pss_one (ps_ret (pe_callB (cr_min rfl) (by rfl) T.min (by decide +kernel) (pa_cons (pv 4) pa_nil)))) pss_nil) (pss_cons (ps_if (pt_cmpR op_eq (pv 3) pe_str (nomark _)) (pss_one (ps_ret (pe_callB (cr_max rfl) (by rfl) T.max (by decide +kernel) (pa_cons (pv 4) pa_nil)))) pss_nil) (pss_one (ps_ret (pe_ifExp (pt_cmpR op_eq (pv 3) pe_str (nomark _)) (pe_cl c_shared hr (by omega) rfl (pa_cons (pe_ix ix_tup (pv 0) pe_int (fun _ _ => rfl)) (pa_cons (pv 1) (pa_cons (pv 2) pa_nil)))) (pe_tup (pa_cons pe_str (pa_cons (pe_cl c_least_row hr (by omega) rfl (pa_cons (pv 2) pa_nil)) pa_nil))))))))))), ?_⟩
  have w0 := W.start hs
  obtain ⟨wd, x, m, b, env, num, mark, known, left, es⟩ := a
  have hes : EndsAt .pack I es us := hes
  have hel : es.length ≤ FUEL := hel
  have hkl : ∀ e ∈ es, e.1.length ≤ 40000 := hkl
  have hm2 : 2 ≤ m := hm2
  have hm9 : m ≤ 9 := hm9
  have hfin : (if wd = "share" then shareO m num es else fin wd es) = some v := hfin
  obtain ⟨p, rest, rfl, hp⟩ : ∃ (p : Addr) (rest : List V), tv = .ref p ∧ I p = some (.tup (.str wd :: .str x :: .int (m : Int) :: rest)) := by
    rcases hto with ⟨hw, p, e, hp⟩ | ⟨hw, hnum, p, vn, e, hp⟩
    · exact ⟨p, _, e, hp⟩
    · have hw : wd = "share" := hw
      subst hw
      exact ⟨p, _, e, hp⟩
  refine ⟨_, rfl, p, _, _, _, rfl, rfl, SqT.of (w0.i hp), atI_0 _ _, ?_⟩
  refine ⟨_, rfl, en, rfl, ⟨_, SqL.of hen⟩, fun D hD => ?_⟩
  refine lc_ends (K := K) (a := en) (es := es) (us := us) (sd := .pack) (fun _ => true) (fun e v => v = .int e.2) hD hen (Same.refl _) (hes.mono hs.sub) hel ?_ ?_
  · rintro e p d H2 F he sm2 h1 h2 hF
    exact ⟨rfl, _, rfl, p, _, _, _, rfl, rfl, SqT.of (sm2 _ _ h1), rfl, hF true _ H2 rfl (Same.refl _) fun _ => rfl⟩
  · rintro H2 ys sm2 hys hp2
    rw [filter_all] at hp2
    obtain rfl : ys = (vals es).map V.int := by
      rw [paired_map (f := fun e : Kn × Int => V.int e.2) (fun _ _ z => z) hp2]
      unfold vals
      rw [List.map_map]
      rfl
    have w2 := w0.same sm2
    refine ⟨_, _, rfl, ?_⟩
    have isint : ∀ {z : Int} {H9 : Hp}, Same H2 H9 → v = .int z → Q (.int z) H9 := fun sm9 e => q _ _ _ (w2.same sm9) (by rw [e]; rfl)
    rcases hto with ⟨hw, p', e', hp'⟩ | ⟨hw, hnum, p', vn, e', hp'⟩
    · have hw : wd ∈ ([("some" : Str), "every", "least", "greatest", "find"] : List Str) := hw
      simp only [List.mem_cons, List.not_mem_nil, or_false] at hw
      have hws : wd ≠ "share" := by rcases hw with rfl | rfl | rfl | rfl | rfl <;> decide +kernel
      rw [if_neg hws] at hfin
      unfold fin at hfin
      by_cases hne : es = []
      · rw [if_pos hne] at hfin; cases hfin
      rw [if_neg hne] at hfin
      have hvl : 0 < (vals es).length := by
        unfold vals
        rw [List.length_map]
        exact List.length_pos_iff.mpr hne
      rcases hw with rfl | rfl | rfl | rfl | rfl
      · rw [if_pos rfl] at hfin
        split at hfin
        · rename_i hb
          refine ⟨_, rfl, rfl, _, rfl, tT rfl ?_⟩
          refine ⟨_, rfl, D, _, rfl, .inl (SqL.of hys), rfl, flat_ints _, .inr ⟨_, rfl, ?_⟩⟩
          have e : (if inV (.int 1) ((vals es).map V.int) = true then (1 : Int) else 0) = maxL (vals es) := by rw [inV_int]; exact max_bits hb hne
          have z := isint (Same.refl _) (Option.some.inj hfin).symm
          rw [← e] at z
          exact z
        · cases hfin
      · rw [if_neg (by decide +kernel), if_pos rfl] at hfin
        split at hfin
        · rename_i hb
          refine ⟨_, rfl, rfl, _, rfl, tF (by decide +kernel) ?_⟩
          refine ⟨_, rfl, rfl, _, rfl, tT rfl ?_⟩
          refine ⟨_, rfl, D, rfl, ⟨_, SqL.of hys⟩, fun D4 hD4 => ?_⟩
          refine lc_list (K := K) (a := D) (xs := (vals es).map V.int) (fun i H' => Same H2 H' ∧ H' D4 = some (.lst ((((vals es).take i).map fun v => decide (V.int v = V.int 1)).map V.bl))) ⟨same_up hD4, upd_same⟩ (fun i H' _ h => SqL.of (h.1 _ _ hys)) ?_ ?_
          · rintro i x' H' hx' ⟨sm3, hD⟩
            have hi := (List.getElem?_eq_some_iff.mp hx').1
            rw [List.length_map] at hi
            have hvl2 : (vals es).length = es.length := by unfold vals; rw [List.length_map]
            rw [List.getElem?_map] at hx'
            obtain ⟨y, hy, rfl⟩ : ∃ y, (vals es)[i]? = some y ∧ x' = .int y := by
              cases q : (vals es)[i]? with
              | none => rw [q] at hx'; cases hx'
              | some y => rw [q] at hx'; exact ⟨y, rfl, (Option.some.inj hx').symm⟩
            refine ⟨rfl, _, rfl, rfl, _, hD, Nat.lt_of_le_of_lt (Nat.le_trans (by rw [List.length_map, List.length_map, List.length_take]; exact Nat.min_le_left _ _ : _ ≤ i) (by omega : i ≤ FUEL)) (by decide), fun a' o' e' => ?_, ?_⟩
            · rw [upd_ne (fun z => by rw [z, hD4] at e'; cases e')]
              exact sm3 _ _ e'
            · rw [upd_same, List.take_succ, hy, List.map_append, List.map_append]
              rfl
          · rintro H' ⟨sm3, hD⟩
            rw [List.length_map, List.take_length] at hD
            refine ⟨D4, _, rfl, SqL.of hD, .inr ⟨_, rfl, ?_⟩⟩
            have e := min_bits hb hne
            have z := isint sm3 (Option.some.inj hfin).symm
            rw [← e] at z
            exact z
        · cases hfin
      · rw [if_neg (by decide +kernel), if_neg (by decide +kernel), if_pos rfl] at hfin
        refine ⟨_, rfl, rfl, _, rfl, tF (by decide +kernel) ?_⟩
        refine ⟨_, rfl, rfl, _, rfl, tF (by decide +kernel) ?_⟩
        refine ⟨_, rfl, rfl, _, rfl, tT rfl ?_⟩
        refine ⟨_, rfl, D, vals es, rfl, SqL.of hys, hvl, fun mx h1 h2 => ?_⟩
        rw [minL_is h1 h2]
        exact isint (Same.refl _) (Option.some.inj hfin).symm
      · rw [if_neg (by decide +kernel), if_neg (by decide +kernel), if_neg (by decide +kernel), if_pos rfl] at hfin
        refine ⟨_, rfl, rfl, _, rfl, tF (by decide +kernel) ?_⟩
        refine ⟨_, rfl, rfl, _, rfl, tF (by decide +kernel) ?_⟩
        refine ⟨_, rfl, rfl, _, rfl, tF (by decide +kernel) ?_⟩
        refine ⟨_, rfl, rfl, _, rfl, tT rfl ?_⟩
        refine ⟨_, rfl, D, vals es, rfl, SqL.of hys, hvl, fun mx h1 h2 => ?_⟩
        rw [maxL_is h1 h2]
        exact isint (Same.refl _) (Option.some.inj hfin).symm
      · rw [if_neg (by decide +kernel), if_neg (by decide +kernel), if_neg (by decide +kernel), if_neg (by decide +kernel), if_pos rfl] at hfin
        refine ⟨_, rfl, rfl, _, rfl, tF (by decide +kernel) ?_⟩
        refine ⟨_, rfl, rfl, _, rfl, tF (by decide +kernel) ?_⟩
        refine ⟨_, rfl, rfl, _, rfl, tF (by decide +kernel) ?_⟩
        refine ⟨_, rfl, rfl, _, rfl, tF (by decide +kernel) ?_⟩
        refine ⟨_, rfl, rfl, _, rfl, tF (by decide +kernel) ?_⟩
        refine ⟨_, rfl, I, en, us, es, rfl, w2.hs.sub, sm2 _ _ hen, hes, hkl, fun ar H6 sm6 har hor => ⟨s2, fun n hn => ?_⟩⟩
        have w6 := w2.same sm6
        have harM : ar ∉ M.map (·.1) ∧ ((∃ u, I ar = some u) ∨ H ar = none) := by
          rcases hor with ⟨u, z⟩ | z
          · refine ⟨fun y => ?_, .inl ⟨_, z⟩⟩
            obtain ⟨q', hq', e'⟩ := List.mem_map.mp y
            have := hs.out q' hq'
            rw [e', z] at this
            cases this
          · refine ⟨fun y => ?_, .inr (w2.free z (w2.notA z))⟩
            obtain ⟨q', hq', e'⟩ := List.mem_map.mp y
            exact w2.hs.neM z q' hq' e'
        obtain ⟨w7, s7⟩ := w6.adopt har harM.1 harM.2
        have w8 := w7.newI hn (.tup [SS "found", .ref ar])
        have s8 := w7.upI hn (.tup [SS "found", .ref ar])
        refine q _ _ _ w8 ?_
        rw [← Option.some.inj hfin]
        exact ⟨n, ar, rfl, upd_same, s8 _ _ upd_same⟩
    · have hw : wd = "share" := hw
      subst hw
      rw [if_pos rfl] at hfin
      have hnum : VAt .pack I num nvv := hnum
      cases num with
      | int nv =>
        obtain rfl : nvv = V.int nv := hnum
        have hfin : shareV m nv es = some v := hfin
        obtain ⟨z, rfl⟩ : ∃ z, v = .int z := by
          unfold shareV at hfin
          split at hfin
          · exact ⟨_, (Option.some.inj hfin).symm⟩
          · cases hfin
        refine ⟨_, rfl, rfl, _, rfl, tF (by decide +kernel) ?_⟩
        refine ⟨_, rfl, rfl, _, rfl, tF (by decide +kernel) ?_⟩
        refine ⟨_, rfl, rfl, _, rfl, tF (by decide +kernel) ?_⟩
        refine ⟨_, rfl, rfl, _, rfl, tF (by decide +kernel) ?_⟩
        refine ⟨_, rfl, rfl, _, rfl, tT rfl ?_⟩
        refine ⟨_, rfl, p, _, _, _, rfl, rfl, SqT.of (w2.i hp), atI_nat (j := 2) rfl, _, rfl, _, rfl, ?_⟩
        exact ⟨en, us, es, nv, z, m, rfl, sm2 _ _ hen, hes.mono w2.hs.sub, hel, hm2, hm9, hfin, fun H9 sm9 => isint sm9 rfl⟩
      | _ => cases hfin
end
end KW
set_option Elab.async false
set_option linter.all false
set_option maxRecDepth 100000
set_option maxHeartbeats 4000000
/-! B6: the next known entries, a stop, a frame's end. -/
namespace KW
open PySem PySem.Spec PyProof.Rows L2 
section
variable {P : Program} {w : World} {K : PySem.W.Frag} {mg : Str → Option Value} {base : Heap}

def tM (fd lf en : Addr) (kvs : List (Key × V)) (ls us : List V) : List (Addr × HO) := [(fd, .dK kvs), (lf, .lst ls), (en, .lst us)]
def spThrough : Sp := fun vs H Q _ => ∃ I r ka kn most nv stk s sk rd vs' rs M2 fd lf en kvs ls us a k lsr, vs = [.ref r, .ref fd] ∧ HS I (cM r sk rd ka nv vs' rs s most ++ (tM fd lf en kvs ls us ++ M2)) H ∧ SR I stk vs' M2 ∧ Rds I kn rs ∧ I ka = some (.dT (knPK kn)) ∧
  AF.Is I a fd lf en kvs ls us ∧ a.left = k :: lsr ∧ a.env.len < 1000 ∧ 1 ≤ a.mark ∧ stk.length ≤ s.steps ∧ s.steps ≤ most ∧ most ≤ MOST ∧
  SPost I H r ka kn most (cM r sk rd ka nv vs' rs s most ++ (tM fd lf en kvs ls us ++ M2)) Q .non (some (through a k lsr stk s))
theorem TermOf.name {I : Hp} {a : AF} {tv nv bv : V} (h : TermOf I a tv nv bv) : ∃ (p : Addr) (rest : List V), tv = .ref p ∧ I p = some (.tup (.str a.w :: .str a.x :: .int (a.m : Int) :: rest)) := by
  rcases h with ⟨hw, p, e, hp⟩ | ⟨hw, hnum, p, vn, e, hp⟩
  · exact ⟨p, _, e, hp⟩
  · exact ⟨p, _, e, by rw [hw]; exact hp⟩
abbrev N_go_through : List Str := ["run", "frame"]
theorem sc_go_through : FnScope N_go_through ["run", "frame"] (defScope (top 51)) := fnScope_ok (by decide +kernel)
theorem ok_go_through (D : DefAt K mg "go_through" 51) (T : Txt K mg) (c_put : Cl P w K mg base 1 "put" spPut) : Cl P w K mg base 2 "go_through" spThrough := by
  refine cl_mk (i := 51) (N := N_go_through) (ps := ["run", "frame"]) D sc_go_through (fun _ _ _ _ _ _ us hl => match us, hl with | [_, _], _ => rfl) ?_ ?_
  · rintro vs H Q E ⟨I, r, ka, kn, most, nv, stk, s, sk, rd, vs', rs, M2, fd, lf, en, kvs, ls, us, a, k, lsr, rfl, _⟩
    rfl
  rintro f0 cdv A outer s0 H vs Q E hr ⟨I, r, ka, kn, most, nv, stk, s, sk, rd, vs', rs, M2, fd, lf, en, kvs, ls, us, a, k, lsr, rfl, hs, hsr, hrd, hka, hai, hleft, hel, hmk, hst, hsm, hmo, post⟩
  refine ⟨_, (pss_cons (ps_dput (hu_of hr) (pv 1) pe_str (pe_bm0 PySem.F.plainAttrs_list PySem.F.slot_list_pop PySem.F.type_list_pop mt_pop (pe_dget (hu_of hr) (pv 1) pe_str (fun _ _ => rfl))) rfl) (pss_cons (ps_expr (pe_bm PySem.F.plainAttrs_list PySem.F.slot_list_append PySem.F.type_list_append mt_append (pe_dget (hu_of hr) (pv 0) pe_str (fun _ _ => rfl)) (pa_cons (pe_tup (pa_cons pe_str (pa_cons (pv 1) pa_nil))) pa_nil))) (pss_one (ps_dput (hu_of hr) (pv 0) pe_str (pe_tup (pa_cons pe_str (pa_cons (pe_dget (hu_of hr) (pv 1) pe_str (fun _ _ => rfl)) (pa_cons (pe_cl c_put hr (by omega) rfl (pa_cons (pe_dget (hu_of hr) (pv 1) pe_str (fun _ _ => rfl)) (pa_cons (pe_ix ix_tup (pe_dget (hu_of hr) (pv 1) pe_str (fun _ _ => rfl)) pe_int (fun _ _ => rfl)) (pa_cons (pe_tup (pa_cons pe_str (pa_cons (pe_dget (hu_of hr) (pv 1) pe_str (fun _ _ => rfl)) pa_nil))) pa_nil)))) pa_nil)))) rfl)))), ?_⟩
  have w0 := W.start hs
  obtain ⟨tv, ed, nvv, bv, kd, lrs, rfl, rfl, hto, hen, hb, hkn, hlp, hes⟩ := hai.ex
  obtain ⟨p, rest, rfl, hp⟩ := hto.name
  obtain ⟨ekv, hek, hekl, hea⟩ := hen
  rw [hleft] at hlp
  cases hlp with
  | cons hk hlp =>
  rename_i k1 lrs'
  have ep : ((k1 :: lrs').map V.ref).reverse = (lrs'.map V.ref).reverse ++ [V.ref k1] := by rw [List.map_cons, List.reverse_cons]
  refine ⟨_, rfl, fd, _, rfl, DG (w0.get (i := 3) rfl) ak_left, .inl ⟨rfl, _, SqL.of (w0.get (i := 4) rfl)⟩, lf, _, .ref k1, rfl, rfl, w0.get (i := 4) rfl, (by rw [ep]; simp), ?_⟩
  have w1 := w0.set (i := 4) rfl (.lst ((k1 :: lrs').map V.ref).reverse.dropLast)
  have e11 : ((k1 :: lrs').map V.ref).reverse.dropLast = (lrs'.map V.ref).reverse := by rw [ep]; exact List.dropLast_concat
  refine ⟨_, rfl, fd, _, rfl, DP (w1.get (i := 3) rfl) ap_known ak_len, ?_⟩
  have w2 := w1.set (i := 3) rfl (.dK (afK (.ref p) (.ref ed) nvv a.mark bv (.ref k1) (.ref lf) (.ref en)))
  rw [e11] at w2 ⊢
  have w2 : W _ I H I (cM r sk rd ka nv vs' rs s most ++ (tM fd lf en (afK (.ref p) (.ref ed) nvv a.mark bv (.ref k1) (.ref lf) (.ref en)) (lrs'.map V.ref).reverse us ++ M2)) _ := w2
  refine ⟨_, rfl, r, _, rfl, DG (w2.get (i := 0) rfl) rk_stack, .inl ⟨rfl, _, SqL.of (w2.get (i := 1) rfl)⟩, _, rfl, s2, fun t ht => ?_⟩
  have w3 := w2.newI ht (.tup [SS "all", .ref fd])
  have u3 := w2.upI ht (.tup [SS "all", .ref fd])
  have hvl := hsr.len
  refine ⟨sk, _, _, rfl, rfl, w3.get (i := 1) rfl, ?_, ?_⟩
  · rw [List.length_reverse, hvl]
    unfold MOST at hmo
    exact small (by omega)
  have w4 := w3.push (.ref t)
  refine ⟨_, rfl, fd, _, rfl, DG (w4.get (i := 3) rfl) ak_body, _, rfl, fd, _, rfl, DG (w4.get (i := 3) rfl) ak_env, _, rfl, fd, _, rfl, DG (w4.get (i := 3) rfl) ak_term, p, _, _, _, rfl, rfl, SqT.of (w4.i (u3 _ _ hp)), atI_nat (j := 1) rfl, _, rfl, fd, _, rfl, DG (w4.get (i := 3) rfl) ak_mark, s2, fun nb hnb => ?_⟩
  have w9 := w4.newI hnb (.tup [SS "bound", .int (a.mark : Int)])
  have u9 := u3.trans (w4.upI hnb (.tup [SS "bound", .int (a.mark : Int)]))
  refine ⟨ed, ekv, .inr a.x, .ref nb, rfl, w9.i (u9 _ _ hek), small (by omega), fun n1 hn1 => ⟨(by show 3 ≤ sizeLine; decide), fun n2 hn2 => ?_⟩⟩
  have w10 := w9.newI hn1 (.dK (putK ekv (.inr a.x) (.ref nb)))
  have u10 := w9.upI hn1 (.dK (putK ekv (.inr a.x) (.ref nb)))
  have w11 := w10.newI hn2 (.tup [SS "eval", bv, .ref n1])
  have u11 := w10.upI hn2 (.tup [SS "eval", bv, .ref n1])
  have uu := u9.trans (u10.trans u11)
  have hnb' := u11 _ _ (u10 _ _ (show upd _ nb _ nb = some (.tup [SS "bound", .int (a.mark : Int)]) from upd_same))
  have em : ((a.mark : Nat) : Int) = ((a.mark - 1 : Nat) : Int) + 1 := by omega
  have hnew : NAt .pack _ (a.env.put a.x (.gone (a.mark - 1))) n1 := ⟨_, u11 _ _ upd_same, by have := length_putK ekv (.inr a.x) (.ref nb); show _ ≤ a.env.len + 1; omega, (hea.mono uu).put ⟨nb, rfl, by rw [hnb', em]; rfl⟩⟩
  have ht' := w4.upI hnb (.tup [SS "bound", .int (a.mark : Int)]) _ _ (show upd _ t _ t = some (.tup [SS "all", .ref fd]) from upd_same)
  obtain ⟨H2, dp, q⟩ := now_end2 (now := .eval a.b (a.env.put a.x (.gone (a.mark - 1)))) (stk := .all { a with known := k, left := lsr } :: stk) (s := s) ⟨⟨sk, rd, .ref t :: vs', rs, _, rfl, ⟨.ref t, vs', rfl, t, fd, lf, en, _, _, _, M2, rfl, u11 _ _ (u10 _ _ ht'), rfl, ⟨⟨.ref p, ed, nvv, bv, k1, lrs', rfl, rfl, TermOf.mono uu hto, ⟨ekv, uu _ _ hek, hekl, hea.mono uu⟩, hb.mono uu, uu _ _ hk, Paired.mapP hlp fun x y z => uu _ _ z, hes.mono uu⟩⟩, hsr.mono uu⟩, hrd.mono uu, uu _ _ hka⟩⟩ w11 ⟨n2, bv, n1, rfl, upd_same, hb.mono uu, hnew⟩ post
  exact ⟨_, rfl, r, H2, rfl, dp, q⟩

theorem W.pickS {A : List Addr} {I0 H0 I H : Hp} {M M' : List (Addr × HO)} (w : W A I0 H0 I M H) (h : M'.Sublist M) : W A I0 H0 I M' H :=
  w.pick (fun p hp => h.subset hp) ((h.map (·.1)).nodup w.hs.nd)
theorem subDrop {α : Type} (C T F : List α) : (C ++ F).Sublist (C ++ (T ++ F)) := (List.sublist_append_right T F).append_left C
def spGone : Sp := fun vs H Q _ => ∃ I r ka kn most nv stk s sk rd vs' rs M2 wp fd lf en kvs ls us a v vv, vs = [.ref r, .ref wp, vv] ∧ HS I (cM r sk rd ka nv vs' rs s most ++ (tM fd lf en kvs ls us ++ M2)) H ∧ SR I stk vs' M2 ∧ Rds I kn rs ∧ I ka = some (.dT (knPK kn)) ∧
  I wp = some (.tup [SS "all", .ref fd]) ∧ AF.Is I a fd lf en kvs ls us ∧ AB 1 s.steps a ∧ VAt .pack I v vv ∧ stk.length ≤ s.steps ∧ s.steps ≤ most ∧ most ≤ MOST ∧
  SPost I H r ka kn most (cM r sk rd ka nv vs' rs s most ++ (tM fd lf en kvs ls us ++ M2)) Q .non (give kn (.all a) v stk s)
abbrev N_gone : List Str := ["run", "waiting", "value", "frame", "told"]
theorem sc_gone : FnScope N_gone ["run", "waiting", "value"] (defScope (top 52)) := fnScope_ok (by decide +kernel)
theorem ok_gone (D : DefAt K mg "gone" 52) (T : Txt K mg) (c_put : Cl P w K mg base 1 "put" spPut) (c_go_through : Cl P w K mg base 2 "go_through" spThrough) (c_finish : Cl P w K mg base 3 "finish" spFinish) (c_game_begun : Cl P w K mg base 1 "game_begun" (fun _ _ _ _ => False)) (c_game_moved : Cl P w K mg base 1 "game_moved" (fun _ _ _ _ => False)) : Cl P w K mg base 4 "gone" spGone := by
  refine cl_mk (i := 52) (N := N_gone) (ps := ["run", "waiting", "value"]) D sc_gone (fun _ _ _ _ _ _ us hl => match us, hl with | [_, _, _], _ => rfl) ?_ ?_
  · rintro vs H Q E ⟨I, r, ka, kn, most, nv, stk, s, sk, rd, vs', rs, M2, wp, fd, lf, en, kvs, ls, us, a, v, vv, rfl, _⟩
    rfl
  rintro f0 cdv A outer s0 H vs Q E hr ⟨I, r, ka, kn, most, nv, stk, s, sk, rd, vs', rs, M2, wp, fd, lf, en, kvs, ls, us, a, v, vv, rfl, hs, hsr, hrd, hka, hwp, hai, hab, hv, hst, hsm, hmo, post⟩
  refine ⟨_, (pss_cons (ps_set (i := 3) sc_gone.nd rfl (Or.inl rfl) (pe_ix ix_tup (pv 1) pe_int (fun _ _ => rfl))) (pss_cons (ps_if (pt_cmpR op_isN (pe_dget (hu_of hr) (pv 3) pe_str (fun _ _ => rfl)) pe_non (nomark _)) (pss_cons (ps_expr (pe_bm PySem.F.plainAttrs_list PySem.F.slot_list_append PySem.F.type_list_append mt_append (pe_dget (hu_of hr) (pv 3) pe_str (fun _ _ => rfl)) (pa_cons (pe_tup (pa_cons (pe_dget (hu_of hr) (pv 3) pe_str (fun _ _ => rfl)) (pa_cons (pv 2) pa_nil))) pa_nil))) (pss_cons (ps_if (pt_cmpR (op_neL0 hr.units0) (pe_dget (hu_of hr) (pv 3) pe_str (fun _ _ => rfl)) (pe_lst pa_nil) (nomark _)) (pss_cons (ps_expr (pe_cl c_go_through hr (by omega) rfl (pa_cons (pv 0) (pa_cons (pv 3) pa_nil)))) (pss_one ps_retN)) pss_nil) (pss_cons (ps_if (pt_cmpR op_ne (pe_ix ix_tup (pe_dget (hu_of hr) (pv 3) pe_str (fun _ _ => rfl)) pe_int (fun _ _ => rfl)) pe_str (nomark _)) (pss_cons (ps_dput (hu_of hr) (pv 0) pe_str (pe_tup (pa_cons pe_str (pa_cons (pe_cl c_finish hr (by omega) rfl (pa_cons (pe_dget (hu_of hr) (pv 3) pe_str (fun _ _ => rfl)) (pa_cons (pe_dget (hu_of hr) (pv 3) pe_str (fun _ _ => rfl)) (pa_cons (pe_dget (hu_of hr) (pv 3) pe_str (fun _ _ => rfl)) pa_nil)))) pa_nil))) rfl) (pss_one ps_retN)) pss_nil) (pss_one (ps_dput (hu_of hr) (pv 3) pe_str (pe_cl c_game_begun hr (by omega) rfl (pa_cons (pe_ix ix_tup (pe_dget (hu_of hr) (pv 3) pe_str (fun _ _ => rfl)) pe_int (fun _ _ => rfl)) (pa_cons (pe_dget (hu_of hr) (pv 3) pe_str (fun _ _ => rfl)) pa_nil))) rfl))))) (pss_one (ps_expr (pe_cl c_game_moved hr (by omega) rfl (pa_cons (pe_dget (hu_of hr) (pv 3) pe_str (fun _ _ => rfl)) (pa_cons (pv 2) pa_nil)))))) (pss_cons (ps_set (i := 4) sc_gone.nd rfl (Or.inl rfl) (pe_dget (hu_of hr) (pe_dget (hu_of hr) (pv 3) pe_str (fun _ _ => rfl)) pe_str (fun _ _ => rfl))) (pss_one (ps_if (pt_cmpR op_eq (pe_ix ix_tup (pv 4) pe_int (fun _ _ => rfl)) pe_str (nomark _)) (pss_one (ps_dput (hu_of hr) (pv 0) pe_str (pe_tup (pa_cons pe_str (pa_cons (pe_ix ix_tup (pv 4) pe_int (fun _ _ => rfl)) pa_nil))) rfl)) (pss_cons (ps_expr (pe_bm PySem.F.plainAttrs_list PySem.F.slot_list_append PySem.F.type_list_append mt_append (pe_dget (hu_of hr) (pv 0) pe_str (fun _ _ => rfl)) (pa_cons (pv 1) pa_nil))) (pss_one (ps_dput (hu_of hr) (pv 0) pe_str (pe_tup (pa_cons pe_str (pa_cons (pe_ix ix_tup (pe_dget (hu_of hr) (pv 3) pe_str (fun _ _ => rfl)) pe_int (fun _ _ => rfl)) (pa_cons (pe_cl c_put hr (by omega) rfl (pa_cons (pe_dget (hu_of hr) (pv 3) pe_str (fun _ _ => rfl)) (pa_cons (pe_ix ix_tup (pe_dget (hu_of hr) (pv 3) pe_str (fun _ _ => rfl)) pe_int (fun _ _ => rfl)) (pa_cons (pe_ix ix_tup (pv 4) pe_int (fun _ _ => rfl)) pa_nil)))) pa_nil)))) rfl)))))))), ?_⟩
  have w0 := W.start hs
  obtain ⟨tv, ed, nvv, bv, kd, lrs, rfl, rfl, hto, hen, hb, hkn, hlp, hes⟩ := hai.ex
  obtain ⟨p, rest, rfl, hp⟩ := hto.name
  cases v with
  | int i =>
    obtain rfl : vv = V.int i := hv
    refine ⟨_, rfl, wp, _, _, _, rfl, rfl, SqT.of (w0.i hwp), rfl, ?_⟩
    refine ⟨_, rfl, fd, _, rfl, DG (w0.get (i := 3) rfl) ak_game, rfl, _, rfl, tT rfl ?_⟩
    refine ⟨_, rfl, fd, _, rfl, DG (w0.get (i := 3) rfl) ak_ends, .inl ⟨rfl, _, SqL.of (w0.get (i := 5) rfl)⟩, _, rfl, fd, _, rfl, DG (w0.get (i := 3) rfl) ak_known, _, rfl, s2, fun t ht => ?_⟩
    have w1 := w0.newI ht (.tup [.ref kd, .int i])
    have u1 := w0.upI ht (.tup [.ref kd, .int i])
    have hel := hab.ends
    refine ⟨en, us, .ref t, rfl, rfl, w1.get (i := 5) rfl, ?_, ?_⟩
    · rw [hes.len]
      unfold MOST at hmo
      exact small (by omega)
    have w2 : W _ I H _ (cM r sk rd ka nv vs' rs s most ++ (tM fd lf en (afK (.ref p) (.ref ed) nvv a.mark bv (.ref kd) (.ref lf) (.ref en)) (lrs.map V.ref).reverse (us ++ [.ref t]) ++ M2)) _ := w1.set (i := 5) rfl (.lst (us ++ [.ref t]))
    have hes2 : EndsAt .pack _ (a.ends ++ [(a.known, i)]) (us ++ [.ref t]) := (hes.mono u1).snoc ⟨t, kd, rfl, upd_same, u1 _ _ hkn⟩
    refine ⟨_, rfl, fd, _, rfl, DG (w2.get (i := 3) rfl) ak_left, Nat.zero_le _, fun n5 hn5 => ⟨lf, n5, _, rfl, rfl, SqL.of (same_up hn5 _ _ (w2.get (i := 4) rfl)), SqL.of upd_same, _, rfl, ?_⟩⟩
    have w3 := w2.same (same_up (o := HO.lst []) hn5)
    have post : SPost I H r ka kn most (cM r sk rd ka nv vs' rs s most ++ (tM fd lf en (afK (.ref p) (.ref ed) nvv a.mark bv (.ref kd) (.ref lf) (.ref en)) (lrs.map V.ref).reverse us ++ M2)) Q .non (match a.left with
      | k :: ls => some (through { a with ends := a.ends ++ [(a.known, i)] } k ls stk s)
      | [] => valO stk s (finA { a with ends := a.ends ++ [(a.known, i)] })) := post
    cases hlf : a.left with
    | cons k lsr =>
      rw [hlf] at post
      have hne : (!((lrs.map V.ref).reverse).isEmpty) = true := by
        rw [hlf] at hlp
        cases hlp
        rw [List.map_cons, List.reverse_cons]
        simp
      refine bT hne ?_
      refine ⟨_, rfl, _, rfl, ?_⟩
      refine ⟨_, r, ka, kn, most, nv, stk, s, sk, rd, vs', rs, M2, fd, lf, en, _, _, _, { a with ends := a.ends ++ [(a.known, i)] }, k, lsr, rfl, w3.hs, hsr.mono u1, hrd.mono u1, u1 _ _ hka, ⟨⟨.ref p, ed, nvv, bv, kd, lrs, rfl, rfl, TermOf.mono u1 hto, hen.mono u1, hb.mono u1, u1 _ _ hkn, Paired.mapP hlp fun x y z => u1 _ _ z, hes2⟩⟩, hlf, hab.el, hab.mk, hst, hsm, hmo, post.from w3⟩
    | nil =>
      rw [hlf] at post hlp
      cases hlp
      refine bF rfl ?_
      cases hfin : finA { a with ends := a.ends ++ [(a.known, i)] } with
      | none =>
        have e : valO stk s (finA { a with ends := a.ends ++ [(a.known, i)] }) = none := by rw [hfin]; rfl
        have post : SPost I H r ka kn most _ Q .non (valO stk s (finA { a with ends := a.ends ++ [(a.known, i)] })) := post
        rw [e] at post
        exact post.elim
      | some fv =>
        have e : valO stk s (finA { a with ends := a.ends ++ [(a.known, i)] }) = some ⟨.value fv, stk, s⟩ := by rw [hfin]; rfl
        have post : SPost I H r ka kn most _ Q .non (valO stk s (finA { a with ends := a.ends ++ [(a.known, i)] })) := post
        rw [e] at post
        have hwc : a.w ≠ "contest" := by
          rcases hto with ⟨hw, _⟩ | ⟨hw, _⟩
          · intro z
            rw [z] at hw
            revert hw
            decide +kernel
          · rw [hw]; decide +kernel
        refine ⟨_, rfl, fd, _, rfl, DG (w3.get (i := 3) rfl) ak_term, p, _, _, _, rfl, rfl, SqT.of (w3.i (u1 _ _ hp)), atI_0 _ _, rfl, _, rfl, nT (ne_s hwc) ?_⟩
        refine ⟨_, rfl, fd, _, rfl, DG (w3.get (i := 3) rfl) ak_term, _, rfl, fd, _, rfl, DG (w3.get (i := 3) rfl) ak_number, _, rfl, fd, _, rfl, DG (w3.get (i := 3) rfl) ak_ends, ?_⟩
        refine ⟨_, _, .ref p, nvv, bv, en, us ++ [.ref t], { a with ends := a.ends ++ [(a.known, i)] }, fv, rfl, w3.hs, TermOf.mono u1 hto, w3.get (i := 5) rfl, hes2, ?_, ?_, hab.m2, hab.m9, hfin, fun u I5 H5 w5 hfv => ⟨s2, fun n6 hn6 => ?_⟩⟩
        · show (a.ends ++ [(a.known, i)]).length ≤ FUEL
          rw [List.length_append, List.length_singleton]
          unfold MOST at hmo
          unfold FUEL
          omega
        · intro e' he'
          have : goodK e'.1 := by
            rcases List.mem_append.mp he' with z | z
            · exact hab.ke e' z
            · rw [List.mem_singleton.mp z]; exact hab.kn
          have := this.len
          omega
        have w6 := w3.callG w5
        have w7 := w6.newI hn6 (.tup [SS "value", u])
        have u7 := w6.upI hn6 (.tup [SS "value", u])
        have uu : Same I _ := u1.trans (w5.st.same.trans u7)
        have w8 := w7.pickS (subDrop (cM r sk rd ka nv vs' rs s most) _ M2)
        obtain ⟨H2, dp, q⟩ := now_end2 (now := .value fv) (stk := stk) (s := s) ⟨⟨sk, rd, vs', rs, M2, rfl, hsr.mono uu, hrd.mono uu, uu _ _ hka⟩⟩ w8 ⟨n6, u, rfl, upd_same, hfv.mono u7⟩ post
        exact ⟨_, rfl, r, H2, rfl, dp, q⟩
  | _ => exact post.elim

def spStop : Sp := fun vs H Q _ => ∃ I r ka kn most nv stk s M rv i u, vs = [.ref r, rv, .int i] ∧ SPre I H r ka kn most nv stk s M ∧ VAt .pack I u rv ∧ 0 ≤ i ∧ i < 4 ∧ (∀ a, Fr.all a ∈ stk → AB 1 s.steps a) ∧
  (match u with
    | .given _ => Q (.bl false) H
    | _ => SPost I H r ka kn most M Q (.bl true) (stopC u i stk s))
theorem SR.pop {I : Hp} {f : Fr} {stk : List Fr} {vs : List V} {M : List (Addr × HO)} (h : SR I (f :: stk) vs M) (hf : ∀ a, f ≠ .all a) : ∃ v vs', vs = v :: vs' ∧ FrAt I f v ∧ SR I stk vs' M := by
  obtain ⟨v, vs', e, q⟩ := h
  cases f with
  | all a => exact absurd rfl (hf a)
  | _ => exact ⟨v, vs', e, q.1, q.2⟩
/-- a frame popped -/
theorem W.pop {A : List Addr} {I0 H0 I H : Hp} {r sk rd ka : Addr} {nv v : V} {vs rs : List V} {s : S} {most : Nat} {M2 : List (Addr × HO)} (w : W A I0 H0 I (cM r sk rd ka nv (v :: vs) rs s most ++ M2) H) :
    W A I0 H0 I (cM r sk rd ka nv vs rs s most ++ M2) (upd H sk (.lst (v :: vs).reverse.dropLast)) := by
  have w1 := w.set (i := 1) rfl (.lst (v :: vs).reverse.dropLast)
  have e1 : (v :: vs).reverse.dropLast = vs.reverse := by rw [List.reverse_cons]; exact List.dropLast_concat
  rw [e1] at w1 ⊢
  exact w1
theorem atI_snoc' {α : Type} (xs : List α) (y : α) : atI (xs ++ [y]) (-1) = some y := by
  unfold atI
  have e : ixN (xs ++ [y]).length (-1) = some xs.length := by
    unfold ixN
    rw [List.length_append, List.length_singleton, if_neg (by omega)]
    simp
    omega
  rw [e]
  simp
theorem rev_ne {v : V} {vs : List V} : (v :: vs).reverse ≠ [] := by rw [List.reverse_cons]; simp
theorem rev_last {v : V} {vs : List V} : (v :: vs).reverse[(v :: vs).reverse.length - 1]? = some v := by rw [List.reverse_cons]; simp
theorem atI_rev {v : V} {vs : List V} : atI (v :: vs).reverse (-1) = some v := by rw [List.reverse_cons]; exact atI_snoc' _ _
abbrev N_step_stop : List Str := ["run", "row", "i", "frame", "digit"]
theorem sc_step_stop : FnScope N_step_stop ["run", "row", "i"] (defScope (top 50)) := fnScope_ok (by decide +kernel)
theorem ok_step_stop (D : DefAt K mg "step_stop" 50) (T : Txt K mg) (c_put : Cl P w K mg base 1 "put" spPut) (c_go_through : Cl P w K mg base 2 "go_through" spThrough) : Cl P w K mg base 3 "step_stop" spStop := by
  refine cl_mk (i := 50) (N := N_step_stop) (ps := ["run", "row", "i"]) D sc_step_stop (fun _ _ _ _ _ _ us hl => match us, hl with | [_, _, _], _ => rfl) ?_ ?_
  · rintro vs H Q E ⟨I, r, ka, kn, most, nv, stk, s, M, rv, i, u, rfl, _⟩
    rfl
  rintro f0 cdv A outer s0 H vs Q E hr ⟨I, r, ka, kn, most, nv, stk, s, M, rv, i, u, rfl, pre, hu, hi0, hi4, hab, post⟩
  refine ⟨_, (pss_cons (ps_if (pt_cmpR op_eq (pe_ix ix_tup (pv 1) pe_int (fun _ _ => rfl)) pe_str (nomark _)) (pss_one (ps_ret pe_bl)) pss_nil) (pss_cons (ps_while PassesOwn.never (PW.pt (pw_or (pt_cmpR op_ne (pe_ix ix_tup (pe_ix ix_list (pe_dget (hu_of hr) (pv 0) pe_str (fun _ _ => rfl)) (pe_un un_neg pe_int) (fun _ _ => rfl)) pe_int (fun _ _ => rfl)) pe_str (nomark _)) (pw_or1 (pt_cmpR op_ne (pe_dget (hu_of hr) (pe_ix ix_tup (pe_ix ix_list (pe_dget (hu_of hr) (pv 0) pe_str (fun _ _ => rfl)) (pe_un un_neg pe_int) (fun _ _ => rfl)) pe_int (fun _ _ => rfl)) pe_str (fun _ _ => rfl)) (pe_ix ix_tup (pv 1) pe_int (fun _ _ => rfl)) (nomark _))))) (pss_one (ps_expr (pe_bm0 PySem.F.plainAttrs_list PySem.F.slot_list_pop PySem.F.type_list_pop mt_pop (pe_dget (hu_of hr) (pv 0) pe_str (fun _ _ => rfl)))))) (pss_cons (ps_set (i := 3) sc_step_stop.nd rfl (Or.inl rfl) (pe_ix ix_tup (pe_bm0 PySem.F.plainAttrs_list PySem.F.slot_list_pop PySem.F.type_list_pop mt_pop (pe_dget (hu_of hr) (pv 0) pe_str (fun _ _ => rfl))) pe_int (fun _ _ => rfl))) (pss_cons (ps_for PassesOwn.never rfl (pi_range3 rfl T.range (pa_cons (pe_op op_sub (pe_ix ix_tup (pe_dget (hu_of hr) (pv 3) pe_str (fun _ _ => rfl)) pe_int (fun _ _ => rfl)) pe_int) (pa_cons (pe_un un_neg pe_int) (pa_cons (pe_un un_neg pe_int) pa_nil)))) (pg_name (i := 4) sc_step_stop.nd rfl (Or.inl rfl)) (pss_one (ps_expr (pe_bm PySem.F.plainAttrs_list PySem.F.slot_list_append PySem.F.type_list_append mt_append (pe_dget (hu_of hr) (pv 3) pe_str (fun _ _ => rfl)) (pa_cons (pe_cl c_put hr (by omega) rfl (pa_cons (pe_dget (hu_of hr) (pv 3) pe_str (fun _ _ => rfl)) (pa_cons (pv 2) (pa_cons (pv 4) pa_nil)))) pa_nil))))) (pss_cons (ps_expr (pe_cl c_go_through hr (by omega) rfl (pa_cons (pv 0) (pa_cons (pv 3) pa_nil)))) (pss_one (ps_ret pe_bl))))))), ?_⟩
  have w0 := W.start pre.hs
  obtain ⟨sk, rd, vs0, rs, M2, rfl, hsr, hrd, hka⟩ := pre.rs.ex
  cases u with
  | given k =>
    obtain ⟨p, rfl, hp⟩ := hu
    exact ⟨_, rfl, p, _, _, _, rfl, rfl, SqT.of (w0.i hp), rfl, rfl, _, rfl, tT rfl post⟩
  | gone g =>
    obtain ⟨p, rfl, hp⟩ := hu
    refine ⟨_, rfl, p, _, _, _, rfl, rfl, SqT.of (w0.i hp), rfl, rfl, _, rfl, tF (by decide +kernel) ?_⟩
    have post : SPost I H r ka kn most (cM r sk rd ka nv vs0 rs s most ++ M2) Q (.bl true) (stopC (.gone g) i stk s) := post
    unfold stopC at post
    dsimp only at post
    cases hun : unwind (g + 1) stk with
    | none => rw [hun] at post; exact post.elim
    | some ar =>
      obtain ⟨a, stk1⟩ := ar
      rw [hun] at post
      dsimp only at post
      obtain ⟨ham, _, _⟩ := unwind_mem hun
      have hab1 := hab a ham
      refine ⟨fun n σ H' => ∃ (stk' : List Fr) (vs' : List V) (M2' : List (Addr × HO)), σ = [some (.ref r), some (.ref p), some (.int i), none, none] ∧ W ((cM r sk rd ka nv vs0 rs s most ++ M2).map (·.1)) I H I (cM r sk rd ka nv vs' rs s most ++ M2') H' ∧ SR I stk' vs' M2' ∧ stk'.length = n ∧ unwind (g + 1) stk' = some (a, stk1), ⟨stk.length, stk, vs0, M2, rfl, w0, hsr, rfl, hun⟩, ?_⟩
      rintro n σ H' ⟨stk', vs', M2', rfl, w1, hsr1, hn, hun1⟩
      cases stk' with
      | nil => cases hun1
      | cons f stk2 =>
        have rest : (∀ b, f = .all b → b.mark ≠ g + 1) → unwind (g + 1) stk2 = some (a, stk1) := fun h => by
          cases f with
          | all b =>
            unfold unwind at hun1
            rw [if_neg (h b rfl)] at hun1
            exact hun1
          | _ => exact hun1
        by_cases hall : ∃ b, f = .all b
        · obtain ⟨b, rfl⟩ := hall
          obtain ⟨v, vs2, rfl, pf, fd, lf, en, kvs, ls, us, M3, rfl, hpf, rfl, hai, hsr2⟩ := hsr1
          obtain ⟨tv, ed, nvv, bv, kd, lrs, rfl, rfl, hto, hen, hb, hkn, hlp, hes⟩ := hai.ex
          have w1 : W _ I H I (cM r sk rd ka nv (V.ref pf :: vs2) rs s most ++ (tM fd lf en (afK tv (.ref ed) nvv b.mark bv (.ref kd) (.ref lf) (.ref en)) (lrs.map V.ref).reverse us ++ M3)) H' := w1
          refine ⟨_, rfl, r, _, rfl, DG (w1.get (i := 0) rfl) rk_stack, _, rfl, sk, _, _, _, rfl, rfl, SqL.of (w1.get (i := 1) rfl), atI_rev, pf, _, _, _, rfl, rfl, SqT.of (w1.i hpf), rfl, rfl, _, rfl, nF rfl ?_⟩
          refine ⟨_, rfl, r, _, rfl, DG (w1.get (i := 0) rfl) rk_stack, _, rfl, sk, _, _, _, rfl, rfl, SqL.of (w1.get (i := 1) rfl), atI_rev, pf, _, _, _, rfl, rfl, SqT.of (w1.i hpf), rfl, fd, _, rfl, DG (w1.get (i := 3) rfl) ak_mark, ?_⟩
          refine ⟨_, rfl, p, _, _, _, rfl, rfl, SqT.of (w1.i hp), rfl, rfl, _, rfl, ?_⟩
          by_cases hm : b.mark = g + 1
          · refine nF (by show V.int ((b.mark : Nat) : Int) = V.int ((g : Int) + 1); rw [hm]; rfl) ?_
            unfold unwind at hun1
            rw [if_pos hm] at hun1
            cases hun1
            obtain ⟨pt, rest3, rfl, hpt⟩ := hto.name
            refine ⟨_, rfl, r, _, rfl, DG (w1.get (i := 0) rfl) rk_stack, .inl ⟨rfl, _, SqL.of (w1.get (i := 1) rfl)⟩, sk, _, _, rfl, rfl, w1.get (i := 1) rfl, rev_last, ?_⟩
            have w2 := w1.pop
            refine ⟨pf, _, _, _, rfl, rfl, SqT.of (w2.i hpf), rfl, ?_⟩
            have hlk : look a.known i = none := by
              cases hh : heirs a.m a.known i ++ a.left with
              | nil => rw [hh] at post; exact post.elim
              | cons k ls =>
                rw [hh] at post
                dsimp only at post
                cases hl : look a.known i with
                | none => rfl
                | some z => rw [hl] at post; exact post.elim
            have hm2 := hab1.m2
            have hm9 := hab1.m9
            have hkl := hab1.kn.len
            have hleft := hab1.left
            refine ⟨_, rfl, fd, _, rfl, DG (w2.get (i := 3) rfl) ak_term, pt, _, _, _, rfl, rfl, SqT.of (w2.i hpt), atI_nat (j := 2) rfl, _, _, rfl, rfl, _, rfl, _, rfl, _, _, _, _, rfl, RgC.neg (by omega) (by omega) (by decide) (by decide), ?_⟩
            have em : ((a.m : Int) - 1 - -1).toNat = a.m := by omega
            rw [em]
            refine for_rangeC (fun j σ H' => ∃ (I' : Hp) (ds : List Addr) (v4 : Option V), σ = [some (.ref r), some (.ref p), some (.int i), some (.ref fd), v4] ∧
              W ((cM r sk rd ka nv vs0 rs s most ++ M2).map (·.1)) I H I' (cM r sk rd ka nv vs2 rs s most ++ (tM fd lf en (afK (.ref pt) (.ref ed) nvv a.mark bv (.ref kd) (.ref lf) (.ref en)) ((lrs.map V.ref).reverse ++ ds.map V.ref) us ++ M3)) H' ∧ Same I I' ∧ Paired (KnR I') (down a.m a.known i j) ds ∧ ds.length = j) ⟨I, [], none, rfl, by rw [List.map_nil, List.append_nil]; exact w2, Same.refl _, .nil, rfl⟩ ?_ ?_
            · rintro j σ H' hj ⟨I', ds, v4, rfl, w3, s3, hds, hdl⟩
              refine ⟨_, rfl, fd, _, rfl, DG (w3.get (i := 3) rfl) ak_left, .inl ⟨rfl, _, SqL.of (w3.get (i := 4) rfl)⟩, _, rfl, fd, _, rfl, DG (w3.get (i := 3) rfl) ak_known, _, rfl, _, rfl, ?_⟩
              refine ⟨kd, knK a.known, .inl i, .int ((a.m : Int) - 1 + (j : Nat) * -1), rfl, w3.i (s3 _ _ hkn), by rw [knK_len]; exact small (by omega), fun n10 hn10 => ?_⟩
              have w4 := w3.newI hn10 (.dK (putK (knK a.known) (.inl i) (.int ((a.m : Int) - 1 + (j : Nat) * -1))))
              have s4 := w3.upI hn10 (.dK (putK (knK a.known) (.inl i) (.int ((a.m : Int) - 1 + (j : Nat) * -1))))
              refine ⟨lf, _, _, rfl, rfl, w4.get (i := 4) rfl, ?_, ?_⟩
              · rw [List.length_append, List.length_reverse, List.length_map, List.length_map, hdl, ← Paired.length hlp]
                have h1 := pre.sm
                have h2 := pre.mo
                unfold MOST at h2
                have : 9 * 30000 + 20 ≤ sizeLine := by decide
                omega
              have w5 := w4.set (i := 4) rfl (.lst (((lrs.map V.ref).reverse ++ ds.map V.ref) ++ [.ref n10]))
              refine ⟨_, ds ++ [n10], _, rfl, ?_, s3.trans s4, ?_, by rw [List.length_append, List.length_singleton, hdl]⟩
              · have el : (lrs.map V.ref).reverse ++ (ds ++ [n10]).map V.ref = ((lrs.map V.ref).reverse ++ ds.map V.ref) ++ [V.ref n10] := by rw [List.map_append (l₁ := ds), List.append_assoc]; rfl
                rw [el]
                exact w5
              · rw [down_succ]
                refine Paired.app (Paired.mapP hds fun x y z => s4 _ _ z) (.cons ?_ .nil)
                show upd I' n10 _ n10 = _
                rw [upd_same, knK_app hlk]
                have e : (a.m : Int) - 1 + (j : Nat) * -1 = ((a.m - 1 - j : Nat) : Int) := by omega
                rw [e]
            · rintro σ H' ⟨I', ds, v4, rfl, w3, s3, hds, hdl⟩
              cases hh : heirs a.m a.known i ++ a.left with
              | nil => rw [hh] at post; exact post.elim
              | cons k ls =>
                rw [hh] at post
                dsimp only at post
                rw [hlk] at post
                dsimp only at post
                have hlp2 : Paired (KnR I') (heirs a.m a.known i ++ a.left) (ds.reverse ++ lrs) := by
                  rw [← down_all]
                  exact Paired.app (Paired.rev hds) (Paired.mapP hlp fun x y z => s3 _ _ z)
                have els : (lrs.map V.ref).reverse ++ ds.map V.ref = ((ds.reverse ++ lrs).map V.ref).reverse := by
                  rw [List.map_append, List.reverse_append, List.map_reverse, List.reverse_reverse]
                rw [els] at w3
                have hst := pre.st
                have hul := unwind_mem hun
                refine ⟨_, rfl, _, rfl, ?_⟩
                refine ⟨I', r, ka, kn, most, nv, stk1, s, sk, rd, vs2, rs, M3, fd, lf, en, _, _, us, { a with left := heirs a.m a.known i ++ a.left }, k, ls, rfl, w3.hs, hsr2.mono s3, hrd.mono s3, s3 _ _ hka, ⟨⟨.ref pt, ed, nvv, bv, kd, ds.reverse ++ lrs, rfl, rfl, TermOf.mono s3 hto, hen.mono s3, hb.mono s3, s3 _ _ hkn, hlp2, hes.mono s3⟩⟩, hh, hab1.el, hab1.mk, by omega, pre.sm, pre.mo, ?_⟩
                exact fun I9 H9 M9 w9 r9 => post I9 H9 M9 (w3.callG w9) r9
          · refine nT (by show ¬ V.int ((b.mark : Nat) : Int) = V.int ((g : Int) + 1); intro z; have := V.int.inj z; omega) ?_
            refine ⟨_, fun σ' H' z => ⟨stk2.length, by rw [← hn]; exact Nat.lt_succ_self _, z⟩, ?_⟩
            refine ⟨_, rfl, r, _, rfl, DG (w1.get (i := 0) rfl) rk_stack, .inl ⟨rfl, _, SqL.of (w1.get (i := 1) rfl)⟩, sk, _, _, rfl, rfl, w1.get (i := 1) rfl, rev_last, ?_⟩
            have w2 := w1.pop.pickS (subDrop _ _ _)
            exact ⟨stk2, vs2, M3, rfl, w2, hsr2, rfl, rest fun b' e => by cases e; exact hm⟩
        · obtain ⟨v, vs2, rfl, hfr, hsr2⟩ := hsr1.pop (fun b e => hall ⟨b, e⟩)
          obtain ⟨pf, wd, rest2, rfl, hpf, hwd⟩ := hfr.word
          refine ⟨_, rfl, r, _, rfl, DG (w1.get (i := 0) rfl) rk_stack, _, rfl, sk, _, _, _, rfl, rfl, SqL.of (w1.get (i := 1) rfl), atI_rev, pf, _, _, _, rfl, rfl, SqT.of (w1.i hpf), atI_0 _ _, rfl, _, rfl, nT (ne_s hwd) ?_⟩
          refine ⟨_, fun σ' H' z => ⟨stk2.length, by rw [← hn]; exact Nat.lt_succ_self _, z⟩, ?_⟩
          refine ⟨_, rfl, r, _, rfl, DG (w1.get (i := 0) rfl) rk_stack, .inl ⟨rfl, _, SqL.of (w1.get (i := 1) rfl)⟩, sk, _, _, rfl, rfl, w1.get (i := 1) rfl, rev_last, ?_⟩
          exact ⟨stk2, vs2, M2', rfl, w1.pop, hsr2, rfl, rest fun b e => absurd ⟨b, e⟩ hall⟩
  | _ => exact post.elim
end
end KW
set_option Elab.async false
set_option linter.all false
set_option maxRecDepth 100000
set_option maxHeartbeats 4000000
/-! B7: the run goes on and on. -/
namespace KW
open PySem PySem.Spec PyProof.Rows L2 
section
variable {P : Program} {w : World} {K : PySem.W.Frag} {mg : Str → Option Value} {base : Heap}
structure GiveCl (P : Program) (w : World) (K : PySem.W.Frag) (mg : Str → Option Value) (base : Heap) : Prop where
  give_prim : Cl P w K mg base 3 "give_prim" (spGive fun f => ∃ op b e, f = .prim op b e)
  give_prim_2 : Cl P w K mg base 3 "give_prim_2" (spGive fun f => ∃ op u, f = .prim2 op u)
  give_as : Cl P w K mg base 3 "give_as" (spGive fun f => ∃ m, f = .as m)
  give_part : Cl P w K mg base 3 "give_part" (spGive fun f => f = .count ∨ f = .fst ∨ f = .snd)
  give_if : Cl P w K mg base 3 "give_if" (spGive fun f => ∃ a b e, f = .ite a b e)
  give_repeat : Cl P w K mg base 3 "give_repeat" (spGive fun f => ∃ a b e, f = .rep a b e)
  give_repeat_2 : Cl P w K mg base 3 "give_repeat_2" (spGive fun f => ∃ n t e, f = .rep2 n t e)
  give_call : Cl P w K mg base 3 "give_call" (spGive fun f => ∃ a e, f = .call a e)
  give_call_2 : Cl P w K mg base 3 "give_call_2" (spGive fun f => ∃ u, f = .call2 u)
  give_pair : Cl P w K mg base 3 "give_pair" (spGive fun f => ∃ a e, f = .pair a e)
  give_pair_2 : Cl P w K mg base 3 "give_pair_2" (spGive fun f => ∃ u, f = .pair2 u)
  give_at : Cl P w K mg base 3 "give_at" (spGive fun f => ∃ a e, f = .idx a e)
  give_at_2 : Cl P w K mg base 3 "give_at_2" (spGive fun f => ∃ u, f = .idx2 u)
  give_share : Cl P w K mg base 3 "give_share" (spGive fun f => ∃ x m b n e, f = .share x m b n e)
/-- the dict GIVES of the module stands at g -/
structure Gives (K : PySem.W.Frag) (w : World) (mg : Str → Option Value) (g : Addr) : Prop where
  cGIVES : ∃ u, mg "GIVES" = some u ∧ RelV (.ref g) u
  k0 : ∃ f, mg "give_prim" = some (.ref f) ∧ KDct K w g "prim" (.ref f)
  k1 : ∃ f, mg "give_prim_2" = some (.ref f) ∧ KDct K w g "prim 2" (.ref f)
  k2 : ∃ f, mg "give_as" = some (.ref f) ∧ KDct K w g "as" (.ref f)
  k3 : ∃ f, mg "give_part" = some (.ref f) ∧ KDct K w g "count" (.ref f)
  k4 : ∃ f, mg "give_part" = some (.ref f) ∧ KDct K w g "first" (.ref f)
  k5 : ∃ f, mg "give_part" = some (.ref f) ∧ KDct K w g "second" (.ref f)
  k6 : ∃ f, mg "give_if" = some (.ref f) ∧ KDct K w g "if" (.ref f)
  k7 : ∃ f, mg "give_repeat" = some (.ref f) ∧ KDct K w g "repeat" (.ref f)
  k8 : ∃ f, mg "give_repeat_2" = some (.ref f) ∧ KDct K w g "repeat 2" (.ref f)
  k9 : ∃ f, mg "give_call" = some (.ref f) ∧ KDct K w g "call" (.ref f)
  k10 : ∃ f, mg "give_call_2" = some (.ref f) ∧ KDct K w g "call 2" (.ref f)
  k11 : ∃ f, mg "give_pair" = some (.ref f) ∧ KDct K w g "pair" (.ref f)
  k12 : ∃ f, mg "give_pair_2" = some (.ref f) ∧ KDct K w g "pair 2" (.ref f)
  k13 : ∃ f, mg "give_at" = some (.ref f) ∧ KDct K w g "at" (.ref f)
  k14 : ∃ f, mg "give_at_2" = some (.ref f) ∧ KDct K w g "at 2" (.ref f)
  k15 : ∃ f, mg "give_share" = some (.ref f) ∧ KDct K w g "share" (.ref f)
def spValue : Sp := fun vs H Q _ => ∃ I r ka kn most nv stk s M f v vv, vs = [.ref r, vv] ∧ SPre I H r ka kn most nv (f :: stk) s M ∧ (∀ a, f = .all a → AB 1 s.steps a) ∧ VAt .pack I v vv ∧
  SPost I H r ka kn most M Q .non (give kn f v stk s)
abbrev N_step_value : List Str := ["run", "value", "frame", "kind"]
theorem sc_step_value : FnScope N_step_value ["run", "value"] (defScope (top 31)) := fnScope_ok (by decide +kernel)
theorem ok_step_value {g : Addr} (D : DefAt K mg "step_value" 31) (T : Txt K mg) (G : Gives K w mg g) (GC : GiveCl P w K mg base) (c_gone : Cl P w K mg base 4 "gone" spGone) (c_turn : Cl P w K mg base 2 "turn" spTurn) : Cl P w K mg base 5 "step_value" spValue := by
  refine cl_mk (i := 31) (N := N_step_value) (ps := ["run", "value"]) D sc_step_value (fun _ _ _ _ _ _ us hl => match us, hl with | [_, _], _ => rfl) ?_ ?_
  · rintro vs H Q E ⟨I, r, ka, kn, most, nv, stk, s, M, f, v, vv, rfl, _⟩
    rfl
  rintro f0 cdv A outer s0 H vs Q E hr ⟨I, r, ka, kn, most, nv, stk, s, M, f, v, vv, rfl, pre, hab, hv, post⟩
  refine ⟨_, (pss_cons (ps_set (i := 2) sc_step_value.nd rfl (Or.inl rfl) (pe_bm0 PySem.F.plainAttrs_list PySem.F.slot_list_pop PySem.F.type_list_pop mt_pop (pe_dget (hu_of hr) (pv 0) pe_str (fun _ _ => rfl)))) (pss_cons (ps_set (i := 3) sc_step_value.nd rfl (Or.inl rfl) (pe_ix ix_tup (pv 2) pe_int (fun _ _ => rfl))) (pss_one (ps_if (pt_cmpR op_eq (pv 3) pe_str (nomark _)) (pss_one (ps_expr (pe_cl c_gone hr (by omega) rfl (pa_cons (pv 0) (pa_cons (pv 2) (pa_cons (pv 1) pa_nil)))))) (pss_one (ps_if (pt_cmpR op_eq (pv 3) pe_str (nomark _)) (pss_one (ps_expr (pe_cl c_turn hr (by omega) rfl (pa_cons (pv 0) (pa_cons (pe_ix ix_tup (pv 2) pe_int (fun _ _ => rfl)) (pa_cons (pe_ix ix_tup (pv 2) pe_int (fun _ _ => rfl)) (pa_cons (pv 1) pa_nil))))))) (pss_one (ps_expr (pe_callE (k := 3) hr (by omega) (pe_ix ix_kdict (C8.pe_gc rfl G.cGIVES) (pv 3) (fun _ _ => rfl)) (pa_cons (pv 0) (pa_cons (pv 2) (pa_cons (pv 1) pa_nil)))))))))))), ?_⟩
  have w0 := W.start pre.hs
  obtain ⟨sk, rd, vs0, rs, M2, rfl, hsr, hrd, hka⟩ := pre.rs.ex
  have hst := pre.st
  rw [List.length_cons] at hst
  by_cases hall : ∃ a, f = .all a
  · obtain ⟨a, rfl⟩ := hall
    obtain ⟨v0, vs2, rfl, pf, fd, lf, en, kvs, ls, us, M3, rfl, hpf, rfl, hai, hsr2⟩ := hsr
    refine ⟨_, rfl, r, _, rfl, DG (w0.get (i := 0) rfl) rk_stack, .inl ⟨rfl, _, SqL.of (w0.get (i := 1) rfl)⟩, sk, _, _, rfl, rfl, w0.get (i := 1) rfl, rev_last, ?_⟩
    have w1 := w0.pop
    refine ⟨_, rfl, pf, _, _, _, rfl, rfl, SqT.of (w1.i hpf), rfl, ?_⟩
    refine ⟨_, rfl, rfl, _, rfl, tT rfl ?_⟩
    refine ⟨_, rfl, _, rfl, _, rfl, ?_⟩
    exact ⟨I, r, ka, kn, most, nv, stk, s, sk, rd, vs2, rs, M3, pf, fd, lf, en, kvs, ls, us, a, v, vv, rfl, w1.hs, hsr2, hrd, hka, hpf, hai, hab a rfl, hv, by omega, pre.sm, pre.mo, post.from w1⟩
  · have hnall : ∀ a, f ≠ .all a := fun a e => hall ⟨a, e⟩
    obtain ⟨v0, vs2, rfl, hfr, hsr2⟩ := hsr.pop hnall
    have hfr' := hfr
    obtain ⟨pf, wd, rest, rfl, hpf, hwd⟩ := hfr'.word
    refine ⟨_, rfl, r, _, rfl, DG (w0.get (i := 0) rfl) rk_stack, .inl ⟨rfl, _, SqL.of (w0.get (i := 1) rfl)⟩, sk, _, _, rfl, rfl, w0.get (i := 1) rfl, rev_last, ?_⟩
    have w1 := w0.pop
    have pre1 : SPre I _ r ka kn most nv stk s (cM r sk rd ka nv vs2 rs s most ++ M2) := ⟨w1.hs, ⟨⟨sk, rd, vs2, rs, M2, rfl, hsr2, hrd, hka⟩⟩, pre.gk, by omega, pre.sm, pre.mo⟩
    have post1 := post.from w1
    refine ⟨_, rfl, pf, _, _, _, rfl, rfl, SqT.of (w1.i hpf), atI_0 _ _, ?_⟩
    refine ⟨_, rfl, rfl, _, rfl, tF (ne_s hwd) ?_⟩
    cases f with
    | all a => exact absurd rfl (hnall a)
    | turns n f2 =>
      obtain ⟨p', x, e', hp', hx⟩ := hfr
      cases e'
      rw [hpf] at hp'
      cases hp'
      refine ⟨_, rfl, rfl, _, rfl, tT rfl ?_⟩
      refine ⟨_, rfl, _, rfl, pf, _, _, _, rfl, rfl, SqT.of (w1.i hpf), rfl, _, rfl, pf, _, _, _, rfl, rfl, SqT.of (w1.i hpf), rfl, _, rfl, ?_⟩
      exact ⟨I, r, ka, kn, most, nv, stk, s, _, x, vv, f2, v, n, rfl, pre1, by omega, hx, hv, post1⟩
    | prim op b e =>
      have hfr2 := hfr
      obtain ⟨p', vb, d2, e', hp', _⟩ := hfr2
      cases e'
      rw [hpf] at hp'
      cases hp'
      refine ⟨_, rfl, rfl, _, rfl, tF (by decide +kernel) ?_⟩
      obtain ⟨gf, hgf, hkd⟩ := G.k0
      refine ⟨_, rfl, g, _, .ref gf, rfl, rfl, hkd, gf, _, rfl, GC.give_prim.at hgf, _, rfl, _, rfl, _, rfl, ?_⟩
      exact ⟨I, r, ka, kn, most, nv, stk, s, _, .ref pf, vv, _, v, rfl, pre1, by omega, hfr, hv, ⟨op, b, e, rfl⟩, post1⟩
    | prim2 op u =>
      have hfr2 := hfr
      obtain ⟨p', x, e', hp', _⟩ := hfr2
      cases e'
      rw [hpf] at hp'
      cases hp'
      refine ⟨_, rfl, rfl, _, rfl, tF (by decide +kernel) ?_⟩
      obtain ⟨gf, hgf, hkd⟩ := G.k1
      refine ⟨_, rfl, g, _, .ref gf, rfl, rfl, hkd, gf, _, rfl, GC.give_prim_2.at hgf, _, rfl, _, rfl, _, rfl, ?_⟩
      exact ⟨I, r, ka, kn, most, nv, stk, s, _, .ref pf, vv, _, v, rfl, pre1, by omega, hfr, hv, ⟨op, u, rfl⟩, post1⟩
    | as m =>
      have hfr2 := hfr
      obtain ⟨p', e', hp'⟩ := hfr2
      cases e'
      rw [hpf] at hp'
      cases hp'
      refine ⟨_, rfl, rfl, _, rfl, tF (by decide +kernel) ?_⟩
      obtain ⟨gf, hgf, hkd⟩ := G.k2
      refine ⟨_, rfl, g, _, .ref gf, rfl, rfl, hkd, gf, _, rfl, GC.give_as.at hgf, _, rfl, _, rfl, _, rfl, ?_⟩
      exact ⟨I, r, ka, kn, most, nv, stk, s, _, .ref pf, vv, _, v, rfl, pre1, by omega, hfr, hv, ⟨m, rfl⟩, post1⟩
    | count =>
      have hfr2 := hfr
      obtain ⟨p', e', hp'⟩ := hfr2
      cases e'
      rw [hpf] at hp'
      cases hp'
      refine ⟨_, rfl, rfl, _, rfl, tF (by decide +kernel) ?_⟩
      obtain ⟨gf, hgf, hkd⟩ := G.k3
      refine ⟨_, rfl, g, _, .ref gf, rfl, rfl, hkd, gf, _, rfl, GC.give_part.at hgf, _, rfl, _, rfl, _, rfl, ?_⟩
      exact ⟨I, r, ka, kn, most, nv, stk, s, _, .ref pf, vv, _, v, rfl, pre1, by omega, hfr, hv, .inl rfl, post1⟩
    | fst =>
      have hfr2 := hfr
      obtain ⟨p', e', hp'⟩ := hfr2
      cases e'
      rw [hpf] at hp'
      cases hp'
      refine ⟨_, rfl, rfl, _, rfl, tF (by decide +kernel) ?_⟩
      obtain ⟨gf, hgf, hkd⟩ := G.k4
      refine ⟨_, rfl, g, _, .ref gf, rfl, rfl, hkd, gf, _, rfl, GC.give_part.at hgf, _, rfl, _, rfl, _, rfl, ?_⟩
      exact ⟨I, r, ka, kn, most, nv, stk, s, _, .ref pf, vv, _, v, rfl, pre1, by omega, hfr, hv, .inr (.inl rfl), post1⟩
    | snd =>
      have hfr2 := hfr
      obtain ⟨p', e', hp'⟩ := hfr2
      cases e'
      rw [hpf] at hp'
      cases hp'
      refine ⟨_, rfl, rfl, _, rfl, tF (by decide +kernel) ?_⟩
      obtain ⟨gf, hgf, hkd⟩ := G.k5
      refine ⟨_, rfl, g, _, .ref gf, rfl, rfl, hkd, gf, _, rfl, GC.give_part.at hgf, _, rfl, _, rfl, _, rfl, ?_⟩
      exact ⟨I, r, ka, kn, most, nv, stk, s, _, .ref pf, vv, _, v, rfl, pre1, by omega, hfr, hv, .inr (.inr rfl), post1⟩
    | ite a b e =>
      have hfr2 := hfr
      obtain ⟨p', va, vb, d2, e', hp', _⟩ := hfr2
      cases e'
      rw [hpf] at hp'
      cases hp'
      refine ⟨_, rfl, rfl, _, rfl, tF (by decide +kernel) ?_⟩
      obtain ⟨gf, hgf, hkd⟩ := G.k6
      refine ⟨_, rfl, g, _, .ref gf, rfl, rfl, hkd, gf, _, rfl, GC.give_if.at hgf, _, rfl, _, rfl, _, rfl, ?_⟩
      exact ⟨I, r, ka, kn, most, nv, stk, s, _, .ref pf, vv, _, v, rfl, pre1, by omega, hfr, hv, ⟨a, b, e, rfl⟩, post1⟩
    | rep a b e =>
      have hfr2 := hfr
      obtain ⟨p', va, vb, d2, e', hp', _⟩ := hfr2
      cases e'
      rw [hpf] at hp'
      cases hp'
      refine ⟨_, rfl, rfl, _, rfl, tF (by decide +kernel) ?_⟩
      obtain ⟨gf, hgf, hkd⟩ := G.k7
      refine ⟨_, rfl, g, _, .ref gf, rfl, rfl, hkd, gf, _, rfl, GC.give_repeat.at hgf, _, rfl, _, rfl, _, rfl, ?_⟩
      exact ⟨I, r, ka, kn, most, nv, stk, s, _, .ref pf, vv, _, v, rfl, pre1, by omega, hfr, hv, ⟨a, b, e, rfl⟩, post1⟩
    | rep2 a b e =>
      have hfr2 := hfr
      obtain ⟨p', va, vb, d2, e', hp', _⟩ := hfr2
      cases e'
      rw [hpf] at hp'
      cases hp'
      refine ⟨_, rfl, rfl, _, rfl, tF (by decide +kernel) ?_⟩
      obtain ⟨gf, hgf, hkd⟩ := G.k8
      refine ⟨_, rfl, g, _, .ref gf, rfl, rfl, hkd, gf, _, rfl, GC.give_repeat_2.at hgf, _, rfl, _, rfl, _, rfl, ?_⟩
      exact ⟨I, r, ka, kn, most, nv, stk, s, _, .ref pf, vv, _, v, rfl, pre1, by omega, hfr, hv, ⟨a, b, e, rfl⟩, post1⟩
    | call a e =>
      have hfr2 := hfr
      obtain ⟨p', va, d2, e', hp', _⟩ := hfr2
      cases e'
      rw [hpf] at hp'
      cases hp'
      refine ⟨_, rfl, rfl, _, rfl, tF (by decide +kernel) ?_⟩
      obtain ⟨gf, hgf, hkd⟩ := G.k9
      refine ⟨_, rfl, g, _, .ref gf, rfl, rfl, hkd, gf, _, rfl, GC.give_call.at hgf, _, rfl, _, rfl, _, rfl, ?_⟩
      exact ⟨I, r, ka, kn, most, nv, stk, s, _, .ref pf, vv, _, v, rfl, pre1, by omega, hfr, hv, ⟨a, e, rfl⟩, post1⟩
    | call2 u =>
      have hfr2 := hfr
      obtain ⟨p', x, e', hp', _⟩ := hfr2
      cases e'
      rw [hpf] at hp'
      cases hp'
      refine ⟨_, rfl, rfl, _, rfl, tF (by decide +kernel) ?_⟩
      obtain ⟨gf, hgf, hkd⟩ := G.k10
      refine ⟨_, rfl, g, _, .ref gf, rfl, rfl, hkd, gf, _, rfl, GC.give_call_2.at hgf, _, rfl, _, rfl, _, rfl, ?_⟩
      exact ⟨I, r, ka, kn, most, nv, stk, s, _, .ref pf, vv, _, v, rfl, pre1, by omega, hfr, hv, ⟨u, rfl⟩, post1⟩
    | pair a e =>
      have hfr2 := hfr
      obtain ⟨p', va, d2, e', hp', _⟩ := hfr2
      cases e'
      rw [hpf] at hp'
      cases hp'
      refine ⟨_, rfl, rfl, _, rfl, tF (by decide +kernel) ?_⟩
      obtain ⟨gf, hgf, hkd⟩ := G.k11
      refine ⟨_, rfl, g, _, .ref gf, rfl, rfl, hkd, gf, _, rfl, GC.give_pair.at hgf, _, rfl, _, rfl, _, rfl, ?_⟩
      exact ⟨I, r, ka, kn, most, nv, stk, s, _, .ref pf, vv, _, v, rfl, pre1, by omega, hfr, hv, ⟨a, e, rfl⟩, post1⟩
    | pair2 u =>
      have hfr2 := hfr
      obtain ⟨p', x, e', hp', _⟩ := hfr2
      cases e'
      rw [hpf] at hp'
      cases hp'
      refine ⟨_, rfl, rfl, _, rfl, tF (by decide +kernel) ?_⟩
      obtain ⟨gf, hgf, hkd⟩ := G.k12
      refine ⟨_, rfl, g, _, .ref gf, rfl, rfl, hkd, gf, _, rfl, GC.give_pair_2.at hgf, _, rfl, _, rfl, _, rfl, ?_⟩
      exact ⟨I, r, ka, kn, most, nv, stk, s, _, .ref pf, vv, _, v, rfl, pre1, by omega, hfr, hv, ⟨u, rfl⟩, post1⟩
    | idx a e =>
      have hfr2 := hfr
      obtain ⟨p', va, d2, e', hp', _⟩ := hfr2
      cases e'
      rw [hpf] at hp'
      cases hp'
      refine ⟨_, rfl, rfl, _, rfl, tF (by decide +kernel) ?_⟩
      obtain ⟨gf, hgf, hkd⟩ := G.k13
      refine ⟨_, rfl, g, _, .ref gf, rfl, rfl, hkd, gf, _, rfl, GC.give_at.at hgf, _, rfl, _, rfl, _, rfl, ?_⟩
      exact ⟨I, r, ka, kn, most, nv, stk, s, _, .ref pf, vv, _, v, rfl, pre1, by omega, hfr, hv, ⟨a, e, rfl⟩, post1⟩
    | idx2 u =>
      have hfr2 := hfr
      obtain ⟨p', x, e', hp', _⟩ := hfr2
      cases e'
      rw [hpf] at hp'
      cases hp'
      refine ⟨_, rfl, rfl, _, rfl, tF (by decide +kernel) ?_⟩
      obtain ⟨gf, hgf, hkd⟩ := G.k14
      refine ⟨_, rfl, g, _, .ref gf, rfl, rfl, hkd, gf, _, rfl, GC.give_at_2.at hgf, _, rfl, _, rfl, _, rfl, ?_⟩
      exact ⟨I, r, ka, kn, most, nv, stk, s, _, .ref pf, vv, _, v, rfl, pre1, by omega, hfr, hv, ⟨u, rfl⟩, post1⟩
    | share x m b n e =>
      have hfr2 := hfr
      obtain ⟨p', va, d2, e', hp', _⟩ := hfr2
      cases e'
      rw [hpf] at hp'
      cases hp'
      refine ⟨_, rfl, rfl, _, rfl, tF (by decide +kernel) ?_⟩
      obtain ⟨gf, hgf, hkd⟩ := G.k15
      refine ⟨_, rfl, g, _, .ref gf, rfl, rfl, hkd, gf, _, rfl, GC.give_share.at hgf, _, rfl, _, rfl, _, rfl, ?_⟩
      exact ⟨I, r, ka, kn, most, nv, stk, s, _, .ref pf, vv, _, v, rfl, pre1, by omega, hfr, hv, ⟨x, m, b, n, e, rfl⟩, post1⟩

def Cfg.fin (c : Cfg) : Prop := (∃ v, c.now = .value v ∧ c.stk = []) ∨ ∃ k i, c.now = .stop (.given k) i
theorem valO_s {stk : List Fr} {s : S} {o : Option Val} {c : Cfg} (h : valO stk s o = some c) : c.s = s := by
  cases o with
  | none => cases h
  | some v => cases h; rfl
theorem beginC_s {w x : Str} {m : Nat} {b : Tm} {e : Nv} {num : Val} {stk : List Fr} {s : S} {c : Cfg} (h : beginC w x m b e num stk s = some c) : c.s.steps = s.steps := by
  unfold beginC at h
  split at h
  · cases h; rfl
  · cases h
theorem goF_s {f v : Val} {stk : List Fr} {s : S} {c : Cfg} (h : goF f v stk s = some c) : c.s = s := by
  cases f with
  | clo x b e =>
    unfold goF at h
    dsimp only at h
    split at h
    · cases h; rfl
    · cases h
  | _ => cases h
theorem evalC_s {t : Tm} {e : Nv} {stk : List Fr} {s : S} {c : Cfg} (h : evalC t e stk s = some c) : c.s.steps = s.steps := by
  cases t with
  | var x => rw [valO_s h]
  | qu w x m b =>
    unfold evalC at h
    dsimp only at h
    split at h
    · cases h
    · exact beginC_s h
  | _ => cases h; rfl
theorem readC_s {kn : KnP} {r v : Val} {stk : List Fr} {s : S} {c : Cfg} (h : readC kn r v stk s = some c) : c.s = s := by
  unfold readC at h
  split at h
  · split at h
    · cases h; rfl
    · cases h
  · cases h; rfl
  · split at h
    · split at h
      · cases h
      · split at h
        · cases h; rfl
        · cases h; rfl
    · cases h
  · split at h
    · split at h
      · cases h; rfl
      · cases h; rfl
    · cases h
  · cases h
theorem give_s {kn : KnP} {f : Fr} {v : Val} {stk : List Fr} {s : S} {c : Cfg} (h : give kn f v stk s = some c) : c.s.steps = s.steps := by
  cases f with
  | prim2 op u => rw [valO_s (show valO _ _ _ = _ from h)]
  | as m => rw [valO_s (show valO _ _ _ = _ from h)]
  | count => rw [valO_s (show valO _ _ _ = _ from h)]
  | fst => rw [valO_s (show valO _ _ _ = _ from h)]
  | snd => rw [valO_s (show valO _ _ _ = _ from h)]
  | ite a b e =>
    cases v with
    | int i => cases h; rfl
    | _ => cases h
  | rep2 n t e =>
    cases n with
    | int i =>
      unfold give at h
      dsimp only at h
      split at h
      · cases h; rfl
      · cases h
    | _ => cases h
  | turns n f =>
    cases n with
    | zero => cases h; rfl
    | succ n => rw [goF_s (show goF _ _ _ _ = _ from h)]
  | call2 f => rw [goF_s (show goF _ _ _ _ = _ from h)]
  | idx2 r => rw [readC_s (show readC _ _ _ _ _ = _ from h)]
  | share x m b n e => exact beginC_s h
  | all a =>
    cases v with
    | int i =>
      unfold give at h
      dsimp only at h
      split at h
      · cases h; rfl
      · rw [valO_s h]
    | _ => cases h
  | _ => cases h; rfl
theorem stopC_s {r : Val} {i : Int} {stk : List Fr} {s : S} {c : Cfg} (h : stopC r i stk s = some c) : c.s = s := by
  unfold stopC at h
  repeat (split at h)
  all_goals first | cases h; rfl | cases h
theorem cstep_steps {most : Nat} {kn : KnP} {c c' : Cfg} (h : cstep most kn c = some c') (hs : c.s.steps ≤ most) : c'.s.steps ≤ most := by
  unfold cstep at h
  split at h
  · split at h
    · cases h
    · rw [evalC_s h]
      show c.s.steps + 1 ≤ most
      omega
  · split at h
    · cases h
    · rw [give_s h]; exact hs
  · rw [stopC_s h]; exact hs
def spIsDone : Sp := fun vs H Q _ => ∃ I r ka kn most c M, vs = [.ref r] ∧ HS I M H ∧ RR I r ka kn most c M ∧ BD c ∧ kn.length ≤ 12 ∧ c.s.steps ≤ most ∧ most ≤ MOST ∧
  ((c.fin ∧ ∀ H', Same H H' → Q (.bl true) H') ∨ (¬ c.fin ∧ SPost I H r ka kn most M Q (.bl false) (cstep most kn c)))
abbrev N_is_done : List Str := ["run", "now"]
theorem sc_is_done : FnScope N_is_done ["run"] (defScope (top 53)) := fnScope_ok (by decide +kernel)
theorem ok_is_done (D : DefAt K mg "is_done" 53) (T : Txt K mg) (c_step_eval : Cl P w K mg base 3 "step_eval" spEval) (c_step_stop : Cl P w K mg base 3 "step_stop" spStop) (c_step_value : Cl P w K mg base 5 "step_value" spValue) : Cl P w K mg base 6 "is_done" spIsDone := by
  refine cl_mk (i := 53) (N := N_is_done) (ps := ["run"]) D sc_is_done (fun _ _ _ _ _ _ us hl => match us, hl with | [_], _ => rfl) ?_ ?_
  · rintro vs H Q E ⟨I, r, ka, kn, most, c, M, rfl, _⟩
    rfl
  rintro f0 cdv A outer s0 H vs Q E hr ⟨I, r, ka, kn, most, c, M, rfl, hs, ⟨nv, rs0, hnow⟩, bd, hkl, hsm, hmo, post⟩
  refine ⟨_, (pss_cons (ps_set (i := 1) sc_is_done.nd rfl (Or.inl rfl) (pe_dget (hu_of hr) (pv 0) pe_str (fun _ _ => rfl))) (pss_cons (ps_if (pt_cmpR op_eq (pe_ix ix_tup (pv 1) pe_int (fun _ _ => rfl)) pe_str (nomark _)) (pss_cons (ps_dput (hu_of hr) (pv 0) pe_str (pe_op op_add (pe_dget (hu_of hr) (pv 0) pe_str (fun _ _ => rfl)) pe_int) rfl) (pss_cons (ps_if (PW.pt (pw_and (pt_cmpR op_notN (pe_dget (hu_of hr) (pv 0) pe_str (fun _ _ => rfl)) pe_non (nomark _)) (pw_and1 (pt_cmpR op_gt (pe_dget (hu_of hr) (pv 0) pe_str (fun _ _ => rfl)) (pe_dget (hu_of hr) (pv 0) pe_str (fun _ _ => rfl)) (nomark _))))) (pss_one ps_never) pss_nil) (pss_cons (ps_expr (pe_cl c_step_eval hr (by omega) rfl (pa_cons (pv 0) (pa_cons (pe_ix ix_tup (pv 1) pe_int (fun _ _ => rfl)) (pa_cons (pe_ix ix_tup (pv 1) pe_int (fun _ _ => rfl)) pa_nil))))) (pss_one (ps_ret pe_bl))))) pss_nil) (pss_cons (ps_if (pt_cmpR op_eq (pe_ix ix_tup (pv 1) pe_int (fun _ _ => rfl)) pe_str (nomark _)) (pss_one (ps_ret (pe_not (pe_cl c_step_stop hr (by omega) rfl (pa_cons (pv 0) (pa_cons (pe_ix ix_tup (pv 1) pe_int (fun _ _ => rfl)) (pa_cons (pe_ix ix_tup (pv 1) pe_int (fun _ _ => rfl)) pa_nil))))))) pss_nil) (pss_cons (ps_if (pt_cmpR (op_eqL0 hr.units0) (pe_dget (hu_of hr) (pv 0) pe_str (fun _ _ => rfl)) (pe_lst pa_nil) (nomark _)) (pss_one (ps_ret pe_bl)) pss_nil) (pss_cons (ps_expr (pe_cl c_step_value hr (by omega) rfl (pa_cons (pv 0) (pa_cons (pe_ix ix_tup (pv 1) pe_int (fun _ _ => rfl)) pa_nil)))) (pss_one (ps_ret pe_bl))))))), ?_⟩
  have w0 := W.start hs
  obtain ⟨sk, rd, vs0, rs, M2, rfl, hsr, hrd, hka⟩ := rs0.ex
  have hbst := bd.st
  cases hn : c.now with
  | eval t e =>
    rw [hn] at hnow hbst
    obtain ⟨p, tv, ed, rfl, hp, ht, hen⟩ := hnow
    have hnf : ¬ c.fin := by rintro (⟨v, h, _⟩ | ⟨k, i, h⟩) <;> rw [hn] at h <;> cases h
    rcases post with ⟨h, _⟩ | ⟨_, post⟩
    · exact absurd h hnf
    unfold cstep at post
    rw [hn] at post
    dsimp only at post
    refine ⟨_, rfl, r, _, rfl, DG (w0.get (i := 0) rfl) rk_now, ?_⟩
    refine ⟨_, rfl, p, _, _, _, rfl, rfl, SqT.of (w0.i hp), rfl, rfl, _, rfl, tT rfl ?_⟩
    refine ⟨_, rfl, r, _, rfl, DG (w0.get (i := 0) rfl) rk_steps, _, _, rfl, rfl, _, rfl, r, _, rfl, DP (w0.get (i := 0) rfl) (rp_steps (n := c.s.steps + 1)) rk_len, ?_⟩
    have w1 : W _ I H I (cM r sk rd ka (.ref p) vs0 rs ⟨c.s.steps + 1, c.s.marks⟩ most ++ M2) _ := w0.set (i := 0) rfl (.dK (runK (.ref p) (.ref sk) (.ref ka) (.ref rd) (c.s.steps + 1) most c.s.marks))
    by_cases hlt : most < c.s.steps + 1
    · rw [if_pos hlt] at post; exact post.elim
    rw [if_neg hlt] at post
    refine ⟨_, rfl, r, _, rfl, DG (w1.get (i := 0) rfl) rk_most, rfl, _, rfl, nT (by intro z; cases z) ?_⟩
    refine ⟨_, rfl, r, _, rfl, DG (w1.get (i := 0) rfl) rk_steps, _, rfl, r, _, rfl, DG (w1.get (i := 0) rfl) rk_most, _, _, rfl, rfl, _, rfl, tF (by show ¬ (most : Int) < ((c.s.steps + 1 : Nat) : Int); omega) ?_⟩
    refine ⟨_, rfl, _, rfl, p, _, _, _, rfl, rfl, SqT.of (w1.i hp), rfl, _, rfl, p, _, _, _, rfl, rfl, SqT.of (w1.i hp), rfl, ?_⟩
    have hb2 : c.stk.length + 0 ≤ c.s.steps := hbst
    refine ⟨I, r, ka, kn, most, .ref p, c.stk, ⟨c.s.steps + 1, c.s.marks⟩, _, tv, ed, t, e, rfl, ⟨w1.hs, ⟨⟨sk, rd, vs0, rs, M2, rfl, hsr, hrd, hka⟩⟩, hkl, by show c.stk.length ≤ c.s.steps + 1; omega, by show c.s.steps + 1 ≤ most; omega, hmo⟩, by show c.stk.length + 1 ≤ c.s.steps + 1; omega, ht, hen, ?_⟩
    cases hev : evalC t e c.stk ⟨c.s.steps + 1, c.s.marks⟩ with
    | none => rw [hev] at post; exact post.elim
    | some c' =>
      rw [hev] at post
      exact fun I9 H9 M9 w9 r9 => post I9 H9 M9 (w1.callG w9) r9
  | stop u i =>
    rw [hn] at hnow hbst
    obtain ⟨p, x, rfl, hp, hu⟩ := hnow
    have hok := bd.ok
    rw [hn] at hok
    have hb2 : c.stk.length + 1 ≤ c.s.steps := hbst
    refine ⟨_, rfl, r, _, rfl, DG (w0.get (i := 0) rfl) rk_now, ?_⟩
    refine ⟨_, rfl, p, _, _, _, rfl, rfl, SqT.of (w0.i hp), rfl, rfl, _, rfl, tF (by decide +kernel) ?_⟩
    refine ⟨_, rfl, p, _, _, _, rfl, rfl, SqT.of (w0.i hp), rfl, rfl, _, rfl, tT rfl ?_⟩
    refine ⟨_, rfl, _, rfl, p, _, _, _, rfl, rfl, SqT.of (w0.i hp), rfl, _, rfl, p, _, _, _, rfl, rfl, SqT.of (w0.i hp), rfl, ?_⟩
    refine ⟨I, r, ka, kn, most, .ref p, c.stk, c.s, _, x, i, u, rfl, ⟨w0.hs, rs0, hkl, by omega, hsm, hmo⟩, hu, hok.1, hok.2, fun a ha => by have := bd.fr a ha; rw [hn] at this; exact this, ?_⟩
    have gone : (¬ ∃ k, u = .given k) → SPost I H r ka kn most (cM r sk rd ka (.ref p) vs0 rs c.s most ++ M2) (fun x H' => ∃ b, x = .bl b ∧ Q (.bl (!b)) H') (.bl true) (stopC u i c.stk c.s) := fun hg => by
      have hnf : ¬ c.fin := by
        rintro (⟨v, h, _⟩ | ⟨k, i, h⟩)
        · rw [hn] at h; cases h
        · rw [hn] at h; cases h; exact hg ⟨k, rfl⟩
      rcases post with ⟨h, _⟩ | ⟨_, post⟩
      · exact absurd h hnf
      unfold cstep at post
      rw [hn] at post
      dsimp only at post
      cases hst : stopC u i c.stk c.s with
      | none => rw [hst] at post; exact post.elim
      | some c' =>
        rw [hst] at post
        exact fun I9 H9 M9 w9 r9 => ⟨true, rfl, post I9 H9 M9 w9 r9⟩
    cases u with
    | given k =>
      rcases post with ⟨_, q⟩ | ⟨h, _⟩
      · exact ⟨false, rfl, q _ (Same.refl _)⟩
      · exact absurd (.inr ⟨k, i, hn⟩) h
    | _ => exact gone (by rintro ⟨k, h⟩; cases h)
  | value v =>
    rw [hn] at hnow hbst
    obtain ⟨p, x, rfl, hp, hv⟩ := hnow
    have hb2 : c.stk.length + 1 ≤ c.s.steps := hbst
    refine ⟨_, rfl, r, _, rfl, DG (w0.get (i := 0) rfl) rk_now, ?_⟩
    refine ⟨_, rfl, p, _, _, _, rfl, rfl, SqT.of (w0.i hp), rfl, rfl, _, rfl, tF (by decide +kernel) ?_⟩
    refine ⟨_, rfl, p, _, _, _, rfl, rfl, SqT.of (w0.i hp), rfl, rfl, _, rfl, tF (by decide +kernel) ?_⟩
    refine ⟨_, rfl, r, _, rfl, DG (w0.get (i := 0) rfl) rk_stack, Nat.zero_le _, fun n5 hn5 => ⟨sk, n5, _, rfl, rfl, SqL.of (same_up hn5 _ _ (w0.get (i := 1) rfl)), SqL.of upd_same, _, rfl, ?_⟩⟩
    have w1 := w0.same (same_up (o := HO.lst []) hn5)
    have hvl := hsr.len
    cases hk : c.stk with
    | nil =>
      rw [hk] at hvl
      have e0 : vs0 = [] := List.length_eq_zero_iff.mp hvl
      subst e0
      refine bT rfl ?_
      rcases post with ⟨_, q⟩ | ⟨h, _⟩
      · exact q _ (same_up hn5)
      · exact absurd (.inl ⟨v, hn, hk⟩) h
    | cons f stk =>
      have hne : ((vs0.reverse).isEmpty) = false := by
        rw [hk] at hvl
        cases vs0 with
        | nil => cases hvl
        | cons a r => rw [List.reverse_cons]; simp
      refine bF hne ?_
      have hnf : ¬ c.fin := by
        rintro (⟨v', h, h2⟩ | ⟨k, i, h⟩)
        · rw [hk] at h2; cases h2
        · rw [hn] at h; cases h
      rcases post with ⟨h, _⟩ | ⟨_, post⟩
      · exact absurd h hnf
      unfold cstep at post
      rw [hn, hk] at post
      dsimp only at post
      refine ⟨_, rfl, _, rfl, p, _, _, _, rfl, rfl, SqT.of (w1.i hp), rfl, ?_⟩
      refine ⟨I, r, ka, kn, most, .ref p, stk, c.s, _, f, v, x, rfl, ⟨w1.hs, by rw [← hk]; exact rs0, hkl, by rw [← hk]; omega, hsm, hmo⟩, fun a ha => by have := bd.fr a (by rw [hk, ha]; exact List.mem_cons_self); rw [hn] at this; exact this, hv, ?_⟩
      cases hg : give kn f v stk c.s with
      | none => rw [hg] at post; exact post.elim
      | some c' =>
        rw [hg] at post
        exact fun I9 H9 M9 w9 r9 => post I9 H9 M9 (w1.callG w9) r9

theorem fin_none {most : Nat} {kn : KnP} {c : Cfg} (h : c.fin) : cstep most kn c = none := by
  unfold cstep
  rcases h with ⟨v, h1, h2⟩ | ⟨k, i, h1⟩
  · rw [h1, h2]
  · rw [h1]; rfl
def spDone : Sp := fun vs H Q _ => ∃ I r ka kn most c M n cf, vs = [.ref r] ∧ HS I M H ∧ RR I r ka kn most c M ∧ BD c ∧ kn.length ≤ 12 ∧ c.s.steps ≤ most ∧ most ≤ MOST ∧ Run most kn n c cf ∧ cf.fin ∧
  ∀ I' H' M', W (M.map (·.1)) I H I' M' H' → RR I' r ka kn most cf M' → cf.s.steps ≤ most → Q (.ref r) H'
abbrev N_done : List Str := ["run"]
theorem sc_done : FnScope N_done ["run"] (defScope (top 54)) := fnScope_ok (by decide +kernel)
theorem ok_done (D : DefAt K mg "done" 54) (T : Txt K mg) (c_is_done : Cl P w K mg base 6 "is_done" spIsDone) : Cl P w K mg base 7 "done" spDone := by
  refine cl_mk (i := 54) (N := N_done) (ps := ["run"]) D sc_done (fun _ _ _ _ _ _ us hl => match us, hl with | [_], _ => rfl) ?_ ?_
  · rintro vs H Q E ⟨I, r, ka, kn, most, c, M, n, cf, rfl, _⟩
    rfl
  rintro f0 cdv A outer s0 H vs Q E hr ⟨I, r, ka, kn, most, c, M, n, cf, rfl, hs, hrr, bd, hkl, hsm, hmo, hrun, hfin, q⟩
  refine ⟨_, (pss_cons (ps_while PassesOwn.never (pt_not (pt_val (pe_cl c_is_done hr (by omega) rfl (pa_cons (pv 0) pa_nil)))) (pss_one ps_pass)) (pss_one (ps_ret (pv 0)))), ?_⟩
  have w0 := W.start hs
  refine ⟨fun n σ H' => ∃ (c' : Cfg) (I' : Hp) (M' : List (Addr × HO)), σ = [some (.ref r)] ∧ W (M.map (·.1)) I H I' M' H' ∧ RR I' r ka kn most c' M' ∧ BD c' ∧ c'.s.steps ≤ most ∧ Run most kn n c' cf, ⟨n, c, I, M, rfl, w0, hrr, bd, hsm, hrun⟩, ?_⟩
  rintro n σ H' ⟨c', I', M', rfl, w1, hrr1, bd1, hsm1, hrun1⟩
  cases hrun1 with
  | refl =>
    refine ⟨_, rfl, ?_⟩
    refine ⟨I', r, ka, kn, most, _, M', rfl, w1.hs, hrr1, bd1, hkl, hsm1, hmo, .inl ⟨hfin, fun H2 sm2 => ?_⟩⟩
    refine ⟨_, rfl, ?_⟩
    refine iteF ?_
    exact ⟨_, rfl, q I' H2 M' (w1.same sm2) hrr1 hsm1⟩
  | step h hr1 =>
    rename_i n1 c1
    refine ⟨_, rfl, ?_⟩
    refine ⟨I', r, ka, kn, most, c', M', rfl, w1.hs, hrr1, bd1, hkl, hsm1, hmo, .inr ⟨fun hf => ?_, ?_⟩⟩
    · rw [fin_none hf] at h
      cases h
    · rw [h]
      intro I9 H9 M9 w9 r9
      refine ⟨_, rfl, ?_⟩
      refine iteT ?_
      refine ⟨_, fun σ' H' z => ⟨n1, Nat.lt_succ_self _, z⟩, ?_⟩
      exact ⟨c1, I9, M9, rfl, w1.callG w9, r9, bd_step bd1 h, cstep_steps h hsm1, hr1⟩
end
end KW
set_option Elab.async false
set_option linter.all false
set_option maxRecDepth 100000
set_option maxHeartbeats 4000000
/-! B8: a program run by the package. -/
namespace KW
open PySem PySem.Spec PyProof.Rows L2 
section
variable {P : Program} {w : World} {K : PySem.W.Frag} {mg : Str → Option Value} {base : Heap}

def spRunOf : Sp := fun vs H Q _ => ∃ I ka kn tv ed t env, ∃ most : Nat, vs = [tv, .ref ed, .ref ka, .int (most : Int)] ∧ HS I [] H ∧ I ka = some (.dT (knPK kn)) ∧ TmAt I t tv ∧ NAt .pack I env ed ∧
  ∀ r I' H' M', W [] I H I' M' H' → RR I' r ka kn most ⟨.eval t env, [], ⟨0, 0⟩⟩ M' → Q (.ref r) H'
theorem rm_run {nw sk en rd : V} {most : Nat} : mergeK [] [(.inr "now", nw), (.inr "stack", sk), (.inr "entries", en), (.inr "read", rd), (.inr "steps", .int 0), (.inr "most", .int (most : Int)), (.inr "marks", .int 0)] = runK nw sk en rd 0 most 0 := by kernel_rfl
abbrev N_run_of : List Str := ["term", "env", "entries", "most"]
theorem sc_run_of : FnScope N_run_of ["term", "env", "entries", "most"] (defScope (top 26)) := fnScope_ok (by decide +kernel)
theorem ok_run_of (D : DefAt K mg "run_of" 26) (T : Txt K mg) : Cl P w K mg base 1 "run_of" spRunOf := by
  refine cl_mk (i := 26) (N := N_run_of) (ps := ["term", "env", "entries", "most"]) D sc_run_of (fun _ _ _ _ _ _ us hl => match us, hl with | [_, _, _, _], _ => rfl) ?_ ?_
  · rintro vs H Q E ⟨I, ka, kn, tv, ed, t, env, most, rfl, _⟩
    rfl
  rintro f0 cdv A outer s0 H vs Q E hr ⟨I, ka, kn, tv, ed, t, env, most, rfl, hs, hka, ht, hen, q⟩
  refine ⟨_, (pss_one (ps_ret (pe_disp (pps_cons pe_str (pe_tup (pa_cons pe_str (pa_cons (pv 0) (pa_cons (pv 1) pa_nil)))) (pps_cons pe_str (pe_lst pa_nil) (pps_cons pe_str (pv 2) (pps_cons pe_str (pe_lst pa_nil) (pps_cons pe_str pe_int (pps_cons pe_str (pv 3) (pps_cons pe_str pe_int pps_nil))))))) (by rfl) (by rfl) (fun z => by cases z) (by decide)))), ?_⟩
  have w0 := W.start hs
  refine fun r hr0 => ?_
  have w1 := w0.newM hr0 (.dK [])
  refine ⟨_, rfl, _, rfl, (by show 3 ≤ sizeLine; decide), fun n hn => ?_⟩
  have w2 := w1.newI hn (.tup [SS "eval", tv, .ref ed])
  have u2 := w1.upI hn (.tup [SS "eval", tv, .ref ed])
  refine ⟨Nat.zero_le _, fun sk hsk => ⟨_, rfl, Nat.zero_le _, fun rd hrd => ⟨_, rfl, ?_⟩⟩⟩
  have w3 := (w2.newM hsk (.lst [])).newM hrd (.lst [])
  refine ⟨w3.get (i := 0) rfl, [(.inr "now", .ref n), (.inr "stack", .ref sk), (.inr "entries", .ref ka), (.inr "read", .ref rd), (.inr "steps", .int 0), (.inr "most", .int (most : Int)), (.inr "marks", .int 0)], rfl, (by show 7 ≤ 15; decide), ?_⟩
  rw [rm_run]
  have w4 : W [] I H _ (cM r sk rd ka (.ref n) [] [] ⟨0, 0⟩ most ++ []) _ := w3.set (i := 0) rfl (.dK (runK (.ref n) (.ref sk) (.ref ka) (.ref rd) 0 most 0))
  exact q r _ _ (cM r sk rd ka (.ref n) [] [] ⟨0, 0⟩ most ++ []) w4 ⟨.ref n, ⟨⟨sk, rd, [], [], [], rfl, ⟨rfl, rfl⟩, ⟨⟨[], .nil, List.nodup_nil, fun _ z => by cases z⟩⟩, u2 _ _ hka⟩⟩, n, tv, ed, rfl, upd_same, ht.mono u2, hen.mono u2⟩

def spBodyOf : Sp := fun vs H Q _ => ∃ I ps b gv, vs = [gv] ∧ HS I [] H ∧ PrAt I ps b gv ∧ notFn b ∧ ps.length ≤ 10 ∧
  ∀ p bv ed I' H', W [] I H I' [] H' → I' p = some (.tup [bv, .ref ed]) → TmAt I' b bv → NAt .pack I' (envG ps 0 .nil) ed → Q (.ref p) H'
abbrev N_body_of : List Str := ["program", "env", "number"]
theorem sc_body_of : FnScope N_body_of ["program"] (defScope (top 56)) := fnScope_ok (by decide +kernel)
theorem ok_body_of (D : DefAt K mg "body_of" 56) (T : Txt K mg) : Cl P w K mg base 1 "body_of" spBodyOf := by
  refine cl_mk (i := 56) (N := N_body_of) (ps := ["program"]) D sc_body_of (fun _ _ _ _ _ _ us hl => match us, hl with | [_], _ => rfl) ?_ ?_
  · rintro vs H Q E ⟨I, ps, b, gv, rfl, _⟩
    rfl
  rintro f0 cdv A outer s0 H vs Q E hr ⟨I, ps, b, gv, rfl, hs, hpr, hnf, hpl, q⟩
  refine ⟨_, (pss_cons (ps_par (i := 1) (j := 2) rfl sc_body_of.nd rfl rfl (by decide) rfl rfl (pa_cons pe_dnewK (pa_cons pe_int pa_nil)) (by rfl)) (pss_cons (ps_while PassesOwn.never (pt_cmpR op_eq (pe_ix ix_tup (pv 0) pe_int (fun _ _ => rfl)) pe_str (nomark _)) (pss_cons (ps_dput (hu_of hr) (pv 1) (pe_ix ix_tup (pv 0) pe_int (fun _ _ => rfl)) (pe_tup (pa_cons pe_str (pa_cons (pv 2) pa_nil))) rfl) (pss_one (ps_par (i := 0) (j := 2) rfl sc_body_of.nd rfl rfl (by decide) rfl rfl (pa_cons (pe_ix ix_tup (pv 0) pe_int (fun _ _ => rfl)) (pa_cons (pe_op op_add (pv 2) pe_int) pa_nil)) (by rfl))))) (pss_one (ps_ret (pe_tup (pa_cons (pv 0) (pa_cons (pv 1) pa_nil))))))), ?_⟩
  have w0 := W.start hs
  refine fun e he => ⟨_, _, rfl, ?_⟩
  have w4 := w0.newM he (.dK [])
  refine ⟨fun n σ H' => ∃ (ps' : List (Str × Nat)) (pv' : V) (k' : Nat) (env : Nv) (I' : Hp) (kvs : List (Key × V)), σ = [some pv', some (.ref e), some (.int (k' : Int))] ∧ ps'.length = n ∧
    PrAt I' ps' b pv' ∧ W [] I H I' ([] ++ [(e, HO.dK kvs)]) H' ∧ Same I I' ∧ kvs.length ≤ env.len ∧ env.len ≤ k' ∧ EAt .pack I' env kvs [] ∧ k' + n ≤ 10 ∧ envG ps 0 .nil = envG ps' k' env, ⟨ps.length, ps, gv, 0, .nil, I, [], rfl, rfl, hpr, w4, Same.refl _, Nat.le_refl _, Nat.le_refl _, trivial, by omega, rfl⟩, ?_⟩
  rintro n σ H' ⟨ps', pv', k', env, I', kvs, rfl, hn, hpr', w5, s5, hkl, hel, hea, hk10, henv⟩
  cases ps' with
  | nil =>
    obtain ⟨p, wd, rest, rfl, hp, hwd⟩ := head_word hpr' hnf
    refine ⟨_, rfl, p, _, _, _, rfl, rfl, SqT.of (w5.i hp), atI_0 _ _, rfl, _, rfl, tF (ne_s hwd) ?_⟩
    have w6 := W.freeze (M := []) w5 (by simp)
    have s6 : Same I' (upd I' e (.dK kvs)) := same_up (w5.hs.out (e, .dK kvs) (by simp))
    refine ⟨_, rfl, _, rfl, s2, fun t ht => ?_⟩
    have w7 := w6.newI ht (.tup [.ref p, .ref e])
    have s7 := w6.upI ht (.tup [.ref p, .ref e])
    refine q t (.ref p) e _ _ w7 upd_same (TmAt.mono (s6.trans s7) hpr') ?_
    rw [henv]
    exact ⟨kvs, s7 _ _ upd_same, hkl, hea.mono (s6.trans s7)⟩
  | cons pr ps' =>
    obtain ⟨x, m⟩ := pr
    obtain ⟨p, q2, vb, rfl, hp, hq2, hrest⟩ := hpr'
    refine ⟨_, rfl, p, _, _, _, rfl, rfl, SqT.of (w5.i hp), rfl, rfl, _, rfl, tT rfl ?_⟩
    refine ⟨_, fun σ' H' z => ⟨ps'.length, by rw [← hn]; exact Nat.lt_succ_self _, z⟩, ?_⟩
    refine ⟨_, rfl, s2, fun t ht => ?_⟩
    have w6 := w5.newI ht (.tup [SS "row", .int (k' : Int)])
    have s6 := w5.upI ht (.tup [SS "row", .int (k' : Int)])
    rw [List.length_cons] at hn
    refine ⟨_, rfl, _, rfl, p, _, _, _, rfl, rfl, SqT.of (w6.i (s6 _ _ hp)), rfl, e, _, rfl, DPut.k (k := .inr x) (w6.get (i := 0) rfl) (small (by omega)), ?_⟩
    have w7 : W [] I H _ ([] ++ [(e, .dK (putK kvs (.inr x) (.ref t)))]) _ := w6.set (i := 0) rfl (.dK (putK kvs (.inr x) (.ref t)))
    refine ⟨_, rfl, p, _, _, _, rfl, rfl, SqT.of (w7.i (s6 _ _ hp)), rfl, _, rfl, _, _, rfl, rfl, _, _, rfl, ?_⟩
    refine ⟨ps', vb, k' + 1, env.put x (.given k'), _, _, rfl, rfl, hrest.mono s6, w7, s5.trans s6, ?_, ?_, (hea.mono s6).put ⟨t, rfl, upd_same⟩, by omega, henv⟩
    · have := length_putK kvs (.inr x) (.ref t)
      show _ ≤ env.len + 1
      omega
    · show env.len + 1 ≤ k' + 1
      omega

def RunP (I : Hp) (r : Addr) (c : Now) (steps : Nat) : Prop := ∃ kvs nv, I r = some (.dK kvs) ∧ valV kvs (.inr "now") = some nv ∧ valV kvs (.inr "steps") = some (.int (steps : Int)) ∧ NowAt I c nv
def PPost (most : Nat) (I H : Hp) (Q : VK) : R Val → Prop
  | .ok v s' => ∀ r I' H', W [] I H I' [] H' → RunP I' r (.value v) s'.steps → s'.steps ≤ most → Q (.ref r) H'
  | .st (.place (i, k)) s' => ∀ r I' H', W [] I H I' [] H' → RunP I' r (.stop (.given k) i) s'.steps → s'.steps ≤ most → Q (.ref r) H'
  | _ => False
def spRunW (dd : Nat) : Sp := fun vs H Q _ => ∃ I ka kn ps b gv, ∃ most : Nat, vs = [gv, .ref ka, .int (most : Int)] ∧ HS I [] H ∧ I ka = some (.dT (knPK kn)) ∧ PrAt I ps b gv ∧ notFn b ∧ ps.length ≤ 10 ∧ most ≤ MOST ∧ kn.length ≤ 12 ∧
  PPost most I H Q (ev most kn dd b (envG ps 0 .nil) nogk ⟨0, 0⟩)
theorem RR.runP {I : Hp} {r ka : Addr} {kn : KnP} {most : Nat} {c : Cfg} {M : List (Addr × HO)} {A : List Addr} {I0 H0 H : Hp} (h : RR I r ka kn most c M) (w : W A I0 H0 I M H) (hA : r ∉ A) : ∃ I', W A I0 H0 I' [] H ∧ RunP I' r c.now c.s.steps := by
  obtain ⟨nv, rs0, hn⟩ := h
  obtain ⟨sk, rd, vs, rs, M2, rfl, hsr, hrd, hka⟩ := rs0.ex
  have w1 : W A I0 H0 I ([] ++ [(r, .dK (runK nv (.ref sk) (.ref ka) (.ref rd) c.s.steps most c.s.marks))]) H := w.pickS (by
    show [(r, _)].Sublist _
    exact (List.nil_sublist _).cons₂ _)
  have w2 := W.freeze (M := []) w1 hA
  refine ⟨_, w2, _, nv, upd_same, rk_now, rk_steps, ?_⟩
  have sm : Same I (upd I r (.dK (runK nv (.ref sk) (.ref ka) (.ref rd) c.s.steps most c.s.marks))) := same_up (w1.hs.out (r, _) (List.mem_cons_self))
  cases hc : c.now with
  | eval t e =>
    rw [hc] at hn
    obtain ⟨p, tv, d, e1, g, t1, n1⟩ := hn
    exact ⟨p, tv, d, e1, sm _ _ g, t1.mono sm, n1.mono sm⟩
  | value u =>
    rw [hc] at hn
    obtain ⟨p, x, e1, g, u1⟩ := hn
    exact ⟨p, x, e1, sm _ _ g, u1.mono sm⟩
  | stop u i =>
    rw [hc] at hn
    obtain ⟨p, x, e1, g, u1⟩ := hn
    exact ⟨p, x, e1, sm _ _ g, u1.mono sm⟩
abbrev N_run_within : List Str := ["program", "entries", "most", "body", "env"]
theorem sc_run_within : FnScope N_run_within ["program", "entries", "most"] (defScope (top 57)) := fnScope_ok (by decide +kernel)
theorem ok_run_within {dd : Nat} (D : DefAt K mg "run_within" 57) (T : Txt K mg) (c_body_of : Cl P w K mg base 1 "body_of" spBodyOf) (c_run_of : Cl P w K mg base 1 "run_of" spRunOf) (c_done : Cl P w K mg base 7 "done" spDone) : Cl P w K mg base 8 "run_within" (spRunW dd) := by
  refine cl_mk (i := 57) (N := N_run_within) (ps := ["program", "entries", "most"]) D sc_run_within (fun _ _ _ _ _ _ us hl => match us, hl with | [_, _, _], _ => rfl) ?_ ?_
  · rintro vs H Q E ⟨I, ka, kn, ps, b, gv, most, rfl, _⟩
    rfl
  rintro f0 cdv A outer s0 H vs Q E hr ⟨I, ka, kn, ps, b, gv, most, rfl, hs, hka, hpr, hnf, hpl, hmo, hkl, post⟩
  refine ⟨_, (pss_cons (ps_asg (pe_cl c_body_of hr (by omega) rfl (pa_cons (pv 0) pa_nil)) (pg_tup rfl (pgs_cons (pg_name (i := 3) sc_run_within.nd rfl (Or.inl rfl)) (pgs_cons (pg_name (i := 4) sc_run_within.nd rfl (Or.inl rfl)) pgs_nil)))) (pss_one (ps_ret (pe_cl c_done hr (by omega) rfl (pa_cons (pe_cl c_run_of hr (by omega) rfl (pa_cons (pv 3) (pa_cons (pv 4) (pa_cons (pv 1) (pa_cons (pv 2) pa_nil))))) pa_nil))))), ?_⟩
  refine ⟨_, rfl, ?_⟩
  refine ⟨I, ps, b, gv, rfl, hs, hpr, hnf, hpl, fun p bv ed I1 H1 w1 hp hb hen => ?_⟩
  refine ⟨p, _, rfl, SqT.of (w1.i hp), rfl, _, _, rfl, _, _, rfl, rfl, ?_⟩
  refine ⟨_, rfl, _, rfl, _, rfl, _, rfl, ?_⟩
  refine ⟨I1, ka, kn, bv, ed, b, envG ps 0 .nil, most, rfl, w1.hs, w1.st.same _ _ hka, hb, hen, fun r I2 H2 M2 w2 hrr => ?_⟩
  have w3 := w1.callG w2
  have bd : BD (⟨.eval b (envG ps 0 .nil), [], ⟨0, 0⟩⟩ : Cfg) := ⟨Nat.le_refl _, trivial, fun a ha => by cases ha⟩
  have sm := sim (most := most) (kn := kn) dd b (envG ps 0 .nil) nogk ⟨0, 0⟩ [] (fun j k h => by cases h) (fun a h => by cases h)
  have go : ∀ {cf : Cfg}, Rn most kn ⟨.eval b (envG ps 0 .nil), [], ⟨0, 0⟩⟩ cf → cf.fin → (∀ r I' H', W [] I H I' [] H' → RunP I' r cf.now cf.s.steps → cf.s.steps ≤ most → Q (.ref r) H') → spDone [.ref r] H2 Q E0 := fun hrn hf q => by
    obtain ⟨n, hrun⟩ := hrn
    refine ⟨I2, r, ka, kn, most, _, M2, n, _, rfl, w3.hs, hrr, bd, hkl, Nat.zero_le _, hmo, hrun, hf, fun I9 H9 M9 w9 r9 hs9 => ?_⟩
    obtain ⟨I10, w10, hp10⟩ := r9.runP (w3.callG w9) (by simp)
    exact q r I10 H9 w10 hp10 hs9
  cases hev : ev most kn dd b (envG ps 0 .nil) nogk ⟨0, 0⟩ with
  | die => rw [hev] at post; exact post.elim
  | ok v s' =>
    rw [hev] at post sm
    exact go sm.1 (.inl ⟨v, rfl, rfl⟩) fun r I' H' w' h' hs' => post r I' H' w' h' hs'
  | st wd s' =>
    rw [hev] at post sm
    cases wd with
    | place pl =>
      obtain ⟨i, k⟩ := pl
      obtain ⟨pre, hrn⟩ := sm
      exact go hrn (.inr ⟨k, i, rfl⟩) fun r I' H' w' h' hs' => post r I' H' w' h' hs'
    | _ => exact post.elim
end
end KW
set_option Elab.async false
set_option linter.all false
set_option maxRecDepth 100000
set_option maxHeartbeats 4000000
/-! B9: a program's sizes, a plain value. -/
namespace KW
open PySem PySem.Spec PyProof.Rows L2 
section
variable {P : Program} {w : World} {K : PySem.W.Frag} {mg : Str → Option Value} {base : Heap}

def spSplit : Sp := fun vs H Q _ => ∃ I ps b gv, vs = [gv] ∧ HS I [] H ∧ PrAt I ps b gv ∧ notFn b ∧ ps.length ≤ 10 ∧
  ∀ p l bv I' H', W [] I H I' [] H' → I' p = some (.tup [.ref l, bv]) → I' l = some (.tup (ps.map fun e => .int (e.2 : Nat))) → Q (.ref p) H'
def spMenu : Sp := fun vs H Q _ => ∃ I ps b gv, vs = [gv] ∧ HS I [] H ∧ PrAt I ps b gv ∧ notFn b ∧ ps.length ≤ 10 ∧
  ∀ l I' H', W [] I H I' [] H' → I' l = some (.tup (ps.map fun e => .int (e.2 : Nat))) → Q (.ref l) H'
def VDat : Nat → Val → Prop
  | _, .int _ => True
  | n + 1, .pair a b => VDat n a ∧ VDat n b
  | _, _ => False
def spPlain (n : Nat) : Sp := fun vs H Q _ => ∃ I v vv, vs = [vv] ∧ HS I [] H ∧ VDat n v ∧ VAt .pack I v vv ∧ ∀ u I' H', W [] I H I' [] H' → VAt .law I' v u → Q u H'
abbrev N_split_program : List Str := ["term", "sizes"]
theorem sc_split_program : FnScope N_split_program ["term"] (defScope (top 4)) := fnScope_ok (by decide +kernel)
theorem ok_split_program (D : DefAt K mg "split_program" 4) (T : Txt K mg) : Cl P w K mg base 1 "split_program" spSplit := by
  refine cl_mk (i := 4) (N := N_split_program) (ps := ["term"]) D sc_split_program (fun _ _ _ _ _ _ us hl => match us, hl with | [_], _ => rfl) ?_ ?_
  · rintro vs H Q E ⟨I, ps, b, gv, rfl, _⟩
    rfl
  rintro f0 cdv A outer s0 H vs Q E hr ⟨I, ps, b, gv, rfl, hs, hpr, hnf, hpl, q⟩
  refine ⟨_, (pss_cons (ps_set (i := 1) sc_split_program.nd rfl (Or.inl rfl) (pe_lst pa_nil)) (pss_cons (ps_while PassesOwn.never (PW.pt (pw_and (pt_cmpR op_eq (pe_ix ix_tup (pv 0) pe_int (fun _ _ => rfl)) pe_str (nomark _)) (pw_and1 (pt_cmpR op_eq (pe_ix ix_tup (pe_ix ix_tup (pv 0) pe_int (fun _ _ => rfl)) pe_int (fun _ _ => rfl)) pe_str (nomark _))))) (pss_cons (ps_expr (pe_bm PySem.F.plainAttrs_list PySem.F.slot_list_append PySem.F.type_list_append mt_append (pv 1) (pa_cons (pe_ix ix_tup (pe_ix ix_tup (pv 0) pe_int (fun _ _ => rfl)) pe_int (fun _ _ => rfl)) pa_nil))) (pss_one (ps_set (i := 0) sc_split_program.nd rfl (Or.inl rfl) (pe_ix ix_tup (pv 0) pe_int (fun _ _ => rfl)))))) (pss_one (ps_ret (pe_tup (pa_cons (pe_callTy call_tuple_of (by rfl) T.tuple (by decide +kernel) (pa_cons (pv 1) pa_nil)) (pa_cons (pv 0) pa_nil))))))), ?_⟩
  have w0 := W.start hs
  refine ⟨Nat.zero_le _, fun l hl => ?_⟩
  have w1 := w0.newM hl (.lst [])
  refine ⟨fun n σ H' => ∃ (pre ps' : List (Str × Nat)) (pv' : V), σ = [some pv', some (.ref l)] ∧ ps'.length = n ∧ PrAt I ps' b pv' ∧ W [] I H I ([] ++ [(l, HO.lst (pre.map fun e => .int (e.2 : Nat)))]) H' ∧ ps = pre ++ ps', ⟨ps.length, [], ps, gv, rfl, rfl, hpr, w1, rfl⟩, ?_⟩
  rintro n σ H' ⟨pr0, ps', pv', rfl, hn, hpr', w2, rfl⟩
  cases ps' with
  | nil =>
    obtain ⟨p, wd, rest, rfl, hp, hwd⟩ := head_word hpr' hnf
    refine ⟨_, rfl, p, _, _, _, rfl, rfl, SqT.of (w2.i hp), atI_0 _ _, rfl, _, rfl, tF (ne_s hwd) (bF rfl ?_)⟩
    refine ⟨_, rfl, l, _, rfl, .inl ⟨SqL.of (w2.get (i := 0) rfl), fun tl htl => ⟨_, rfl, s2, fun t ht => ?_⟩⟩⟩
    have w3 := w2.newI htl (.tup (pr0.map fun e => .int (e.2 : Nat)))
    have u3 := w2.upI htl (.tup (pr0.map fun e => .int (e.2 : Nat)))
    have w4 := w3.newI ht (.tup [.ref tl, .ref p])
    have u4 := w3.upI ht (.tup [.ref tl, .ref p])
    have w5 := W.drop (M1 := []) w4 (by simp)
    rw [List.append_nil] at q
    exact q t tl _ _ _ w5 upd_same (u4 _ _ upd_same)
  | cons e ps' =>
    obtain ⟨x, m⟩ := e
    obtain ⟨p, q2, vb, rfl, hp, hq2, hrest⟩ := hpr'
    refine ⟨_, rfl, p, _, _, _, rfl, rfl, SqT.of (w2.i hp), rfl, rfl, _, rfl, tT rfl ?_⟩
    refine ⟨_, rfl, p, _, _, _, rfl, rfl, SqT.of (w2.i hp), rfl, q2, _, _, _, rfl, rfl, SqT.of (w2.i hq2), rfl, rfl, _, rfl, tT rfl ?_⟩
    refine ⟨_, fun σ' H' z => ⟨ps'.length, by rw [← hn]; exact Nat.lt_succ_self _, z⟩, ?_⟩
    refine ⟨_, rfl, .inl ⟨rfl, _, SqL.of (w2.get (i := 0) rfl)⟩, _, rfl, p, _, _, _, rfl, rfl, SqT.of (w2.i hp), rfl, q2, _, _, _, rfl, rfl, SqT.of (w2.i hq2), rfl, ?_⟩
    refine ⟨l, _, _, rfl, rfl, w2.get (i := 0) rfl, ?_, ?_⟩
    · rw [List.length_map]
      rw [List.length_append] at hpl
      exact small (by omega)
    have w3 := w2.set (i := 0) rfl (.lst ((pr0.map fun e => .int (e.2 : Nat)) ++ [.int (m : Int)]))
    refine ⟨_, rfl, p, _, _, _, rfl, rfl, SqT.of (w3.i hp), rfl, ?_⟩
    refine ⟨pr0 ++ [(x, m)], ps', vb, rfl, rfl, hrest, ?_, by rw [List.append_assoc]; rfl⟩
    rw [List.map_append]
    exact w3
abbrev N_menu_of : List Str := ["program"]
theorem sc_menu_of : FnScope N_menu_of ["program"] (defScope (top 5)) := fnScope_ok (by decide +kernel)
theorem ok_menu_of (D : DefAt K mg "menu_of" 5) (T : Txt K mg) (c_split_program : Cl P w K mg base 1 "split_program" spSplit) : Cl P w K mg base 2 "menu_of" spMenu := by
  refine cl_mk (i := 5) (N := N_menu_of) (ps := ["program"]) D sc_menu_of (fun _ _ _ _ _ _ us hl => match us, hl with | [_], _ => rfl) ?_ ?_
  · rintro vs H Q E ⟨I, ps, b, gv, rfl, _⟩
    rfl
  rintro f0 cdv A outer s0 H vs Q E hr ⟨I, ps, b, gv, rfl, hs, hpr, hnf, hpl, q⟩
  refine ⟨_, (pss_one (ps_ret (pe_ix ix_tup (pe_cl c_split_program hr (by omega) rfl (pa_cons (pv 0) pa_nil)) pe_int (fun _ _ => rfl)))), ?_⟩
  refine ⟨_, rfl, ?_⟩
  refine ⟨I, ps, b, gv, rfl, hs, hpr, hnf, hpl, fun p l bv I' H' w1 hp hl => ?_⟩
  exact ⟨p, _, _, _, rfl, rfl, SqT.of (w1.i hp), rfl, q l I' H' w1 hl⟩
abbrev N_plain_value : List Str := ["value"]
theorem sc_plain_value : FnScope N_plain_value ["value"] (defScope (top 55)) := fnScope_ok (by decide +kernel)
theorem ok_plain_value0 (D : DefAt K mg "plain_value" 55) (T : Txt K mg) (c_plain_value : Cl P w K mg base 1 "plain_value" (fun _ _ _ _ => False)) : Cl P w K mg base 2 "plain_value" (spPlain 0) := by
  refine cl_mk (i := 55) (N := N_plain_value) (ps := ["value"]) D sc_plain_value (fun _ _ _ _ _ _ us hl => match us, hl with | [_], _ => rfl) ?_ ?_
  · rintro vs H Q E ⟨I, v, vv, rfl, _⟩
    rfl
  rintro f0 cdv A outer s0 H vs Q E hr ⟨I, v, vv, rfl, hs, hd, hv, q⟩
  refine ⟨_, (pss_cons (ps_if (pt_val (pe_callB call_isi (by rfl) T.isinstance (by decide +kernel) (pa_cons (pv 0) (pa_cons (pe_bltn (v := .ty "tuple") (u := .type "tuple") (by rfl) T.tuple (by decide +kernel) rfl) pa_nil)))) (pss_one (ps_ret (pe_tup (pa_cons (pe_cl c_plain_value hr (by omega) rfl (pa_cons (pe_ix ix_tup (pv 0) pe_int (fun _ _ => rfl)) pa_nil)) (pa_cons (pe_cl c_plain_value hr (by omega) rfl (pa_cons (pe_ix ix_tup (pv 0) pe_int (fun _ _ => rfl)) pa_nil)) pa_nil))))) pss_nil) (pss_one (ps_ret (pv 0)))), ?_⟩
  have w0 := W.start hs
  cases v with
  | int i =>
    obtain rfl : vv = V.int i := hv
    refine ⟨_, rfl, _, _, _, _, _, rfl, .ty _, .base (.int _), rfl, ?_⟩
    refine ⟨_, rfl, iteF ⟨_, rfl, ?_⟩⟩
    exact q (.int i) I H w0 rfl
  | _ => exact hd.elim
theorem ok_plain_value {n : Nat} (D : DefAt K mg "plain_value" 55) (T : Txt K mg) (c_plain_value : Cl P w K mg base (n + 2) "plain_value" (spPlain n)) : Cl P w K mg base (n + 3) "plain_value" (spPlain (n + 1)) := by
  refine cl_mk (i := 55) (N := N_plain_value) (ps := ["value"]) D sc_plain_value (fun _ _ _ _ _ _ us hl => match us, hl with | [_], _ => rfl) ?_ ?_
  · rintro vs H Q E ⟨I, v, vv, rfl, _⟩
    rfl
  rintro f0 cdv A outer s0 H vs Q E hr ⟨I, v, vv, rfl, hs, hd, hv, q⟩
  refine ⟨_, (pss_cons (ps_if (pt_val (pe_callB call_isi (by rfl) T.isinstance (by decide +kernel) (pa_cons (pv 0) (pa_cons (pe_bltn (v := .ty "tuple") (u := .type "tuple") (by rfl) T.tuple (by decide +kernel) rfl) pa_nil)))) (pss_one (ps_ret (pe_tup (pa_cons (pe_cl c_plain_value hr (by omega) rfl (pa_cons (pe_ix ix_tup (pv 0) pe_int (fun _ _ => rfl)) pa_nil)) (pa_cons (pe_cl c_plain_value hr (by omega) rfl (pa_cons (pe_ix ix_tup (pv 0) pe_int (fun _ _ => rfl)) pa_nil)) pa_nil))))) pss_nil) (pss_one (ps_ret (pv 0)))), ?_⟩
  have w0 := W.start hs
  cases v with
  | int i =>
    obtain rfl : vv = V.int i := hv
    refine ⟨_, rfl, _, _, _, _, _, rfl, .ty _, .base (.int _), rfl, ?_⟩
    refine ⟨_, rfl, iteF ⟨_, rfl, ?_⟩⟩
    exact q (.int i) I H w0 rfl
  | pair a b =>
    obtain ⟨p, va, vb, rfl, ha, hb, hp⟩ := hv
    refine ⟨_, rfl, _, _, _, _, _, rfl, .ty _, .base (.tup (w0.i hp)), rfl, ?_⟩
    refine ⟨_, rfl, iteT ?_⟩
    refine ⟨_, rfl, p, _, _, _, rfl, rfl, SqT.of (w0.i hp), rfl, ?_⟩
    refine ⟨I, a, va, rfl, hs, hd.1, ha, fun ua I1 H1 w1 h1 => ?_⟩
    refine ⟨_, rfl, p, _, _, _, rfl, rfl, SqT.of (w1.i (w1.st.same _ _ hp)), rfl, ?_⟩
    refine ⟨I1, b, vb, rfl, w1.hs, hd.2, hb.mono w1.st.same, fun ub I2 H2 w2 h2 => ⟨s2, fun t ht => ?_⟩⟩
    have w3 := w1.callG w2
    have w4 := w3.newI ht (.tup [ua, ub])
    have u4 := w3.upI ht (.tup [ua, ub])
    exact q (.ref t) _ _ w4 ⟨t, ua, ub, rfl, h1.mono (w2.st.same.trans u4), h2.mono u4, upd_same⟩
  | _ => exact hd.elim
end
end KW
set_option Elab.async false
set_option linter.all false
set_option maxRecDepth 100000
set_option maxHeartbeats 4000000
/-! C0: the tree of ways, without fuel; the order in which it is gone through. -/
namespace KW
open PySem L2
def kidsN (kn : KnP) (pl : Pl) (d m : Nat) : List KnP := (List.range m).map fun (j : Nat) => kn ++ [(pl, ((d + j : Nat) : Int))]
theorem kidsN_succ (kn : KnP) (pl : Pl) (d m : Nat) : kidsN kn pl d (m + 1) = (kn ++ [(pl, (d : Int))]) :: kidsN kn pl (d + 1) m := by
  unfold kidsN
  rw [List.range_succ_eq_map, List.map_cons, List.map_map]
  congr 1
  apply List.map_congr_left
  intro j _
  show kn ++ [(pl, ((d + (j + 1) : Nat) : Int))] = kn ++ [(pl, ((d + 1 + j : Nat) : Int))]
  rw [show d + (j + 1) = d + 1 + j by omega]
mutual
inductive Brk (E : KnP → Nat → R Val) (sz : List Nat) : KnP → Nat → Nat → Tr → Nat → Nat → Prop where
  | fin {kn : KnP} {w n : Nat} {v : Val} {s : S} (h : E kn w = .ok v s) (hn : n + 1 ≤ 500) : Brk E sz kn w n (.fin v) (w + s.steps) (n + 1)
  | ask {kn : KnP} {w n : Nat} {pl : Pl} {s : S} {m : Nat} {bs : List Tr} {w' n' : Nat} (h : E kn w = .st (.place pl) s) (hl : look kn pl = none) (hz : sz[pl.2]? = some m) (h0 : 0 ≤ pl.1) (h4 : pl.1 < 4) (h3 : pl.2 < 3) (hm : m ≤ 10)
      (hb : BrkL E sz (kidsN kn pl 0 m) (w + s.steps) n bs w' n') : Brk E sz kn w n (.ask pl bs) w' n'
inductive BrkL (E : KnP → Nat → R Val) (sz : List Nat) : List KnP → Nat → Nat → List Tr → Nat → Nat → Prop where
  | nil {w n : Nat} : BrkL E sz [] w n [] w n
  | cons {kn : KnP} {ks : List KnP} {w n : Nat} {t : Tr} {ts : List Tr} {w1 n1 w2 n2 : Nat} (h : Brk E sz kn w n t w1 n1) (hs : BrkL E sz ks w1 n1 ts w2 n2) : BrkL E sz (kn :: ks) w n (t :: ts) w2 n2
end
section
variable {E : KnP → Nat → R Val} {sz : List Nat}
theorem brs_rel {rec : KnP → Nat → Nat → BR Tr} (hr : ∀ kn w n t w' n', rec kn w n = .ok t w' n' → Brk E sz kn w n t w' n') {kn : KnP} {pl : Pl} : ∀ (m d w n : Nat) (ts : List Tr) (w' n' : Nat), brs rec kn pl d m w n = .ok ts w' n' → BrkL E sz (kidsN kn pl d m) w n ts w' n'
  | 0, d, w, n, ts, w', n', h => by
    unfold brs at h
    cases h
    exact .nil
  | m + 1, d, w, n, ts, w', n', h => by
    unfold brs at h
    rw [kidsN_succ]
    cases h1 : rec (kn ++ [(pl, (d : Int))]) w n with
    | ok t w1 n1 =>
      rw [h1] at h
      have h : (brs rec kn pl (d + 1) m w1 n1).bind (fun ts w n => BR.ok (t :: ts) w n) = .ok ts w' n' := h
      cases h2 : brs rec kn pl (d + 1) m w1 n1 with
      | ok ts2 w2 n2 =>
        rw [h2] at h
        cases h
        exact .cons (hr _ _ _ _ _ _ h1) (brs_rel hr m (d + 1) _ _ _ _ _ h2)
      | no => rw [h2] at h; cases h
      | die => rw [h2] at h; cases h
    | no => rw [h1] at h; cases h
    | die => rw [h1] at h; cases h
theorem br_rel : ∀ (f : Nat) (kn : KnP) (w n : Nat) (t : Tr) (w' n' : Nat), br E sz f kn w n = .ok t w' n' → Brk E sz kn w n t w' n'
  | 0, _, _, _, _, _, _, h => by unfold br at h; cases h
  | f + 1, kn, w, n, t, w', n', h => by
    unfold br at h
    cases he : E kn w with
    | ok v s =>
      rw [he] at h
      dsimp only at h
      split at h
      · cases h
        exact .fin he (by assumption)
      · cases h
    | st wd s =>
      rw [he] at h
      cases wd with
      | place pl =>
        dsimp only at h
        split at h
        · rename_i m hl hz
          split at h
          · rename_i hc
            cases hb : brs (br E sz f) kn pl 0 m (w + s.steps) n with
            | ok bs w2 n2 =>
              rw [hb] at h
              cases h
              exact .ask he hl hz hc.1 hc.2.1 hc.2.2.1 hc.2.2.2 (brs_rel (br_rel f) m 0 _ _ _ _ _ hb)
            | no => rw [hb] at h; cases h
            | die => rw [hb] at h; cases h
          · cases h
        · cases h
      | _ => cases h
    | die => rw [he] at h; cases h
theorem BrkL.app : ∀ {ks ks' : List KnP} {w n : Nat} {ts ts' : List Tr} {w1 n1 w2 n2 : Nat}, BrkL E sz ks w n ts w1 n1 → BrkL E sz ks' w1 n1 ts' w2 n2 → BrkL E sz (ks ++ ks') w n (ts ++ ts') w2 n2
  | _, _, _, _, _, _, _, _, _, _, .nil, h => h
  | _, _, _, _, _, _, _, _, _, _, .cons a b, h => .cons a (BrkL.app b h)
theorem BrkL.len : ∀ {ks : List KnP} {w n : Nat} {ts : List Tr} {w1 n1 : Nat}, BrkL E sz ks w n ts w1 n1 → ts.length = ks.length
  | _, _, _, _, _, _, .nil => rfl
  | _, _, _, _, _, _, .cons _ b => by rw [List.length_cons, List.length_cons, BrkL.len b]
end
/-- what is told of a way -/
inductive Told where
  | fin (v : Val)
  | ask (pl : Pl)
mutual
def preT : KnP → Tr → List (KnP × Told)
  | kn, .fin v => [(kn, .fin v)]
  | kn, .ask pl bs => (kn, .ask pl) :: preL kn pl 0 bs
def preL : KnP → Pl → Nat → List Tr → List (KnP × Told)
  | _, _, _, [] => []
  | kn, pl, d, t :: ts => preT (kn ++ [(pl, (d : Int))]) t ++ preL kn pl (d + 1) ts
end
def preF : List KnP → List Tr → List (KnP × Told)
  | k :: ks, t :: ts => preT k t ++ preF ks ts
  | _, _ => []
theorem preF_kids : ∀ (bs : List Tr) (kn : KnP) (pl : Pl) (d : Nat) (ks : List KnP) (ts : List Tr), preF (kidsN kn pl d bs.length ++ ks) (bs ++ ts) = preL kn pl d bs ++ preF ks ts
  | [], kn, pl, d, ks, ts => by
    unfold preL
    rfl
  | b :: bs, kn, pl, d, ks, ts => by
    rw [List.length_cons, kidsN_succ]
    show preT (kn ++ [(pl, (d : Int))]) b ++ preF (kidsN kn pl (d + 1) bs.length ++ ks) (bs ++ ts) = _
    rw [preF_kids bs kn pl (d + 1) ks ts]
    show _ = (preT (kn ++ [(pl, (d : Int))]) b ++ preL kn pl (d + 1) bs) ++ preF ks ts
    rw [List.append_assoc]
mutual
def Tr.size : Tr → Nat
  | .fin _ => 1
  | .ask _ bs => 1 + sizes bs
def sizes : List Tr → Nat
  | [] => 0
  | t :: ts => t.size + sizes ts
end
theorem sizes_app : ∀ (a b : List Tr), sizes (a ++ b) = sizes a + sizes b
  | [], b => by show sizes b = 0 + sizes b; omega
  | t :: a, b => by
    show t.size + sizes (a ++ b) = t.size + sizes a + sizes b
    rw [sizes_app a b]
    omega
end KW
set_option Elab.async false
set_option linter.all false
set_option maxRecDepth 100000
set_option maxHeartbeats 4000000
/-! C1: dict() of a tuple of pairs, the keys tuples. -/
namespace KW
open PySem PySem.Spec PyProof.Rows L2
section
variable {X : Cx}
/-- a pair that stands at u: its key a tuple -/
def PrV (H : Hp) (p : List Key × V) (u : V) : Prop := ∃ q b, u = .ref q ∧ H q = some (.tup [.ref b, p.2]) ∧ H b = some (.tup (p.1.map kV))
theorem pairs_of {pins : List (Addr × Obj)} {σ : L2.St} {H : Hp} {s : Shared} (I : Inv X pins σ H s) : ∀ {kvs : List (List Key × V)} {us : List V}, Paired (PrV H) kvs us → ∃ (qs : List Addr) (ps : List (List Key × Addr × Value)), us = qs.map V.ref ∧ KT H kvs ps ∧ ps.length = qs.length ∧
    ∀ (j : Nat) (q : Addr) (x : List Key × Addr × Value), qs[j]? = some q → ps[j]? = some x → s.heap.IsTuple q #[.ref x.2.1, x.2.2]
  | _, _, .nil => ⟨[], [], rfl, .nil, rfl, fun j q x h => by simp at h⟩
  | _, _, .cons (a := p) ⟨q, b, e, hq, hb⟩ t => by
    obtain ⟨qs, ps, e2, kt, hl, hall⟩ := pairs_of I t
    obtain ⟨its, rv, ht, hz⟩ := I.tuple (SqT.of hq)
    obtain ⟨u1, u2, eu, r1, r2⟩ := vals2 rv
    obtain rfl : u1 = Value.ref b := r1
    subst eu
    refine ⟨q :: qs, (p.1, b, u2) :: ps, by rw [e, e2]; rfl, .cons ⟨rfl, hb, r2⟩ kt, by rw [List.length_cons, List.length_cons, hl], fun j q' x h1 h2 => ?_⟩
    cases j with
    | zero =>
      have h1 : q = q' := by simpa using h1
      have h2 : (p.1, b, u2) = x := by simpa using h2
      subst h1
      subst h2
      exact ht
    | succ j => exact hall j q' x (by simpa using h1) (by simpa using h2)

theorem kt_keys {H : Hp} : ∀ {kvs : List (List Key × V)} {ps : List (List Key × Addr × Value)}, KT H kvs ps → ps.map (·.1) = kvs.map (·.1)
  | _, _, .nil => rfl
  | _, _, .cons h t => by rw [List.map_cons, List.map_cons, kt_keys t, h.1]
/-- what a tuple is that was just laid -/
def PlainTup (ob : Obj) : Prop := ob.cls = .type "tuple" ∧ ob.dict = none
def tTupF (t : TA) : TE := fun σ H Q => t σ H fun xs H1 => xs.length ≤ sizeLine ∧ ∀ p ob, H1 p = none → PlainTup ob → Q (.ref p) (upd H1 p (.frz ob (.tup xs)))
theorem pe_tupF {es : List Expr} {t : TA} {pos : Pos} {x1} (h : PA X es t) : PE X (.Tuple es x1 pos) (tTupF t) := by
  refine ⟨fun pins s σ H Q I hq => ?_⟩
  refine wpAny_Tuple_spliced (thn (h.run pos pins s σ H _ I hq) fun us s1 ⟨xs, H1, I1, r, z, q⟩ => ⟨by rw [← r.length]; exact z, ?_⟩)
  have hf : H1 s1.heap.objs.size = none := I1.hok.fresh (Nat.le_refl _)
  refine ⟨.ref s1.heap.objs.size, upd H1 s1.heap.objs.size (.frz { cls := .type "tuple", data := .seq us.toArray } (.tup xs)), I1.laid (t' := s1.toks) (fun b u e => Heap.get?_push_of_some _ e) (Nat.le_refl _) ?_, rfl, q _ _ hf ⟨rfl, rfl⟩⟩
  exact ⟨Heap.get?_push_size _ rfl, z, us, r, ⟨_, Heap.get?_push_size _ rfl, rfl, _, rfl⟩⟩
def rCatF (K : PySem.W.Frag) : R2 := fun x y H Q => ∃ a b xs ys, x = .ref a ∧ y = .ref b ∧ SqT K H a xs ∧ SqT K H b ys ∧ ys ≠ [] ∧ xs.length + ys.length ≤ sizeLine ∧
  (xs = [] → Q (.ref b) H) ∧ (xs ≠ [] → ∀ p ob, H p = none → PlainTup ob → Q (.ref p) (upd H p (.frz ob (.tup (xs ++ ys)))))
theorem op_catF : OpR X (binaryOp .Add) (rCatF X.K) := by
  intro pins s σ H x y v u Q I rx ry h
  obtain ⟨a, b, xs, ys, rfl, rfl, ha, hb, hy, hz, q0, q2⟩ := h
  cases rx
  cases ry
  obtain ⟨its, r1, p1, _⟩ := I.tuple ha
  obtain ⟨its2, r2, p2, _⟩ := I.tuple hb
  by_cases hx : xs = []
  · subst hx
    cases r1
    exact cat_tup0 p1 p2 ⟨.ref b, H, I, rfl, q0 rfl⟩
  · refine HT.cat_tup p1 p2 (fun z => hx (r1.nil_iff.mp z)) (fun z => absurd (r2.nil_iff.mp z) hy) (fun z => ?_) (by rw [← r1.length, ← r2.length]; exact hz)
    refine ⟨.ref s.heap.objs.size, _, I.laid (t' := s.toks) (o := .frz { cls := .type "tuple", data := .seq (its ++ its2).toArray } (.tup (xs ++ ys))) (fun b ob q => Heap.get?_push_of_some _ q) (Nat.le_refl _) ?_, rfl, q2 hx _ _ (I.hok.fresh (Nat.le_refl _)) ⟨rfl, rfl⟩⟩
    exact ⟨Heap.get?_push_size _ rfl, by rw [List.length_append]; exact hz, _, r1.append r2, IsTup.new _ _⟩
def rDictP : List V → Hp → VK → Prop := fun xs H Q => ∃ (a : Addr) (ob : Obj) (us : List V) (kvs : List (List Key × V)), xs = [.ref a] ∧ H a = some (.frz ob (.tup us)) ∧ PlainTup ob ∧ Paired (PrV H) kvs us ∧ (kvs.map (·.1)).Nodup ∧ ∀ p, H p = none → Q (.ref p) (upd H p (.dT kvs))
theorem call_dictP (hc : X.calm = true) (hu : X.A.units + 2 < cLine) : CallR X (.type "dict") rDictP := by
  intro pins s σ H xs us0 Q I r q
  obtain ⟨a, ob, us, kvs, ex, ha, ⟨hcls, hdict⟩, hp, hn, q⟩ := q
  subst ex
  obtain ⟨u, eu, rx⟩ := vals1 r
  subst eu
  cases rx
  obtain ⟨hget, hz, its, rv, ⟨o, ho, hoc, n, hod⟩⟩ := (show ObjOk X.prog X.w H s.heap a (.frz ob (.tup us)) from I.hok a _ ha)
  rw [hget] at ho
  cases ho
  obtain ⟨qs, ps, e1, kt, hl, hall⟩ := pairs_of I hp
  have hits : its = qs.map Value.ref := by
    rw [e1] at rv
    clear hl hall kt e1 hod
    induction qs generalizing its with
    | nil => cases rv; rfl
    | cons q qs ih =>
      cases rv with
      | cons r1 t1 =>
        rw [List.map_cons, ← ih _ t1]
        cases r1
        rfl
  have hkv : ps.length = kvs.length := (Paired.length kt).symm
  have hul : us.length = qs.length := by rw [e1, List.length_map]
  let Ts : Nat → Addr := fun j => (qs[j]?).getD 0
  let prs : List (Value × Value) := ps.map fun x => (.ref x.2.1, x.2.2)
  have P := PairArg.tuple (prog := X.prog) (w := X.w) a its.toArray Ts prs
  have hpl : prs.length = ps.length := List.length_map _
  have ok : PlainSeq "tuple" s.heap a its.toArray ∧ PairItems s.heap its.toArray Ts prs := by
    refine ⟨⟨_, n, hget, hcls, hdict, hod⟩, by rw [hpl, hits, List.size_toArray, List.length_map, hl], fun j k v hj => ?_⟩
    have hj' := hj
    rw [List.getElem?_map] at hj'
    cases hx : ps[j]? with
    | none => rw [hx] at hj'; cases hj'
    | some x =>
      rw [hx] at hj'
      have hj2 := (List.getElem?_eq_some_iff.mp hx).1
      have hq : qs[j]? = some qs[j] := List.getElem?_eq_getElem (by omega)
      cases hj'
      have eT : Ts j = qs[j]'(by omega) := by show (qs[j]?).getD 0 = _; rw [hq]; rfl
      refine ⟨?_, .inl ?_⟩
      · rw [hits, eT]
        simp [hq]
      · rw [eT]
        exact hall j _ x hq hx
  have hps : (ps.map (·.1)).Nodup := by
    rw [kt_keys kt]; exact hn
  have hisk : ∀ x ∈ ps, (tupleKind (mixKind X.prog X.w)).is s.heap x.1 x.2.1 := fun x hx => by
    obtain ⟨p, _, h1, h2, _⟩ := Paired.mem2 kt hx
    rw [← h1]
    exact key_of I.hok h2
  refine call_dict_pairsH (knd := tupleKind (mixKind X.prog X.w)) (ps := ps) P (I.ok.hd hc) ?_ ok ⟨hpl.symm, fun i key v hrel => ?_⟩ (fun h' hk x hx => tupleKind_stays.1 (fun b o vs n e _ => hk b o (Nat.ne_of_lt (Heap.lt_size e)) (by simp) e) (hisk x hx)) (by rw [hpl, hl, ← hul]; exact hz) fun h' tk hd' hk => ?_
  · show X.A.in1.in1.units < cLine
    show X.A.units + 1 + 1 < cLine
    omega
  · have hrel : prs[i]? = some (key, v) := hrel
    rw [List.getElem?_map] at hrel
    cases hx : ps[i]? with
    | none => rw [hx] at hrel; cases hrel
    | some x =>
      rw [hx] at hrel
      cases hrel
      exact ⟨x.1, x.2.1, rfl, rfl⟩
  rw [storedAllH_nil_of_nodup ps hps] at hd'
  have hm : (s.heap.objs.size == sysModules) = false := beq_eq_false_iff_ne.mpr (Nat.ne_of_gt I.big)
  have k : ∀ b u, s.heap.get? b = some u → h'.get? b = some u := fun b u e => hk b u (by simp) e
  have hp0 : H s.heap.objs.size = none := I.hok.fresh (Nat.le_refl _)
  refine ⟨.ref s.heap.objs.size, upd H s.heap.objs.size (.dT kvs), I.laid (t' := tk) k (Nat.le_refl _) ?_, rfl, q _ hp0⟩
  obtain ⟨o, es, ep, ho, hc', hdat, he, his, hnn⟩ := hd'
  refine ⟨by rw [← hkv, hl, ← hul]; exact hz, hm, ps, Paired.mapP kt fun p x h => ⟨h.1, ?_, h.2.2⟩, o, es, ep, ho, hc', hdat, he, hnn⟩
  rw [upd_ne (ne_of_none h.2.1 hp0)]
  exact h.2.1
end
end KW
set_option Elab.async false
set_option linter.all false
set_option maxRecDepth 100000
set_option maxHeartbeats 4000000
/-! B10: all ways gone through. -/
namespace KW
open PySem PySem.Spec PyProof.Rows L2 
section
variable {P : Program} {w : World} {K : PySem.W.Frag} {mg : Str → Option Value} {base : Heap}

def PrP (I : Hp) (p : Pl × Int) (u : V) : Prop := ∃ q b, u = .ref q ∧ I q = some (.tup [.ref b, .int p.2]) ∧ I b = some (.tup ((plK p.1).map kV))
def KtAt (I : Hp) (kn : KnP) (a : Addr) : Prop := ∃ ob us, I a = some (.frz ob (.tup us)) ∧ PlainTup ob ∧ Paired (PrP I) kn us
theorem KtAt.mono {I I' : Hp} (h : Same I I') {kn : KnP} {a : Addr} : KtAt I kn a → KtAt I' kn a := fun ⟨ob, us, g, p, r⟩ => ⟨ob, us, h _ _ g, p, Paired.mapP r fun x y ⟨q, b, e, g1, g2⟩ => ⟨q, b, e, h _ _ g1, h _ _ g2⟩⟩
def ToldAt (I : Hp) : Told → Addr → Prop
  | .fin v, t => ∃ x, I t = some (.tup [SS "end", x]) ∧ VAt .law I v x
  | .ask pl, t => ∃ b, I t = some (.tup [SS "ask", .ref b]) ∧ I b = some (.tup ((plK pl).map kV))
theorem ToldAt.mono {I I' : Hp} (h : Same I I') {t : Told} {a : Addr} : ToldAt I t a → ToldAt I' t a := by
  cases t with
  | fin v => exact fun ⟨x, g, hv⟩ => ⟨x, h _ _ g, hv.mono h⟩
  | ask pl => exact fun ⟨b, g, g2⟩ => ⟨b, h _ _ g, h _ _ g2⟩
def FoAt (I : Hp) (e : KnP × Told) (u : V) : Prop := ∃ p k t, u = .ref p ∧ I p = some (.tup [.ref k, .ref t]) ∧ KtAt I e.1 k ∧ ToldAt I e.2 t
theorem FoAt.mono {I I' : Hp} (h : Same I I') {e : KnP × Told} {u : V} : FoAt I e u → FoAt I' e u := fun ⟨p, k, t, e1, g, a, b⟩ => ⟨p, k, t, e1, h _ _ g, a.mono h, b.mono h⟩
mutual
theorem Brk.mono {E : KnP → Nat → R Val} {sz : List Nat} : ∀ {kn : KnP} {w n : Nat} {t : Tr} {w' n' : Nat}, Brk E sz kn w n t w' n' → w ≤ w' ∧ n ≤ n'
  | _, _, _, _, _, _, .fin _ _ => ⟨Nat.le_add_right _ _, Nat.le_succ _⟩
  | _, _, _, _, _, _, .ask _ _ _ _ _ _ _ hb => by
    have := BrkL.mono hb
    omega
theorem BrkL.mono {E : KnP → Nat → R Val} {sz : List Nat} : ∀ {ks : List KnP} {w n : Nat} {ts : List Tr} {w' n' : Nat}, BrkL E sz ks w n ts w' n' → w ≤ w' ∧ n ≤ n'
  | _, _, _, _, _, _, .nil => ⟨Nat.le_refl _, Nat.le_refl _⟩
  | _, _, _, _, _, _, .cons a b => by
    have := Brk.mono a
    have := BrkL.mono b
    omega
end
def spGoneT (dd : Nat) : Sp := fun vs H Q _ => ∃ I ps b gv tr, ∃ wf nf : Nat, vs = [gv] ∧ HS I [] H ∧ PrAt I ps b gv ∧ notFn b ∧ ps.length ≤ 10 ∧ Brk (runE dd ps b) (ps.map (·.2)) [] 0 0 tr wf nf ∧ wf ≤ 6000 ∧ nf ≤ 500 ∧ tr.size ≤ 20000 ∧
  (∀ kn v, (kn, Told.fin v) ∈ preT [] tr → VDat 1 v) ∧
  ∀ p fl us I' H', W [] I H I' [] H' → I' p = some (.tup [.ref fl, .int (wf : Int), .int (nf : Int)]) → I' fl = some (.lst us) → Paired (FoAt I') (preT [] tr) us → Q (.ref p) H'
theorem run_more {dd : Nat} {ps : List (Str × Nat)} {b : Tm} {kn : KnP} {w : Nat} (h : ¬ (runE dd ps b kn w).long) : ev (20000 - w) kn dd b (envG ps 0 .nil) nogk ⟨0, 0⟩ = runE dd ps b kn w := ev_more (by omega) h
theorem sizes_len : ∀ (ts : List Tr), ts.length ≤ sizes ts
  | [] => Nat.le_refl _
  | t :: ts => by
    have := sizes_len ts
    have h1 : 1 ≤ t.size := by cases t <;> (unfold Tr.size; omega)
    show ts.length + 1 ≤ t.size + sizes ts
    omega
theorem KtAt.dict {I H : Hp} {kn : KnP} {us : List V} (sub : Same I H) (h : Paired (PrP I) kn us) : Paired (PrV H) (knPK kn) us := by
  induction h with
  | nil => exact .nil
  | cons x t ih =>
    obtain ⟨q, b, e, g1, g2⟩ := x
    exact .cons ⟨q, b, e, sub _ _ g1, sub _ _ g2⟩ ih
def downP (m : Nat) (kn : KnP) (pl : Pl) (j : Nat) : List KnP := (List.range j).map fun (t : Nat) => kn ++ [(pl, ((m - 1 - t : Nat) : Int))]
theorem downP_all (m : Nat) (kn : KnP) (pl : Pl) : (downP m kn pl m).reverse = kidsN kn pl 0 m := by
  unfold downP kidsN
  apply List.ext_getElem
  · simp
  · intro n h1 h2
    simp only [List.length_reverse, List.length_map, List.length_range] at h1
    rw [List.getElem_reverse, List.getElem_map, List.getElem_map, List.getElem_range, List.getElem_range]
    simp only [List.length_map, List.length_range]
    rw [show m - 1 - (m - 1 - n) = 0 + n by omega]
theorem downP_succ (m : Nat) (kn : KnP) (pl : Pl) (j : Nat) : downP m kn pl (j + 1) = downP m kn pl j ++ [kn ++ [(pl, ((m - 1 - j : Nat) : Int))]] := by
  unfold downP
  rw [List.range_succ, List.map_append]
  rfl
theorem kids_good {kn : KnP} {pl : Pl} {d m : Nat} (h : goodKn kn) (hp : goodPl pl) (hl : look kn pl = none) : ∀ k ∈ kidsN kn pl d m, goodKn k := by
  intro k hk
  unfold kidsN at hk
  obtain ⟨j, _, rfl⟩ := List.mem_map.mp hk
  exact h.snoc hp hl
theorem goodKn.keys {kn : KnP} (h : goodKn kn) : ((knPK kn).map (·.1)).Nodup := by
  have e : (knPK kn).map (·.1) = (kn.map (·.1)).map plK := by
    unfold knPK
    rw [List.map_map, List.map_map]
    rfl
  rw [e]
  exact List.Pairwise.map plK (fun a b hab z => hab (plK_inj z)) h.1
abbrev N_gone_through : List Str := ["program", "menu", "found", "pending", "work", "ends", "known", "run", "place", "digit"]
theorem sc_gone_through : FnScope N_gone_through ["program"] (defScope (top 61)) := fnScope_ok (by decide +kernel)
theorem ok_gone_through {dd : Nat} (D : DefAt K mg "gone_through" 61) (T : Txt K mg) (c_menu_of : Cl P w K mg base 2 "menu_of" spMenu) (c_run_within : Cl P w K mg base 8 "run_within" (spRunW dd)) (c_plain_value : Cl P w K mg base 8 "plain_value" (spPlain 1)) : Cl P w K mg base 9 "gone_through" (spGoneT dd) := by
  refine cl_mk (i := 61) (N := N_gone_through) (ps := ["program"]) D sc_gone_through (fun _ _ _ _ _ _ us hl => match us, hl with | [_], _ => rfl) ?_ ?_
  · rintro vs H Q E ⟨I, ps, b, gv, tr, wf, nf, rfl, _⟩
    rfl
  rintro f0 cdv A outer s0 H vs Q E hr ⟨I, ps, b, gv, tr, wf, nf, rfl, hs, hpr, hnf, hpl, hbr, hwf, hnf5, hsz, hdat, q⟩
  refine ⟨_, (pss_cons (ps_asg (pe_tup (pa_cons (pe_cl c_menu_of hr (by omega) rfl (pa_cons (pv 0) pa_nil)) (pa_cons (pe_lst pa_nil) (pa_cons (pe_lst (pa_cons (pe_tupF pa_nil) pa_nil)) (pa_cons pe_int (pa_cons pe_int pa_nil)))))) (pg_tup rfl (pgs_cons (pg_name (i := 1) sc_gone_through.nd rfl (Or.inl rfl)) (pgs_cons (pg_name (i := 2) sc_gone_through.nd rfl (Or.inl rfl)) (pgs_cons (pg_name (i := 3) sc_gone_through.nd rfl (Or.inl rfl)) (pgs_cons (pg_name (i := 4) sc_gone_through.nd rfl (Or.inl rfl)) (pgs_cons (pg_name (i := 5) sc_gone_through.nd rfl (Or.inl rfl)) pgs_nil))))))) (pss_cons (ps_while PassesOwn.never (pt_cmpR (op_neL0 hr.units0) (pv 3) (pe_lst pa_nil) (nomark _)) (pss_cons (ps_set (i := 6) sc_gone_through.nd rfl (Or.inl rfl) (pe_bm0 PySem.F.plainAttrs_list PySem.F.slot_list_pop PySem.F.type_list_pop mt_pop (pv 3))) (pss_cons (ps_set (i := 7) sc_gone_through.nd rfl (Or.inl rfl) (pe_cl c_run_within hr (by omega) rfl (pa_cons (pv 0) (pa_cons (pe_callTy (call_dictP rfl (hu2 hr)) (by rfl) T.dict (by decide +kernel) (pa_cons (pv 6) pa_nil)) (pa_cons (pe_op op_sub (C8.pe_gc rfl T.cSTEPS) (pv 4)) pa_nil))))) (pss_cons (ps_set (i := 4) sc_gone_through.nd rfl (Or.inl rfl) (pe_op op_add (pv 4) (pe_dget (hu_of hr) (pv 7) pe_str (fun _ _ => rfl)))) (pss_one (ps_if (pt_cmpR op_eq (pe_ix ix_tup (pe_dget (hu_of hr) (pv 7) pe_str (fun _ _ => rfl)) pe_int (fun _ _ => rfl)) pe_str (nomark _)) (pss_cons (ps_expr (pe_bm PySem.F.plainAttrs_list PySem.F.slot_list_append PySem.F.type_list_append mt_append (pv 2) (pa_cons (pe_tup (pa_cons (pv 6) (pa_cons (pe_tup (pa_cons pe_str (pa_cons (pe_cl c_plain_value hr (by omega) rfl (pa_cons (pe_ix ix_tup (pe_dget (hu_of hr) (pv 7) pe_str (fun _ _ => rfl)) pe_int (fun _ _ => rfl)) pa_nil)) pa_nil))) pa_nil))) pa_nil))) (pss_cons (ps_set (i := 5) sc_gone_through.nd rfl (Or.inl rfl) (pe_op op_add (pv 5) pe_int)) (pss_one (ps_if (pt_cmpR op_gt (pv 5) (C8.pe_gc rfl T.cENDS) (nomark _)) (pss_one ps_never) pss_nil)))) (pss_cons (ps_set (i := 8) sc_gone_through.nd rfl (Or.inl rfl) (pe_tup (pa_cons (pe_ix ix_tup (pe_dget (hu_of hr) (pv 7) pe_str (fun _ _ => rfl)) pe_int (fun _ _ => rfl)) (pa_cons (pe_ix ix_tup (pe_ix ix_tup (pe_dget (hu_of hr) (pv 7) pe_str (fun _ _ => rfl)) pe_int (fun _ _ => rfl)) pe_int (fun _ _ => rfl)) pa_nil)))) (pss_cons (ps_expr (pe_bm PySem.F.plainAttrs_list PySem.F.slot_list_append PySem.F.type_list_append mt_append (pv 2) (pa_cons (pe_tup (pa_cons (pv 6) (pa_cons (pe_tup (pa_cons pe_str (pa_cons (pv 8) pa_nil))) pa_nil))) pa_nil))) (pss_one (ps_for PassesOwn.never rfl (pi_range3 rfl T.range (pa_cons (pe_op op_sub (pe_ix ix_tup (pv 1) (pe_ix ix_tup (pv 8) pe_int (fun _ _ => rfl)) (fun _ _ => rfl)) pe_int) (pa_cons (pe_un un_neg pe_int) (pa_cons (pe_un un_neg pe_int) pa_nil)))) (pg_name (i := 9) sc_gone_through.nd rfl (Or.inl rfl)) (pss_one (ps_expr (pe_bm PySem.F.plainAttrs_list PySem.F.slot_list_append PySem.F.type_list_append mt_append (pv 3) (pa_cons (pe_op op_catF (pv 6) (pe_tupF (pa_cons (pe_tup (pa_cons (pv 8) (pa_cons (pv 9) pa_nil))) pa_nil))) pa_nil)))))))))))))) (pss_one (ps_ret (pe_tup (pa_cons (pv 2) (pa_cons (pv 4) (pa_cons (pv 5) pa_nil)))))))), ?_⟩
  have w0 := W.start hs
  refine ⟨_, rfl, I, ps, b, gv, rfl, hs, hpr, hnf, hpl, fun ml I1 H1 w1 hml => ?_⟩
  refine ⟨Nat.zero_le _, fun fo hfo => ?_⟩
  have w2 := w1.newM hfo (.lst [])
  refine ⟨Nat.zero_le _, fun k0 ob0 hk0 hob0 => ⟨(by show 1 ≤ sizeLine; decide), fun pe hpe => ?_⟩⟩
  have w3 := w2.newI hk0 (.frz ob0 (.tup []))
  have u3 := w2.upI hk0 (.frz ob0 (.tup []))
  have w4 := w3.newM hpe (.lst [.ref k0])
  refine ⟨(by show 5 ≤ sizeLine; decide), fun t5 ht5 => ?_⟩
  have w5 := w4.newI ht5 (.tup [.ref ml, .ref fo, .ref pe, .int 0, .int 0])
  have u5 := w4.upI ht5 (.tup [.ref ml, .ref fo, .ref pe, .int 0, .int 0])
  refine ⟨t5, _, rfl, SqT.of (w5.i upd_same), rfl, _, _, rfl, _, _, rfl, _, _, rfl, _, _, rfl, _, _, rfl, rfl, ?_⟩
  have hml' := u5 _ _ (u3 _ _ hml)
  have hpr' := hpr.mono (w1.st.same.trans (u3.trans u5))
  have hk0' : KtAt _ [] k0 := ⟨ob0, [], u5 _ _ (show upd I1 k0 _ k0 = some _ from upd_same), hob0, .nil⟩
  have w5 : W [] I H _ ([] ++ [(fo, .lst []), (pe, .lst [.ref k0])]) _ := w5
  revert hml' hpr' hk0' w5
  generalize upd (upd I1 k0 (.frz ob0 (.tup []))) t5 (.tup [.ref ml, .ref fo, .ref pe, .int 0, .int 0]) = I5
  generalize upd (upd (upd (upd H1 fo (.lst [])) k0 (.frz ob0 (.tup []))) pe (.lst [.ref k0])) t5 (.tup [.ref ml, .ref fo, .ref pe, .int 0, .int 0]) = H5
  intro hml' hpr' hk0' w5
  refine ⟨fun sz σ H' => ∃ (ks : List KnP) (ts : List Tr) (kas : List Addr) (wk nk : Nat) (fs : List (KnP × Told)) (us : List V) (I' : Hp) (v6 v7 v8 v9 : Option V), σ = [some gv, some (.ref ml), some (.ref fo), some (.ref pe), some (.int (wk : Int)), some (.int (nk : Int)), v6, v7, v8, v9] ∧ sizes ts = sz ∧
    W [] I H I' ([] ++ [(fo, .lst us), (pe, .lst (kas.map V.ref).reverse)]) H' ∧ Same I5 I' ∧ Paired (KtAt I') ks kas ∧ BrkL (runE dd ps b) (ps.map (·.2)) ks wk nk ts wf nf ∧ (∀ k ∈ ks, goodKn k) ∧ Paired (FoAt I') fs us ∧ preT [] tr = fs ++ preF ks ts ∧ us.length + sizes ts ≤ 20000,
    ⟨tr.size, [[]], [tr], [k0], 0, 0, [], [], I5, none, none, none, none, rfl, rfl, w5, Same.refl _, .cons hk0' .nil, .cons hbr .nil, ?_, .nil, ?_, ?_⟩, ?_⟩
  · intro k hk
    rw [List.mem_singleton.mp hk]
    exact ⟨List.nodup_nil, fun _ z => by cases z⟩
  · show preT [] tr = [] ++ (preT [] tr ++ [])
    rw [List.append_nil, List.nil_append]
  · show 0 + (tr.size + 0) ≤ 20000
    omega
  rintro sz σ H' ⟨ks, ts, kas, wk, nk, fs, us, I', v6, v7, v8, v9, rfl, hts, w6, s6, hks, hbl, hgood, hfs, hpre, hlen⟩
  refine ⟨_, rfl, Nat.zero_le _, fun n6 hn6 => ⟨pe, n6, _, rfl, rfl, SqL.of ((same_up hn6) _ _ (w6.get (i := 1) rfl)), SqL.of upd_same, _, rfl, ?_⟩⟩
  have w7 := w6.same (same_up (o := .lst []) hn6)
  cases hbl with
  | nil =>
    cases hks
    refine bF rfl ?_
    have hpre : preT [] tr = fs ++ [] := hpre
    rw [List.append_nil] at hpre
    have w8 := W.drop (M1 := [(fo, .lst us)]) (M2 := [(pe, .lst ([].map V.ref).reverse)]) w7 (by simp)
    have w9 := W.freeze (M := []) w8 (by simp)
    have s9 : Same I' (upd I' fo (.lst us)) := same_up (w8.hs.out (fo, _) List.mem_cons_self)
    refine ⟨_, rfl, _, rfl, _, rfl, (by show 3 ≤ sizeLine; decide), fun t ht => ?_⟩
    have w10 := w9.newI ht (.tup [.ref fo, .int (wf : Int), .int (nf : Int)])
    have s10 := w9.upI ht (.tup [.ref fo, .int (wf : Int), .int (nf : Int)])
    rw [hpre] at q
    exact q t fo us _ _ w10 upd_same (s10 _ _ upd_same) (Paired.mapP hfs fun x y z => (z.mono s9).mono s10)
  | cons hb hbl =>
    rename_i kn ks' t ts' w1' n1'
    cases hks with
    | cons hk hks =>
      rename_i ka kas'
      have hg := hgood kn List.mem_cons_self
      refine bT (by rw [List.map_cons, List.reverse_cons]; simp) ?_
      have hwle := hb.mono
      have hwle2 := hbl.mono
      refine ⟨_, fun σ' H' z => z, ?_⟩
      refine ⟨_, rfl, .inl ⟨rfl, _, SqL.of (w7.get (i := 1) rfl)⟩, pe, _, .ref ka, rfl, rfl, w7.get (i := 1) rfl, rev_last (v := V.ref ka) (vs := kas'.map V.ref), ?_⟩
      have w8 := w7.set (i := 1) rfl (.lst ((ka :: kas').map V.ref).reverse.dropLast)
      have e8 : ((ka :: kas').map V.ref).reverse.dropLast = (kas'.map V.ref).reverse := by rw [List.map_cons, List.reverse_cons]; exact List.dropLast_concat
      rw [e8] at w8 ⊢
      have w8 : W [] I H I' ([] ++ [(fo, .lst us), (pe, .lst (kas'.map V.ref).reverse)]) _ := w8
      obtain ⟨ob, kus, hka, hob, hkp⟩ := id hk
      refine ⟨_, rfl, _, rfl, ka, ob, kus, knPK kn, rfl, w8.i hka, hob, KtAt.dict w8.hs.sub hkp, hg.keys, fun dd0 hdd => ?_⟩
      have w9 := w8.newI hdd (.dT (knPK kn))
      have u9 := w8.upI hdd (.dT (knPK kn))
      have hpr9 := hpr'.mono (s6.trans u9)
      refine ⟨_, rfl, _, _, rfl, rfl, ?_⟩
      have em : (20000 : Int) - (wk : Int) = ((20000 - wk : Nat) : Int) := by omega
      refine ⟨_, dd0, kn, ps, b, gv, 20000 - wk, (by rw [← em]), w9.hs.left0, upd_same, hpr9, hnf, hpl, by unfold MOST; omega, hg.len, ?_⟩
      cases hb with
      | fin he hn5 =>
        rename_i v s
        rw [run_more (by rw [he]; rintro ⟨s', z⟩; cases z), he]
        rintro r I10 H10 w10 ⟨rkv, nv, hr1, hr2, hr3, pn, xv, rfl, hpn, hxv⟩ hsle
        have w11 : W [] I H I10 ([] ++ [(fo, .lst us), (pe, .lst (kas'.map V.ref).reverse)]) H10 := W.call (M1 := []) (M1' := []) w9 w10.st w10.hs rfl
        have u11 := u9.trans w10.st.same
        refine ⟨_, rfl, _, rfl, r, _, rfl, DG (w11.i hr1) hr3, _, _, rfl, rfl, ?_⟩
        refine ⟨_, rfl, r, _, rfl, DG (w11.i hr1) hr2, pn, _, _, _, rfl, rfl, SqT.of (w11.i hpn), rfl, rfl, _, rfl, tT rfl ?_⟩
        refine ⟨_, rfl, .inl ⟨rfl, _, SqL.of (w11.get (i := 0) rfl)⟩, _, rfl, _, rfl, r, _, rfl, DG (w11.i hr1) hr2, pn, _, _, _, rfl, rfl, SqT.of (w11.i hpn), rfl, ?_⟩
        refine ⟨I10, v, xv, rfl, w11.hs.left0, hdat kn v (by rw [hpre]; exact List.mem_append_right _ (List.mem_append_left _ (show (kn, Told.fin v) ∈ [(kn, Told.fin v)] from List.mem_cons_self))), hxv, fun u I12 H12 w12 hu => ?_⟩
        have w13 : W [] I H I12 ([] ++ [(fo, .lst us), (pe, .lst (kas'.map V.ref).reverse)]) H12 := W.call (M1 := []) (M1' := []) w11 w12.st w12.hs rfl
        have u13 := u11.trans w12.st.same
        refine ⟨s2, fun t1 ht1 => ⟨s2, fun t2 ht2 => ?_⟩⟩
        have w14 := w13.newI ht1 (.tup [SS "end", u])
        have u14 := w13.upI ht1 (.tup [SS "end", u])
        have w15 := w14.newI ht2 (.tup [.ref ka, .ref t1])
        have u15 := w14.upI ht2 (.tup [.ref ka, .ref t1])
        refine ⟨fo, us, .ref t2, rfl, rfl, w15.get (i := 0) rfl, small (by omega), ?_⟩
        have w16 : W [] I H _ ([] ++ [(fo, .lst (us ++ [.ref t2])), (pe, .lst (kas'.map V.ref).reverse)]) _ := w15.set (i := 0) rfl (.lst (us ++ [.ref t2]))
        have uu := u13.trans (u14.trans u15)
        refine ⟨_, rfl, _, _, rfl, rfl, ?_⟩
        refine ⟨_, rfl, _, _, rfl, rfl, _, rfl, tF (by omega) ?_⟩
        have hts : 1 + sizes ts' = sz := hts
        refine ⟨sizes ts', by omega, ks', ts', kas', wk + s.steps, nk + 1, fs ++ [(kn, .fin v)], us ++ [.ref t2], _, _, _, _, _, rfl, rfl, w16, s6.trans uu, Paired.mapP hks fun x y z => z.mono uu, hbl, fun k hk => hgood k (List.mem_cons_of_mem _ hk), Paired.app (Paired.mapP hfs fun x y z => z.mono uu) (.cons ⟨t2, ka, t1, rfl, upd_same, hk.mono uu, (show ToldAt _ (.fin v) t1 from ⟨u, u15 _ _ upd_same, hu.mono (u14.trans u15)⟩)⟩ .nil), ?_, ?_⟩
        · rw [hpre, List.append_assoc]
          rfl
        · rw [List.length_append, List.length_singleton]
          have : sizes (Tr.fin v :: ts') = 1 + sizes ts' := rfl
          omega
      | ask he hl hz h0 h4 h3 hm hbs =>
        rename_i pl s m bs
        obtain ⟨pi, pk⟩ := pl
        rw [run_more (by rw [he]; rintro ⟨s', z⟩; cases z), he]
        rintro r I10 H10 w10 ⟨rkv, nv, hr1, hr2, hr3, pn, xv, rfl, hpn, px, rfl, hpx⟩ hsle
        have w11 : W [] I H I10 ([] ++ [(fo, .lst us), (pe, .lst (kas'.map V.ref).reverse)]) H10 := W.call (M1 := []) (M1' := []) w9 w10.st w10.hs rfl
        have u11 := u9.trans w10.st.same
        refine ⟨_, rfl, _, rfl, r, _, rfl, DG (w11.i hr1) hr3, _, _, rfl, rfl, ?_⟩
        refine ⟨_, rfl, r, _, rfl, DG (w11.i hr1) hr2, pn, _, _, _, rfl, rfl, SqT.of (w11.i hpn), rfl, rfl, _, rfl, tF (by decide +kernel) ?_⟩
        refine ⟨_, rfl, r, _, rfl, DG (w11.i hr1) hr2, pn, _, _, _, rfl, rfl, SqT.of (w11.i hpn), rfl, _, rfl, r, _, rfl, DG (w11.i hr1) hr2, pn, _, _, _, rfl, rfl, SqT.of (w11.i hpn), rfl, px, _, _, _, rfl, rfl, SqT.of (w11.i hpx), rfl, s2, fun tp htp => ?_⟩
        have w12 := w11.newI htp (.tup [.int pi, .int (pk : Int)])
        have u12 := w11.upI htp (.tup [.int pi, .int (pk : Int)])
        have htp0 : upd I10 tp (.tup [.int pi, .int (pk : Int)]) tp = some (.tup ((plK (pi, pk)).map kV)) := upd_same
        refine ⟨_, rfl, .inl ⟨rfl, _, SqL.of (w12.get (i := 0) rfl)⟩, _, rfl, _, rfl, s2, fun t1 ht1 => ⟨s2, fun t2 ht2 => ?_⟩⟩
        have w14 := w12.newI ht1 (.tup [SS "ask", .ref tp])
        have u14 := w12.upI ht1 (.tup [SS "ask", .ref tp])
        have w15 := w14.newI ht2 (.tup [.ref ka, .ref t1])
        have u15 := w14.upI ht2 (.tup [.ref ka, .ref t1])
        refine ⟨fo, us, .ref t2, rfl, rfl, w15.get (i := 0) rfl, small (by omega), ?_⟩
        have w16 : W [] I H _ ([] ++ [(fo, .lst (us ++ [.ref t2])), (pe, .lst (kas'.map V.ref).reverse)]) _ := w15.set (i := 0) rfl (.lst (us ++ [.ref t2]))
        have uu := u11.trans (u12.trans (u14.trans u15))
        have htp1 := u15 _ _ (u14 _ _ htp0)
        have hfo2 : FoAt _ (kn, .ask (pi, pk)) (.ref t2) := ⟨t2, ka, t1, rfl, upd_same, hk.mono uu, (show ToldAt _ (.ask (pi, pk)) t1 from ⟨tp, u15 _ _ upd_same, htp1⟩)⟩
        have hml16 := uu _ _ (s6 _ _ hml')
        have hz2 : (ps.map fun e => V.int (e.2 : Nat))[pk]? = some (.int (m : Int)) := by
          rw [List.getElem?_map] at hz ⊢
          cases hq : ps[pk]? with
          | none => rw [hq] at hz; cases hz
          | some z => rw [hq] at hz; cases hz; rfl
        have hk16 := hk.mono uu
        have hks16 : Paired (KtAt _) ks' kas' := Paired.mapP hks fun x y z => z.mono uu
        have hfs16 : Paired (FoAt _) (fs ++ [(kn, .ask (pi, pk))]) (us ++ [.ref t2]) := Paired.app (Paired.mapP hfs fun x y z => z.mono uu) (.cons hfo2 .nil)
        have s16 := s6.trans uu
        refine ⟨_, rfl, _, rfl, tp, _, _, _, rfl, rfl, SqT.of (w16.i htp1), rfl, ml, _, _, _, rfl, rfl, SqT.of (w16.i hml16), atI_nat hz2, ?_⟩
        revert w16 htp1 hfo2 hml16 hk16 hks16 hfs16 s16
        clear w15 w14 w12 u15 u14 u12 uu
        generalize upd (upd (upd I10 tp (.tup [.int pi, .int (pk : Int)])) t1 (.tup [SS "ask", .ref tp])) t2 (.tup [.ref ka, .ref t1]) = I16
        intro w16 htp1 hfo2 hml16 hk16 hks16 hfs16 s16
        refine ⟨_, _, rfl, rfl, _, rfl, _, rfl, _, _, _, _, rfl, RgC.neg (by omega) (by omega) (by decide) (by decide), ?_⟩
        have emm : ((m : Int) - 1 - -1).toNat = m := by omega
        rw [emm]
        have hkl2 : kas'.length ≤ 20000 := by
          have h1 := Paired.length hks16
          have h2 := hbl.len
          have h3 := sizes_len ts'
          have h4 : sizes (Tr.ask (pi, pk) bs :: ts') = (1 + sizes bs) + sizes ts' := rfl
          omega
        refine for_rangeC (fun j σ H' => ∃ (I' : Hp) (nks : List Addr) (v9 : Option V), σ = [some gv, some (.ref ml), some (.ref fo), some (.ref pe), some (.int ((wk + s.steps : Nat) : Int)), some (.int (nk : Int)), some (.ref ka), some (.ref r), some (.ref tp), v9] ∧
          W [] I H I' ([] ++ [(fo, .lst (us ++ [.ref t2])), (pe, .lst ((kas'.map V.ref).reverse ++ nks.map V.ref))]) H' ∧ Same I16 I' ∧ Paired (KtAt I') (downP m kn (pi, pk) j) nks ∧ nks.length = j) ⟨I16, [], _, rfl, by rw [List.map_nil, List.append_nil]; exact w16, Same.refl _, .nil, rfl⟩ ?_ ?_
        · rintro j σ H' hj ⟨I', nks, v9, rfl, w17, s17, hnk, hnl⟩
          have ed : (m : Int) - 1 + (j : Nat) * -1 = ((m - 1 - j : Nat) : Int) := by omega
          obtain ⟨ob7, kus7, hka7, hob7, hkp7⟩ := hk16.mono s17
          refine ⟨_, rfl, .inl ⟨rfl, _, SqL.of (w17.get (i := 1) rfl)⟩, _, rfl, _, rfl, _, rfl, s2, fun q1 hq1 => ⟨(by show 1 ≤ sizeLine; decide), fun q2 ob2 hq2 hob2 => ?_⟩⟩
          have w18 := w17.newI hq1 (.tup [.ref tp, .int ((m : Int) - 1 + (j : Nat) * -1)])
          have u18 := w17.upI hq1 (.tup [.ref tp, .int ((m : Int) - 1 + (j : Nat) * -1)])
          have w19 := w18.newI hq2 (.frz ob2 (.tup [.ref q1]))
          have u19 := w18.upI hq2 (.frz ob2 (.tup [.ref q1]))
          have u20 := u18.trans u19
          have hpr1 : PrP _ ((pi, pk), (m : Int) - 1 + (j : Nat) * -1) (.ref q1) := ⟨q1, tp, rfl, u19 _ _ upd_same, u20 _ _ (s17 _ _ htp1)⟩
          have hkul : kus7.length ≤ 12 := by
            rw [← Paired.length hkp7]
            exact hg.len
          refine ⟨ka, q2, kus7, [.ref q1], rfl, rfl, .inl (.inr ⟨_, w19.i (u20 _ _ hka7)⟩), .inl (.inr ⟨_, w19.i upd_same⟩), (by intro z; cases z), Nat.le_trans (by show kus7.length + 1 ≤ 13; omega) (by decide), fun hk0 => ?_, fun hkne p3 ob3 hp3 hob3 => ?_⟩
          · refine ⟨pe, _, _, rfl, rfl, w19.get (i := 1) rfl, ?_, ?_⟩
            · rw [List.length_append, List.length_reverse, List.length_map, List.length_map, hnl]
              exact small (by omega)
            · subst hk0
              cases hkp7
              refine ⟨_, nks ++ [q2], _, rfl, ?_, s17.trans u20, ?_, by rw [List.length_append, List.length_singleton, hnl]⟩
              · have el : (kas'.map V.ref).reverse ++ (nks ++ [q2]).map V.ref = ((kas'.map V.ref).reverse ++ nks.map V.ref) ++ [V.ref q2] := by rw [List.map_append (l₁ := nks), List.append_assoc]; rfl
                rw [el]
                exact w19.set (i := 1) rfl (.lst (((kas'.map V.ref).reverse ++ nks.map V.ref) ++ [V.ref q2]))
              rw [downP_succ]
              refine Paired.app (Paired.mapP hnk fun x y z => z.mono u20) (.cons ?_ .nil)
              rw [← ed]
              exact ⟨ob2, [.ref q1], upd_same, hob2, .cons hpr1 .nil⟩
          · have w21 := w19.newI hp3 (.frz ob3 (.tup (kus7 ++ [.ref q1])))
            have u21 := u20.trans (w19.upI hp3 (.frz ob3 (.tup (kus7 ++ [.ref q1]))))
            have hpr2 : PrP _ ((pi, pk), (m : Int) - 1 + (j : Nat) * -1) (.ref q1) := ⟨q1, tp, rfl, w19.upI hp3 (.frz ob3 (.tup (kus7 ++ [.ref q1]))) _ _ (u19 _ _ upd_same), u21 _ _ (s17 _ _ htp1)⟩
            refine ⟨pe, _, _, rfl, rfl, w21.get (i := 1) rfl, ?_, ?_⟩
            · rw [List.length_append, List.length_reverse, List.length_map, List.length_map, hnl]
              exact small (by omega)
            · skip
              refine ⟨_, nks ++ [p3], _, rfl, ?_, s17.trans u21, ?_, by rw [List.length_append, List.length_singleton, hnl]⟩
              · have el : (kas'.map V.ref).reverse ++ (nks ++ [p3]).map V.ref = ((kas'.map V.ref).reverse ++ nks.map V.ref) ++ [V.ref p3] := by rw [List.map_append (l₁ := nks), List.append_assoc]; rfl
                rw [el]
                exact w21.set (i := 1) rfl (.lst (((kas'.map V.ref).reverse ++ nks.map V.ref) ++ [V.ref p3]))
              rw [downP_succ]
              refine Paired.app (Paired.mapP hnk fun x y z => z.mono u21) (.cons ?_ .nil)
              rw [← ed]
              exact ⟨ob3, kus7 ++ [.ref q1], upd_same, hob3, Paired.app (Paired.mapP hkp7 fun x y ⟨q, b, e, g1, g2⟩ => ⟨q, b, e, u21 _ _ g1, u21 _ _ g2⟩) (.cons hpr2 .nil)⟩
        · rintro σ H' ⟨I', nks, v9, rfl, w17, s17, hnk, hnl⟩
          have hbl2 := hbs.len
          have hkidl : (kidsN kn (pi, pk) 0 m).length = m := by unfold kidsN; rw [List.length_map, List.length_range]
          rw [hkidl] at hbl2
          have els : (kas'.map V.ref).reverse ++ nks.map V.ref = ((nks.reverse ++ kas').map V.ref).reverse := by
            rw [List.map_append, List.reverse_append, List.map_reverse, List.reverse_reverse]
          rw [els] at w17
          have hts : (1 + sizes bs) + sizes ts' = sz := hts
          have hss : sizes (bs ++ ts') = sizes bs + sizes ts' := sizes_app _ _
          refine ⟨sizes (bs ++ ts'), by omega, kidsN kn (pi, pk) 0 m ++ ks', bs ++ ts', nks.reverse ++ kas', wk + s.steps, nk, fs ++ [(kn, .ask (pi, pk))], us ++ [.ref t2], _, _, _, _, _, rfl, rfl, w17, s16.trans s17, ?_, hbs.app hbl, ?_, Paired.mapP hfs16 fun x y z => z.mono s17, ?_, ?_⟩
          · rw [← downP_all]
            exact Paired.app (Paired.rev hnk) (Paired.mapP hks16 fun x y z => z.mono s17)
          · intro k hkm
            rcases List.mem_append.mp hkm with z | z
            · exact kids_good hg ⟨h0, h4, h3⟩ hl k z
            · exact hgood k (List.mem_cons_of_mem _ z)
          · rw [hpre, ← hbl2, preF_kids]
            show fs ++ (((kn, Told.ask (pi, pk)) :: preL kn (pi, pk) 0 bs) ++ preF ks' ts') = (fs ++ [(kn, .ask (pi, pk))]) ++ (preL kn (pi, pk) 0 bs ++ preF ks' ts')
            rw [List.append_assoc]
            rfl
          · rw [List.length_append, List.length_singleton]
            have : sizes (Tr.ask (pi, pk) bs :: ts') = (1 + sizes bs) + sizes ts' := rfl
            omega
end
end KW
set_option Elab.async false
set_option linter.all false
set_option maxRecDepth 100000
set_option maxHeartbeats 4000000
/-! B11: the work of a program, whether it is small. -/
namespace KW
open PySem PySem.Spec PyProof.Rows L2 
section
variable {P : Program} {w : World} {K : PySem.W.Frag} {mg : Str → Option Value} {base : Heap}

structure GPre (dd : Nat) (I H : Hp) (ps : List (Str × Nat)) (b : Tm) (gv : V) (tr : Tr) (wf nf : Nat) : Prop where
  hs : HS I [] H
  pr : PrAt I ps b gv
  nf' : notFn b
  pl : ps.length ≤ 10
  br : Brk (runE dd ps b) (ps.map (·.2)) [] 0 0 tr wf nf
  wl : wf ≤ 6000
  nl : nf ≤ 500
  sz : tr.size ≤ 20000
  dat : ∀ kn v, (kn, Told.fin v) ∈ preT [] tr → VDat 1 v
def spWork (dd : Nat) : Sp := fun vs H Q _ => ∃ I ps b gv tr, ∃ wf nf : Nat, vs = [gv] ∧ GPre dd I H ps b gv tr wf nf ∧ ∀ p I' H', W [] I H I' [] H' → I' p = some (.tup [.int (wf : Int), .int (nf : Int)]) → Q (.ref p) H'
def spSmall (dd : Nat) : Sp := fun vs H Q _ => ∃ I ps b gv tr, ∃ wf nf : Nat, vs = [gv] ∧ GPre dd I H ps b gv tr wf nf ∧ ∀ I' H', W [] I H I' [] H' → Q (.bl true) H'
abbrev N_work : List Str := ["program"]
theorem sc_work : FnScope N_work ["program"] (defScope (top 63)) := fnScope_ok (by decide +kernel)
theorem ok_work {dd : Nat} (D : DefAt K mg "work" 63) (T : Txt K mg) (c_gone_through : Cl P w K mg base 9 "gone_through" (spGoneT dd)) : Cl P w K mg base 10 "work" (spWork dd) := by
  refine cl_mk (i := 63) (N := N_work) (ps := ["program"]) D sc_work (fun _ _ _ _ _ _ us hl => match us, hl with | [_], _ => rfl) ?_ ?_
  · rintro vs H Q E ⟨I, ps, b, gv, tr, wf, nf, rfl, _⟩
    rfl
  rintro f0 cdv A outer s0 H vs Q E hr ⟨I, ps, b, gv, tr, wf, nf, rfl, pre, q⟩
  refine ⟨_, (pss_one (ps_ret (pe_slice sl_tupA (pe_cl c_gone_through hr (by omega) rfl (pa_cons (pv 0) pa_nil)) (po_some pe_int) po_none))), ?_⟩
  refine ⟨_, rfl, I, ps, b, gv, tr, wf, nf, rfl, pre.hs, pre.pr, pre.nf', pre.pl, pre.br, pre.wl, pre.nl, pre.sz, pre.dat, fun p fl us I1 H1 w1 hp hfl hfo => ?_⟩
  refine ⟨_, rfl, p, _, rfl, SqT.of (w1.i hp), fun z => (notfull1 z).elim, fun _ n hn => ?_⟩
  have e : cutV [V.ref fl, V.int (wf : Int), V.int (nf : Int)] (some 1) none = [V.int (wf : Int), V.int (nf : Int)] := cutN _ 1
  rw [e]
  have w2 := w1.newI hn (.tup [.int (wf : Int), .int (nf : Int)])
  exact q n _ _ w2 upd_same
abbrev N_is_small : List Str := ["program"]
theorem sc_is_small : FnScope N_is_small ["program"] (defScope (top 64)) := fnScope_ok (by decide +kernel)
theorem ok_is_small {dd : Nat} (D : DefAt K mg "is_small" 64) (T : Txt K mg) (c_gone_through : Cl P w K mg base 9 "gone_through" (spGoneT dd)) : Cl P w K mg base 10 "is_small" (spSmall dd) := by
  refine cl_mk (i := 64) (N := N_is_small) (ps := ["program"]) D sc_is_small (fun _ _ _ _ _ _ us hl => match us, hl with | [_], _ => rfl) ?_ ?_
  · rintro vs H Q E ⟨I, ps, b, gv, tr, wf, nf, rfl, _⟩
    rfl
  rintro f0 cdv A outer s0 H vs Q E hr ⟨I, ps, b, gv, tr, wf, nf, rfl, pre, q⟩
  refine ⟨_, (pss_cons (ps_try_thru0 (pss_one (ps_expr (pe_cl c_gone_through hr (by omega) rfl (pa_cons (pv 0) pa_nil))))) (pss_one (ps_ret pe_bl))), ?_⟩
  refine ⟨_, rfl, I, ps, b, gv, tr, wf, nf, rfl, pre.hs, pre.pr, pre.nf', pre.pl, pre.br, pre.wl, pre.nl, pre.sz, pre.dat, fun p fl us I1 H1 w1 hp hfl hfo => ?_⟩
  exact q _ _ w1
end
end KW
set_option Elab.async false
set_option linter.all false
set_option maxRecDepth 100000
set_option maxHeartbeats 4000000
/-! C2: a dict keyed by what is known. -/
namespace KW
open PySem PySem.Spec PyProof.Rows L2
def nP (p : Pl × Int) : NestedKey := .tup [.tup [.num p.1.1, .num (p.1.2 : Int)], .num p.2]
def nK (kn : KnP) : NestedKey := .tup (kn.map nP)
theorem nP_inj {p q : Pl × Int} (h : nP p = nP q) : p = q := by
  obtain ⟨⟨i, k⟩, d⟩ := p
  obtain ⟨⟨j, l⟩, e⟩ := q
  unfold nP at h
  simp only [NestedKey.tup.injEq, List.cons.injEq, NestedKey.num.injEq, and_true] at h
  obtain ⟨⟨h1, h2⟩, h3⟩ := h
  have h2 : k = l := by omega
  rw [h1, h2, h3]
theorem nK_inj : ∀ {a b : KnP}, nK a = nK b → a = b := by
  intro a b h
  unfold nK at h
  have h := NestedKey.tup.inj h
  exact (List.map_inj_right fun x y => nP_inj).mp h
theorem nK_depth : ∀ (kn : KnP), (nK kn).depth ≤ 8 := by
  intro kn
  have key : ∀ (l : KnP), NestedKey.depthAll (l.map nP) ≤ 7 := by
    intro l
    induction l with
    | nil => simp [NestedKey.depthAll]
    | cons p r ih =>
      rw [List.map_cons]
      have : (nP p).depth ≤ 7 := by simp [nP, NestedKey.depth, NestedKey.depthAll]
      simp only [NestedKey.depthAll]
      omega
  have := key kn
  simp only [nK, NestedKey.depth]
  omega
section
variable {X : Cx} {pins : List (Addr × Obj)} {σ : L2.St} {H : Hp} {s : Shared}
theorem nest_pl (I : Inv X pins σ H s) {pl : Pl} {b : Addr} (h : H b = some (.tup ((plK pl).map kV))) : NestedIs s.heap (.tup [.num pl.1, .num (pl.2 : Int)]) (.ref b) := by
  obtain ⟨its, rv, ⟨o, ho, hc, n, hd⟩, _⟩ := I.tuple (SqT.of h)
  obtain ⟨u1, u2, eu, r1, r2⟩ := vals2 rv
  subst eu
  obtain ⟨t1, rfl⟩ := (show ∃ t, u1 = Value.int pl.1 t from r1)
  obtain ⟨t2, rfl⟩ := (show ∃ t, u2 = Value.int (pl.2 : Int) t from r2)
  exact .tup ho hc hd (.cons (.int _ _) (.cons (.int _ _) .nil))
theorem nest_all (I : Inv X pins σ H s) : ∀ {kn : KnP} {us : List V} {its : List Value}, Paired (PrP H) kn us → Vals us its → NestedAll s.heap (kn.map nP) its
  | _, _, _, .nil, .nil => .nil
  | _, _, _, .cons (a := p) ⟨q, b, e, hq, hb⟩ t, .cons r1 t1 => by
    subst e
    refine .cons ?_ (nest_all I t t1)
    cases r1
    obtain ⟨its, rv, ⟨o, ho, hc, n, hd⟩, _⟩ := I.tuple (SqT.of hq)
    obtain ⟨u1, u2, eu, r1, r2⟩ := vals2 rv
    subst eu
    obtain rfl : u1 = Value.ref b := r1
    obtain ⟨t2, rfl⟩ := (show ∃ t, u2 = Value.int p.2 t from r2)
    exact .tup ho hc hd (.cons (nest_pl I hb) (.cons (.int _ _) .nil))
theorem nest_is (I : Inv X pins σ H s) {kn : KnP} {a : Addr} (h : KtAt H kn a) : (nestedKind X.prog X.w).is s.heap (nK kn) a := by
  obtain ⟨ob, us, ha, _, hp⟩ := h
  obtain ⟨its, rv, ⟨o, ho, hc, n, hd⟩, _⟩ := I.tuple (.inl (.inr ⟨_, ha⟩))
  exact ⟨.tup ho hc hd (by simpa using nest_all I hp rv), nK_depth kn⟩

def madeX (l : List (KnP × Addr × Addr)) : List (NestedKey × Addr × Value) := l.map fun x => (nK x.1, x.2.1, .ref x.2.2)
/-- a dict keyed by what is known stands at a -/
def MadeO (P : Program) (w : World) (a : Addr) (l : List (KnP × Addr × Addr)) : HO := .ext fun h => ∃ o es ep, h.get? a = some o ∧ o.ExactDict ∧ o.data = .dict es ep ∧ es.toList = (madeX l).map (entryOfKey (nestedKind P w))
def NKeys (H : Hp) (l : List (KnP × Addr × Addr)) : Prop := (∀ x ∈ l, KtAt H x.1 x.2.1) ∧ (l.map (·.1)).Nodup
theorem madeX_nodup {l : List (KnP × Addr × Addr)} (h : (l.map (·.1)).Nodup) : ((madeX l).map (·.1)).Nodup := by
  have e : (madeX l).map (·.1) = (l.map (·.1)).map nK := by
    unfold madeX
    rw [List.map_map, List.map_map]
    rfl
  rw [e]
  exact List.Pairwise.map nK (fun a b hab z => hab (nK_inj z)) h
theorem made_dict (I : Inv X pins σ H s) {a : Addr} {l : List (KnP × Addr × Addr)} (h : H a = some (MadeO X.prog X.w a l)) (hk : NKeys H l) : s.heap.DictOfH (nestedKind X.prog X.w) a (madeX l) := by
  obtain ⟨⟨o, es, ep, ho, hc, hd, he⟩, _, _⟩ := (show ObjOk X.prog X.w H s.heap a (MadeO X.prog X.w a l) from I.hok a _ h)
  refine ⟨o, es, ep, ho, hc, hd, he, fun x hx => ?_, madeX_nodup hk.2⟩
  unfold madeX at hx
  obtain ⟨y, hy, rfl⟩ := List.mem_map.mp hx
  exact nest_is I (hk.1 y hy)
theorem made_new {h : Heap} {H' : Hp} {P : Program} {w : World} {a : Addr} {l : List (KnP × Addr × Addr)} (d : h.DictOfH (nestedKind P w) a (madeX l)) : ObjOk P w H' h a (MadeO P w a l) := by
  obtain ⟨o, es, ep, ho, hc, hd, he, _, _⟩ := d
  exact ⟨⟨o, es, ep, ho, hc, hd, he⟩, ⟨o, ho⟩, fun h1 h2 ⟨o', es', ep', ho', r⟩ k => ⟨o', es', ep', k _ ho', r⟩⟩

theorem atKey_made {l : List (KnP × Addr × Addr)} {kn : KnP} : atKey (madeX l) (nK kn) = (look l kn).map fun p => (p.1, Value.ref p.2) := by
  unfold atKey look madeX
  induction l with
  | nil => rfl
  | cons x r ih =>
    rw [List.map_cons, List.find?_cons, List.find?_cons]
    by_cases h : x.1 = kn
    · subst h; simp
    · have h2 : ¬ nK x.1 = nK kn := fun z => h (nK_inj z)
      simp only [h, h2, decide_false]
      exact ih
def NGet (P : Program) (w : World) (H : Hp) (a kp va : Addr) : Prop := ∃ l kn ka, H a = some (MadeO P w a l) ∧ NKeys H l ∧ KtAt H kn kp ∧ look l kn = some (ka, va)
def NPut (P : Program) (w : World) (H : Hp) (a kp va : Addr) (H' : Hp) : Prop := ∃ l kn, H a = some (MadeO P w a l) ∧ NKeys H l ∧ KtAt H kn kp ∧ look l kn = none ∧ l.length < sizeLine ∧ H' = upd H a (MadeO P w a (l ++ [(kn, kp, va)]))
def tNGet (P : Program) (w : World) (td ty : TE) : TE := fun σ H Q => td σ H fun x H1 => ty σ H1 fun y H2 => ∃ a kp va, x = .ref a ∧ y = .ref kp ∧ NGet P w H2 a kp va ∧ Q (.ref va) H2
def sNPut (P : Program) (w : World) (td ty tv : TE) : TS := fun D σ H => tv σ H fun v H1 => td σ H1 fun x H2 => ty σ H2 fun y H3 => ∃ a kp va H', x = .ref a ∧ y = .ref kp ∧ v = .ref va ∧ NPut P w H3 a kp va H' ∧ D.nx σ H'
end
section
variable {X : Cx} {o i e value : Expr} {pos pos' tpos : Pos} {td ty tv : TE}
theorem pe_nnew : PE X (.Dict [] [] pos) (fun σ H Q => ∀ p, H p = none → Q (.ref p) (upd H p (MadeO X.prog X.w p []))) := ⟨fun pins s σ H Q I h =>
  wpAny_Dict_empty ⟨.ref s.heap.objs.size, _, I.laid (a := s.heap.objs.size) (o := MadeO X.prog X.w s.heap.objs.size []) (t' := s.toks) (fun _ _ q => Heap.get?_push_of_some _ q) (Nat.le_refl _) (made_new (l := []) (Heap.DictOfH.new s.heap)), rfl, h _ (I.hok.fresh (Nat.le_refl _))⟩⟩
theorem pe_nget (hu : X.A.units + 9 < cLine) (ho : PE X o td) (hi : PE X i ty) (hs : NoSl i) : PE X (.Subscript o i pos) (tNGet X.prog X.w td ty) := by
  refine ⟨fun pins s σ H Q I h => ?_⟩
  refine subD_of PySem.F.slot_dict_getitem.lookup hs (thn (ho.run pins s σ H _ I h) fun u s1 ⟨x, H1, I1, rx, q1⟩ => thn (hi.run pins s1 σ H1 _ I1 q1) fun iv s2 ⟨y, H2, I2, ry, a, kp, va, ex, ey, g, q2⟩ => ?_)
  subst ex
  subst ey
  obtain rfl : u = Value.ref a := rx
  obtain rfl : iv = Value.ref kp := ry
  obtain ⟨l, kn, ka, ha, hk, hkp, hlk⟩ := g
  have dd := made_dict I2 ha hk
  refine ⟨dd.typeIs, wpAny_getItem_heap (k := nK kn) (p := (ka, Value.ref va)) ?_ (nest_is I2 hkp) dd (by rw [atKey_made, hlk]; rfl) ⟨.ref va, H2, I2.tok _, rfl, q2⟩⟩
  show X.A.units + 1 + 8 < cLine
  omega
theorem ps_nput (hu : X.A.units + 9 < cLine) (ho : PE X o td) (hi : PE X i ty) (hv : PE X value tv) (hs : swapsWith value (some (.Subscript o i pos')) pos.line X.env = pure false) :
    PS X (.Assign [.Subscript o i pos'] value pos) (sNPut X.prog X.w td ty tv) := by
  refine ⟨fun pins s σ H D I h => ?_⟩
  refine wpAny_Assign_Subscript (thn (hv.run pins s σ H _ I h) fun r s1 ⟨v, H1, I1, rv, q1⟩ => thn (ho.run pins s1 σ H1 _ I1 q1) fun u s2 ⟨x, H2, I2, rx, q2⟩ => thn (hi.run pins s2 σ H2 _ I2 q2) fun iv s3 ⟨y, H3, I3, ry, a, kp, va, H4, ex, ey, ev, g, q3⟩ => ?_) hs
  subst ex
  subst ey
  subst ev
  obtain rfl : u = Value.ref a := rx
  obtain rfl : iv = Value.ref kp := ry
  obtain rfl : r = Value.ref va := rv
  obtain ⟨l, kn, ha, hk, hkp, hlk, hlen, rfl⟩ := g
  have dd := made_dict I3 ha hk
  have hml : (madeX l).length = l.length := List.length_map _
  refine wpAny_setItem_heap (k := nK kn) (hsz := by rw [hml]; exact Nat.le_of_lt hlen) (by show X.A.units + 1 + 8 < cLine; omega) (nest_is I3 hkp) dd fun h' dd' hsb => ?_
  have e1 : storedH (madeX l) (nK kn) kp (Value.ref va) = madeX (l ++ [(kn, kp, va)]) := by
    rw [storedH_new (by rw [atKey_made, hlk]; rfl)]
    unfold madeX
    rw [List.map_append]
    rfl
  rw [e1] at dd'
  have he : ∃ q, h'.get? a = some q := let ⟨q, _, _, hq, _⟩ := dd'; ⟨q, hq⟩
  exact ⟨σ, _, d_write I3 (by rw [ha]; exact True.intro) hsb he (made_new dd'), q3⟩
end
end KW
set_option Elab.async false
set_option linter.all false
set_option maxRecDepth 100000
set_option maxHeartbeats 4000000
/-! C3: the nodes of a tree of ways, in order. -/
namespace KW
open PySem L2
mutual
def nodes : KnP → Tr → List (KnP × Tr)
  | kn, .fin v => [(kn, .fin v)]
  | kn, .ask pl bs => (kn, .ask pl bs) :: nodesL kn pl 0 bs
def nodesL : KnP → Pl → Nat → List Tr → List (KnP × Tr)
  | _, _, _, [] => []
  | kn, pl, d, t :: ts => nodes (kn ++ [(pl, (d : Int))]) t ++ nodesL kn pl (d + 1) ts
end
def Tr.told : Tr → Told
  | .fin v => .fin v
  | .ask pl _ => .ask pl
mutual
theorem preT_nodes : ∀ (kn : KnP) (t : Tr), preT kn t = (nodes kn t).map fun x => (x.1, x.2.told)
  | kn, .fin v => rfl
  | kn, .ask pl bs => by
    show (kn, Told.ask pl) :: preL kn pl 0 bs = (kn, Told.ask pl) :: (nodesL kn pl 0 bs).map _
    rw [preL_nodes kn pl 0 bs]
theorem preL_nodes : ∀ (kn : KnP) (pl : Pl) (d : Nat) (ts : List Tr), preL kn pl d ts = (nodesL kn pl d ts).map fun x => (x.1, x.2.told)
  | _, _, _, [] => rfl
  | kn, pl, d, t :: ts => by
    show preT (kn ++ [(pl, (d : Int))]) t ++ preL kn pl (d + 1) ts = (nodes (kn ++ [(pl, (d : Int))]) t ++ nodesL kn pl (d + 1) ts).map _
    rw [preT_nodes _ t, preL_nodes kn pl (d + 1) ts, List.map_append]
end
theorem nodes_head (kn : KnP) (t : Tr) : ∃ r, nodes kn t = (kn, t) :: r := by
  cases t with
  | fin v => exact ⟨[], rfl⟩
  | ask pl bs => exact ⟨_, rfl⟩
theorem nodesL_mem : ∀ (ts : List Tr) (kn : KnP) (pl : Pl) (d j : Nat) (b : Tr), ts[j]? = some b → (kn ++ [(pl, ((d + j : Nat) : Int))], b) ∈ nodesL kn pl d ts
  | [], _, _, _, _, _, h => by simp at h
  | t :: ts, kn, pl, d, 0, b, h => by
    have h : t = b := by simpa using h
    subst h
    obtain ⟨r, hr⟩ := nodes_head (kn ++ [(pl, (d : Int))]) t
    show _ ∈ nodes (kn ++ [(pl, (d : Int))]) t ++ _
    rw [hr]
    exact List.mem_append_left _ List.mem_cons_self
  | t :: ts, kn, pl, d, j + 1, b, h => by
    have := nodesL_mem ts kn pl (d + 1) j b (by simpa using h)
    rw [show d + 1 + j = d + (j + 1) by omega] at this
    exact List.mem_append_right _ this
/-- a split of a joined list -/
theorem split_app {α : Type} {a b c : List α} {x : α} {r : List α} (h : a ++ b = c ++ x :: r) : (∃ r', a = c ++ x :: r' ∧ r = r' ++ b) ∨ (∃ c', b = c' ++ x :: r ∧ c = a ++ c') := by
  rcases List.append_eq_append_iff.mp h with ⟨c', h1, h2⟩ | ⟨c', h1, h2⟩
  · exact .inr ⟨c', h2, h1⟩
  · cases c' with
    | nil =>
      refine .inr ⟨[], ?_, ?_⟩
      · simpa using h2.symm
      · simpa using h1.symm
    | cons y c'' =>
      obtain ⟨e1, e2⟩ := List.cons.inj h2
      subst e1
      exact .inl ⟨c'', h1, e2⟩
mutual
/-- the branches of a node come after it -/
theorem nodes_kids : ∀ (t : Tr) (kn : KnP) (A B : List (KnP × Tr)) (k : KnP) (pl : Pl) (bs : List Tr), nodes kn t = A ++ (k, .ask pl bs) :: B → ∀ (d : Nat) (b : Tr), bs[d]? = some b → (k ++ [(pl, (d : Int))], b) ∈ B
  | .fin v, kn, A, B, k, pl, bs, h, d, b, hb => by
    have h : [(kn, Tr.fin v)] = A ++ (k, .ask pl bs) :: B := h
    cases A with
    | nil => cases (List.cons.inj h).1
    | cons a A => exact absurd (List.cons.inj h).2 (by simp)
  | .ask pl0 bs0, kn, A, B, k, pl, bs, h, d, b, hb => by
    have h : (kn, Tr.ask pl0 bs0) :: nodesL kn pl0 0 bs0 = A ++ (k, .ask pl bs) :: B := h
    cases A with
    | nil =>
      obtain ⟨e1, e2⟩ := List.cons.inj h
      cases e1
      rw [← e2]
      have := nodesL_mem bs0 kn pl0 0 d b hb
      rwa [Nat.zero_add] at this
    | cons a A => exact nodesL_kids bs0 kn pl0 0 A B k pl bs (List.cons.inj h).2 d b hb
theorem nodesL_kids : ∀ (ts : List Tr) (kn : KnP) (pl0 : Pl) (d0 : Nat) (A B : List (KnP × Tr)) (k : KnP) (pl : Pl) (bs : List Tr), nodesL kn pl0 d0 ts = A ++ (k, .ask pl bs) :: B → ∀ (d : Nat) (b : Tr), bs[d]? = some b → (k ++ [(pl, (d : Int))], b) ∈ B
  | [], kn, pl0, d0, A, B, k, pl, bs, h, d, b, hb => by
    have h : ([] : List (KnP × Tr)) = A ++ (k, .ask pl bs) :: B := h
    exact absurd h (by simp)
  | t :: ts, kn, pl0, d0, A, B, k, pl, bs, h, d, b, hb => by
    have h : nodes (kn ++ [(pl0, (d0 : Int))]) t ++ nodesL kn pl0 (d0 + 1) ts = A ++ (k, .ask pl bs) :: B := h
    rcases split_app h with ⟨r', h1, h2⟩ | ⟨c', h1, h2⟩
    · rw [h2]
      exact List.mem_append_left _ (nodes_kids t _ A r' k pl bs h1 d b hb)
    · exact nodesL_kids ts kn pl0 (d0 + 1) c' B k pl bs h1 d b hb
end
mutual
theorem nodes_pre : ∀ (t : Tr) (kn : KnP) (x : KnP × Tr), x ∈ nodes kn t → ∃ r, x.1 = kn ++ r
  | .fin v, kn, x, h => by
    have h : x ∈ [(kn, Tr.fin v)] := h
    rw [List.mem_singleton.mp h]
    exact ⟨[], by simp⟩
  | .ask pl bs, kn, x, h => by
    have h : x ∈ (kn, Tr.ask pl bs) :: nodesL kn pl 0 bs := h
    rcases List.mem_cons.mp h with e | e
    · rw [e]; exact ⟨[], by simp⟩
    · obtain ⟨j, r, _, e2⟩ := nodesL_pre bs kn pl 0 x e
      exact ⟨_, e2⟩
theorem nodesL_pre : ∀ (ts : List Tr) (kn : KnP) (pl : Pl) (d : Nat) (x : KnP × Tr), x ∈ nodesL kn pl d ts → ∃ (j : Nat) (r : KnP), d ≤ j ∧ x.1 = kn ++ ((pl, (j : Int)) :: r)
  | [], kn, pl, d, x, h => by
    have h : x ∈ ([] : List (KnP × Tr)) := h
    cases h
  | t :: ts, kn, pl, d, x, h => by
    have h : x ∈ nodes (kn ++ [(pl, (d : Int))]) t ++ nodesL kn pl (d + 1) ts := h
    rcases List.mem_append.mp h with e | e
    · obtain ⟨r, e2⟩ := nodes_pre t _ x e
      exact ⟨d, r, Nat.le_refl _, by rw [e2, List.append_assoc]; rfl⟩
    · obtain ⟨j, r, hj, e2⟩ := nodesL_pre ts kn pl (d + 1) x e
      exact ⟨j, r, by omega, e2⟩
end
mutual
theorem nodes_nodup : ∀ (t : Tr) (kn : KnP), ((nodes kn t).map (·.1)).Nodup
  | .fin v, kn => by
    show [kn].Nodup
    exact List.nodup_cons.mpr ⟨by simp, List.nodup_nil⟩
  | .ask pl bs, kn => by
    show (kn :: (nodesL kn pl 0 bs).map (·.1)).Nodup
    refine List.nodup_cons.mpr ⟨fun z => ?_, nodesL_nodup bs kn pl 0⟩
    obtain ⟨x, hx, e⟩ := List.mem_map.mp z
    obtain ⟨j, r, _, e2⟩ := nodesL_pre bs kn pl 0 x hx
    rw [e] at e2
    have := congrArg List.length e2
    rw [List.length_append, List.length_cons] at this
    omega
theorem nodesL_nodup : ∀ (ts : List Tr) (kn : KnP) (pl : Pl) (d : Nat), ((nodesL kn pl d ts).map (·.1)).Nodup
  | [], _, _, _ => List.nodup_nil
  | t :: ts, kn, pl, d => by
    show ((nodes (kn ++ [(pl, (d : Int))]) t ++ nodesL kn pl (d + 1) ts).map (·.1)).Nodup
    rw [List.map_append]
    refine List.nodup_append.mpr ⟨nodes_nodup t _, nodesL_nodup ts kn pl (d + 1), fun a ha b hb e => ?_⟩
    obtain ⟨x, hx, ex⟩ := List.mem_map.mp ha
    obtain ⟨y, hy, ey⟩ := List.mem_map.mp hb
    obtain ⟨r, e1⟩ := nodes_pre t _ x hx
    obtain ⟨j, r2, hj, e2⟩ := nodesL_pre ts kn pl (d + 1) y hy
    have e3 : x.1 = y.1 := by rw [ex, ey, e]
    rw [e1, e2, List.append_assoc] at e3
    have e4 := List.append_cancel_left e3
    have e5 : (pl, (d : Int)) = (pl, (j : Int)) := (List.cons.inj e4).1
    have e6 : (d : Int) = (j : Int) := (Prod.mk.inj e5).2
    omega
end
theorem kidsN_len (kn : KnP) (pl : Pl) (d m : Nat) : (kidsN kn pl d m).length = m := by unfold kidsN; rw [List.length_map, List.length_range]
theorem nodesL_zip : ∀ (ts : List Tr) (kn : KnP) (pl : Pl) (d : Nat) (x : KnP × Tr), x ∈ nodesL kn pl d ts → ∃ (j : Nat) (t : Tr) (k : KnP), ts[j]? = some t ∧ (kidsN kn pl d ts.length)[j]? = some k ∧ x ∈ nodes k t
  | [], kn, pl, d, x, h => by
    have h : x ∈ ([] : List (KnP × Tr)) := h
    cases h
  | t :: ts, kn, pl, d, x, h => by
    have h : x ∈ nodes (kn ++ [(pl, (d : Int))]) t ++ nodesL kn pl (d + 1) ts := h
    rw [List.length_cons, kidsN_succ]
    rcases List.mem_append.mp h with e | e
    · exact ⟨0, t, _, rfl, rfl, e⟩
    · obtain ⟨j, t', k, h1, h2, h3⟩ := nodesL_zip ts kn pl (d + 1) x e
      exact ⟨j + 1, t', k, by simpa using h1, by simpa using h2, h3⟩
mutual
theorem Brk.node {E : KnP → Nat → R Val} {sz : List Nat} : ∀ {kn : KnP} {w n : Nat} {t : Tr} {w' n' : Nat}, Brk E sz kn w n t w' n' → ∀ (k : KnP) (pl : Pl) (bs : List Tr), (k, Tr.ask pl bs) ∈ nodes kn t → sz[pl.2]? = some bs.length ∧ bs.length ≤ 10
  | _, _, _, _, _, _, .fin _ _, k, pl, bs, h => by
    have h := List.mem_singleton.mp h
    cases h
  | _, _, _, _, _, _, .ask (kn := kn) (pl := pl0) (m := m) (bs := bs0) _ _ hz _ _ _ hm hb, k, pl, bs, h => by
    have hl := hb.len
    rw [kidsN_len] at hl
    have h : (k, Tr.ask pl bs) ∈ (kn, Tr.ask pl0 bs0) :: nodesL kn pl0 0 bs0 := h
    rcases List.mem_cons.mp h with e | e
    · cases e
      rw [hl]
      exact ⟨hz, hm⟩
    · obtain ⟨j, t, k', h1, h2, h3⟩ := nodesL_zip bs0 kn pl0 0 _ e
      rw [hl] at h2
      exact BrkL.node hb j t k' h1 h2 k pl bs h3
theorem BrkL.node {E : KnP → Nat → R Val} {sz : List Nat} : ∀ {ks : List KnP} {w n : Nat} {ts : List Tr} {w' n' : Nat}, BrkL E sz ks w n ts w' n' → ∀ (j : Nat) (t : Tr) (k' : KnP), ts[j]? = some t → ks[j]? = some k' → ∀ (k : KnP) (pl : Pl) (bs : List Tr), (k, Tr.ask pl bs) ∈ nodes k' t → sz[pl.2]? = some bs.length ∧ bs.length ≤ 10
  | _, _, _, _, _, _, .nil, j, t, k', h1, _, _, _, _, _ => by simp at h1
  | _, _, _, _, _, _, .cons a b, j, t, k', h1, h2, k, pl, bs, h => by
    cases j with
    | zero =>
      have e1 := Option.some.inj (by simpa using h1 : some _ = some t)
      have e2 := Option.some.inj (by simpa using h2 : some _ = some k')
      subst e1
      subst e2
      exact Brk.node a k pl bs h
    | succ j => exact BrkL.node b j t k' (by simpa using h1) (by simpa using h2) k pl bs h
end
mutual
theorem nodes_len : ∀ (t : Tr) (kn : KnP), (nodes kn t).length = t.size
  | .fin v, kn => rfl
  | .ask pl bs, kn => by
    show (nodesL kn pl 0 bs).length + 1 = 1 + sizes bs
    rw [nodesL_len bs kn pl 0]
    omega
theorem nodesL_len : ∀ (ts : List Tr) (kn : KnP) (pl : Pl) (d : Nat), (nodesL kn pl d ts).length = sizes ts
  | [], _, _, _ => rfl
  | t :: ts, kn, pl, d => by
    show (nodes (kn ++ [(pl, (d : Int))]) t ++ nodesL kn pl (d + 1) ts).length = t.size + sizes ts
    rw [List.length_append, nodes_len t, nodesL_len ts kn pl (d + 1)]
end
mutual
theorem nodes_deep : ∀ (t : Tr) (kn : KnP) (x : KnP × Tr), x ∈ nodes kn t → x.1.length ≤ kn.length + t.size
  | .fin v, kn, x, h => by
    have h : x ∈ [(kn, Tr.fin v)] := h
    rw [List.mem_singleton.mp h]
    exact Nat.le_add_right _ _
  | .ask pl bs, kn, x, h => by
    have h : x ∈ (kn, Tr.ask pl bs) :: nodesL kn pl 0 bs := h
    show x.1.length ≤ kn.length + (1 + sizes bs)
    rcases List.mem_cons.mp h with e | e
    · rw [e]; exact Nat.le_add_right _ _
    · have := nodesL_deep bs kn pl 0 x e
      omega
theorem nodesL_deep : ∀ (ts : List Tr) (kn : KnP) (pl : Pl) (d : Nat) (x : KnP × Tr), x ∈ nodesL kn pl d ts → x.1.length ≤ kn.length + 1 + sizes ts
  | [], kn, pl, d, x, h => by
    have h : x ∈ ([] : List (KnP × Tr)) := h
    cases h
  | t :: ts, kn, pl, d, x, h => by
    have h : x ∈ nodes (kn ++ [(pl, (d : Int))]) t ++ nodesL kn pl (d + 1) ts := h
    show x.1.length ≤ kn.length + 1 + (t.size + sizes ts)
    rcases List.mem_append.mp h with e | e
    · have := nodes_deep t _ x e
      rw [List.length_append, List.length_singleton] at this
      omega
    · have := nodesL_deep ts kn pl (d + 1) x e
      omega
end
end KW
set_option Elab.async false
set_option linter.all false
set_option maxRecDepth 100000
set_option maxHeartbeats 4000000
/-! B12: the ways of a program. -/
namespace KW
open PySem PySem.Spec PyProof.Rows L2 
section
variable {P : Program} {w : World} {K : PySem.W.Frag} {mg : Str → Option Value} {base : Heap}

theorem hu9 {A : Around} {k : Nat} (hr : Room k A) : A.units + 9 < cLine := by have := hr.un; omega
theorem pe_ngetK {X : Cx} {P' : Program} {w' : World} {o i : Expr} {pos : Pos} {td ty : TE} (hP : X.prog = P') (hw : HEq X.w w') (hu : X.A.units + 9 < cLine) (ho : PE X o td) (hi : PE X i ty) (hs : NoSl i) : PE X (.Subscript o i pos) (tNGet P' w' td ty) := by
  subst hP
  cases hw
  exact pe_nget hu ho hi hs
theorem op_catFK {X : Cx} {K' : PySem.W.Frag} (hK : X.K = K') : OpR X (binaryOp .Add) (rCatF K') := by
  subst hK
  exact op_catF
theorem split_rev {α : Type} {l : List α} {j : Nat} {x : α} (h : l.reverse[j]? = some x) : ∃ B, l = (l.take (l.length - 1 - j)) ++ x :: B ∧ l.reverse.take j = B.reverse := by
  have hj := (List.getElem?_eq_some_iff.mp h).1
  rw [List.length_reverse] at hj
  refine ⟨l.drop (l.length - j), ?_, ?_⟩
  · conv => lhs; rw [← List.take_append_drop (l.length - 1 - j) l]
    congr 1
    rw [List.drop_eq_getElem_cons (by omega)]
    congr 1
    · rw [List.getElem?_reverse (by omega)] at h
      rw [List.getElem?_eq_getElem (by omega)] at h
      exact Option.some.inj h
    · congr 1
      omega
  · rw [List.take_reverse]
theorem PrP.mono {I I' : Hp} (h : Same I I') {p : Pl × Int} {u : V} : PrP I p u → PrP I' p u := fun ⟨q, b, e, g1, g2⟩ => ⟨q, b, e, h _ _ g1, h _ _ g2⟩
theorem TrsAt.ofP {I : Hp} : ∀ {ts : List Tr} {vas : List Addr}, Paired (fun t va => TrAt I t (.ref va)) ts vas → TrsAt I ts (vas.map V.ref)
  | _, _, .nil => rfl
  | _, _, .cons h t => ⟨_, _, rfl, h, TrsAt.ofP t⟩
theorem look_mem {α β : Type} [DecidableEq α] {l : List (α × β)} {k : α} {v : β} (h : look l k = some v) : (k, v) ∈ l := by
  unfold look at h
  obtain ⟨p, hp, rfl⟩ := Option.map_eq_some_iff.mp h
  have h1 := List.find?_some hp
  have h2 := List.mem_of_find?_eq_some hp
  have h3 : p.1 = k := of_decide_eq_true h1
  rw [← h3]
  exact h2
theorem nodes_uniq {l : List (KnP × Tr)} (h : (l.map (·.1)).Nodup) {k : KnP} {a b : Tr} (ha : (k, a) ∈ l) (hb : (k, b) ∈ l) : a = b := by
  induction l with
  | nil => cases ha
  | cons x r ih =>
    have h := List.nodup_cons.mp h
    rcases List.mem_cons.mp ha with e | e
    · rcases List.mem_cons.mp hb with z | z
      · rw [← e] at z; exact (Prod.mk.inj z).2.symm
      · exact absurd (List.mem_map.mpr ⟨_, z, rfl⟩) (by rw [← e] at h; exact h.1)
    · rcases List.mem_cons.mp hb with z | z
      · exact absurd (List.mem_map.mpr ⟨_, e, rfl⟩) (by rw [← z] at h; exact h.1)
      · exact ih h.2 e z
theorem Paired.ofMap {α β γ : Type} {R : β → γ → Prop} {f : α → β} : ∀ {a : List α} {c : List γ}, Paired R (a.map f) c → Paired (fun x y => R (f x) y) a c
  | [], _, .nil => .nil
  | _ :: _, _, .cons h t => .cons h (Paired.ofMap t)
def spWaysP (dd : Nat) : Sp := fun vs H Q _ => ∃ I ps b gv tr, ∃ wf nf : Nat, vs = [gv] ∧ GPre dd I H ps b gv tr wf nf ∧ ∀ u I' H', W [] I H I' [] H' → TrAt I' tr u → Q u H'
abbrev N_ways : List Str := ["program", "menu", "made", "known", "told", "branches", "digit"]
theorem sc_ways : FnScope N_ways ["program"] (defScope (top 62)) := fnScope_ok (by decide +kernel)
theorem ok_waysP {dd : Nat} (D : DefAt K mg "ways" 62) (T : Txt K mg) (c_menu_of : Cl P w K mg base 2 "menu_of" spMenu) (c_gone_through : Cl P w K mg base 9 "gone_through" (spGoneT dd)) : Cl P w K mg base 10 "ways" (spWaysP dd) := by
  refine cl_mk (i := 62) (N := N_ways) (ps := ["program"]) D sc_ways (fun _ _ _ _ _ _ us hl => match us, hl with | [_], _ => rfl) ?_ ?_
  · rintro vs H Q E ⟨I, ps, b, gv, tr, wf, nf, rfl, _⟩
    rfl
  rintro f0 cdv A outer s0 H vs Q E hr ⟨I, ps, b, gv, tr, wf, nf, rfl, pre, q⟩
  refine ⟨_, (pss_cons (ps_asg (pe_tup (pa_cons (pe_cl c_menu_of hr (by omega) rfl (pa_cons (pv 0) pa_nil)) (pa_cons pe_nnew pa_nil))) (pg_tup rfl (pgs_cons (pg_name (i := 1) sc_ways.nd rfl (Or.inl rfl)) (pgs_cons (pg_name (i := 2) sc_ways.nd rfl (Or.inr rfl)) pgs_nil)))) (pss_cons (ps_for PassesOwn.never rfl (pi_list (pe_revL (pe_ix ix_tup (pe_cl c_gone_through hr (by omega) rfl (pa_cons (pv 0) pa_nil)) pe_int (fun _ _ => rfl)))) (pg_tup rfl (pgs_cons (pg_name (i := 3) sc_ways.nd rfl (Or.inr rfl)) (pgs_cons (pg_name (i := 4) sc_ways.nd rfl (Or.inr rfl)) pgs_nil))) (pss_one (ps_if (pt_cmpR op_eq (pe_ix ix_tup (pv 4) pe_int (fun _ _ => rfl)) pe_str (nomark _)) (pss_one (ps_nput (hu9 hr) (pv 2) (pv 3) (pv 4) rfl)) (pss_cons (ps_setLc (i := 5) (own := [("digit", 6)]) rfl sc_ways.nd rfl rfl (sw_true rfl rfl rfl (by decide +kernel)) (pi_range1 rfl T.range (pa_cons (pe_ix ix_tup (pv 1) (pe_ix ix_tup (pe_ix ix_tup (pv 4) pe_int (fun _ _ => rfl)) pe_int (fun _ _ => rfl)) (fun _ _ => rfl)) pa_nil)) (blkOk_by (N := N_ways) (sc := defScope (top 62)) (by decide +kernel)) (fun _ _ _ _ _ => (pg_name (i := 6) sc_ways.nd rfl (Or.inl rfl))) (fun _ _ _ _ _ => pts_nil) (fun _ _ _ _ _ => (pe_ngetK (P' := P) (w' := w) rfl HEq.rfl (hu9 hr) (pv 2) (pe_op (op_catFK (K' := K) rfl) (pv 3) (pe_tupF (pa_cons (pe_tup (pa_cons (pe_ix (ix_tupK (K' := K) rfl) (pv 4) pe_int (fun _ _ => rfl)) (pa_cons (pv 6) pa_nil))) pa_nil))) (fun _ _ => rfl)))) (pss_one (ps_nput (hu9 hr) (pv 2) (pv 3) (pe_tup (pa_cons pe_str (pa_cons (pe_ix ix_tup (pv 4) pe_int (fun _ _ => rfl)) (pa_cons (pe_callTy call_tuple_of (by rfl) T.tuple (by decide +kernel) (pa_cons (pv 5) pa_nil)) pa_nil)))) rfl)))))) (pss_one (ps_ret (pe_nget (hu9 hr) (pv 2) (pe_tupF pa_nil) (fun _ _ => rfl)))))), ?_⟩
  have w0 := W.start pre.hs
  refine ⟨_, rfl, I, ps, b, gv, rfl, pre.hs, pre.pr, pre.nf', pre.pl, fun ml I1 H1 w1 hml ma hma => ⟨s2, fun t0 ht0 => ?_⟩⟩
  have w2 := w1.newM hma (MadeO P w ma [])
  have w3 := w2.newI ht0 (.tup [.ref ml, .ref ma])
  have u3 := w2.upI ht0 (.tup [.ref ml, .ref ma])
  refine ⟨t0, _, rfl, SqT.of (w3.i upd_same), rfl, _, _, rfl, _, _, rfl, rfl, ?_⟩
  refine ⟨_, rfl, _, ps, b, gv, tr, wf, nf, rfl, w3.hs.left0, pre.pr.mono (w1.st.same.trans u3), pre.nf', pre.pl, pre.br, pre.wl, pre.nl, pre.sz, pre.dat, fun pg fl us I4 H4 w4 hpg hfl hfo => ?_⟩
  have w5 : W [] I H I4 ([] ++ [(ma, MadeO P w ma [])]) H4 := W.call (M1 := []) (M1' := []) w3 w4.st w4.hs rfl
  have hml4 := w4.st.same _ _ (u3 _ _ hml)
  refine ⟨pg, _, _, _, rfl, rfl, SqT.of (w5.i hpg), rfl, fl, us, rfl, SqL.of (w5.i hfl), fun fr hfr => ?_⟩
  have w6 := w5.newI hfr (.lst us.reverse)
  have u6 := w5.upI hfr (.lst us.reverse)
  refine ⟨fr, rfl, ⟨_, SqL.of (w6.i upd_same)⟩, ?_⟩
  have hfr6 : upd I4 fr (.lst us.reverse) fr = some (.lst us.reverse) := upd_same
  have hml6 := u6 _ _ hml4
  have hfo6 : Paired (fun (x : KnP × Tr) u => FoAt (upd I4 fr (.lst us.reverse)) (x.1, x.2.told) u) (nodes [] tr).reverse us.reverse := by
    rw [preT_nodes] at hfo
    exact Paired.rev (Paired.ofMap (Paired.mapP hfo fun x y z => z.mono u6))
  revert w6 hfr6 hml6 hfo6
  clear w5 u6
  generalize upd I4 fr (.lst us.reverse) = I6
  generalize upd H4 fr (.lst us.reverse) = H6
  intro w6 hfr6 hml6 hfo6
  have hnd : ((nodes [] tr).reverse.map (·.1)).Nodup := by
    rw [List.map_reverse]
    exact List.pairwise_reverse.mpr ((nodes_nodup tr []).imp fun h e => h e.symm)
  refine for_list (K := K) (a := fr) (xs := us.reverse) (fun j σ H' => ∃ (I' : Hp) (l : List (KnP × Addr × Addr)) (v3 v4 v5 v6 : Option V), σ = [some gv, some (.ref ml), some (.ref ma), v3, v4, v5, v6] ∧ W [] I H I' ([] ++ [(ma, MadeO P w ma l)]) H' ∧ Same I6 I' ∧ l.length ≤ j ∧
    (∀ x ∈ l, KtAt I' x.1 x.2.1) ∧ l.map (·.1) = ((nodes [] tr).reverse.take j).map (·.1) ∧ (∀ x ∈ l, ∀ t, (x.1, t) ∈ nodes [] tr → TrAt I' t (.ref x.2.2))) ⟨I6, [], _, _, _, _, rfl, w6, Same.refl _, Nat.le_refl _, fun _ z => (by cases z), rfl, fun _ z => (by cases z)⟩ ?_ ?_ ?_
  · rintro j σ H' hj ⟨I', l, v3, v4, v5, v6, rfl, w7, s7, _⟩
    exact SqL.of (w7.i (s7 _ _ hfr6))
  · rintro j x σ H' hx ⟨I', l, v3, v4, v5, v6, rfl, w7, s7, hlj, hkt, hlm, htr⟩
    obtain ⟨⟨kn, t⟩, hnt, hfx⟩ := Paired.get hfo6 hx
    obtain ⟨pe, ka, ta, rfl, hpe, hka, hta⟩ := hfx.mono s7
    have hjl := (List.getElem?_eq_some_iff.mp hnt).1
    have hmem : (kn, t) ∈ nodes [] tr := List.mem_reverse.mp (List.mem_of_getElem? hnt)
    have etake : (nodes [] tr).reverse.take (j + 1) = (nodes [] tr).reverse.take j ++ [(kn, t)] := by rw [List.take_succ, hnt]; rfl
    have hnew : look l kn = none := by
      rw [look_none, hlm]
      intro z
      have h2 : (((nodes [] tr).reverse.take (j + 1)).map (·.1)).Nodup := (hnd.sublist ((List.take_sublist _ _).map _))
      rw [etake, List.map_append] at h2
      exact (List.nodup_append.mp h2).2.2 _ z kn (by simp) rfl
    have hkn : NKeys H' l := ⟨fun x hx => (hkt x hx).mono w7.hs.sub, by
      rw [hlm]
      exact hnd.sublist ((List.take_sublist _ _).map _)⟩
    have hlen : l.length < sizeLine := small (by
      rw [List.length_reverse, nodes_len] at hjl
      have := pre.sz
      omega)
    have uniq : ∀ t', (kn, t') ∈ nodes [] tr → t' = t := fun t' h' => nodes_uniq (nodes_nodup tr []) h' hmem
    refine ⟨pe, _, rfl, SqT.of (w7.i hpe), rfl, _, _, rfl, _, _, rfl, rfl, ?_⟩
    cases t with
    | fin v =>
      obtain ⟨xv, ht, hv⟩ := hta
      refine ⟨_, rfl, ta, _, _, _, rfl, rfl, SqT.of (w7.i ht), rfl, rfl, _, rfl, tT rfl ?_⟩
      refine ⟨_, rfl, _, rfl, _, rfl, ma, ka, ta, _, rfl, rfl, rfl, ⟨l, kn, w7.get (i := 0) rfl, hkn, hka.mono w7.hs.sub, hnew, hlen, rfl⟩, ?_⟩
      have w8 : W [] I H I' ([] ++ [(ma, MadeO P w ma (l ++ [(kn, ka, ta)]))]) _ := w7.set (i := 0) rfl (MadeO P w ma (l ++ [(kn, ka, ta)]))
      refine ⟨I', l ++ [(kn, ka, ta)], _, _, _, _, rfl, w8, s7, by rw [List.length_append, List.length_singleton]; omega, fun x hx => ?_, by rw [etake, List.map_append, List.map_append, hlm]; rfl, fun x hx t' ht' => ?_⟩
      · rcases List.mem_append.mp hx with z | z
        · exact hkt x z
        · rw [List.mem_singleton.mp z]; exact hka
      · rcases List.mem_append.mp hx with z | z
        · exact htr x z t' ht'
        · rw [List.mem_singleton.mp z] at ht' ⊢
          rw [uniq t' ht']
          exact ⟨ta, xv, rfl, ht, hv⟩
    | ask pl bs =>
      obtain ⟨bp, ht, hbp⟩ := hta
      obtain ⟨hz, hm10⟩ := pre.br.node kn pl bs hmem
      have hz2 : (ps.map fun e => V.int (e.2 : Nat))[pl.2]? = some (.int (bs.length : Int)) := by
        rw [List.getElem?_map] at hz ⊢
        cases hq : ps[pl.2]? with
        | none => rw [hq] at hz; cases hz
        | some z => rw [hq] at hz; rw [← Option.some.inj hz]; rfl
      refine ⟨_, rfl, ta, _, _, _, rfl, rfl, SqT.of (w7.i ht), rfl, rfl, _, rfl, tF (by decide +kernel) ?_⟩
      refine ⟨_, rfl, _, rfl, ta, _, _, _, rfl, rfl, SqT.of (w7.i ht), rfl, bp, _, _, _, rfl, rfl, SqT.of (w7.i hbp), rfl, ml, _, _, _, rfl, rfl, SqT.of (w7.i (s7 _ _ hml6)), atI_nat hz2, ?_⟩
      refine ⟨_, rfl, (by omega), (by omega), fun Dd hDd => ?_⟩
      have etn : ((bs.length : Nat) : Int).toNat = bs.length := by omega
      rw [etn]
      have w8 := w7.newM hDd (.lst [])
      have hsplit := split_rev hnt
      refine lc_range (lo := 0) (n := bs.length) (fun d H2 => ∃ (I2 : Hp) (vas : List Addr), W [] I H I2 ([] ++ [(ma, MadeO P w ma l)] ++ [(Dd, .lst (vas.map V.ref))]) H2 ∧ Same I' I2 ∧ Paired (fun t va => TrAt I2 t (.ref va)) (bs.take d) vas) ⟨I', [], w8, Same.refl _, .nil⟩ ?_ ?_
      · rintro d H2 hd ⟨I2, vas, w9, s9, hva⟩
        obtain ⟨obk, kus, hkf, hobk, hkp⟩ := hka.mono s9
        have ht9 := s9 _ _ ht
        have hbp9 := s9 _ _ hbp
        have hbd : bs[d]? = some bs[d] := List.getElem?_eq_getElem hd
        obtain ⟨B, hB1, hB2⟩ := hsplit
        have hkid := nodes_kids tr [] _ _ kn pl bs hB1 d _ hbd
        have hkidm : (kn ++ [(pl, (d : Int))], bs[d]) ∈ nodes [] tr := by rw [hB1]; exact List.mem_append_right _ (List.mem_cons_of_mem _ hkid)
        have hinl : (kn ++ [(pl, (d : Int))]) ∈ l.map (·.1) := by
          rw [hlm, hB2]
          exact List.mem_map.mpr ⟨_, List.mem_reverse.mpr hkid, rfl⟩
        cases hlk : look l (kn ++ [(pl, (d : Int))]) with
        | none => exact absurd hinl (look_none.mp hlk)
        | some pr =>
          obtain ⟨kka, kva⟩ := pr
          have hml2 := look_mem hlk
          have htrk := htr _ hml2 _ hkidm
          refine ⟨rfl, _, rfl, _, rfl, _, rfl, ta, _, _, _, rfl, rfl, SqT.of (w9.i ht9), rfl, _, rfl, s2, fun q1 hq1 => ⟨(by show 1 ≤ sizeLine; decide), fun q2 ob2 hq2 hob2 => ?_⟩⟩
          have w18 := w9.newI hq1 (.tup [.ref bp, .int (0 + (d : Int))])
          have u18 := w9.upI hq1 (.tup [.ref bp, .int (0 + (d : Int))])
          have w19 := w18.newI hq2 (.frz ob2 (.tup [.ref q1]))
          have u19 := w18.upI hq2 (.frz ob2 (.tup [.ref q1]))
          have u20 := u18.trans u19
          have hpr1 : PrP _ (pl, (d : Int)) (.ref q1) := ⟨q1, bp, rfl, by
            have z := u19 q1 _ upd_same
            exact (by simpa using z), u20 _ _ hbp9⟩
          have hkul : kus.length ≤ 20000 := by
            have h0 : kn.length = kus.length := Paired.length hkp
            have h1 : kn.length ≤ 0 + tr.size := nodes_deep tr [] _ hmem
            have h2 := pre.sz
            omega
          have fin : ∀ (I8 H8 : Hp), W [] I H I8 ([] ++ [(ma, MadeO P w ma l)] ++ [(Dd, .lst (vas.map V.ref))]) H8 → Same I2 I8 → ∃ acc, H8 Dd = some (.lst acc) ∧ acc.length < sizeLine ∧ ∃ (I3 : Hp) (vas' : List Addr), W [] I H I3 ([] ++ [(ma, MadeO P w ma l)] ++ [(Dd, .lst (vas'.map V.ref))]) (upd H8 Dd (.lst (acc ++ [.ref kva]))) ∧ Same I' I3 ∧ Paired (fun t va => TrAt I3 t (.ref va)) (bs.take (d + 1)) vas' := fun I8 H8 w8' s8 => by
            refine ⟨_, w8'.get (i := 1) rfl, ?_, I8, vas ++ [kva], ?_, s9.trans s8, ?_⟩
            · rw [List.length_map, ← Paired.length hva, List.length_take]
              exact small (by omega)
            · rw [List.map_append]
              exact w8'.set (i := 1) rfl (.lst (vas.map V.ref ++ [.ref kva]))
            · rw [List.take_succ, hbd]
              exact Paired.app (Paired.mapP hva fun x y z => z.mono s8) (.cons (htrk.mono (s9.trans s8)) .nil)
          refine ⟨ka, q2, kus, [.ref q1], rfl, rfl, .inl (.inr ⟨_, w19.i (u20 _ _ hkf)⟩), .inl (.inr ⟨_, w19.i upd_same⟩), (by intro z; cases z), Nat.le_trans (by show kus.length + 1 ≤ 20001; omega) (by decide), fun hk0 => ?_, fun hkne p3 ob3 hp3 hob3 => ?_⟩
          · refine ⟨ma, q2, kva, rfl, rfl, ⟨l, _, kka, w19.get (i := 0) rfl, ⟨fun x hx => ((hkt x hx).mono (s9.trans u20)).mono w19.hs.sub, hkn.2⟩, ?_, hlk⟩, fin _ _ w19 u20⟩
            subst hk0
            cases hkp
            have hsub := w19.hs.sub
            refine KtAt.mono hsub ?_
            exact ⟨ob2, [.ref q1], upd_same, hob2, .cons hpr1 .nil⟩
          · have w21 := w19.newI hp3 (.frz ob3 (.tup (kus ++ [.ref q1])))
            have u21' := w19.upI hp3 (.frz ob3 (.tup (kus ++ [.ref q1])))
            have u21 := u20.trans u21'
            have hpr2 := hpr1.mono u21'
            refine ⟨ma, p3, kva, rfl, rfl, ⟨l, _, kka, w21.get (i := 0) rfl, ⟨fun x hx => ((hkt x hx).mono (s9.trans u21)).mono w21.hs.sub, hkn.2⟩, ?_, hlk⟩, fin _ _ w21 u21⟩
            have hsub := w21.hs.sub
            refine KtAt.mono hsub ?_
            exact ⟨ob3, kus ++ [.ref q1], upd_same, hob3, Paired.app (Paired.mapP hkp fun x y ⟨q, b, e, g1, g2⟩ => ⟨q, b, e, u21 _ _ g1, u21 _ _ g2⟩) (.cons hpr2 .nil)⟩
      · rintro H2 ⟨I2, vas, w9, s9, hva⟩
        rw [List.take_length] at hva
        have ht9 := s9 _ _ ht
        refine ⟨_, rfl, ta, _, _, _, rfl, rfl, SqT.of (w9.i ht9), rfl, _, rfl, Dd, _, rfl, .inl ⟨SqL.of (w9.get (i := 1) rfl), fun tl htl => ⟨(by show 3 ≤ sizeLine; decide), fun t2 ht2 => ?_⟩⟩⟩
        have w10 := w9.newI htl (.tup (vas.map V.ref))
        have u10 := w9.upI htl (.tup (vas.map V.ref))
        have w11 := w10.newI ht2 (.tup [SS "ask", .ref bp, .ref tl])
        have u11 := w10.upI ht2 (.tup [SS "ask", .ref bp, .ref tl])
        have uu := s9.trans (u10.trans u11)
        refine ⟨_, rfl, _, rfl, ma, ka, t2, _, rfl, rfl, rfl, ⟨l, kn, w11.get (i := 0) rfl, ⟨fun x hx => ((hkt x hx).mono uu).mono w11.hs.sub, hkn.2⟩, (hka.mono uu).mono w11.hs.sub, hnew, hlen, rfl⟩, ?_⟩
        have w12 := w11.set (i := 0) rfl (MadeO P w ma (l ++ [(kn, ka, t2)]))
        have w13 := W.drop (M1 := [] ++ [(ma, MadeO P w ma (l ++ [(kn, ka, t2)]))]) w12 (by simp)
        have htrs := TrsAt.ofP (Paired.mapP hva fun x y z => z.mono (u10.trans u11))
        have htl2 := u11 _ _ (show upd I2 tl (.tup (vas.map V.ref)) tl = some (.tup (vas.map V.ref)) from upd_same)
        refine ⟨_, l ++ [(kn, ka, t2)], _, _, _, _, rfl, w13, s7.trans uu, by rw [List.length_append, List.length_singleton]; omega, fun x hx => ?_, by rw [etake, List.map_append, List.map_append, hlm]; rfl, fun x hx t' ht' => ?_⟩
        · rcases List.mem_append.mp hx with z | z
          · exact (hkt x z).mono uu
          · rw [List.mem_singleton.mp z]; exact hka.mono uu
        · rcases List.mem_append.mp hx with z | z
          · exact (htr x z t' ht').mono uu
          · rw [List.mem_singleton.mp z] at ht' ⊢
            rw [uniq t' ht']
            exact ⟨t2, bp, tl, vas.map V.ref, rfl, upd_same, uu _ _ hbp, htl2, htrs⟩
  · rintro σ H' ⟨I', l, v3, v4, v5, v6, rfl, w7, s7, hlj, hkt, hlm, htr⟩
    have hall : (nodes [] tr).reverse.take us.reverse.length = (nodes [] tr).reverse := List.take_of_length_le (Nat.le_of_eq (Paired.length hfo6))
    rw [hall] at hlm
    obtain ⟨rr, hrr⟩ := nodes_head [] tr
    have hroot : (([] : KnP), tr) ∈ nodes [] tr := by rw [hrr]; exact List.mem_cons_self
    have hin : ([] : KnP) ∈ l.map (·.1) := by
      rw [hlm]
      exact List.mem_map.mpr ⟨_, List.mem_reverse.mpr hroot, rfl⟩
    have hkn : NKeys H' l := ⟨fun x hx => (hkt x hx).mono w7.hs.sub, by rw [hlm]; exact hnd⟩
    cases hlk : look l ([] : KnP) with
    | none => exact absurd hin (look_none.mp hlk)
    | some pr =>
      obtain ⟨ka, va⟩ := pr
      have hml2 := look_mem hlk
      refine ⟨_, rfl, Nat.zero_le _, fun p ob hp hob => ⟨ma, p, va, rfl, rfl, ⟨l, [], ka, ?_, ?_, ⟨ob, [], upd_same, hob, .nil⟩, hlk⟩, ?_⟩⟩
      · exact same_up hp _ _ (w7.get (i := 0) rfl)
      · exact ⟨fun x hx => (hkn.1 x hx).mono (same_up hp), hkn.2⟩
      · have w8 := W.drop (M1 := []) (w7.same (same_up (o := HO.frz ob (.tup [])) hp)) (by simp)
        exact q _ _ _ w8 (htr _ hml2 tr hroot)
end
end KW
set_option Elab.async false
set_option linter.all false
set_option maxRecDepth 100000
/-! S0: terms that never die: kinds, what a value of a kind does, the rules. -/
namespace KW
open PySem L2
inductive Kd where
  | num
  | few (m : Nat)
  | rows (m n : Nat)
  | both (a b : Kd)
  | to (a b : Kd) (n : Nat)
structure Cn where
  most : Nat
  kn : KnP
  sz : List Nat
structure Cn.Ok (C : Cn) : Prop where
  mo : C.most ≤ 30000
  kn : ∀ i k d, look C.kn (i, k) = some d → ∃ m, C.sz[k]? = some m ∧ 0 ≤ d ∧ d < (m : Int)
  sz : ∀ m ∈ C.sz, 2 ≤ m ∧ m ≤ 9
def Ext (g g' : GK) : Prop := ∀ n kv, g n = some kv → g' n = some kv
def Fz (g : GK) (s : S) : Prop := ∀ n, s.marks ≤ n → g n = none
structure Later (most : Nat) (s s' : S) : Prop where
  st : s.steps ≤ s'.steps
  ma : s.marks ≤ s'.marks
  mo : s'.steps ≤ most
def PlOk (C : Cn) (pl : Pl) : Prop := 0 ≤ pl.1 ∧ pl.1 < 4 ∧ pl.2 < C.sz.length ∧ look C.kn pl = none
def GnOk (g : GK) (n : Nat) (i : Int) : Prop := 0 ≤ i ∧ i < 4 ∧ ∃ kv, g n = some kv ∧ look kv i = none
def Good {α : Type} (C : Cn) (g : GK) (s : S) (post : α → Prop) : R α → Prop
  | .ok a s' => post a ∧ Later C.most s s'
  | .st .long _ => True
  | .st (.place pl) s' => PlOk C pl ∧ Later C.most s s'
  | .st (.gone n i) s' => GnOk g n i ∧ Later C.most s s'
  | .die => False
theorem Ext.refl (g : GK) : Ext g g := fun _ _ e => e
theorem Ext.trans {a b c : GK} (h : Ext a b) (g : Ext b c) : Ext a c := fun n kv e => g n kv (h n kv e)
theorem Fz.later {m : Nat} {g : GK} {s s' : S} (h : Fz g s) (l : Later m s s') : Fz g s' := fun n hn => h n (Nat.le_trans l.ma hn)
theorem Later.trans {m : Nat} {a b c : S} (h : Later m a b) (g : Later m b c) : Later m a c := ⟨Nat.le_trans h.st g.st, Nat.le_trans h.ma g.ma, g.mo⟩
theorem Later.refl {m : Nat} {a : S} (h : a.steps ≤ m) : Later m a a := ⟨Nat.le_refl _, Nat.le_refl _, h⟩
section
variable {C : Cn} {g : GK} {s s0 : S}
theorem Good.bind {α β : Type} {p : α → Prop} {q : β → Prop} {r : R α} {f : α → S → R β} (h : Good C g s p r) (k : ∀ a s', p a → Later C.most s s' → Good C g s' q (f a s')) : Good C g s q (r.bind f) := by
  cases r with
  | ok a s' =>
    obtain ⟨h1, h2⟩ := h
    have h3 := k a s' h1 h2
    show Good C g s q (f a s')
    cases hf : f a s' with
    | ok b s2 => rw [hf] at h3; exact ⟨h3.1, h2.trans h3.2⟩
    | st w s2 =>
      rw [hf] at h3
      cases w with
      | long => trivial
      | place pl => exact ⟨h3.1, h2.trans h3.2⟩
      | gone n i => exact ⟨h3.1, h2.trans h3.2⟩
    | die => rw [hf] at h3; exact h3
  | st w s' =>
    cases w with
    | long => trivial
    | place pl => exact h
    | gone n i => exact h
  | die => exact h
theorem Good.imp {α : Type} {p q : α → Prop} {r : R α} (h : Good C g s p r) (k : ∀ a, p a → q a) : Good C g s q r := by
  cases r with
  | ok a s' => exact ⟨k _ h.1, h.2⟩
  | st w s' => cases w <;> exact h
  | die => exact h
theorem Good.lower {α : Type} {p : α → Prop} {r : R α} {s' : S} (h : Good C g s' p r) (l1 : s.steps ≤ s'.steps) (l2 : s.marks ≤ s'.marks) : Good C g s p r := by
  have go : ∀ {x : S}, Later C.most s' x → Later C.most s x := fun y => ⟨Nat.le_trans l1 y.st, Nat.le_trans l2 y.ma, y.mo⟩
  cases r with
  | ok a s' => exact ⟨h.1, go h.2⟩
  | st w s' =>
    cases w with
    | long => trivial
    | place pl => exact ⟨h.1, go h.2⟩
    | gone n i => exact ⟨h.1, go h.2⟩
  | die => exact h
end
/-- a value of a kind -/
def SV (C : Cn) : Kd → GK → Val → Prop
  | .num, _, v => ∃ i, v = .int i ∧ 0 ≤ i ∧ i ≤ TOP
  | .few m, _, v => ∃ i, v = .int i ∧ 0 ≤ i ∧ i < (m : Int)
  | .rows m n, g, v => ∀ g' i s d, Ext g g' → Fz g' s → s.steps ≤ C.most → 0 ≤ i → i < 4 → n ≤ d → Good C g' s (fun u => ∃ i, u = .int i ∧ 0 ≤ i ∧ i < (m : Int)) (readAt (ev C.most C.kn d) C.kn v (.int i) g' s)
  | .both a b, g, v => ∃ x y, v = .pair x y ∧ SV C a g x ∧ SV C b g y
  | .to a b n, g, v => ∀ g' u s d, Ext g g' → Fz g' s → s.steps ≤ C.most → SV C a g' u → n ≤ d → Good C g' s (SV C b g') (appl (ev C.most C.kn d) v u g' s)
section
variable {C : Cn} {g g' : GK} {v : Val}
theorem SV.ext (h : Ext g g') : ∀ {k : Kd} {v : Val}, SV C k g v → SV C k g' v
  | .num, _, x => x
  | .few _, _, x => x
  | .rows _ _, _, x => fun g2 i s d e => x g2 i s d (h.trans e)
  | .both _ _, _, ⟨x, y, e, hx, hy⟩ => ⟨x, y, e, SV.ext h hx, SV.ext h hy⟩
  | .to _ _ _, _, x => fun g2 u s d e => x g2 u s d (h.trans e)
theorem SV.to_le {a b : Kd} {n n' : Nat} (h : SV C (.to a b n) g v) (l : n ≤ n') : SV C (.to a b n') g v := fun g2 u s d e f st hu hd => h g2 u s d e f st hu (Nat.le_trans l hd)
theorem SV.rows_le {m n n' : Nat} (h : SV C (.rows m n) g v) (l : n ≤ n') : SV C (.rows m n') g v := fun g2 u s d e f st h0 h4 hd => h g2 u s d e f st h0 h4 (Nat.le_trans l hd)
theorem SV.few_num {m : Nat} (h : SV C (.few m) g v) (l : m ≤ 10) : SV C .num g v := by
  obtain ⟨i, e, h0, h1⟩ := h
  refine ⟨i, e, h0, ?_⟩
  unfold TOP
  omega
end
abbrev Sc := List (Str × Kd)
def EnvOk (C : Cn) (G : Sc) (g : GK) (e : Nv) : Prop := ∀ x k, (x, k) ∈ G → ∃ v, e.look x = some v ∧ SV C k g v
theorem EnvOk.ext {C : Cn} {G : Sc} {g g' : GK} {e : Nv} (h : Ext g g') (x : EnvOk C G g e) : EnvOk C G g' e := fun y k hy => let ⟨v, e1, e2⟩ := x y k hy; ⟨v, e1, e2.ext h⟩
theorem EnvOk.put {C : Cn} {G : Sc} {g : GK} {e : Nv} {x : Str} {k : Kd} {v : Val} (h : EnvOk C G g e) (hx : x ∉ G.map (·.1)) (hv : SV C k g v) : EnvOk C (G ++ [(x, k)]) g (e.put x v) := by
  intro y k' hy
  rcases List.mem_append.mp hy with z | z
  · obtain ⟨u, e1, e2⟩ := h y k' z
    refine ⟨u, ?_, e2⟩
    show (if x = y then some v else e.look y) = some u
    rw [if_neg, e1]
    intro q
    exact hx (by rw [q]; exact List.mem_map.mpr ⟨_, z, rfl⟩)
  · cases List.mem_singleton.mp z
    exact ⟨v, by show (if x = x then some v else e.look x) = some v; rw [if_pos rfl], hv⟩
theorem EnvOk.sub {C : Cn} {G G' : Sc} {g : GK} {e : Nv} (h : EnvOk C G g e) (hs : ∀ p ∈ G', p ∈ G) : EnvOk C G' g e := fun x k hx => h x k (hs _ hx)
structure Pre (C : Cn) (G : Sc) (g : GK) (e : Nv) (s : S) (D : Nat) : Prop where
  ok : C.Ok
  env : EnvOk C G g e
  len : e.len + D ≤ 100
  fr : Fz g s
  st : s.steps ≤ C.most
theorem Pre.later {C : Cn} {G : Sc} {g : GK} {e : Nv} {s s' : S} {D : Nat} (p : Pre C G g e s D) (l : Later C.most s s') : Pre C G g e s' D := ⟨p.ok, p.env, p.len, p.fr.later l, l.mo⟩
theorem Pre.less {C : Cn} {G : Sc} {g : GK} {e : Nv} {s : S} {D D' : Nat} (p : Pre C G g e s D) (l : D' ≤ D) : Pre C G g e s D' := ⟨p.ok, p.env, by have := p.len; omega, p.fr, p.st⟩
/-- a term of a kind that never dies, from a level of its own on -/
def Safe (D : Nat) (G : Sc) (k : Kd) (t : Tm) : Prop := ∀ (C : Cn) (g : GK) (e : Nv) (s : S) (d : Nat), Pre C G g e s D → D ≤ d → Good C g ⟨s.steps + 1, s.marks⟩ (SV C k g) (ev C.most C.kn d t e g s)
section
variable {D D' : Nat} {G G' : Sc} {k a b : Kd} {t t1 t2 t3 : Tm} {x : Str} {m n : Nat}
theorem Safe.up (h : Safe D G k t) (l : D ≤ D') : Safe D' G k t := fun C g e s d p hd => h C g e s d (p.less l) (Nat.le_trans l hd)
theorem Safe.weak (h : Safe D G k t) (hs : ∀ p ∈ G, p ∈ G') : Safe D G' k t := fun C g e s d p hd => h C g e s d ⟨p.ok, p.env.sub hs, p.len, p.fr, p.st⟩ hd
theorem Safe.kind (h : Safe D G k t) (hk : ∀ C g v, SV C k g v → SV C a g v) : Safe D G a t := fun C g e s d p hd => (h C g e s d p hd).imp (hk C g)
theorem Safe.num (h : Safe D G (.few m) t) (l : m ≤ 10) : Safe D G .num t := h.kind fun _ _ _ z => z.few_num l
/-- by the body -/
theorem Safe.mk (h : ∀ (C : Cn) (g : GK) (e : Nv) (s : S) (d : Nat), Pre C G g e s (D + 1) → D ≤ d → Good C g s (SV C k g) (body C.kn (ev C.most C.kn d) t e g s)) : Safe (D + 1) G k t := by
  intro C g e s d p hd
  obtain ⟨d, rfl⟩ : ∃ d', d = d' + 1 := ⟨d - 1, by omega⟩
  unfold ev
  by_cases hm : C.most < s.steps + 1
  · rw [if_pos hm]
    trivial
  · rw [if_neg hm]
    exact h C g e ⟨s.steps + 1, s.marks⟩ d ⟨p.ok, p.env, p.len, p.fr, by show s.steps + 1 ≤ C.most; omega⟩ (by omega)
theorem Safe.run (h : Safe D G k t) {C : Cn} {g : GK} {e : Nv} {s : S} {d : Nat} {D2 : Nat} (p : Pre C G g e s D2) (l : D ≤ D2) (hd : D ≤ d) : Good C g s (SV C k g) (ev C.most C.kn d t e g s) :=
  (h C g e s d (p.less l) hd).lower (Nat.le_succ _) (Nat.le_refl _)
theorem Safe.var (h : (x, k) ∈ G) : Safe 1 G k (.var x) := Safe.mk fun C g e s d p _ => by
  obtain ⟨v, e1, e2⟩ := p.env x k h
  show Good C g s _ (outV s (e.look x))
  rw [e1]
  exact ⟨e2, .refl p.st⟩
theorem Safe.lit {i : Int} (h0 : 0 ≤ i) (h : i < (m : Int)) : Safe 1 G (.few m) (.lit i) := Safe.mk fun C g e s d p _ => ⟨⟨i, rfl, h0, h⟩, .refl p.st⟩
theorem Safe.prim2 {op : Str} (ha : Safe D G .num t1) (hb : Safe D G .num t2) (hp : ∀ i j : Int, 0 ≤ i → i ≤ TOP → 0 ≤ j → j ≤ TOP → ∃ z, prim op i j = some z ∧ ∀ C g, SV C k g (.int z)) : Safe (D + 1) G k (.prim op t1 t2) := Safe.mk fun C g e s d p hd => by
  refine (ha.run p (by omega) hd).bind fun v s1 ⟨i, e1, h0, h1⟩ l1 => ((hb.run (p.later l1) (by omega) hd)).bind fun u s2 ⟨j, e2, h2, h3⟩ l2 => ?_
  subst e1
  subst e2
  obtain ⟨z, hz, hk⟩ := hp i j h0 h1 h2 h3
  show Good C g s2 _ (outV s2 ((prim op i j).map Val.int))
  rw [hz]
  exact ⟨hk _ _, .refl l2.mo⟩
theorem Safe.as (ha : Safe D G .num t) (hm : 1 ≤ m) : Safe (D + 1) G (.few m) (.as (m : Int) t) := Safe.mk fun C g e s d p hd => by
  refine (ha.run p (by omega) hd).bind fun v s1 ⟨i, e1, h0, h1⟩ l1 => ?_
  subst e1
  show Good C g s1 _ (outV s1 (if 0 ≤ i ∧ 0 < (m : Int) then some (.int (i % m)) else none))
  rw [if_pos ⟨h0, by omega⟩]
  exact ⟨⟨_, rfl, Int.emod_nonneg _ (by omega), Int.emod_lt_of_pos _ (by omega)⟩, .refl l1.mo⟩
theorem Safe.count (ha : Safe D G (.few m) t) (hm : m ≤ 10) : Safe (D + 1) G .num (.count t) := Safe.mk fun C g e s d p hd => by
  refine (ha.run p (by omega) hd).bind fun v s1 hv l1 => ?_
  obtain ⟨i, e1, h0, h1⟩ := hv.few_num hm
  subst e1
  exact ⟨⟨i, rfl, h0, h1⟩, .refl l1.mo⟩
theorem Safe.ite (hc : Safe D G (.few 2) t) (ha : Safe D G k t1) (hb : Safe D G k t2) : Safe (D + 1) G k (.ite t t1 t2) := Safe.mk fun C g e s d p hd => by
  refine (hc.run p (by omega) hd).bind fun v s1 ⟨i, e1, h0, h1⟩ l1 => ?_
  subst e1
  show Good C g s1 _ (if i = 1 then _ else _)
  split
  · exact ha.run (p.later l1) (by omega) hd
  · exact hb.run (p.later l1) (by omega) hd
theorem len_put {e : Nv} {x : Str} {v : Val} : (e.put x v).len = e.len + 1 := rfl
/-- the body of what is made, at an argument -/
theorem Safe.at (hb : Safe D (G ++ [(x, a)]) b t) (hx : x ∉ G.map (·.1)) {C : Cn} {g g' : GK} {e : Nv} {s0 s : S} (p : Pre C G g e s0 (D + 1)) (he : Ext g g') (hf : Fz g' s) (hs : s.steps ≤ C.most) {v : Val} (hv : SV C a g' v) {d : Nat} (hd : D ≤ d) :
    Good C g' s (SV C b g') (ev C.most C.kn d t (e.put x v) g' s) := by
  have hl := p.len
  exact hb.run (D2 := D) ⟨p.ok, (p.env.ext he).put hx hv, by rw [len_put]; omega, hf, hs⟩ (Nat.le_refl _) hd
theorem Safe.fn (hb : Safe D (G ++ [(x, a)]) b t) (hx : x ∉ G.map (·.1)) : Safe (D + 1) G (.to a b D) (.fn x t) := Safe.mk fun C g e s d p hd => by
  refine ⟨fun g' u s' d' he hf hs hu hd' => ?_, .refl p.st⟩
  have hl := p.len
  show Good C g' s' _ (if e.len < 1000 then _ else _)
  rw [if_pos (by omega)]
  exact hb.at hx p he hf hs hu hd'
theorem Safe.row (hb : Safe D (G ++ [(x, .num)]) (.few m) t) (hx : x ∉ G.map (·.1)) : Safe (D + 1) G (.rows m D) (.row x t) := Safe.mk fun C g e s d p hd => by
  refine ⟨fun g' i s' d' he hf hs h0 h4 hd' => ?_, .refl p.st⟩
  have hl := p.len
  show Good C g' s' _ (if e.len < 1000 then _ else _)
  rw [if_pos (by omega)]
  exact hb.at hx p he hf hs (show SV C .num g' (.int i) from ⟨i, rfl, h0, by unfold TOP; omega⟩) hd'
theorem Safe.call (hf : Safe D G (.to a b n) t1) (ha : Safe D G a t2) (hn : n ≤ D) : Safe (D + 1) G b (.call t1 t2) := Safe.mk fun C g e s d p hd => by
  refine (hf.run p (by omega) hd).bind fun v s1 hv l1 => (ha.run (p.later l1) (by omega) hd).bind fun u s2 hu l2 => ?_
  exact hv g u s2 d (.refl _) ((p.fr.later l1).later l2) l2.mo hu (Nat.le_trans hn hd)
theorem Safe.pair (ha : Safe D G a t1) (hb : Safe D G b t2) : Safe (D + 1) G (.both a b) (.pair t1 t2) := Safe.mk fun C g e s d p hd => by
  refine (ha.run p (by omega) hd).bind fun v s1 hv l1 => (hb.run (p.later l1) (by omega) hd).bind fun u s2 hu l2 => ?_
  exact ⟨⟨v, u, rfl, hv, hu⟩, .refl l2.mo⟩
theorem Safe.fst (ha : Safe D G (.both a b) t) : Safe (D + 1) G a (.fst t) := Safe.mk fun C g e s d p hd => by
  refine (ha.run p (by omega) hd).bind fun v s1 ⟨x, y, e1, hx, hy⟩ l1 => ?_
  subst e1
  exact ⟨hx, .refl l1.mo⟩
theorem Safe.snd (ha : Safe D G (.both a b) t) : Safe (D + 1) G b (.snd t) := Safe.mk fun C g e s d p hd => by
  refine (ha.run p (by omega) hd).bind fun v s1 ⟨x, y, e1, hx, hy⟩ l1 => ?_
  subst e1
  exact ⟨hy, .refl l1.mo⟩
theorem good_reps {F : Nat → Kd} {C : Cn} {g : GK} {f : Val} {d c0 : Nat} (hf : ∀ j, j < c0 → SV C (.to (F j) (F (j + 1)) n) g f) (hn : n ≤ d) : ∀ (c j : Nat) (v : Val) (s : S), j + c = c0 → Fz g s → s.steps ≤ C.most → SV C (F j) g v → Good C g s (SV C (F (j + c)) g) (reps (ev C.most C.kn d) f g c v s)
  | 0, j, v, s, _, _, hs, hv => ⟨hv, .refl hs⟩
  | c + 1, j, v, s, hj, hfr, hs, hv => by
    unfold reps
    refine (hf j (by omega) g v s d (.refl _) hfr hs hv hn).bind fun u s1 hu l1 => ?_
    have := good_reps hf hn c (j + 1) u s1 (by omega) (hfr.later l1) l1.mo hu
    rw [show j + (c + 1) = j + 1 + c by omega]
    exact this
/-- a repeat of a written number -/
theorem Safe.rep {F : Nat → Kd} {c : Nat} {k0 : Kd} (hc : c ≤ 60) (hD : 1 ≤ D) (h0 : Safe D G k0 t1) (hf : ∀ j, j < c → Safe D G (.to (F j) (F (j + 1)) n) t1) (ha : Safe D G (F 0) t2) (hn : n ≤ D) : Safe (D + 1) G (F c) (.rep (.lit (c : Int)) t1 t2) := Safe.mk fun C g e s d p hd => by
  have hlit : Safe 1 G (.few (c + 1)) (.lit (c : Int)) := Safe.lit (by omega) (by omega)
  obtain ⟨d', rfl⟩ : ∃ d', d = d' + 1 := ⟨d - 1, by omega⟩
  have hg := hlit.run p (by omega) (by omega : 1 ≤ d' + 1)
  show Good C g s _ ((ev C.most C.kn (d' + 1) (.lit (c : Int)) e g s).bind _)
  have hev : ev C.most C.kn (d' + 1) (.lit (c : Int)) e g s = if C.most < s.steps + 1 then .st .long ⟨s.steps + 1, s.marks⟩ else .ok (.int (c : Int)) ⟨s.steps + 1, s.marks⟩ := rfl
  rw [hev] at hg ⊢
  by_cases hm : C.most < s.steps + 1
  · rw [if_pos hm]; trivial
  rw [if_neg hm] at hg ⊢
  have l0 : Later C.most s ⟨s.steps + 1, s.marks⟩ := hg.2
  refine Good.lower (s' := ⟨s.steps + 1, s.marks⟩) ?_ (Nat.le_succ _) (Nat.le_refl _)
  show Good C g _ _ ((ev C.most C.kn (d' + 1) t1 e g ⟨s.steps + 1, s.marks⟩).bind _)
  have p1 := p.later l0
  have hall : Good C g ⟨s.steps + 1, s.marks⟩ (fun v => ∀ j, j < c → SV C (.to (F j) (F (j + 1)) n) g v) (ev C.most C.kn (d' + 1) t1 e g ⟨s.steps + 1, s.marks⟩) := by
    have h := fun j hj => (hf j hj).run p1 (by omega) hd
    have hz := h0.run p1 (by omega) hd
    cases he : ev C.most C.kn (d' + 1) t1 e g ⟨s.steps + 1, s.marks⟩ with
    | ok v s2 => rw [he] at h hz; exact ⟨fun j hj => (h j hj).1, hz.2⟩
    | st w s2 => rw [he] at hz; cases w <;> exact hz
    | die => rw [he] at hz; exact hz
  refine hall.bind fun v s1 hv l1 => ?_
  show Good C g s1 _ (if 0 ≤ (c : Int) then _ else _)
  rw [if_pos (by omega)]
  refine (ha.run (p1.later l1) (by omega) hd).bind fun u s2 hu l2 => ?_
  have ec : (if (c : Int) ≤ 60 then (c : Int) else 60).toNat = c := by rw [if_pos (by omega)]; omega
  rw [ec]
  have := good_reps (n := n) (F := F) (c0 := c) hv (Nat.le_trans hn hd) c 0 u s2 (Nat.zero_add _) ((p1.fr.later l1).later l2) l2.mo hu
  rw [Nat.zero_add] at this
  exact this
theorem Safe.idx (hr : Safe D G (.rows m n) t1) (hi : Safe D G (.few 4) t2) (hn : n ≤ D) : Safe (D + 1) G (.few m) (.idx t1 t2) := Safe.mk fun C g e s d p hd => by
  refine (hr.run p (by omega) hd).bind fun v s1 hv l1 => (hi.run (p.later l1) (by omega) hd).bind fun u s2 ⟨i, e2, h0, h4⟩ l2 => ?_
  subst e2
  exact hv g i s2 d (.refl _) ((p.fr.later l1).later l2) l2.mo h0 h4 (Nat.le_trans hn hd)
end

/-! ### rows that are known in part -/
def KvOk (m : Nat) (kv : Kn) : Prop := (kv.map (·.1)).Nodup ∧ ∀ p ∈ kv, (0 ≤ p.1 ∧ p.1 < 4) ∧ 0 ≤ p.2 ∧ p.2 < (m : Int)
theorem look_in {κ α : Type} [DecidableEq κ] {l : List (κ × α)} {k : κ} {v : α} (h : look l k = some v) : (k, v) ∈ l := by
  unfold look at h
  obtain ⟨p, hp, rfl⟩ := Option.map_eq_some_iff.mp h
  have h1 := List.find?_some hp
  have h2 := List.mem_of_find?_eq_some hp
  have h3 : p.1 = k := of_decide_eq_true h1
  rw [← h3]
  exact h2
theorem look_notin {κ α : Type} [DecidableEq κ] {l : List (κ × α)} {k : κ} (h : look l k = none) : k ∉ l.map (·.1) := by
  unfold look at h
  rw [Option.map_eq_none_iff, List.find?_eq_none] at h
  intro z
  obtain ⟨q, hq, e⟩ := List.mem_map.mp z
  exact h q hq (decide_eq_true e)
theorem KvOk.nil (m : Nat) : KvOk m [] := ⟨List.nodup_nil, fun _ h => by cases h⟩
theorem KvOk.snoc {m : Nat} {kv : Kn} {i d : Int} (h : KvOk m kv) (h0 : 0 ≤ i) (h4 : i < 4) (hl : look kv i = none) (d0 : 0 ≤ d) (d1 : d < (m : Int)) : KvOk m (kv ++ [(i, d)]) := by
  have hn := look_notin hl
  refine ⟨?_, fun q hq => ?_⟩
  · rw [List.map_append]
    exact List.nodup_append.mpr ⟨h.1, by simp, fun a ha b hb e => hn (by rw [show i = a by rw [e]; exact (List.mem_singleton.mp hb).symm]; exact ha)⟩
  · rcases List.mem_append.mp hq with z | z
    · exact h.2 q z
    · rw [List.mem_singleton.mp z]; exact ⟨⟨h0, h4⟩, d0, d1⟩
theorem KvOk.len {m : Nat} {kv : Kn} (h : KvOk m kv) : kv.length ≤ 8 := by
  have hs : ∀ i ∈ kv.map (·.1), i ∈ ([0, 1, 2, 3] : List Int) := fun i hi => by
    obtain ⟨q, hq, rfl⟩ := List.mem_map.mp hi
    have := (h.2 q hq).1
    have : q.1 = 0 ∨ q.1 = 1 ∨ q.1 = 2 ∨ q.1 = 3 := by omega
    simpa using this
  have := h.1.length_le_of_subset hs
  rw [List.length_map] at this
  exact Nat.le_trans this (by decide)
theorem KvOk.dig {m : Nat} {kv : Kn} (h : KvOk m kv) (hm : 1 ≤ m) (i : Int) : 0 ≤ (look kv i).getD 0 ∧ (look kv i).getD 0 < (m : Int) := by
  cases e : look kv i with
  | none => exact ⟨Int.le_refl _, by show (0 : Int) < m; omega⟩
  | some d => exact (h.2 _ (look_in e)).2
section
variable {C : Cn} {g : GK} {m : Nat}
theorem sv_found {kv : Kn} (h : KvOk m kv) (hm : 1 ≤ m) : SV C (.rows m 0) g (.found kv) := fun g' i s d _ _ hs _ _ _ => ⟨⟨_, rfl, h.dig hm i⟩, .refl hs⟩
theorem sv_gone {n : Nat} {kv : Kn} (hg : g n = some kv) (h : KvOk m kv) : SV C (.rows m 0) g (.gone n) := fun g' i s d he _ hs h0 h4 _ => by
  have e : g' n = some kv := he _ _ hg
  show Good C g' s _ (if 0 ≤ i ∧ i < 4 then _ else _)
  rw [if_pos ⟨h0, h4⟩, e]
  dsimp only
  cases hl : look kv i with
  | none => exact ⟨⟨h0, h4, kv, e, hl⟩, .refl hs⟩
  | some d => exact ⟨⟨d, rfl, (h.2 _ (look_in hl)).2⟩, .refl hs⟩
theorem sv_given (ok : C.Ok) {k : Nat} (hk : C.sz[k]? = some m) : SV C (.rows m 0) g (.given k) := fun g' i s d he _ hs h0 h4 _ => by
  show Good C g' s _ (if 0 ≤ i ∧ i < 4 then _ else _)
  rw [if_pos ⟨h0, h4⟩]
  cases hl : look C.kn (i, k) with
  | none => exact ⟨⟨h0, h4, (List.getElem?_eq_some_iff.mp hk).1, hl⟩, .refl hs⟩
  | some d =>
    obtain ⟨m', h1, h2⟩ := ok.kn i k d hl
    rw [hk] at h1
    cases h1
    exact ⟨⟨d, rfl, h2⟩, .refl hs⟩
end

/-! ### quantifiers -/
def EndOk (m : Nat) (P : Int → Prop) (e : Kn × Int) : Prop := KvOk m e.1 ∧ P e.2
theorem heirs_ok {m : Nat} {kv : Kn} {i : Int} (h : KvOk m kv) (h0 : 0 ≤ i) (h4 : i < 4) (hl : look kv i = none) : ∀ k ∈ heirs m kv i, KvOk m k := fun k hk => by
  obtain ⟨d, hd, rfl⟩ := List.mem_map.mp hk
  exact h.snoc h0 h4 hl (by omega) (by have := List.mem_range.mp hd; omega)
theorem fz_put {g : GK} {s s' : S} {kv : Kn} (h : Fz g s) (l : s.marks < s'.marks) : Fz (g.put s.marks kv) s' := fun n hn => by
  show (if n = s.marks then some kv else g n) = none
  rw [if_neg (by omega)]
  exact h n (by omega)
theorem ext_put {g : GK} {s : S} {kv : Kn} (h : Fz g s) : Ext g (g.put s.marks kv) := fun n k e => by
  show (if n = s.marks then some kv else g n) = some k
  rw [if_neg]
  · exact e
  · intro z
    rw [h n (by omega)] at e
    cases e
theorem put_same {g : GK} {n : Nat} {kv : Kn} : (g.put n kv) n = some kv := if_pos rfl
theorem good_loop {C : Cn} {g : GK} {num m : Nat} {P : Int → Prop} {run : Kn → S → R Val} (hm : 1 ≤ m)
    (hrun : ∀ kv s, KvOk m kv → num < s.marks → s.steps ≤ C.most → Good C (g.put num kv) ⟨s.steps + 1, s.marks⟩ (fun v => ∃ i, v = .int i ∧ P i) (run kv s)) :
    ∀ (f : Nat) (ps : List Kn) (ends : List (Kn × Int)) (s : S), C.most + 2 ≤ f + s.steps → s.steps ≤ C.most → num < s.marks → (∀ p ∈ ps, KvOk m p) → (∀ e ∈ ends, EndOk m P e) → (ps ≠ [] ∨ ends ≠ []) →
      Good C g s (fun es => es ≠ [] ∧ ∀ e ∈ es, EndOk m P e) (loop run num m f ps ends s)
  | 0, _, _, s, hf, hs, _, _, _, _ => by omega
  | f + 1, [], ends, s, hf, hs, hk, hp, he, hn => ⟨⟨hn.resolve_left fun z => z rfl, he⟩, .refl hs⟩
  | f + 1, k :: ps, ends, s, hf, hs, hk, hp, he, hn => by
    unfold loop
    have h := hrun k s (hp k List.mem_cons_self) hk hs
    cases hr : run k s with
    | ok v s' =>
      rw [hr] at h
      obtain ⟨⟨i, rfl, hi⟩, l⟩ := h
      have l1 : s.steps + 1 ≤ s'.steps := l.st
      have l2 : s.marks ≤ s'.marks := l.ma
      refine Good.lower (s' := s') (good_loop hm hrun f ps _ s' (by omega) l.mo (Nat.lt_of_lt_of_le hk l2) (fun p z => hp p (List.mem_cons_of_mem _ z)) (fun e z => ?_) (.inr (by simp))) (by omega) l2
      rcases List.mem_append.mp z with z | z
      · exact he e z
      · rw [List.mem_singleton.mp z]; exact ⟨hp k List.mem_cons_self, hi⟩
    | st w s' =>
      rw [hr] at h
      cases w with
      | long => trivial
      | place pl =>
        obtain ⟨h1, l⟩ := h
        exact ⟨h1, ⟨Nat.le_of_succ_le l.st, l.ma, l.mo⟩⟩
      | gone n i =>
        obtain ⟨⟨h0, h4, kv, hkv, hl⟩, l⟩ := h
        have l1 : s.steps + 1 ≤ s'.steps := l.st
        have l2 : s.marks ≤ s'.marks := l.ma
        dsimp only
        by_cases e : n = num
        · rw [if_pos e]
          subst e
          have ekv : k = kv := by
            rw [put_same] at hkv
            exact Option.some.inj hkv
          subst ekv
          rw [hl]
          refine Good.lower (s' := s') (good_loop hm hrun f _ _ s' (by omega) l.mo (Nat.lt_of_lt_of_le hk l2) (fun p z => ?_) he (.inl ?_)) (by omega) l2
          · rcases List.mem_append.mp z with z | z
            · exact heirs_ok (hp k List.mem_cons_self) h0 h4 hl p z
            · exact hp p (List.mem_cons_of_mem _ z)
          · intro z
            have : (heirs m k i ++ ps).length = 0 := by rw [z]; rfl
            rw [List.length_append] at this
            unfold heirs at this
            rw [List.length_map, List.length_range] at this
            omega
        · rw [if_neg e]
          refine ⟨⟨h0, h4, kv, ?_, hl⟩, ⟨Nat.le_of_succ_le l.st, l2, l.mo⟩⟩
          have hkv : (if n = num then some k else g n) = some kv := hkv
          rw [if_neg e] at hkv
          exact hkv
    | die => rw [hr] at h; exact h
section
variable {D : Nat} {G : Sc} {t t2 : Tm} {x : Str} {m : Nat}
theorem good_inner {k : Kd} {P : Int → Prop} (hP : ∀ C g v, SV C k g v → ∃ i, v = .int i ∧ P i) (hb : Safe D (G ++ [(x, .rows m 0)]) k t) (hx : x ∉ G.map (·.1)) (h2 : 2 ≤ m) (h9 : m ≤ 9) {C : Cn} {g : GK} {e : Nv} {s : S} {d : Nat} (p : Pre C G g e s (D + 1)) (hd : D ≤ d) :
    Good C g s (fun es => es ≠ [] ∧ ∀ e ∈ es, EndOk m P e) (inner (ev C.most C.kn d) x m t e g s) := by
  have hl := p.len
  unfold inner
  rw [if_pos ⟨by omega, h2, h9⟩]
  refine Good.lower (s' := ⟨s.steps, s.marks + 1⟩) (good_loop (by omega) (fun kv s1 hkv hk hs => ?_) _ _ _ _ ?_ p.st (Nat.lt_succ_self _) (fun q hq => ?_) (fun _ z => by cases z) (.inl (by simp))) (Nat.le_refl _) (Nat.le_succ _)
  · have p1 : Pre C (G ++ [(x, .rows m 0)]) (g.put s.marks kv) (e.put x (.gone s.marks)) s1 D := ⟨p.ok, (p.env.ext (ext_put p.fr)).put hx (sv_gone put_same hkv), by rw [len_put]; omega, fz_put p.fr hk, hs⟩
    exact (hb C _ _ s1 d p1 hd).imp fun v hv => hP _ _ v hv
  · have := p.ok.mo
    show C.most + 2 ≤ 40000 + s.steps
    omega
  · rw [List.mem_singleton.mp hq]
    exact KvOk.nil m
theorem vals_ne {ends : List (Kn × Int)} (h : ends ≠ []) : vals ends ≠ [] := fun z => h (List.map_eq_nil_iff.mp z)
theorem vals_ok {m : Nat} {P : Int → Prop} {ends : List (Kn × Int)} (h : ∀ e ∈ ends, EndOk m P e) {i : Int} (hi : i ∈ vals ends) : P i := by
  obtain ⟨e, he, rfl⟩ := List.mem_map.mp hi
  exact (h e he).2
theorem bits_ok {m : Nat} {ends : List (Kn × Int)} (h : ∀ e ∈ ends, EndOk m (fun i => 0 ≤ i ∧ i < 2) e) : bits ends = true := by
  unfold bits
  rw [List.all_eq_true]
  intro e he
  have := (h e he).2
  have : e.2 = 0 ∨ e.2 = 1 := by omega
  rcases this with z | z <;> simp [z]
theorem pair_few {C : Cn} {g : GK} {v : Val} (h : SV C (.few 2) g v) : ∃ i, v = .int i ∧ (0 ≤ i ∧ i < 2) := by
  obtain ⟨i, e, h0, h1⟩ := h
  exact ⟨i, e, h0, h1⟩
theorem Safe.qbit {w : Str} (hw : w = "some" ∨ w = "every") (hb : Safe D (G ++ [(x, .rows m 0)]) (.few 2) t) (hx : x ∉ G.map (·.1)) (h2 : 2 ≤ m) (h9 : m ≤ 9) : Safe (D + 1) G (.few 2) (.qu w x m t) := Safe.mk fun C g e s d p hd => by
  have hsh : w ≠ "share" := by rcases hw with z | z <;> subst z <;> decide +kernel
  show Good C g s _ (if w = "share" then _ else _)
  rw [if_neg hsh]
  refine (good_inner (fun _ _ _ => pair_few) hb hx h2 h9 p hd).bind fun ends s1 ⟨hne, hok⟩ l1 => ?_
  have hb := bits_ok hok
  rcases hw with z | z
  · subst z
    show Good C g s1 _ (outV s1 (if ends = [] then _ else _))
    rw [if_neg hne, if_pos rfl, if_pos hb]
    exact ⟨⟨_, rfl, vals_ok hok (maxL_mem (vals_ne hne))⟩, .refl l1.mo⟩
  · subst z
    show Good C g s1 _ (outV s1 (if ends = [] then _ else _))
    rw [if_neg hne, if_neg (by decide +kernel), if_pos rfl, if_pos hb]
    exact ⟨⟨_, rfl, vals_ok hok (minL_mem (vals_ne hne))⟩, .refl l1.mo⟩
theorem Safe.qnum {w : Str} (hw : w = "least" ∨ w = "greatest") (hb : Safe D (G ++ [(x, .rows m 0)]) .num t) (hx : x ∉ G.map (·.1)) (h2 : 2 ≤ m) (h9 : m ≤ 9) : Safe (D + 1) G .num (.qu w x m t) := Safe.mk fun C g e s d p hd => by
  have hsh : w ≠ "share" := by rcases hw with z | z <;> subst z <;> decide +kernel
  show Good C g s _ (if w = "share" then _ else _)
  rw [if_neg hsh]
  refine (good_inner (k := .num) (P := fun i => 0 ≤ i ∧ i ≤ TOP) (fun _ _ _ z => z) hb hx h2 h9 p hd).bind fun ends s1 ⟨hne, hok⟩ l1 => ?_
  rcases hw with z | z
  · subst z
    show Good C g s1 _ (outV s1 (if ends = [] then _ else _))
    rw [if_neg hne, if_neg (by decide +kernel), if_neg (by decide +kernel), if_pos rfl]
    exact ⟨⟨_, rfl, vals_ok hok (minL_mem (vals_ne hne))⟩, .refl l1.mo⟩
  · subst z
    show Good C g s1 _ (outV s1 (if ends = [] then _ else _))
    rw [if_neg hne, if_neg (by decide +kernel), if_neg (by decide +kernel), if_neg (by decide +kernel), if_pos rfl]
    exact ⟨⟨_, rfl, vals_ok hok (maxL_mem (vals_ne hne))⟩, .refl l1.mo⟩
theorem least_ok {m : Nat} : ∀ (rs : List Kn) (r : Kn), KvOk m r → (∀ k ∈ rs, KvOk m k) → KvOk m (rs.foldl lower r)
  | [], r, h, _ => h
  | k :: rs, r, h, hk => least_ok rs (lower r k) (by
      unfold lower
      split
      · exact hk k List.mem_cons_self
      · exact h) fun z hz => hk z (List.mem_cons_of_mem _ hz)
theorem Safe.qfind (hb : Safe D (G ++ [(x, .rows m 0)]) (.few 2) t) (hx : x ∉ G.map (·.1)) (h2 : 2 ≤ m) (h9 : m ≤ 9) : Safe (D + 1) G (.rows m 0) (.qu "find" x m t) := Safe.mk fun C g e s d p hd => by
  have hsh : ("find" : Str) ≠ "share" := by decide +kernel
  show Good C g s _ (if ("find" : Str) = "share" then R.die else (inner (ev C.most C.kn d) x m t e g s).bind fun ends s => outV s (fin "find" ends))
  rw [if_neg hsh]
  refine (good_inner (fun _ _ _ => pair_few) hb hx h2 h9 p hd).bind fun ends s1 ⟨hne, hok⟩ l1 => ?_
  show Good C g s1 _ (outV s1 (if ends = [] then _ else _))
  rw [if_neg hne, if_neg (by decide +kernel), if_neg (by decide +kernel), if_neg (by decide +kernel), if_neg (by decide +kernel), if_pos rfl]
  refine ⟨sv_found ?_ (by omega), .refl l1.mo⟩
  have ho : ∀ k ∈ ones ends, KvOk m k := fun k hk => by
    obtain ⟨e, he, rfl⟩ := List.mem_map.mp hk
    exact (hok e (List.mem_filter.mp he).1).1
  unfold leastRow
  split
  · exact KvOk.nil m
  · rename_i r rs hr
    rw [hr] at ho
    exact least_ok rs r (ho r List.mem_cons_self) fun z hz => ho z (List.mem_cons_of_mem _ hz)
theorem Safe.share {n : Int} (hn : Safe D G (.few 10) t2) (hb : Safe D (G ++ [(x, .rows m 0)]) (.few 2) t) (hx : x ∉ G.map (·.1)) (h2 : 2 ≤ m) (h9 : m ≤ 9) : Safe (D + 1) G .num (.share x m t t2) := Safe.mk fun C g e s d p hd => by
  refine (hn.run p (by omega) hd).bind fun v s0 ⟨i, e0, h0, h1⟩ l0 => (good_inner (fun _ _ _ => pair_few) hb hx h2 h9 (p.later l0) hd).bind fun ends s1 ⟨hne, hok⟩ l1 => ?_
  subst e0
  have hsh : short ends = true := by
    unfold short
    rw [List.all_eq_true]
    exact fun e he => decide_eq_true (hok e he).1.len
  show Good C g s1 _ (outV s1 (if ends ≠ [] ∧ short ends = true ∧ 0 ≤ i ∧ i ≤ 1000 then _ else _))
  have h1 : i < 10 := h1
  rw [if_pos ⟨hne, hsh, h0, by omega⟩]
  have hp : 0 ≤ (partsL m ends).sum := by
    have : ∀ l : List Int, (∀ z ∈ l, 0 ≤ z) → 0 ≤ l.sum := fun l => by
      induction l with
      | nil => intro _; exact Int.le_refl _
      | cons a l ih =>
        intro h
        rw [List.sum_cons]
        have := h a List.mem_cons_self
        have := ih fun z hz => h z (List.mem_cons_of_mem _ hz)
        omega
    refine this _ fun z hz => ?_
    obtain ⟨k, hk, rfl⟩ := List.mem_map.mp hz
    exact Int.natCast_nonneg _
  refine ⟨⟨_, rfl, ?_⟩, .refl l1.mo⟩
  have hq : 0 ≤ i * (partsL m ends).sum / ((m ^ deep ends : Nat) : Int) := Int.ediv_nonneg (Int.mul_nonneg h0 hp) (Int.natCast_nonneg _)
  split
  · exact ⟨hq, by assumption⟩
  · unfold TOP; omega
end
/-! ### the prims -/
section
variable {D : Nat} {G : Sc} {t1 t2 : Tm}
theorem prim_num {op : Str} (h : op = "add" ∨ op = "less" ∨ op = "times" ∨ op = "over" ∨ op = "rest") : ∀ i j : Int, 0 ≤ i → i ≤ TOP → 0 ≤ j → j ≤ TOP → ∃ z, prim op i j = some z ∧ ∀ C g, SV C .num g (.int z) := by
  intro i j h0 h1 h2 h3
  have ht : (0 : Int) ≤ TOP := by decide
  have go : ∀ z : Int, 0 ≤ z → z ≤ TOP → ∀ C g, SV C .num g (.int z) := fun z a b C g => ⟨z, rfl, a, b⟩
  unfold prim
  rw [if_pos ⟨h0, h1, h2, h3⟩]
  rcases h with e | e | e | e | e <;> subst e
  · refine ⟨_, by rw [if_pos rfl], go _ ?_ ?_⟩ <;> split <;> omega
  · refine ⟨_, by rw [if_neg (by decide +kernel), if_neg (by decide +kernel), if_pos rfl], go _ ?_ ?_⟩ <;> split <;> omega
  · refine ⟨_, by rw [if_neg (by decide +kernel), if_pos rfl], go _ ?_ ?_⟩
    · have := Int.mul_nonneg h0 h2
      split <;> omega
    · split <;> omega
  · refine ⟨_, by rw [if_neg (by decide +kernel), if_neg (by decide +kernel), if_neg (by decide +kernel), if_pos rfl], go _ ?_ ?_⟩
    · have := Int.ediv_nonneg h0 h2
      split <;> omega
    · have := Int.ediv_le_self j h0
      split <;> omega
  · refine ⟨_, by rw [if_neg (by decide +kernel), if_neg (by decide +kernel), if_neg (by decide +kernel), if_neg (by decide +kernel), if_pos rfl], go _ ?_ ?_⟩
    · split
      · omega
      · exact Int.emod_nonneg _ (by assumption)
    · split
      · omega
      · have := Int.emod_lt_of_pos i (show 0 < j by omega)
        omega
theorem prim_bit {op : Str} (h : op = "below" ∨ op = "same") : ∀ i j : Int, 0 ≤ i → i ≤ TOP → 0 ≤ j → j ≤ TOP → ∃ z, prim op i j = some z ∧ ∀ C g, SV C (.few 2) g (.int z) := by
  intro i j h0 h1 h2 h3
  have go : ∀ z : Int, 0 ≤ z → z < 2 → ∀ C g, SV C (.few 2) g (.int z) := fun z a b C g => ⟨z, rfl, a, b⟩
  unfold prim
  rw [if_pos ⟨h0, h1, h2, h3⟩]
  rcases h with e | e <;> subst e
  · refine ⟨_, by rw [if_neg (by decide +kernel), if_neg (by decide +kernel), if_neg (by decide +kernel), if_neg (by decide +kernel), if_neg (by decide +kernel), if_pos rfl], go _ ?_ ?_⟩ <;> split <;> omega
  · refine ⟨_, by rw [if_neg (by decide +kernel), if_neg (by decide +kernel), if_neg (by decide +kernel), if_neg (by decide +kernel), if_neg (by decide +kernel), if_neg (by decide +kernel), if_pos rfl], go _ ?_ ?_⟩ <;> split <;> omega
theorem Safe.pnum {op : Str} (h : op = "add" ∨ op = "less" ∨ op = "times" ∨ op = "over" ∨ op = "rest") (ha : Safe D G .num t1) (hb : Safe D G .num t2) : Safe (D + 1) G .num (.prim op t1 t2) := ha.prim2 hb (prim_num h)
theorem Safe.pbit {op : Str} (h : op = "below" ∨ op = "same") (ha : Safe D G .num t1) (hb : Safe D G .num t2) : Safe (D + 1) G (.few 2) (.prim op t1 t2) := ha.prim2 hb (prim_bit h)
/-- the rest by a written number: an index -/
theorem Safe.rest4 {n : Int} (hD : 1 ≤ D) (ha : Safe D G .num t1) (h1 : 1 ≤ n) (h4 : n ≤ 4) : Safe (D + 1) G (.few 4) (.prim "rest" t1 (.lit n)) := Safe.mk fun C g e s d p hd => by
  obtain ⟨d', rfl⟩ : ∃ d', d = d' + 1 := ⟨d - 1, by omega⟩
  refine (ha.run p (by omega) hd).bind fun v s1 ⟨i, e1, h0, h2⟩ l1 => ?_
  subst e1
  have hev : ev C.most C.kn (d' + 1) (.lit n) e g s1 = if C.most < s1.steps + 1 then .st .long ⟨s1.steps + 1, s1.marks⟩ else .ok (.int n) ⟨s1.steps + 1, s1.marks⟩ := rfl
  rw [hev]
  by_cases hm : C.most < s1.steps + 1
  · rw [if_pos hm]; trivial
  rw [if_neg hm]
  show Good C g s1 _ (outV ⟨s1.steps + 1, s1.marks⟩ ((prim "rest" i n).map Val.int))
  have ep : prim "rest" i n = some (i % n) := by
    unfold prim
    rw [if_pos ⟨h0, h2, by omega, by unfold TOP; omega⟩, if_neg (by decide +kernel), if_neg (by decide +kernel), if_neg (by decide +kernel), if_neg (by decide +kernel), if_pos rfl, if_neg (by omega)]
  rw [ep]
  refine ⟨⟨_, rfl, Int.emod_nonneg _ (by omega), ?_⟩, ⟨Nat.le_succ _, Nat.le_refl _, by show s1.steps + 1 ≤ C.most; omega⟩⟩
  have := Int.emod_lt_of_pos i (show 0 < n by omega)
  show i % n < 4
  omega
end
end KW
set_option Elab.async false
set_option linter.all false
set_option maxRecDepth 100000
set_option maxHeartbeats 4000000
/-! S1: programs whose ways never die. -/
namespace KW
open PySem PySem.Spec PyProof.Rows L2
/-- what an end's value is: an int, or a pair of ints -/
def IntB (i : Int) : Prop := 0 ≤ i ∧ i ≤ TOP
def Dat : Val → Prop
  | .int i => IntB i
  | .pair (.int i) (.int j) => IntB i ∧ IntB j
  | _ => False
def PlainK (k : Kd) : Prop := ∀ C g v, SV C k g v → ∃ i, v = .int i ∧ IntB i
theorem PlainK.num : PlainK .num := fun _ _ _ ⟨i, e, a, b⟩ => ⟨i, e, a, b⟩
theorem PlainK.few {m : Nat} (h : m ≤ 10) : PlainK (.few m) := fun _ _ _ z => let ⟨i, e, a, b⟩ := z.few_num h; ⟨i, e, a, b⟩
def DatK (k : Kd) : Prop := ∀ C g v, SV C k g v → Dat v
theorem PlainK.dat {k : Kd} (h : PlainK k) : DatK k := fun C g v z => by
  obtain ⟨i, rfl, hi⟩ := h C g v z
  exact hi
theorem PlainK.both {a b : Kd} (ha : PlainK a) (hb : PlainK b) : DatK (.both a b) := fun C g v ⟨x, y, e, hx, hy⟩ => by
  obtain ⟨i, rfl, hi⟩ := ha C g x hx
  obtain ⟨j, rfl, hj⟩ := hb C g y hy
  subst e
  exact ⟨hi, hj⟩
def scP (ps : List (Str × Nat)) : Sc := ps.map fun p => (p.1, Kd.rows p.2 0)
structure PrOk (ps : List (Str × Nat)) (b : Tm) : Prop where
  nd : (ps.map (·.1)).Nodup
  n3 : ps.length ≤ 3
  sz : ∀ p ∈ ps, 2 ≤ p.2 ∧ p.2 ≤ 9
  safe : ∃ k, DatK k ∧ Safe 55 (scP ps) k b
def DD : Nat := 60
structure KnIn (ps : List (Str × Nat)) (kn : KnP) : Prop where
  good : goodKn kn
  dig : ∀ p ∈ kn, ∃ m, (ps.map (·.2))[p.1.2]? = some m ∧ 0 ≤ p.2 ∧ p.2 < (m : Int)
theorem KnIn.nil (ps : List (Str × Nat)) : KnIn ps [] := ⟨⟨List.nodup_nil, fun _ z => by cases z⟩, fun _ z => by cases z⟩
theorem KnIn.snoc {ps : List (Str × Nat)} {kn : KnP} {pl : Pl} {d : Int} {m : Nat} (h : KnIn ps kn) (hp : goodPl pl) (hl : look kn pl = none) (hz : (ps.map (·.2))[pl.2]? = some m) (d0 : 0 ≤ d) (d1 : d < (m : Int)) : KnIn ps (kn ++ [(pl, d)]) :=
  ⟨h.good.snoc hp hl, fun p hp' => by
    rcases List.mem_append.mp hp' with z | z
    · exact h.dig p z
    · rw [List.mem_singleton.mp z]; exact ⟨m, hz, d0, d1⟩⟩
section
variable {ps : List (Str × Nat)} {b : Tm}
theorem envG_ok {C : Cn} (ok : C.Ok) : ∀ (ps : List (Str × Nat)) (k : Nat) (e : Nv) (G : Sc), EnvOk C G nogk e → (ps.map (·.1)).Nodup → (∀ p ∈ ps, p.1 ∉ G.map (·.1)) → (∀ j p, ps[j]? = some p → C.sz[k + j]? = some p.2) →
    EnvOk C (G ++ scP ps) nogk (envG ps k e) ∧ (envG ps k e).len = e.len + ps.length
  | [], k, e, G, h, _, _, _ => by
    refine ⟨?_, rfl⟩
    show EnvOk C (G ++ []) nogk e
    rw [List.append_nil]
    exact h
  | (x, m) :: ps, k, e, G, h, nd, hd, hz => by
    have nd := List.nodup_cons.mp nd
    have hx : x ∉ G.map (·.1) := hd (x, m) List.mem_cons_self
    have h1 := h.put hx (sv_given (g := nogk) ok (hz 0 (x, m) rfl))
    obtain ⟨a, l⟩ := envG_ok ok ps (k + 1) (e.put x (.given k)) (G ++ [(x, .rows m 0)]) h1 nd.2 (fun p hp z => by
      rw [List.map_append] at z
      rcases List.mem_append.mp z with z | z
      · exact hd p (List.mem_cons_of_mem _ hp) z
      · exact nd.1 (by rw [show x = p.1 from (List.mem_singleton.mp z).symm]; exact List.mem_map.mpr ⟨p, hp, rfl⟩)) (fun j p hj => by
      have := hz (j + 1) p hj
      rwa [show k + (j + 1) = k + 1 + j by omega] at this)
    refine ⟨?_, ?_⟩
    · rw [List.append_assoc] at a
      exact a
    · show (envG ps (k + 1) (e.put x (.given k))).len = _
      rw [l, len_put, List.length_cons]
      omega
/-- a run of a program's body -/
theorem run_good (h : PrOk ps b) {kn : KnP} (hk : KnIn ps kn) {most : Nat} (hm : most ≤ 30000) : Good ⟨most, kn, ps.map (·.2)⟩ nogk ⟨1, 0⟩ Dat (ev most kn DD b (envG ps 0 .nil) nogk ⟨0, 0⟩) := by
  obtain ⟨k, hdk, hs⟩ := h.safe
  have ok : (⟨most, kn, ps.map (·.2)⟩ : Cn).Ok := ⟨hm, fun i k d hl => hk.dig _ (look_in hl), fun m hm' => by
    obtain ⟨p, hp, rfl⟩ := List.mem_map.mp hm'
    exact h.sz p hp⟩
  have e0 : EnvOk ⟨most, kn, ps.map (·.2)⟩ [] nogk .nil := fun _ _ z => by cases z
  obtain ⟨he, hl⟩ := envG_ok ok ps 0 .nil [] e0 h.nd (fun _ _ z => by cases z) (fun j p hj => by
    rw [Nat.zero_add]
    show (ps.map (·.2))[j]? = _
    rw [List.getElem?_map, hj]
    rfl)
  have hn3 := h.n3
  refine (hs ⟨most, kn, ps.map (·.2)⟩ nogk _ ⟨0, 0⟩ DD ⟨ok, he, ?_, fun _ _ => rfl, Nat.zero_le _⟩ (by decide)).imp fun v hv => hdk _ _ v hv
  rw [hl]
  show 0 + ps.length + 55 ≤ 100
  omega
theorem runE_good (h : PrOk ps b) {kn : KnP} (hk : KnIn ps kn) (w : Nat) : Good ⟨6000 - w, kn, ps.map (·.2)⟩ nogk ⟨1, 0⟩ Dat (runE DD ps b kn w) := run_good h hk (by omega)
theorem goodPl_of {kn : KnP} {most : Nat} {pl : Pl} (h : PrOk ps b) (hp : PlOk ⟨most, kn, ps.map (·.2)⟩ pl) : goodPl pl ∧ ∃ m, (ps.map (·.2))[pl.2]? = some m ∧ 2 ≤ m ∧ m ≤ 9 := by
  obtain ⟨h0, h4, hz, hl⟩ := hp
  have hz : pl.2 < (ps.map (·.2)).length := hz
  have h3 := h.n3
  have hz' := hz
  rw [List.length_map] at hz'
  refine ⟨⟨h0, h4, by omega⟩, _, List.getElem?_eq_getElem hz, ?_⟩
  rw [List.getElem_map]
  exact h.sz _ (List.getElem_mem _)
theorem brs_alive {rec : KnP → Nat → Nat → BR Tr} {kn : KnP} {pl : Pl} : ∀ (t d w n : Nat), (∀ (j w n : Nat), j < t → rec (kn ++ [(pl, ((d + j : Nat) : Int))]) w n ≠ .die) → brs rec kn pl d t w n ≠ .die
  | 0, d, w, n, _ => by unfold brs; intro z; cases z
  | t + 1, d, w, n, h => by
    unfold brs
    have h0 := h 0 w n (Nat.succ_pos _)
    rw [Nat.add_zero] at h0
    cases h1 : rec (kn ++ [(pl, (d : Int))]) w n with
    | ok tr w1 n1 =>
      show (brs rec kn pl (d + 1) t w1 n1).bind _ ≠ .die
      have h2 := brs_alive (rec := rec) (kn := kn) (pl := pl) t (d + 1) w1 n1 (fun j w n hj => by
        have := h (j + 1) w n (by omega)
        rwa [show d + (j + 1) = d + 1 + j by omega] at this)
      cases h3 : brs rec kn pl (d + 1) t w1 n1 with
      | ok ts w2 n2 => intro z; cases z
      | no => intro z; cases z
      | die => exact absurd h3 h2
    | no => intro z; cases z
    | die => exact absurd h1 h0
theorem br_alive (h : PrOk ps b) : ∀ (f : Nat) (kn : KnP) (w n : Nat), KnIn ps kn → 13 ≤ f + kn.length → br (runE DD ps b) (ps.map (·.2)) f kn w n ≠ .die
  | 0, kn, w, n, hk, hf => by
    have := hk.good.len
    omega
  | f + 1, kn, w, n, hk, hf => by
    have hg := runE_good h hk w
    unfold br
    cases hr : runE DD ps b kn w with
    | ok v s =>
      dsimp only
      split <;> (intro z; cases z)
    | st wd s =>
      rw [hr] at hg
      cases wd with
      | long => intro z; cases z
      | gone n i =>
        obtain ⟨⟨_, _, kv, hkv, _⟩, _⟩ := hg
        cases hkv
      | place pl =>
        obtain ⟨hp, hl⟩ := hg
        obtain ⟨hgp, m, hz, hm2, hm9⟩ := goodPl_of h hp
        have hlk : look kn pl = none := hp.2.2.2
        dsimp only
        rw [hlk, hz]
        dsimp only
        rw [if_pos ⟨hgp.1, hgp.2.1, hgp.2.2, by omega⟩]
        have := brs_alive (rec := br (runE DD ps b) (ps.map (·.2)) f) (kn := kn) (pl := pl) m 0 (w + s.steps) n (fun j w n hj => br_alive h f _ w n (hk.snoc hgp hlk hz (by omega) (by omega)) (by
          rw [List.length_append, List.length_singleton]
          omega))
        cases hb : brs (br (runE DD ps b) (ps.map (·.2)) f) kn pl 0 m (w + s.steps) n with
        | ok ts w2 n2 => intro z; cases z
        | no => intro z; cases z
        | die => exact absurd hb this
    | die => rw [hr] at hg; exact hg.elim
theorem kids_in {kn : KnP} {pl : Pl} {d m t : Nat} (h : KnIn ps kn) (hp : goodPl pl) (hl : look kn pl = none) (hz : (ps.map (·.2))[pl.2]? = some m) (hd : d + t ≤ m) : ∀ k ∈ kidsN kn pl d t, KnIn ps k := fun k hk => by
  unfold kidsN at hk
  obtain ⟨j, hj, rfl⟩ := List.mem_map.mp hk
  have := List.mem_range.mp hj
  exact h.snoc hp hl hz (by omega) (by omega)
theorem goodPl_ask {pl : Pl} (h0 : 0 ≤ pl.1) (h4 : pl.1 < 4) (h3 : pl.2 < 3) : goodPl pl := ⟨h0, h4, h3⟩
mutual
/-- the work and the ends of a tree, its size -/
theorem Brk.bounds (h : PrOk ps b) : ∀ {kn : KnP} {w n : Nat} {t : Tr} {w' n' : Nat}, Brk (runE DD ps b) (ps.map (·.2)) kn w n t w' n' → KnIn ps kn → w ≤ 6000 → n ≤ 500 → w' ≤ 6000 ∧ n' ≤ 500 ∧ n ≤ n' ∧ t.size + 1 ≤ 2 * (n' - n)
  | kn, w, n, _, _, _, .fin (v := v) (s := s) hr hn, hk, hw, h5 => by
    have hg := runE_good h hk w
    rw [hr] at hg
    have := hg.2.mo
    have : s.steps ≤ 6000 - w := this
    refine ⟨by omega, hn, Nat.le_succ _, ?_⟩
    show 1 + 1 ≤ _
    omega
  | kn, w, n, _, _, _, .ask (pl := pl) (s := s) (m := m) hr hl hz h0 h4 h3 hm hb, hk, hw, h5 => by
    have hg := runE_good h hk w
    rw [hr] at hg
    obtain ⟨hp, hlt⟩ := hg
    have hst : s.steps ≤ 6000 - w := hlt.mo
    obtain ⟨hgp, m', hz', hm2, hm9⟩ := goodPl_of h hp
    have em : m' = m := by rw [hz] at hz'; exact (Option.some.inj hz').symm
    subst em
    obtain ⟨a1, a2, a3, a4⟩ := BrkL.bounds h hb (kids_in hk hgp hl hz (by omega)) (by omega) h5
    have hlen := BrkL.len hb
    unfold kidsN at hlen
    rw [List.length_map, List.length_range] at hlen
    refine ⟨a1, a2, a3, ?_⟩
    show (1 + sizes _) + 1 ≤ _
    omega
theorem BrkL.bounds (h : PrOk ps b) : ∀ {ks : List KnP} {w n : Nat} {ts : List Tr} {w' n' : Nat}, BrkL (runE DD ps b) (ps.map (·.2)) ks w n ts w' n' → (∀ k ∈ ks, KnIn ps k) → w ≤ 6000 → n ≤ 500 → w' ≤ 6000 ∧ n' ≤ 500 ∧ n ≤ n' ∧ sizes ts + ts.length ≤ 2 * (n' - n)
  | _, _, _, _, _, _, .nil, hk, hw, h5 => ⟨hw, h5, Nat.le_refl _, Nat.zero_le _⟩
  | _, _, _, _, _, _, .cons a c, hk, hw, h5 => by
    obtain ⟨a1, a2, a3, a4⟩ := Brk.bounds h a (hk _ List.mem_cons_self) hw h5
    obtain ⟨c1, c2, c3, c4⟩ := BrkL.bounds h c (fun k z => hk k (List.mem_cons_of_mem _ z)) a1 a2
    refine ⟨c1, c2, Nat.le_trans a3 c3, ?_⟩
    rw [List.length_cons]
    show (_ + sizes _) + _ ≤ _
    omega
end
mutual
/-- each end comes from a run -/
theorem Brk.leaf (h : PrOk ps b) : ∀ {kn : KnP} {w n : Nat} {t : Tr} {w' n' : Nat}, Brk (runE DD ps b) (ps.map (·.2)) kn w n t w' n' → KnIn ps kn → ∀ k v, (k, Told.fin v) ∈ preT kn t → KnIn ps k ∧ Dat v ∧ ∃ w s, runE DD ps b k w = .ok v s
  | kn, w, n, _, _, _, .fin (v := v) (s := s) hr hn, hk, k, u, hm => by
    have hm : (k, Told.fin u) ∈ [(kn, Told.fin v)] := hm
    cases List.mem_singleton.mp hm
    have hg := runE_good h hk w
    rw [hr] at hg
    exact ⟨hk, hg.1, w, s, hr⟩
  | kn, w, n, _, _, _, .ask (pl := pl) (s := s) (m := m) (bs := bs) hr hl hz h0 h4 h3 hm hb, hk, k, u, hme => by
    have hme : (k, Told.fin u) ∈ (kn, Told.ask pl) :: preL kn pl 0 bs := hme
    rcases List.mem_cons.mp hme with z | z
    · cases z
    · have hlen := BrkL.len hb
      unfold kidsN at hlen
      rw [List.length_map, List.length_range] at hlen
      have e := preF_kids bs kn pl 0 [] []
      rw [List.append_nil, List.append_nil, hlen] at e
      have e2 : preF ([] : List KnP) ([] : List Tr) = [] := rfl
      rw [e2, List.append_nil] at e
      rw [← e] at z
      exact BrkL.leaf h hb (kids_in hk (goodPl_ask h0 h4 h3) hl hz (by omega)) k u z
theorem BrkL.leaf (h : PrOk ps b) : ∀ {ks : List KnP} {w n : Nat} {ts : List Tr} {w' n' : Nat}, BrkL (runE DD ps b) (ps.map (·.2)) ks w n ts w' n' → (∀ k ∈ ks, KnIn ps k) → ∀ k v, (k, Told.fin v) ∈ preF ks ts → KnIn ps k ∧ Dat v ∧ ∃ w s, runE DD ps b k w = .ok v s
  | _, _, _, _, _, _, .nil, hk, k, u, hm => by
    have hm : (k, Told.fin u) ∈ ([] : List (KnP × Told)) := hm
    cases hm
  | _, _, _, _, _, _, .cons (kn := kn) (ks := ks) (t := t) (ts := ts) a c, hk, k, u, hm => by
    have hm : (k, Told.fin u) ∈ preT kn t ++ preF ks ts := hm
    rcases List.mem_append.mp hm with z | z
    · exact Brk.leaf h a (hk _ List.mem_cons_self) k u z
    · exact BrkL.leaf h c (fun k z => hk k (List.mem_cons_of_mem _ z)) k u z
end
/-- how many ends a tree has -/
def isFin : KnP × Told → Bool
  | (_, .fin _) => true
  | _ => false
mutual
theorem Brk.ends {E : KnP → Nat → R Val} {sz : List Nat} : ∀ {kn : KnP} {w n : Nat} {t : Tr} {w' n' : Nat}, Brk E sz kn w n t w' n' → n' = n + ((preT kn t).filter isFin).length
  | _, _, _, _, _, _, .fin _ _ => rfl
  | kn, w, n, _, _, _, .ask (pl := pl) (m := m) (bs := bs) hr hl hz h0 h4 h3 hm hb => by
    have hlen := BrkL.len hb
    unfold kidsN at hlen
    rw [List.length_map, List.length_range] at hlen
    have e := preF_kids bs kn pl 0 [] []
    rw [List.append_nil, List.append_nil, hlen] at e
    have e2 : preF ([] : List KnP) ([] : List Tr) = [] := rfl
    rw [e2, List.append_nil] at e
    have h2 := BrkL.ends hb
    rw [e] at h2
    exact h2
theorem BrkL.ends {E : KnP → Nat → R Val} {sz : List Nat} : ∀ {ks : List KnP} {w n : Nat} {ts : List Tr} {w' n' : Nat}, BrkL E sz ks w n ts w' n' → n' = n + ((preF ks ts).filter isFin).length
  | _, _, _, _, _, _, .nil => rfl
  | _, _, _, _, _, _, .cons (kn := kn) (ks := ks) (t := t) (ts := ts) a c => by
    have h1 := Brk.ends a
    have h2 := BrkL.ends c
    have e : preF (kn :: ks) (t :: ts) = preT kn t ++ preF ks ts := rfl
    rw [e, List.filter_append, List.length_append]
    omega
end
end
end KW
set_option Elab.async false
set_option linter.all false
set_option maxRecDepth 100000
set_option maxHeartbeats 4000000
/-! S2: the nodes of a tree of ways that does not die. -/
namespace KW
open PySem PySem.Spec PyProof.Rows L2
mutual
def Tr.fins : Tr → Nat
  | .fin _ => 1
  | .ask _ bs => finsL bs
def finsL : List Tr → Nat
  | [] => 0
  | t :: ts => t.fins + finsL ts
end
mutual
theorem Brk.fins {E : KnP → Nat → R Val} {sz : List Nat} : ∀ {kn : KnP} {w n : Nat} {t : Tr} {w' n' : Nat}, Brk E sz kn w n t w' n' → n' = n + t.fins
  | _, _, _, _, _, _, .fin _ _ => rfl
  | _, _, _, _, _, _, .ask _ _ _ _ _ _ _ hb => BrkL.fins hb
theorem BrkL.fins {E : KnP → Nat → R Val} {sz : List Nat} : ∀ {ks : List KnP} {w n : Nat} {ts : List Tr} {w' n' : Nat}, BrkL E sz ks w n ts w' n' → n' = n + finsL ts
  | _, _, _, _, _, _, .nil => rfl
  | _, _, _, _, _, _, .cons (t := t) (ts := ts) a c => by
    have h1 := Brk.fins a
    have h2 := BrkL.fins c
    show _ = _ + (t.fins + finsL ts)
    omega
end
/-- what is true of a node -/
def NodeOk (ps : List (Str × Nat)) (b : Tm) (x : KnP × Tr) : Prop := KnIn ps x.1 ∧ match x.2 with
  | .fin v => Dat v ∧ ∃ w s, runE DD ps b x.1 w = .ok v s
  | .ask pl bs => goodPl pl ∧ look x.1 pl = none ∧ bs.length ≤ 10
section
variable {ps : List (Str × Nat)} {b : Tm}
theorem nodesL_pre0 (kn : KnP) (pl : Pl) : ∀ (d : Nat) (ts : List Tr) (x : KnP × Tr), x ∈ nodesL kn pl d ts → ∃ k t, k ∈ kidsN kn pl d ts.length ∧ t ∈ ts ∧ x ∈ nodes k t
  | d, [], x, h => by cases h
  | d, t :: ts, x, h => by
    have h : x ∈ nodes (kn ++ [(pl, (d : Int))]) t ++ nodesL kn pl (d + 1) ts := h
    rw [List.length_cons, kidsN_succ]
    rcases List.mem_append.mp h with z | z
    · exact ⟨_, t, List.mem_cons_self, List.mem_cons_self, z⟩
    · obtain ⟨k, t', h1, h2, h3⟩ := nodesL_pre0 kn pl (d + 1) ts x z
      exact ⟨k, t', List.mem_cons_of_mem _ h1, List.mem_cons_of_mem _ h2, h3⟩
def nodesF : List KnP → List Tr → List (KnP × Tr)
  | k :: ks, t :: ts => nodes k t ++ nodesF ks ts
  | _, _ => []
theorem nodesF_kids : ∀ (bs : List Tr) (kn : KnP) (pl : Pl) (d : Nat), nodesF (kidsN kn pl d bs.length) bs = nodesL kn pl d bs
  | [], _, _, _ => rfl
  | b :: bs, kn, pl, d => by
    rw [List.length_cons, kidsN_succ]
    show nodes _ b ++ nodesF (kidsN kn pl (d + 1) bs.length) bs = _
    rw [nodesF_kids bs kn pl (d + 1)]
    rfl
mutual
theorem Brk.nodeOk (h : PrOk ps b) : ∀ {kn : KnP} {w n : Nat} {t : Tr} {w' n' : Nat}, Brk (runE DD ps b) (ps.map (·.2)) kn w n t w' n' → KnIn ps kn → ∀ x ∈ nodes kn t, NodeOk ps b x
  | kn, w, n, _, _, _, .fin (v := v) (s := s) hr hn, hk, x, hm => by
    have hm : x ∈ [(kn, Tr.fin v)] := hm
    rw [List.mem_singleton.mp hm]
    have hg := runE_good h hk w
    rw [hr] at hg
    exact ⟨hk, hg.1, w, s, hr⟩
  | kn, w, n, _, _, _, .ask (pl := pl) (s := s) (m := m) (bs := bs) hr hl hz h0 h4 h3 hm hb, hk, x, hme => by
    have hme : x ∈ (kn, Tr.ask pl bs) :: nodesL kn pl 0 bs := hme
    have hlen := BrkL.len hb
    unfold kidsN at hlen
    rw [List.length_map, List.length_range] at hlen
    rcases List.mem_cons.mp hme with z | z
    · rw [z]
      exact ⟨hk, goodPl_ask h0 h4 h3, hl, by omega⟩
    · rw [← nodesF_kids, hlen] at z
      exact BrkL.nodeOk h hb (kids_in hk (goodPl_ask h0 h4 h3) hl hz (by omega)) x z
theorem BrkL.nodeOk (h : PrOk ps b) : ∀ {ks : List KnP} {w n : Nat} {ts : List Tr} {w' n' : Nat}, BrkL (runE DD ps b) (ps.map (·.2)) ks w n ts w' n' → (∀ k ∈ ks, KnIn ps k) → ∀ x ∈ nodesF ks ts, NodeOk ps b x
  | _, _, _, _, _, _, .nil, hk, x, hm => by cases hm
  | _, _, _, _, _, _, .cons (kn := kn) (ks := ks) (t := t) (ts := ts) a c, hk, x, hm => by
    have hm : x ∈ nodes kn t ++ nodesF ks ts := hm
    rcases List.mem_append.mp hm with z | z
    · exact Brk.nodeOk h a (hk _ List.mem_cons_self) x z
    · exact BrkL.nodeOk h c (fun k z => hk k (List.mem_cons_of_mem _ z)) x z
end
end
/-- the branches with what is known there -/
def kidsT (kn : KnP) (pl : Pl) : Nat → List Tr → List (KnP × Tr)
  | _, [] => []
  | d, t :: ts => (kn ++ [(pl, (d : Int))], t) :: kidsT kn pl (d + 1) ts
theorem kidsT_len (kn : KnP) (pl : Pl) : ∀ (ts : List Tr) (d : Nat), (kidsT kn pl d ts).length = ts.length
  | [], _ => rfl
  | t :: ts, d => by show (kidsT kn pl (d + 1) ts).length + 1 = _; rw [kidsT_len kn pl ts]; rfl
theorem kidsT_get (kn : KnP) (pl : Pl) : ∀ (ts : List Tr) (d j : Nat) (b : Tr), ts[j]? = some b → (kidsT kn pl d ts)[j]? = some (kn ++ [(pl, ((d + j : Nat) : Int))], b)
  | [], _, _, _, h => by simp at h
  | t :: ts, d, 0, b, h => by
    have h : t = b := by simpa using h
    subst h
    rfl
  | t :: ts, d, j + 1, b, h => by
    have := kidsT_get kn pl ts (d + 1) j b (by simpa using h)
    rw [show d + 1 + j = d + (j + 1) by omega] at this
    exact this
def szT (l : List (KnP × Tr)) : Nat := sizes (l.map (·.2))
def fnT (l : List (KnP × Tr)) : Nat := finsL (l.map (·.2))
theorem finsL_app : ∀ (a b : List Tr), finsL (a ++ b) = finsL a + finsL b
  | [], b => by show finsL b = 0 + finsL b; omega
  | t :: a, b => by
    show t.fins + finsL (a ++ b) = t.fins + finsL a + finsL b
    rw [finsL_app a b]
    omega
theorem kidsT_snd (kn : KnP) (pl : Pl) : ∀ (ts : List Tr) (d : Nat), (kidsT kn pl d ts).map (·.2) = ts
  | [], _ => rfl
  | t :: ts, d => by show t :: (kidsT kn pl (d + 1) ts).map (·.2) = _; rw [kidsT_snd kn pl ts]
theorem nodes_kid {tr : Tr} {kn : KnP} {pl : Pl} {bs : List Tr} (h : (kn, Tr.ask pl bs) ∈ nodes [] tr) {j : Nat} {b : Tr} (hb : bs[j]? = some b) : (kn ++ [(pl, (j : Int))], b) ∈ nodes [] tr := by
  obtain ⟨A, B, e⟩ := List.append_of_mem h
  have := nodes_kids tr [] A B kn pl bs e j b hb
  rw [e]
  exact List.mem_append_right _ (List.mem_cons_of_mem _ this)
theorem kidsT_in {tr : Tr} {kn : KnP} {pl : Pl} {bs : List Tr} (h : (kn, Tr.ask pl bs) ∈ nodes [] tr) : ∀ x ∈ kidsT kn pl 0 bs, x ∈ nodes [] tr := fun x hx => by
  obtain ⟨j, hj, e⟩ := List.getElem_of_mem hx
  have hj' : j < bs.length := by rw [kidsT_len] at hj; exact hj
  have := kidsT_get kn pl bs 0 j _ (List.getElem?_eq_getElem hj')
  rw [List.getElem?_eq_getElem hj, e, Nat.zero_add] at this
  rw [Option.some.inj this]
  exact nodes_kid h (List.getElem?_eq_getElem hj')
end KW
set_option Elab.async false
set_option linter.all false
set_option maxRecDepth 100000
set_option maxHeartbeats 4000000
/-! G0: the state of the draws, small defs of the drawing. -/
namespace KW
open PySem PySem.Spec PyProof.Rows L2 
section
variable {P : Program} {w : World} {K : PySem.W.Frag} {mg : Str → Option Value} {base : Heap}

structure Ms where
  left : Nat
  seed : Int
  spot : Nat
  next : Nat
  quants : Int
def mK (c : Addr) (m : Ms) : List (Key × V) := [(.inr "left", .int (m.left : Int)), (.inr "seed", .int m.seed), (.inr "cells", .ref c), (.inr "spot", .int (m.spot : Int)), (.inr "next", .int (m.next : Int)), (.inr "quants", .int m.quants)]
section
variable {c : Addr} {m : Ms} {n : Nat} {i : Int}
theorem mk_left : valV (mK c m) (.inr "left") = some (.int (m.left : Int)) := by kernel_rfl
theorem mk_seed : valV (mK c m) (.inr "seed") = some (.int m.seed) := by kernel_rfl
theorem mk_cells : valV (mK c m) (.inr "cells") = some (.ref c) := by kernel_rfl
theorem mk_spot : valV (mK c m) (.inr "spot") = some (.int (m.spot : Int)) := by kernel_rfl
theorem mk_next : valV (mK c m) (.inr "next") = some (.int (m.next : Int)) := by kernel_rfl
theorem mk_quants : valV (mK c m) (.inr "quants") = some (.int m.quants) := by kernel_rfl
theorem mp_left : putK (mK c m) (.inr "left") (.int (n : Int)) = mK c { m with left := n } := by kernel_rfl
theorem mp_spot : putK (mK c m) (.inr "spot") (.int (n : Int)) = mK c { m with spot := n } := by kernel_rfl
theorem mp_next : putK (mK c m) (.inr "next") (.int (n : Int)) = mK c { m with next := n } := by kernel_rfl
theorem mp_quants : putK (mK c m) (.inr "quants") (.int i) = mK c { m with quants := i } := by kernel_rfl
theorem mk_len : (mK c m).length < sizeLine := by show 6 < sizeLine; decide
end
def gM (a c : Addr) (m : Ms) : List (Addr × HO) := [(a, .dK (mK c m))]
def CellsAt (I : Hp) (c : Addr) : Prop := ∃ ns : List Int, I c = some (.lst (ns.map V.int)) ∧ ns ≠ []
theorem CellsAt.mono {I I' : Hp} (h : Same I I') {c : Addr} : CellsAt I c → CellsAt I' c := fun ⟨ns, a, b⟩ => ⟨ns, h _ _ a, b⟩
def LIM : Nat := 1000000
/-- the state later: by so many draws and names at most -/
structure Nx (c : Nat) (m m' : Ms) : Prop where
  n0 : m.next ≤ m'.next
  n1 : m'.next ≤ m.next + c
  sp : m'.spot ≤ m.spot + c
/-- what a def of the drawing is given: room for so many draws and names -/
structure GP (c : Nat) (I H : Hp) (a cl : Addr) (m : Ms) : Prop where
  hs : HS I (gM a cl m) H
  ce : CellsAt I cl
  l1 : m.spot + c ≤ LIM
  l2 : m.next + c ≤ LIM
def spDraw : Sp := fun vs H Q _ => ∃ I a cl m, ∃ b : Nat, vs = [.ref a, .int (b : Int)] ∧ GP 1 I H a cl m ∧ 1 ≤ b ∧ b ≤ LIM ∧
  ∀ r m' H', W [a] I H I (gM a cl m') H' → Nx 1 m m' → m'.next = m.next → m'.quants = m.quants → 0 ≤ r → r < (b : Int) → Q (.int r) H'
abbrev N__law_draw : List Str := ["_law_m", "_law_below", "_law_found", "_law_spot", "_law_cells", "_law_added", "_law_cell", "_law_blend"]
theorem sc__law_draw : FnScope N__law_draw ["_law_m", "_law_below"] (defScope (top 67)) := fnScope_ok (by decide +kernel)
theorem ok_draw (D : DefAt K mg "_law_draw" 67) (T : Txt K mg) : Cl P w K mg base 1 "_law_draw" spDraw := by
  refine cl_mk (i := 67) (N := N__law_draw) (ps := ["_law_m", "_law_below"]) D sc__law_draw (fun _ _ _ _ _ _ us hl => match us, hl with | [_, _], _ => rfl) ?_ ?_
  · rintro vs H Q E ⟨I, a, cl, m, b, rfl, _⟩
    rfl
  rintro f0 cdv A outer s0 H vs Q E hr ⟨I, a, cl, m, b, rfl, pre, hb1, hb9, q⟩
  refine ⟨_, (pss_cons (ps_if (pt_cmpR op_gt (pe_dget (hu_of hr) (pv 0) pe_str (fun _ _ => rfl)) pe_int (nomark _)) (pss_cons (ps_set (i := 2) sc__law_draw.nd rfl (Or.inl rfl) (pe_op op_mod (pe_callTy call_int1 (by rfl) T.int (by decide +kernel) (pa_cons (pe_dget (hu_of hr) (pv 0) pe_str (fun _ _ => rfl)) pa_nil)) (pv 1))) (pss_cons (ps_dput (hu_of hr) (pv 0) pe_str (pe_op op_fdivW (pe_dget (hu_of hr) (pv 0) pe_str (fun _ _ => rfl)) (pv 1)) rfl) (pss_one (ps_ret (pv 2))))) pss_nil) (pss_cons (ps_set (i := 3) sc__law_draw.nd rfl (Or.inl rfl) (pe_dget (hu_of hr) (pv 0) pe_str (fun _ _ => rfl))) (pss_cons (ps_dput (hu_of hr) (pv 0) pe_str (pe_op op_add (pv 3) pe_int) rfl) (pss_cons (ps_par (i := 4) (j := 5) rfl sc__law_draw.nd rfl rfl (by decide) rfl rfl (pa_cons (pe_dget (hu_of hr) (pv 0) pe_str (fun _ _ => rfl)) (pa_cons (pe_op op_add (pe_dget (hu_of hr) (pv 0) pe_str (fun _ _ => rfl)) (pe_op op_mul (pe_op op_mul pe_int (pv 3)) (pv 3))) pa_nil)) (by rfl)) (pss_cons (ps_set (i := 6) sc__law_draw.nd rfl (Or.inl rfl) (pe_ix ix_list (pv 4) (pe_op op_mod (pe_callTy call_int1 (by rfl) T.int (by decide +kernel) (pa_cons (pv 3) pa_nil)) (pe_callB call_len_seq (by rfl) T.len (by decide +kernel) (pa_cons (pv 4) pa_nil))) (fun _ _ => rfl))) (pss_cons (ps_set (i := 7) sc__law_draw.nd rfl (Or.inl rfl) (pe_op op_mod (pe_callTy call_int1 (by rfl) T.int (by decide +kernel) (pa_cons (pe_op op_add (pe_op op_mul (pv 6) (pe_op op_add (pe_op op_mul pe_int (pv 3)) pe_int)) (pv 5)) pa_nil)) pe_int)) (pss_cons (ps_set (i := 7) sc__law_draw.nd rfl (Or.inl rfl) (pe_op op_mod (pe_callTy call_int1 (by rfl) T.int (by decide +kernel) (pa_cons (pe_op op_add (pe_op op_add (pe_op op_mul (pv 7) (pv 7)) (pe_op op_mul pe_int (pv 3))) (pe_dget (hu_of hr) (pv 0) pe_str (fun _ _ => rfl))) pa_nil)) pe_int)) (pss_one (ps_ret (pe_op op_mod (pe_op op_fdivW (pe_op op_mod (pe_callTy call_int1 (by rfl) T.int (by decide +kernel) (pa_cons (pe_op op_add (pe_op op_mul (pv 7) pe_int) (pv 3)) pa_nil)) pe_int) pe_int) (pv 1))))))))))), ?_⟩
  have w0 : W [a] I H I (gM a cl m) H := W.start pre.hs
  have hl1 := pre.l1
  have hl2 := pre.l2
  have hlim : LIM = 1000000 := rfl
  have hdv : (0 : Int) < (b : Int) := by omega
  have hcd : CDivW (m.left : Int) (b : Int) := wide_div hdv (b := 20) (by show b < 2 ^ 20; omega) (by decide) (by decide)
  refine ⟨_, rfl, a, _, rfl, DG (w0.get (i := 0) rfl) mk_left, _, _, rfl, rfl, _, rfl, ?_⟩
  by_cases hl : (0 : Int) < (m.left : Int)
  · refine tT hl ?_
    refine ⟨_, rfl, a, _, rfl, DG (w0.get (i := 0) rfl) mk_left, .inl ⟨_, rfl, _, rfl, _, _, rfl, rfl, hdv, ?_⟩⟩
    refine ⟨_, rfl, a, _, rfl, DG (w0.get (i := 0) rfl) mk_left, _, rfl, _, _, rfl, rfl, hcd, _, rfl, a, _, rfl, DP (w0.get (i := 0) rfl) (mp_left (n := m.left / b)) mk_len, ?_⟩
    have w1 : W [a] I H I (gM a cl { m with left := m.left / b }) _ := w0.set (i := 0) rfl (.dK (mK cl { m with left := m.left / b }))
    refine ⟨_, rfl, ?_⟩
    exact q _ _ _ w1 ⟨Nat.le_refl _, Nat.le_succ _, Nat.le_succ _⟩ rfl rfl (Int.emod_nonneg _ (by omega)) (Int.emod_lt_of_pos _ hdv)
  · refine tF hl ?_
    obtain ⟨ns, hc, hne⟩ := pre.ce
    have hnl : 0 < ns.length := List.length_pos_iff.mpr hne
    refine ⟨_, rfl, a, _, rfl, DG (w0.get (i := 0) rfl) mk_spot, ?_⟩
    refine ⟨_, rfl, _, _, rfl, rfl, _, rfl, a, _, rfl, DP (w0.get (i := 0) rfl) (mp_spot (n := m.spot + 1)) mk_len, ?_⟩
    have w1 : W [a] I H I (gM a cl { m with spot := m.spot + 1 }) _ := w0.set (i := 0) rfl (.dK (mK cl { m with spot := m.spot + 1 }))
    have hs1 : -(2 ^ 64) < (m.spot : Int) ∧ (m.spot : Int) < 2 ^ 64 := by omega
    refine ⟨_, rfl, a, _, rfl, DG (w1.get (i := 0) rfl) mk_cells, _, rfl, a, _, rfl, DG (w1.get (i := 0) rfl) mk_seed, _, rfl, _, _, rfl, rfl, .inl ⟨by decide, by decide⟩, _, rfl, _, _, rfl, rfl, .inr hs1, _, _, rfl, rfl, _, _, rfl, ?_⟩
    refine ⟨_, rfl, _, rfl, .inl ⟨_, rfl, _, rfl, cl, _, rfl, .inl (SqL.of (w1.i hc)), _, _, rfl, rfl, ?_, ?_⟩⟩
    · rw [List.length_map]
      omega
    have hix : ∃ j : Nat, (m.spot : Int) % (((ns.map V.int).length : Nat) : Int) = (j : Int) ∧ j < ns.length := by
      rw [List.length_map]
      exact ⟨m.spot % ns.length, by omega, Nat.mod_lt _ hnl⟩
    obtain ⟨j, hj, hjl⟩ := hix
    refine ⟨cl, _, _, .int ns[j], rfl, rfl, SqL.of (w1.i hc), (by rw [hj]; exact atI_nat (by rw [List.getElem?_map, List.getElem?_eq_getElem hjl]; rfl)), ?_⟩
    have h9 : (0 : Int) < 2147483647 := by decide
    have h8 : (0 : Int) < 2147483629 := by decide
    have hs2 : -(2 ^ 64) < 2 * (m.spot : Int) + 3 ∧ 2 * (m.spot : Int) + 3 < 2 ^ 64 := by omega
    refine ⟨_, rfl, _, rfl, _, _, rfl, rfl, .inl ⟨by decide, by decide⟩, _, _, rfl, rfl, _, _, rfl, rfl, .inr hs2, _, rfl, _, _, rfl, rfl, .inl ⟨_, rfl, _, _, rfl, rfl, h9, ?_⟩⟩
    generalize hz : (ns[j] * (2 * (m.spot : Int) + 3) + (m.seed + 40503 * (m.spot : Int) * (m.spot : Int))) % 2147483647 = z
    have hz0 : 0 ≤ z := by rw [← hz]; exact Int.emod_nonneg _ (by decide)
    have hz1 : z < 2147483647 := by rw [← hz]; exact Int.emod_lt_of_pos _ h9
    refine ⟨_, rfl, _, rfl, _, _, rfl, rfl, .inl ⟨by omega, by omega⟩, _, rfl, _, _, rfl, rfl, .inl ⟨by decide, by decide⟩, _, _, rfl, rfl, _, rfl, a, _, rfl, DG (w1.get (i := 0) rfl) mk_seed, _, _, rfl, rfl, .inl ⟨_, rfl, _, _, rfl, rfl, h8, ?_⟩⟩
    refine ⟨_, rfl, _, _, rfl, rfl, .inr ⟨by decide, by decide⟩, _, rfl, _, _, rfl, rfl, .inl ⟨_, rfl, _, _, rfl, rfl, h9, _, _, rfl, rfl, wide_div (by decide) (b := 4) (by decide) (by decide) (by decide), _, rfl, _, _, rfl, rfl, hdv, ?_⟩⟩
    exact q _ _ _ w1 ⟨Nat.le_refl _, Nat.le_succ _, Nat.le_refl _⟩ rfl rfl (Int.emod_nonneg _ (by omega)) (Int.emod_lt_of_pos _ hdv)

/-- one of some things -/
def spOf : Sp := fun vs H Q _ => ∃ I a cl m l us, vs = [.ref a, .ref l] ∧ GP 1 I H a cl m ∧ H l = some (.lst us) ∧ us ≠ [] ∧ us.length ≤ LIM ∧
  ∀ u m' H', u ∈ us → W [a] I H I (gM a cl m') H' → Nx 1 m m' → m'.next = m.next → m'.quants = m.quants → Q u H'
abbrev N__law_of : List Str := ["_law_m", "_law_some"]
theorem sc__law_of : FnScope N__law_of ["_law_m", "_law_some"] (defScope (top 68)) := fnScope_ok (by decide +kernel)
theorem ok_of (D : DefAt K mg "_law_of" 68) (T : Txt K mg) (c__law_draw : Cl P w K mg base 1 "_law_draw" spDraw) : Cl P w K mg base 2 "_law_of" spOf := by
  refine cl_mk (i := 68) (N := N__law_of) (ps := ["_law_m", "_law_some"]) D sc__law_of (fun _ _ _ _ _ _ us hl => match us, hl with | [_, _], _ => rfl) ?_ ?_
  · rintro vs H Q E ⟨I, a, cl, m, l, us, rfl, _⟩
    rfl
  rintro f0 cdv A outer s0 H vs Q E hr ⟨I, a, cl, m, l, us, rfl, pre, hl, hne, h100, q⟩
  refine ⟨_, (pss_one (ps_ret (pe_ix ix_list (pv 1) (pe_cl c__law_draw hr (by omega) rfl (pa_cons (pv 0) (pa_cons (pe_callB call_len_seq (by rfl) T.len (by decide +kernel) (pa_cons (pv 1) pa_nil)) pa_nil))) (fun _ _ => rfl)))), ?_⟩
  have hnl : 0 < us.length := List.length_pos_iff.mpr hne
  refine ⟨_, rfl, _, rfl, _, rfl, l, _, rfl, .inl (SqL.of hl), ?_⟩
  refine ⟨I, a, cl, m, us.length, rfl, pre, hnl, h100, fun r m' H' w1 nx e1 e2 h0 h1 => ?_⟩
  obtain ⟨j, rfl⟩ := Int.eq_ofNat_of_zero_le h0
  have hj : j < us.length := by omega
  have hal : l ≠ a := fun z => by
    have := pre.hs.get (i := 0) rfl
    rw [← z, hl] at this
    cases this
  have hl2 : H' l = some (.lst us) := w1.st.fr _ _ hl (by simpa using hal)
  refine ⟨l, _, _, _, rfl, rfl, SqL.of hl2, atI_nat (v := us[j]) (List.getElem?_eq_getElem hj), ?_⟩
  exact q _ m' _ (List.getElem_mem hj) w1 nx e1 e2

def xN (n : Nat) : Str := ("x" : Str) ++ Str.ofString (toString ((n : Nat) : Int))
theorem xN_inj {i j : Nat} (h : xN i = xN j) : i = j := by
  have h2 := congrArg TL.tl h
  unfold xN at h2
  rw [TL.tl_append, TL.tl_append, TL.tl_num, TL.tl_num] at h2
  exact TL.numL_inj (List.append_cancel_left h2)
/-- a name that nothing has yet -/
def spFresh : Sp := fun vs H Q _ => ∃ I a cl m, vs = [.ref a] ∧ GP 1 I H a cl m ∧ ∀ H', W [a] I H I (gM a cl { m with next := m.next + 1 }) H' → Q (.str (xN (m.next + 1))) H'
abbrev N__law_fresh : List Str := ["_law_m"]
theorem sc__law_fresh : FnScope N__law_fresh ["_law_m"] (defScope (top 69)) := fnScope_ok (by decide +kernel)
theorem ok_fresh (D : DefAt K mg "_law_fresh" 69) (T : Txt K mg) : Cl P w K mg base 1 "_law_fresh" spFresh := by
  refine cl_mk (i := 69) (N := N__law_fresh) (ps := ["_law_m"]) D sc__law_fresh (fun _ _ _ _ _ _ us hl => match us, hl with | [_], _ => rfl) ?_ ?_
  · rintro vs H Q E ⟨I, a, cl, m, rfl, _⟩
    rfl
  rintro f0 cdv A outer s0 H vs Q E hr ⟨I, a, cl, m, rfl, pre, q⟩
  refine ⟨_, (pss_cons (ps_dput (hu_of hr) (pv 0) pe_str (pe_op op_add (pe_dget (hu_of hr) (pv 0) pe_str (fun _ _ => rfl)) pe_int) rfl) (pss_one (ps_ret (pe_op op_add_str pe_str (pe_callTy call_str_int (by rfl) T.str (by decide +kernel) (pa_cons (pe_dget (hu_of hr) (pv 0) pe_str (fun _ _ => rfl)) pa_nil)))))), ?_⟩
  have w0 : W [a] I H I (gM a cl m) H := W.start pre.hs
  have hl2 := pre.l2
  have hlim : LIM = 1000000 := rfl
  refine ⟨_, rfl, a, _, rfl, DG (w0.get (i := 0) rfl) mk_next, _, _, rfl, rfl, _, rfl, a, _, rfl, DP (w0.get (i := 0) rfl) (mp_next (n := m.next + 1)) mk_len, ?_⟩
  have w1 : W [a] I H I (gM a cl { m with next := m.next + 1 }) _ := w0.set (i := 0) rfl (.dK (mK cl { m with next := m.next + 1 }))
  have hlg : (((m.next + 1 : Nat) : Int)).natAbs.log2 < 1920 := by
    show (m.next + 1).log2 < 1920
    exact Nat.lt_of_lt_of_le (PySem.Flt.log2_lt_of (by decide) (show m.next + 1 < 2 ^ 20 by omega)) (by decide)
  have hlen : (Str.ofString (toString (((m.next + 1 : Nat) : Int)))).length ≤ 20 := by
    have e : (Str.ofString (toString (((m.next + 1 : Nat) : Int)))).length = (TL.tl (Str.ofString (toString (((m.next + 1 : Nat) : Int))))).length := by
      show _ = (Array.toList _).length
      rw [Array.length_toList]
      rfl
    rw [e, TL.tl_num]
    exact TL.numL_len (by decide) (by omega)
  refine ⟨_, rfl, a, _, rfl, DG (w1.get (i := 0) rfl) mk_next, _, rfl, hlg, _, _, rfl, rfl, ?_, ?_⟩
  · have e1 : (("x" : Str)).length = 1 := by decide +kernel
    rw [e1]
    exact Nat.le_trans (Nat.add_le_add_left hlen 1) (by decide)
  · exact q _ w1

def spP : Sp := fun vs H Q _ => ∃ x y z, vs = [x, y, z] ∧ ∀ p1 p2, H p1 = none → upd H p1 (.tup [y, z]) p2 = none → Q (.ref p2) (upd (upd H p1 (.tup [y, z])) p2 (.tup [SS "prim", x, .ref p1]))
abbrev N__law_p : List Str := ["_law_word", "_law_one", "_law_two"]
theorem sc__law_p : FnScope N__law_p ["_law_word", "_law_one", "_law_two"] (defScope (top 70)) := fnScope_ok (by decide +kernel)
theorem ok_p (D : DefAt K mg "_law_p" 70) (T : Txt K mg) : Cl P w K mg base 1 "_law_p" spP := by
  refine cl_mk (i := 70) (N := N__law_p) (ps := ["_law_word", "_law_one", "_law_two"]) D sc__law_p (fun _ _ _ _ _ _ us hl => match us, hl with | [_, _, _], _ => rfl) ?_ ?_
  · rintro vs H Q E ⟨x, y, z, rfl, _⟩
    rfl
  rintro f0 cdv A outer s0 H vs Q E hr ⟨x, y, z, rfl, q⟩
  refine ⟨_, (pss_one (ps_ret (pe_tup (pa_cons pe_str (pa_cons (pv 0) (pa_cons (pe_tup (pa_cons (pv 1) (pa_cons (pv 2) pa_nil))) pa_nil)))))), ?_⟩
  exact ⟨_, rfl, _, rfl, _, rfl, s2, fun p1 h1 => ⟨(by show 3 ≤ sizeLine; decide), fun p2 h2 => q p1 p2 h1 h2⟩⟩

def spN : Sp := fun vs H Q _ => ∃ x, vs = [x] ∧ ∀ p, H p = none → Q (.ref p) (upd H p (.tup [SS "number", x]))
abbrev N__law_n : List Str := ["_law_n_here"]
theorem sc__law_n : FnScope N__law_n ["_law_n_here"] (defScope (top 71)) := fnScope_ok (by decide +kernel)
theorem ok_n (D : DefAt K mg "_law_n" 71) (T : Txt K mg) : Cl P w K mg base 1 "_law_n" spN := by
  refine cl_mk (i := 71) (N := N__law_n) (ps := ["_law_n_here"]) D sc__law_n (fun _ _ _ _ _ _ us hl => match us, hl with | [_], _ => rfl) ?_ ?_
  · rintro vs H Q E ⟨x, rfl, _⟩
    rfl
  rintro f0 cdv A outer s0 H vs Q E hr ⟨x, rfl, q⟩
  refine ⟨_, (pss_one (ps_ret (pe_tup (pa_cons pe_str (pa_cons (pv 0) pa_nil))))), ?_⟩
  exact ⟨_, rfl, s2, fun p h => q p h⟩

/-- the kinds that stand in a scope -/
inductive SK where
  | num
  | rows (m : Nat)
  deriving DecidableEq
def SK.kd : SK → Kd
  | .num => .num
  | .rows m => .rows m 0
def SK.dat : SK → PyData
  | .num => .tuple [.str "num"]
  | .rows m => .tuple [.str "rows", .int (m : Int)]
def SKAt (I : Hp) : SK → Addr → Prop
  | .num, k => I k = some (.tup [SS "num"])
  | .rows m, k => I k = some (.tup [SS "rows", .int (m : Int)])
theorem SKAt.mono {I I' : Hp} (h : Same I I') {k : SK} {p : Addr} : SKAt I k p → SKAt I' k p := by cases k <;> exact h _ _
theorem SKAt.dp {K : PySem.W.Frag} {H : Hp} {k : SK} {p : Addr} (h : SKAt H k p) : Dp K H (.ref p) k.dat := by
  cases k with
  | num => exact .tup (SqT.of h) (.cons (.str _) .nil)
  | rows m => exact .tup (SqT.of h) (.cons (.str _) (.cons (.int _) .nil))
theorem SK.shaped (k : SK) : SeqAt.shaped k.dat = true := by
  have h1 : PyData.strOk "num" = true := by decide +kernel
  have h2 : PyData.strOk "rows" = true := by decide +kernel
  cases k <;> (unfold SeqAt.shaped; simp [SK.dat, PyData.depth, PyData.depthAll, PyData.canLay0, PyData.canLayAll0, h1, h2])
theorem SK.eqv (k l : SK) : PyData.eqv k.dat l.dat = decide (k = l) := by
  have h1 : (("num" : Str) == "rows") = false := by decide +kernel
  have h2 : (("rows" : Str) == "num") = false := by decide +kernel
  cases k with
  | num => cases l with
    | num => simp [SK.dat, PyData.eqv, PyData.eqvAll]
    | rows m => simp [SK.dat, PyData.eqv, PyData.eqvAll]
  | rows m => cases l with
    | num => simp [SK.dat, PyData.eqv, PyData.eqvAll]
    | rows n =>
      simp [SK.dat, PyData.eqv, PyData.eqvAll]
      by_cases h : m = n
      · subst h; simp
      · rw [decide_eq_false h, beq_eq_false_iff_ne]
        omega
abbrev Gm := List (Nat × SK)
def Gm.sc (G : Gm) : Sc := G.map fun p => (xN p.1, p.2.kd)
def NmAt (I : Hp) (p : Nat × SK) (u : V) : Prop := ∃ t k, u = .ref t ∧ I t = some (.tup [.str (xN p.1), .ref k]) ∧ SKAt I p.2 k
theorem NmAt.mono {I I' : Hp} (h : Same I I') {p : Nat × SK} {u : V} : NmAt I p u → NmAt I' p u := fun ⟨t, k, e, g, s⟩ => ⟨t, k, e, h _ _ g, s.mono h⟩
/-- a scope stands at v -/
def GmAt (I : Hp) (G : Gm) (v : V) : Prop := ∃ l us, v = .ref l ∧ I l = some (.lst us) ∧ Paired (NmAt I) G us
theorem GmAt.mono {I I' : Hp} (h : Same I I') {G : Gm} {v : V} : GmAt I G v → GmAt I' G v := fun ⟨l, us, e, g, p⟩ => ⟨l, us, e, h _ _ g, Paired.mapP p fun _ _ z => z.mono h⟩
theorem op_eqDK {X : Cx} {K' : PySem.W.Frag} (hK : X.K = K') (hu : X.A.units + 64 < cLine) : OpR X (compareOp .Eq) (rEqD K') := by
  subst hK
  exact op_eqD hu
def spHaving : Sp := fun vs H Q _ => ∃ I G k sv p, vs = [sv, .ref p] ∧ HS I [] H ∧ GmAt I G sv ∧ G.length ≤ LIM ∧ SKAt I k p ∧
  ∀ l us I' H', W [] I H I' [] H' → I' l = some (.lst us) → us.length ≤ G.length → (∀ u ∈ us, ∃ i, (i, k) ∈ G ∧ TmAt I' (.var (xN i)) u) → (k ∈ G.map (·.2) → us ≠ []) → Q (.ref l) H'
abbrev N__law_having : List Str := ["_law_scope", "_law_kind", "_law_name", "_law_own"]
theorem sc__law_having : FnScope N__law_having ["_law_scope", "_law_kind"] (defScope (top 72)) := fnScope_ok (by decide +kernel)
theorem ok_having (D : DefAt K mg "_law_having" 72) (T : Txt K mg) : Cl P w K mg base 1 "_law_having" spHaving := by
  refine cl_mk (i := 72) (N := N__law_having) (ps := ["_law_scope", "_law_kind"]) D sc__law_having (fun _ _ _ _ _ _ us hl => match us, hl with | [_, _], _ => rfl) ?_ ?_
  · rintro vs H Q E ⟨I, G, k, sv, p, rfl, _⟩
    rfl
  rintro f0 cdv A outer s0 H vs Q E hr ⟨I, G, k, sv, p, rfl, hs, hG, hGl, hk, q⟩
  refine ⟨_, (pss_one (ps_ret (pe_lc (own := [("_law_name", 2), ("_law_own", 3)]) rfl sc__law_having.nd (pi_list (pv 0)) (blkOk_by (N := N__law_having) (sc := defScope (top 72)) (by decide +kernel)) (fun _ _ _ _ _ => (pg_tupK (K' := K) (n := 2) rfl rfl (pgs_cons (pg_name (i := 2) sc__law_having.nd rfl (Or.inl rfl)) (pgs_cons (pg_name (i := 3) sc__law_having.nd rfl (Or.inl rfl)) pgs_nil)))) (fun _ _ _ _ _ => (pts_one (pt_cmpR (op_eqDK (K' := K) rfl hr.units) (pv 3) (pv 1) (nomark _)))) (fun _ _ _ _ _ => (pe_tup (pa_cons pe_str (pa_cons (pv 2) pa_nil))))))), ?_⟩
  have w0 : W [] I H I [] H := W.start hs
  obtain ⟨l, us, rfl, hl, hp⟩ := hG
  have hul := Paired.length hp
  have hlim : LIM = 1000000 := rfl
  refine ⟨_, rfl, l, rfl, ⟨_, SqL.of (w0.i hl)⟩, fun Dd hDd => ?_⟩
  have w1 := w0.newM hDd (.lst [])
  refine lc_list (K := K) (a := l) (xs := us) (fun i H' => ∃ (I' : Hp) (vs : List V), W [] I H I' ([] ++ [(Dd, .lst vs)]) H' ∧ Same I I' ∧ vs.length ≤ i ∧ (∀ u ∈ vs, ∃ j, (j, k) ∈ G ∧ TmAt I' (.var (xN j)) u) ∧ (k ∈ (G.take i).map (·.2) → vs ≠ [])) ⟨I, [], w1, Same.refl _, Nat.le_refl _, fun _ z => (by cases z), fun z => (by cases z)⟩ ?_ ?_ ?_
  · rintro i H' _ ⟨I', vs, w2, s2, _⟩
    exact SqL.of (w2.i (s2 _ _ hl))
  · rintro i x H' hx ⟨I', vs, w2, s2', hvl, hvs, hne⟩
    have hi := (List.getElem?_eq_some_iff.mp hx).1
    obtain ⟨⟨j, kd⟩, hGi, hn⟩ := Paired.get hp hx
    obtain ⟨t, kp, rfl, ht, hkp⟩ := hn.mono s2'
    have et : G.take (i + 1) = G.take i ++ [(j, kd)] := by rw [List.take_succ, hGi]; rfl
    refine ⟨t, _, rfl, SqT.of (w2.i ht), rfl, _, _, rfl, _, _, rfl, rfl, ?_⟩
    refine ⟨rfl, _, rfl, _, rfl, kd.dat, k.dat, (hkp.mono w2.hs.sub).dp, ((hk.mono s2').mono w2.hs.sub).dp, kd.shaped, k.shaped, _, rfl, ?_⟩
    by_cases hkk : kd = k
    · refine bT (by rw [SK.eqv]; exact decide_eq_true hkk) ?_
      refine ⟨_, rfl, s2, fun n hn => ?_⟩
      have w3 := w2.newI hn (.tup [SS "var", .str (xN j)])
      have u3 := w2.upI hn (.tup [SS "var", .str (xN j)])
      refine ⟨_, w3.get (i := 0) rfl, Nat.lt_of_lt_of_le (by omega : vs.length < 1000001) (by decide), _, vs ++ [.ref n], w3.set (i := 0) rfl (.lst (vs ++ [.ref n])), s2'.trans u3, by rw [List.length_append, List.length_singleton]; omega, fun u hu => ?_, fun _ z => by simp at z⟩
      rcases List.mem_append.mp hu with z | z
      · obtain ⟨j', h1, h2⟩ := hvs u z
        exact ⟨j', h1, h2.mono u3⟩
      · rw [List.mem_singleton.mp z]
        exact ⟨j, by rw [← hkk]; exact List.mem_of_getElem? hGi, n, rfl, upd_same⟩
    · refine bF (by rw [SK.eqv]; exact decide_eq_false hkk) ?_
      refine ⟨I', vs, w2, s2', by omega, hvs, fun z => hne ?_⟩
      rw [et, List.map_append] at z
      rcases List.mem_append.mp z with z | z
      · exact z
      · exact absurd (List.mem_singleton.mp z).symm hkk
  · rintro H' ⟨I', vs, w2, s2', hvl, hvs, hne⟩
    have w3 := W.freeze (M := []) w2 (by simp)
    have u3 := HS.noU (o' := .lst vs) w2.hs
    refine q Dd vs _ _ w3 upd_same (by omega) (fun u hu => ?_) fun z => hne (by rw [← hul, List.take_length]; exact z)
    obtain ⟨j', h1, h2⟩ := hvs u hu
    exact ⟨j', h1, h2.mono u3⟩
end
end KW
set_option Elab.async false
set_option linter.all false
set_option maxRecDepth 100000
set_option maxHeartbeats 4000000
/-! G1: index, entry. -/
namespace KW
open PySem PySem.Spec PyProof.Rows L2 
section
variable {P : Program} {w : World} {K : PySem.W.Frag} {mg : Str → Option Value} {base : Heap}

theorem GP.next {c c1 c2 : Nat} {I H I1 H1 : Hp} {a cl : Addr} {m m1 : Ms} (pre : GP c I H a cl m) (w : W [a] I H I1 (gM a cl m1) H1) (n : Nx c1 m m1) (h : c1 + c2 ≤ c) : GP c2 I1 H1 a cl m1 := by
  have := pre.l1
  have := pre.l2
  have := n.n1
  have := n.sp
  exact ⟨w.hs, pre.ce.mono w.st.same, by omega, by omega⟩
theorem Nx.refl (c : Nat) (m : Ms) : Nx c m m := ⟨Nat.le_refl _, Nat.le_add_right _ _, Nat.le_add_right _ _⟩
theorem Nx.trans {a b : Nat} {m m1 m2 : Ms} (x : Nx a m m1) (y : Nx b m1 m2) : Nx (a + b) m m2 := by
  have := x.n0; have := x.n1; have := x.sp; have := y.n0; have := y.n1; have := y.sp
  exact ⟨by omega, by omega, by omega⟩
theorem Nx.le {a b : Nat} {m m1 : Ms} (x : Nx a m m1) (h : a ≤ b) : Nx b m m1 := by
  have := x.n0; have := x.n1; have := x.sp
  exact ⟨by omega, by omega, by omega⟩
theorem Nx.fresh (m : Ms) : Nx 1 m { m with next := m.next + 1 } := ⟨Nat.le_succ _, Nat.le_refl _, Nat.le_succ _⟩
theorem Nx.quants (m : Ms) (i : Int) : Nx 0 m { m with quants := i } := ⟨Nat.le_refl _, Nat.le_refl _, Nat.le_refl _⟩
structure GIn (n : Nat) (G : Gm) : Prop where
  le : ∀ p ∈ G, p.1 ≤ n
  len : G.length ≤ n
theorem GIn.mono {n n' : Nat} {G : Gm} (h : GIn n G) (l : n ≤ n') : GIn n' G := ⟨fun p hp => Nat.le_trans (h.le p hp) l, Nat.le_trans h.len l⟩
theorem GIn.snoc {n : Nat} {G : Gm} (h : GIn n G) (k : SK) : GIn (n + 1) (G ++ [(n + 1, k)]) := ⟨fun p hp => by
  rcases List.mem_append.mp hp with z | z
  · exact Nat.le_succ_of_le (h.le p z)
  · rw [List.mem_singleton.mp z]; exact Nat.le_refl _, by rw [List.length_append, List.length_singleton]; exact Nat.succ_le_succ h.len⟩
theorem GIn.new {n j : Nat} {G : Gm} (h : GIn n G) (hj : n < j) : xN j ∉ (Gm.sc G).map (·.1) := fun z => by
  obtain ⟨q, hq, e⟩ := List.mem_map.mp z
  obtain ⟨p, hp, rfl⟩ := List.mem_map.mp hq
  have := h.le p hp
  have := xN_inj e
  omega
theorem sc_snoc (G : Gm) (n : Nat) (k : SK) : Gm.sc (G ++ [(n, k)]) = Gm.sc G ++ [(xN n, k.kd)] := by
  unfold Gm.sc
  rw [List.map_append]
  rfl
theorem sc_mem {G : Gm} {i : Nat} {k : SK} (h : (i, k) ∈ G) : (xN i, k.kd) ∈ Gm.sc G := List.mem_map.mpr ⟨_, h, rfl⟩
/-- what a def of the drawing gives: a term that is safe -/
def GPost (c b : Nat) (I H : Hp) (a cl : Addr) (m : Ms) (G : Gm) (k : Kd) (Q : VK) : Prop :=
  ∀ u I' H' m', W [a] I H I' (gM a cl m') H' → Nx c m m' → (∃ t, TmAt I' t u ∧ Safe b (Gm.sc G) k t ∧ notFn t) → Q u H'
def spK (lo : Nat) (k : Kd) (f c b : Nat) : Sp := fun vs H Q _ => ∃ I a cl m G sv, ∃ g : Nat, vs = [.ref a, sv, .int (g : Int)] ∧ lo ≤ g ∧ g < f ∧ GP c I H a cl m ∧ GmAt I G sv ∧ GIn m.next G ∧ GPost c b I H a cl m G k Q
def spS (f c b : Nat) : Sp := fun vs H Q _ => ∃ I a cl m G sv, ∃ z g : Nat, vs = [.ref a, sv, .int (z : Int), .int (g : Int)] ∧ 2 ≤ z ∧ z ≤ 3 ∧ g < f ∧ GP c I H a cl m ∧ GmAt I G sv ∧ GIn m.next G ∧ GPost c b I H a cl m G (.few z) Q
theorem GP.le {c c' : Nat} {I H : Hp} {a cl : Addr} {m : Ms} (p : GP c I H a cl m) (h : c' ≤ c) : GP c' I H a cl m := ⟨p.hs, p.ce, by have := p.l1; omega, by have := p.l2; omega⟩
theorem GPost.le {c c' b b' : Nat} {I H : Hp} {a cl : Addr} {m : Ms} {G : Gm} {k : Kd} {Q : VK} (p : GPost c b I H a cl m G k Q) (h : c' ≤ c) (hb : b' ≤ b) : GPost c' b' I H a cl m G k Q :=
  fun u I' H' m' w n ⟨t, ht, hs, hn⟩ => p u I' H' m' w (n.le h) ⟨t, ht, hs.up hb, hn⟩
theorem spK.le {lo : Nat} {k : Kd} {f c c' b b' : Nat} (h : c' ≤ c) (hb : b' ≤ b) : ∀ vs H Q E, spK lo k f c b vs H Q E → spK lo k f c' b' vs H Q E :=
  fun vs H Q E ⟨I, a, cl, m, G, sv, g, e, h1, h2, h3, h4, h5, h6⟩ => ⟨I, a, cl, m, G, sv, g, e, h1, h2, h3.le h, h4, h5, h6.le h hb⟩
theorem spS.le {f c c' b b' : Nat} (h : c' ≤ c) (hb : b' ≤ b) : ∀ vs H Q E, spS f c b vs H Q E → spS f c' b' vs H Q E :=
  fun vs H Q E ⟨I, a, cl, m, G, sv, z, g, e, h1, h2, h0, h3, h4, h5, h6⟩ => ⟨I, a, cl, m, G, sv, z, g, e, h1, h2, h0, h3.le h, h4, h5, h6.le h hb⟩
theorem cd2 (i : Int) : CDivW i 2 := wide_div (by decide) (b := 2) (by decide) (by decide) (by decide)
theorem sub1 {g : Nat} (h : 1 ≤ g) : (g : Int) - 1 = ((g - 1 : Nat) : Int) := by omega
theorem s1 : 1 ≤ sizeLine := by decide
theorem s3 : 3 ≤ sizeLine := by decide
theorem s4 : 4 ≤ sizeLine := by decide
theorem s5 : 5 ≤ sizeLine := by decide
def kTup : SK → List V
  | .num => [SS "num"]
  | .rows m => [SS "rows", .int (m : Int)]
theorem skAt_tup {I : Hp} {k : SK} {p : Addr} (h : I p = some (.tup (kTup k))) : SKAt I k p := by cases k <;> exact h
/-- a scope with one more name -/
theorem W.grow {A : List Addr} {I0 H0 I H : Hp} {M : List (Addr × HO)} (w : W A I0 H0 I M H) {us : List V} {G : Gm} {n : Nat} {k : SK} (hp : Paired (NmAt I) G us) {k1 t1 b1 l1 : Addr} (h1 : H k1 = none)
    (h2 : upd H k1 (.tup (kTup k)) t1 = none) (h3 : upd (upd H k1 (.tup (kTup k))) t1 (.tup [.str (xN n), .ref k1]) b1 = none)
    (h4 : upd (upd (upd H k1 (.tup (kTup k))) t1 (.tup [.str (xN n), .ref k1])) b1 (.lst [.ref t1]) l1 = none) :
    ∃ I', W A I0 H0 I' M (upd (upd (upd (upd H k1 (.tup (kTup k))) t1 (.tup [.str (xN n), .ref k1])) b1 (.lst [.ref t1])) l1 (.lst (us ++ [.ref t1]))) ∧ Same I I' ∧ GmAt I' (G ++ [(n, k)]) (.ref l1) := by
  have w1 := w.newI h1 (.tup (kTup k))
  have u1 := w.upI h1 (.tup (kTup k))
  have w2 := w1.newI h2 (.tup [.str (xN n), .ref k1])
  have u2 := w1.upI h2 (.tup [.str (xN n), .ref k1])
  have w3 := w2.newI h3 (.lst [.ref t1])
  have u3 := w2.upI h3 (.lst [.ref t1])
  have w4 := w3.newI h4 (.lst (us ++ [.ref t1]))
  have u4 := w3.upI h4 (.lst (us ++ [.ref t1]))
  have uu := u1.trans (u2.trans (u3.trans u4))
  refine ⟨_, w4, uu, l1, _, rfl, upd_same, Paired.app (Paired.mapP hp fun x y z => z.mono uu) (.cons ⟨t1, k1, rfl, ?_, skAt_tup ?_⟩ .nil)⟩
  · exact u4 _ _ (u3 _ _ upd_same)
  · exact u4 _ _ (u3 _ _ (u2 _ _ upd_same))
abbrev N__law_index : List Str := ["_law_m", "_law_scope", "_law_fuel"]
theorem sc__law_index : FnScope N__law_index ["_law_m", "_law_scope", "_law_fuel"] (defScope (top 73)) := fnScope_ok (by decide +kernel)
theorem ok_index {f c b k : Nat} (hb : 2 ≤ b) (D : DefAt K mg "_law_index" 73) (T : Txt K mg) (c__law_draw : Cl P w K mg base 1 "_law_draw" spDraw) (c__law_n : Cl P w K mg base 1 "_law_n" spN) (c__law_p : Cl P w K mg base 1 "_law_p" spP)
    (c__law_num : Cl P w K mg base (k + 2) "_law_num" (spK 0 .num f c b)) : Cl P w K mg base (k + 3) "_law_index" (spK 0 (.few 4) (f + 1) (c + 2) (b + 1)) := by
  refine cl_mk (i := 73) (N := N__law_index) (ps := ["_law_m", "_law_scope", "_law_fuel"]) D sc__law_index (fun _ _ _ _ _ _ us hl => match us, hl with | [_, _, _], _ => rfl) ?_ ?_
  · rintro vs H Q E ⟨I, a, cl, m, G, sv, g, rfl, _⟩
    rfl
  rintro f0 cdv A outer s0 H vs Q E hr ⟨I, a, cl, m, G, sv, g, rfl, hlo, hgf, pre, hG, hin, q⟩
  refine ⟨_, (pss_cons (ps_if (PW.pt (pw_or (pt_cmpR op_lt (pv 2) pe_int (nomark _)) (pw_or1 (pt_cmpR op_gt (pe_cl c__law_draw hr (by omega) rfl (pa_cons (pv 0) (pa_cons pe_int pa_nil))) pe_int (nomark _))))) (pss_one (ps_ret (pe_cl c__law_n hr (by omega) rfl (pa_cons (pe_cl c__law_draw hr (by omega) rfl (pa_cons (pv 0) (pa_cons pe_int pa_nil))) pa_nil)))) pss_nil) (pss_one (ps_ret (pe_cl c__law_p hr (by omega) rfl (pa_cons pe_str (pa_cons (pe_cl c__law_num hr (by omega) rfl (pa_cons (pv 0) (pa_cons (pv 1) (pa_cons (pe_op op_sub (pv 2) pe_int) pa_nil)))) (pa_cons (pe_cl c__law_n hr (by omega) rfl (pa_cons (pe_op op_add pe_int (pe_cl c__law_draw hr (by omega) rfl (pa_cons (pv 0) (pa_cons pe_int pa_nil)))) pa_nil)) pa_nil))))))), ?_⟩
  have w0 : W [a] I H I (gM a cl m) H := W.start pre.hs
  have n0 := Nx.refl 0 m
  refine ⟨_, rfl, _, _, rfl, rfl, _, rfl, ?_⟩
  by_cases hg : (g : Int) < 1
  · refine tT hg (iteT ?_)
    refine ⟨_, rfl, _, a, cl, _, 4, rfl, pre.next w0 n0 (c2 := 1) (by omega), by decide, by decide, fun r2 m2 H2 v2 nx2 _ _ h0 h1 => ?_⟩
    have w2 : W [a] I H I (gM a cl m2) H2 := w0.callG v2
    refine ⟨_, rfl, fun p hp => ?_⟩
    have w3 := w2.newI hp (.tup [SS "number", .int r2])
    exact q _ _ _ _ w3 ((n0.trans nx2).le (by omega)) ⟨.lit r2, ⟨p, rfl, .inl upd_same⟩, (Safe.lit (m := 4) h0 h1).up (by omega), trivial⟩
  · refine tF hg ?_
    refine ⟨_, rfl, I, a, cl, m, 3, rfl, pre.le (by omega), by decide, by decide, fun r m1 H1 v1 nx1 _ _ r0 r3 => ?_⟩
    refine ⟨_, _, rfl, rfl, _, rfl, ?_⟩
    have w1 : W [a] I H I (gM a cl m1) H1 := w0.callG v1
    by_cases hr0 : (0 : Int) < r
    · refine tT hr0 ?_
      refine ⟨_, rfl, _, a, cl, _, 4, rfl, pre.next w1 nx1 (c2 := 1) (by omega), by decide, by decide, fun r2 m2 H2 v2 nx2 _ _ h0 h1 => ?_⟩
      have w2 : W [a] I H I (gM a cl m2) H2 := w1.callG v2
      refine ⟨_, rfl, fun p hp => ?_⟩
      have w3 := w2.newI hp (.tup [SS "number", .int r2])
      exact q _ _ _ _ w3 ((nx1.trans nx2).le (by omega)) ⟨.lit r2, ⟨p, rfl, .inl upd_same⟩, (Safe.lit (m := 4) h0 h1).up (by omega), trivial⟩
    · refine tF hr0 ?_
      refine ⟨_, rfl, _, rfl, _, rfl, _, _, rfl, rfl, ?_⟩
      refine ⟨I, a, cl, m1, G, sv, g - 1, (by rw [← sub1 (by omega)]), Nat.zero_le _, by omega, pre.next w1 nx1 (by omega), hG, hin.mono nx1.n0, fun u I2 H2 m2 v2 nx2 ⟨t, ht, hs, _⟩ => ?_⟩
      have w2 : W [a] I H I2 (gM a cl m2) H2 := w1.callG v2
      have n2 := nx1.trans nx2
      refine ⟨_, rfl, I2, a, cl, m2, 3, rfl, pre.next w2 n2 (by omega), by decide, by decide, fun r3 m3 H3 v3 nx3 _ _ h0 h1 => ?_⟩
      have w3 : W [a] I H I2 (gM a cl m3) H3 := w2.callG v3
      refine ⟨_, _, rfl, rfl, _, rfl, fun p hp => ?_⟩
      have w4 := w3.newI hp (.tup [SS "number", .int (2 + r3)])
      have u4 := w3.upI hp (.tup [SS "number", .int (2 + r3)])
      refine ⟨_, _, _, rfl, fun p1 p2 hp1 hp2 => ?_⟩
      have w5 := w4.newI hp1 (.tup [u, .ref p])
      have u5 := w4.upI hp1 (.tup [u, .ref p])
      have w6 := w5.newI hp2 (.tup [SS "prim", .str "rest", .ref p1])
      have u6 := w5.upI hp2 (.tup [SS "prim", .str "rest", .ref p1])
      exact q _ _ _ _ w6 ((n2.trans nx3).le (by omega)) ⟨.prim "rest" t (.lit (2 + r3)), ⟨p2, p1, _, _, rfl, upd_same, u6 _ _ upd_same, ht.mono (u4.trans (u5.trans u6)), p, rfl, .inl (u6 _ _ (u5 _ _ upd_same))⟩, hs.rest4 (by omega) (by omega) (by have h1 : r3 < 3 := h1; omega), trivial⟩
abbrev N__law_entry : List Str := ["_law_m", "_law_scope", "_law_size", "_law_fuel", "_law_rows", "_law_row"]
theorem sc__law_entry : FnScope N__law_entry ["_law_m", "_law_scope", "_law_size", "_law_fuel"] (defScope (top 74)) := fnScope_ok (by decide +kernel)
theorem ok_entry {f c b k : Nat} (hb : 2 ≤ b) (D : DefAt K mg "_law_entry" 74) (T : Txt K mg) (c__law_having : Cl P w K mg base 1 "_law_having" spHaving) (c__law_draw : Cl P w K mg base 1 "_law_draw" spDraw) (c__law_of : Cl P w K mg base 2 "_law_of" spOf)
    (c__law_test : Cl P w K mg base (k + 2) "_law_test" (spK 0 (.few 2) f c b)) (c__law_index : Cl P w K mg base (k + 3) "_law_index" (spK 0 (.few 4) (f + 1) (c + 2) (b + 1))) : Cl P w K mg base (k + 4) "_law_entry" (spS (f + 1) (2 * c + 5) (b + 3)) := by
  refine cl_mk (i := 74) (N := N__law_entry) (ps := ["_law_m", "_law_scope", "_law_size", "_law_fuel"]) D sc__law_entry (fun _ _ _ _ _ _ us hl => match us, hl with | [_, _, _, _], _ => rfl) ?_ ?_
  · rintro vs H Q E ⟨I, a, cl, m, G, sv, z, g, rfl, _⟩
    rfl
  rintro f0 cdv A outer s0 H vs Q E hr ⟨I, a, cl, m, G, sv, z, g, rfl, hz2, hz3, hgf, pre, hG, hin, q⟩
  refine ⟨_, (pss_cons (ps_set (i := 4) sc__law_entry.nd rfl (Or.inl rfl) (pe_cl c__law_having hr (by omega) rfl (pa_cons (pv 1) (pa_cons (pe_tup (pa_cons pe_str (pa_cons (pv 2) pa_nil))) pa_nil)))) (pss_cons (ps_if (pt_cmpR (op_eqL0 hr.units0) (pv 4) (pe_lst pa_nil) (nomark _)) (pss_one (ps_ret (pe_tup (pa_cons pe_str (pa_cons (pv 2) (pa_cons (pe_cl c__law_draw hr (by omega) rfl (pa_cons (pv 0) (pa_cons (pv 2) pa_nil))) pa_nil)))))) pss_nil) (pss_cons (ps_set (i := 5) sc__law_entry.nd rfl (Or.inl rfl) (pe_cl c__law_of hr (by omega) rfl (pa_cons (pv 0) (pa_cons (pv 4) pa_nil)))) (pss_cons (ps_if (PW.pt (pw_and (pt_cmpR op_gt (pv 3) pe_int (nomark _)) (pw_and1 (pt_cmpR op_eq (pe_cl c__law_draw hr (by omega) rfl (pa_cons (pv 0) (pa_cons pe_int pa_nil))) pe_int (nomark _))))) (pss_one (ps_set (i := 5) sc__law_entry.nd rfl (Or.inl rfl) (pe_tup (pa_cons pe_str (pa_cons (pe_cl c__law_test hr (by omega) rfl (pa_cons (pv 0) (pa_cons (pv 1) (pa_cons (pe_op op_fdivW (pv 3) pe_int) pa_nil)))) (pa_cons (pv 5) (pa_cons (pe_cl c__law_of hr (by omega) rfl (pa_cons (pv 0) (pa_cons (pv 4) pa_nil))) pa_nil))))))) pss_nil) (pss_one (ps_ret (pe_tup (pa_cons pe_str (pa_cons (pv 5) (pa_cons (pe_cl c__law_index hr (by omega) rfl (pa_cons (pv 0) (pa_cons (pv 1) (pa_cons (pe_op op_fdivW (pv 3) pe_int) pa_nil)))) pa_nil)))))))))), ?_⟩
  have w0 : W [a] I H I (gM a cl m) H := W.start pre.hs
  have hlim : LIM = 1000000 := rfl
  have hl2 := pre.l2
  have hinl := hin.len
  refine ⟨_, rfl, _, rfl, s2, fun kp hkp => ?_⟩
  have w1 := w0.newI hkp (.tup [SS "rows", .int (z : Int)])
  have u1 := w0.upI hkp (.tup [SS "rows", .int (z : Int)])
  refine ⟨_, G, .rows z, sv, kp, rfl, w1.hs.left0, hG.mono u1, by omega, (show SKAt _ (.rows z) kp from upd_same), fun l us I2 H2 v2 hl hul hus hne => ?_⟩
  have w2 : W [a] I H I2 (gM a cl m) H2 := W.call (M1 := []) (M1' := []) w1 v2.st v2.hs rfl
  refine ⟨_, rfl, Nat.zero_le _, fun e he => ⟨l, e, us, rfl, rfl, SqL.of ?_, SqL.of upd_same, _, rfl, ?_⟩⟩
  · exact same_up he _ _ (w2.i hl)
  have w3 := w2.newI he (.lst [])
  have u3 := w2.upI he (.lst [])
  have n0 := Nx.refl 0 m
  have hl3 := u3 _ _ hl
  have hus3 : ∀ u ∈ us, ∃ i, (i, SK.rows z) ∈ G ∧ TmAt (upd I2 e (.lst [])) (.var (xN i)) u := fun u hu => let ⟨i, a1, a2⟩ := hus u hu; ⟨i, a1, a2.mono u3⟩
  clear hus hl u3 w2 w1 u1 v2 he hkp
  revert w3 hl3 hus3
  generalize upd I2 e (.lst []) = I3
  generalize upd H2 e (.lst []) = H3
  intro w3 hl3 hus3
  cases us with
  | nil =>
    refine iteT ?_
    refine ⟨_, rfl, _, rfl, _, rfl, I3, a, cl, m, z, rfl, pre.next w3 n0 (by omega), by omega, by omega, fun r m1 H4 v4 nx4 _ _ h0 h1 => ?_⟩
    have w4 : W [a] I H I3 (gM a cl m1) H4 := w3.callG v4
    refine ⟨s3, fun p hp => ?_⟩
    have w5 := w4.newI hp (.tup [SS "digit", .int (z : Int), .int r])
    exact q _ _ _ _ w5 (nx4.le (by omega)) ⟨.lit r, ⟨p, rfl, .inr ⟨_, upd_same⟩⟩, (Safe.lit (m := z) h0 h1).up (by omega), trivial⟩
  | cons u0 us =>
    refine iteF ?_
    refine ⟨_, rfl, _, rfl, I3, a, cl, m, l, u0 :: us, rfl, pre.next w3 n0 (by omega), w3.i hl3, (by simp), by omega, fun u m1 H4 hu v4 nx4 _ _ => ?_⟩
    have w4 : W [a] I H I3 (gM a cl m1) H4 := w3.callG v4
    obtain ⟨i, hi, hti⟩ := hus3 u hu
    refine ⟨_, rfl, _, _, rfl, rfl, _, rfl, ?_⟩
    by_cases hg : (1 : Int) < (g : Int)
    · refine tT hg ?_
      refine ⟨_, rfl, I3, a, cl, m1, 6, rfl, pre.next w4 nx4 (by omega), by decide, by decide, fun r m2 H5 v5 nx5 _ _ h0 h1 => ?_⟩
      have w5 : W [a] I H I3 (gM a cl m2) H5 := w4.callG v5
      have n5 := nx4.trans nx5
      refine ⟨rfl, _, rfl, ?_⟩
      by_cases hr0 : V.int r = V.int 0
      · refine tT hr0 ?_
        refine ⟨_, rfl, _, rfl, _, rfl, _, _, rfl, rfl, cd2 _, ?_⟩
        refine ⟨I3, a, cl, m2, G, sv, g / 2, rfl, Nat.zero_le _, by omega, pre.next w5 n5 (by omega), hG.mono w5.st.same, hin.mono n5.n0, fun u6 I6 H6 m6 v6 nx6 ⟨t6, ht6, hs6, _⟩ => ?_⟩
        have w6 : W [a] I H I6 (gM a cl m6) H6 := w5.callG v6
        have n6 := n5.trans nx6
        refine ⟨_, rfl, _, rfl, _, rfl, I6, a, cl, m6, l, u0 :: us, rfl, pre.next w6 n6 (by omega), w6.i (v6.st.same _ _ hl3), (by simp), by omega, fun u7 m7 H7 hu7 v7 nx7 _ _ => ?_⟩
        have w7 : W [a] I H I6 (gM a cl m7) H7 := w6.callG v7
        have n7 := n6.trans nx7
        obtain ⟨i7, hi7, hti7⟩ := hus3 u7 hu7
        refine ⟨s4, fun p8 hp8 => ?_⟩
        have w8 := w7.newI hp8 (.tup [SS "if", u6, u, u7])
        have u8 := w7.upI hp8 (.tup [SS "if", u6, u, u7])
        have ht8 : TmAt (upd I6 p8 (.tup [SS "if", u6, u, u7])) (.ite t6 (.var (xN i)) (.var (xN i7))) (.ref p8) := ⟨p8, _, _, _, rfl, upd_same, ht6.mono u8, hti.mono (v6.st.same.trans u8), hti7.mono (v6.st.same.trans u8)⟩
        refine ⟨_, rfl, _, rfl, _, rfl, _, rfl, _, _, rfl, rfl, cd2 _, ?_⟩
        refine ⟨_, a, cl, _, G, sv, g / 2, rfl, Nat.zero_le _, by omega, pre.next w8 n7 (by omega), hG.mono w8.st.same, hin.mono n7.n0, fun ux Ix Hx mx vx nxx ⟨tx, htx, hsx, _⟩ => ?_⟩
        have wx : W [a] I H Ix (gM a cl mx) Hx := w8.callG vx
        refine ⟨s3, fun p hp => ?_⟩
        have wy := wx.newI hp (.tup [SS "at", .ref p8, ux])
        have uy := wx.upI hp (.tup [SS "at", .ref p8, ux])
        exact q _ _ _ _ wy ((n7.trans nxx).le (by omega)) ⟨.idx (.ite t6 (.var (xN i)) (.var (xN i7))) tx, ⟨p, _, _, rfl, upd_same, (ht8).mono (vx.st.same.trans uy), htx.mono uy⟩, Safe.idx (D := b + 2) ((Safe.ite (D := b) hs6 ((Safe.var (sc_mem hi)).up (by omega)) ((Safe.var (sc_mem hi7)).up (by omega))).up (by omega)) (hsx.up (by omega)) (Nat.zero_le _), trivial⟩
      · refine tF hr0 ?_
        refine ⟨_, rfl, _, rfl, _, rfl, _, rfl, _, _, rfl, rfl, cd2 _, ?_⟩
        refine ⟨_, a, cl, _, G, sv, g / 2, rfl, Nat.zero_le _, by omega, pre.next w5 n5 (by omega), hG.mono w5.st.same, hin.mono n5.n0, fun ux Ix Hx mx vx nxx ⟨tx, htx, hsx, _⟩ => ?_⟩
        have wx : W [a] I H Ix (gM a cl mx) Hx := w5.callG vx
        refine ⟨s3, fun p hp => ?_⟩
        have wy := wx.newI hp (.tup [SS "at", u, ux])
        have uy := wx.upI hp (.tup [SS "at", u, ux])
        exact q _ _ _ _ wy ((n5.trans nxx).le (by omega)) ⟨.idx (.var (xN i)) tx, ⟨p, _, _, rfl, upd_same, (hti).mono (vx.st.same.trans uy), htx.mono uy⟩, Safe.idx (D := b + 2) ((Safe.var (sc_mem hi)).up (by omega)) (hsx.up (by omega)) (Nat.zero_le _), trivial⟩
    · refine tF hg (iteF ?_)
      refine ⟨_, rfl, _, rfl, _, rfl, _, rfl, _, _, rfl, rfl, cd2 _, ?_⟩
      refine ⟨_, a, cl, _, G, sv, g / 2, rfl, Nat.zero_le _, by omega, pre.next w4 nx4 (by omega), hG.mono w4.st.same, hin.mono nx4.n0, fun ux Ix Hx mx vx nxx ⟨tx, htx, hsx, _⟩ => ?_⟩
      have wx : W [a] I H Ix (gM a cl mx) Hx := w4.callG vx
      refine ⟨s3, fun p hp => ?_⟩
      have wy := wx.newI hp (.tup [SS "at", u, ux])
      have uy := wx.upI hp (.tup [SS "at", u, ux])
      exact q _ _ _ _ wy ((nx4.trans nxx).le (by omega)) ⟨.idx (.var (xN i)) tx, ⟨p, _, _, rfl, upd_same, (hti).mono (vx.st.same.trans uy), htx.mono uy⟩, Safe.idx (D := b + 2) ((Safe.var (sc_mem hi)).up (by omega)) (hsx.up (by omega)) (Nat.zero_le _), trivial⟩
end
end KW
set_option Elab.async false
set_option linter.all false
set_option maxRecDepth 100000
set_option maxHeartbeats 4000000
/-! G2: test, few. -/
namespace KW
open PySem PySem.Spec PyProof.Rows L2 
section
variable {P : Program} {w : World} {K : PySem.W.Frag} {mg : Str → Option Value} {base : Heap}
abbrev N__law_test : List Str := ["_law_m", "_law_scope", "_law_fuel", "_law_way", "_law_name", "_law_word", "_law_body"]
theorem sc__law_test : FnScope N__law_test ["_law_m", "_law_scope", "_law_fuel"] (defScope (top 76)) := fnScope_ok (by decide +kernel)
theorem ok_test {f c b k : Nat} (hb : 2 ≤ b) (D : DefAt K mg "_law_test" 76) (T : Txt K mg) (c__law_draw : Cl P w K mg base 1 "_law_draw" spDraw) (c__law_of : Cl P w K mg base 2 "_law_of" spOf) (c__law_fresh : Cl P w K mg base 1 "_law_fresh" spFresh) (c__law_n : Cl P w K mg base 1 "_law_n" spN) (c__law_p : Cl P w K mg base 1 "_law_p" spP)
    (c__law_num : Cl P w K mg base (k + 2) "_law_num" (spK 0 .num f c b)) (c__law_test : Cl P w K mg base (k + 2) "_law_test" (spK 0 (.few 2) f c b)) (c__law_few : Cl P w K mg base (k + 2) "_law_few" (spS f c b)) (c__law_entry : Cl P w K mg base (k + 4) "_law_entry" (spS (f + 1) (2 * c + 5) (b + 3))) (c__law_entry' : Cl P w K mg base (k + 2) "_law_entry" (spS f c b)) : Cl P w K mg base (k + 5) "_law_test" (spK 0 (.few 2) (f + 1) (3 * c + 6) (b + 3)) := by
  refine cl_mk (i := 76) (N := N__law_test) (ps := ["_law_m", "_law_scope", "_law_fuel"]) D sc__law_test (fun _ _ _ _ _ _ us hl => match us, hl with | [_, _, _], _ => rfl) ?_ ?_
  · rintro vs H Q E ⟨I, a, cl, m, G, sv, g, rfl, _⟩
    rfl
  rintro f0 cdv A outer s0 H vs Q E hr ⟨I, a, cl, m, G, sv, g, rfl, hlo, hgf, pre, hG, hin, q⟩
  refine ⟨_, (pss_cons (ps_set (i := 3) sc__law_test.nd rfl (Or.inl rfl) (pe_cl c__law_draw hr (by omega) rfl (pa_cons (pv 0) (pa_cons pe_int pa_nil)))) (pss_cons (ps_if (pt_cmpR op_lt (pv 2) pe_int (nomark _)) (pss_one (ps_ret (pe_cl c__law_entry hr (by omega) rfl (pa_cons (pv 0) (pa_cons (pv 1) (pa_cons pe_int (pa_cons pe_int pa_nil))))))) pss_nil) (pss_cons (ps_if (pt_cmpR op_lt (pv 3) pe_int (nomark _)) (pss_one (ps_ret (pe_cl c__law_p hr (by omega) rfl (pa_cons (pe_cl c__law_of hr (by omega) rfl (pa_cons (pv 0) (pa_cons (pe_lst (pa_cons pe_str (pa_cons pe_str pa_nil))) pa_nil))) (pa_cons (pe_cl c__law_num hr (by omega) rfl (pa_cons (pv 0) (pa_cons (pv 1) (pa_cons (pe_op op_fdivW (pv 2) pe_int) pa_nil)))) (pa_cons (pe_cl c__law_num hr (by omega) rfl (pa_cons (pv 0) (pa_cons (pv 1) (pa_cons (pe_op op_fdivW (pv 2) pe_int) pa_nil)))) pa_nil)))))) pss_nil) (pss_cons (ps_if (PW.pt (pw_and (pt_cmpR op_eq (pv 3) pe_int (nomark _)) (pw_and1 (pt_cmpR op_gt (pe_dget (hu_of hr) (pv 0) pe_str (fun _ _ => rfl)) pe_int (nomark _))))) (pss_cons (ps_dput (hu_of hr) (pv 0) pe_str (pe_op op_sub (pe_dget (hu_of hr) (pv 0) pe_str (fun _ _ => rfl)) pe_int) rfl) (pss_cons (ps_par (i := 4) (j := 5) rfl sc__law_test.nd rfl rfl (by decide) rfl rfl (pa_cons (pe_cl c__law_fresh hr (by omega) rfl (pa_cons (pv 0) pa_nil)) (pa_cons (pe_cl c__law_of hr (by omega) rfl (pa_cons (pv 0) (pa_cons (pe_lst (pa_cons pe_str (pa_cons pe_str pa_nil))) pa_nil))) pa_nil)) (by rfl)) (pss_one (ps_ret (pe_tup (pa_cons (pv 5) (pa_cons (pv 4) (pa_cons pe_int (pa_cons (pe_cl c__law_test hr (by omega) rfl (pa_cons (pv 0) (pa_cons (pe_op op_cat (pv 1) (pe_lst (pa_cons (pe_tup (pa_cons (pv 4) (pa_cons (pe_tup (pa_cons pe_str (pa_cons pe_int pa_nil))) pa_nil))) pa_nil))) (pa_cons (pe_op op_sub (pv 2) pe_int) pa_nil)))) pa_nil))))))))) pss_nil) (pss_cons (ps_if (PW.pt (pw_and (pt_cmpR op_eq (pv 3) pe_int (nomark _)) (pw_and1 (pt_cmpR op_gt (pe_dget (hu_of hr) (pv 0) pe_str (fun _ _ => rfl)) pe_int (nomark _))))) (pss_cons (ps_dput (hu_of hr) (pv 0) pe_str (pe_op op_sub (pe_dget (hu_of hr) (pv 0) pe_str (fun _ _ => rfl)) pe_int) rfl) (pss_cons (ps_set (i := 4) sc__law_test.nd rfl (Or.inl rfl) (pe_cl c__law_fresh hr (by omega) rfl (pa_cons (pv 0) pa_nil))) (pss_cons (ps_set (i := 6) sc__law_test.nd rfl (Or.inl rfl) (pe_cl c__law_test hr (by omega) rfl (pa_cons (pv 0) (pa_cons (pe_op op_cat (pv 1) (pe_lst (pa_cons (pe_tup (pa_cons (pv 4) (pa_cons (pe_tup (pa_cons pe_str (pa_cons pe_int pa_nil))) pa_nil))) pa_nil))) (pa_cons (pe_op op_sub (pv 2) pe_int) pa_nil))))) (pss_one (ps_ret (pe_tup (pa_cons pe_str (pa_cons (pe_tup (pa_cons pe_str (pa_cons (pv 4) (pa_cons pe_int (pa_cons (pv 6) pa_nil))))) (pa_cons (pe_cl c__law_n hr (by omega) rfl (pa_cons (pe_cl c__law_draw hr (by omega) rfl (pa_cons (pv 0) (pa_cons pe_int pa_nil))) pa_nil)) pa_nil))))))))) pss_nil) (pss_one (ps_ret (pe_tup (pa_cons pe_str (pa_cons (pe_cl c__law_entry' hr (by omega) rfl (pa_cons (pv 0) (pa_cons (pv 1) (pa_cons pe_int (pa_cons (pe_op op_fdivW (pv 2) pe_int) pa_nil))))) (pa_cons (pe_cl c__law_few hr (by omega) rfl (pa_cons (pv 0) (pa_cons (pv 1) (pa_cons pe_int (pa_cons (pe_op op_fdivW (pv 2) pe_int) pa_nil))))) (pa_cons (pe_cl c__law_few hr (by omega) rfl (pa_cons (pv 0) (pa_cons (pv 1) (pa_cons pe_int (pa_cons (pe_op op_fdivW (pv 2) pe_int) pa_nil))))) pa_nil)))))))))))), ?_⟩
  have w0 : W [a] I H I (gM a cl m) H := W.start pre.hs
  have hlim : LIM = 1000000 := rfl
  have hl2 := pre.l2
  have hinl := hin.len
  obtain ⟨ls, us, rfl, hls, hps⟩ := id hG
  refine ⟨_, rfl, I, a, cl, m, 6, rfl, pre.le (by omega), by decide, by decide, fun r m1 H1 v1 nx1 _ _ r0 r6 => ?_⟩
  have w1 : W [a] I H I (gM a cl m1) H1 := w0.callG v1
  refine ⟨_, rfl, _, _, rfl, rfl, _, rfl, ?_⟩
  by_cases hg : (g : Int) < 1
  · refine tT hg ?_
    refine ⟨_, rfl, _, rfl, I, a, cl, m1, G, .ref ls, 2, 0, rfl, by decide, by decide, by omega, pre.next w1 nx1 (by omega), hG, hin.mono nx1.n0, fun u2 I2 H2 m2 v2 nx2 ⟨t2, ht2, hs2, hn2⟩ => ?_⟩
    exact q _ _ _ _ (w1.callG v2) ((nx1.trans nx2).le (by omega)) ⟨t2, ht2, hs2, hn2⟩
  refine tF hg ?_
  refine ⟨_, rfl, _, _, rfl, rfl, _, rfl, ?_⟩
  by_cases hr3 : r < 3
  · refine tT hr3 ?_
    refine ⟨_, rfl, s2, fun lw hlw => ?_⟩
    have w3 := w1.newI hlw (.lst [SS "below", SS "same"])
    have u3 := w1.upI hlw (.lst [SS "below", SS "same"])
    refine ⟨_, a, cl, m1, lw, [SS "below", SS "same"], rfl, pre.next w3 nx1 (by omega), upd_same, (by simp), (by decide), fun uw m4 H4 hu v4 nx4 e4 _ => ?_⟩
    have w4 : W [a] I H _ (gM a cl m4) H4 := w3.callG v4
    have n4 := nx1.trans nx4
    obtain ⟨op, rfl, hop⟩ : ∃ op, uw = .str op ∧ (op = "below" ∨ op = "same") := by
      rcases List.mem_cons.mp hu with e | e
      · exact ⟨_, e, .inl rfl⟩
      · exact ⟨_, List.mem_singleton.mp e, .inr rfl⟩
    refine ⟨_, rfl, _, rfl, _, rfl, _, _, rfl, rfl, cd2 _, ?_⟩
    refine ⟨_, a, cl, m4, G, .ref ls, g / 2, rfl, Nat.zero_le _, by omega, pre.next w4 n4 (by omega), hG.mono u3, hin.mono n4.n0, fun u5 I5 H5 m5 v5 nx5 ⟨t5, ht5, hs5, _⟩ => ?_⟩
    have w5 : W [a] I H I5 (gM a cl m5) H5 := w4.callG v5
    have n5 := n4.trans nx5
    refine ⟨_, rfl, _, rfl, _, rfl, _, _, rfl, rfl, cd2 _, ?_⟩
    refine ⟨I5, a, cl, m5, G, .ref ls, g / 2, rfl, Nat.zero_le _, by omega, pre.next w5 n5 (by omega), hG.mono w5.st.same, hin.mono n5.n0, fun u6 I6 H6 m6 v6 nx6 ⟨t6, ht6, hs6, _⟩ => ?_⟩
    have w6 : W [a] I H I6 (gM a cl m6) H6 := w5.callG v6
    have n6 := n5.trans nx6
    refine ⟨_, _, _, rfl, fun p1 p2 hp1 hp2 => ?_⟩
    have w7 := w6.newI hp1 (.tup [u5, u6])
    have u7 := w6.upI hp1 (.tup [u5, u6])
    have w8 := w7.newI hp2 (.tup [SS "prim", .str op, .ref p1])
    have u8 := w7.upI hp2 (.tup [SS "prim", .str op, .ref p1])
    exact q _ _ _ _ w8 (n6.le (by omega)) ⟨.prim op t5 t6, ⟨p2, p1, _, _, rfl, upd_same, u8 _ _ upd_same, ht5.mono (v6.st.same.trans (u7.trans u8)), ht6.mono (u7.trans u8)⟩, (Safe.pbit hop hs5 hs6).up (by omega), trivial⟩
  refine tF hr3 ?_
  refine ⟨_, rfl, rfl, _, rfl, ?_⟩
  by_cases h3 : V.int r = V.int 3
  · refine tT h3 ?_
    refine ⟨_, rfl, a, _, rfl, DG (w1.get (i := 0) rfl) mk_quants, _, _, rfl, rfl, _, rfl, ?_⟩
    by_cases hq : (0 : Int) < m1.quants
    · refine tT hq ?_
      refine ⟨_, rfl, a, _, rfl, DG (w1.get (i := 0) rfl) mk_quants, _, _, rfl, rfl, _, rfl, a, _, rfl, DP (w1.get (i := 0) rfl) (mp_quants (i := m1.quants - 1)) mk_len, ?_⟩
      have wq : W [a] I H I (gM a cl { m1 with quants := m1.quants - 1 }) _ := w1.set (i := 0) rfl (.dK (mK cl { m1 with quants := m1.quants - 1 }))
      have nq := nx1.trans (Nx.quants m1 (m1.quants - 1))
      refine ⟨_, rfl, I, a, cl, _, rfl, pre.next wq nq (by omega), fun H2 v2 => ?_⟩
      have w2 : W [a] I H I (gM a cl { m1 with quants := m1.quants - 1, next := m1.next + 1 }) H2 := wq.callG v2
      have n2 := nq.trans (Nx.fresh { m1 with quants := m1.quants - 1 })
      have hnew := (hin.mono nx1.n0).new (Nat.lt_succ_self _)
      have hgin := (hin.mono nx1.n0).snoc (.rows 2)
      refine ⟨_, rfl, s2, fun lw hlw => ?_⟩
      have w3 := w2.newI hlw (.lst [SS "some", SS "every"])
      have u3 := w2.upI hlw (.lst [SS "some", SS "every"])
      refine ⟨_, a, cl, _, lw, [SS "some", SS "every"], rfl, pre.next w3 n2 (by omega), upd_same, (by simp), (by decide), fun uw m4 H4 hu v4 nx4 e4 _ => ?_⟩
      have w4 : W [a] I H _ (gM a cl m4) H4 := w3.callG v4
      have n4 := n2.trans nx4
      obtain ⟨op, rfl, hop⟩ : ∃ op, uw = .str op ∧ (op = "some" ∨ op = "every") := by
        rcases List.mem_cons.mp hu with e | e
        · exact ⟨_, e, .inl rfl⟩
        · exact ⟨_, List.mem_singleton.mp e, .inr rfl⟩
      refine ⟨_, _, rfl, ?_⟩
      refine ⟨_, rfl, _, rfl, _, rfl, ?_⟩
      refine ⟨_, rfl, _, rfl, s2, fun k5 hk5 => ⟨s2, fun t5 ht5 => ⟨s1, fun b5 hb5 => ⟨ls, b5, us, [.ref t5], rfl, rfl, same_up hb5 _ _ (same_up ht5 _ _ (same_up hk5 _ _ (w4.i (u3 _ _ hls)))), upd_same, ?_, fun l5 hl5 => ?_⟩⟩⟩⟩
      · rw [← Paired.length hps]
        exact Nat.le_trans (by show G.length + 1 ≤ 1000001; omega) (by decide)
      obtain ⟨Ig5, wg5, ug5, hgg5⟩ := W.grow (n := m1.next + 1) (k := (.rows 2)) w4 (Paired.mapP hps fun _ _ z => z.mono u3) hk5 ht5 hb5 hl5
      refine ⟨_, rfl, _, _, rfl, rfl, ?_⟩
      refine ⟨Ig5, a, cl, m4, G ++ [(m1.next + 1, .rows 2)], .ref l5, g - 1, (by rw [← sub1 (by omega)]), Nat.zero_le _, by omega, pre.next wg5 n4 (by omega), hgg5, (by rw [e4]; exact hgin), fun u6 I6 H6 m6 v6 nx6 ⟨t6, ht6, hs6, _⟩ => ?_⟩
      have w6 : W [a] I H I6 (gM a cl m6) H6 := wg5.callG v6
      have n6 := n4.trans nx6
      rw [sc_snoc] at hs6
      refine ⟨s4, fun p hp => ?_⟩
      have w7 := w6.newI hp (.tup [.str op, .str (xN (m1.next + 1)), .int 2, u6])
      have u7 := w6.upI hp (.tup [.str op, .str (xN (m1.next + 1)), .int 2, u6])
      exact q _ _ _ _ w7 (n6.le (by omega)) ⟨.qu op (xN (m1.next + 1)) 2 t6, ⟨p, _, rfl, upd_same, ht6.mono u7, by rcases hop with z | z <;> subst z <;> simp⟩, (Safe.qbit hop hs6 hnew (by decide) (by decide)).up (by omega), trivial⟩
    · refine tF hq ?_
      refine ⟨_, rfl, rfl, _, rfl, tF (by rw [h3]; intro z; cases z) (iteF ?_)⟩
      refine ⟨_, rfl, _, rfl, _, rfl, _, _, rfl, rfl, cd2 _, ?_⟩
      refine ⟨I, a, cl, m1, G, .ref ls, 2, g / 2, rfl, by decide, by decide, by omega, pre.next w1 nx1 (by omega), hG, hin.mono nx1.n0, fun u2 I2 H2 m2 v2 nx2 ⟨t2, ht2, hs2, _⟩ => ?_⟩
      have w2 : W [a] I H I2 (gM a cl m2) H2 := w1.callG v2
      have n2 := nx1.trans nx2
      refine ⟨_, rfl, _, rfl, _, rfl, _, _, rfl, rfl, cd2 _, ?_⟩
      refine ⟨I2, a, cl, m2, G, .ref ls, 2, g / 2, rfl, by decide, by decide, by omega, pre.next w2 n2 (by omega), hG.mono w2.st.same, hin.mono n2.n0, fun u3 I3 H3 m3 v3 nx3 ⟨t3, ht3, hs3, _⟩ => ?_⟩
      have w3 : W [a] I H I3 (gM a cl m3) H3 := w2.callG v3
      have n3 := n2.trans nx3
      refine ⟨_, rfl, _, rfl, _, rfl, _, _, rfl, rfl, cd2 _, ?_⟩
      refine ⟨I3, a, cl, m3, G, .ref ls, 2, g / 2, rfl, by decide, by decide, by omega, pre.next w3 n3 (by omega), hG.mono w3.st.same, hin.mono n3.n0, fun u4 I4 H4 m4 v4 nx4 ⟨t4, ht4, hs4, _⟩ => ?_⟩
      have w4 : W [a] I H I4 (gM a cl m4) H4 := w3.callG v4
      have n4 := n3.trans nx4
      refine ⟨s4, fun p hp => ?_⟩
      have w5 := w4.newI hp (.tup [SS "if", u2, u3, u4])
      have u5 := w4.upI hp (.tup [SS "if", u2, u3, u4])
      exact q _ _ _ _ w5 (n4.le (by omega)) ⟨.ite t2 t3 t4, ⟨p, _, _, _, rfl, upd_same, ht2.mono (v3.st.same.trans (v4.st.same.trans u5)), ht3.mono (v4.st.same.trans u5), ht4.mono u5⟩, (Safe.ite hs2 hs3 hs4).up (by omega), trivial⟩
  · refine tF h3 (iteF ?_)
    refine ⟨_, rfl, rfl, _, rfl, ?_⟩
    by_cases h4 : V.int r = V.int 4
    · refine tT h4 ?_
      refine ⟨_, rfl, a, _, rfl, DG (w1.get (i := 0) rfl) mk_quants, _, _, rfl, rfl, _, rfl, ?_⟩
      by_cases hq : (0 : Int) < m1.quants
      · refine tT hq ?_
        refine ⟨_, rfl, a, _, rfl, DG (w1.get (i := 0) rfl) mk_quants, _, _, rfl, rfl, _, rfl, a, _, rfl, DP (w1.get (i := 0) rfl) (mp_quants (i := m1.quants - 1)) mk_len, ?_⟩
        have wq : W [a] I H I (gM a cl { m1 with quants := m1.quants - 1 }) _ := w1.set (i := 0) rfl (.dK (mK cl { m1 with quants := m1.quants - 1 }))
        have nq := nx1.trans (Nx.quants m1 (m1.quants - 1))
        refine ⟨_, rfl, I, a, cl, _, rfl, pre.next wq nq (by omega), fun H2 v2 => ?_⟩
        have w2 : W [a] I H I (gM a cl { m1 with quants := m1.quants - 1, next := m1.next + 1 }) H2 := wq.callG v2
        have n2 := nq.trans (Nx.fresh { m1 with quants := m1.quants - 1 })
        have hnew := (hin.mono nx1.n0).new (Nat.lt_succ_self _)
        have hgin := (hin.mono nx1.n0).snoc (.rows 2)
        refine ⟨_, rfl, ?_⟩
        refine ⟨_, rfl, _, rfl, s2, fun k5 hk5 => ⟨s2, fun t5 ht5 => ⟨s1, fun b5 hb5 => ⟨ls, b5, us, [.ref t5], rfl, rfl, same_up hb5 _ _ (same_up ht5 _ _ (same_up hk5 _ _ (w2.i hls))), upd_same, ?_, fun l5 hl5 => ?_⟩⟩⟩⟩
        · rw [← Paired.length hps]
          exact Nat.le_trans (by show G.length + 1 ≤ 1000001; omega) (by decide)
        obtain ⟨Ig5, wg5, ug5, hgg5⟩ := W.grow (n := m1.next + 1) (k := (.rows 2)) w2 hps hk5 ht5 hb5 hl5
        refine ⟨_, rfl, _, _, rfl, rfl, ?_⟩
        refine ⟨Ig5, a, cl, _, G ++ [(m1.next + 1, .rows 2)], .ref l5, g - 1, (by rw [← sub1 (by omega)]), Nat.zero_le _, by omega, pre.next wg5 n2 (by omega), hgg5, hgin, fun u6 I6 H6 m6 v6 nx6 ⟨t6, ht6, hs6, _⟩ => ?_⟩
        have w6 : W [a] I H I6 (gM a cl m6) H6 := wg5.callG v6
        have n6 := n2.trans nx6
        rw [sc_snoc] at hs6
        refine ⟨_, rfl, _, rfl, s4, fun pf hpf => ?_⟩
        have w7 := w6.newI hpf (.tup [SS "find", .str (xN (m1.next + 1)), .int 2, u6])
        have u7 := w6.upI hpf (.tup [SS "find", .str (xN (m1.next + 1)), .int 2, u6])
        refine ⟨_, rfl, _, a, cl, m6, 3, rfl, pre.next w7 n6 (by omega), by decide, by decide, fun r8 m8 H8 v8 nx8 _ _ h0 h1 => ?_⟩
        have w8 : W [a] I H _ (gM a cl m8) H8 := w7.callG v8
        refine ⟨_, rfl, fun pn hpn => ⟨s3, fun p hp => ?_⟩⟩
        have w9 := w8.newI hpn (.tup [SS "number", .int r8])
        have u9 := w8.upI hpn (.tup [SS "number", .int r8])
        have w10 := w9.newI hp (.tup [SS "at", .ref pf, .ref pn])
        have u10 := w9.upI hp (.tup [SS "at", .ref pf, .ref pn])
        exact q _ _ _ _ w10 ((n6.trans nx8).le (by omega)) ⟨.idx (.qu "find" (xN (m1.next + 1)) 2 t6) (.lit r8), ⟨p, _, _, rfl, upd_same, ⟨pf, _, rfl, u10 _ _ (u9 _ _ upd_same), ht6.mono (u7.trans (u9.trans u10)), by simp⟩, pn, rfl, .inl (u10 _ _ upd_same)⟩,
          (Safe.idx (D := b + 1) (Safe.qfind hs6 hnew (by decide) (by decide)) ((Safe.lit (m := 4) h0 (by have h1 : r8 < 3 := h1; show r8 < 4; omega)).up (by omega)) (Nat.zero_le _)).up (by omega), trivial⟩
      · refine tF hq ?_
        refine ⟨_, rfl, _, rfl, _, rfl, _, _, rfl, rfl, cd2 _, ?_⟩
        refine ⟨I, a, cl, m1, G, .ref ls, 2, g / 2, rfl, by decide, by decide, by omega, pre.next w1 nx1 (by omega), hG, hin.mono nx1.n0, fun u2 I2 H2 m2 v2 nx2 ⟨t2, ht2, hs2, _⟩ => ?_⟩
        have w2 : W [a] I H I2 (gM a cl m2) H2 := w1.callG v2
        have n2 := nx1.trans nx2
        refine ⟨_, rfl, _, rfl, _, rfl, _, _, rfl, rfl, cd2 _, ?_⟩
        refine ⟨I2, a, cl, m2, G, .ref ls, 2, g / 2, rfl, by decide, by decide, by omega, pre.next w2 n2 (by omega), hG.mono w2.st.same, hin.mono n2.n0, fun u3 I3 H3 m3 v3 nx3 ⟨t3, ht3, hs3, _⟩ => ?_⟩
        have w3 : W [a] I H I3 (gM a cl m3) H3 := w2.callG v3
        have n3 := n2.trans nx3
        refine ⟨_, rfl, _, rfl, _, rfl, _, _, rfl, rfl, cd2 _, ?_⟩
        refine ⟨I3, a, cl, m3, G, .ref ls, 2, g / 2, rfl, by decide, by decide, by omega, pre.next w3 n3 (by omega), hG.mono w3.st.same, hin.mono n3.n0, fun u4 I4 H4 m4 v4 nx4 ⟨t4, ht4, hs4, _⟩ => ?_⟩
        have w4 : W [a] I H I4 (gM a cl m4) H4 := w3.callG v4
        have n4 := n3.trans nx4
        refine ⟨s4, fun p hp => ?_⟩
        have w5 := w4.newI hp (.tup [SS "if", u2, u3, u4])
        have u5 := w4.upI hp (.tup [SS "if", u2, u3, u4])
        exact q _ _ _ _ w5 (n4.le (by omega)) ⟨.ite t2 t3 t4, ⟨p, _, _, _, rfl, upd_same, ht2.mono (v3.st.same.trans (v4.st.same.trans u5)), ht3.mono (v4.st.same.trans u5), ht4.mono u5⟩, (Safe.ite hs2 hs3 hs4).up (by omega), trivial⟩
    · refine tF h4 (iteF ?_)
      refine ⟨_, rfl, _, rfl, _, rfl, _, _, rfl, rfl, cd2 _, ?_⟩
      refine ⟨I, a, cl, m1, G, .ref ls, 2, g / 2, rfl, by decide, by decide, by omega, pre.next w1 nx1 (by omega), hG, hin.mono nx1.n0, fun u2 I2 H2 m2 v2 nx2 ⟨t2, ht2, hs2, _⟩ => ?_⟩
      have w2 : W [a] I H I2 (gM a cl m2) H2 := w1.callG v2
      have n2 := nx1.trans nx2
      refine ⟨_, rfl, _, rfl, _, rfl, _, _, rfl, rfl, cd2 _, ?_⟩
      refine ⟨I2, a, cl, m2, G, .ref ls, 2, g / 2, rfl, by decide, by decide, by omega, pre.next w2 n2 (by omega), hG.mono w2.st.same, hin.mono n2.n0, fun u3 I3 H3 m3 v3 nx3 ⟨t3, ht3, hs3, _⟩ => ?_⟩
      have w3 : W [a] I H I3 (gM a cl m3) H3 := w2.callG v3
      have n3 := n2.trans nx3
      refine ⟨_, rfl, _, rfl, _, rfl, _, _, rfl, rfl, cd2 _, ?_⟩
      refine ⟨I3, a, cl, m3, G, .ref ls, 2, g / 2, rfl, by decide, by decide, by omega, pre.next w3 n3 (by omega), hG.mono w3.st.same, hin.mono n3.n0, fun u4 I4 H4 m4 v4 nx4 ⟨t4, ht4, hs4, _⟩ => ?_⟩
      have w4 : W [a] I H I4 (gM a cl m4) H4 := w3.callG v4
      have n4 := n3.trans nx4
      refine ⟨s4, fun p hp => ?_⟩
      have w5 := w4.newI hp (.tup [SS "if", u2, u3, u4])
      have u5 := w4.upI hp (.tup [SS "if", u2, u3, u4])
      exact q _ _ _ _ w5 (n4.le (by omega)) ⟨.ite t2 t3 t4, ⟨p, _, _, _, rfl, upd_same, ht2.mono (v3.st.same.trans (v4.st.same.trans u5)), ht3.mono (v4.st.same.trans u5), ht4.mono u5⟩, (Safe.ite hs2 hs3 hs4).up (by omega), trivial⟩
end
end KW
set_option Elab.async false
set_option linter.all false
set_option maxRecDepth 100000
set_option maxHeartbeats 4000000
/-! G3: few. -/
namespace KW
open PySem PySem.Spec PyProof.Rows L2 
section
variable {P : Program} {w : World} {K : PySem.W.Frag} {mg : Str → Option Value} {base : Heap}
abbrev N__law_few : List Str := ["_law_m", "_law_scope", "_law_size", "_law_fuel", "_law_way", "_law_name", "_law_body"]
theorem sc__law_few : FnScope N__law_few ["_law_m", "_law_scope", "_law_size", "_law_fuel"] (defScope (top 75)) := fnScope_ok (by decide +kernel)
theorem ok_few {f c b k : Nat} (hb : 2 ≤ b) (D : DefAt K mg "_law_few" 75) (T : Txt K mg) (c__law_draw : Cl P w K mg base 1 "_law_draw" spDraw) (c__law_fresh : Cl P w K mg base 1 "_law_fresh" spFresh)
    (c__law_num : Cl P w K mg base (k + 2) "_law_num" (spK 0 .num f c b)) (c__law_test' : Cl P w K mg base (k + 2) "_law_test" (spK 0 (.few 2) f c b)) (c__law_few : Cl P w K mg base (k + 2) "_law_few" (spS f c b)) (c__law_index : Cl P w K mg base (k + 2) "_law_index" (spK 0 (.few 4) f c b))
    (c__law_entry : Cl P w K mg base (k + 4) "_law_entry" (spS (f + 1) (2 * c + 5) (b + 3))) (c__law_test : Cl P w K mg base (k + 5) "_law_test" (spK 0 (.few 2) (f + 1) (3 * c + 6) (b + 3))) : Cl P w K mg base (k + 6) "_law_few" (spS (f + 1) (3 * c + 7) (b + 3)) := by
  refine cl_mk (i := 75) (N := N__law_few) (ps := ["_law_m", "_law_scope", "_law_size", "_law_fuel"]) D sc__law_few (fun _ _ _ _ _ _ us hl => match us, hl with | [_, _, _, _], _ => rfl) ?_ ?_
  · rintro vs H Q E ⟨I, a, cl, m, G, sv, z, g, rfl, _⟩
    rfl
  rintro f0 cdv A outer s0 H vs Q E hr ⟨I, a, cl, m, G, sv, z, g, rfl, hz2, hz3, hgf, pre, hG, hin, q⟩
  refine ⟨_, (pss_cons (ps_set (i := 4) sc__law_few.nd rfl (Or.inl rfl) (pe_cl c__law_draw hr (by omega) rfl (pa_cons (pv 0) (pa_cons pe_int pa_nil)))) (pss_cons (ps_if (PW.pt (pw_or (pt_cmpR op_lt (pv 4) pe_int (nomark _)) (pw_or1 (pt_cmpR op_lt (pv 3) pe_int (nomark _))))) (pss_one (ps_ret (pe_cl c__law_entry hr (by omega) rfl (pa_cons (pv 0) (pa_cons (pv 1) (pa_cons (pv 2) (pa_cons (pv 3) pa_nil))))))) pss_nil) (pss_cons (ps_if (pt_cmpR op_eq (pv 4) pe_int (nomark _)) (pss_one (ps_ret (pe_tup (pa_cons pe_str (pa_cons (pv 2) (pa_cons (pe_cl c__law_num hr (by omega) rfl (pa_cons (pv 0) (pa_cons (pv 1) (pa_cons (pe_op op_sub (pv 3) pe_int) pa_nil)))) pa_nil)))))) pss_nil) (pss_cons (ps_if (pt_cmpR op_eq (pv 4) pe_int (nomark _)) (pss_one (ps_ret (pe_tup (pa_cons pe_str (pa_cons (pe_cl c__law_test' hr (by omega) rfl (pa_cons (pv 0) (pa_cons (pv 1) (pa_cons (pe_op op_fdivW (pv 3) pe_int) pa_nil)))) (pa_cons (pe_cl c__law_few hr (by omega) rfl (pa_cons (pv 0) (pa_cons (pv 1) (pa_cons (pv 2) (pa_cons (pe_op op_fdivW (pv 3) pe_int) pa_nil))))) (pa_cons (pe_cl c__law_few hr (by omega) rfl (pa_cons (pv 0) (pa_cons (pv 1) (pa_cons (pv 2) (pa_cons (pe_op op_fdivW (pv 3) pe_int) pa_nil))))) pa_nil))))))) pss_nil) (pss_cons (ps_if (pt_cmpR op_eq (pv 4) pe_int (nomark _)) (pss_cons (ps_set (i := 5) sc__law_few.nd rfl (Or.inl rfl) (pe_cl c__law_fresh hr (by omega) rfl (pa_cons (pv 0) pa_nil))) (pss_cons (ps_set (i := 6) sc__law_few.nd rfl (Or.inl rfl) (pe_cl c__law_few hr (by omega) rfl (pa_cons (pv 0) (pa_cons (pe_op op_cat (pv 1) (pe_lst (pa_cons (pe_tup (pa_cons (pv 5) (pa_cons (pe_tup (pa_cons pe_str pa_nil)) pa_nil))) pa_nil))) (pa_cons (pv 2) (pa_cons (pe_op op_fdivW (pv 3) pe_int) pa_nil)))))) (pss_one (ps_ret (pe_tup (pa_cons pe_str (pa_cons (pe_tup (pa_cons pe_str (pa_cons (pv 5) (pa_cons (pv 2) (pa_cons (pv 6) pa_nil))))) (pa_cons (pe_cl c__law_index hr (by omega) rfl (pa_cons (pv 0) (pa_cons (pv 1) (pa_cons (pe_op op_fdivW (pv 3) pe_int) pa_nil)))) pa_nil)))))))) pss_nil) (pss_cons (ps_if (pt_cmpR op_eq (pv 2) pe_int (nomark _)) (pss_one (ps_ret (pe_cl c__law_test hr (by omega) rfl (pa_cons (pv 0) (pa_cons (pv 1) (pa_cons (pv 3) pa_nil)))))) pss_nil) (pss_one (ps_ret (pe_ifExp (pt_cmpR op_eq (pv 4) pe_int (nomark _)) (pe_tup (pa_cons pe_str (pa_cons (pv 2) (pa_cons (pe_cl c__law_draw hr (by omega) rfl (pa_cons (pv 0) (pa_cons (pv 2) pa_nil))) pa_nil)))) (pe_cl c__law_entry hr (by omega) rfl (pa_cons (pv 0) (pa_cons (pv 1) (pa_cons (pv 2) (pa_cons (pe_op op_sub (pv 3) pe_int) pa_nil)))))))))))))), ?_⟩
  have w0 : W [a] I H I (gM a cl m) H := W.start pre.hs
  have hlim : LIM = 1000000 := rfl
  have hl2 := pre.l2
  have hinl := hin.len
  obtain ⟨ls, us, rfl, hls, hps⟩ := id hG
  refine ⟨_, rfl, I, a, cl, m, 8, rfl, pre.le (by omega), by decide, by decide, fun r m1 H1 v1 nx1 _ _ r0 r8 => ?_⟩
  have w1 : W [a] I H I (gM a cl m1) H1 := w0.callG v1
  have ent : ∀ (g' : Nat), g' < f + 1 → spS (f + 1) (2 * c + 5) (b + 3) [.ref a, .ref ls, .int (z : Int), .int (g' : Int)] H1 Q E0 := fun g' hg' =>
    ⟨I, a, cl, m1, G, .ref ls, z, g', rfl, hz2, hz3, hg', pre.next w1 nx1 (by omega), hG, hin.mono nx1.n0, fun u2 I2 H2 m2 v2 nx2 h => q _ _ _ _ (w1.callG v2) ((nx1.trans nx2).le (by omega)) h⟩
  refine ⟨_, rfl, _, _, rfl, rfl, _, rfl, ?_⟩
  by_cases hr3 : r < 3
  · refine tT hr3 (iteT ?_)
    exact ⟨_, rfl, _, rfl, _, rfl, _, rfl, ent g hgf⟩
  refine tF hr3 ?_
  refine ⟨_, rfl, _, _, rfl, rfl, _, rfl, ?_⟩
  by_cases hg : (g : Int) < 1
  · refine tT hg ?_
    exact ⟨_, rfl, _, rfl, _, rfl, _, rfl, ent g hgf⟩
  refine tF hg ?_
  refine ⟨_, rfl, rfl, _, rfl, ?_⟩
  by_cases h3 : V.int r = V.int 3
  · refine tT h3 ?_
    refine ⟨_, rfl, _, rfl, _, rfl, _, rfl, _, _, rfl, rfl, ?_⟩
    refine ⟨I, a, cl, m1, G, .ref ls, g - 1, (by rw [← sub1 (by omega)]), Nat.zero_le _, by omega, pre.next w1 nx1 (by omega), hG, hin.mono nx1.n0, fun u2 I2 H2 m2 v2 nx2 ⟨t2, ht2, hs2, _⟩ => ?_⟩
    have w2 : W [a] I H I2 (gM a cl m2) H2 := w1.callG v2
    refine ⟨s3, fun p hp => ?_⟩
    have w3 := w2.newI hp (.tup [SS "as", .int (z : Int), u2])
    have u3 := w2.upI hp (.tup [SS "as", .int (z : Int), u2])
    exact q _ _ _ _ w3 ((nx1.trans nx2).le (by omega)) ⟨.as (z : Int) t2, ⟨p, _, rfl, upd_same, ht2.mono u3⟩, (hs2.as (by omega)).up (by omega), trivial⟩
  refine tF h3 ?_
  refine ⟨_, rfl, rfl, _, rfl, ?_⟩
  by_cases h4 : V.int r = V.int 4
  · refine tT h4 ?_
    refine ⟨_, rfl, _, rfl, _, rfl, _, _, rfl, rfl, cd2 _, ?_⟩
    refine ⟨I, a, cl, m1, G, .ref ls, g / 2, rfl, Nat.zero_le _, by omega, pre.next w1 nx1 (by omega), hG, hin.mono nx1.n0, fun u2 I2 H2 m2 v2 nx2 ⟨t2, ht2, hs2, _⟩ => ?_⟩
    have w2 : W [a] I H I2 (gM a cl m2) H2 := w1.callG v2
    have n2 := nx1.trans nx2
    refine ⟨_, rfl, _, rfl, _, rfl, _, rfl, _, _, rfl, rfl, cd2 _, ?_⟩
    refine ⟨I2, a, cl, m2, G, .ref ls, z, g / 2, rfl, hz2, hz3, by omega, pre.next w2 n2 (by omega), hG.mono w2.st.same, hin.mono n2.n0, fun u3 I3 H3 m3 v3 nx3 ⟨t3, ht3, hs3, _⟩ => ?_⟩
    have w3 : W [a] I H I3 (gM a cl m3) H3 := w2.callG v3
    have n3 := n2.trans nx3
    refine ⟨_, rfl, _, rfl, _, rfl, _, rfl, _, _, rfl, rfl, cd2 _, ?_⟩
    refine ⟨I3, a, cl, m3, G, .ref ls, z, g / 2, rfl, hz2, hz3, by omega, pre.next w3 n3 (by omega), hG.mono w3.st.same, hin.mono n3.n0, fun u4 I4 H4 m4 v4 nx4 ⟨t4, ht4, hs4, _⟩ => ?_⟩
    have w4 : W [a] I H I4 (gM a cl m4) H4 := w3.callG v4
    have n4 := n3.trans nx4
    refine ⟨s4, fun p hp => ?_⟩
    have w5 := w4.newI hp (.tup [SS "if", u2, u3, u4])
    have u5 := w4.upI hp (.tup [SS "if", u2, u3, u4])
    exact q _ _ _ _ w5 (n4.le (by omega)) ⟨.ite t2 t3 t4, ⟨p, _, _, _, rfl, upd_same, ht2.mono (v3.st.same.trans (v4.st.same.trans u5)), ht3.mono (v4.st.same.trans u5), ht4.mono u5⟩, (Safe.ite hs2 hs3 hs4).up (by omega), trivial⟩
  refine tF h4 ?_
  refine ⟨_, rfl, rfl, _, rfl, ?_⟩
  by_cases h5 : V.int r = V.int 5
  · refine tT h5 ?_
    refine ⟨_, rfl, I, a, cl, m1, rfl, pre.next w1 nx1 (by omega), fun H2 v2 => ?_⟩
    have w2 : W [a] I H I (gM a cl { m1 with next := m1.next + 1 }) H2 := w1.callG v2
    have n2 := nx1.trans (Nx.fresh m1)
    have hnew := (hin.mono nx1.n0).new (Nat.lt_succ_self _)
    have hgin := (hin.mono nx1.n0).snoc .num
    refine ⟨_, rfl, ?_⟩
    refine ⟨_, rfl, _, rfl, s1, fun k5 hk5 => ⟨s2, fun t5 ht5 => ⟨s1, fun b5 hb5 => ⟨ls, b5, us, [.ref t5], rfl, rfl, same_up hb5 _ _ (same_up ht5 _ _ (same_up hk5 _ _ (w2.i hls))), upd_same, ?_, fun l5 hl5 => ?_⟩⟩⟩⟩
    · rw [← Paired.length hps]
      exact Nat.le_trans (by show G.length + 1 ≤ 1000001; omega) (by decide)
    obtain ⟨Ig5, wg5, ug5, hgg5⟩ := W.grow (n := m1.next + 1) (k := .num) w2 hps hk5 ht5 hb5 hl5
    refine ⟨_, rfl, _, rfl, _, _, rfl, rfl, cd2 _, ?_⟩
    refine ⟨Ig5, a, cl, _, G ++ [(m1.next + 1, .num)], .ref l5, z, g / 2, rfl, hz2, hz3, by omega, pre.next wg5 n2 (by omega), hgg5, hgin, fun u6 I6 H6 m6 v6 nx6 ⟨t6, ht6, hs6, _⟩ => ?_⟩
    have w6 : W [a] I H I6 (gM a cl m6) H6 := wg5.callG v6
    have n6 := n2.trans nx6
    rw [sc_snoc] at hs6
    refine ⟨_, rfl, _, rfl, _, rfl, s4, fun pf hpf => ?_⟩
    have w7 := w6.newI hpf (.tup [SS "row", .str (xN (m1.next + 1)), .int (z : Int), u6])
    have u7 := w6.upI hpf (.tup [SS "row", .str (xN (m1.next + 1)), .int (z : Int), u6])
    refine ⟨_, rfl, _, rfl, _, rfl, _, _, rfl, rfl, cd2 _, ?_⟩
    refine ⟨_, a, cl, m6, G, .ref ls, g / 2, rfl, Nat.zero_le _, by omega, pre.next w7 n6 (by omega), hG.mono w7.st.same, hin.mono n6.n0, fun u8 I8 H8 m8 v8 nx8 ⟨t8, ht8, hs8, _⟩ => ?_⟩
    have w8 : W [a] I H I8 (gM a cl m8) H8 := w7.callG v8
    refine ⟨s3, fun p hp => ?_⟩
    have w9 := w8.newI hp (.tup [SS "at", .ref pf, u8])
    have u9 := w8.upI hp (.tup [SS "at", .ref pf, u8])
    have u79 := v8.st.same.trans u9
    exact q _ _ _ _ w9 ((n6.trans nx8).le (by omega)) ⟨.idx (.row (xN (m1.next + 1)) t6) t8, ⟨p, _, _, rfl, upd_same, ⟨pf, _, _, rfl, u79 _ _ upd_same, ht6.mono (u7.trans u79)⟩, ht8.mono u9⟩,
      (Safe.idx (D := b + 1) (n := b) (Safe.row hs6 hnew) (hs8.up (by omega)) (by omega)).up (by omega), trivial⟩
  refine tF h5 ?_
  refine ⟨_, rfl, rfl, _, rfl, ?_⟩
  by_cases hz : V.int (z : Int) = V.int 2
  · refine tT hz ?_
    have hz' : z = 2 := by
      have : (z : Int) = 2 := V.int.inj hz
      omega
    subst hz'
    exact ⟨_, rfl, _, rfl, _, rfl, I, a, cl, m1, G, .ref ls, g, rfl, Nat.zero_le _, hgf, pre.next w1 nx1 (by omega), hG, hin.mono nx1.n0, fun u2 I2 H2 m2 v2 nx2 h => q _ _ _ _ (w1.callG v2) ((nx1.trans nx2).le (by omega)) h⟩
  refine tF hz ?_
  refine ⟨_, rfl, rfl, _, rfl, ?_⟩
  by_cases h6 : V.int r = V.int 6
  · refine tT h6 ?_
    refine ⟨_, rfl, _, rfl, _, rfl, I, a, cl, m1, z, rfl, pre.next w1 nx1 (by omega), by omega, by omega, fun r2 m2 H2 v2 nx2 _ _ h0 h1 => ?_⟩
    have w2 : W [a] I H I (gM a cl m2) H2 := w1.callG v2
    refine ⟨s3, fun p hp => ?_⟩
    have w3 := w2.newI hp (.tup [SS "digit", .int (z : Int), .int r2])
    exact q _ _ _ _ w3 ((nx1.trans nx2).le (by omega)) ⟨.lit r2, ⟨p, rfl, .inr ⟨_, upd_same⟩⟩, (Safe.lit (m := z) h0 h1).up (by omega), trivial⟩
  · refine tF h6 ?_
    have e2 := ent (g - 1) (by omega)
    rw [← sub1 (show 1 ≤ g by omega)] at e2
    exact ⟨_, rfl, _, rfl, _, rfl, _, rfl, _, _, rfl, rfl, e2⟩
end
end KW
set_option Elab.async false
set_option linter.all false
set_option maxRecDepth 100000
set_option maxHeartbeats 4000000
/-! G4: a quantifier with a number, a number by way of functions. -/
namespace KW
open PySem PySem.Spec PyProof.Rows L2 
section
variable {P : Program} {w : World} {K : PySem.W.Frag} {mg : Str → Option Value} {base : Heap}

theorem GIn.snoc2 {n n' j : Nat} {G : Gm} (h : GIn n G) (k : SK) (h1 : n < j) (h2 : j ≤ n') : GIn n' (G ++ [(j, k)]) := ⟨fun p hp => by
  rcases List.mem_append.mp hp with z | z
  · have := h.le p z; omega
  · rw [List.mem_singleton.mp z]; exact h2, by rw [List.length_append, List.length_singleton]; have := h.len; omega⟩
theorem sc_snoc_new {G : Gm} {x y : Str} {k : Kd} (h : x ∉ (Gm.sc G).map (·.1)) (hxy : x ≠ y) : x ∉ ((Gm.sc G) ++ [(y, k)]).map (·.1) := fun z => by
  rw [List.map_append] at z
  rcases List.mem_append.mp z with z | z
  · exact h z
  · exact hxy (List.mem_singleton.mp z)
theorem xN_ne {i j : Nat} (h : i ≠ j) : xN i ≠ xN j := fun z => h (xN_inj z)
section
variable {b : Nat} {G : Sc} {f y z : Str} {t1 t2 t3 : Tm}
theorem mem_last {k : Kd} : (f, k) ∈ G ++ [(f, k)] := List.mem_append_right _ (by simp)
theorem sub_last {k : Kd} : ∀ p ∈ G, p ∈ G ++ [(f, k)] := fun p hp => List.mem_append_left _ hp
/-- a function that is called twice -/
theorem Safe.way0 (hb : 2 ≤ b) (h1 : Safe b G .num t1) (h2 : Safe b (G ++ [(y, .num)]) .num t2) (hf : f ∉ G.map (·.1)) (hy : y ∉ G.map (·.1)) :
    Safe (b + 4) G .num (.call (.fn f (.call (.var f) (.call (.var f) t1))) (.fn y t2)) := by
  have v : Safe 1 (G ++ [(f, .to .num .num b)]) (.to .num .num b) (.var f) := Safe.var mem_last
  have a1 : Safe (b + 1) (G ++ [(f, .to .num .num b)]) .num (.call (.var f) t1) := Safe.call (v.up (by omega)) (h1.weak sub_last) (Nat.le_refl _)
  have a2 : Safe (b + 2) (G ++ [(f, .to .num .num b)]) .num (.call (.var f) (.call (.var f) t1)) := Safe.call (v.up (by omega)) a1 (by omega)
  exact Safe.call (D := b + 3) (Safe.fn a2 hf) ((Safe.fn h2 hy).up (by omega)) (by omega)
theorem Safe.way1 {c : Nat} (hc : c ≤ 60) (h1 : Safe b G .num t1) (h2 : Safe b (G ++ [(y, .num)]) .num t2) (hy : y ∉ G.map (·.1)) : Safe (b + 2) G .num (.rep (.lit (c : Int)) (.fn y t2) t1) :=
  Safe.rep (F := fun _ => .num) (n := b) (D := b + 1) hc (by omega) (Safe.fn h2 hy) (fun _ _ => Safe.fn h2 hy) (h1.up (by omega)) (by omega)
theorem Safe.way2 (hb : 2 ≤ b) (h1 : Safe b G .num t1) (h2 : Safe b G (.few 2) t2) (h3 : Safe b G .num t3) (hf : f ∉ G.map (·.1)) :
    Safe (b + 3) G .num (.call (.fn f (.ite (.snd (.var f)) (.fst (.var f)) t3)) (.pair t1 t2)) := by
  have v : Safe 1 (G ++ [(f, .both .num (.few 2))]) (.both .num (.few 2)) (.var f) := Safe.var mem_last
  have a : Safe (b + 1) (G ++ [(f, .both .num (.few 2))]) .num (.ite (.snd (.var f)) (.fst (.var f)) t3) := Safe.ite (v.snd.up (by omega)) (v.fst.up (by omega)) (h3.weak sub_last)
  exact Safe.call (D := b + 2) (n := b + 1) (Safe.fn a hf) ((h1.pair h2).up (by omega)) (by omega)
theorem Safe.twice {n : Nat} (hn : 1 ≤ n) (hf : f ∉ G.map (·.1)) (hy : y ∉ G.map (·.1)) (hfy : y ≠ f) :
    Safe (n + 4) G (.to (.to .num .num n) (.to .num .num (n + 2)) (n + 3)) (.fn f (.fn y (.call (.var f) (.call (.var f) (.var y))))) := by
  have hy2 : y ∉ (G ++ [(f, Kd.to .num .num n)]).map (·.1) := fun z => by
    rw [List.map_append] at z
    rcases List.mem_append.mp z with z | z
    · exact hy z
    · exact hfy (List.mem_singleton.mp z)
  have v : Safe 1 ((G ++ [(f, .to .num .num n)]) ++ [(y, .num)]) (.to .num .num n) (.var f) := Safe.var (sub_last _ mem_last)
  have u : Safe 1 ((G ++ [(f, .to .num .num n)]) ++ [(y, .num)]) .num (.var y) := Safe.var mem_last
  have a1 : Safe (n + 1) ((G ++ [(f, .to .num .num n)]) ++ [(y, .num)]) .num (.call (.var f) (.var y)) := Safe.call (v.up hn) (u.up hn) (Nat.le_refl _)
  have a2 : Safe (n + 2) ((G ++ [(f, .to .num .num n)]) ++ [(y, .num)]) .num (.call (.var f) (.call (.var f) (.var y))) := Safe.call (v.up (by omega)) a1 (by omega)
  exact Safe.fn (Safe.fn a2 hy2) hf
theorem Safe.way3 {c : Nat} (hb : 2 ≤ b) (hc : c ≤ 2) (h1 : Safe b G .num t1) (h2 : Safe b G (.few 2) t2) (hf : f ∉ G.map (·.1)) (hy : y ∉ G.map (·.1)) (hz : z ∉ G.map (·.1)) (hfy : y ≠ f) :
    Safe (b + 10) G .num (.call (.rep (.lit (c : Int)) (.fn f (.fn y (.call (.var f) (.call (.var f) (.var y))))) (.fn z (.prim "add" (.var z) (.count t2)))) t1) := by
  have st : Safe (b + 3) G (.to .num .num (b + 2)) (.fn z (.prim "add" (.var z) (.count t2))) := by
    have v : Safe 1 (G ++ [(z, .num)]) .num (.var z) := Safe.var mem_last
    exact Safe.fn (Safe.pnum (D := b + 1) (.inl rfl) (v.up (by omega)) ((h2.weak sub_last).count (by omega))) hz
  have tw : ∀ j, j < c → Safe (b + 8) G (.to (.to .num .num (b + 2 + 2 * j)) (.to .num .num (b + 2 + 2 * (j + 1))) (b + 7)) (.fn f (.fn y (.call (.var f) (.call (.var f) (.var y))))) := fun j hj => by
    have := Safe.twice (n := b + 2 + 2 * j) (by omega) hf hy hfy
    exact (this.up (by omega)).kind fun C g v h => SV.to_le (by rw [show b + 2 + 2 * (j + 1) = b + 2 + 2 * j + 2 by omega]; exact h) (by omega)
  have t0 := (Safe.twice (n := b + 2) (by omega) hf hy hfy).up (D' := b + 8) (by omega)
  have g := Safe.rep (F := fun j => .to .num .num (b + 2 + 2 * j)) (n := b + 7) (D := b + 8) (c := c) (by omega) (by omega) t0 tw (st.up (by omega)) (by omega)
  exact Safe.call (D := b + 9) g (h1.up (by omega)) (by omega)
end
abbrev N__law_over_rows : List Str := ["_law_m", "_law_scope", "_law_fuel", "_law_name", "_law_word", "_law_inner_here"]
theorem sc__law_over_rows : FnScope N__law_over_rows ["_law_m", "_law_scope", "_law_fuel"] (defScope (top 78)) := fnScope_ok (by decide +kernel)
theorem ok_over {f c b k : Nat} (hb : 2 ≤ b) (D : DefAt K mg "_law_over_rows" 78) (T : Txt K mg) (c__law_draw : Cl P w K mg base 1 "_law_draw" spDraw) (c__law_of : Cl P w K mg base 2 "_law_of" spOf) (c__law_fresh : Cl P w K mg base 1 "_law_fresh" spFresh) (c__law_n : Cl P w K mg base 1 "_law_n" spN)
    (c__law_num : Cl P w K mg base (k + 2) "_law_num" (spK 0 .num f c b)) (c__law_test : Cl P w K mg base (k + 2) "_law_test" (spK 0 (.few 2) f c b)) : Cl P w K mg base (k + 3) "_law_over_rows" (spK 1 .num (f + 1) (c + 3) (b + 2)) := by
  refine cl_mk (i := 78) (N := N__law_over_rows) (ps := ["_law_m", "_law_scope", "_law_fuel"]) D sc__law_over_rows (fun _ _ _ _ _ _ us hl => match us, hl with | [_, _, _], _ => rfl) ?_ ?_
  · rintro vs H Q E ⟨I, a, cl, m, G, sv, g, rfl, _⟩
    rfl
  rintro f0 cdv A outer s0 H vs Q E hr ⟨I, a, cl, m, G, sv, g, rfl, hlo, hgf, pre, hG, hin, q⟩
  refine ⟨_, (pss_cons (ps_dput (hu_of hr) (pv 0) pe_str (pe_op op_sub (pe_dget (hu_of hr) (pv 0) pe_str (fun _ _ => rfl)) pe_int) rfl) (pss_cons (ps_par (i := 3) (j := 4) rfl sc__law_over_rows.nd rfl rfl (by decide) rfl rfl (pa_cons (pe_cl c__law_fresh hr (by omega) rfl (pa_cons (pv 0) pa_nil)) (pa_cons (pe_cl c__law_of hr (by omega) rfl (pa_cons (pv 0) (pa_cons (pe_lst (pa_cons pe_str (pa_cons pe_str (pa_cons pe_str pa_nil)))) pa_nil))) pa_nil)) (by rfl)) (pss_cons (ps_set (i := 5) sc__law_over_rows.nd rfl (Or.inl rfl) (pe_op op_cat (pv 1) (pe_lst (pa_cons (pe_tup (pa_cons (pv 3) (pa_cons (pe_tup (pa_cons pe_str (pa_cons pe_int pa_nil))) pa_nil))) pa_nil)))) (pss_cons (ps_if (pt_cmpR op_eq (pv 4) pe_str (nomark _)) (pss_one (ps_ret (pe_tup (pa_cons pe_str (pa_cons (pv 3) (pa_cons pe_int (pa_cons (pe_cl c__law_test hr (by omega) rfl (pa_cons (pv 0) (pa_cons (pv 5) (pa_cons (pe_op op_sub (pv 2) pe_int) pa_nil)))) (pa_cons (pe_cl c__law_n hr (by omega) rfl (pa_cons (pe_op op_add pe_int (pe_cl c__law_draw hr (by omega) rfl (pa_cons (pv 0) (pa_cons pe_int pa_nil)))) pa_nil)) pa_nil)))))))) pss_nil) (pss_one (ps_ret (pe_tup (pa_cons (pv 4) (pa_cons (pv 3) (pa_cons pe_int (pa_cons (pe_cl c__law_num hr (by omega) rfl (pa_cons (pv 0) (pa_cons (pv 5) (pa_cons (pe_op op_sub (pv 2) pe_int) pa_nil)))) pa_nil))))))))))), ?_⟩
  have w0 : W [a] I H I (gM a cl m) H := W.start pre.hs
  have hlim : LIM = 1000000 := rfl
  have hl2 := pre.l2
  have hinl := hin.len
  obtain ⟨ls, us, rfl, hls, hps⟩ := id hG
  refine ⟨_, rfl, a, _, rfl, DG (w0.get (i := 0) rfl) mk_quants, _, _, rfl, rfl, _, rfl, a, _, rfl, DP (w0.get (i := 0) rfl) (mp_quants (i := m.quants - 1)) mk_len, ?_⟩
  have wq : W [a] I H I (gM a cl { m with quants := m.quants - 1 }) _ := w0.set (i := 0) rfl (.dK (mK cl { m with quants := m.quants - 1 }))
  have nq := Nx.quants m (m.quants - 1)
  refine ⟨_, rfl, I, a, cl, _, rfl, pre.next wq nq (by omega), fun H2 v2 => ?_⟩
  have w2 : W [a] I H I (gM a cl { m with quants := m.quants - 1, next := m.next + 1 }) H2 := wq.callG v2
  have n2 := nq.trans (Nx.fresh { m with quants := m.quants - 1 })
  have hnew := hin.new (Nat.lt_succ_self m.next)
  have hgin := hin.snoc (.rows 2)
  refine ⟨_, rfl, s3, fun lw hlw => ?_⟩
  have w3 := w2.newI hlw (.lst [SS "least", SS "greatest", SS "share"])
  have u3 := w2.upI hlw (.lst [SS "least", SS "greatest", SS "share"])
  refine ⟨_, a, cl, _, lw, [SS "least", SS "greatest", SS "share"], rfl, pre.next w3 n2 (by omega), upd_same, (by simp), (by decide), fun uw m4 H4 hu v4 nx4 e4 _ => ?_⟩
  have w4 : W [a] I H _ (gM a cl m4) H4 := w3.callG v4
  have n4 := n2.trans nx4
  obtain ⟨op, rfl, hop⟩ : ∃ op, uw = .str op ∧ (op = "least" ∨ op = "greatest" ∨ op = "share") := by
    rcases List.mem_cons.mp hu with e | e
    · exact ⟨_, e, .inl rfl⟩
    · rcases List.mem_cons.mp e with e | e
      · exact ⟨_, e, .inr (.inl rfl)⟩
      · exact ⟨_, List.mem_singleton.mp e, .inr (.inr rfl)⟩
  refine ⟨_, _, rfl, ?_⟩
  refine ⟨_, rfl, _, rfl, s2, fun k5 hk5 => ⟨s2, fun t5 ht5 => ⟨s1, fun b5 hb5 => ⟨ls, b5, us, [.ref t5], rfl, rfl, same_up hb5 _ _ (same_up ht5 _ _ (same_up hk5 _ _ (w4.i (u3 _ _ hls)))), upd_same, ?_, fun l5 hl5 => ?_⟩⟩⟩⟩
  · rw [← Paired.length hps]
    exact Nat.le_trans (by show G.length + 1 ≤ 1000001; omega) (by decide)
  obtain ⟨Ig5, wg5, ug5, hgg5⟩ := W.grow (n := m.next + 1) (k := (.rows 2)) w4 (Paired.mapP hps fun _ _ z => z.mono u3) hk5 ht5 hb5 hl5
  refine ⟨_, rfl, rfl, _, rfl, ?_⟩
  by_cases hsh : V.str op = V.str "share"
  · refine tT hsh ?_
    refine ⟨_, rfl, _, rfl, _, rfl, _, rfl, _, _, rfl, rfl, ?_⟩
    refine ⟨Ig5, a, cl, m4, G ++ [(m.next + 1, .rows 2)], .ref l5, g - 1, (by rw [← sub1 (by omega)]), Nat.zero_le _, by omega, pre.next wg5 n4 (by omega), hgg5, (by rw [e4]; exact hgin), fun u6 I6 H6 m6 v6 nx6 ⟨t6, ht6, hs6, _⟩ => ?_⟩
    have w6 : W [a] I H I6 (gM a cl m6) H6 := wg5.callG v6
    have n6 := n4.trans nx6
    rw [sc_snoc] at hs6
    refine ⟨_, rfl, I6, a, cl, m6, 9, rfl, pre.next w6 n6 (by omega), by decide, by decide, fun r7 m7 H7 v7 nx7 _ _ h0 h1 => ?_⟩
    have w7 : W [a] I H I6 (gM a cl m7) H7 := w6.callG v7
    refine ⟨_, _, rfl, rfl, _, rfl, fun pn hpn => ⟨s5, fun p hp => ?_⟩⟩
    have w8 := w7.newI hpn (.tup [SS "number", .int (1 + r7)])
    have u8 := w7.upI hpn (.tup [SS "number", .int (1 + r7)])
    have w9 := w8.newI hp (.tup [SS "share", .str (xN (m.next + 1)), .int 2, u6, .ref pn])
    have u9 := w8.upI hp (.tup [SS "share", .str (xN (m.next + 1)), .int 2, u6, .ref pn])
    exact q _ _ _ _ w9 ((n6.trans nx7).le (by omega)) ⟨.share (xN (m.next + 1)) 2 t6 (.lit (1 + r7)), ⟨p, _, _, rfl, upd_same, ht6.mono (u8.trans u9), pn, rfl, .inl (u9 _ _ upd_same)⟩,
      (Safe.share (n := 0) ((Safe.lit (m := 10) (i := 1 + r7) (by omega) (by have h1 : r7 < 9 := h1; show 1 + r7 < 10; omega)).up (by omega)) hs6 hnew (by decide) (by decide)).up (by omega), trivial⟩
  · refine tF hsh ?_
    have hop2 : op = "least" ∨ op = "greatest" := by
      rcases hop with z | z | z
      · exact .inl z
      · exact .inr z
      · exact absurd (by rw [z]) hsh
    refine ⟨_, rfl, _, rfl, _, rfl, _, rfl, _, rfl, _, _, rfl, rfl, ?_⟩
    refine ⟨Ig5, a, cl, m4, G ++ [(m.next + 1, .rows 2)], .ref l5, g - 1, (by rw [← sub1 (by omega)]), Nat.zero_le _, by omega, pre.next wg5 n4 (by omega), hgg5, (by rw [e4]; exact hgin), fun u6 I6 H6 m6 v6 nx6 ⟨t6, ht6, hs6, _⟩ => ?_⟩
    have w6 : W [a] I H I6 (gM a cl m6) H6 := wg5.callG v6
    have n6 := n4.trans nx6
    rw [sc_snoc] at hs6
    refine ⟨s4, fun p hp => ?_⟩
    have w7 := w6.newI hp (.tup [.str op, .str (xN (m.next + 1)), .int 2, u6])
    have u7 := w6.upI hp (.tup [.str op, .str (xN (m.next + 1)), .int 2, u6])
    exact q _ _ _ _ w7 (n6.le (by omega)) ⟨.qu op (xN (m.next + 1)) 2 t6, ⟨p, _, rfl, upd_same, ht6.mono u7, by rcases hop2 with z | z <;> subst z <;> simp⟩, (Safe.qnum hop2 hs6 hnew (by decide) (by decide)).up (by omega), trivial⟩
abbrev N__law_higher : List Str := ["_law_m", "_law_scope", "_law_fuel", "_law_f", "_law_y", "_law_way", "_law_one", "_law_numbers", "_law_body", "_law_step", "_law_both", "_law_kind", "_law_z", "_law_twice", "_law_grown"]
theorem sc__law_higher : FnScope N__law_higher ["_law_m", "_law_scope", "_law_fuel"] (defScope (top 79)) := fnScope_ok (by decide +kernel)
theorem ok_higher {f c b k : Nat} (hb : 2 ≤ b) (D : DefAt K mg "_law_higher" 79) (T : Txt K mg) (c__law_draw : Cl P w K mg base 1 "_law_draw" spDraw) (c__law_fresh : Cl P w K mg base 1 "_law_fresh" spFresh) (c__law_n : Cl P w K mg base 1 "_law_n" spN) (c__law_p : Cl P w K mg base 1 "_law_p" spP)
    (c__law_num : Cl P w K mg base (k + 2) "_law_num" (spK 0 .num f c b)) (c__law_test : Cl P w K mg base (k + 2) "_law_test" (spK 0 (.few 2) f c b)) (c__law_entry : Cl P w K mg base (k + 2) "_law_entry" (spS f c b)) : Cl P w K mg base (k + 3) "_law_higher" (spK 1 .num (f + 1) (3 * c + 6) (b + 10)) := by
  refine cl_mk (i := 79) (N := N__law_higher) (ps := ["_law_m", "_law_scope", "_law_fuel"]) D sc__law_higher (fun _ _ _ _ _ _ us hl => match us, hl with | [_, _, _], _ => rfl) ?_ ?_
  · rintro vs H Q E ⟨I, a, cl, m, G, sv, g, rfl, _⟩
    rfl
  rintro f0 cdv A outer s0 H vs Q E hr ⟨I, a, cl, m, G, sv, g, rfl, hlo, hgf, pre, hG, hin, q⟩
  refine ⟨_, (pss_cons (ps_par3 (i := 3) (j := 4) (l := 5) rfl sc__law_higher.nd rfl rfl rfl (by decide) (by decide) (by decide) rfl rfl rfl (pa_cons (pe_cl c__law_fresh hr (by omega) rfl (pa_cons (pv 0) pa_nil)) (pa_cons (pe_cl c__law_fresh hr (by omega) rfl (pa_cons (pv 0) pa_nil)) (pa_cons (pe_cl c__law_draw hr (by omega) rfl (pa_cons (pv 0) (pa_cons pe_int pa_nil))) pa_nil))) (by rfl)) (pss_cons (ps_par (i := 6) (j := 7) rfl sc__law_higher.nd rfl rfl (by decide) rfl rfl (pa_cons (pe_cl c__law_num hr (by omega) rfl (pa_cons (pv 0) (pa_cons (pv 1) (pa_cons (pe_op op_fdivW (pv 2) pe_int) pa_nil)))) (pa_cons (pe_tup (pa_cons pe_str (pa_cons (pe_tup (pa_cons pe_str pa_nil)) (pa_cons (pe_tup (pa_cons pe_str pa_nil)) pa_nil)))) pa_nil)) (by rfl)) (pss_cons (ps_if (pt_cmpR op_eq (pv 5) pe_int (nomark _)) (pss_cons (ps_set (i := 8) sc__law_higher.nd rfl (Or.inl rfl) (pe_tup (pa_cons pe_str (pa_cons (pe_tup (pa_cons pe_str (pa_cons (pv 3) pa_nil))) (pa_cons (pe_tup (pa_cons pe_str (pa_cons (pe_tup (pa_cons pe_str (pa_cons (pv 3) pa_nil))) (pa_cons (pv 6) pa_nil)))) pa_nil))))) (pss_one (ps_ret (pe_tup (pa_cons pe_str (pa_cons (pe_tup (pa_cons pe_str (pa_cons (pv 3) (pa_cons (pv 7) (pa_cons (pv 8) pa_nil))))) (pa_cons (pe_tup (pa_cons pe_str (pa_cons (pv 4) (pa_cons (pe_tup (pa_cons pe_str pa_nil)) (pa_cons (pe_cl c__law_num hr (by omega) rfl (pa_cons (pv 0) (pa_cons (pe_op op_cat (pv 1) (pe_lst (pa_cons (pe_tup (pa_cons (pv 4) (pa_cons (pe_tup (pa_cons pe_str pa_nil)) pa_nil))) pa_nil))) (pa_cons (pe_op op_fdivW (pv 2) pe_int) pa_nil)))) pa_nil))))) pa_nil))))))) pss_nil) (pss_cons (ps_if (pt_cmpR op_eq (pv 5) pe_int (nomark _)) (pss_cons (ps_set (i := 9) sc__law_higher.nd rfl (Or.inl rfl) (pe_cl c__law_num hr (by omega) rfl (pa_cons (pv 0) (pa_cons (pe_op op_cat (pv 1) (pe_lst (pa_cons (pe_tup (pa_cons (pv 4) (pa_cons (pe_tup (pa_cons pe_str pa_nil)) pa_nil))) pa_nil))) (pa_cons (pe_op op_fdivW (pv 2) pe_int) pa_nil))))) (pss_one (ps_ret (pe_tup (pa_cons pe_str (pa_cons (pe_cl c__law_n hr (by omega) rfl (pa_cons (pe_cl c__law_draw hr (by omega) rfl (pa_cons (pv 0) (pa_cons pe_int pa_nil))) pa_nil)) (pa_cons (pe_tup (pa_cons pe_str (pa_cons (pv 4) (pa_cons (pe_tup (pa_cons pe_str pa_nil)) (pa_cons (pv 9) pa_nil))))) (pa_cons (pv 6) pa_nil)))))))) pss_nil) (pss_cons (ps_if (pt_cmpR op_eq (pv 5) pe_int (nomark _)) (pss_cons (ps_set (i := 10) sc__law_higher.nd rfl (Or.inl rfl) (pe_tup (pa_cons pe_str (pa_cons (pv 6) (pa_cons (pe_cl c__law_test hr (by omega) rfl (pa_cons (pv 0) (pa_cons (pv 1) (pa_cons (pe_op op_fdivW (pv 2) pe_int) pa_nil)))) pa_nil))))) (pss_cons (ps_set (i := 11) sc__law_higher.nd rfl (Or.inl rfl) (pe_tup (pa_cons pe_str (pa_cons (pe_tup (pa_cons pe_str pa_nil)) (pa_cons (pe_tup (pa_cons pe_str (pa_cons pe_int pa_nil))) pa_nil))))) (pss_cons (ps_set (i := 8) sc__law_higher.nd rfl (Or.inl rfl) (pe_tup (pa_cons pe_str (pa_cons (pe_tup (pa_cons pe_str (pa_cons (pe_tup (pa_cons pe_str (pa_cons (pv 3) pa_nil))) pa_nil))) (pa_cons (pe_tup (pa_cons pe_str (pa_cons (pe_tup (pa_cons pe_str (pa_cons (pv 3) pa_nil))) pa_nil))) (pa_cons (pe_cl c__law_num hr (by omega) rfl (pa_cons (pv 0) (pa_cons (pv 1) (pa_cons (pe_op op_fdivW (pv 2) pe_int) pa_nil)))) pa_nil)))))) (pss_one (ps_ret (pe_tup (pa_cons pe_str (pa_cons (pe_tup (pa_cons pe_str (pa_cons (pv 3) (pa_cons (pv 11) (pa_cons (pv 8) pa_nil))))) (pa_cons (pv 10) pa_nil))))))))) pss_nil) (pss_cons (ps_set (i := 12) sc__law_higher.nd rfl (Or.inl rfl) (pe_cl c__law_fresh hr (by omega) rfl (pa_cons (pv 0) pa_nil))) (pss_cons (ps_set (i := 13) sc__law_higher.nd rfl (Or.inl rfl) (pe_tup (pa_cons pe_str (pa_cons (pv 4) (pa_cons (pe_tup (pa_cons pe_str pa_nil)) (pa_cons (pe_tup (pa_cons pe_str (pa_cons (pe_tup (pa_cons pe_str (pa_cons (pv 3) pa_nil))) (pa_cons (pe_tup (pa_cons pe_str (pa_cons (pe_tup (pa_cons pe_str (pa_cons (pv 3) pa_nil))) (pa_cons (pe_tup (pa_cons pe_str (pa_cons (pv 4) pa_nil))) pa_nil)))) pa_nil)))) pa_nil)))))) (pss_cons (ps_set (i := 9) sc__law_higher.nd rfl (Or.inl rfl) (pe_cl c__law_p hr (by omega) rfl (pa_cons pe_str (pa_cons (pe_tup (pa_cons pe_str (pa_cons (pv 12) pa_nil))) (pa_cons (pe_tup (pa_cons pe_str (pa_cons (pe_cl c__law_entry hr (by omega) rfl (pa_cons (pv 0) (pa_cons (pv 1) (pa_cons pe_int (pa_cons (pe_op op_fdivW (pv 2) pe_int) pa_nil))))) pa_nil))) pa_nil))))) (pss_cons (ps_set (i := 14) sc__law_higher.nd rfl (Or.inl rfl) (pe_tup (pa_cons pe_str (pa_cons (pe_cl c__law_n hr (by omega) rfl (pa_cons (pe_op op_add pe_int (pe_cl c__law_draw hr (by omega) rfl (pa_cons (pv 0) (pa_cons pe_int pa_nil)))) pa_nil)) (pa_cons (pe_tup (pa_cons pe_str (pa_cons (pv 3) (pa_cons (pv 7) (pa_cons (pv 13) pa_nil))))) (pa_cons (pe_tup (pa_cons pe_str (pa_cons (pv 12) (pa_cons (pe_tup (pa_cons pe_str pa_nil)) (pa_cons (pv 9) pa_nil))))) pa_nil)))))) (pss_one (ps_ret (pe_tup (pa_cons pe_str (pa_cons (pv 14) (pa_cons (pv 6) pa_nil))))))))))))))), ?_⟩
  have w0 : W [a] I H I (gM a cl m) H := W.start pre.hs
  have hlim : LIM = 1000000 := rfl
  have hl2 := pre.l2
  have hinl := hin.len
  obtain ⟨ls, us, rfl, hls, hps⟩ := id hG
  refine ⟨_, rfl, I, a, cl, m, rfl, pre.le (by omega), fun H1 v1 => ?_⟩
  have w1 : W [a] I H I (gM a cl { m with next := m.next + 1 }) H1 := w0.callG v1
  have n1 := Nx.fresh m
  refine ⟨_, rfl, I, a, cl, _, rfl, pre.next w1 n1 (by omega), fun H2 v2 => ?_⟩
  have w2 : W [a] I H I (gM a cl { m with next := m.next + 1 + 1 }) H2 := w1.callG v2
  have n2 := n1.trans (Nx.fresh { m with next := m.next + 1 })
  refine ⟨_, rfl, I, a, cl, _, 4, rfl, pre.next w2 n2 (by omega), by decide, by decide, fun r m3 H3 v3 nx3 e3 _ r0 r4 => ?_⟩
  have w3 : W [a] I H I (gM a cl m3) H3 := w2.callG v3
  have n3 := n2.trans nx3
  have hf := hin.new (show m.next < m.next + 1 by omega)
  have hy := hin.new (show m.next < m.next + 1 + 1 by omega)
  have hfy : xN (m.next + 1 + 1) ≠ xN (m.next + 1) := xN_ne (by omega)
  refine ⟨_, _, _, rfl, ?_⟩
  refine ⟨_, rfl, _, rfl, _, rfl, _, _, rfl, rfl, cd2 _, ?_⟩
  refine ⟨I, a, cl, m3, G, .ref ls, g / 2, rfl, Nat.zero_le _, by omega, pre.next w3 n3 (by omega), hG, hin.mono n3.n0, fun uo I4 H4 m4 v4 nx4 ⟨to, hto, hso, _⟩ => ?_⟩
  have w4 : W [a] I H I4 (gM a cl m4) H4 := w3.callG v4
  have n4 := n3.trans nx4
  have e4 : m.next + 1 + 1 ≤ m4.next := by have := nx4.n0; have h3 : m3.next = m.next + 1 + 1 := e3; omega
  refine ⟨s1, fun q1 hq1 => ⟨s1, fun q2 hq2 => ⟨s3, fun nb hnb => ?_⟩⟩⟩
  have w5 := w4.newI hq1 (.tup [SS "num"])
  have u5 := w4.upI hq1 (.tup [SS "num"])
  have w6 := w5.newI hq2 (.tup [SS "num"])
  have u6 := w5.upI hq2 (.tup [SS "num"])
  have w7 := w6.newI hnb (.tup [SS "to", .ref q1, .ref q2])
  have u7 := w6.upI hnb (.tup [SS "to", .ref q1, .ref q2])
  have s47 := u5.trans (u6.trans u7)
  have hto7 := hto.mono s47
  have sI7 := w4.st.same.trans s47
  revert w7 hto7 sI7
  clear s47 u7 u6 u5 w6 w5 hnb hq2 hq1
  generalize upd (upd (upd I4 q1 (.tup [SS "num"])) q2 (.tup [SS "num"])) nb (.tup [SS "to", .ref q1, .ref q2]) = I7
  generalize upd (upd (upd H4 q1 (.tup [SS "num"])) q2 (.tup [SS "num"])) nb (.tup [SS "to", .ref q1, .ref q2]) = H7
  intro w7 hto7 sI7
  refine ⟨_, _, rfl, ?_⟩
  refine ⟨_, rfl, rfl, _, rfl, ?_⟩
  by_cases h0 : V.int r = V.int 0
  · refine tT h0 ?_
    refine ⟨_, rfl, s2, fun f1 hf1 => ⟨_, rfl, s2, fun f2 hf2 => ⟨_, rfl, s3, fun c2 hc2 => ⟨s3, fun c1 hc1 => ?_⟩⟩⟩⟩
    have w8 := w7.newI hf1 (.tup [SS "var", .str (xN (m.next + 1))])
    have u8 := w7.upI hf1 (.tup [SS "var", .str (xN (m.next + 1))])
    have w9 := w8.newI hf2 (.tup [SS "var", .str (xN (m.next + 1))])
    have u9 := w8.upI hf2 (.tup [SS "var", .str (xN (m.next + 1))])
    have w10 := w9.newI hc2 (.tup [SS "call", .ref f2, uo])
    have u10 := w9.upI hc2 (.tup [SS "call", .ref f2, uo])
    have w11 := w10.newI hc1 (.tup [SS "call", .ref f1, .ref c2])
    have u11 := w10.upI hc1 (.tup [SS "call", .ref f1, .ref c2])
    have hbody : TmAt _ (.call (.var (xN (m.next + 1))) (.call (.var (xN (m.next + 1))) to)) (.ref c1) := ⟨c1, _, _, rfl, upd_same, ⟨f1, rfl, u11 _ _ (u10 _ _ (u9 _ _ upd_same))⟩, c2, _, _, rfl, u11 _ _ upd_same, ⟨f2, rfl, u11 _ _ (u10 _ _ upd_same)⟩, hto7.mono (u8.trans (u9.trans (u10.trans u11)))⟩
    have sI11 := sI7.trans (u8.trans (u9.trans (u10.trans u11)))
    revert w11 hbody sI11
    clear u11 u10 u9 u8 w10 w9 w8 hc1 hc2 hf2 hf1
    generalize upd (upd (upd (upd I7 f1 (.tup [SS "var", .str (xN (m.next + 1))])) f2 (.tup [SS "var", .str (xN (m.next + 1))])) c2 (.tup [SS "call", .ref f2, uo])) c1 (.tup [SS "call", .ref f1, .ref c2]) = I11
    generalize upd (upd (upd (upd H7 f1 (.tup [SS "var", .str (xN (m.next + 1))])) f2 (.tup [SS "var", .str (xN (m.next + 1))])) c2 (.tup [SS "call", .ref f2, uo])) c1 (.tup [SS "call", .ref f1, .ref c2]) = H11
    intro w11 hbody sI11
    refine ⟨_, rfl, _, rfl, _, rfl, s4, fun p1 hp1 => ?_⟩
    have w12 := w11.newI hp1 (.tup [SS "fn", .str (xN (m.next + 1)), .ref nb, .ref c1])
    have u12 := w11.upI hp1 (.tup [SS "fn", .str (xN (m.next + 1)), .ref nb, .ref c1])
    refine ⟨_, rfl, s1, fun q3 hq3 => ?_⟩
    have w13 := w12.newI hq3 (.tup [SS "num"])
    have u13 := w12.upI hq3 (.tup [SS "num"])
    have s13 := sI11.trans (u12.trans u13)
    refine ⟨_, rfl, ?_⟩
    refine ⟨_, rfl, _, rfl, s1, fun k8 hk8 => ⟨s2, fun t8 ht8 => ⟨s1, fun b8 hb8 => ⟨ls, b8, us, [.ref t8], rfl, rfl, same_up hb8 _ _ (same_up ht8 _ _ (same_up hk8 _ _ (w13.i (s13 _ _ hls)))), upd_same, ?_, fun l8 hl8 => ?_⟩⟩⟩⟩
    · rw [← Paired.length hps]
      exact Nat.le_trans (by show G.length + 1 ≤ 1000001; omega) (by decide)
    obtain ⟨Ig8, wg8, ug8, hgg8⟩ := W.grow (n := m.next + 1 + 1) (k := .num) w13 (Paired.mapP hps fun _ _ z => z.mono s13) hk8 ht8 hb8 hl8
    refine ⟨_, rfl, _, _, rfl, rfl, cd2 _, ?_⟩
    refine ⟨Ig8, a, cl, m4, G ++ [(m.next + 1 + 1, .num)], .ref l8, g / 2, rfl, Nat.zero_le _, by omega, pre.next wg8 n4 (by omega), hgg8, hin.snoc2 _ (by omega) e4, fun u9 I9 H9 m9 v9 nx9 ⟨t9, ht9, hs9, _⟩ => ?_⟩
    have w14 : W [a] I H I9 (gM a cl m9) H9 := wg8.callG v9
    rw [sc_snoc] at hs9
    refine ⟨s4, fun p2 hp2 => ⟨s3, fun p3 hp3 => ?_⟩⟩
    have w15 := w14.newI hp2 (.tup [SS "fn", .str (xN (m.next + 1 + 1)), .ref q3, u9])
    have u15 := w14.upI hp2 (.tup [SS "fn", .str (xN (m.next + 1 + 1)), .ref q3, u9])
    have w16 := w15.newI hp3 (.tup [SS "call", .ref p1, .ref p2])
    have u16 := w15.upI hp3 (.tup [SS "call", .ref p1, .ref p2])
    have s16 := u13.trans (ug8.trans (v9.st.same.trans (u15.trans u16)))
    exact q _ _ _ _ w16 ((n4.trans nx9).le (by omega)) ⟨.call (.fn (xN (m.next + 1)) (.call (.var (xN (m.next + 1))) (.call (.var (xN (m.next + 1))) to))) (.fn (xN (m.next + 1 + 1)) t9),
      ⟨p3, _, _, rfl, upd_same, ⟨p1, _, _, rfl, s16 _ _ upd_same, hbody.mono (u12.trans s16)⟩, p2, _, _, rfl, u16 _ _ upd_same, ht9.mono (u15.trans u16)⟩, (Safe.way0 hb hso hs9 hf hy).up (by omega), trivial⟩
  refine tF h0 ?_
  refine ⟨_, rfl, rfl, _, rfl, ?_⟩
  by_cases h1 : V.int r = V.int 1
  · refine tT h1 ?_
    refine ⟨_, rfl, ?_⟩
    refine ⟨_, rfl, _, rfl, s1, fun k8 hk8 => ⟨s2, fun t8 ht8 => ⟨s1, fun b8 hb8 => ⟨ls, b8, us, [.ref t8], rfl, rfl, same_up hb8 _ _ (same_up ht8 _ _ (same_up hk8 _ _ (w7.i (sI7 _ _ hls)))), upd_same, ?_, fun l8 hl8 => ?_⟩⟩⟩⟩
    · rw [← Paired.length hps]
      exact Nat.le_trans (by show G.length + 1 ≤ 1000001; omega) (by decide)
    obtain ⟨Ig8, wg8, ug8, hgg8⟩ := W.grow (n := m.next + 1 + 1) (k := .num) w7 (Paired.mapP hps fun _ _ z => z.mono sI7) hk8 ht8 hb8 hl8
    refine ⟨_, rfl, _, _, rfl, rfl, cd2 _, ?_⟩
    refine ⟨Ig8, a, cl, m4, G ++ [(m.next + 1 + 1, .num)], .ref l8, g / 2, rfl, Nat.zero_le _, by omega, pre.next wg8 n4 (by omega), hgg8, hin.snoc2 _ (by omega) e4, fun u9 I9 H9 m9 v9 nx9 ⟨t9, ht9, hs9, _⟩ => ?_⟩
    have w10 : W [a] I H I9 (gM a cl m9) H9 := wg8.callG v9
    have n9 := n4.trans nx9
    rw [sc_snoc] at hs9
    refine ⟨_, rfl, I9, a, cl, m9, 4, rfl, pre.next w10 n9 (by omega), by decide, by decide, fun rc m11 H11 v11 nx11 _ _ c0 c4 => ?_⟩
    obtain ⟨cn, rfl⟩ := Int.eq_ofNat_of_zero_le c0
    have w11 : W [a] I H I9 (gM a cl m11) H11 := w10.callG v11
    refine ⟨_, rfl, fun pn hpn => ⟨_, rfl, s1, fun q3 hq3 => ⟨_, rfl, s4, fun p1 hp1 => ⟨_, rfl, s4, fun p2 hp2 => ?_⟩⟩⟩⟩
    have w12 := w11.newI hpn (.tup [SS "number", .int (cn : Int)])
    have u12 := w11.upI hpn (.tup [SS "number", .int (cn : Int)])
    have w13 := w12.newI hq3 (.tup [SS "num"])
    have u13 := w12.upI hq3 (.tup [SS "num"])
    have w14 := w13.newI hp1 (.tup [SS "fn", .str (xN (m.next + 1 + 1)), .ref q3, u9])
    have u14 := w13.upI hp1 (.tup [SS "fn", .str (xN (m.next + 1 + 1)), .ref q3, u9])
    have w15 := w14.newI hp2 (.tup [SS "repeat", .ref pn, .ref p1, uo])
    have u15 := w14.upI hp2 (.tup [SS "repeat", .ref pn, .ref p1, uo])
    exact q _ _ _ _ w15 ((n9.trans nx11).le (by omega)) ⟨.rep (.lit (cn : Int)) (.fn (xN (m.next + 1 + 1)) t9) to,
      ⟨p2, _, _, _, rfl, upd_same, ⟨pn, rfl, .inl (u15 _ _ (u14 _ _ (u13 _ _ upd_same)))⟩, ⟨p1, _, _, rfl, u15 _ _ upd_same, ht9.mono (u12.trans (u13.trans (u14.trans u15)))⟩, hto7.mono (ug8.trans (v9.st.same.trans (u12.trans (u13.trans (u14.trans u15)))))⟩,
      (Safe.way1 (by have c4 : (cn : Int) < 4 := c4; omega) hso hs9 hy).up (by omega), trivial⟩
  refine tF h1 ?_
  refine ⟨_, rfl, rfl, _, rfl, ?_⟩
  by_cases h2 : V.int r = V.int 2
  · refine tT h2 ?_
    refine ⟨_, rfl, _, rfl, _, rfl, _, rfl, _, _, rfl, rfl, cd2 _, ?_⟩
    refine ⟨I7, a, cl, m4, G, .ref ls, g / 2, rfl, Nat.zero_le _, by omega, pre.next w7 n4 (by omega), hG.mono sI7, hin.mono n4.n0, fun u9 I9 H9 m9 v9 nx9 ⟨t9, ht9, hs9, _⟩ => ?_⟩
    have w8 : W [a] I H I9 (gM a cl m9) H9 := w7.callG v9
    have n9 := n4.trans nx9
    refine ⟨s3, fun pp hpp => ⟨s1, fun q3 hq3 => ⟨s2, fun q4 hq4 => ⟨s3, fun q5 hq5 => ⟨_, rfl, s2, fun f1 hf1 => ⟨s2, fun g1 hg1 => ⟨_, rfl, s2, fun f2 hf2 => ⟨s2, fun g2 hg2 => ?_⟩⟩⟩⟩⟩⟩⟩⟩
    have w9 := w8.newI hpp (.tup [SS "pair", uo, u9])
    have u9' := w8.upI hpp (.tup [SS "pair", uo, u9])
    have w10 := w9.newI hq3 (.tup [SS "num"])
    have u10 := w9.upI hq3 (.tup [SS "num"])
    have w11 := w10.newI hq4 (.tup [SS "few", .int 2])
    have u11 := w10.upI hq4 (.tup [SS "few", .int 2])
    have w12 := w11.newI hq5 (.tup [SS "both", .ref q3, .ref q4])
    have u12 := w11.upI hq5 (.tup [SS "both", .ref q3, .ref q4])
    have w13 := w12.newI hf1 (.tup [SS "var", .str (xN (m.next + 1))])
    have u13 := w12.upI hf1 (.tup [SS "var", .str (xN (m.next + 1))])
    have w14 := w13.newI hg1 (.tup [SS "second", .ref f1])
    have u14 := w13.upI hg1 (.tup [SS "second", .ref f1])
    have w15 := w14.newI hf2 (.tup [SS "var", .str (xN (m.next + 1))])
    have u15 := w14.upI hf2 (.tup [SS "var", .str (xN (m.next + 1))])
    have w16 := w15.newI hg2 (.tup [SS "first", .ref f2])
    have u16 := w15.upI hg2 (.tup [SS "first", .ref f2])
    have s916 := u10.trans (u11.trans (u12.trans (u13.trans (u14.trans (u15.trans u16)))))
    have hpair : TmAt _ (.pair to t9) (.ref pp) := ⟨pp, _, _, rfl, s916 _ _ upd_same, hto7.mono (v9.st.same.trans (u9'.trans s916)), ht9.mono (u9'.trans s916)⟩
    have hsnd : TmAt _ (.snd (.var (xN (m.next + 1)))) (.ref g1) := ⟨g1, _, rfl, u16 _ _ (u15 _ _ upd_same), f1, rfl, u16 _ _ (u15 _ _ (u14 _ _ upd_same))⟩
    have hfst : TmAt _ (.fst (.var (xN (m.next + 1)))) (.ref g2) := ⟨g2, _, rfl, upd_same, f2, rfl, u16 _ _ upd_same⟩
    have sI16 := sI7.trans (v9.st.same.trans (u9'.trans s916))
    revert w16 hpair hsnd hfst sI16
    clear s916 u16 u15 u14 u13 u12 u11 u10 u9' w15 w14 w13 w12 w11 w10 w9
    generalize upd (upd (upd (upd (upd (upd (upd (upd I9 pp (.tup [SS "pair", uo, u9])) q3 (.tup [SS "num"])) q4 (.tup [SS "few", .int 2])) q5 (.tup [SS "both", .ref q3, .ref q4])) f1 (.tup [SS "var", .str (xN (m.next + 1))])) g1 (.tup [SS "second", .ref f1])) f2 (.tup [SS "var", .str (xN (m.next + 1))])) g2 (.tup [SS "first", .ref f2]) = I16
    generalize upd (upd (upd (upd (upd (upd (upd (upd H9 pp (.tup [SS "pair", uo, u9])) q3 (.tup [SS "num"])) q4 (.tup [SS "few", .int 2])) q5 (.tup [SS "both", .ref q3, .ref q4])) f1 (.tup [SS "var", .str (xN (m.next + 1))])) g1 (.tup [SS "second", .ref f1])) f2 (.tup [SS "var", .str (xN (m.next + 1))])) g2 (.tup [SS "first", .ref f2]) = H16
    intro w16 hpair hsnd hfst sI16
    refine ⟨_, rfl, _, rfl, _, rfl, _, _, rfl, rfl, cd2 _, ?_⟩
    refine ⟨I16, a, cl, m9, G, .ref ls, g / 2, rfl, Nat.zero_le _, by omega, pre.next w16 n9 (by omega), hG.mono sI16, hin.mono n9.n0, fun u17 I17 H17 m17 v17 nx17 ⟨t17, ht17, hs17, _⟩ => ?_⟩
    have w17 : W [a] I H I17 (gM a cl m17) H17 := w16.callG v17
    refine ⟨s4, fun pi hpi => ⟨_, rfl, _, rfl, _, rfl, s4, fun pf hpf => ⟨_, rfl, s3, fun p hp => ?_⟩⟩⟩
    have w18 := w17.newI hpi (.tup [SS "if", .ref g1, .ref g2, u17])
    have u18 := w17.upI hpi (.tup [SS "if", .ref g1, .ref g2, u17])
    have w19 := w18.newI hpf (.tup [SS "fn", .str (xN (m.next + 1)), .ref q5, .ref pi])
    have u19 := w18.upI hpf (.tup [SS "fn", .str (xN (m.next + 1)), .ref q5, .ref pi])
    have w20 := w19.newI hp (.tup [SS "call", .ref pf, .ref pp])
    have u20 := w19.upI hp (.tup [SS "call", .ref pf, .ref pp])
    have s20 := u18.trans (u19.trans u20)
    have s17 := v17.st.same.trans s20
    exact q _ _ _ _ w20 ((n9.trans nx17).le (by omega)) ⟨.call (.fn (xN (m.next + 1)) (.ite (.snd (.var (xN (m.next + 1)))) (.fst (.var (xN (m.next + 1)))) t17)) (.pair to t9),
      ⟨p, _, _, rfl, upd_same, ⟨pf, _, _, rfl, u20 _ _ upd_same, pi, _, _, _, rfl, u20 _ _ (u19 _ _ upd_same), hsnd.mono s17, hfst.mono s17, ht17.mono s20⟩, hpair.mono s17⟩, (Safe.way2 hb hso hs9 hs17 hf).up (by omega), trivial⟩
  refine tF h2 ?_
  refine ⟨_, rfl, I7, a, cl, m4, rfl, pre.next w7 n4 (by omega), fun H8 v8 => ?_⟩
  have w8 : W [a] I H I7 (gM a cl { m4 with next := m4.next + 1 }) H8 := w7.callG v8
  have n8 := n4.trans (Nx.fresh m4)
  have hz := hin.new (show m.next < m4.next + 1 by omega)
  refine ⟨_, rfl, s1, fun q3 hq3 => ⟨_, rfl, s2, fun f1 hf1 => ⟨_, rfl, s2, fun f2 hf2 => ⟨_, rfl, s2, fun y1 hy1 => ⟨s3, fun c2 hc2 => ⟨s3, fun c1 hc1 => ⟨s4, fun tw htw => ?_⟩⟩⟩⟩⟩⟩⟩
  have w9 := w8.newI hq3 (.tup [SS "num"])
  have u9 := w8.upI hq3 (.tup [SS "num"])
  have w10 := w9.newI hf1 (.tup [SS "var", .str (xN (m.next + 1))])
  have u10 := w9.upI hf1 (.tup [SS "var", .str (xN (m.next + 1))])
  have w11 := w10.newI hf2 (.tup [SS "var", .str (xN (m.next + 1))])
  have u11 := w10.upI hf2 (.tup [SS "var", .str (xN (m.next + 1))])
  have w12 := w11.newI hy1 (.tup [SS "var", .str (xN (m.next + 1 + 1))])
  have u12 := w11.upI hy1 (.tup [SS "var", .str (xN (m.next + 1 + 1))])
  have w13 := w12.newI hc2 (.tup [SS "call", .ref f2, .ref y1])
  have u13 := w12.upI hc2 (.tup [SS "call", .ref f2, .ref y1])
  have w14 := w13.newI hc1 (.tup [SS "call", .ref f1, .ref c2])
  have u14 := w13.upI hc1 (.tup [SS "call", .ref f1, .ref c2])
  have w15 := w14.newI htw (.tup [SS "fn", .str (xN (m.next + 1 + 1)), .ref q3, .ref c1])
  have u15 := w14.upI htw (.tup [SS "fn", .str (xN (m.next + 1 + 1)), .ref q3, .ref c1])
  have htwi : TmAt _ (.fn (xN (m.next + 1 + 1)) (.call (.var (xN (m.next + 1))) (.call (.var (xN (m.next + 1))) (.var (xN (m.next + 1 + 1)))))) (.ref tw) :=
    ⟨tw, _, _, rfl, upd_same, c1, _, _, rfl, u15 _ _ upd_same, ⟨f1, rfl, u15 _ _ (u14 _ _ (u13 _ _ (u12 _ _ (u11 _ _ upd_same))))⟩, c2, _, _, rfl, u15 _ _ (u14 _ _ upd_same), ⟨f2, rfl, u15 _ _ (u14 _ _ (u13 _ _ (u12 _ _ upd_same)))⟩, y1, rfl, u15 _ _ (u14 _ _ (u13 _ _ upd_same))⟩
  have s15 := u9.trans (u10.trans (u11.trans (u12.trans (u13.trans (u14.trans u15)))))
  have hto15 := hto7.mono s15
  have sI15 := sI7.trans s15
  revert w15 htwi hto15 sI15
  clear s15 u15 u14 u13 u12 u11 u10 u9 w14 w13 w12 w11 w10 w9
  generalize upd (upd (upd (upd (upd (upd (upd I7 q3 (.tup [SS "num"])) f1 (.tup [SS "var", .str (xN (m.next + 1))])) f2 (.tup [SS "var", .str (xN (m.next + 1))])) y1 (.tup [SS "var", .str (xN (m.next + 1 + 1))])) c2 (.tup [SS "call", .ref f2, .ref y1])) c1 (.tup [SS "call", .ref f1, .ref c2])) tw (.tup [SS "fn", .str (xN (m.next + 1 + 1)), .ref q3, .ref c1]) = I15
  generalize upd (upd (upd (upd (upd (upd (upd H8 q3 (.tup [SS "num"])) f1 (.tup [SS "var", .str (xN (m.next + 1))])) f2 (.tup [SS "var", .str (xN (m.next + 1))])) y1 (.tup [SS "var", .str (xN (m.next + 1 + 1))])) c2 (.tup [SS "call", .ref f2, .ref y1])) c1 (.tup [SS "call", .ref f1, .ref c2])) tw (.tup [SS "fn", .str (xN (m.next + 1 + 1)), .ref q3, .ref c1]) = H15
  intro w15 htwi hto15 sI15
  refine ⟨_, rfl, s2, fun z1 hz1 => ?_⟩
  have w16 := w15.newI hz1 (.tup [SS "var", .str (xN (m4.next + 1))])
  have u16 := w15.upI hz1 (.tup [SS "var", .str (xN (m4.next + 1))])
  refine ⟨_, rfl, _, rfl, _, rfl, _, _, rfl, rfl, cd2 _, ?_⟩
  refine ⟨_, a, cl, _, G, .ref ls, 2, g / 2, rfl, by decide, by decide, by omega, pre.next w16 n8 (by omega), hG.mono (sI15.trans u16), hin.mono n8.n0, fun u17 I17 H17 m17 v17 nx17 ⟨t17, ht17, hs17, _⟩ => ?_⟩
  have w17 : W [a] I H I17 (gM a cl m17) H17 := w16.callG v17
  have n17 := n8.trans nx17
  refine ⟨s2, fun pc hpc => ?_⟩
  have w18 := w17.newI hpc (.tup [SS "count", u17])
  have u18 := w17.upI hpc (.tup [SS "count", u17])
  refine ⟨_, _, _, rfl, fun p1 p2 hp1 hp2 => ?_⟩
  have w19 := w18.newI hp1 (.tup [.ref z1, .ref pc])
  have u19 := w18.upI hp1 (.tup [.ref z1, .ref pc])
  have w20 := w19.newI hp2 (.tup [SS "prim", .str "add", .ref p1])
  have u20 := w19.upI hp2 (.tup [SS "prim", .str "add", .ref p1])
  have s20 := u18.trans (u19.trans u20)
  have s16 := v17.st.same.trans s20
  have hstep : TmAt _ (.prim "add" (.var (xN (m4.next + 1))) (.count t17)) (.ref p2) := ⟨p2, p1, _, _, rfl, upd_same, u20 _ _ upd_same, ⟨z1, rfl, s16 _ _ upd_same⟩, pc, _, rfl, u20 _ _ (u19 _ _ upd_same), ht17.mono s20⟩
  have htwi20 := htwi.mono (u16.trans s16)
  have hto20 := hto15.mono (u16.trans s16)
  have n20 := n17
  revert w20 hstep htwi20 hto20
  clear s16 s20 u20 u19 u18 w19 w18
  generalize upd (upd (upd I17 pc (.tup [SS "count", u17])) p1 (.tup [.ref z1, .ref pc])) p2 (.tup [SS "prim", .str "add", .ref p1]) = I20
  generalize upd (upd (upd H17 pc (.tup [SS "count", u17])) p1 (.tup [.ref z1, .ref pc])) p2 (.tup [SS "prim", .str "add", .ref p1]) = H20
  intro w20 hstep htwi20 hto20
  refine ⟨_, rfl, I20, a, cl, m17, 2, rfl, pre.next w20 n17 (by omega), by decide, by decide, fun rc m21 H21 v21 nx21 _ _ c0 c2 => ?_⟩
  have w21 : W [a] I H I20 (gM a cl m21) H21 := w20.callG v21
  obtain ⟨cn, rfl⟩ := Int.eq_ofNat_of_zero_le c0
  refine ⟨_, _, rfl, rfl, _, rfl, fun pn hpn => ⟨_, rfl, _, rfl, _, rfl, s4, fun pf hpf => ⟨_, rfl, s1, fun q4 hq4 => ⟨_, rfl, s4, fun pz hpz => ⟨s4, fun pr hpr => ⟨_, rfl, _, rfl, s3, fun p hp => ?_⟩⟩⟩⟩⟩⟩
  have w22 := w21.newI hpn (.tup [SS "number", .int (1 + (cn : Int))])
  have u22 := w21.upI hpn (.tup [SS "number", .int (1 + (cn : Int))])
  have w23 := w22.newI hpf (.tup [SS "fn", .str (xN (m.next + 1)), .ref nb, .ref tw])
  have u23 := w22.upI hpf (.tup [SS "fn", .str (xN (m.next + 1)), .ref nb, .ref tw])
  have w24 := w23.newI hq4 (.tup [SS "num"])
  have u24 := w23.upI hq4 (.tup [SS "num"])
  have w25 := w24.newI hpz (.tup [SS "fn", .str (xN (m4.next + 1)), .ref q4, .ref p2])
  have u25 := w24.upI hpz (.tup [SS "fn", .str (xN (m4.next + 1)), .ref q4, .ref p2])
  have w26 := w25.newI hpr (.tup [SS "repeat", .ref pn, .ref pf, .ref pz])
  have u26 := w25.upI hpr (.tup [SS "repeat", .ref pn, .ref pf, .ref pz])
  have w27 := w26.newI hp (.tup [SS "call", .ref pr, uo])
  have u27 := w26.upI hp (.tup [SS "call", .ref pr, uo])
  have s27 := u25.trans (u26.trans u27)
  have s26 := u22.trans (u23.trans (u24.trans s27))
  have ec : (1 + (cn : Int)) = ((cn + 1 : Nat) : Int) := by omega
  have hnum : ∀ J : Hp, J pn = some (.tup [SS "number", .int (1 + (cn : Int))]) → TmAt J (.lit ((cn + 1 : Nat) : Int)) (.ref pn) := fun J h => ⟨pn, rfl, .inl (by rw [← ec]; exact h)⟩
  exact q _ _ _ _ w27 ((n17.trans nx21).le (by omega)) ⟨.call (.rep (.lit ((cn + 1 : Nat) : Int)) (.fn (xN (m.next + 1)) (.fn (xN (m.next + 1 + 1)) (.call (.var (xN (m.next + 1))) (.call (.var (xN (m.next + 1))) (.var (xN (m.next + 1 + 1))))))) (.fn (xN (m4.next + 1)) (.prim "add" (.var (xN (m4.next + 1))) (.count t17)))) to, ⟨p, _, _, rfl, upd_same, ⟨pr, _, _, _, rfl, u27 _ _ upd_same, hnum _ (s27 _ _ (u24 _ _ (u23 _ _ upd_same))), ⟨pf, _, _, rfl, s27 _ _ (u24 _ _ upd_same), htwi20.mono s26⟩, pz, _, _, rfl, u27 _ _ (u26 _ _ upd_same), hstep.mono s26⟩, hto20.mono s26⟩,
    Safe.way3 hb (by have c2 : (cn : Int) < 2 := c2; omega) hso hs17 hf hy hz hfy, trivial⟩
end
end KW
set_option Elab.async false
set_option linter.all false
set_option maxRecDepth 100000
set_option maxHeartbeats 4000000
/-! G5: num; all defs of terms, by their fuel. -/
namespace KW
open PySem PySem.Spec PyProof.Rows L2 
section
variable {P : Program} {w : World} {K : PySem.W.Frag} {mg : Str → Option Value} {base : Heap}
abbrev N__law_num : List Str := ["_law_m", "_law_scope", "_law_fuel", "_law_own", "_law_way", "_law_word", "_law_name", "_law_body"]
theorem sc__law_num : FnScope N__law_num ["_law_m", "_law_scope", "_law_fuel"] (defScope (top 77)) := fnScope_ok (by decide +kernel)
theorem ok_num {f c b k : Nat} (hb : 2 ≤ b) (D : DefAt K mg "_law_num" 77) (T : Txt K mg) (c__law_having : Cl P w K mg base 1 "_law_having" spHaving) (c__law_draw : Cl P w K mg base 1 "_law_draw" spDraw) (c__law_of : Cl P w K mg base 2 "_law_of" spOf) (c__law_fresh : Cl P w K mg base 1 "_law_fresh" spFresh) (c__law_n : Cl P w K mg base 1 "_law_n" spN) (c__law_p : Cl P w K mg base 1 "_law_p" spP)
    (c__law_num : Cl P w K mg base (k + 2) "_law_num" (spK 0 .num f c b)) (c__law_test : Cl P w K mg base (k + 2) "_law_test" (spK 0 (.few 2) f c b)) (c__law_few : Cl P w K mg base (k + 2) "_law_few" (spS f c b)) (c__law_entry : Cl P w K mg base (k + 4) "_law_entry" (spS (f + 1) (2 * c + 5) (b + 3)))
    (c__law_over_rows : Cl P w K mg base (k + 3) "_law_over_rows" (spK 1 .num (f + 1) (c + 3) (b + 2))) (c__law_higher : Cl P w K mg base (k + 3) "_law_higher" (spK 1 .num (f + 1) (3 * c + 6) (b + 10))) : Cl P w K mg base (k + 5) "_law_num" (spK 0 .num (f + 1) (3 * c + 10) (b + 10)) := by
  refine cl_mk (i := 77) (N := N__law_num) (ps := ["_law_m", "_law_scope", "_law_fuel"]) D sc__law_num (fun _ _ _ _ _ _ us hl => match us, hl with | [_, _, _], _ => rfl) ?_ ?_
  · rintro vs H Q E ⟨I, a, cl, m, G, sv, g, rfl, _⟩
    rfl
  rintro f0 cdv A outer s0 H vs Q E hr ⟨I, a, cl, m, G, sv, g, rfl, hlo, hgf, pre, hG, hin, q⟩
  refine ⟨_, (pss_cons (ps_par (i := 3) (j := 4) rfl sc__law_num.nd rfl rfl (by decide) rfl rfl (pa_cons (pe_cl c__law_having hr (by omega) rfl (pa_cons (pv 1) (pa_cons (pe_tup (pa_cons pe_str pa_nil)) pa_nil))) (pa_cons (pe_cl c__law_draw hr (by omega) rfl (pa_cons (pv 0) (pa_cons pe_int pa_nil))) pa_nil)) (by rfl)) (pss_cons (ps_if (PW.pt (pw_or (pt_cmpR op_lt (pv 2) pe_int (nomark _)) (pw_or1 (pt_cmpR op_eq (pv 4) pe_int (nomark _))))) (pss_cons (ps_if (PW.pt (pw_and (pt_cmpR (op_neL0 hr.units0) (pv 3) (pe_lst pa_nil) (nomark _)) (pw_and1 (pt_cmpR op_eq (pe_cl c__law_draw hr (by omega) rfl (pa_cons (pv 0) (pa_cons pe_int pa_nil))) pe_int (nomark _))))) (pss_one (ps_ret (pe_cl c__law_of hr (by omega) rfl (pa_cons (pv 0) (pa_cons (pv 3) pa_nil))))) pss_nil) (pss_one (ps_ret (pe_ifExp (pt_cmpR op_eq (pe_cl c__law_draw hr (by omega) rfl (pa_cons (pv 0) (pa_cons pe_int pa_nil))) pe_int (nomark _)) (pe_cl c__law_n hr (by omega) rfl (pa_cons (pe_cl c__law_draw hr (by omega) rfl (pa_cons (pv 0) (pa_cons pe_int pa_nil))) pa_nil)) (pe_tup (pa_cons pe_str (pa_cons (pe_cl c__law_entry hr (by omega) rfl (pa_cons (pv 0) (pa_cons (pv 1) (pa_cons pe_int (pa_cons pe_int pa_nil))))) pa_nil))))))) pss_nil) (pss_cons (ps_if (pt_cmpR op_lt (pv 4) pe_int (nomark _)) (pss_one (ps_ret (pe_tup (pa_cons pe_str (pa_cons (pe_cl c__law_few hr (by omega) rfl (pa_cons (pv 0) (pa_cons (pv 1) (pa_cons (pe_cl c__law_of hr (by omega) rfl (pa_cons (pv 0) (pa_cons (pe_lst (pa_cons pe_int (pa_cons pe_int pa_nil))) pa_nil))) (pa_cons (pe_op op_sub (pv 2) pe_int) pa_nil))))) pa_nil))))) pss_nil) (pss_cons (ps_if (pt_cmpR op_lt (pv 4) pe_int (nomark _)) (pss_cons (ps_set (i := 5) sc__law_num.nd rfl (Or.inl rfl) (pe_cl c__law_of hr (by omega) rfl (pa_cons (pv 0) (pa_cons (pe_lst (pa_cons pe_str (pa_cons pe_str (pa_cons pe_str (pa_cons pe_str (pa_cons pe_str (pa_cons pe_str pa_nil))))))) pa_nil)))) (pss_one (ps_ret (pe_cl c__law_p hr (by omega) rfl (pa_cons (pv 5) (pa_cons (pe_cl c__law_num hr (by omega) rfl (pa_cons (pv 0) (pa_cons (pv 1) (pa_cons (pe_op op_fdivW (pv 2) pe_int) pa_nil)))) (pa_cons (pe_cl c__law_num hr (by omega) rfl (pa_cons (pv 0) (pa_cons (pv 1) (pa_cons (pe_op op_fdivW (pv 2) pe_int) pa_nil)))) pa_nil))))))) pss_nil) (pss_cons (ps_if (pt_cmpR op_eq (pv 4) pe_int (nomark _)) (pss_one (ps_ret (pe_tup (pa_cons pe_str (pa_cons (pe_cl c__law_test hr (by omega) rfl (pa_cons (pv 0) (pa_cons (pv 1) (pa_cons (pe_op op_fdivW (pv 2) pe_int) pa_nil)))) (pa_cons (pe_cl c__law_num hr (by omega) rfl (pa_cons (pv 0) (pa_cons (pv 1) (pa_cons (pe_op op_fdivW (pv 2) pe_int) pa_nil)))) (pa_cons (pe_cl c__law_num hr (by omega) rfl (pa_cons (pv 0) (pa_cons (pv 1) (pa_cons (pe_op op_fdivW (pv 2) pe_int) pa_nil)))) pa_nil))))))) pss_nil) (pss_cons (ps_if (pt_cmpR op_eq (pv 4) pe_int (nomark _)) (pss_cons (ps_set (i := 6) sc__law_num.nd rfl (Or.inl rfl) (pe_cl c__law_fresh hr (by omega) rfl (pa_cons (pv 0) pa_nil))) (pss_cons (ps_set (i := 7) sc__law_num.nd rfl (Or.inl rfl) (pe_cl c__law_num hr (by omega) rfl (pa_cons (pv 0) (pa_cons (pe_op op_cat (pv 1) (pe_lst (pa_cons (pe_tup (pa_cons (pv 6) (pa_cons (pe_tup (pa_cons pe_str pa_nil)) pa_nil))) pa_nil))) (pa_cons (pe_op op_fdivW (pv 2) pe_int) pa_nil))))) (pss_one (ps_ret (pe_tup (pa_cons pe_str (pa_cons (pe_tup (pa_cons pe_str (pa_cons (pv 6) (pa_cons (pe_tup (pa_cons pe_str pa_nil)) (pa_cons (pv 7) pa_nil))))) (pa_cons (pe_cl c__law_num hr (by omega) rfl (pa_cons (pv 0) (pa_cons (pv 1) (pa_cons (pe_op op_fdivW (pv 2) pe_int) pa_nil)))) pa_nil)))))))) pss_nil) (pss_cons (ps_if (PW.pt (pw_and (pt_cmpR op_eq (pv 4) pe_int (nomark _)) (pw_and1 (pt_cmpR op_gt (pe_dget (hu_of hr) (pv 0) pe_str (fun _ _ => rfl)) pe_int (nomark _))))) (pss_one (ps_ret (pe_cl c__law_over_rows hr (by omega) rfl (pa_cons (pv 0) (pa_cons (pv 1) (pa_cons (pv 2) pa_nil)))))) pss_nil) (pss_one (ps_ret (pe_cl c__law_higher hr (by omega) rfl (pa_cons (pv 0) (pa_cons (pv 1) (pa_cons (pv 2) pa_nil))))))))))))), ?_⟩
  have w0 : W [a] I H I (gM a cl m) H := W.start pre.hs
  have hlim : LIM = 1000000 := rfl
  have hl2 := pre.l2
  have hinl := hin.len
  obtain ⟨ls, us, rfl, hls, hps⟩ := id hG
  refine ⟨_, rfl, s1, fun kp hkp => ?_⟩
  have w1 := w0.newI hkp (.tup [SS "num"])
  have u1 := w0.upI hkp (.tup [SS "num"])
  refine ⟨_, G, .num, .ref ls, kp, rfl, w1.hs.left0, hG.mono u1, by omega, (show SKAt _ .num kp from upd_same), fun l os I2 H2 v2 hl hul hos _ => ?_⟩
  have w2 : W [a] I H I2 (gM a cl m) H2 := W.call (M1 := []) (M1' := []) w1 v2.st v2.hs rfl
  clear w1 u1 hkp v2
  refine ⟨_, rfl, I2, a, cl, m, 12, rfl, pre.next w2 (Nx.refl 0 m) (by omega), by decide, by decide, fun r m3 H3 v3 n3 _ _ r0 r12 => ?_⟩
  have w3 : W [a] I H I2 (gM a cl m3) H3 := w2.callG v3
  refine ⟨_, _, rfl, ?_⟩
  refine ⟨_, rfl, _, _, rfl, rfl, _, rfl, ?_⟩
  by_cases hg : (g : Int) < 1
  · refine tT hg (iteT ?_)
    refine ⟨_, rfl, Nat.zero_le _, fun e he => ⟨l, e, os, rfl, rfl, SqL.of (same_up he _ _ (w3.i hl)), SqL.of upd_same, _, rfl, ?_⟩⟩
    have we := w3.newI he (.lst [])
    have ue := w3.upI he (.lst [])
    have hle := ue _ _ hl
    have hose : ∀ u ∈ os, ∃ i, (i, SK.num) ∈ G ∧ TmAt (upd I2 e (.lst [])) (.var (xN i)) u := fun u hu => let ⟨i, a1, a2⟩ := hos u hu; ⟨i, a1, a2.mono ue⟩
    clear hos hl w3 v3 he ue w2
    revert we hle hose
    generalize upd I2 e (.lst []) = I2
    generalize upd H3 e (.lst []) = H3
    intro we hle hose
    cases os with
    | nil =>
      refine iteF (iteF ?_)
      refine ⟨_, rfl, I2, a, cl, m3, 2, rfl, pre.next we n3 (by omega), by decide, by decide, fun rb mb Hb vb nxb _ _ _ _ => ?_⟩
      have wb : W [a] I H I2 (gM a cl mb) Hb := we.callG vb
      have nb := n3.trans nxb
      refine ⟨rfl, _, rfl, ?_⟩
      by_cases hb0 : V.int rb = V.int 0
      · refine tT hb0 ?_
        refine ⟨_, rfl, I2, a, cl, mb, 4, rfl, pre.next wb nb (by omega), by decide, by decide, fun rc mc Hc vc nxc _ _ h0 h1 => ?_⟩
        have wc : W [a] I H I2 (gM a cl mc) Hc := wb.callG vc
        refine ⟨_, rfl, fun p hp => ?_⟩
        have wd := wc.newI hp (.tup [SS "number", .int rc])
        exact q _ _ _ _ wd ((nb.trans nxc).le (by omega)) ⟨.lit rc, ⟨p, rfl, .inl upd_same⟩, ((Safe.lit (m := 4) h0 h1).num (by decide)).up (by omega), trivial⟩
      · refine tF hb0 ?_
        refine ⟨_, rfl, _, rfl, I2, a, cl, mb, G, .ref ls, 2, 0, rfl, by decide, by decide, by omega, pre.next wb nb (by omega), hG.mono wb.st.same, hin.mono nb.n0, fun uc Ic Hc mc vc nxc ⟨tc, htc, hsc, _⟩ => ?_⟩
        have wc : W [a] I H Ic (gM a cl mc) Hc := wb.callG vc
        refine ⟨s2, fun p hp => ?_⟩
        have wd := wc.newI hp (.tup [SS "count", uc])
        have ud := wc.upI hp (.tup [SS "count", uc])
        exact q _ _ _ _ wd ((nb.trans nxc).le (by omega)) ⟨.count tc, ⟨p, _, rfl, upd_same, htc.mono ud⟩, (hsc.count (by decide)).up (by omega), trivial⟩
    | cons o0 os =>
      refine iteT ?_
      refine ⟨_, rfl, I2, a, cl, m3, 2, rfl, pre.next we n3 (by omega), by decide, by decide, fun r5 m5 H5 v5 nx5 _ _ _ _ => ?_⟩
      have w5 : W [a] I H I2 (gM a cl m5) H5 := we.callG v5
      have n5 := n3.trans nx5
      refine ⟨rfl, _, rfl, ?_⟩
      by_cases h50 : V.int r5 = V.int 0
      · refine tT h50 ?_
        refine ⟨_, rfl, _, rfl, I2, a, cl, m5, l, o0 :: os, rfl, pre.next w5 n5 (by omega), w5.i hle, (by simp), by omega, fun u m6 H6 hu v6 nx6 _ _ => ?_⟩
        obtain ⟨j, hj, htj⟩ := hose u hu
        exact q _ _ _ _ (w5.callG v6) ((n5.trans nx6).le (by omega)) ⟨_, htj, (Safe.var (sc_mem hj)).up (by omega), trivial⟩
      · refine tF h50 ?_
        refine ⟨_, rfl, I2, a, cl, m5, 2, rfl, pre.next w5 n5 (by omega), by decide, by decide, fun rb mb Hb vb nxb _ _ _ _ => ?_⟩
        have wb : W [a] I H I2 (gM a cl mb) Hb := w5.callG vb
        have nb := n5.trans nxb
        refine ⟨rfl, _, rfl, ?_⟩
        by_cases hb0 : V.int rb = V.int 0
        · refine tT hb0 ?_
          refine ⟨_, rfl, I2, a, cl, mb, 4, rfl, pre.next wb nb (by omega), by decide, by decide, fun rc mc Hc vc nxc _ _ h0 h1 => ?_⟩
          have wc : W [a] I H I2 (gM a cl mc) Hc := wb.callG vc
          refine ⟨_, rfl, fun p hp => ?_⟩
          have wd := wc.newI hp (.tup [SS "number", .int rc])
          exact q _ _ _ _ wd ((nb.trans nxc).le (by omega)) ⟨.lit rc, ⟨p, rfl, .inl upd_same⟩, ((Safe.lit (m := 4) h0 h1).num (by decide)).up (by omega), trivial⟩
        · refine tF hb0 ?_
          refine ⟨_, rfl, _, rfl, I2, a, cl, mb, G, .ref ls, 2, 0, rfl, by decide, by decide, by omega, pre.next wb nb (by omega), hG.mono wb.st.same, hin.mono nb.n0, fun uc Ic Hc mc vc nxc ⟨tc, htc, hsc, _⟩ => ?_⟩
          have wc : W [a] I H Ic (gM a cl mc) Hc := wb.callG vc
          refine ⟨s2, fun p hp => ?_⟩
          have wd := wc.newI hp (.tup [SS "count", uc])
          have ud := wc.upI hp (.tup [SS "count", uc])
          exact q _ _ _ _ wd ((nb.trans nxc).le (by omega)) ⟨.count tc, ⟨p, _, rfl, upd_same, htc.mono ud⟩, (hsc.count (by decide)).up (by omega), trivial⟩
  refine tF hg ?_
  refine ⟨_, rfl, rfl, _, rfl, ?_⟩
  by_cases h0 : V.int r = V.int 0
  · refine tT h0 ?_
    refine ⟨_, rfl, Nat.zero_le _, fun e he => ⟨l, e, os, rfl, rfl, SqL.of (same_up he _ _ (w3.i hl)), SqL.of upd_same, _, rfl, ?_⟩⟩
    have we := w3.newI he (.lst [])
    have ue := w3.upI he (.lst [])
    have hle := ue _ _ hl
    have hose : ∀ u ∈ os, ∃ i, (i, SK.num) ∈ G ∧ TmAt (upd I2 e (.lst [])) (.var (xN i)) u := fun u hu => let ⟨i, a1, a2⟩ := hos u hu; ⟨i, a1, a2.mono ue⟩
    clear hos hl w3 v3 he ue w2
    revert we hle hose
    generalize upd I2 e (.lst []) = I2
    generalize upd H3 e (.lst []) = H3
    intro we hle hose
    cases os with
    | nil =>
      refine iteF (iteF ?_)
      refine ⟨_, rfl, I2, a, cl, m3, 2, rfl, pre.next we n3 (by omega), by decide, by decide, fun rb mb Hb vb nxb _ _ _ _ => ?_⟩
      have wb : W [a] I H I2 (gM a cl mb) Hb := we.callG vb
      have nb := n3.trans nxb
      refine ⟨rfl, _, rfl, ?_⟩
      by_cases hb0 : V.int rb = V.int 0
      · refine tT hb0 ?_
        refine ⟨_, rfl, I2, a, cl, mb, 4, rfl, pre.next wb nb (by omega), by decide, by decide, fun rc mc Hc vc nxc _ _ h0 h1 => ?_⟩
        have wc : W [a] I H I2 (gM a cl mc) Hc := wb.callG vc
        refine ⟨_, rfl, fun p hp => ?_⟩
        have wd := wc.newI hp (.tup [SS "number", .int rc])
        exact q _ _ _ _ wd ((nb.trans nxc).le (by omega)) ⟨.lit rc, ⟨p, rfl, .inl upd_same⟩, ((Safe.lit (m := 4) h0 h1).num (by decide)).up (by omega), trivial⟩
      · refine tF hb0 ?_
        refine ⟨_, rfl, _, rfl, I2, a, cl, mb, G, .ref ls, 2, 0, rfl, by decide, by decide, by omega, pre.next wb nb (by omega), hG.mono wb.st.same, hin.mono nb.n0, fun uc Ic Hc mc vc nxc ⟨tc, htc, hsc, _⟩ => ?_⟩
        have wc : W [a] I H Ic (gM a cl mc) Hc := wb.callG vc
        refine ⟨s2, fun p hp => ?_⟩
        have wd := wc.newI hp (.tup [SS "count", uc])
        have ud := wc.upI hp (.tup [SS "count", uc])
        exact q _ _ _ _ wd ((nb.trans nxc).le (by omega)) ⟨.count tc, ⟨p, _, rfl, upd_same, htc.mono ud⟩, (hsc.count (by decide)).up (by omega), trivial⟩
    | cons o0 os =>
      refine iteT ?_
      refine ⟨_, rfl, I2, a, cl, m3, 2, rfl, pre.next we n3 (by omega), by decide, by decide, fun r5 m5 H5 v5 nx5 _ _ _ _ => ?_⟩
      have w5 : W [a] I H I2 (gM a cl m5) H5 := we.callG v5
      have n5 := n3.trans nx5
      refine ⟨rfl, _, rfl, ?_⟩
      by_cases h50 : V.int r5 = V.int 0
      · refine tT h50 ?_
        refine ⟨_, rfl, _, rfl, I2, a, cl, m5, l, o0 :: os, rfl, pre.next w5 n5 (by omega), w5.i hle, (by simp), by omega, fun u m6 H6 hu v6 nx6 _ _ => ?_⟩
        obtain ⟨j, hj, htj⟩ := hose u hu
        exact q _ _ _ _ (w5.callG v6) ((n5.trans nx6).le (by omega)) ⟨_, htj, (Safe.var (sc_mem hj)).up (by omega), trivial⟩
      · refine tF h50 ?_
        refine ⟨_, rfl, I2, a, cl, m5, 2, rfl, pre.next w5 n5 (by omega), by decide, by decide, fun rb mb Hb vb nxb _ _ _ _ => ?_⟩
        have wb : W [a] I H I2 (gM a cl mb) Hb := w5.callG vb
        have nb := n5.trans nxb
        refine ⟨rfl, _, rfl, ?_⟩
        by_cases hb0 : V.int rb = V.int 0
        · refine tT hb0 ?_
          refine ⟨_, rfl, I2, a, cl, mb, 4, rfl, pre.next wb nb (by omega), by decide, by decide, fun rc mc Hc vc nxc _ _ h0 h1 => ?_⟩
          have wc : W [a] I H I2 (gM a cl mc) Hc := wb.callG vc
          refine ⟨_, rfl, fun p hp => ?_⟩
          have wd := wc.newI hp (.tup [SS "number", .int rc])
          exact q _ _ _ _ wd ((nb.trans nxc).le (by omega)) ⟨.lit rc, ⟨p, rfl, .inl upd_same⟩, ((Safe.lit (m := 4) h0 h1).num (by decide)).up (by omega), trivial⟩
        · refine tF hb0 ?_
          refine ⟨_, rfl, _, rfl, I2, a, cl, mb, G, .ref ls, 2, 0, rfl, by decide, by decide, by omega, pre.next wb nb (by omega), hG.mono wb.st.same, hin.mono nb.n0, fun uc Ic Hc mc vc nxc ⟨tc, htc, hsc, _⟩ => ?_⟩
          have wc : W [a] I H Ic (gM a cl mc) Hc := wb.callG vc
          refine ⟨s2, fun p hp => ?_⟩
          have wd := wc.newI hp (.tup [SS "count", uc])
          have ud := wc.upI hp (.tup [SS "count", uc])
          exact q _ _ _ _ wd ((nb.trans nxc).le (by omega)) ⟨.count tc, ⟨p, _, rfl, upd_same, htc.mono ud⟩, (hsc.count (by decide)).up (by omega), trivial⟩
  refine tF h0 ?_
  refine ⟨_, rfl, _, _, rfl, rfl, _, rfl, ?_⟩
  by_cases h3 : r < 3
  · refine tT h3 ?_
    refine ⟨_, rfl, _, rfl, _, rfl, s2, fun lw hlw => ?_⟩
    have w4 := w3.newI hlw (.lst [.int 2, .int 3])
    have u4 := w3.upI hlw (.lst [.int 2, .int 3])
    refine ⟨_, a, cl, m3, lw, [.int 2, .int 3], rfl, pre.next w4 n3 (by omega), upd_same, (by simp), (by decide), fun uw m5 H5 hu v5 nx5 _ _ => ?_⟩
    have w5 : W [a] I H _ (gM a cl m5) H5 := w4.callG v5
    have n5 := n3.trans nx5
    obtain ⟨z, rfl, hz2, hz3⟩ : ∃ z : Nat, uw = .int (z : Int) ∧ 2 ≤ z ∧ z ≤ 3 := by
      rcases List.mem_cons.mp hu with e | e
      · exact ⟨2, e, by decide, by decide⟩
      · exact ⟨3, List.mem_singleton.mp e, by decide, by decide⟩
    refine ⟨_, rfl, _, _, rfl, rfl, ?_⟩
    refine ⟨_, a, cl, m5, G, .ref ls, z, g - 1, (by rw [← sub1 (by omega)]), hz2, hz3, by omega, pre.next w5 n5 (by omega), hG.mono w5.st.same, hin.mono n5.n0, fun u6 I6 H6 m6 v6 nx6 ⟨t6, ht6, hs6, _⟩ => ?_⟩
    have w6 : W [a] I H I6 (gM a cl m6) H6 := w5.callG v6
    refine ⟨s2, fun p hp => ?_⟩
    have w7 := w6.newI hp (.tup [SS "count", u6])
    have u7 := w6.upI hp (.tup [SS "count", u6])
    exact q _ _ _ _ w7 ((n5.trans nx6).le (by omega)) ⟨.count t6, ⟨p, _, rfl, upd_same, ht6.mono u7⟩, (hs6.count (by omega)).up (by omega), trivial⟩
  refine tF h3 ?_
  refine ⟨_, rfl, _, _, rfl, rfl, _, rfl, ?_⟩
  by_cases h6 : r < 6
  · refine tT h6 ?_
    refine ⟨_, rfl, (by show 6 ≤ sizeLine; decide), fun lw hlw => ?_⟩
    have w4 := w3.newI hlw (.lst [SS "add", SS "add", SS "less", SS "times", SS "over", SS "rest"])
    have u4 := w3.upI hlw (.lst [SS "add", SS "add", SS "less", SS "times", SS "over", SS "rest"])
    refine ⟨_, a, cl, m3, lw, [SS "add", SS "add", SS "less", SS "times", SS "over", SS "rest"], rfl, pre.next w4 n3 (by omega), upd_same, (by simp), (by decide), fun uw m5 H5 hu v5 nx5 _ _ => ?_⟩
    have w5 : W [a] I H _ (gM a cl m5) H5 := w4.callG v5
    have n5 := n3.trans nx5
    obtain ⟨op, rfl, hop⟩ : ∃ op, uw = .str op ∧ (op = "add" ∨ op = "less" ∨ op = "times" ∨ op = "over" ∨ op = "rest") := by
      simp only [List.mem_cons, List.not_mem_nil, or_false] at hu
      rcases hu with e | e | e | e | e | e
      · exact ⟨_, e, .inl rfl⟩
      · exact ⟨_, e, .inl rfl⟩
      · exact ⟨_, e, .inr (.inl rfl)⟩
      · exact ⟨_, e, .inr (.inr (.inl rfl))⟩
      · exact ⟨_, e, .inr (.inr (.inr (.inl rfl)))⟩
      · exact ⟨_, e, .inr (.inr (.inr (.inr rfl)))⟩
    refine ⟨_, rfl, _, rfl, _, rfl, _, rfl, _, _, rfl, rfl, cd2 _, ?_⟩
    refine ⟨_, a, cl, m5, G, .ref ls, g / 2, rfl, Nat.zero_le _, by omega, pre.next w5 n5 (by omega), hG.mono w5.st.same, hin.mono n5.n0, fun u6 I6 H6 m6 v6 nx6 ⟨t6, ht6, hs6, _⟩ => ?_⟩
    have w6 : W [a] I H I6 (gM a cl m6) H6 := w5.callG v6
    have n6 := n5.trans nx6
    refine ⟨_, rfl, _, rfl, _, rfl, _, _, rfl, rfl, cd2 _, ?_⟩
    refine ⟨I6, a, cl, m6, G, .ref ls, g / 2, rfl, Nat.zero_le _, by omega, pre.next w6 n6 (by omega), hG.mono w6.st.same, hin.mono n6.n0, fun u7 I7 H7 m7 v7 nx7 ⟨t7, ht7, hs7, _⟩ => ?_⟩
    have w7 : W [a] I H I7 (gM a cl m7) H7 := w6.callG v7
    refine ⟨_, _, _, rfl, fun p1 p2 hp1 hp2 => ?_⟩
    have w8 := w7.newI hp1 (.tup [u6, u7])
    have u8 := w7.upI hp1 (.tup [u6, u7])
    have w9 := w8.newI hp2 (.tup [SS "prim", .str op, .ref p1])
    have u9 := w8.upI hp2 (.tup [SS "prim", .str op, .ref p1])
    exact q _ _ _ _ w9 ((n6.trans nx7).le (by omega)) ⟨.prim op t6 t7, ⟨p2, p1, _, _, rfl, upd_same, u9 _ _ upd_same, ht6.mono (v7.st.same.trans (u8.trans u9)), ht7.mono (u8.trans u9)⟩, (Safe.pnum hop hs6 hs7).up (by omega), trivial⟩
  refine tF h6 ?_
  refine ⟨_, rfl, rfl, _, rfl, ?_⟩
  by_cases e6 : V.int r = V.int 6
  · refine tT e6 ?_
    refine ⟨_, rfl, _, rfl, _, rfl, _, _, rfl, rfl, cd2 _, ?_⟩
    refine ⟨I2, a, cl, m3, G, .ref ls, g / 2, rfl, Nat.zero_le _, by omega, pre.next w3 n3 (by omega), hG.mono w3.st.same, hin.mono n3.n0, fun u5 I5 H5 m5 v5 nx5 ⟨t5, ht5, hs5, _⟩ => ?_⟩
    have w5 : W [a] I H I5 (gM a cl m5) H5 := w3.callG v5
    have n5 := n3.trans nx5
    refine ⟨_, rfl, _, rfl, _, rfl, _, _, rfl, rfl, cd2 _, ?_⟩
    refine ⟨I5, a, cl, m5, G, .ref ls, g / 2, rfl, Nat.zero_le _, by omega, pre.next w5 n5 (by omega), hG.mono w5.st.same, hin.mono n5.n0, fun u6 I6 H6 m6 v6 nx6 ⟨t6, ht6, hs6, _⟩ => ?_⟩
    have w6 : W [a] I H I6 (gM a cl m6) H6 := w5.callG v6
    have n6 := n5.trans nx6
    refine ⟨_, rfl, _, rfl, _, rfl, _, _, rfl, rfl, cd2 _, ?_⟩
    refine ⟨I6, a, cl, m6, G, .ref ls, g / 2, rfl, Nat.zero_le _, by omega, pre.next w6 n6 (by omega), hG.mono w6.st.same, hin.mono n6.n0, fun u7 I7 H7 m7 v7 nx7 ⟨t7, ht7, hs7, _⟩ => ?_⟩
    have w7 : W [a] I H I7 (gM a cl m7) H7 := w6.callG v7
    refine ⟨s4, fun p hp => ?_⟩
    have w8 := w7.newI hp (.tup [SS "if", u5, u6, u7])
    have u8 := w7.upI hp (.tup [SS "if", u5, u6, u7])
    exact q _ _ _ _ w8 ((n6.trans nx7).le (by omega)) ⟨.ite t5 t6 t7, ⟨p, _, _, _, rfl, upd_same, ht5.mono (v6.st.same.trans (v7.st.same.trans u8)), ht6.mono (v7.st.same.trans u8), ht7.mono u8⟩, (Safe.ite hs5 hs6 hs7).up (by omega), trivial⟩
  refine tF e6 ?_
  refine ⟨_, rfl, rfl, _, rfl, ?_⟩
  by_cases e7 : V.int r = V.int 7
  · refine tT e7 ?_
    refine ⟨_, rfl, I2, a, cl, m3, rfl, pre.next w3 n3 (by omega), fun H4 v4 => ?_⟩
    have w4 : W [a] I H I2 (gM a cl { m3 with next := m3.next + 1 }) H4 := w3.callG v4
    have n4 := n3.trans (Nx.fresh m3)
    have hnew := (hin.mono n3.n0).new (Nat.lt_succ_self _)
    have hgin := (hin.mono n3.n0).snoc .num
    refine ⟨_, rfl, ?_⟩
    refine ⟨_, rfl, _, rfl, s1, fun k5 hk5 => ⟨s2, fun t5 ht5 => ⟨s1, fun b5 hb5 => ⟨ls, b5, us, [.ref t5], rfl, rfl, same_up hb5 _ _ (same_up ht5 _ _ (same_up hk5 _ _ (w4.i (w4.st.same _ _ hls)))), upd_same, ?_, fun l5 hl5 => ?_⟩⟩⟩⟩
    · rw [← Paired.length hps]
      exact Nat.le_trans (by show G.length + 1 ≤ 1000001; omega) (by decide)
    obtain ⟨Ig5, wg5, ug5, hgg5⟩ := W.grow (n := m3.next + 1) (k := .num) w4 (Paired.mapP hps fun _ _ z => z.mono w4.st.same) hk5 ht5 hb5 hl5
    refine ⟨_, rfl, _, _, rfl, rfl, cd2 _, ?_⟩
    refine ⟨Ig5, a, cl, _, G ++ [(m3.next + 1, .num)], .ref l5, g / 2, rfl, Nat.zero_le _, by omega, pre.next wg5 n4 (by omega), hgg5, hgin, fun u6 I6 H6 m6 v6 nx6 ⟨t6, ht6, hs6, _⟩ => ?_⟩
    have w6 : W [a] I H I6 (gM a cl m6) H6 := wg5.callG v6
    have n6 := n4.trans nx6
    rw [sc_snoc] at hs6
    refine ⟨_, rfl, s1, fun q3 hq3 => ⟨_, rfl, s4, fun pf hpf => ?_⟩⟩
    have w7 := w6.newI hq3 (.tup [SS "num"])
    have u7 := w6.upI hq3 (.tup [SS "num"])
    have w8 := w7.newI hpf (.tup [SS "fn", .str (xN (m3.next + 1)), .ref q3, u6])
    have u8 := w7.upI hpf (.tup [SS "fn", .str (xN (m3.next + 1)), .ref q3, u6])
    refine ⟨_, rfl, _, rfl, _, rfl, _, _, rfl, rfl, cd2 _, ?_⟩
    refine ⟨_, a, cl, m6, G, .ref ls, g / 2, rfl, Nat.zero_le _, by omega, pre.next w8 n6 (by omega), hG.mono w8.st.same, hin.mono n6.n0, fun u9 I9 H9 m9 v9 nx9 ⟨t9, ht9, hs9, _⟩ => ?_⟩
    have w9 : W [a] I H I9 (gM a cl m9) H9 := w8.callG v9
    refine ⟨s3, fun p hp => ?_⟩
    have w10 := w9.newI hp (.tup [SS "call", .ref pf, u9])
    have u10 := w9.upI hp (.tup [SS "call", .ref pf, u9])
    have s8 := v9.st.same.trans u10
    exact q _ _ _ _ w10 ((n6.trans nx9).le (by omega)) ⟨.call (.fn (xN (m3.next + 1)) t6) t9, ⟨p, _, _, rfl, upd_same, ⟨pf, _, _, rfl, s8 _ _ upd_same, ht6.mono (u7.trans (u8.trans s8))⟩, ht9.mono u10⟩,
      (Safe.call (D := b + 1) (n := b) (Safe.fn hs6 hnew) (hs9.up (by omega)) (by omega)).up (by omega), trivial⟩
  refine tF e7 ?_
  refine ⟨_, rfl, rfl, _, rfl, ?_⟩
  have hi : ∀ vs, vs = [V.ref a, .ref ls, .int (g : Int)] → spK 1 .num (f + 1) (3 * c + 6) (b + 10) vs H3 Q E0 := fun vs e => by
    subst e
    exact ⟨I2, a, cl, m3, G, .ref ls, g, rfl, by omega, hgf, pre.next w3 n3 (by omega), hG.mono w3.st.same, hin.mono n3.n0, fun u2 I4 H4 m4 v4 nx4 ⟨t, ht, hs, hn⟩ => q _ _ _ _ (w3.callG v4) ((n3.trans nx4).le (by omega)) ⟨t, ht, hs.up (by omega), hn⟩⟩
  by_cases e8 : V.int r = V.int 8
  · refine tT e8 ?_
    refine ⟨_, rfl, a, _, rfl, DG (w3.get (i := 0) rfl) mk_quants, _, _, rfl, rfl, _, rfl, ?_⟩
    by_cases hq : (0 : Int) < m3.quants
    · refine tT hq ?_
      exact ⟨_, rfl, _, rfl, _, rfl, I2, a, cl, m3, G, .ref ls, g, rfl, by omega, hgf, pre.next w3 n3 (by omega), hG.mono w3.st.same, hin.mono n3.n0, fun u2 I4 H4 m4 v4 nx4 ⟨t, ht, hs, hn⟩ => q _ _ _ _ (w3.callG v4) ((n3.trans nx4).le (by omega)) ⟨t, ht, hs.up (by omega), hn⟩⟩
    · refine tF hq ?_
      exact ⟨_, rfl, _, rfl, _, rfl, hi _ rfl⟩
  · refine tF e8 (iteF ?_)
    exact ⟨_, rfl, _, rfl, _, rfl, hi _ rfl⟩
end
end KW
set_option Elab.async false
set_option linter.all false
set_option maxRecDepth 100000
set_option maxHeartbeats 4000000
/-! G6: all defs of terms by their fuel; a program is drawn. -/
namespace KW
open PySem PySem.Spec PyProof.Rows L2 
section
variable {P : Program} {w : World} {K : PySem.W.Frag} {mg : Str → Option Value} {base : Heap}

structure GenDefs (K : PySem.W.Frag) (mg : Str → Option Value) : Prop where
  begun : DefAt K mg "_law_begun" 66
  draw : DefAt K mg "_law_draw" 67
  of : DefAt K mg "_law_of" 68
  fresh : DefAt K mg "_law_fresh" 69
  p : DefAt K mg "_law_p" 70
  n : DefAt K mg "_law_n" 71
  having : DefAt K mg "_law_having" 72
  index : DefAt K mg "_law_index" 73
  entry : DefAt K mg "_law_entry" 74
  few : DefAt K mg "_law_few" 75
  test : DefAt K mg "_law_test" 76
  num : DefAt K mg "_law_num" 77
  over_rows : DefAt K mg "_law_over_rows" 78
  higher : DefAt K mg "_law_higher" 79
  plain_term : DefAt K mg "_law_plain_term" 80
  menu : DefAt K mg "_law_menu" 81
  result : DefAt K mg "_law_result" 82
  with_rows : DefAt K mg "_law_with_rows" 83
  program : DefAt K mg "_law_program" 84
/-- a def that is never called -/
theorem cl_none {x : Str} {i : Nat} {N ps : List Str} {sp : Sp} (D : DefAt K mg x i) (S : FnScope N ps (defScope (top i)))
    (hb : ∀ (kV doc pm : Value) (an : Option Addr) (cdv ct : Value) (us : List Value), us.length = ps.length → bindArgs (PySem.W.fnOf x x (defArgs (top i)) (defBody (top i)) (defScope (top i)) .none kV doc pm an cdv ct) ⟨us, []⟩ = pure (ps.zip us))
    (h : ∀ vs H Q E, ¬ sp vs H Q E) : Cl P w K mg base 1 x sp :=
  cl_mk (N := N) (ps := ps) (k := 0) D S hb (fun vs H Q E z => (h vs H Q E z).elim) fun _ _ _ _ _ H vs Q E _ z => (h vs H Q E z).elim
structure GenAt (P : Program) (w : World) (K : PySem.W.Frag) (mg : Str → Option Value) (base : Heap) (f k c b : Nat) : Prop where
  index : Cl P w K mg base (k + 2) "_law_index" (spK 0 (.few 4) f c b)
  entry : Cl P w K mg base (k + 2) "_law_entry" (spS f c b)
  few : Cl P w K mg base (k + 2) "_law_few" (spS f c b)
  test : Cl P w K mg base (k + 2) "_law_test" (spK 0 (.few 2) f c b)
  num : Cl P w K mg base (k + 2) "_law_num" (spK 0 .num f c b)
theorem spK_none {lo : Nat} {k : Kd} {c b : Nat} : ∀ vs H Q E, ¬ spK lo k 0 c b vs H Q E := fun _ _ _ _ ⟨_, _, _, _, _, _, _, _, _, h, _⟩ => absurd h (Nat.not_lt_zero _)
theorem spS_none {c b : Nat} : ∀ vs H Q E, ¬ spS 0 c b vs H Q E := fun _ _ _ _ ⟨_, _, _, _, _, _, _, _, _, _, _, h, _⟩ => absurd h (Nat.not_lt_zero _)
theorem gen0 (D : GenDefs K mg) (c b : Nat) : GenAt P w K mg base 0 0 c b := by
  refine ⟨?_, ?_, ?_, ?_, ?_⟩
  · exact (cl_none (sp := _) D.index sc__law_index (fun _ _ _ _ _ _ us hl => match us, hl with | [_, _, _], _ => rfl) spK_none).mono (by omega)
  · exact (cl_none (sp := _) D.entry sc__law_entry (fun _ _ _ _ _ _ us hl => match us, hl with | [_, _, _, _], _ => rfl) spS_none).mono (by omega)
  · exact (cl_none (sp := _) D.few sc__law_few (fun _ _ _ _ _ _ us hl => match us, hl with | [_, _, _, _], _ => rfl) spS_none).mono (by omega)
  · exact (cl_none (sp := _) D.test sc__law_test (fun _ _ _ _ _ _ us hl => match us, hl with | [_, _, _], _ => rfl) spK_none).mono (by omega)
  · exact (cl_none (sp := _) D.num sc__law_num (fun _ _ _ _ _ _ us hl => match us, hl with | [_, _, _], _ => rfl) spK_none).mono (by omega)
theorem gen_step (D : GenDefs K mg) (T : Txt K mg) {f k c b : Nat} (hb : 2 ≤ b) (h : GenAt P w K mg base f k c b) : GenAt P w K mg base (f + 1) (k + 4) (3 * c + 10) (b + 10) := by
  have cd : Cl P w K mg base 1 "_law_draw" spDraw := ok_draw D.draw T
  have co : Cl P w K mg base 2 "_law_of" spOf := ok_of D.of T cd
  have cf : Cl P w K mg base 1 "_law_fresh" spFresh := ok_fresh D.fresh T
  have cp : Cl P w K mg base 1 "_law_p" spP := ok_p D.p T
  have cn : Cl P w K mg base 1 "_law_n" spN := ok_n D.n T
  have ch : Cl P w K mg base 1 "_law_having" spHaving := ok_having D.having T
  have ci := ok_index hb D.index T cd cn cp h.num
  have ce := ok_entry hb D.entry T ch cd co h.test ci
  have ct := ok_test hb D.test T cd co cf cn cp h.num h.test h.few ce h.entry
  have cw := ok_few hb D.few T cd cf h.num h.test h.few h.index ce ct
  have cv := ok_over hb D.over_rows T cd co cf cn h.num h.test
  have cg := ok_higher hb D.higher T cd cf cn cp h.num h.test h.entry
  have cm := ok_num hb D.num T ch cd co cf cn cp h.num h.test h.few ce cv cg
  exact ⟨(ci.imp (spK.le (by omega) (by omega))).mono (by omega), (ce.imp (spS.le (by omega) (by omega))).mono (by omega), (cw.imp (spS.le (by omega) (by omega))).mono (by omega), (ct.imp (spK.le (by omega) (by omega))).mono (by omega), (cm.imp (spK.le (by omega) (by omega))).mono (by omega)⟩
theorem gen5 (D : GenDefs K mg) (T : Txt K mg) : GenAt P w K mg base 5 20 1210 52 := by
  have h0 := gen0 (P := P) (w := w) (base := base) D 0 2
  have h1 := gen_step D T (by decide) h0
  have h2 := gen_step D T (by decide) h1
  have h3 := gen_step D T (by decide) h2
  have h4 := gen_step D T (by decide) h3
  exact gen_step D T (by decide) h4

/-! ### plain terms -/
inductive RK where
  | num
  | few (m : Nat)
def RK.kd : RK → Kd
  | .num => .num
  | .few m => .few m
def RKAt (I : Hp) : RK → Addr → Prop
  | .num, p => I p = some (.tup [SS "num"])
  | .few m, p => I p = some (.tup [SS "few", .int (m : Int)]) ∧ 2 ≤ m ∧ m ≤ 3
theorem RKAt.mono {I I' : Hp} (h : Same I I') {r : RK} {p : Addr} : RKAt I r p → RKAt I' r p := by
  cases r with
  | num => exact h _ _
  | few m => exact fun ⟨a, b⟩ => ⟨h _ _ a, b⟩
inductive DK where
  | one (r : RK)
  | both (r s : RK)
def DKAt (I : Hp) : DK → V → Prop
  | .one r, u => ∃ p, u = .ref p ∧ RKAt I r p
  | .both r s, u => ∃ p q t, u = .ref p ∧ I p = some (.tup [SS "both", .ref q, .ref t]) ∧ RKAt I r q ∧ RKAt I s t
theorem DKAt.mono {I I' : Hp} (h : Same I I') {r : DK} {u : V} : DKAt I r u → DKAt I' r u := by
  cases r with
  | one r => exact fun ⟨p, e, a⟩ => ⟨p, e, a.mono h⟩
  | both r s => exact fun ⟨p, q, t, e, g, a, b⟩ => ⟨p, q, t, e, h _ _ g, a.mono h, b.mono h⟩
def PTPost (c b : Nat) (I H : Hp) (a cl : Addr) (m : Ms) (G : Gm) (k : Kd) (Q : VK) : Prop := GPost c b I H a cl m G k Q
def DK.kd : DK → Kd
  | .one r => r.kd
  | .both r s => .both r.kd s.kd
theorem RK.plain {I : Hp} {r : RK} {p : Addr} (h : RKAt I r p) : PlainK r.kd := by
  cases r with
  | num => exact PlainK.num
  | few m => exact PlainK.few (by have := h.2.2; omega)
theorem DK.dat {I : Hp} {r : DK} {u : V} (h : DKAt I r u) : DatK r.kd := by
  cases r with
  | one r => obtain ⟨p, e, h⟩ := h; exact (RK.plain h).dat
  | both r s => obtain ⟨p, q, t, e, g, h1, h2⟩ := h; exact (RK.plain h1).both (RK.plain h2)
/-- one: only the plain kinds that are no pairs -/
def spPT (one : Bool) (f c b : Nat) : Sp := fun vs H Q _ => ∃ I a cl m G sv dk kv, ∃ g : Nat, vs = [.ref a, sv, kv, .int (g : Int)] ∧ (one = true → ∃ r, dk = .one r) ∧ g < f ∧ GP c I H a cl m ∧ GmAt I G sv ∧ GIn m.next G ∧ DKAt I dk kv ∧ GPost c b I H a cl m G dk.kd Q
abbrev N__law_plain_term : List Str := ["_law_m", "_law_scope", "_law_kind", "_law_fuel"]
theorem sc__law_plain_term : FnScope N__law_plain_term ["_law_m", "_law_scope", "_law_kind", "_law_fuel"] (defScope (top 80)) := fnScope_ok (by decide +kernel)
theorem ok_plain_term {one : Bool} {f c b c' b' k : Nat} {sp : Sp} (hcc : c ≤ c') (hbb : b ≤ b') (h2 : one = false → 2 * c ≤ c' ∧ b + 1 ≤ b') (D : DefAt K mg "_law_plain_term" 80) (T : Txt K mg) (c__law_few : Cl P w K mg base (k + 2) "_law_few" (spS f c b)) (c__law_num : Cl P w K mg base (k + 2) "_law_num" (spK 0 .num f c b))
    (hsp : one = false → sp = spPT true f c b) (c__law_plain_term : Cl P w K mg base (k + 3) "_law_plain_term" sp) : Cl P w K mg base (k + 4) "_law_plain_term" (spPT one f c' b') := by
  refine cl_mk (i := 80) (N := N__law_plain_term) (ps := ["_law_m", "_law_scope", "_law_kind", "_law_fuel"]) D sc__law_plain_term (fun _ _ _ _ _ _ us hl => match us, hl with | [_, _, _, _], _ => rfl) ?_ ?_
  · rintro vs H Q E ⟨I, a, cl, m, G, sv, dk, kv, g, rfl, _⟩
    rfl
  rintro f0 cdv A outer s0 H vs Q E hr ⟨I, a, cl, m, G, sv, dk, kv, g, rfl, hone, hgf, pre, hG, hin, hk, q⟩
  refine ⟨_, (pss_cons (ps_if (pt_cmpR op_eq (pe_ix ix_tup (pv 2) pe_int (fun _ _ => rfl)) pe_str (nomark _)) (pss_one (ps_ret (pe_tup (pa_cons pe_str (pa_cons (pe_cl c__law_plain_term hr (by omega) rfl (pa_cons (pv 0) (pa_cons (pv 1) (pa_cons (pe_ix ix_tup (pv 2) pe_int (fun _ _ => rfl)) (pa_cons (pe_op op_fdivW (pv 3) pe_int) pa_nil))))) (pa_cons (pe_cl c__law_plain_term hr (by omega) rfl (pa_cons (pv 0) (pa_cons (pv 1) (pa_cons (pe_ix ix_tup (pv 2) pe_int (fun _ _ => rfl)) (pa_cons (pe_op op_fdivW (pv 3) pe_int) pa_nil))))) pa_nil)))))) pss_nil) (pss_one (ps_ret (pe_ifExp (pt_cmpR op_eq (pe_ix ix_tup (pv 2) pe_int (fun _ _ => rfl)) pe_str (nomark _)) (pe_cl c__law_few hr (by omega) rfl (pa_cons (pv 0) (pa_cons (pv 1) (pa_cons (pe_ix ix_tup (pv 2) pe_int (fun _ _ => rfl)) (pa_cons (pv 3) pa_nil))))) (pe_cl c__law_num hr (by omega) rfl (pa_cons (pv 0) (pa_cons (pv 1) (pa_cons (pv 3) pa_nil)))))))), ?_⟩
  have w0 : W [a] I H I (gM a cl m) H := W.start pre.hs
  have n0 := Nx.refl 0 m
  cases dk with
  | one r =>
    obtain ⟨p, rfl, hp⟩ := id hk
    cases r with
    | num =>
      have hp : I p = some (.tup [SS "num"]) := hp
      refine ⟨_, rfl, p, _, _, _, rfl, rfl, SqT.of (w0.i hp), rfl, rfl, _, rfl, tF (by decide +kernel) ?_⟩
      refine ⟨_, rfl, p, _, _, _, rfl, rfl, SqT.of (w0.i hp), rfl, rfl, _, rfl, tF (by decide +kernel) ?_⟩
      exact ⟨_, rfl, _, rfl, _, rfl, I, a, cl, m, G, sv, g, rfl, Nat.zero_le _, hgf, pre.le (by omega), hG, hin, q.le (by omega) (by omega)⟩
    | few z =>
      obtain ⟨hp, hz2, hz3⟩ : I p = some (.tup [SS "few", .int (z : Int)]) ∧ 2 ≤ z ∧ z ≤ 3 := hp
      refine ⟨_, rfl, p, _, _, _, rfl, rfl, SqT.of (w0.i hp), rfl, rfl, _, rfl, tF (by decide +kernel) ?_⟩
      refine ⟨_, rfl, p, _, _, _, rfl, rfl, SqT.of (w0.i hp), rfl, rfl, _, rfl, tT rfl ?_⟩
      exact ⟨_, rfl, _, rfl, _, rfl, p, _, _, _, rfl, rfl, SqT.of (w0.i hp), rfl, _, rfl, I, a, cl, m, G, sv, z, g, rfl, hz2, hz3, hgf, pre.le (by omega), hG, hin, q.le (by omega) (by omega)⟩
  | both r s =>
    have ho : one = false := by
      cases one with
      | false => rfl
      | true => obtain ⟨r, z⟩ := hone rfl; cases z
    rw [hsp ho]
    obtain ⟨hc2, hb2⟩ := h2 ho
    obtain ⟨p, q1, q2, rfl, hp, hq1, hq2⟩ := id hk
    refine ⟨_, rfl, p, _, _, _, rfl, rfl, SqT.of (w0.i hp), rfl, rfl, _, rfl, tT rfl ?_⟩
    refine ⟨_, rfl, _, rfl, _, rfl, p, _, _, _, rfl, rfl, SqT.of (w0.i hp), rfl, _, rfl, _, _, rfl, rfl, cd2 _, ?_⟩
    refine ⟨I, a, cl, m, G, sv, .one r, _, g / 2, rfl, fun _ => ⟨r, rfl⟩, by omega, pre.le (by omega), hG, hin, ⟨q1, rfl, hq1⟩, fun u1 I1 H1 m1 v1 nx1 ⟨t1, ht1, hs1, _⟩ => ?_⟩
    have w1 : W [a] I H I1 (gM a cl m1) H1 := w0.callG v1
    refine ⟨_, rfl, _, rfl, _, rfl, p, _, _, _, rfl, rfl, SqT.of (w1.i (v1.st.same _ _ hp)), rfl, _, rfl, _, _, rfl, rfl, cd2 _, ?_⟩
    refine ⟨I1, a, cl, m1, G, sv, .one s, _, g / 2, rfl, fun _ => ⟨s, rfl⟩, by omega, pre.next w1 nx1 (by omega), hG.mono v1.st.same, hin.mono nx1.n0, ⟨q2, rfl, hq2.mono v1.st.same⟩, fun u2 I2 H2 m2 v2 nx2 ⟨t2, ht2, hs2, _⟩ => ?_⟩
    have w2 : W [a] I H I2 (gM a cl m2) H2 := w1.callG v2
    refine ⟨s3, fun pp hpp => ?_⟩
    have w3 := w2.newI hpp (.tup [SS "pair", u1, u2])
    have u3 := w2.upI hpp (.tup [SS "pair", u1, u2])
    exact q _ _ _ _ w3 ((nx1.trans nx2).le (by omega)) ⟨.pair t1 t2, ⟨pp, _, _, rfl, upd_same, ht1.mono (v2.st.same.trans u3), ht2.mono u3⟩, (Safe.pair hs1 hs2).up hb2, trivial⟩

def spMenuL : Sp := fun vs H Q _ => ∃ I a cl m, vs = [.ref a] ∧ GP 4 I H a cl m ∧ ∀ p (ns : List Nat) I' H' m', W [a] I H I' (gM a cl m') H' → Nx 4 m m' → I' p = some (.tup (ns.map fun (n : Nat) => .int (n : Int))) → 1 ≤ ns.length → ns.length ≤ 3 → (∀ n ∈ ns, 2 ≤ n ∧ n ≤ 3) → Q (.ref p) H'
abbrev N__law_menu : List Str := ["_law_m", "_law_k"]
theorem sc__law_menu : FnScope N__law_menu ["_law_m"] (defScope (top 81)) := fnScope_ok (by decide +kernel)
theorem ok_menuL (D : DefAt K mg "_law_menu" 81) (T : Txt K mg) (c__law_draw : Cl P w K mg base 1 "_law_draw" spDraw) (c__law_of : Cl P w K mg base 2 "_law_of" spOf) : Cl P w K mg base 3 "_law_menu" spMenuL := by
  refine cl_mk (i := 81) (N := N__law_menu) (ps := ["_law_m"]) D sc__law_menu (fun _ _ _ _ _ _ us hl => match us, hl with | [_], _ => rfl) ?_ ?_
  · rintro vs H Q E ⟨I, a, cl, m, rfl, _⟩
    rfl
  rintro f0 cdv A outer s0 H vs Q E hr ⟨I, a, cl, m, rfl, pre, q⟩
  refine ⟨_, (pss_one (ps_ret (pe_callTy call_tuple_of (by rfl) T.tuple (by decide +kernel) (pa_cons (pe_lc (own := [("_law_k", 1)]) rfl sc__law_menu.nd (pi_range1 rfl T.range (pa_cons (pe_op op_add pe_int (pe_cl c__law_draw hr (by omega) rfl (pa_cons (pv 0) (pa_cons pe_int pa_nil)))) pa_nil)) (blkOk_by (N := N__law_menu) (sc := defScope (top 81)) (by decide +kernel)) (fun _ _ _ _ _ => (pg_name (i := 1) sc__law_menu.nd rfl (Or.inl rfl))) (fun _ _ _ _ _ => pts_nil) (fun _ _ _ _ _ => (pe_cl c__law_of hr (by omega) rfl (pa_cons (pv 0) (pa_cons (pe_lst (pa_cons pe_int (pa_cons pe_int (pa_cons pe_int pa_nil)))) pa_nil))))) pa_nil)))), ?_⟩
  have w0 : W [a] I H I (gM a cl m) H := W.start pre.hs
  refine ⟨_, rfl, I, a, cl, m, 3, rfl, pre.le (by omega), by decide, by decide, fun r m1 H1 v1 nx1 _ _ r0 r3 => ?_⟩
  obtain ⟨rn, rfl⟩ := Int.eq_ofNat_of_zero_le r0
  have r3 : (rn : Int) < 3 := r3
  have w1 : W [a] I H I (gM a cl m1) H1 := w0.callG v1
  refine ⟨_, _, rfl, rfl, _, rfl, (by omega), (by omega), fun Dd hDd => ?_⟩
  have etn : (1 + (rn : Int)).toNat = rn + 1 := by omega
  rw [etn]
  have w2 : W [a] I H I (gM a cl m1 ++ [(Dd, .lst [])]) _ := w1.newM hDd (.lst [])
  refine lc_range (lo := 0) (n := rn + 1) (fun i H' => ∃ (I' : Hp) (mi : Ms) (ns : List Nat), W [a] I H I' (gM a cl mi ++ [(Dd, .lst (ns.map fun (n : Nat) => .int (n : Int)))]) H' ∧ Nx (1 + i) m mi ∧ ns.length = i ∧ ∀ n ∈ ns, 2 ≤ n ∧ n ≤ 3) ⟨I, m1, [], w2, nx1, rfl, fun _ z => by cases z⟩ ?_ ?_
  · rintro i H' hi ⟨I', mi, ns, w3, nxi, hl, hns⟩
    refine ⟨rfl, _, rfl, s3, fun lw hlw => ?_⟩
    have w4 : W [a] I H _ (gM a cl mi ++ [(Dd, .lst (ns.map fun (n : Nat) => .int (n : Int)))]) _ := w3.newI hlw (.lst [.int 2, .int 2, .int 3])
    have w4' : W [a] I H _ (gM a cl mi) _ := W.drop (M2 := [(Dd, .lst (ns.map fun (n : Nat) => .int (n : Int)))]) w4 (fun x hx => hx)
    refine ⟨_, a, cl, mi, lw, [.int 2, .int 2, .int 3], rfl, pre.next w4' nxi (by omega), upd_same, (by simp), (by decide), fun u m5 H5 hu v5 nx5 _ _ => ?_⟩
    have w5 : W [a] I H _ (gM a cl m5 ++ [(Dd, .lst (ns.map fun (n : Nat) => .int (n : Int)))]) H5 := W.call (M1 := gM a cl mi) (M1' := gM a cl m5) w4 v5.st v5.hs rfl
    obtain ⟨z, rfl, hz2, hz3⟩ : ∃ z : Nat, u = .int (z : Int) ∧ 2 ≤ z ∧ z ≤ 3 := by
      simp only [List.mem_cons, List.not_mem_nil, or_false] at hu
      rcases hu with e | e | e
      · exact ⟨2, e, by decide, by decide⟩
      · exact ⟨2, e, by decide, by decide⟩
      · exact ⟨3, e, by decide, by decide⟩
    refine ⟨_, w5.get (i := 1) rfl, small (by rw [List.length_map]; omega), upd I' lw (.lst [.int 2, .int 2, .int 3]), m5, ns ++ [z], ?_, (nxi.trans nx5).le (by omega), by rw [List.length_append, List.length_singleton, hl], fun n hn => ?_⟩
    · rw [List.map_append]
      exact w5.set (i := 1) rfl (.lst ((ns.map fun (n : Nat) => .int (n : Int)) ++ [.int (z : Int)]))
    · rcases List.mem_append.mp hn with y | y
      · exact hns n y
      · rw [List.mem_singleton.mp y]; exact ⟨hz2, hz3⟩
  · rintro H' ⟨I', mi, ns, w3, nxi, hl, hns⟩
    refine ⟨Dd, _, rfl, .inl ⟨SqL.of (w3.get (i := 1) rfl), fun tl htl => ?_⟩⟩
    have w4 := w3.newI htl (.tup (ns.map fun (n : Nat) => .int (n : Int)))
    have w5 : W [a] I H _ (gM a cl mi) _ := W.drop (M2 := [(Dd, .lst (ns.map fun (n : Nat) => .int (n : Int)))]) w4 (fun x hx => hx)
    exact q tl ns _ _ mi w5 (nxi.le (by omega)) upd_same (by omega) (by omega) hns

def spResult : Sp := fun vs H Q _ => ∃ I a cl m, vs = [.ref a] ∧ GP 3 I H a cl m ∧ ∀ u dk I' H' m', W [a] I H I' (gM a cl m') H' → Nx 3 m m' → DKAt I' dk u → Q u H'
abbrev N__law_result : List Str := ["_law_m", "_law_some"]
theorem sc__law_result : FnScope N__law_result ["_law_m"] (defScope (top 82)) := fnScope_ok (by decide +kernel)
theorem ok_result (D : DefAt K mg "_law_result" 82) (T : Txt K mg) (c__law_draw : Cl P w K mg base 1 "_law_draw" spDraw) (c__law_of : Cl P w K mg base 2 "_law_of" spOf) : Cl P w K mg base 3 "_law_result" spResult := by
  refine cl_mk (i := 82) (N := N__law_result) (ps := ["_law_m"]) D sc__law_result (fun _ _ _ _ _ _ us hl => match us, hl with | [_], _ => rfl) ?_ ?_
  · rintro vs H Q E ⟨I, a, cl, m, rfl, _⟩
    rfl
  rintro f0 cdv A outer s0 H vs Q E hr ⟨I, a, cl, m, rfl, pre, q⟩
  refine ⟨_, (pss_cons (ps_set (i := 1) sc__law_result.nd rfl (Or.inl rfl) (pe_lst (pa_cons (pe_tup (pa_cons pe_str (pa_cons pe_int pa_nil))) (pa_cons (pe_tup (pa_cons pe_str pa_nil)) (pa_cons (pe_tup (pa_cons pe_str (pa_cons pe_int pa_nil))) pa_nil))))) (pss_one (ps_ret (pe_ifExp (pt_cmpR op_eq (pe_cl c__law_draw hr (by omega) rfl (pa_cons (pv 0) (pa_cons pe_int pa_nil))) pe_int (nomark _)) (pe_tup (pa_cons pe_str (pa_cons (pe_cl c__law_of hr (by omega) rfl (pa_cons (pv 0) (pa_cons (pv 1) pa_nil))) (pa_cons (pe_cl c__law_of hr (by omega) rfl (pa_cons (pv 0) (pa_cons (pv 1) pa_nil))) pa_nil)))) (pe_cl c__law_of hr (by omega) rfl (pa_cons (pv 0) (pa_cons (pv 1) pa_nil))))))), ?_⟩
  have w0 : W [a] I H I (gM a cl m) H := W.start pre.hs
  refine ⟨s2, fun k1 hk1 => ⟨s1, fun k2 hk2 => ⟨s2, fun k3 hk3 => ⟨s3, fun l hl => ?_⟩⟩⟩⟩
  have w1 := w0.newI hk1 (.tup [SS "few", .int 2])
  have u1 := w0.upI hk1 (.tup [SS "few", .int 2])
  have w2 := w1.newI hk2 (.tup [SS "num"])
  have u2 := w1.upI hk2 (.tup [SS "num"])
  have w3 := w2.newI hk3 (.tup [SS "few", .int 3])
  have u3 := w2.upI hk3 (.tup [SS "few", .int 3])
  have w4 := w3.newI hl (.lst [.ref k1, .ref k2, .ref k3])
  have u4 := w3.upI hl (.lst [.ref k1, .ref k2, .ref k3])
  have g1 : RKAt _ (.few 2) k1 := ⟨u4 _ _ (u3 _ _ (u2 _ _ upd_same)), by decide, by decide⟩
  have g2 : RKAt _ .num k2 := u4 _ _ (u3 _ _ upd_same)
  have g3 : RKAt _ (.few 3) k3 := ⟨u4 _ _ upd_same, by decide, by decide⟩
  have hl4 : upd (upd (upd (upd I k1 (.tup [SS "few", .int 2])) k2 (.tup [SS "num"])) k3 (.tup [SS "few", .int 3])) l (.lst [.ref k1, .ref k2, .ref k3]) l = some (.lst [.ref k1, .ref k2, .ref k3]) := upd_same
  revert w4 g1 g2 g3 hl4
  generalize upd (upd (upd (upd I k1 (.tup [SS "few", .int 2])) k2 (.tup [SS "num"])) k3 (.tup [SS "few", .int 3])) l (.lst [.ref k1, .ref k2, .ref k3]) = I4
  generalize upd (upd (upd (upd H k1 (.tup [SS "few", .int 2])) k2 (.tup [SS "num"])) k3 (.tup [SS "few", .int 3])) l (.lst [.ref k1, .ref k2, .ref k3]) = H4
  intro w4 g1 g2 g3 hl4
  have pick : ∀ u, u ∈ [V.ref k1, .ref k2, .ref k3] → ∃ p r, u = .ref p ∧ RKAt I4 r p := fun u hu => by
    simp only [List.mem_cons, List.not_mem_nil, or_false] at hu
    rcases hu with e | e | e
    · exact ⟨k1, _, e, g1⟩
    · exact ⟨k2, _, e, g2⟩
    · exact ⟨k3, _, e, g3⟩
  refine ⟨_, rfl, I4, a, cl, m, 5, rfl, pre.next w4 (Nx.refl 0 m) (by omega), by decide, by decide, fun r m1 H1 v1 nx1 _ _ r0 r3 => ?_⟩
  have w5 : W [a] I H I4 (gM a cl m1) H1 := w4.callG v1
  refine ⟨rfl, _, rfl, ?_⟩
  by_cases h0 : V.int r = V.int 0
  · refine tT h0 ?_
    refine ⟨_, rfl, _, rfl, I4, a, cl, m1, l, _, rfl, pre.next w5 nx1 (by omega), w5.i hl4, (by simp), (by show 3 ≤ 1000000; decide), fun u m2 H2 hu v2 nx2 _ _ => ?_⟩
    have w6 : W [a] I H I4 (gM a cl m2) H2 := w5.callG v2
    have n6 := nx1.trans nx2
    refine ⟨_, rfl, _, rfl, I4, a, cl, m2, l, _, rfl, pre.next w6 n6 (by omega), w6.i hl4, (by simp), (by show 3 ≤ 1000000; decide), fun u' m3 H3 hu' v3 nx3 _ _ => ?_⟩
    have w7 : W [a] I H I4 (gM a cl m3) H3 := w6.callG v3
    obtain ⟨p, rr, rfl, hp⟩ := pick u hu
    obtain ⟨p', rr', rfl, hp'⟩ := pick u' hu'
    refine ⟨s3, fun t ht => ?_⟩
    have w8 := w7.newI ht (.tup [SS "both", .ref p, .ref p'])
    have u8 := w7.upI ht (.tup [SS "both", .ref p, .ref p'])
    exact q _ (.both rr rr') _ _ _ w8 (n6.trans nx3) ⟨t, p, p', rfl, upd_same, hp.mono u8, hp'.mono u8⟩
  · refine tF h0 ?_
    refine ⟨_, rfl, _, rfl, I4, a, cl, m1, l, _, rfl, pre.next w5 nx1 (by omega), w5.i hl4, (by simp), (by show 3 ≤ 1000000; decide), fun u m2 H2 hu v2 nx2 _ _ => ?_⟩
    obtain ⟨p, rr, rfl, hp⟩ := pick u hu
    exact q _ (.one rr) _ _ _ (w5.callG v2) ((nx1.trans nx2).le (by omega)) ⟨p, rfl, hp⟩

def spWithR : Sp := fun vs H Q _ => ∃ I nl ml ps b bv, vs = [.ref nl, .ref ml, bv] ∧ HS I [] H ∧ I nl = some (.lst (ps.map fun e => V.str e.1)) ∧ I ml = some (.tup (ps.map fun e => V.int (e.2 : Nat))) ∧ ps.length ≤ 10 ∧ TmAt I b bv ∧ ∀ u I' H', W [] I H I' [] H' → PrAt I' ps b u → Q u H'
abbrev N__law_with_rows : List Str := ["_law_names", "_law_menu_here", "_law_body", "_law_k"]
theorem sc__law_with_rows : FnScope N__law_with_rows ["_law_names", "_law_menu_here", "_law_body"] (defScope (top 83)) := fnScope_ok (by decide +kernel)
theorem ok_with_rows (D : DefAt K mg "_law_with_rows" 83) (T : Txt K mg) : Cl P w K mg base 1 "_law_with_rows" spWithR := by
  refine cl_mk (i := 83) (N := N__law_with_rows) (ps := ["_law_names", "_law_menu_here", "_law_body"]) D sc__law_with_rows (fun _ _ _ _ _ _ us hl => match us, hl with | [_, _, _], _ => rfl) ?_ ?_
  · rintro vs H Q E ⟨I, nl, ml, ps, b, bv, rfl, _⟩
    rfl
  rintro f0 cdv A outer s0 H vs Q E hr ⟨I, nl, ml, ps, b, bv, rfl, hs, hnl, hml, hpl, hb, q⟩
  refine ⟨_, (pss_cons (ps_for PassesOwn.never rfl (pi_range3 rfl T.range (pa_cons (pe_op op_sub (pe_callB call_len_seq (by rfl) T.len (by decide +kernel) (pa_cons (pv 1) pa_nil)) pe_int) (pa_cons (pe_un un_neg pe_int) (pa_cons (pe_un un_neg pe_int) pa_nil)))) (pg_name (i := 3) sc__law_with_rows.nd rfl (Or.inl rfl)) (pss_one (ps_set (i := 2) sc__law_with_rows.nd rfl (Or.inl rfl) (pe_tup (pa_cons pe_str (pa_cons (pe_ix ix_list (pv 0) (pv 3) (fun _ _ => rfl)) (pa_cons (pe_tup (pa_cons pe_str (pa_cons (pe_ix ix_tup (pv 1) (pv 3) (fun _ _ => rfl)) pa_nil))) (pa_cons (pv 2) pa_nil)))))))) (pss_one (ps_ret (pv 2)))), ?_⟩
  have w0 : W [] I H I [] H := W.start hs
  refine ⟨_, rfl, ml, _, rfl, .inr (SqT.of (w0.i hml)), _, _, rfl, rfl, _, rfl, _, rfl, _, _, _, _, rfl, RgC.neg (by rw [List.length_map]; omega) (by rw [List.length_map]; omega) (by decide) (by decide), ?_⟩
  have emm : ((((ps.map fun e => V.int (e.2 : Nat)).length : Nat) : Int) - 1 - -1).toNat = ps.length := by rw [List.length_map]; omega
  rw [emm]
  refine for_rangeC (fun j σ H' => ∃ (I' : Hp) (v : V) (v3 : Option V), σ = [some (.ref nl), some (.ref ml), some v, v3] ∧ W [] I H I' [] H' ∧ PrAt I' (ps.drop (ps.length - j)) b v) ⟨I, bv, _, rfl, w0, ?_⟩ ?_ ?_
  · rw [Nat.sub_zero, List.drop_length]
    exact hb
  · rintro j σ H' hj ⟨I', v, v3, rfl, w1, hpr⟩
    have hk : ps.length - 1 - j < ps.length := by omega
    have ek : (((ps.map fun e => V.int (e.2 : Nat)).length : Nat) : Int) - 1 + (j : Nat) * -1 = ((ps.length - 1 - j : Nat) : Int) := by rw [List.length_map]; omega
    have sI := w1.st.same
    refine ⟨_, rfl, _, rfl, nl, _, _, .str ps[ps.length - 1 - j].1, rfl, rfl, SqL.of (w1.i (sI _ _ hnl)), (by rw [ek]; exact atI_nat (by rw [List.getElem?_map, List.getElem?_eq_getElem hk]; rfl)), ?_⟩
    refine ⟨_, rfl, _, rfl, ml, _, _, .int (ps[ps.length - 1 - j].2 : Nat), rfl, rfl, SqT.of (w1.i (sI _ _ hml)), (by rw [ek]; exact atI_nat (by rw [List.getElem?_map, List.getElem?_eq_getElem hk]; rfl)), ?_⟩
    refine ⟨s2, fun q1 hq1 => ⟨_, rfl, s4, fun p hp => ?_⟩⟩
    have w2 := w1.newI hq1 (.tup [SS "rows", .int (ps[ps.length - 1 - j].2 : Nat)])
    have u2 := w1.upI hq1 (.tup [SS "rows", .int (ps[ps.length - 1 - j].2 : Nat)])
    have w3 := w2.newI hp (.tup [SS "fn", .str ps[ps.length - 1 - j].1, .ref q1, v])
    have u3 := w2.upI hp (.tup [SS "fn", .str ps[ps.length - 1 - j].1, .ref q1, v])
    refine ⟨_, _, _, rfl, w3, ?_⟩
    have ed : ps.drop (ps.length - (j + 1)) = ps[ps.length - 1 - j] :: ps.drop (ps.length - j) := by
      rw [show ps.length - (j + 1) = ps.length - 1 - j by omega, List.drop_eq_getElem_cons hk, show ps.length - 1 - j + 1 = ps.length - j by omega]
    rw [ed]
    exact ⟨p, q1, v, rfl, upd_same, u3 _ _ upd_same, hpr.mono (u2.trans u3)⟩
  · rintro σ H' ⟨I', v, v3, rfl, w1, hpr⟩
    rw [Nat.sub_self, List.drop_zero] at hpr
    exact ⟨_, rfl, q v I' H' w1 hpr⟩

def mkPs : Nat → List Nat → List (Str × Nat)
  | _, [] => []
  | n, z :: zs => (xN (n + 1), z) :: mkPs (n + 1) zs
def mkG : Nat → List Nat → Gm
  | _, [] => []
  | n, z :: zs => (n + 1, .rows z) :: mkG (n + 1) zs
theorem mk_sc : ∀ (ns : List Nat) (n : Nat), Gm.sc (mkG n ns) = scP (mkPs n ns)
  | [], _ => rfl
  | z :: zs, n => by
    show (xN (n + 1), Kd.rows z 0) :: Gm.sc (mkG (n + 1) zs) = (xN (n + 1), Kd.rows z 0) :: scP (mkPs (n + 1) zs)
    rw [mk_sc zs (n + 1)]
theorem mkPs_len : ∀ (ns : List Nat) (n : Nat), (mkPs n ns).length = ns.length
  | [], _ => rfl
  | z :: zs, n => by show (mkPs (n + 1) zs).length + 1 = _; rw [mkPs_len zs]; rfl
theorem mkG_len : ∀ (ns : List Nat) (n : Nat), (mkG n ns).length = ns.length
  | [], _ => rfl
  | z :: zs, n => by show (mkG (n + 1) zs).length + 1 = _; rw [mkG_len zs]; rfl
theorem mkPs_get : ∀ (ns : List Nat) (n i z : Nat), ns[i]? = some z → (mkPs n ns)[i]? = some (xN (n + i + 1), z)
  | [], _, _, _, h => by simp at h
  | y :: zs, n, 0, z, h => by
    have h : y = z := by simpa using h
    subst h
    rfl
  | y :: zs, n, i + 1, z, h => by
    have := mkPs_get zs (n + 1) i z (by simpa using h)
    rw [show n + 1 + i + 1 = n + (i + 1) + 1 by omega] at this
    exact this
theorem mkG_get : ∀ (ns : List Nat) (n i z : Nat), ns[i]? = some z → (mkG n ns)[i]? = some (n + i + 1, .rows z)
  | [], _, _, _, h => by simp at h
  | y :: zs, n, 0, z, h => by
    have h : y = z := by simpa using h
    subst h
    rfl
  | y :: zs, n, i + 1, z, h => by
    have := mkG_get zs (n + 1) i z (by simpa using h)
    rw [show n + 1 + i + 1 = n + (i + 1) + 1 by omega] at this
    exact this
theorem mkG_le : ∀ (ns : List Nat) (n : Nat), ∀ p ∈ mkG n ns, n < p.1 ∧ p.1 ≤ n + ns.length
  | [], _, p, h => by cases h
  | z :: zs, n, p, h => by
    rw [List.length_cons]
    rcases List.mem_cons.mp h with e | e
    · rw [e]; exact ⟨Nat.lt_succ_self _, by show n + 1 ≤ _; omega⟩
    · have := mkG_le zs (n + 1) p e
      omega
theorem mkG_in (ns : List Nat) (n : Nat) : GIn (n + ns.length) (mkG n ns) := ⟨fun p hp => (mkG_le ns n p hp).2, by rw [mkG_len]; omega⟩
theorem mkPs_snd : ∀ (ns : List Nat) (n : Nat), (mkPs n ns).map (·.2) = ns
  | [], _ => rfl
  | z :: zs, n => by show z :: (mkPs (n + 1) zs).map (·.2) = _; rw [mkPs_snd zs]
theorem mkPs_mem : ∀ (ns : List Nat) (n : Nat), ∀ p ∈ mkPs n ns, ∃ j, n < j ∧ p.1 = xN j ∧ p.2 ∈ ns
  | [], _, p, h => by cases h
  | z :: zs, n, p, h => by
    rcases List.mem_cons.mp h with e | e
    · rw [e]; exact ⟨n + 1, Nat.lt_succ_self _, rfl, List.mem_cons_self⟩
    · obtain ⟨j, h1, h2, h3⟩ := mkPs_mem zs (n + 1) p e
      exact ⟨j, by omega, h2, List.mem_cons_of_mem _ h3⟩
theorem mkPs_nodup : ∀ (ns : List Nat) (n : Nat), ((mkPs n ns).map (·.1)).Nodup
  | [], _ => List.nodup_nil
  | z :: zs, n => by
    show (xN (n + 1) :: (mkPs (n + 1) zs).map (·.1)).Nodup
    refine List.nodup_cons.mpr ⟨fun h => ?_, mkPs_nodup zs (n + 1)⟩
    obtain ⟨p, hp, e⟩ := List.mem_map.mp h
    obtain ⟨j, h1, h2, _⟩ := mkPs_mem zs (n + 1) p hp
    rw [h2] at e
    have := xN_inj e
    omega
/-- a drawn program -/
def spProg : Sp := fun vs H Q _ => ∃ I a cl m mp kv dk, ∃ (ns : List Nat) (g : Nat), vs = [.ref a, .ref mp, kv, .int (g : Int)] ∧ GP 2500 I H a cl m ∧ I mp = some (.tup (ns.map fun (n : Nat) => .int (n : Int))) ∧ ns.length ≤ 3 ∧ (∀ n ∈ ns, 2 ≤ n ∧ n ≤ 3) ∧ DKAt I dk kv ∧ g < 5 ∧
  ∀ u ps b I' H' m', W [a] I H I' (gM a cl m') H' → Nx 2500 m m' → PrAt I' ps b u → PrOk ps b → notFn b → Q u H'
abbrev N__law_program : List Str := ["_law_m", "_law_menu_here", "_law_result_here", "_law_fuel", "_law_names", "_law_size", "_law_scope", "_law_k"]
theorem sc__law_program : FnScope N__law_program ["_law_m", "_law_menu_here", "_law_result_here", "_law_fuel"] (defScope (top 84)) := fnScope_ok (by decide +kernel)
theorem ok_program (D : DefAt K mg "_law_program" 84) (T : Txt K mg) (c__law_fresh : Cl P w K mg base 1 "_law_fresh" spFresh) (c__law_with_rows : Cl P w K mg base 1 "_law_with_rows" spWithR) (c__law_plain_term : Cl P w K mg base 28 "_law_plain_term" (spPT false 5 2420 53)) : Cl P w K mg base 29 "_law_program" spProg := by
  refine cl_mk (i := 84) (N := N__law_program) (ps := ["_law_m", "_law_menu_here", "_law_result_here", "_law_fuel"]) D sc__law_program (fun _ _ _ _ _ _ us hl => match us, hl with | [_, _, _, _], _ => rfl) ?_ ?_
  · rintro vs H Q E ⟨I, a, cl, m, mp, kv, dk, ns, g, rfl, _⟩
    rfl
  rintro f0 cdv A outer s0 H vs Q E hr ⟨I, a, cl, m, mp, kv, dk, ns, g, rfl, pre, hmp, hn3, hns, hdk, hg5, q⟩
  refine ⟨_, (pss_cons (ps_set (i := 4) sc__law_program.nd rfl (Or.inr rfl) (pe_lc (own := [("_law_size", 5)]) rfl sc__law_program.nd (pi_tup (pv 1)) (blkOk_by (N := N__law_program) (sc := defScope (top 84)) (by decide +kernel)) (fun _ _ _ _ _ => (pg_name (i := 5) sc__law_program.nd rfl (Or.inl rfl))) (fun _ _ _ _ _ => pts_nil) (fun _ _ _ _ _ => (pe_cl c__law_fresh hr (by omega) rfl (pa_cons (pv 0) pa_nil))))) (pss_cons (ps_setLc (i := 6) (own := [("_law_k", 7)]) rfl sc__law_program.nd rfl rfl (sw_true rfl rfl rfl (by decide +kernel)) (pi_range1 rfl T.range (pa_cons (pe_callB call_len_seq (by rfl) T.len (by decide +kernel) (pa_cons (pv 1) pa_nil)) pa_nil)) (blkOk_by (N := N__law_program) (sc := defScope (top 84)) (by decide +kernel)) (fun _ _ _ _ _ => (pg_name (i := 7) sc__law_program.nd rfl (Or.inl rfl))) (fun _ _ _ _ _ => pts_nil) (fun _ _ _ _ _ => (pe_tup (pa_cons (pe_ix (ix_listK (K' := K) rfl) (pv 4) (pv 7) (fun _ _ => rfl)) (pa_cons (pe_tup (pa_cons pe_str (pa_cons (pe_ix (ix_tupK (K' := K) rfl) (pv 1) (pv 7) (fun _ _ => rfl)) pa_nil))) pa_nil))))) (pss_one (ps_ret (pe_cl c__law_with_rows hr (by omega) rfl (pa_cons (pv 4) (pa_cons (pv 1) (pa_cons (pe_cl c__law_plain_term hr (by omega) rfl (pa_cons (pv 0) (pa_cons (pv 6) (pa_cons (pv 2) (pa_cons (pv 3) pa_nil))))) pa_nil)))))))), ?_⟩
  have w0 : W [a] I H I (gM a cl m) H := W.start pre.hs
  have hpsl := mkPs_len ns m.next
  refine ⟨_, rfl, mp, rfl, ⟨_, SqT.of (w0.i hmp)⟩, fun Dd hDd => ?_⟩
  have w1 : W [a] I H I (gM a cl m ++ [(Dd, .lst [])]) _ := w0.newM hDd (.lst [])
  refine lc_tup (K := K) (a := mp) (xs := ns.map fun (n : Nat) => V.int (n : Int)) (fun i H' => ∃ (mi : Ms), W [a] I H I (gM a cl mi ++ [(Dd, .lst (((mkPs m.next ns).take i).map fun e => V.str e.1))]) H' ∧ Nx i m mi ∧ mi.next = m.next + i) ⟨m, w1, Nx.refl 0 m, rfl⟩ ?_ ?_ ?_
  · rintro i H' _ ⟨mi, w2, _⟩
    exact SqT.of (w2.i hmp)
  · rintro i x H' hx ⟨mi, w2, nxi, hni⟩
    rw [List.getElem?_map] at hx
    obtain ⟨z, hz, rfl⟩ : ∃ z, ns[i]? = some z ∧ x = .int (z : Int) := by
      cases e : ns[i]? with
      | none => rw [e] at hx; cases hx
      | some z => rw [e] at hx; exact ⟨z, rfl, (Option.some.inj hx).symm⟩
    have hi := (List.getElem?_eq_some_iff.mp hz).1
    have w2' : W [a] I H I (gM a cl mi) H' := W.drop (M2 := [(Dd, .lst (((mkPs m.next ns).take i).map fun e => V.str e.1))]) w2 (fun x hx => hx)
    refine ⟨rfl, _, rfl, I, a, cl, mi, rfl, pre.next w2' nxi (by omega), fun H5 v5 => ?_⟩
    have w5 : W [a] I H I (gM a cl { mi with next := mi.next + 1 } ++ [(Dd, .lst (((mkPs m.next ns).take i).map fun e => V.str e.1))]) H5 := W.call (M1 := gM a cl mi) (M1' := gM a cl { mi with next := mi.next + 1 }) w2 v5.st v5.hs rfl
    refine ⟨_, w5.get (i := 1) rfl, small (by rw [List.length_map, List.length_take]; omega), { mi with next := mi.next + 1 }, ?_, nxi.trans (Nx.fresh mi), by show mi.next + 1 = _; omega⟩
    rw [List.take_succ, mkPs_get ns m.next i z hz, List.map_append]
    have en : xN (m.next + i + 1) = xN (mi.next + 1) := by rw [hni]
    show W [a] I H I (gM a cl _ ++ [(Dd, .lst (_ ++ [V.str (xN (m.next + i + 1))]))]) _
    rw [en]
    exact w5.set (i := 1) rfl (.lst ((((mkPs m.next ns).take i).map fun e => V.str e.1) ++ [.str (xN (mi.next + 1))]))
  rintro H1 ⟨m1, w1, nx1, hm1⟩
  rw [List.length_map] at nx1 hm1
  rw [List.length_map, ← hpsl, List.take_length] at w1
  have w2 := W.freeze (M := gM a cl m1) w1 (w0.notA hDd)
  have u2 := HS.noU (o' := .lst ((mkPs m.next ns).map fun e => V.str e.1)) w1.hs
  have hD2 : upd I Dd (.lst ((mkPs m.next ns).map fun e => V.str e.1)) Dd = some (.lst ((mkPs m.next ns).map fun e => V.str e.1)) := upd_same
  have hmp2 := u2 _ _ hmp
  have hdk2 := hdk.mono u2
  clear w1 hDd u2 hmp hdk
  revert w2 hD2 hmp2 hdk2
  generalize upd I Dd (.lst ((mkPs m.next ns).map fun e => V.str e.1)) = I2
  intro w2 hD2 hmp hdk
  refine ⟨_, rfl, mp, _, rfl, .inr (SqT.of (w2.i hmp)), _, rfl, ?_, ?_, fun De hDe => ?_⟩
  · rw [List.length_map]; omega
  · rw [List.length_map]; omega
  have etn : ((((ns.map fun (n : Nat) => V.int (n : Int)).length : Nat) : Int)).toNat = ns.length := by rw [List.length_map]; omega
  rw [etn]
  have w3 : W [a] I H I2 (gM a cl m1 ++ [(De, .lst [])]) _ := w2.newM hDe (.lst [])
  refine lc_range (lo := 0) (n := ns.length) (fun i H' => ∃ (I' : Hp) (us : List V), W [a] I H I' (gM a cl m1 ++ [(De, .lst us)]) H' ∧ Same I2 I' ∧ us.length = i ∧ Paired (NmAt I') ((mkG m.next ns).take i) us) ⟨I2, [], w3, Same.refl _, rfl, .nil⟩ ?_ ?_
  · rintro i H' hi ⟨I', us, w4, s4', hul, hus⟩
    have hz : ns[i]? = some ns[i] := List.getElem?_eq_getElem hi
    have ez : (0 : Int) + (i : Int) = (i : Int) := Int.zero_add _
    refine ⟨rfl, _, rfl, _, rfl, Dd, _, _, .str (xN (m.next + i + 1)), rfl, rfl, SqL.of (w4.i (s4' _ _ hD2)), (by rw [ez]; exact atI_nat (by rw [List.getElem?_map, mkPs_get ns m.next i _ hz]; rfl)), ?_⟩
    refine ⟨_, rfl, _, rfl, mp, _, _, .int (ns[i] : Int), rfl, rfl, SqT.of (w4.i (s4' _ _ hmp)), (by rw [ez]; exact atI_nat (by rw [List.getElem?_map, hz]; rfl)), ?_⟩
    refine ⟨s2, fun q1 hq1 => ⟨s2, fun p hp => ?_⟩⟩
    have w5 := w4.newI hq1 (.tup [SS "rows", .int (ns[i] : Int)])
    have u5 := w4.upI hq1 (.tup [SS "rows", .int (ns[i] : Int)])
    have w6 := w5.newI hp (.tup [.str (xN (m.next + i + 1)), .ref q1])
    have u6 := w5.upI hp (.tup [.str (xN (m.next + i + 1)), .ref q1])
    refine ⟨_, w6.get (i := 1) rfl, small (by omega), _, us ++ [.ref p], w6.set (i := 1) rfl (.lst (us ++ [.ref p])), s4'.trans (u5.trans u6), by rw [List.length_append, List.length_singleton, hul], ?_⟩
    rw [List.take_succ, mkG_get ns m.next i _ hz]
    exact Paired.app (Paired.mapP hus fun x y z => z.mono (u5.trans u6)) (.cons ⟨p, q1, rfl, upd_same, u6 _ _ upd_same⟩ .nil)
  rintro H4 ⟨I4, us, w4, s4', hul, hus⟩
  rw [← mkG_len ns m.next, List.take_length] at hus
  have w5 := W.freeze (M := gM a cl m1) w4 (w2.notA hDe)
  have u5 := HS.noU (o' := .lst us) w4.hs
  have hG : GmAt (upd I4 De (.lst us)) (mkG m.next ns) (.ref De) := ⟨De, us, rfl, upd_same, Paired.mapP hus fun x y z => z.mono u5⟩
  have hD5 := u5 _ _ (s4' _ _ hD2)
  have hmp5 := u5 _ _ (s4' _ _ hmp)
  have hdk5 := hdk.mono (s4'.trans u5)
  refine ⟨_, rfl, _, rfl, _, rfl, _, rfl, _, rfl, _, rfl, ?_⟩
  refine ⟨_, a, cl, m1, mkG m.next ns, .ref De, dk, kv, g, rfl, fun z => (by cases z), hg5, pre.next w5 nx1 (by omega), hG, by rw [hm1]; exact mkG_in ns m.next, hdk5, fun u6 I6 H6 m6 v6 nx6 ⟨t6, ht6, hs6, hn6⟩ => ?_⟩
  have w6 : W [a] I H I6 (gM a cl m6) H6 := w5.callG v6
  rw [mk_sc] at hs6
  have hm2 : (ns.map fun (n : Nat) => V.int (n : Int)) = (mkPs m.next ns).map fun e => V.int (e.2 : Nat) := by
    have e : (mkPs m.next ns).map (fun e => V.int (e.2 : Nat)) = ((mkPs m.next ns).map (·.2)).map fun (n : Nat) => V.int (n : Int) := by rw [List.map_map]; rfl
    rw [e, mkPs_snd]
  refine ⟨I6, Dd, mp, mkPs m.next ns, t6, u6, rfl, w6.hs.left0, v6.st.same _ _ hD5, by rw [← hm2]; exact v6.st.same _ _ hmp5, by omega, ht6, fun u7 I7 H7 v7 hpr => ?_⟩
  have w7 : W [a] I H I7 (gM a cl m6) H7 := W.call (M1 := []) (M1' := []) w6 v7.st v7.hs rfl
  exact q u7 _ t6 I7 H7 m6 w7 ((nx1.trans nx6).le (by omega)) hpr ⟨mkPs_nodup ns m.next, by omega, fun p hp => by
    obtain ⟨j, _, _, h3⟩ := mkPs_mem ns m.next p hp
    have := hns _ h3
    omega, _, DK.dat hdk, hs6.up (by omega)⟩ hn6
end
end KW
set_option Elab.async false
set_option linter.all false
set_option maxRecDepth 100000
set_option maxHeartbeats 4000000
/-! G7: the state of the draws of a turn. -/
namespace KW
open PySem PySem.Spec PyProof.Rows L2 
section
variable {P : Program} {w : World} {K : PySem.W.Frag} {mg : Str → Option Value} {base : Heap}

theorem cut_ints (ns : List Int) (lo hi : Option Int) : ∃ ms : List Int, cutV (ns.map V.int) lo hi = ms.map V.int := by
  refine ⟨(ns.drop (HT.sIx ns.length 0 lo)).take (HT.sIx ns.length ns.length hi - HT.sIx ns.length 0 lo), ?_⟩
  unfold cutV
  rw [List.length_map, List.map_take, List.map_drop]
theorem mm_run {left seed cl : V} : mergeK [] [(.inr "left", left), (.inr "seed", seed), (.inr "cells", cl), (.inr "spot", .int 0), (.inr "next", .int 0), (.inr "quants", .int 3)] = [(.inr "left", left), (.inr "seed", seed), (.inr "cells", cl), (.inr "spot", .int 0), (.inr "next", .int 0), (.inr "quants", .int 3)] := by kernel_rfl
def spBegun (K : PySem.W.Frag) : Sp := fun vs H Q _ => ∃ I sa, ∃ (ns : List Int) (k : Nat), vs = [.ref sa, .int (k : Int)] ∧ HS I [] H ∧ SqL K I sa (ns.map V.int) ∧ ns.length ≤ 100 ∧ k ≤ 1 ∧
  ∀ a cl m I' H', W [] I H I' (gM a cl m) H' → CellsAt I' cl → m.spot = 0 → m.next = 0 → Q (.ref a) H'
abbrev N__law_begun : List Str := ["_law_script", "_law_k", "_law_cells", "_law_great", "_law_cell", "_law_begun_here", "_law_left"]
theorem sc__law_begun : FnScope N__law_begun ["_law_script", "_law_k"] (defScope (top 66)) := fnScope_ok (by decide +kernel)
theorem ok_begun (D : DefAt K mg "_law_begun" 66) (T : Txt K mg) : Cl P w K mg base 1 "_law_begun" (spBegun K) := by
  refine cl_mk (i := 66) (N := N__law_begun) (ps := ["_law_script", "_law_k"]) D sc__law_begun (fun _ _ _ _ _ _ us hl => match us, hl with | [_, _], _ => rfl) ?_ ?_
  · rintro vs H Q E ⟨I, sa, ns, k, rfl, _⟩
    rfl
  rintro f0 cdv A outer s0 H vs Q E hr ⟨I, sa, ns, k, rfl, hs, hsc, hnl, hk1, q⟩
  refine ⟨_, (pss_cons (ps_set (i := 2) sc__law_begun.nd rfl (Or.inl rfl) (pe_op op_cat (pe_slice sl_list (pv 0) (po_some (pv 1)) po_none) (pe_slice sl_list (pv 0) po_none (po_some (pv 1))))) (pss_cons (ps_setLc (i := 3) (own := [("_law_cell", 4)]) rfl sc__law_begun.nd rfl rfl (sw_true rfl rfl rfl (by decide +kernel)) (pi_list (pv 0)) (blkOk_by (N := N__law_begun) (sc := defScope (top 66)) (by decide +kernel)) (fun _ _ _ _ _ => (pg_name (i := 4) sc__law_begun.nd rfl (Or.inl rfl))) (fun _ _ _ _ _ => (pts_one (pt_cmpR op_ge (pv 4) (pe_op op_pow pe_int pe_int) (nomark _)))) (fun _ _ _ _ _ => (pv 4))) (pss_cons (ps_set (i := 5) sc__law_begun.nd rfl (Or.inl rfl) (pe_op op_add pe_int (pe_op op_mul pe_int (pv 1)))) (pss_cons (ps_for PassesOwn.never rfl (pi_list (pv 2)) (pg_name (i := 4) sc__law_begun.nd rfl (Or.inl rfl)) (pss_one (ps_set (i := 5) sc__law_begun.nd rfl (Or.inl rfl) (pe_op op_mod (pe_callTy call_int1 (by rfl) T.int (by decide +kernel) (pa_cons (pe_op op_add (pe_op op_mul (pv 5) pe_int) (pv 4)) pa_nil)) pe_int)))) (pss_cons (ps_set (i := 6) sc__law_begun.nd rfl (Or.inl rfl) (pe_ifExp (pt_cmpR op_lt (pv 1) (pe_callB call_len_seq (by rfl) T.len (by decide +kernel) (pa_cons (pv 3) pa_nil)) (nomark _)) (pe_ix ix_list (pv 3) (pv 1) (fun _ _ => rfl)) pe_int)) (pss_one (ps_ret (pe_disp (pps_cons pe_str (pv 6) (pps_cons pe_str (pv 5) (pps_cons pe_str (pe_op op_cat (pv 2) (pe_lst (pa_cons (pe_op op_add (pe_op op_mul pe_int (pv 1)) pe_int) pa_nil))) (pps_cons pe_str pe_int (pps_cons pe_str pe_int (pps_cons pe_str pe_int pps_nil)))))) (by rfl) (by rfl) (fun z => by cases z) (by decide))))))))), ?_⟩
  have w0 : W [] I H I [] H := W.start hs
  obtain ⟨c1, e1⟩ := cut_ints ns (some (k : Int)) none
  obtain ⟨c2, e2⟩ := cut_ints ns none (some (k : Int))
  have l1 : c1.length ≤ 100 := by
    have h := cutV_length (ns.map V.int) (some (k : Int)) none
    rw [e1, List.length_map, List.length_map] at h
    omega
  have l2 : c2.length ≤ 100 := by
    have h := cutV_length (ns.map V.int) none (some (k : Int))
    rw [e2, List.length_map, List.length_map] at h
    omega
  refine ⟨_, rfl, _, rfl, _, rfl, sa, _, rfl, w0.hs.sub.seq hsc, fun p1 hp1 => ?_⟩
  rw [e1]
  have w1 := w0.newI hp1 (.lst (c1.map V.int))
  have u1 := w0.upI hp1 (.lst (c1.map V.int))
  refine ⟨_, rfl, _, rfl, _, rfl, sa, _, rfl, (w1.hs.sub.seq (u1.seq hsc)), fun p2 hp2 => ?_⟩
  rw [e2]
  have w2 := w1.newI hp2 (.lst (c2.map V.int))
  have u2 := w1.upI hp2 (.lst (c2.map V.int))
  refine ⟨p1, p2, _, _, rfl, rfl, w2.i (u2 _ _ upd_same), w2.i upd_same, ?_, fun p3 hp3 => ?_⟩
  · rw [List.length_map, List.length_map]
    exact Nat.le_trans (by omega : _ ≤ 1000) (by decide)
  rw [← List.map_append]
  have w3 := w2.newI hp3 (.lst ((c1 ++ c2).map V.int))
  have u3 := w2.upI hp3 (.lst ((c1 ++ c2).map V.int))
  have hsc3 := (u1.trans (u2.trans u3)).seq hsc
  have hp3' : upd (upd (upd I p1 (.lst (c1.map V.int))) p2 (.lst (c2.map V.int))) p3 (.lst ((c1 ++ c2).map V.int)) p3 = some (.lst ((c1 ++ c2).map V.int)) := upd_same
  revert w3 hsc3 hp3'
  clear u3 u2 u1 w2 w1 hp3 hp2 hp1
  generalize upd (upd (upd I p1 (.lst (c1.map V.int))) p2 (.lst (c2.map V.int))) p3 (.lst ((c1 ++ c2).map V.int)) = I3
  generalize upd (upd (upd H p1 (.lst (c1.map V.int))) p2 (.lst (c2.map V.int))) p3 (.lst ((c1 ++ c2).map V.int)) = H3
  intro w3 hsc3 hp3
  refine ⟨_, rfl, sa, rfl, ⟨_, w3.hs.sub.seq hsc3⟩, fun Dd hDd => ?_⟩
  have w4 := w3.newM hDd (.lst [])
  refine lc_list (K := K) (a := sa) (xs := ns.map V.int) (fun i H' => ∃ gs : List Nat, W [] I H I3 ([] ++ [(Dd, .lst (gs.map fun (n : Nat) => V.int (n : Int)))]) H' ∧ gs.length ≤ i) ⟨[], w4, Nat.le_refl _⟩ ?_ ?_ ?_
  · rintro i H' _ ⟨gs, w5, _⟩
    exact w5.hs.sub.seq hsc3
  · rintro i x H' hx ⟨gs, w5, hgl⟩
    have hi := (List.getElem?_eq_some_iff.mp hx).1
    rw [List.length_map] at hi
    rw [List.getElem?_map] at hx
    obtain ⟨y, hy, rfl⟩ : ∃ y, ns[i]? = some y ∧ x = .int y := by
      cases e : ns[i]? with
      | none => rw [e] at hx; cases hx
      | some y => rw [e] at hx; exact ⟨y, rfl, (Option.some.inj hx).symm⟩
    refine ⟨rfl, _, rfl, _, _, rfl, rfl, ⟨by decide, by decide, by decide⟩, _, _, rfl, rfl, _, rfl, ?_⟩
    by_cases hc : (10 : Int) ^ (18 : Int).toNat ≤ y
    · refine tT hc ?_
      have hy0 : 0 ≤ y := Int.le_trans (by decide) hc
      obtain ⟨z, rfl⟩ := Int.eq_ofNat_of_zero_le hy0
      refine ⟨_, rfl, _, w5.get (i := 0) rfl, small (by rw [List.length_map]; omega), gs ++ [z], ?_, by rw [List.length_append, List.length_singleton]; omega⟩
      rw [List.map_append]
      exact w5.set (i := 0) rfl (.lst ((gs.map fun (n : Nat) => V.int (n : Int)) ++ [.int (z : Int)]))
    · refine tF hc ?_
      exact ⟨gs, w5, by omega⟩
  rintro H4 ⟨gs, w5, hgl⟩
  have w6 := W.freeze (M := []) w5 (by simp)
  have u6 := HS.noU (o' := .lst (gs.map fun (n : Nat) => V.int (n : Int))) w5.hs
  have hD6 : upd I3 Dd (.lst (gs.map fun (n : Nat) => V.int (n : Int))) Dd = some (.lst (gs.map fun (n : Nat) => V.int (n : Int))) := upd_same
  have hp6 := u6 _ _ hp3
  revert w6 hD6 hp6
  clear u6 w5 hsc3 hp3 w4 w3 hDd
  generalize upd I3 Dd (.lst (gs.map fun (n : Nat) => V.int (n : Int))) = I6
  intro w6 hD6 hp6
  refine ⟨_, rfl, _, _, rfl, rfl, .inl ⟨by decide, by decide⟩, _, _, rfl, rfl, ?_⟩
  refine ⟨_, rfl, p3, rfl, ⟨_, SqL.of (w6.i hp6)⟩, ?_⟩
  refine for_list (K := K) (a := p3) (xs := (c1 ++ c2).map V.int) (fun i σ H' => ∃ (b : Int) (v4 : Option V), σ = [some (.ref sa), some (.int (k : Int)), some (.ref p3), some (.ref Dd), v4, some (.int b), none] ∧ H' = H4 ∧ 0 ≤ b ∧ b < 2147483647) ⟨67 + 8 * (k : Int), _, rfl, rfl, by omega, by omega⟩ ?_ ?_ ?_
  · rintro i σ H' _ ⟨b, v4, rfl, rfl, _⟩
    exact SqL.of (w6.i hp6)
  · rintro i x σ H' hx ⟨b, v4, rfl, rfl, hb0, hb1⟩
    rw [List.getElem?_map] at hx
    obtain ⟨y, hy, rfl⟩ : ∃ y, (c1 ++ c2)[i]? = some y ∧ x = .int y := by
      cases e : (c1 ++ c2)[i]? with
      | none => rw [e] at hx; cases hx
      | some y => rw [e] at hx; exact ⟨y, rfl, (Option.some.inj hx).symm⟩
    have h9 : (0 : Int) < 2147483647 := by decide
    refine ⟨_, rfl, _, _, rfl, rfl, .inr ⟨by decide, by decide⟩, _, rfl, _, _, rfl, rfl, .inl ⟨_, rfl, _, _, rfl, rfl, h9, ?_⟩⟩
    exact ⟨_, _, rfl, rfl, Int.emod_nonneg _ (by decide), Int.emod_lt_of_pos _ h9⟩
  rintro σ H' ⟨b, v4, rfl, rfl, hb0, hb1⟩
  have fin : ∀ (lf : Nat) (v4 : Option V), ∀ p, H' p = none → True := fun _ _ _ _ => trivial
  refine ⟨_, rfl, _, rfl, Dd, _, rfl, .inl (SqL.of (w6.i hD6)), _, _, rfl, rfl, _, rfl, ?_⟩
  have hlen : ((gs.map fun (n : Nat) => V.int (n : Int)).length : Int) = (gs.length : Int) := by rw [List.length_map]
  have key : ∀ (lf : Nat) (a : Addr), H' a = none → ∀ p4, upd H' a (.dK []) p4 = none → ∀ p5, upd (upd H' a (.dK [])) p4 (.lst [.int (53 * (k : Int) + 23)]) p5 = none →
      upd (upd (upd H' a (.dK [])) p4 (.lst [.int (53 * (k : Int) + 23)])) p5 (.lst ((c1 ++ c2).map V.int ++ [.int (53 * (k : Int) + 23)])) a = some (.dK []) ∧
      Q (.ref a) (upd (upd (upd (upd H' a (.dK [])) p4 (.lst [.int (53 * (k : Int) + 23)])) p5 (.lst ((c1 ++ c2).map V.int ++ [.int (53 * (k : Int) + 23)]))) a (.dK (mK p5 ⟨lf, b, 0, 0, 3⟩))) := fun lf a ha p4 hp4 p5 hp5 => by
    have w7 := w6.newM ha (.dK [])
    have w8 := w7.newI hp4 (.lst [.int (53 * (k : Int) + 23)])
    have w9 := w8.newI hp5 (.lst ((c1 ++ c2).map V.int ++ [.int (53 * (k : Int) + 23)]))
    refine ⟨w9.get (i := 0) rfl, ?_⟩
    have w10 : W [] I H _ (gM a p5 ⟨lf, b, 0, 0, 3⟩) _ := w9.set (i := 0) rfl (.dK (mK p5 ⟨lf, b, 0, 0, 3⟩))
    exact q a p5 _ _ _ w10 ⟨(c1 ++ c2) ++ [53 * (k : Int) + 23], by rw [upd_same, List.map_append (l₁ := c1 ++ c2)]; rfl, by simp⟩ rfl rfl
  have tl : ∀ (lf : Nat) (a : Addr) (ha : H' a = none), ∀ p4 (hp4 : upd H' a (.dK []) p4 = none), (c1 ++ c2).length + 1 ≤ sizeLine := fun _ _ _ _ _ => Nat.le_trans (by rw [List.length_append]; omega : _ ≤ 1000) (by decide)
  by_cases hkg : (k : Int) < ((gs.map fun (n : Nat) => V.int (n : Int)).length : Int)
  · refine tT hkg ?_
    have hkn : k < gs.length := by rw [hlen] at hkg; omega
    refine ⟨_, rfl, _, rfl, Dd, _, _, .int (gs[k] : Int), rfl, rfl, SqL.of (w6.i hD6), atI_nat (by rw [List.getElem?_map, List.getElem?_eq_getElem hkn]; rfl), ?_⟩
    refine fun a ha => ⟨_, rfl, _, rfl, _, rfl, _, rfl, _, _, rfl, rfl, .inl ⟨by decide, by decide⟩, _, _, rfl, rfl, s1, fun p4 hp4 => ⟨p3, p4, (c1 ++ c2).map V.int, [.int (53 * (k : Int) + 23)], rfl, rfl, ?_, upd_same, ?_, fun p5 hp5 => ?_⟩⟩
    · exact same_up hp4 _ _ (same_up ha _ _ (w6.i hp6))
    · rw [List.length_map]
      exact tl 0 a ha p4 hp4
    · obtain ⟨h1, h2⟩ := key gs[k] a ha p4 hp4 p5 hp5
      refine ⟨h1, [(.inr "left", .int (gs[k] : Int)), (.inr "seed", .int b), (.inr "cells", .ref p5), (.inr "spot", .int 0), (.inr "next", .int 0), (.inr "quants", .int 3)], rfl, (by show 6 ≤ 15; decide), ?_⟩
      rw [mm_run]
      exact h2
  · refine tF hkg ?_
    refine fun a ha => ⟨_, rfl, _, rfl, _, rfl, _, rfl, _, _, rfl, rfl, .inl ⟨by decide, by decide⟩, _, _, rfl, rfl, s1, fun p4 hp4 => ⟨p3, p4, (c1 ++ c2).map V.int, [.int (53 * (k : Int) + 23)], rfl, rfl, ?_, upd_same, ?_, fun p5 hp5 => ?_⟩⟩
    · exact same_up hp4 _ _ (same_up ha _ _ (w6.i hp6))
    · rw [List.length_map]
      exact tl 0 a ha p4 hp4
    · obtain ⟨h1, h2⟩ := key 0 a ha p4 hp4 p5 hp5
      refine ⟨h1, [(.inr "left", .int 0), (.inr "seed", .int b), (.inr "cells", .ref p5), (.inr "spot", .int 0), (.inr "next", .int 0), (.inr "quants", .int 3)], rfl, (by show 6 ≤ 15; decide), ?_⟩
      rw [mm_run]
      exact h2
end
end KW
set_option Elab.async false
set_option linter.all false
set_option maxRecDepth 100000
set_option maxHeartbeats 4000000
/-! R0: own rules: enumerate of a tuple. -/
namespace KW
open PySem PySem.Spec PyProof.Rows L2
abbrev tupIt (t : Addr) : Obj := { cls := .type "tuple_iterator", data := .fields #[.ref t, .int 0 0] }
abbrev enObj (i : Addr) : Obj := { cls := .type "enumerate", data := .fields #[.none, .bool false, .ref i, rawInt 0, .none, .none] }
/-- enumerate(t) of a tuple: its two new cells -/
theorem meets_enumT (t : Addr) (items : Array Value) : Meets (Builtin.«enumerate.__new__» ⟨[.type "enumerate", .ref t], []⟩) (fun _ R s => s.heap.IsTuple t items ∧ R (.ok (.ret (.ref (s.heap.push (tupIt t)).objs.size))) { s with heap := (s.heap.push (tupIt t)).push (enObj s.heap.objs.size) }) :=
  .of_wp fun prog w A R s h => by
    obtain ⟨hp, g, d, tk, os⟩ := s; obtain ⟨h1, h⟩ := h; have hsub := sub_enumerate
    have q1 : ∀ {A' : Around} {E : Value → Shared → Prop} {Q : Value → Shared → Prop}, Q (.ref hp.objs.size) ⟨hp.push (tupIt t), g, d, tk, os⟩ → wpAny (model prog w) A' (pyIter (.ref t)) Q E ⟨hp, g, d, tk, os⟩ := fun q => wpAny_pyIter_tuple h1 q
    wp_walk using q1
    refine wpAny_stack_any fun st => wpAny_pure ?_
    split
    · rename_i c _ _ _ _ _
      cases (c == Value.type "enumerate")
      · wp_walk using q1
        exact ⟨_, rfl, h⟩
      · wp_walk using q1
        exact ⟨_, rfl, h⟩
    · wp_walk using q1
      exact ⟨_, rfl, h⟩
section
variable {prog : Program} {w : World} {A : Around} {E : Value → Shared → Prop} {s : Shared}
theorem call_enumT {t : Addr} {items : Array Value} {Q : Value → Shared → Prop} (hT : s.heap.IsTuple t items)
    (h : ∀ h', IsEnum h' (s.heap.objs.size + 1) s.heap.objs.size ((0 : Nat) : Int) .none → h'.IsTupleIter s.heap.objs.size t 0 → (∀ b o, s.heap.get? b = some o → h'.get? b = some o) → Q (.ref (s.heap.objs.size + 1)) { s with heap := h' }) :
    wpAny (model prog w) A (call (.type "enumerate") [.ref t]) Q E s := by
  refine callType_new F.called_enumerate (by decide) (F.typeCall_enumerate_1 _) (F.newCall_enumerate_1 _) (fun obj => F.args_object_init_2 obj _) F.entry_enumerate_new (meets_enumT t items) ⟨hT, ?_⟩
  have hz : (s.heap.push (tupIt t)).objs.size = s.heap.objs.size + 1 := Heap.size_push ..
  show _ ∧ _
  rw [hz]
  have he : IsEnum ((s.heap.push (tupIt t)).push (enObj s.heap.objs.size)) (s.heap.objs.size + 1) s.heap.objs.size ((0 : Nat) : Int) .none := by
    have g := Heap.get?_push_size (s.heap.push (tupIt t)) (o := enObj s.heap.objs.size) rfl
    rw [hz] at g
    exact g
  exact ⟨⟨_, he, rfl⟩, h _ he ⟨_, Heap.get?_push_of_some _ (Heap.get?_push_size _ rfl), rfl, rfl⟩ fun b o x => Heap.get?_push_of_some _ (Heap.get?_push_of_some _ x)⟩
end
/-- a tuple as it stands at each turn, each item in a new pair -/
def IteT (K : PySem.W.Frag) (a : Addr) : It :=
  ⟨fun i H => ∃ (xs : List V) (x : V), SqT K H a xs ∧ xs[i]? = some x, fun i H v H' => ∃ T x, v = .ref T ∧ H T = none ∧ H' = upd H T (.tup [.int (i : Nat), x]) ∧ ∀ xs, SqT K H a xs → xs[i]? = some x, fun i H => ∃ xs : List V, SqT K H a xs ∧ xs.length ≤ i⟩
theorem turn_enumT {P : Program} {w : World} {K : PySem.W.Frag} {elts : List Expr} {kk : Nat} {tpos : Pos} (a e it : Addr) :
    Turn P w K (.Tuple elts kk tpos) (IteT K a) [e, it] e (fun i h => (∃ old, IsEnum h e it ((i : Nat) : Int) old) ∧ h.IsTupleIter it a i ∧ e ≠ it) where
  mem := by simp
  obj := fun i h st b hb => by
    obtain ⟨⟨old, he⟩, ⟨o, ho, hc, hd⟩, _⟩ := st
    have z2 : b = e ∨ b = it := by simpa using hb
    rcases z2 with z | z
    · subst z; exact ⟨_, he, fun v q => nomatch q⟩
    · subst z; exact ⟨o, ho, fun v q => by rw [hd] at q; cases q⟩
  keep := fun i h h' st k => let ⟨⟨old, he⟩, hi, hne⟩ := st; ⟨⟨old, k e (by simp) _ he⟩, hi.at fun o q => k it (by simp) o q, hne⟩
  item := by
    intro X hP hw hK hc i pins s σ H E I hf st hg
    subst hP hw hK
    obtain ⟨⟨old, he⟩, hit, hne⟩ := st; obtain ⟨xs, x, hq, hx⟩ := hg
    obtain ⟨its, rv, p, hz⟩ := I.tuple hq
    obtain ⟨u, hu, ru⟩ := rv.get hx
    have hT0 : s.heap.IsTuple a its.toArray := p
    have hel : e < s.heap.objs.size := Heap.lt_size he
    have hil : it < s.heap.objs.size := let ⟨_, q, _⟩ := hit; Heap.lt_size q
    have hai : a ≠ it := fun z => by
      obtain ⟨o, q1, q2, _⟩ := hT0; obtain ⟨o', r1, r2, _⟩ := hit
      rw [z, r1] at q1; cases q1; rw [r2] at q2; exact absurd q2 (by decide)
    have hea : e ∉ [it, a] := fun z => by
      have z2 : e = it ∨ e = a := by simpa using z
      rcases z2 with z | z
      · exact hne z
      · obtain ⟨o, q1, q2, _⟩ := hT0
        rw [← z, he] at q1; cases q1
        have q3 : Value.type "enumerate" = Value.type "tuple" := q2
        exact absurd q3 (by decide)
    have hlt : i < its.toArray.size := by
      have := (List.getElem?_eq_some_iff.mp hu).1
      simpa using this
    refine wpAny_pyNext_enum_itemC (Draws.tuple (prog := X.prog) (w := X.w) (A := X.A.in1) (I.ok.hd hc) it a hai its.toArray) he ⟨hit, hT0⟩ hlt hne hea fun x' h' tk hPx ho hst' hT hsz hk => ?_
    have ex : x' = u := by
      have : its[i]? = some x' := by simpa using hPx
      rw [hu] at this; exact (Option.some.inj this).symm
    subst ex
    refine ⟨_, rfl, wpAny_letOwnedTupleGo_enum (s := { s with heap := h', toks := tk + 1 }) ho fun h'' he' sb => ?_⟩
    have hT2 : h''.get? s.heap.objs.size = some { cls := .type "tuple", data := .seq #[.int i tk, x'] } := (sb.2 _ (Nat.ne_of_gt hel)).trans hT
    have new : ObjOk X.prog X.w (upd H s.heap.objs.size (.tup [.int (i : Nat), x])) h'' s.heap.objs.size (.tup [.int (i : Nat), x]) := ⟨by show 2 ≤ sizeLine; decide, [.int i tk, x'], .cons ⟨_, rfl⟩ (.cons ru .nil), ⟨_, hT2, rfl, _, rfl⟩⟩
    have I1 : Inv X pins σ (upd H s.heap.objs.size (.tup [.int (i : Nat), x])) { s with heap := h'', toks := tk + 1 } := I.turnedNew (ch := [e, it]) (fun b ob hb q => (sb.2 b (fun z => hb (by simp [z]))).trans (hk b ob (fun z => hb (by simp [z])) (fun z => hb (by simp [z])) q)) hf (Nat.le_refl _) new
    refine ⟨.ref s.heap.objs.size, _, I1, rfl, ⟨_, x, rfl, I.hok.fresh (Nat.le_refl _), rfl, fun ys hy => by rw [I.tuple_inj hy hq]; exact hx⟩, ⟨⟨x', ?_⟩, hst'.1.at fun o q => (sb.2 it (Ne.symm hne)).trans q, hne⟩, fun b hb => ?_⟩
    · rw [show ((i + 1 : Nat) : Int) = (i : Int) + 1 by omega]; exact he'
    · have z2 : b = e ∨ b = it := by simpa using hb
      have hb' : b < s.heap.objs.size := by rcases z2 with z | z <;> subst z <;> assumption
      rw [upd_ne (Nat.ne_of_lt hb')]; exact (hf b hb).1
  done := by
    intro X hP hw hK hc i pins s σ H E I hf st hg
    subst hP hw hK
    obtain ⟨⟨old, he⟩, hit, hne⟩ := st; obtain ⟨xs, hq, hx⟩ := hg
    obtain ⟨its, rv, p, hz⟩ := I.tuple hq
    have hT0 : s.heap.IsTuple a its.toArray := p
    obtain ⟨f0, f1, f2, f3, f4, f5⟩ := hf it (by simp)
    have hT : s.TypeIs (.ref e) "enumerate" := ⟨_, he, rfl⟩
    have hl := rv.length
    unfold pyNext
    refine wpAny_bind (wpAny_attempt (wpAny_callSpecial?_slot (name := Str.ofString "__next__") hT F.slot_enumerate_next (wpAny_call_entry F.slot_enumerate_next hT F.entry_enumerate_next ?_ (F.args_enumerate_next_1 _))))
    show wpAny _ _ (field (.ref e) 2 >>= _) _ _ s
    refine wpAny_bind (wpAny_field he rfl (x := .ref it) rfl (wpAny_bind (wpAny_nextOf_tuple_end (I.ok.hd hc) hit hT0 (by simp; omega) fun h' x eb hx' => ?_)))
    obtain ⟨o, ho, hco⟩ := hx'
    refine wpAny_bind (wpAny_isInstance (T := "StopIteration") (b := true) ⟨o, ho, hco⟩ isSubtype_stop (wpAny_pure ?_))
    exact ⟨rfl, I.turned (t' := s.toks) (fun b o hb q => eb b o hb q) f0 f1 f3 f4 f5⟩
  self := fun A i s Q E st h => let ⟨⟨_, he⟩, _⟩ := st; wpAny_pyIter_enum he h
def iEnumT (K : PySem.W.Frag) (ta : TA) : TI := fun σ H R => ta σ H fun vs H1 => ∃ a xs, vs = [.ref a] ∧ SqT K H1 a xs ∧ R (IteT K a) H1
theorem pi_enumT {X : Cx} {e : Expr} {ta : TA} {p pos tpos : Pos} {elts : List Expr} {kk : Nat} (hg : Gl X "enumerate") (hm : X.mg "enumerate" = none) (ha : PA X [e] ta) (hs : starEach [e] X.env = [(false, eval e X.env)] := by rfl) :
    PI X (.Tuple elts kk tpos) (.Call (.Name "enumerate" p) [e] [] pos) (iEnumT X.K ta) := ⟨fun pins s σ H R I h => by
  refine Call_ (ld_blt I hg hm boot_enumerate (PyProof.Rows.callWith_type1 (thn (ha.run pos pins s σ H _ I h) fun us s1 ⟨vs, H1, I1, r1, q1⟩ => ?_) hs rfl))
  obtain ⟨a, xs, ex, hq, q⟩ := q1; subst ex
  obtain ⟨u, rfl, rx⟩ := vals1 r1
  cases rx
  obtain ⟨its, rv, p', hz⟩ := I1.tuple hq
  refine call_enumT (show s1.heap.IsTuple a its.toArray from p') fun h' he hit hk => wpAny_pyIter_enum he ?_
  refine ⟨s1.heap.objs.size + 1, [s1.heap.objs.size + 1, s1.heap.objs.size], _, _, H1, rfl, I1.kept (t' := s1.toks) hk, turn_enumT a (s1.heap.objs.size + 1) s1.heap.objs.size, ⟨⟨.none, he⟩, hit, Nat.succ_ne_self _⟩, fun b hb => ?_, q⟩
  have z2 : b = s1.heap.objs.size + 1 ∨ b = s1.heap.objs.size := by simpa using hb
  have hle : s1.heap.objs.size ≤ b := by
    rcases z2 with z | z
    · rw [z]; exact Nat.le_add_right _ _
    · rw [z]; exact Nat.le_refl _
  exact I1.fpOk hle (I1.hok.fresh hle)⟩
/-- a loop over it, the tuple left as it is -/
theorem for_enumT {K : PySem.W.Frag} {a : Addr} {xs : List V} {g : TG} {tb : TS} {D : Ends} {σ : L2.St} {H : Hp} (Pv : Nat → L2.St → Hp → Prop) (h0 : Pv 0 σ H) (hl : ∀ i σ H, i ≤ xs.length → Pv i σ H → SqT K H a xs)
    (hs : ∀ i x σ H T, xs[i]? = some x → Pv i σ H → H T = none → g (.ref T) σ (upd H T (.tup [.int (i : Nat), x])) fun σ2 H2 => tb { D with nx := Pv (i + 1), ct := Pv (i + 1), bk := D.nx } σ2 H2) (hd : ∀ σ H, Pv xs.length σ H → D.nx σ H) :
    ∃ W : Nat → Nat → L2.St → Hp → Prop, (∃ m, W 0 m σ H) ∧ ∀ i m σ H, W i m σ H →
      ((IteT K a).stop i H ∧ D.nx σ H) ∨ ((IteT K a).go i H ∧ ∃ N : L2.St → Hp → Prop, (∀ σ' H', N σ' H' → ∃ m', m' < m ∧ W (i + 1) m' σ' H') ∧ ∀ x H', (IteT K a).yld i H x H' → g x σ H' fun σ2 H2 => tb { D with nx := N, ct := N, bk := D.nx } σ2 H2) := by
  refine ⟨fun i m σ H => (m = xs.length - i ∧ i ≤ xs.length) ∧ Pv i σ H, ⟨xs.length, ⟨rfl, Nat.zero_le _⟩, h0⟩, ?_⟩
  rintro i m σ H ⟨⟨rfl, hi⟩, p⟩
  have q := hl i σ H hi p
  by_cases hlt : i < xs.length
  · refine .inr ⟨⟨xs, xs[i], q, List.getElem?_eq_getElem hlt⟩, Pv (i + 1), fun σ' H' p' => ⟨xs.length - (i + 1), by omega, ⟨rfl, hlt⟩, p'⟩, ?_⟩
    rintro v H' ⟨T, x, rfl, hT, rfl, hx⟩
    exact hs i x σ H T (hx xs q) p hT
  · have e : i = xs.length := by omega
    subst e
    exact .inl ⟨⟨xs, q, Nat.le_refl _⟩, hd σ H p⟩
end KW
set_option Elab.async false
set_option linter.all false
set_option maxRecDepth 100000
set_option maxHeartbeats 4000000
/-! R1: own rules: repr; defs that are called where no repr is under way. -/
namespace KW
open PySem PySem.Spec PyProof.Rows L2
section
variable {X : Cx}
/-- repr(x) of data -/
def rRepr (K : PySem.W.Frag) : List V → Hp → VK → Prop := fun xs H Q => ∃ x d, xs = [x] ∧ Dp K H x d ∧ d.showable = true ∧ d.hasDict = false ∧ d.shown.length ≤ sizeLine ∧ d.depth ≤ 60 ∧ ((∃ i, x = .int i) ∨ ∃ a, x = .ref a) ∧ Q (.str d.shown) H
theorem call_reprD (hg : X.A.guards = some []) (hu : X.A.units + 64 < cLine) : CallR X (.builtin "repr") (rRepr X.K) := by
  intro pins s σ H xs us Q I r h
  obtain ⟨x, d, rfl, hd, hs, hn, hz, hdp, hx, q⟩ := h
  rcases hx with ⟨i, rfl⟩ | ⟨a, rfl⟩
  · cases hd
    refine SkE.call_repr_int pins s σ H _ us Q I r ⟨i, rfl, ?_, ?_⟩
    · simpa [PyData.showable] using hs
    · rw [PyData.shown_int] at q
      exact q
  · obtain ⟨u, rfl, rx⟩ := vals1 r
    cases rx
    obtain ⟨as, rd⟩ := Dp.reads I d _ _ hd rfl
    refine repr_of_reads' rd hs (fun z => by rw [hn] at z; cases z) hg (by omega) (fun _ _ e => e) (fun h' u tk hk => ?_) hz
    exact ⟨.str d.shown, H, I.kept (t' := tk) hk, ⟨_, rfl⟩, q⟩
end

/-! ### a def that is called where no repr is under way -/
/-- as FnOk, where no guard stands -/
structure FnG (P : Program) (w : World) (K : PySem.W.Frag) (mg : Str → Option Value) (base : Heap) (k : Nat) (f : Addr) (fd : FuncData) (ps : List Str) (sp : Sp) : Prop where
  len : ∀ vs H Q E, sp vs H Q E → vs.length = ps.length
  run : ∀ (A : Around), Room k A → A.guards = some [] → ∀ (outer : List Env) (s : Shared) (H : Hp) (args : Args) (us : List Value) (vs : List V) (Q : VK) (E : XK), Env0 P w K mg base A outer s H → BindsTo s fd args (ps.zip us) → Vals vs us → sp vs H Q E → codeAny (model P w) A (.call (.ref f) args) (CR CX0 outer P w H s Q E) s
structure ClG (P : Program) (w : World) (K : PySem.W.Frag) (mg : Str → Option Value) (base : Heap) (k : Nat) (x : Str) (sp : Sp) : Prop where
  ex : ∃ (f : Addr) (fd : FuncData) (ps : List Str), FnG P w K mg base k f fd ps sp ∧ mg x = some (.ref f) ∧ PySem.W.keepIn K (.ref f) = true ∧ Binds K fd ps []
section
variable {P : Program} {w : World} {K : PySem.W.Frag} {mg : Str → Option Value} {base : Heap}
theorem fn_ofG {k : Nat} {f : Addr} {x : Str} {params : Arguments} {body : List Stmt} {scope : Scope} {dV kV doc pm cdv ct oc : Value} {an od : Option Addr} {osl : Array (Option Value)} {N ps : List Str} {sp : Sp}
    (lk : K.lookup f = some ⟨oc, od, .func (PySem.W.fnOf x x params body scope dV kV doc pm an cdv ct), osl⟩) (hcd : PySem.W.codeIn K cdv x = true) (S : FnScope N ps scope) (len : ∀ vs H Q E, sp vs H Q E → vs.length = ps.length)
    (hb : ∀ (A : Around), A.guards = some [] → ∀ (outer : List Env) (s : Shared) (H : Hp) (vs : List V) (Q : VK) (E : XK), Room k (A.deeper (envOfC x scope s.heap.objs.size f cdv)) → sp vs H Q E →
      ∃ t, PSs (cxOf CX0 P w K mg base N x scope f cdv A outer s H E) body t ∧ t { nx := fun _ H' => Q .non H', rt := Q } (start N vs) H) : FnG P w K mg base (k + 1) f (PySem.W.fnOf x x params body scope dV kV doc pm an cdv ct) ps sp := by
  refine ⟨len, fun A hr hgd outer s H args us vs Q E e0 hbd r hsp => ?_⟩
  have kin : K.In s.heap := e0.mod.kin.keeps fun b o e => (e0.bs b o e).1
  have par : ∀ y ∈ ps.zip us, scope.names.lookup y.1 = some .local ∨ (scope.names.lookup y.1 = some .cell ∧ ((cellsFrom (s.heap.objs.size + 1) scope.names []).lookup y.1).isSome = true) := fun y hy => (S.par y.1 (List.of_mem_zip hy).1).imp id fun q => ⟨q, PySem.W.cellsFrom_some _ _ _ (.inl q)⟩
  refine codeAny_call_function hr.depth (kin _ _ lk) rfl S.co S.gen rfl (PySem.W.codeRec_of kin hcd) (hbd _ _ _ _ (wpAny_newFunctionEnv_cells S.kind par fun env he s1 y => ?_))
  subst he
  refine ⟨(e0.mod.nolimit.keeps fun b o e => (e0.bs b o e).1).keeps y.toInCall.keep, codeAny_func ?_⟩
  obtain ⟨t, ht, hq⟩ := hb A hgd outer s H vs Q E (hr.deeper _) hsp
  refine wpAny_mono (ht.run [] s1 (start N vs) H _ (inv_start S hr.hd e0 (len _ _ _ _ hsp) r y) hq) (fun fl s2 hs => ?_) fun e s2 hs => hs
  cases fl with
  | ret u => obtain ⟨v, σ2, H2, J, rv, q⟩ := hs; exact ⟨v, H2, J.os, J.bare, J.base, J.hok, rv, q⟩
  | next => obtain ⟨σ2, H2, J, q⟩ := hs; exact ⟨V.non, H2, J.os, J.bare, J.base, J.hok, rfl, q⟩
  | brk => obtain ⟨_, _, _, q⟩ := hs; exact q.elim
  | cont => obtain ⟨_, _, _, q⟩ := hs; exact q.elim
theorem fn_mkG {x : Str} {i : Nat} {N ps : List Str} {k : Nat} {sp : Sp} {f : Addr} {fd : FuncData} (F : FunD K x x (defArgs (top i)) (defBody (top i)) (defScope (top i)) [] [] f fd) (S : FnScope N ps (defScope (top i)))
    (len : ∀ vs H Q E, sp vs H Q E → vs.length = ps.length)
    (hbody : ∀ (f : Addr) (cdv : Value) (A : Around) (outer : List Env) (s : Shared) (H : Hp) (vs : List V) (Q : VK) (E : XK), Room k (A.deeper (envOfC x (defScope (top i)) s.heap.objs.size f cdv)) → A.guards = some [] → sp vs H Q E →
      ∃ t, PSs (cxOf CX0 P w K mg base N x (defScope (top i)) f cdv A outer s H E).nox (defBody (top i)) t ∧ t { nx := fun _ H' => Q .non H', rt := Q } (start N vs) H) : FnG P w K mg base (k + 1) f fd ps sp := by
  obtain ⟨oc, od, dV, kV, doc, pm, an, cdv, ct, osl, rfl, lk, hcd, _, _⟩ := F.ex
  refine fn_ofG lk hcd S len fun A hgd outer s H vs Q E hr h => ?_
  obtain ⟨t, h1, h2⟩ := hbody f cdv A outer s H vs Q E hr hgd h
  exact ⟨t, h1.nox, h2⟩
theorem cl_mkG {x : Str} {i : Nat} {N ps : List Str} {k : Nat} {sp : Sp} (D : DefAt K mg x i) (S : FnScope N ps (defScope (top i)))
    (hb : ∀ (kV doc pm : Value) (an : Option Addr) (cdv ct : Value) (us : List Value), us.length = ps.length → bindArgs (PySem.W.fnOf x x (defArgs (top i)) (defBody (top i)) (defScope (top i)) .none kV doc pm an cdv ct) ⟨us, []⟩ = pure (ps.zip us))
    (len : ∀ vs H Q E, sp vs H Q E → vs.length = ps.length)
    (hbody : ∀ (f : Addr) (cdv : Value) (A : Around) (outer : List Env) (s : Shared) (H : Hp) (vs : List V) (Q : VK) (E : XK), Room k (A.deeper (envOfC x (defScope (top i)) s.heap.objs.size f cdv)) → A.guards = some [] → sp vs H Q E →
      ∃ t, PSs (cxOf CX0 P w K mg base N x (defScope (top i)) f cdv A outer s H E).nox (defBody (top i)) t ∧ t { nx := fun _ H' => Q .non H', rt := Q } (start N vs) H) : ClG P w K mg base (k + 1) x sp := by
  obtain ⟨f, fd, F, m⟩ := D.ex
  exact ⟨f, fd, ps, fn_mkG F S len hbody, m, F.kp, F.bindsN hb⟩
end
section
variable {X : Cx} {k j : Nat} {x : Str} {sp : Sp} {p pos : Pos} {e : Expr} {es : List Expr} {t : TA}
theorem pe_clG (c : ClG X.prog X.w X.K X.mg X.base k x sp) (hgd : X.A.guards = some []) (hr : Room j X.A) (hk : k ≤ j) (hg : Gl X x) (ha : PA X (e :: es) t)
    (hdb : (x == ("__debug__" : Str)) = false := by decide) (he : starEach (e :: es) X.env = (false, eval e X.env) :: starEach es X.env := by rfl) (hpl : (backTo pos (starEach es X.env)).any (·.1) = false := by rfl) :
    PE X (.Call (.Name x p) (e :: es) [] pos) (tCl sp t) := by
  obtain ⟨f, fd, ps, F, hm, kp, bd⟩ := c.ex
  refine ⟨fun pins s σ H Q I h => wpAny_Call_Name_kw (ld_glob I hg hm (PySem.W.callWith_K (h₀ := X.base) I.ok.mod.kin kp (thn (ha.run pos pins s σ H _ I h) fun us s1 ⟨vs, H1, I1, r, q⟩ => ⟨I1.kIn, ?_⟩) he hpl) hdb)⟩
  have hl : us.length = ps.length := by rw [← r.length]; exact F.len _ _ _ _ q
  have hbt := bd s1 us I1.kIn (by rw [List.append_nil]; exact hl)
  rw [List.append_nil] at hbt
  refine wpAny_call (codeAny_mono (F.run X.A (hr.mono hk) hgd X.stack s1 H1 ⟨us, []⟩ us vs Q E0 I1.env0 hbt r q) fun res s2 hq => ?_)
  cases res with
  | error er => exact pass0 pins σ H1 s1 er s2 I1 hq
  | ok fl => cases fl with
    | ret u => exact I1.after hq
    | next => exact hq.elim
    | brk => exact hq.elim
    | cont => exact hq.elim
end
/-- the law's promise, at the heap behind the top -/
theorem law_callG {P : Program} {w : World} {K : PySem.W.Frag} {mg mb : Str → Option Value} {k : Nat} {fa a : Addr} {fd : FuncData} {x : Str} {sp : Sp} {s₁ : Shared} {vs : List Value} {ns : List Int}
    (KX : K.In s₁.heap) (hns : s₁.heap.Ns mainGlobals mg) (hb : s₁.heap.Ns builtinsNs mb) (hbb : ∀ x : Str, x ≠ "__name__" → mb x = bootBuiltins x) (hlim : s₁.heap.NoLimit) (hg : s₁.gens = #[])
    (ha : s₁.heap.get? a = some { cls := .type "list", data := .seq vs.toArray }) (hi : IntsAre vs ns) (hl : ns.length ≤ sizeLine) (hr : Room k callerA)
    (F : ∀ base : Heap, K.In base → base.Ns mainGlobals mg → FnG P w K mg base k fa fd [x] sp) (hbind : ∀ (s : Shared) (u : Value), BindsTo s fd ⟨[u], []⟩ [(x, u)])
    (hsp : ∀ H : Hp, Only H → SqL K H a (ns.map V.int) → sp [.ref a] H (fun v _ => v = .bl true) E0) :
    codeAny (model P w) callerA (.call (.ref fa) ⟨[.ref a], []⟩) (fun r s' => r = .ok (.ret (.bool true)) ∧ OldK s₁.heap s'.heap ∧ s'.os = s₁.os ∧ AllBare s'.gens) s₁ := by
  have rv := vals_ints hi; have lenV := hi.length
  have core : ∀ H : Hp, Only H → SqL K H a (ns.map V.int) → HOk P w H s₁.heap → (∀ b, H b ≠ none → b = a) → (H a ≠ none → K.lookup a = none) → codeAny (model P w) callerA (.call (.ref fa) ⟨[.ref a], []⟩) (fun r s' => r = .ok (.ret (.bool true)) ∧ OldK s₁.heap s'.heap ∧ s'.os = s₁.os ∧ AllBare s'.gens) s₁ := by
    intro H hO hS hok hA hK
    have noA : ∀ {b : Addr} {o : Obj} {es : Array DictEntry} {ep : Nat}, s₁.heap.get? b = some o → o.data = .dict es ep → H b = none := fun {b o es ep} e dd => by
      cases q : H b with
      | none => rfl
      | some u =>
        have eb : b = a := hA b (by rw [q]; simp)
        subst eb; rw [ha] at e; cases e
        have z : Data.seq vs.toArray _ = Data.dict es ep := dd
        cases z
    have nsK : ∀ {b : Addr} {m : Str → Option Value}, s₁.heap.Ns b m → (hidT s₁.heap H).Ns b m := fun {b m} ⟨o, es, ep, e, dd, r⟩ => ⟨o, es, ep, hidT_get e (noA e dd), dd, r⟩
    have hKb : K.In (hidT s₁.heap H) := fun b o e => hidT_get (KX b o e) (by
      cases q : H b with
      | none => rfl
      | some u =>
        have eb : b = a := hA b (by rw [q]; simp)
        subst eb; rw [hK (by rw [q]; simp)] at e; cases e)
    have hM : Mod K mg (hidT s₁.heap H) := ⟨hKb, nsK hns, ⟨mb, nsK hb, hbb⟩, let ⟨mc, h1, h2⟩ := hlim; ⟨mc, nsK h1, h2⟩⟩
    have e0 : Env0 P w K mg (hidT s₁.heap H) callerA [] s₁ H := ⟨rfl, hM, fun b o e => of_hidT e, Nat.le_of_eq (hidT_size _ _), trivial, fun b z => absurd (show b ∈ ([] : List Addr) from z) (by simp), hok, .of_eq hg⟩
    refine codeAny_mono ((F _ hKb (nsK hns)).run callerA hr rfl [] s₁ H ⟨[.ref a], []⟩ [.ref a] [.ref a] _ _ e0 (hbind s₁ (.ref a)) (.cons rfl .nil) (hsp H hO hS)) fun r s' h => ?_
    cases r with
    | error e => exact False.elim h
    | ok fl => cases fl with
      | next => exact h.elim
      | brk => exact h.elim
      | cont => exact h.elim
      | ret u =>
        obtain ⟨v, H', os, bare, un, hok', r', q⟩ := h
        have q' : v = .bl true := q
        subst q'
        obtain rfl : u = Value.bool true := r'
        refine ⟨rfl, OldK.of_keep fun b o e => ?_, os, bare⟩
        cases q : H b with
        | none => exact un.keep b o e q (by intro z; exact absurd (show b ∈ ([] : List Addr) from z) (by simp)) (by simp)
        | some u =>
          rcases hO b with z | ⟨ob, xs, z⟩
          · rw [q] at z; cases z
          · obtain ⟨g1, _⟩ := hok b _ z; obtain ⟨g2, _⟩ := hok' b _ (un.frzs b ob _ z)
            rw [e] at g1; cases g1; exact g2
  cases hk : K.lookup a with
  | some o =>
    have e := KX a o hk
    rw [ha] at e; cases e
    refine core (fun _ => none) (fun _ => .inl rfl) (.inr ⟨_, vs.toArray, _, hk, rfl, rfl, rfl, by rw [List.size_toArray, lenV]; exact hl, by simpa using rv⟩) (fun b u z => by have z2 : (none : Option HO) = some u := z; cases z2) (fun b z => (z rfl).elim) fun z => (z rfl).elim
  | none =>
    refine core (fun b => if b = a then some (.frz { cls := .type "list", data := .seq vs.toArray } (.lst (ns.map V.int))) else none) (fun b => ?_) (.inl (.inr ⟨{ cls := .type "list", data := .seq vs.toArray }, if_pos rfl⟩)) (fun b u z => ?_) (fun b z => ?_) fun _ => hk
    · by_cases eb : b = a
      · exact .inr ⟨_, _, if_pos eb⟩
      · exact .inl (if_neg eb)
    · by_cases eb : b = a
      · have z2 := (if_pos eb).symm.trans z
        cases z2; subst eb
        exact ⟨ha, by rw [List.length_map]; exact hl, vs, _, rv, ha⟩
      · have z2 := (if_neg eb).symm.trans z
        cases z2
    · by_cases eb : b = a
      · exact eb
      · exact (z (if_neg eb)).elim
theorem walk_ofG {l : PySem.W.OpenLaw} {n k : Nat} {q : Program} {loose : List Str} {XP : (Str → Option Value) → Heap → Prop} {YP : World → Heap → Prop} {d : DefRec} {K : Params → PySem.W.Frag} {sp : World → Sp} {x : Str}
    (hn : l.most = some n) (hn2 : n ≤ sizeLine) (hdf : d.params.defaults = []) (hr : Room k callerA) (hY : ∀ (w : World) (h : Heap), YP w h → (K w.params).In h)
    (F : ∀ (w : World) (mg : Str → Option Value) (fa : Addr) (h : Heap), (K w.params).In h → h.Ns mainGlobals mg → mg d.name = some (.ref fa) → ∃ fd : FuncData, (∀ (s : Shared) (u : Value), BindsTo s fd ⟨[u], []⟩ [(x, u)]) ∧ ∀ base : Heap, (K w.params).In base → base.Ns mainGlobals mg → FnG l.prog w (K w.params) mg base k fa fd [x] (sp w))
    (hsp : ∀ (w : World) (H : Hp) (a : Addr) (ns : List Int), ns.length ≤ n → Only H → SqL (K w.params) H a (ns.map V.int) → sp w [.ref a] H (fun v _ => v = .bl true) E0) : PySem.W.WalkO q loose XP YP l.row.toRowW d [] (fun f vs => PySem.call f vs) := by
  refine Att.attach_call hn hdf fun w s₀ s₁ mg mb fa o pm cd doc a vs ns G Y ho hd hcd hmg hobj hints hlen hg => ?_
  obtain ⟨fd, hb, hF⟩ := F w mg fa _ (hY w _ Y) G.T.g hmg
  exact law_callG (hY w _ Y) G.T.g G.T.b G.T.builtins G.T.nolimit hg hobj hints (Nat.le_trans hlen hn2) hr hF hb fun H hO hS => hsp w H a ns hlen hO hS
end KW
set_option Elab.async false
set_option linter.all false
set_option maxRecDepth 100000
set_option maxHeartbeats 4000000
/-! E0: the ends of a told tree. -/
namespace KW
open PySem PySem.Spec PyProof.Rows L2 
section
variable {P : Program} {w : World} {K : PySem.W.Frag} {mg : Str → Option Value} {base : Heap}

def PeAt (I : Hp) (x : KnP × Tr) (u : V) : Prop := ∃ p ka tv, u = .ref p ∧ I p = some (.tup [tv, .ref ka]) ∧ TrAt I x.2 tv ∧ I ka = some (.dT (knPK x.1))
theorem PeAt.mono {I I' : Hp} (h : Same I I') {x : KnP × Tr} {u : V} : PeAt I x u → PeAt I' x u := fun ⟨p, ka, tv, e, g, t, k⟩ => ⟨p, ka, tv, e, h _ _ g, t.mono h, h _ _ k⟩
def EdAt (I : Hp) (x : KnP × Val) (u : V) : Prop := ∃ p ka xv, u = .ref p ∧ I p = some (.tup [.ref ka, xv]) ∧ I ka = some (.dT (knPK x.1)) ∧ VAt .law I x.2 xv
theorem EdAt.mono {I I' : Hp} (h : Same I I') {x : KnP × Val} {u : V} : EdAt I x u → EdAt I' x u := fun ⟨p, ka, xv, e, g, k, t⟩ => ⟨p, ka, xv, e, h _ _ g, h _ _ k, t.mono h⟩
def EndOf (ps : List (Str × Nat)) (b : Tm) (e : KnP × Val) : Prop := KnIn ps e.1 ∧ Dat e.2 ∧ ∃ w s, runE DD ps b e.1 w = .ok e.2 s
def spTold : Sp := fun vs H Q _ => ∃ I ps b tr tv, vs = [tv] ∧ HS I [] H ∧ TrAt I tr tv ∧ (∀ x ∈ nodes [] tr, NodeOk ps b x) ∧ tr.size ≤ 20000 ∧ tr.fins ≤ 500 ∧
  ∀ l us es I' H', W [] I H I' [] H' → I' l = some (.lst us) → Paired (EdAt I') es us → es.length = tr.fins → (∀ e ∈ es, EndOf ps b e) → Q (.ref l) H'
theorem TrsAt.paired {I : Hp} : ∀ {ts : List Tr} {us : List V}, TrsAt I ts us → Paired (fun t u => TrAt I t u) ts us
  | [], us, h => by rw [show us = [] from h]; exact .nil
  | _ :: _, _, ⟨_, _, e, a, b⟩ => by rw [e]; exact .cons a (TrsAt.paired b)
theorem szT_app (a b : List (KnP × Tr)) : szT (a ++ b) = szT a + szT b := by unfold szT; rw [List.map_append, sizes_app]
theorem fnT_app (a b : List (KnP × Tr)) : fnT (a ++ b) = fnT a + fnT b := by unfold fnT; rw [List.map_append, finsL_app]
theorem szT_one (x : KnP × Tr) : szT [x] = x.2.size := by show x.2.size + 0 = _; omega
theorem fnT_one (x : KnP × Tr) : fnT [x] = x.2.fins := by show x.2.fins + 0 = _; omega
theorem len_szT : ∀ (l : List (KnP × Tr)), l.length ≤ szT l
  | [] => Nat.le_refl _
  | x :: l => by
    have := len_szT l
    have h1 : 1 ≤ x.2.size := by cases x.2 <;> (unfold Tr.size; omega)
    show l.length + 1 ≤ x.2.size + szT l
    omega
theorem szT_take : ∀ (l : List (KnP × Tr)) (j : Nat), szT (l.take j) ≤ szT l
  | [], j => by rw [List.take_nil]; exact Nat.le_refl _
  | x :: l, 0 => Nat.zero_le _
  | x :: l, j + 1 => by
    have := szT_take l j
    show x.2.size + szT (l.take j) ≤ x.2.size + szT l
    omega
theorem Paired.snocInv {α β : Type} {R : α → β → Prop} {a : List α} {x : α} {c : List β} (h : Paired R (a ++ [x]) c) : ∃ c' y, c = c' ++ [y] ∧ Paired R a c' ∧ R x y := by
  induction a generalizing c with
  | nil =>
    cases h with
    | cons h t => cases t; exact ⟨[], _, rfl, .nil, h⟩
  | cons z a ih =>
    cases h with
    | cons h t =>
      obtain ⟨c', y, e, h1, h2⟩ := ih t
      exact ⟨_ :: c', y, by rw [e]; rfl, .cons h h1, h2⟩
theorem last_snoc {α : Type} {l : List α} {x : α} : (l ++ [x])[(l ++ [x]).length - 1]? = some x := by simp
theorem in23 {k : Int} (h : k = 2 ∨ k = 3) : inV (.int k) [.int 2, .int 3] = true := by rcases h with h | h <;> subst h <;> decide
abbrev N__law_told_ends : List Str := ["_law_tree", "_law_pending", "_law_found", "_law_here", "_law_known", "_law_d", "_law_branch_here"]
theorem sc__law_told_ends : FnScope N__law_told_ends ["_law_tree"] (defScope (top 102)) := fnScope_ok (by decide +kernel)
theorem ok_told_ends (D : DefAt K mg "_law_told_ends" 102) (T : Txt K mg) (c__law_with : Cl P w K mg base 1 "_law_with" (spPutT P w)) : Cl P w K mg base 2 "_law_told_ends" spTold := by
  refine cl_mk (i := 102) (N := N__law_told_ends) (ps := ["_law_tree"]) D sc__law_told_ends (fun _ _ _ _ _ _ us hl => match us, hl with | [_], _ => rfl) ?_ ?_
  · rintro vs H Q E ⟨I, ps, b, tr, tv, rfl, _⟩
    rfl
  rintro f0 cdv A outer s0 H vs Q E hr ⟨I, ps, b, tr, tv, rfl, hs, htr, hno, hsz, hfn, q⟩
  refine ⟨_, (pss_cons (ps_par (i := 1) (j := 2) rfl sc__law_told_ends.nd rfl rfl (by decide) rfl rfl (pa_cons (pe_lst (pa_cons (pe_tup (pa_cons (pv 0) (pa_cons pe_dnewT pa_nil))) pa_nil)) (pa_cons (pe_lst pa_nil) pa_nil)) (by rfl)) (pss_cons (ps_while PassesOwn.never (pt_cmpR (op_neL0 hr.units0) (pv 1) (pe_lst pa_nil) (nomark _)) (pss_cons (ps_asg (pe_bm0 PySem.F.plainAttrs_list PySem.F.slot_list_pop PySem.F.type_list_pop mt_pop (pv 1)) (pg_tup rfl (pgs_cons (pg_name (i := 3) sc__law_told_ends.nd rfl (Or.inl rfl)) (pgs_cons (pg_name (i := 4) sc__law_told_ends.nd rfl (Or.inl rfl)) pgs_nil)))) (pss_cons (ps_if (PW.pt (pw_or (pt_not (pt_val (pe_callB call_isi (by rfl) T.isinstance (by decide +kernel) (pa_cons (pv 3) (pa_cons (pe_bltn (v := .ty "tuple") (u := .type "tuple") (by rfl) T.tuple (by decide +kernel) rfl) pa_nil))))) (pw_or (pt_cmpR op_notIn_seq (pe_callB call_len_seq (by rfl) T.len (by decide +kernel) (pa_cons (pv 3) pa_nil)) (pe_tup (pa_cons pe_int (pa_cons pe_int pa_nil))) (by rfl)) (pw_or1 (pt_cmpR op_gt (pe_callB call_len_seq (by rfl) T.len (by decide +kernel) (pa_cons (pv 2) pa_nil)) pe_int (nomark _)))))) (pss_one (ps_ret pe_non)) pss_nil) (pss_one (ps_if (pt_cmpR op_eq (pe_ix ix_tup (pv 3) pe_int (fun _ _ => rfl)) pe_str (nomark _)) (pss_one (ps_expr (pe_bm PySem.F.plainAttrs_list PySem.F.slot_list_append PySem.F.type_list_append mt_append (pv 2) (pa_cons (pe_tup (pa_cons (pv 4) (pa_cons (pe_ix ix_tup (pv 3) pe_int (fun _ _ => rfl)) pa_nil))) pa_nil)))) (pss_one (ps_for PassesOwn.never rfl (pi_enumT (by rfl) T.enumerate (pa_cons (pe_ix ix_tup (pv 3) pe_int (fun _ _ => rfl)) pa_nil)) (pg_tup rfl (pgs_cons (pg_name (i := 5) sc__law_told_ends.nd rfl (Or.inl rfl)) (pgs_cons (pg_name (i := 6) sc__law_told_ends.nd rfl (Or.inl rfl)) pgs_nil))) (pss_one (ps_expr (pe_bm PySem.F.plainAttrs_list PySem.F.slot_list_append PySem.F.type_list_append mt_append (pv 1) (pa_cons (pe_tup (pa_cons (pv 6) (pa_cons (pe_cl c__law_with hr (by omega) rfl (pa_cons (pv 4) (pa_cons (pe_ix ix_tup (pv 3) pe_int (fun _ _ => rfl)) (pa_cons (pv 5) pa_nil)))) pa_nil))) pa_nil))))))))))) (pss_one (ps_ret (pv 2))))), ?_⟩
  have w0 : W [] I H I [] H := W.start hs
  refine ⟨_, rfl, fun d0 hd0 => ⟨s2, fun t0 ht0 => ⟨s1, fun pe hpe => ⟨Nat.zero_le _, fun fo hfo => ⟨_, _, rfl, ?_⟩⟩⟩⟩⟩
  have w1 := w0.newI hd0 (.dT [])
  have u1 := w0.upI hd0 (.dT [])
  have w2 := w1.newI ht0 (.tup [tv, .ref d0])
  have u2 := w1.upI ht0 (.tup [tv, .ref d0])
  have w3 := w2.newM hpe (.lst [.ref t0])
  have w4 := w3.newM hfo (.lst [])
  have hp0 : PeAt (upd (upd I d0 (.dT [])) t0 (.tup [tv, .ref d0])) ([], tr) (.ref t0) := ⟨t0, d0, tv, rfl, upd_same, htr.mono (u1.trans u2), u2 _ _ upd_same⟩
  refine ⟨fun mz σ H' => ∃ (its : List (KnP × Tr)) (us : List V) (es : List (KnP × Val)) (fs : List V) (I' : Hp) (v3 v4 v5 v6 : Option V), σ = [some tv, some (.ref pe), some (.ref fo), v3, v4, v5, v6] ∧ szT its = mz ∧
    W [] I H I' ([] ++ [(pe, .lst us), (fo, .lst fs)]) H' ∧ Paired (PeAt I') its us ∧ (∀ x ∈ its, x ∈ nodes [] tr) ∧ Paired (EdAt I') es fs ∧ es.length + fnT its = tr.fins ∧ (∀ e ∈ es, EndOf ps b e) ∧ szT its ≤ tr.size, ⟨tr.size, [([], tr)], [.ref t0], [], [], _, _, _, _, _, rfl, szT_one _, w4, .cons hp0 .nil, ?_, .nil, ?_, fun _ z => (by cases z), Nat.le_of_eq (szT_one _)⟩, ?_⟩
  · intro x hx
    rw [List.mem_singleton.mp hx]
    obtain ⟨rr, hrr⟩ := nodes_head [] tr
    rw [hrr]
    exact List.mem_cons_self
  · rw [fnT_one]
    exact Nat.zero_add _
  rintro mz σ H' ⟨its, us, es, fs, I', v3, v4, v5, v6, rfl, hmz, w5, hpa, hin, hed, hfns, heo, hszi⟩
  have hil : its.length ≤ 20000 := by have := len_szT its; omega
  have hel : es.length ≤ 500 := by omega
  have hfl := Paired.length hed
  have hul := Paired.length hpa
  refine ⟨_, rfl, Nat.zero_le _, fun n6 hn6 => ⟨pe, n6, _, rfl, rfl, SqL.of ((same_up hn6) _ _ (w5.get (i := 0) rfl)), SqL.of upd_same, _, rfl, ?_⟩⟩
  have w6 := w5.same (same_up (o := .lst []) hn6)
  rcases List.eq_nil_or_concat its with e | ⟨its', x, e⟩
  · subst e
    cases hpa
    refine bF rfl ?_
    have w7 : W [] I H I' ([] ++ [(fo, .lst fs)]) _ := w6.pick (fun p hp => by
      have hp : p = (fo, .lst fs) := by simpa using hp
      rw [hp]
      simp) (by simp)
    have w8 := W.freeze (M := []) w7 (by simp)
    have u8 := HS.noU (o' := .lst fs) w7.hs
    exact ⟨_, rfl, q fo fs es _ _ w8 upd_same (Paired.mapP hed fun x y z => z.mono u8) hfns heo⟩
  rw [List.concat_eq_append] at e
  subst e
  obtain ⟨us', u, rfl, hpa', hpx⟩ := Paired.snocInv hpa
  refine bT (by simp) ?_
  have hxin := hin x (List.mem_append_right _ List.mem_cons_self)
  obtain ⟨kn, t⟩ := x
  obtain ⟨pp, ka, xv, rfl, hpp, htx, hka⟩ := id hpx
  obtain ⟨hkn, hnode⟩ := hno _ hxin
  have hkn : KnIn ps kn := hkn
  have ht : TrAt I' t xv := htx
  have hka : I' ka = some (.dT (knPK kn)) := hka
  refine ⟨_, fun σ' H' z => z, ?_⟩
  refine ⟨_, rfl, .inl ⟨rfl, _, SqL.of (w6.get (i := 0) rfl)⟩, pe, _, .ref pp, rfl, rfl, w6.get (i := 0) rfl, last_snoc, ?_⟩
  have w7 := w6.set (i := 0) rfl (.lst (us' ++ [V.ref pp]).dropLast)
  rw [List.dropLast_concat] at w7 ⊢
  have w7 : W [] I H I' ([] ++ [(pe, .lst us'), (fo, .lst fs)]) _ := w7
  refine ⟨pp, _, rfl, SqT.of (w7.i hpp), rfl, _, _, rfl, _, _, rfl, rfl, ?_⟩
  have hszx : szT (its' ++ [(kn, t)]) = szT its' + t.size := by rw [szT_app, szT_one]
  have hfnx : fnT (its' ++ [(kn, t)]) = fnT its' + t.fins := by rw [fnT_app, fnT_one]
  cases t with
  | fin v =>
    obtain ⟨pt, xu, rfl, hpt, hv⟩ := id ht
    refine ⟨_, rfl, _, _, _, _, _, rfl, .ty _, .base (.tup (w7.i hpt)), rfl, _, rfl, iteF ?_⟩
    refine ⟨_, rfl, pt, _, rfl, .inr (SqT.of (w7.i hpt)), s2, fun t2 ht2 => ⟨t2, _, rfl, .inr (SqT.of upd_same), rfl, rfl, _, rfl, bF (by rfl) ?_⟩⟩
    have w8 := w7.newI ht2 (.tup [.int 2, .int 3])
    have u8 := w7.upI ht2 (.tup [.int 2, .int 3])
    refine ⟨_, rfl, fo, _, rfl, .inl (SqL.of (w8.get (i := 1) rfl)), _, _, rfl, rfl, _, rfl, tF (by omega) ?_⟩
    have hpt8 := u8 _ _ hpt
    have hka8 := u8 _ _ hka
    have hv8 := hv.mono u8
    have hpa8 : Paired (PeAt (upd I' t2 (.tup [.int 2, .int 3]))) its' us' := Paired.mapP hpa' fun x y z => z.mono u8
    have hed8 : Paired (EdAt (upd I' t2 (.tup [.int 2, .int 3]))) es fs := Paired.mapP hed fun x y z => z.mono u8
    refine ⟨_, rfl, pt, _, _, _, rfl, rfl, SqT.of (w8.i hpt8), rfl, rfl, _, rfl, tT rfl ?_⟩
    refine ⟨_, rfl, .inl ⟨rfl, _, SqL.of (w8.get (i := 1) rfl)⟩, _, rfl, _, rfl, pt, _, _, _, rfl, rfl, SqT.of (w8.i hpt8), rfl, s2, fun t3 ht3 => ?_⟩
    have w9 := w8.newI ht3 (.tup [.ref ka, xu])
    have u9 := w8.upI ht3 (.tup [.ref ka, xu])
    refine ⟨fo, fs, .ref t3, rfl, rfl, w9.get (i := 1) rfl, small (by omega), ?_⟩
    have w10 : W [] I H _ ([] ++ [(pe, .lst us'), (fo, .lst (fs ++ [.ref t3]))]) _ := w9.set (i := 1) rfl (.lst (fs ++ [.ref t3]))
    have hsz1 : (Tr.fin v).size = 1 := rfl
    have hfn1 : (Tr.fin v).fins = 1 := rfl
    refine ⟨szT its', by rw [← hmz, hszx]; omega, its', us', es ++ [(kn, v)], fs ++ [.ref t3], _, _, _, _, _, rfl, rfl, w10, Paired.mapP hpa8 fun x y z => z.mono u9, fun x hx => hin x (List.mem_append_left _ hx), Paired.app (Paired.mapP hed8 fun x y z => z.mono u9) (.cons ⟨t3, ka, xu, rfl, upd_same, u9 _ _ hka8, hv8.mono u9⟩ .nil), ?_, fun e he => ?_, by omega⟩
    · rw [List.length_append, List.length_singleton]
      omega
    · rcases List.mem_append.mp he with z | z
      · exact heo e z
      · rw [List.mem_singleton.mp z]
        exact ⟨hkn, hnode.1, hnode.2⟩
  | ask pl bs =>
    obtain ⟨pt, pq, pl2, bus, rfl, hpt, hpq, hpl, hbs⟩ := id ht
    obtain ⟨hgp, hlk, hb10⟩ : goodPl pl ∧ look kn pl = none ∧ bs.length ≤ 10 := hnode
    refine ⟨_, rfl, _, _, _, _, _, rfl, .ty _, .base (.tup (w7.i hpt)), rfl, _, rfl, iteF ?_⟩
    refine ⟨_, rfl, pt, _, rfl, .inr (SqT.of (w7.i hpt)), s2, fun t2 ht2 => ⟨t2, _, rfl, .inr (SqT.of upd_same), rfl, rfl, _, rfl, bF (by rfl) ?_⟩⟩
    have w8 := w7.newI ht2 (.tup [.int 2, .int 3])
    have u8 := w7.upI ht2 (.tup [.int 2, .int 3])
    refine ⟨_, rfl, fo, _, rfl, .inl (SqL.of (w8.get (i := 1) rfl)), _, _, rfl, rfl, _, rfl, tF (by omega) ?_⟩
    have hpt8 := u8 _ _ hpt
    have hpq8 := u8 _ _ hpq
    have hpl8 := u8 _ _ hpl
    have hka8 := u8 _ _ hka
    have hbs8 : TrsAt (upd I' t2 (.tup [.int 2, .int 3])) bs bus := hbs.mono u8
    have hpa8 : Paired (PeAt (upd I' t2 (.tup [.int 2, .int 3]))) its' us' := Paired.mapP hpa' fun x y z => z.mono u8
    have hed8 : Paired (EdAt (upd I' t2 (.tup [.int 2, .int 3]))) es fs := Paired.mapP hed fun x y z => z.mono u8
    refine ⟨_, rfl, pt, _, _, _, rfl, rfl, SqT.of (w8.i hpt8), rfl, rfl, _, rfl, tF (by decide +kernel) ?_⟩
    refine ⟨_, rfl, pt, _, _, _, rfl, rfl, SqT.of (w8.i hpt8), rfl, pl2, _, rfl, SqT.of (w8.i hpl8), ?_⟩
    have hbp := hbs8.paired
    have hbl := Paired.length hbp
    revert w8 hpt8 hpq8 hpl8 hka8 hbs8 hpa8 hed8 hbp
    clear u8 w7 w6 w5 hn6 hpa hed hpa' hpx hpp hka hbs hpt hpq hpl ht htx
    generalize upd I' t2 (.tup [.int 2, .int 3]) = I8
    intro w8 hpt8 hpq8 hpl8 hka8 hbs8 hpa8 hed8 hbp
    have hszk : szT (kidsT kn pl 0 bs) = sizes bs := by unfold szT; rw [kidsT_snd]
    have hfnk : fnT (kidsT kn pl 0 bs) = finsL bs := by unfold fnT; rw [kidsT_snd]
    have hsz1 : (Tr.ask pl bs).size = 1 + sizes bs := rfl
    have hfn1 : (Tr.ask pl bs).fins = finsL bs := rfl
    refine for_enumT (K := K) (a := pl2) (xs := bus) (fun j σ H' => ∃ (I9 : Hp) (vs : List V) (v5 v6 : Option V), σ = [some tv, some (.ref pe), some (.ref fo), some (.ref pt), some (.ref ka), v5, v6] ∧ W [] I H I9 ([] ++ [(pe, .lst (us' ++ vs)), (fo, .lst fs)]) H' ∧ Same I8 I9 ∧ Paired (PeAt I9) ((kidsT kn pl 0 bs).take j) vs) ⟨I8, [], _, _, rfl, by rw [List.append_nil]; exact w8, Same.refl _, .nil⟩ ?_ ?_ ?_
    · rintro j σ H' _ ⟨I9, vs, v5, v6, rfl, w9, s9, _⟩
      exact SqT.of (w9.i (s9 _ _ hpl8))
    · rintro j x σ H' Tt hx ⟨I9, vs, v5, v6, rfl, w9, s9, hvs⟩ hTt
      obtain ⟨bt, hbt, htb⟩ := Paired.get hbp hx
      have hjl := (List.getElem?_eq_some_iff.mp hx).1
      have w10 := w9.newI hTt (.tup [.int (j : Nat), x])
      have u10 := w9.upI hTt (.tup [.int (j : Nat), x])
      refine ⟨Tt, _, rfl, SqT.of (w10.i upd_same), rfl, _, _, rfl, _, _, rfl, rfl, ?_⟩
      have s10 := s9.trans u10
      refine ⟨_, rfl, .inl ⟨rfl, _, SqL.of (w10.get (i := 0) rfl)⟩, _, rfl, _, rfl, _, rfl, pt, _, _, _, rfl, rfl, SqT.of (w10.i (s10 _ _ hpt8)), rfl, _, rfl, ?_⟩
      have hvl := Paired.length hvs
      refine ⟨ka, pq, knPK kn, plK pl, .int (j : Int), rfl, w10.i (s10 _ _ hka8), w10.i (s10 _ _ hpq8), ?_, hkn.good.hash P w, fun kq hkq => ⟨s2, fun t3 ht3 => ?_⟩⟩
      · rw [knPK_len]
        have hkl : kn.length ≤ 12 := hkn.good.len
        exact small (by omega)
      have w11 := w10.newI hkq (.dT (putK (knPK kn) (plK pl) (.int (j : Int))))
      have u11 := w10.upI hkq (.dT (putK (knPK kn) (plK pl) (.int (j : Int))))
      have w12 := w11.newI ht3 (.tup [x, .ref kq])
      have u12 := w11.upI ht3 (.tup [x, .ref kq])
      refine ⟨pe, _, .ref t3, rfl, rfl, w12.get (i := 0) rfl, ?_, ?_⟩
      · rw [List.length_append]
        rw [List.length_take] at hvl
        have := Paired.length hpa8
        rw [List.length_append] at hil
        exact small (by omega)
      have ekn : putK (knPK kn) (plK pl) (.int (j : Int)) = knPK (kn ++ [(pl, (j : Int))]) := knPK_put hlk
      refine ⟨_, vs ++ [.ref t3], _, _, rfl, ?_, s10.trans (u11.trans u12), ?_⟩
      · rw [← List.append_assoc]
        exact w12.set (i := 0) rfl (.lst ((us' ++ vs) ++ [.ref t3]))
      · rw [List.take_succ, kidsT_get kn pl bs 0 j bt hbt, Nat.zero_add]
        refine Paired.app (Paired.mapP hvs fun x y z => z.mono (u10.trans (u11.trans u12))) (.cons ⟨t3, kq, x, rfl, upd_same, htb.mono (s10.trans (u11.trans u12)), u12 _ _ ?_⟩ .nil)
        rw [← ekn]
        exact upd_same
    · rintro σ H' ⟨I9, vs, v5, v6, rfl, w9, s9, hvs⟩
      rw [← hbl, ← kidsT_len kn pl bs 0, List.take_length] at hvs
      refine ⟨szT (its' ++ kidsT kn pl 0 bs), by rw [← hmz, hszx, szT_app]; omega, its' ++ kidsT kn pl 0 bs, us' ++ vs, es, fs, I9, _, _, _, _, rfl, rfl, w9, Paired.app (Paired.mapP hpa8 fun x y z => z.mono s9) hvs, fun x hx => ?_, Paired.mapP hed8 fun x y z => z.mono s9, by rw [fnT_app]; omega, heo, by rw [szT_app]; omega⟩
      rcases List.mem_append.mp hx with z | z
      · exact hin x (List.mem_append_left _ z)
      · exact kidsT_in hxin x z
end
end KW
set_option Elab.async false
set_option linter.all false
set_option maxRecDepth 100000
set_option maxHeartbeats 4000000
/-! R2: trees and values as data. -/
namespace KW
open PySem PySem.Spec PyProof.Rows L2
def vd : Val → PyData
  | .int i => .int i
  | .pair a b => .tuple [vd a, vd b]
  | _ => .none
mutual
def td : Tr → PyData
  | .fin v => .tuple [.str "end", vd v]
  | .ask pl bs => .tuple [.str "ask", .tuple [.int pl.1, .int (pl.2 : Int)], .tuple (tdL bs)]
def tdL : List Tr → List PyData
  | [] => []
  | t :: ts => td t :: tdL ts
end
theorem VAt.dp {K : PySem.W.Frag} {I : Hp} : ∀ {v : Val} {u : V}, Dat v → VAt .law I v u → Dp K I u (vd v)
  | .int i, _, _, e => by rw [show _ = V.int i from e]; exact .int i
  | .pair (.int i) (.int j), _, _, ⟨p, va, vb, e, ha, hb, g⟩ => by
    rw [e, show va = V.int i from ha, show vb = V.int j from hb] at *
    exact .tup (SqT.of g) (.cons (.int i) (.cons (.int j) .nil))
mutual
def TrDat : Tr → Prop
  | .fin v => Dat v
  | .ask pl bs => goodPl pl ∧ TrDatL bs
def TrDatL : List Tr → Prop
  | [] => True
  | t :: ts => TrDat t ∧ TrDatL ts
end
mutual
theorem TrAt.dp {K : PySem.W.Frag} {I : Hp} : ∀ {t : Tr} {u : V}, TrDat t → TrAt I t u → Dp K I u (td t)
  | .fin v, _, h, ⟨p, u, e, g, hv⟩ => by
    rw [e]
    exact .tup (SqT.of g) (.cons (.str _) (.cons (hv.dp h) .nil))
  | .ask pl bs, _, h, ⟨p, q, l, us, e, g1, g2, g3, hb⟩ => by
    rw [e]
    exact .tup (SqT.of g1) (.cons (.str _) (.cons (.tup (SqT.of g2) (.cons (.int _) (.cons (.int _) .nil))) (.cons (.tup (SqT.of g3) (TrsAt.dp h.2 hb)) .nil)))
theorem TrsAt.dp {K : PySem.W.Frag} {I : Hp} : ∀ {ts : List Tr} {us : List V}, TrDatL ts → TrsAt I ts us → DpAll K I us (tdL ts)
  | [], _, _, e => by rw [show _ = [] from e]; exact .nil
  | _ :: _, _, h, ⟨u, r, e, a, b⟩ => by
    rw [e]
    exact .cons (TrAt.dp h.1 a) (TrsAt.dp h.2 b)
end
/-- how deep it is, how large, its leaves -/
structure PdOk (n m : Nat) (d : PyData) : Prop where
  sh : d.showable = true
  nd : d.hasDict = false
  dp : d.depth ≤ n
  lv : d.leavesShort 20 = true
  bu : d.bulk ≤ m
structure PdsOk (n m : Nat) (d : List PyData) : Prop where
  sh : PyData.showableAll d = true
  nd : PyData.hasDictAll d = false
  dp : PyData.depthAll d ≤ n
  lv : PyData.leavesShortAll 20 d = true
  bu : PyData.bulkAll d ≤ m
theorem PdsOk.nil (n m : Nat) : PdsOk n m [] := ⟨rfl, rfl, Nat.zero_le _, rfl, Nat.zero_le _⟩
theorem PdsOk.cons {n m1 m2 m : Nat} {d : PyData} {ds : List PyData} (h : PdOk n m1 d) (hs : PdsOk n m2 ds) (hm : m1 + 1 + m2 ≤ m) : PdsOk n m (d :: ds) := by
  refine ⟨?_, ?_, ?_, ?_, ?_⟩
  · simp only [PyData.showableAll, h.sh, hs.sh, Bool.and_self]
  · simp only [PyData.hasDictAll, h.nd, hs.nd, Bool.or_self]
  · have := h.dp; have := hs.dp
    simp only [PyData.depthAll]
    omega
  · simp only [PyData.leavesShortAll, h.lv, hs.lv, Bool.and_self]
  · have := h.bu; have := hs.bu
    simp only [PyData.bulkAll]
    omega
theorem PdsOk.tup {n m : Nat} {ds : List PyData} (h : PdsOk n m ds) : PdOk (n + 1) m (.tuple ds) := by
  refine ⟨by simpa only [PyData.showable] using h.sh, by simpa only [PyData.hasDict] using h.nd, ?_, by simpa only [PyData.leavesShort] using h.lv, by simpa only [PyData.bulk] using h.bu⟩
  simp only [PyData.depth]
  exact Nat.succ_le_succ h.dp
theorem PdsOk.lst {n m : Nat} {ds : List PyData} (h : PdsOk n m ds) : PdOk (n + 1) m (.list ds) := by
  refine ⟨by simpa only [PyData.showable] using h.sh, by simpa only [PyData.hasDict] using h.nd, ?_, by simpa only [PyData.leavesShort] using h.lv, by simpa only [PyData.bulk] using h.bu⟩
  simp only [PyData.depth]
  exact Nat.succ_le_succ h.dp
theorem PdOk.up {n n' m m' : Nat} {d : PyData} (h : PdOk n m d) (a : n ≤ n') (b : m ≤ m') : PdOk n' m' d := ⟨h.sh, h.nd, Nat.le_trans h.dp a, h.lv, Nat.le_trans h.bu b⟩
theorem int_len {i : Int} (h : IntB i) : (PyData.shown (.int i)).length ≤ 20 := by
  obtain ⟨h0, h1⟩ := h
  obtain ⟨n, rfl⟩ := Int.eq_ofNat_of_zero_le h0
  rw [PyData.shown_int]
  have e : (Str.ofString (toString ((n : Nat) : Int))).length = (TL.tl (Str.ofString (toString ((n : Nat) : Int)))).length := by
    show _ = (Array.toList _).length
    rw [Array.length_toList]
    rfl
  show (Str.ofString (toString ((n : Nat) : Int))).length ≤ 20
  rw [e, TL.tl_num]
  refine TL.numL_len (by decide) ?_
  have : (n : Int) ≤ 999999999999999999 := h1
  have e20 : (10 : Nat) ^ 20 = 100000000000000000000 := by decide
  omega
theorem PdOk.int {i : Int} (h : IntB i) : PdOk 0 0 (.int i) := by
  refine ⟨?_, rfl, Nat.le_refl _, ?_, Nat.le_refl _⟩
  · obtain ⟨h0, h1⟩ := h
    have h1 : i ≤ 999999999999999999 := h1
    simp only [PyData.showable, decide_eq_true_eq]
    exact Nat.lt_of_lt_of_le (PySem.Flt.log2_lt_of (k := 60) (by decide) (by
      have e : (2 : Nat) ^ 60 = 1152921504606846976 := by decide
      omega)) (by decide)
  · simp only [PyData.leavesShort, decide_eq_true_eq]
    exact int_len h
theorem PdOk.word {x : Str} {n : Nat} (h : (x.cps.toList.all fun c => decide (c < 16 ^ 8)) = true) (hn : x.cps.size ≤ n) : PdOk 0 n (.str x) := ⟨rfl, rfl, Nat.le_refl _, by simpa only [PyData.leavesShort] using h, by simpa only [PyData.bulk] using hn⟩
theorem PdOk.bool (b : Bool) : PdOk 0 0 (.bool b) := ⟨rfl, rfl, Nat.le_refl _, rfl, Nat.le_refl _⟩
theorem Dat.pd : ∀ {v : Val}, Dat v → PdOk 1 2 (vd v)
  | .int i, h => (PdOk.int h).up (Nat.zero_le _) (Nat.zero_le _)
  | .pair (.int i) (.int j), h => PdsOk.tup (PdsOk.cons (m := 2) (PdOk.int h.1) (PdsOk.cons (m := 1) (PdOk.int h.2) (PdsOk.nil 0 0) (by decide)) (by decide))
theorem intB_small {n : Nat} (h : n ≤ 1000000) : IntB (n : Int) := ⟨by omega, by unfold TOP; omega⟩
mutual
def Tr.ht : Tr → Nat
  | .fin _ => 0
  | .ask _ bs => 1 + htL bs
def htL : List Tr → Nat
  | [] => 0
  | t :: ts => max t.ht (htL ts)
end
theorem pos_str_end : PdOk 0 3 (.str "end") := PdOk.word (by decide +kernel) (by decide +kernel)
theorem pos_str_ask : PdOk 0 3 (.str "ask") := PdOk.word (by decide +kernel) (by decide +kernel)
theorem PdOk.n {n m : Nat} {d : PyData} (h : PdOk 0 m d) : PdOk n m d := h.up (Nat.zero_le _) (Nat.le_refl _)
theorem Tr.size_pos (t : Tr) : 1 ≤ t.size := by cases t <;> (unfold Tr.size; omega)
mutual
theorem TrDat.pd : ∀ {t : Tr}, TrDat t → PdOk (2 * t.ht + 2) (12 * t.size - 1) (td t)
  | .fin v, h => by
    have h3 := PdsOk.tup (PdsOk.cons (m := 7) (pos_str_end.n (n := 1)) (PdsOk.cons (m := 3) (Dat.pd h) (PdsOk.nil 1 0) (by decide)) (by decide))
    exact h3.up (Nat.le_refl _) (by show 7 ≤ 12 * 1 - 1; decide)
  | .ask pl bs, h => by
    have hb := TrDatL.pd h.2
    have h1 : (Tr.ask pl bs).ht = 1 + htL bs := by unfold Tr.ht; rfl
    have h2 : (Tr.ask pl bs).size = 1 + sizes bs := rfl
    have gi : IntB pl.1 := ⟨h.1.1, by have := h.1.2.1; unfold TOP; omega⟩
    have gk : IntB (pl.2 : Int) := intB_small (by have := h.1.2.2; omega)
    have hp : PdOk 1 2 (.tuple [.int pl.1, .int (pl.2 : Int)]) := PdsOk.tup (PdsOk.cons (m := 2) (PdOk.int gi) (PdsOk.cons (m := 1) (PdOk.int gk) (PdsOk.nil 0 0) (by decide)) (by decide))
    have h3 := PdsOk.tup (PdsOk.cons (m := 12 * sizes bs + 8) (pos_str_ask.n (n := 2 * htL bs + 3)) (PdsOk.cons (m := 12 * sizes bs + 4) (hp.up (by omega) (Nat.le_refl _)) (PdsOk.cons (m := 12 * sizes bs + 1) hb.tup (PdsOk.nil _ 0) (by omega)) (by omega)) (by omega))
    exact h3.up (by omega) (by omega)
theorem TrDatL.pd : ∀ {ts : List Tr}, TrDatL ts → PdsOk (2 * htL ts + 2) (12 * sizes ts) (tdL ts)
  | [], _ => PdsOk.nil _ _
  | t :: ts, h => by
    have a := TrDat.pd h.1
    have b := TrDatL.pd h.2
    have h1 : htL (t :: ts) = max t.ht (htL ts) := rfl
    have h2 : sizes (t :: ts) = t.size + sizes ts := rfl
    have h3 := t.size_pos
    exact PdsOk.cons (a.up (by omega) (Nat.le_refl _)) ⟨b.sh, b.nd, Nat.le_trans b.dp (by omega), b.lv, b.bu⟩ (by omega)
end
/-- from the nodes: the data of a tree, its height -/
theorem nodes_dat {ps : List (Str × Nat)} {b : Tm} : ∀ (t : Tr) (kn : KnP), (∀ x ∈ nodes kn t, NodeOk ps b x) → TrDat t ∧ kn.length + t.ht ≤ 12 := by
  suffices h : (∀ (t : Tr) (kn : KnP), (∀ x ∈ nodes kn t, NodeOk ps b x) → TrDat t ∧ kn.length + t.ht ≤ 12) ∧ (∀ (ts : List Tr) (kn : KnP) (pl : Pl) (d : Nat), kn.length ≤ 11 ∨ ts = [] → (∀ x ∈ nodesL kn pl d ts, NodeOk ps b x) → TrDatL ts ∧ (ts = [] ∨ kn.length + 1 + htL ts ≤ 12)) from h.1
  have key : ∀ (n : Nat), (∀ (t : Tr) (kn : KnP), t.size ≤ n → (∀ x ∈ nodes kn t, NodeOk ps b x) → TrDat t ∧ kn.length + t.ht ≤ 12) ∧ (∀ (ts : List Tr) (kn : KnP) (pl : Pl) (d : Nat), sizes ts ≤ n → (∀ x ∈ nodesL kn pl d ts, NodeOk ps b x) → TrDatL ts ∧ (ts = [] ∨ kn.length + 1 + htL ts ≤ 12)) := fun n => by
    induction n with
    | zero =>
      refine ⟨fun t kn h => absurd t.size_pos (by omega), fun ts kn pl d h hn => ?_⟩
      cases ts with
      | nil => exact ⟨trivial, .inl rfl⟩
      | cons t ts =>
        have h2 : sizes (t :: ts) = t.size + sizes ts := rfl
        have := t.size_pos
        omega
    | succ n ih =>
      have one : ∀ (t : Tr) (kn : KnP), t.size ≤ n + 1 → (∀ x ∈ nodes kn t, NodeOk ps b x) → TrDat t ∧ kn.length + t.ht ≤ 12 := fun t kn h hn => by
        cases t with
        | fin v =>
          have h0 := hn (kn, .fin v) (show _ ∈ [(kn, Tr.fin v)] from List.mem_cons_self)
          exact ⟨h0.2.1, h0.1.good.len⟩
        | ask pl bs =>
          have h2 : (Tr.ask pl bs).size = 1 + sizes bs := rfl
          have h3 : (Tr.ask pl bs).ht = 1 + htL bs := by unfold Tr.ht; rfl
          have h0 := hn (kn, .ask pl bs) (show _ ∈ (kn, Tr.ask pl bs) :: nodesL kn pl 0 bs from List.mem_cons_self)
          obtain ⟨g1, g2⟩ := ih.2 bs kn pl 0 (by omega) fun x hx => hn x (show _ ∈ (kn, Tr.ask pl bs) :: nodesL kn pl 0 bs from List.mem_cons_of_mem _ hx)
          refine ⟨⟨h0.2.1, g1⟩, ?_⟩
          rcases g2 with e | g2
          · subst e
            have h4 : htL [] = 0 := by unfold htL; rfl
            have hk : (kn ++ [(pl, (0 : Int))]).length ≤ 12 := (h0.1.good.snoc h0.2.1 h0.2.2.1).len
            rw [List.length_append, List.length_singleton] at hk
            omega
          · omega
      refine ⟨one, fun ts kn pl d h hn => ?_⟩
      cases ts with
      | nil => exact ⟨trivial, .inl rfl⟩
      | cons t ts =>
        have h2 : sizes (t :: ts) = t.size + sizes ts := rfl
        have h3 : htL (t :: ts) = max t.ht (htL ts) := rfl
        have hp := t.size_pos
        obtain ⟨a1, a2⟩ := one t (kn ++ [(pl, (d : Int))]) (by omega) fun x hx => hn x (show _ ∈ nodes (kn ++ [(pl, (d : Int))]) t ++ nodesL kn pl (d + 1) ts from List.mem_append_left _ hx)
        obtain ⟨b1, b2⟩ := ih.2 ts kn pl (d + 1) (by omega) fun x hx => hn x (show _ ∈ nodes (kn ++ [(pl, (d : Int))]) t ++ nodesL kn pl (d + 1) ts from List.mem_append_right _ hx)
        rw [List.length_append, List.length_singleton] at a2
        refine ⟨⟨a1, b1⟩, .inr ?_⟩
        rcases b2 with e | b2
        · subst e
          have h4 : htL [] = 0 := by unfold htL; rfl
          omega
        · omega
  refine ⟨fun t kn => (key t.size).1 t kn (Nat.le_refl _), fun ts kn pl d _ => (key (sizes ts)).2 ts kn pl d (Nat.le_refl _)⟩
theorem PdOk.fits {n m : Nat} {d : PyData} (h : PdOk n m d) (hm : m ≤ 700000) : d.shown.length ≤ sizeLine := by
  have a := PyData.shown_le_bulk 20 (by decide) d h.lv
  have b := h.bu
  have e : sizeLine = 16777216 := sizeLine_eq
  omega
section
variable {X : Cx}
/-- x is False, of None and bools -/
def rIsF : R2 := fun x y H Q => (x = .non ∨ x = .bl true) ∧ y = .bl false ∧ Q (.bl false) H
theorem op_isF : OpR X (compareOp .Is) rIsF := by
  intro pins s σ H x y v u Q I rx ry h
  obtain ⟨hx, rfl, q⟩ := h
  cases (show u = Value.bool false from ry)
  rcases hx with rfl | rfl
  · cases (show v = Value.none from rx)
    exact wpAny_is_other rfl (fun z => nomatch z) ⟨.bl false, H, I, rfl, q⟩
  · cases (show v = Value.bool true from rx)
    exact wpAny_is_other rfl (fun z => nomatch z) ⟨.bl false, H, I, rfl, q⟩
end
end KW
set_option Elab.async false
set_option linter.all false
set_option maxRecDepth 100000
set_option maxHeartbeats 4000000
/-! E1: a value everywhere; a program told right; the law. -/
namespace KW
open PySem PySem.Spec PyProof.Rows L2 
section
variable {P : Program} {w : World} {K : PySem.W.Frag} {mg : Str → Option Value} {base : Heap}

theorem hu64 {A : Around} {k : Nat} (hr : Room k A) : A.units + 64 < cLine := hr.units
theorem Dat.val {I : Hp} {v : Val} {u : V} (h : Dat v) (g : VAt .law I v u) : (∃ i, u = .int i) ∨ ∃ a, u = .ref a := by
  cases v with
  | int i => exact .inl ⟨i, g⟩
  | pair a b => obtain ⟨p, va, vb, e, _⟩ := g; exact .inr ⟨p, e⟩
  | _ => exact h.elim
def spEvery : Sp := fun vs H Q _ => ∃ I ps b gv ka kn vv v, vs = [gv, .ref ka, vv, .int 3000] ∧ HS I [] H ∧ PrAt I ps b gv ∧ notFn b ∧ ps.length ≤ 10 ∧ I ka = some (.dT (knPK kn)) ∧ VAt .law I v vv ∧ Dat v ∧ (∃ w s, runE DD ps b kn w = .ok v s) ∧
  ∀ r I' H', W [] I H I' [] H' → (r = .non ∨ r = .bl true) → Q r H'
theorem sh_non : SeqAt.shaped .none = true := by
  unfold SeqAt.shaped
  simp [PyData.depth, PyData.canLay0]
theorem eqv_non_long : PyData.eqv .none (.tuple [.str "long"]) = false := by simp [PyData.eqv]
abbrev N__law_everywhere : List Str := ["_law_program_here", "_law_known", "_law_value", "_law_most", "_law_pending", "_law_sizes_here", "_law_steps", "_law_here", "_law_run_here", "_law_place", "_law_d"]
theorem sc__law_everywhere : FnScope N__law_everywhere ["_law_program_here", "_law_known", "_law_value", "_law_most"] (defScope (top 101)) := fnScope_ok (by decide +kernel)
theorem ok_everywhere {k : Nat} (D : DefAt K mg "_law_everywhere" 101) (T : Txt K mg) (c__law_with : Cl P w K mg base 1 "_law_with" (spPutT P w)) (c__law_sizes : Cl P w K mg base 1 "_law_sizes" spSizes) (c__law_run : Cl P w K mg base (k + 1) "_law_run" (spRunL DD)) : ClG P w K mg base (k + 2) "_law_everywhere" spEvery := by
  refine cl_mkG (i := 101) (N := N__law_everywhere) (ps := ["_law_program_here", "_law_known", "_law_value", "_law_most"]) D sc__law_everywhere (fun _ _ _ _ _ _ us hl => match us, hl with | [_, _, _, _], _ => rfl) ?_ ?_
  · rintro vs H Q E ⟨I, ps, b, gv, ka, kn, vv, v, rfl, _⟩
    rfl
  rintro f0 cdv A outer s0 H vs Q E hr hgd ⟨I, ps, b, gv, ka, kn, vv, v, rfl, hs, hpr, hnf, hpl, hka, hvv, hdv, ⟨w0', s0', hrun⟩, q⟩
  refine ⟨_, (pss_cons (ps_par3 (i := 4) (j := 5) (l := 6) rfl sc__law_everywhere.nd rfl rfl rfl (by decide) (by decide) (by decide) rfl rfl rfl (pa_cons (pe_lst (pa_cons (pv 1) pa_nil)) (pa_cons (pe_cl c__law_sizes hr (by omega) rfl (pa_cons (pv 0) pa_nil)) (pa_cons pe_int pa_nil))) (by rfl)) (pss_cons (ps_while PassesOwn.never (pt_cmpR (op_neL0 hr.units0) (pv 4) (pe_lst pa_nil) (nomark _)) (pss_cons (ps_set (i := 7) sc__law_everywhere.nd rfl (Or.inr rfl) (pe_bm0 PySem.F.plainAttrs_list PySem.F.slot_list_pop PySem.F.type_list_pop mt_pop (pv 4))) (pss_cons (ps_set (i := 8) sc__law_everywhere.nd rfl (Or.inl rfl) (pe_cl c__law_run hr (by omega) rfl (pa_cons (pv 0) (pa_cons (pv 7) (pa_cons pe_non (pa_cons (pe_op op_sub (pv 3) (pv 6)) pa_nil)))))) (pss_cons (ps_set (i := 6) sc__law_everywhere.nd rfl (Or.inl rfl) (pe_op op_add (pv 6) (pe_dget (hu_of hr) (pv 8) pe_str (fun _ _ => rfl)))) (pss_cons (ps_if (pt_cmpR (op_eqD hr.units) (pe_dget (hu_of hr) (pv 8) pe_str (fun _ _ => rfl)) (pe_tup (pa_cons pe_str pa_nil)) (nomark _)) (pss_one (ps_ret pe_non)) pss_nil) (pss_one (ps_if (pt_cmpR op_isN (pe_dget (hu_of hr) (pv 8) pe_str (fun _ _ => rfl)) pe_non (nomark _)) (pss_one (ps_if (pt_cmpR op_ne (pe_callB (call_reprD hgd (hu64 hr)) (by rfl) T.repr (by decide +kernel) (pa_cons (pe_dget (hu_of hr) (pv 8) pe_str (fun _ _ => rfl)) pa_nil)) (pe_callB (call_reprD hgd (hu64 hr)) (by rfl) T.repr (by decide +kernel) (pa_cons (pv 2) pa_nil)) (nomark _)) (pss_one (ps_ret pe_bl)) pss_nil)) (pss_cons (ps_set (i := 9) sc__law_everywhere.nd rfl (Or.inr rfl) (pe_ix ix_tup (pe_dget (hu_of hr) (pv 8) pe_str (fun _ _ => rfl)) pe_int (fun _ _ => rfl))) (pss_one (ps_set (i := 4) sc__law_everywhere.nd rfl (Or.inl rfl) (pe_op op_cat (pv 4) (pe_lc (own := [("_law_d", 10)]) rfl sc__law_everywhere.nd (pi_range1 rfl T.range (pa_cons (pe_ix ix_list (pv 5) (pe_ix ix_tup (pv 9) pe_int (fun _ _ => rfl)) (fun _ _ => rfl)) pa_nil)) (blkOk_by (N := N__law_everywhere) (sc := defScope (top 101)) (by decide +kernel)) (fun _ _ _ _ _ => (pg_name (i := 10) sc__law_everywhere.nd rfl (Or.inl rfl))) (fun _ _ _ _ _ => pts_nil) (fun _ _ _ _ _ => (pe_cl c__law_with hr (by omega) rfl (pa_cons (pv 7) (pa_cons (pv 9) (pa_cons (pv 10) pa_nil))))))))))))))))) (pss_one (ps_ret pe_bl)))), ?_⟩
  have w0 : W [] I H I [] H := W.start hs
  refine ⟨_, rfl, s1, fun pe hpe => ?_⟩
  have w1 := w0.newM hpe (.lst [.ref ka])
  refine ⟨_, rfl, ps, b, gv, rfl, hpr.mono w1.hs.sub, hnf, hpl, fun sa hsa => ?_⟩
  have w2 := w1.newI hsa (.lst (ps.map fun e => .int (e.2 : Nat)))
  have u2 := w1.upI hsa (.lst (ps.map fun e => .int (e.2 : Nat)))
  refine ⟨_, _, _, rfl, ?_⟩
  have hev : ev 3000 kn DD b (envG ps 0 .nil) nogk ⟨0, 0⟩ = .ok v s0' ∨ (ev 3000 kn DD b (envG ps 0 .nil) nogk ⟨0, 0⟩).long := by
    have h := ev_other (m1 := 6000 - w0') (m2 := 3000) (kn := kn) (d := DD) (t := b) (env := envG ps 0 .nil) (gk := nogk) (s := ⟨0, 0⟩) (by
      have e : ev (6000 - w0') kn DD b (envG ps 0 .nil) nogk ⟨0, 0⟩ = .ok v s0' := hrun
      rw [e]
      rintro ⟨s', z⟩
      cases z)
    have e : ev (6000 - w0') kn DD b (envG ps 0 .nil) nogk ⟨0, 0⟩ = .ok v s0' := hrun
    rw [e] at h
    exact h
  refine ⟨fun n σ H' => ∃ (I' : Hp) (us : List V) (st : Int) (v7 v8 v9 v10 : Option V), σ = [some gv, some (.ref ka), some vv, some (.int 3000), some (.ref pe), some (.ref sa), some (.int st), v7, v8, v9, v10] ∧ W [] I H I' ([] ++ [(pe, .lst us)]) H' ∧ n = us.length ∧ (us = [] ∨ (us = [.ref ka] ∧ st = 0)), ⟨1, _, [.ref ka], 0, _, _, _, _, rfl, w2, rfl, .inr ⟨rfl, rfl⟩⟩, ?_⟩
  rintro n σ H' ⟨I', us, st, v7, v8, v9, v10, rfl, w3, rfl, hus⟩
  refine ⟨_, rfl, Nat.zero_le _, fun n6 hn6 => ⟨pe, n6, _, rfl, rfl, SqL.of ((same_up hn6) _ _ (w3.get (i := 0) rfl)), SqL.of upd_same, _, rfl, ?_⟩⟩
  have w4 := w3.same (same_up (o := .lst []) hn6)
  rcases hus with rfl | ⟨rfl, rfl⟩
  · refine bF rfl ?_
    have w5 := W.drop (M1 := []) w4 (by simp)
    exact q _ _ _ w5 (.inr rfl)
  refine bT rfl ?_
  refine ⟨_, fun σ' H' z => z, ?_⟩
  refine ⟨_, rfl, .inl ⟨rfl, _, SqL.of (w4.get (i := 0) rfl)⟩, pe, _, .ref ka, rfl, rfl, w4.get (i := 0) rfl, rfl, ?_⟩
  have w5 : W [] I H I' ([] ++ [(pe, .lst [])]) _ := w4.set (i := 0) rfl (.lst [])
  refine ⟨_, rfl, _, rfl, _, rfl, _, rfl, _, _, rfl, rfl, ?_⟩
  have hka' := w5.st.same _ _ hka
  have hpr' := hpr.mono w5.st.same
  refine ⟨I', ka, kn, ps, b, gv, 3000, rfl, w5.hs.left0, hka', hpr', hnf, hpl, by decide, ?_⟩
  rcases hev with hev | ⟨s9, hev⟩
  · rw [hev]
    rintro r u I6 H6 st6 hs6 ⟨rkv, hr1, hr2, hr3, hr4⟩ hv sm
    have w6 : W [] I H I6 ([] ++ [(pe, .lst [])]) H6 := W.call (M1 := []) (M1' := []) w5 st6 hs6 rfl
    refine ⟨_, rfl, _, rfl, r, _, rfl, DG (w6.i hr1) hr3, _, _, rfl, rfl, ?_⟩
    refine ⟨_, rfl, r, _, rfl, DG (w6.i hr1) hr2, s1, fun t ht => ?_⟩
    have w7 := w6.newI ht (.tup [SS "long"])
    have u7 := w6.upI ht (.tup [SS "long"])
    refine ⟨.none, .tuple [.str "long"], .non, .tup (SqT.of upd_same) (.cons (.str _) .nil), sh_non, sh_str1, _, rfl, bF eqv_non_long ?_⟩
    refine ⟨_, rfl, r, _, rfl, DG (w7.i (u7 _ _ hr1)) hr2, rfl, _, rfl, tT rfl ?_⟩
    have pd := hdv.pd
    have hv7 := hv.mono u7
    have hvv7 := hvv.mono (w6.st.same.trans u7)
    refine ⟨_, rfl, r, _, rfl, DG (w7.i (u7 _ _ hr1)) hr4, u, vd v, rfl, (hv7.mono w7.hs.sub).dp hdv, pd.sh, pd.nd, pd.fits (by decide), Nat.le_trans pd.dp (by decide), hdv.val hv7, ?_⟩
    refine ⟨_, rfl, vv, vd v, rfl, (hvv7.mono w7.hs.sub).dp hdv, pd.sh, pd.nd, pd.fits (by decide), Nat.le_trans pd.dp (by decide), hdv.val hvv7, ?_⟩
    refine ⟨rfl, _, rfl, nF rfl ?_⟩
    exact ⟨0, (by show 0 < 1; decide), _, [], _, _, _, _, _, rfl, w7, rfl, .inl rfl⟩
  · rw [hev]
    rintro r x I6 H6 st6 hs6 ⟨rkv, hr1, hr2, hr3, hr4⟩ hx sm
    have w6 : W [] I H I6 ([] ++ [(pe, .lst [])]) H6 := W.call (M1 := []) (M1' := []) w5 st6 hs6 rfl
    obtain ⟨py, rfl, hpx⟩ := id hx
    refine ⟨_, rfl, _, rfl, r, _, rfl, DG (w6.i hr1) hr3, _, _, rfl, rfl, ?_⟩
    refine ⟨_, rfl, r, _, rfl, DG (w6.i hr1) hr2, s1, fun t ht => ?_⟩
    have w7 := w6.newI ht (.tup [SS "long"])
    have u7 := w6.upI ht (.tup [SS "long"])
    refine ⟨.tuple [.str "long"], .tuple [.str "long"], .tup (SqT.of (w7.i (u7 _ _ hpx))) (.cons (.str _) .nil), .tup (SqT.of upd_same) (.cons (.str _) .nil), sh_str1, sh_str1, _, rfl, bT eqv_long1 ?_⟩
    have w8 := W.drop (M1 := []) w7 (by simp)
    exact q _ _ _ w8 (.inl rfl)

def spRight : Sp := fun vs H Q _ => ∃ I ps b gv, vs = [gv] ∧ HS I [] H ∧ PrAt I ps b gv ∧ notFn b ∧ PrOk ps b ∧ ∀ I' H', W [] I H I' [] H' → Q (.bl true) H'
theorem Dat.vdat : ∀ {v : Val}, Dat v → VDat 1 v
  | .int _, _ => trivial
  | .pair (.int _) (.int _), _ => ⟨trivial, trivial⟩
abbrev N__law_program_right : List Str := ["_law_program_here", "_law_own", "_law_told", "_law_ends", "_law_known", "_law_value"]
theorem sc__law_program_right : FnScope N__law_program_right ["_law_program_here"] (defScope (top 103)) := fnScope_ok (by decide +kernel)
theorem ok_right {k : Nat} (D : DefAt K mg "_law_program_right" 103) (T : Txt K mg) (c__law_ways : Cl P w K mg base (k + 2) "_law_ways" (spWays DD 13)) (c_ways : Cl P w K mg base 10 "ways" (spWaysP DD)) (c_work : Cl P w K mg base 10 "work" (spWork DD)) (c_is_small : Cl P w K mg base 10 "is_small" (spSmall DD))
    (c__law_told_ends : Cl P w K mg base 2 "_law_told_ends" spTold) (c__law_everywhere : ClG P w K mg base (k + 2) "_law_everywhere" spEvery) (hk : 10 ≤ k) : ClG P w K mg base (k + 3) "_law_program_right" spRight := by
  refine cl_mkG (i := 103) (N := N__law_program_right) (ps := ["_law_program_here"]) D sc__law_program_right (fun _ _ _ _ _ _ us hl => match us, hl with | [_], _ => rfl) ?_ ?_
  · rintro vs H Q E ⟨I, ps, b, gv, rfl, _⟩
    rfl
  rintro f0 cdv A outer s0 H vs Q E hr hgd ⟨I, ps, b, gv, rfl, hs, hpr, hnf, hok, q⟩
  refine ⟨_, (pss_cons (ps_set (i := 1) sc__law_program_right.nd rfl (Or.inl rfl) (pe_cl c__law_ways hr (by omega) rfl (pa_cons (pv 0) (pa_cons pe_int pa_nil)))) (pss_cons (ps_if (pt_cmpR op_isN (pv 1) pe_non (nomark _)) (pss_one (ps_ret pe_bl)) pss_nil) (pss_cons (ps_set (i := 2) sc__law_program_right.nd rfl (Or.inl rfl) (pe_cl c_ways hr (by omega) rfl (pa_cons (pv 0) pa_nil))) (pss_cons (ps_if (pt_cmpR op_ne (pe_callB (call_reprD hgd (hu64 hr)) (by rfl) T.repr (by decide +kernel) (pa_cons (pe_lst (pa_cons (pv 2) (pa_cons (pe_cl c_work hr (by omega) rfl (pa_cons (pv 0) pa_nil)) (pa_cons (pe_cl c_is_small hr (by omega) rfl (pa_cons (pv 0) pa_nil)) pa_nil)))) pa_nil)) (pe_callB (call_reprD hgd (hu64 hr)) (by rfl) T.repr (by decide +kernel) (pa_cons (pe_lst (pa_cons (pe_dget (hu_of hr) (pv 1) pe_str (fun _ _ => rfl)) (pa_cons (pe_tup (pa_cons (pe_dget (hu_of hr) (pv 1) pe_str (fun _ _ => rfl)) (pa_cons (pe_callB call_len_seq (by rfl) T.len (by decide +kernel) (pa_cons (pe_dget (hu_of hr) (pv 1) pe_str (fun _ _ => rfl)) pa_nil)) pa_nil))) (pa_cons pe_bl pa_nil)))) pa_nil)) (nomark _)) (pss_one (ps_ret pe_bl)) pss_nil) (pss_cons (ps_set (i := 3) sc__law_program_right.nd rfl (Or.inl rfl) (pe_cl c__law_told_ends hr (by omega) rfl (pa_cons (pv 2) pa_nil))) (pss_cons (ps_for PassesOwn.never rfl (pi_list (pe_slice sl_list (pv 3) po_none (po_some pe_int))) (pg_tup rfl (pgs_cons (pg_name (i := 4) sc__law_program_right.nd rfl (Or.inl rfl)) (pgs_cons (pg_name (i := 5) sc__law_program_right.nd rfl (Or.inl rfl)) pgs_nil))) (pss_one (ps_if (pt_cmpR op_isF (pe_clG c__law_everywhere hgd hr (by omega) rfl (pa_cons (pv 0) (pa_cons (pv 4) (pa_cons (pv 5) (pa_cons pe_int pa_nil))))) pe_bl (nomark _)) (pss_one (ps_ret pe_bl)) pss_nil))) (pss_one (ps_ret (pe_cmpR op_eq (pe_callB call_len_seq (by rfl) T.len (by decide +kernel) (pa_cons (pv 3) pa_nil)) (pe_callB call_len_seq (by rfl) T.len (by decide +kernel) (pa_cons (pe_dget (hu_of hr) (pv 1) pe_str (fun _ _ => rfl)) pa_nil)) (nomark _)))))))))), ?_⟩
  have w0 : W [] I H I [] H := W.start hs
  have hpl : ps.length ≤ 10 := by have := hok.n3; omega
  refine ⟨_, rfl, I, ps, b, gv, rfl, hs, hpr, hnf, hpl, ?_⟩
  cases hb : br (runE DD ps b) (ps.map (·.2)) 13 [] 0 0 with
  | die => exact absurd hb (br_alive hok 13 [] 0 0 (KnIn.nil ps) (by decide))
  | no =>
    rintro I1 H1 st1 hs1
    have w1 : W [] I H I1 [] H1 := w0.call0 st1 hs1 rfl
    exact ⟨_, rfl, rfl, _, rfl, tT rfl (q _ _ w1)⟩
  | ok tr wf nf =>
    rintro fa I1 H1 st1 hs1 ⟨kvs, la, us, u, hfa, ht, hw, he, hla, rfl, htr⟩ hw6 hn5
    have w1 : W [] I H I1 [] H1 := w0.call0 st1 hs1 rfl
    have hbrk := br_rel _ _ _ _ _ _ _ hb
    obtain ⟨b1, b2, b3, b4⟩ := Brk.bounds hok hbrk (KnIn.nil ps) (Nat.zero_le _) (Nat.zero_le _)
    have hno := Brk.nodeOk hok hbrk (KnIn.nil ps)
    have hfins := Brk.fins hbrk
    have hsz : tr.size ≤ 20000 := by omega
    obtain ⟨hdat, hht⟩ := nodes_dat tr [] hno
    have hht : tr.ht ≤ 12 := by rw [List.length_nil] at hht; omega
    have gp : ∀ {I' H' : Hp}, W [] I H I' [] H' → GPre DD I' H' ps b gv tr wf us.length := fun w' => ⟨w'.hs, hpr.mono w'.st.same, hnf, hpl, hbrk, hw6, hn5, hsz, fun kn v hm => (Brk.leaf hok hbrk (KnIn.nil ps) kn v hm).2.1.vdat⟩
    refine ⟨_, rfl, rfl, _, rfl, tF (by intro z; cases z) ?_⟩
    refine ⟨_, rfl, I1, ps, b, gv, tr, wf, us.length, rfl, gp w1, fun ut I2 H2 v2 htr2 => ?_⟩
    have w2 : W [] I H I2 [] H2 := w1.call0 v2.st v2.hs rfl
    obtain ⟨pu, rfl⟩ := htr2.ne
    refine ⟨_, rfl, _, rfl, I2, ps, b, gv, tr, wf, us.length, rfl, gp w2, fun pw I3 H3 v3 hpw => ?_⟩
    have w3 : W [] I H I3 [] H3 := w2.call0 v3.st v3.hs rfl
    refine ⟨_, rfl, I3, ps, b, gv, tr, wf, us.length, rfl, gp w3, fun I4 H4 v4 => ?_⟩
    have w4 : W [] I H I4 [] H4 := w3.call0 v4.st v4.hs rfl
    refine ⟨s3, fun l1 hl1 => ?_⟩
    have w5 := w4.newI hl1 (.lst [.ref pu, .ref pw, .bl true])
    have u5 := w4.upI hl1 (.lst [.ref pu, .ref pw, .bl true])
    have s25 := v3.st.same.trans (v4.st.same.trans u5)
    have s15 := v2.st.same.trans s25
    have pdt := hdat.pd
    have ptw : PdOk 1 2 (.tuple [.int (wf : Int), .int (us.length : Int)]) := PdsOk.tup (PdsOk.cons (m := 2) (PdOk.int (intB_small (by omega))) (PdsOk.cons (m := 1) (PdOk.int (intB_small (by omega))) (PdsOk.nil 0 0) (by decide)) (by decide))
    have pd : PdOk 30 300000 (.list [td tr, .tuple [.int (wf : Int), .int (us.length : Int)], .bool true]) :=
      PdOk.up (PdsOk.lst (PdsOk.cons (m := 12 * tr.size + 10) (n := 29) (pdt.up (by omega) (Nat.le_refl _)) (PdsOk.cons (m := 4) (ptw.up (by decide) (Nat.le_refl _)) (PdsOk.cons (m := 1) ((PdOk.bool true).n) (PdsOk.nil 29 0) (by decide)) (by decide)) (by omega))) (by decide) (by omega)
    have htr5 := htr2.mono s25
    refine ⟨.ref l1, .list [td tr, .tuple [.int (wf : Int), .int (us.length : Int)], .bool true], rfl, .lst (SqL.of upd_same) (.cons ((htr5.mono w5.hs.sub).dp hdat) (.cons (.tup (SqT.of (w5.i ((v4.st.same.trans u5) _ _ hpw))) (.cons (.int _) (.cons (.int _) .nil))) (.cons (.bl true) .nil))), pd.sh, pd.nd, pd.fits (by decide), Nat.le_trans pd.dp (by decide), .inr ⟨_, rfl⟩, ?_⟩
    have hfa5 := s15 _ _ hfa
    have hla5 := s15 _ _ hla
    refine ⟨_, rfl, fa, _, rfl, DG (w5.i hfa5) ht, ?_⟩
    refine ⟨_, rfl, fa, _, rfl, DG (w5.i hfa5) hw, _, rfl, fa, _, rfl, DG (w5.i hfa5) he, la, _, rfl, .inl (SqL.of (w5.i hla5)), s2, fun t2 ht2 => ⟨s3, fun l2 hl2 => ?_⟩⟩
    have w6 := w5.newI ht2 (.tup [.int (wf : Int), .int (us.length : Int)])
    have u6 := w5.upI ht2 (.tup [.int (wf : Int), .int (us.length : Int)])
    have w7 := w6.newI hl2 (.lst [u, .ref t2, .bl true])
    have u7 := w6.upI hl2 (.lst [u, .ref t2, .bl true])
    have htr7 := htr.mono (s15.trans (u6.trans u7))
    have hd2 : Dp K _ (.ref l2) (.list [td tr, .tuple [.int (wf : Int), .int (us.length : Int)], .bool true]) := .lst (SqL.of (w7.i upd_same)) (.cons ((htr7.mono w7.hs.sub).dp hdat) (.cons (.tup (SqT.of (w7.i (u7 _ _ upd_same))) (.cons (.int _) (.cons (.int _) .nil))) (.cons (.bl true) .nil)))
    refine ⟨.ref l2, .list [td tr, .tuple [.int (wf : Int), .int (us.length : Int)], .bool true], rfl, hd2, pd.sh, pd.nd, pd.fits (by decide), Nat.le_trans pd.dp (by decide), .inr ⟨_, rfl⟩, ?_⟩
    clear hd2
    generalize (PyData.list [td tr, .tuple [.int (wf : Int), .int (us.length : Int)], .bool true]).shown = zt
    refine ⟨rfl, _, rfl, nF rfl ?_⟩
    have htrF := htr5.mono (u6.trans u7)
    have hfa7 := (u6.trans u7) _ _ hfa5
    have hla7 := (u6.trans u7) _ _ hla5
    refine ⟨_, rfl, _, ps, b, tr, .ref pu, rfl, w7.hs, htrF, hno, hsz, by omega, fun l es' es I8 H8 v8 hl8 hes hesl heo => ?_⟩
    have w8 : W [] I H I8 [] H8 := w7.call0 v8.st v8.hs rfl
    have hfa8 := v8.st.same _ _ hfa7
    have hla8 := v8.st.same _ _ hla7
    have hesl2 := Paired.length hes
    refine ⟨_, rfl, _, rfl, l, _, rfl, SqL.of (w8.i hl8), fun p9 hp9 => ?_⟩
    have w9 := w8.newI hp9 (.lst (cutV es' none (some 40)))
    have u9 := w8.upI hp9 (.lst (cutV es' none (some 40)))
    refine ⟨p9, rfl, ⟨_, SqL.of (w9.i upd_same)⟩, ?_⟩
    refine for_list (K := K) (a := p9) (xs := cutV es' none (some 40)) (fun j σ H' => ∃ (I' : Hp) (v4 v5 : Option V), σ = [some gv, some (.ref fa), some (.ref pu), some (.ref l), v4, v5] ∧ W [] I H I' [] H' ∧ Same (upd I8 p9 (.lst (cutV es' none (some 40)))) I') ⟨_, _, _, rfl, w9, Same.refl _⟩ ?_ ?_ ?_
    · rintro j σ H' _ ⟨I', v4, v5, rfl, w', s'⟩
      exact SqL.of (w'.i (s' _ _ upd_same))
    · rintro j x σ H' hx ⟨I', v4, v5, rfl, w', s'⟩
      have hxin : x ∈ es' := by
        have := List.mem_of_getElem? hx
        unfold cutV at this
        exact List.mem_of_mem_drop (List.mem_of_mem_take this)
      obtain ⟨i, hi, hix⟩ := List.getElem_of_mem hxin
      obtain ⟨e, he1, he2⟩ := Paired.get hes (show es'[i]? = some x by rw [List.getElem?_eq_getElem hi, hix])
      obtain ⟨pp, ka, xv, rfl, hpp, hka, hv⟩ := he2.mono (u9.trans s')
      obtain ⟨hkn, hdv, hru⟩ := heo e (List.mem_of_getElem? he1)
      refine ⟨pp, _, rfl, SqT.of (w'.i hpp), rfl, _, _, rfl, _, _, rfl, rfl, ?_⟩
      refine ⟨_, rfl, _, rfl, _, rfl, I', ps, b, gv, ka, e.1, xv, e.2, rfl, w'.hs, hpr.mono w'.st.same, hnf, hpl, hka, hv, hdv, hru, fun r I'' H'' v'' hr' => ?_⟩
      have w'' : W [] I H I'' [] H'' := w'.call0 v''.st v''.hs rfl
      exact ⟨hr', rfl, _, rfl, bF rfl ⟨I'', _, _, rfl, w'', s'.trans v''.st.same⟩⟩
    · rintro σ H' ⟨I', v4, v5, rfl, w', s'⟩
      have hfaX := s' _ _ (u9 _ _ hfa8)
      have hlaX := s' _ _ (u9 _ _ hla8)
      have hlX := s' _ _ (u9 _ _ hl8)
      refine ⟨_, rfl, l, _, rfl, .inl (SqL.of (w'.i hlX)), _, rfl, fa, _, rfl, DG (w'.i hfaX) he, la, _, rfl, .inl (SqL.of (w'.i hlaX)), rfl, ?_⟩
      have e1 : es'.length = us.length := by omega
      rw [e1, decide_eq_true rfl]
      exact q _ _ w'

def spLaw (K : PySem.W.Frag) : Sp := fun vs H Q _ => ∃ sa, ∃ (ns : List Int), vs = [.ref sa] ∧ SqL K H sa (ns.map V.int) ∧ ns.length ≤ 63 ∧ ∀ H', Q (.bl true) H'
abbrev N_law : List Str := ["_law_script", "_law_turn", "_law_m", "_law_lap"]
theorem sc_law : FnScope N_law ["_law_script"] (defScope (top 104)) := fnScope_ok (by decide +kernel)
theorem ok_law {k : Nat} {f : Addr} {fd : FuncData} (F : FunD K "law" "law" (defArgs (top 104)) (defBody (top 104)) (defScope (top 104)) [] [] f fd) (T : Txt K mg) (c__law_begun : Cl P w K mg base 1 "_law_begun" (spBegun K)) (c__law_draw : Cl P w K mg base 1 "_law_draw" spDraw) (c__law_menu : Cl P w K mg base 3 "_law_menu" spMenuL) (c__law_result : Cl P w K mg base 3 "_law_result" spResult)
    (c__law_program : Cl P w K mg base 29 "_law_program" spProg) (c__law_program_right : ClG P w K mg base (k + 3) "_law_program_right" spRight) (hk : 30 ≤ k) : FnG P w K mg base (k + 4) f fd ["_law_script"] (spLaw K) := by
  refine fn_mkG (i := 104) (N := N_law) (ps := ["_law_script"]) F sc_law ?_ ?_
  · rintro vs H Q E ⟨sa, ns, rfl, _⟩
    rfl
  rintro f0 cdv A outer s0 H vs Q E hr hgd ⟨sa, ns, rfl, hsc, hnl, q⟩
  refine ⟨_, (pss_cons (ps_for PassesOwn.never rfl (pi_range1 rfl T.range (pa_cons (pe_op op_add pe_int (pe_callTy call_int1 (by rfl) T.int (by decide +kernel) (pa_cons (pe_cmpR op_gt (pe_callB call_len_seq (by rfl) T.len (by decide +kernel) (pa_cons (pv 0) pa_nil)) pe_int (nomark _)) pa_nil))) pa_nil)) (pg_name (i := 1) sc_law.nd rfl (Or.inl rfl)) (pss_cons (ps_set (i := 2) sc_law.nd rfl (Or.inl rfl) (pe_cl c__law_begun hr (by omega) rfl (pa_cons (pv 0) (pa_cons (pv 1) pa_nil)))) (pss_one (ps_for PassesOwn.never rfl (pi_range1 rfl T.range (pa_cons pe_int pa_nil)) (pg_name (i := 3) sc_law.nd rfl (Or.inl rfl)) (pss_one (ps_if (pt_not (pt_val (pe_clG c__law_program_right hgd hr (by omega) rfl (pa_cons (pe_cl c__law_program hr (by omega) rfl (pa_cons (pv 2) (pa_cons (pe_cl c__law_menu hr (by omega) rfl (pa_cons (pv 2) pa_nil)) (pa_cons (pe_cl c__law_result hr (by omega) rfl (pa_cons (pv 2) pa_nil)) (pa_cons (pe_op op_add pe_int (pe_cl c__law_draw hr (by omega) rfl (pa_cons (pv 2) (pa_cons pe_int pa_nil)))) pa_nil))))) pa_nil)))) (pss_one (ps_ret pe_bl)) pss_nil)))))) (pss_one (ps_ret pe_bl))), ?_⟩
  have hs0 : HS H [] H := ⟨Same.refl _, fun _ z => (by cases z), fun _ z => (by cases z), List.nodup_nil⟩
  have w0 : W [] H H H [] H := W.start hs0
  refine ⟨_, rfl, sa, _, rfl, .inl hsc, _, _, rfl, rfl, .inr ⟨_, rfl, _, _, rfl, rfl, ?_⟩⟩
  refine ⟨_, rfl, ?_, ?_, ?_⟩
  · split <;> omega
  · split <;> omega
  refine for_range (lo := 0) (fun j σ H' => ∃ (I' : Hp) (v1 v2 v3 : Option V), σ = [some (.ref sa), v1, v2, v3] ∧ W [] H H I' [] H') ⟨H, _, _, _, rfl, w0⟩ ?_ ?_
  · rintro j σ H' hj ⟨I1, v1, v2, v3, rfl, w1⟩
    have ej : (0 : Int) + (j : Int) = ((j : Nat) : Int) := Int.zero_add _
    have hj2 : j < 2 := by
      revert hj
      split <;> omega
    refine ⟨_, rfl, _, rfl, I1, sa, ns, j, by rw [ej], w1.hs, w1.st.same.seq hsc, by omega, by omega, fun a cl m I2 H2 v2' hce hsp hnx => ?_⟩
    have w2 : W [] H H I2 (gM a cl m) H2 := w1.callG v2'
    refine ⟨2, rfl, by decide, by decide, ?_⟩
    refine for_range (lo := 0) (n := 2) (fun i σ H' => ∃ (I' : Hp) (mi : Ms) (v3 : Option V), σ = [some (.ref sa), some (.int (0 + (j : Int))), some (.ref a), v3] ∧ W [] H H I' (gM a cl mi) H' ∧ CellsAt I' cl ∧ Nx (2508 * i) m mi) ⟨I2, m, _, rfl, w2, hce, Nx.refl _ _⟩ ?_ ?_
    · rintro i σ H' hi ⟨I3, mi, v3', rfl, w3, hc3, nx3⟩
      have h1 := nx3.n1
      have h2 := nx3.sp
      have hlim : LIM = 1000000 := rfl
      have gp : ∀ {c c' : Nat} {I' H' : Hp} {m' : Ms}, W [] H H I' (gM a cl m') H' → Same I3 I' → Nx c mi m' → c + c' ≤ 10000 → GP c' I' H' a cl m' := fun {c c' I' H' m'} w' s' n' hc => by
        have h3 := n'.n1
        have h4 := n'.sp
        exact ⟨w'.hs, hc3.mono s', by omega, by omega⟩
      refine ⟨_, rfl, _, rfl, I3, a, cl, mi, rfl, gp w3 (Same.refl _) (Nx.refl 0 mi) (by decide), fun pm zs I4 H4 m4 v4 nx4 hpm hz1' hz3 hzs => ?_⟩
      have w4 : W [] H H I4 (gM a cl m4) H4 := w3.callG v4
      refine ⟨_, rfl, I4, a, cl, m4, rfl, gp w4 v4.st.same nx4 (by decide), fun ur dk I5 H5 m5 v5 nx5 hdk => ?_⟩
      have w5 : W [] H H I5 (gM a cl m5) H5 := w4.callG v5
      have n5 := nx4.trans nx5
      refine ⟨_, rfl, I5, a, cl, m5, 4, rfl, gp w5 (v4.st.same.trans v5.st.same) n5 (by decide), by decide, by decide, fun r m6 H6 v6 nx6 _ _ r0 r4 => ?_⟩
      obtain ⟨rn, rfl⟩ := Int.eq_ofNat_of_zero_le r0
      have r4 : (rn : Int) < 4 := r4
      have w6 : W [] H H I5 (gM a cl m6) H6 := w5.callG v6
      have n6 := n5.trans nx6
      have er : (1 : Int) + (rn : Int) = ((1 + rn : Nat) : Int) := by omega
      refine ⟨_, _, rfl, rfl, I5, a, cl, m6, pm, ur, dk, zs, 1 + rn, by rw [← er], gp w6 (v4.st.same.trans v5.st.same) n6 (by decide), v5.st.same _ _ hpm, hz3, hzs, hdk, by omega, fun u ps b I7 H7 m7 v7 nx7 hpr hok hnf => ?_⟩
      have w7 : W [] H H I7 (gM a cl m7) H7 := w6.callG v7
      have n7 := n6.trans nx7
      refine ⟨I7, ps, b, u, rfl, w7.hs.left0, hpr, hnf, hok, fun I8 H8 v8 => ?_⟩
      have w8 : W [] H H I8 (gM a cl m7) H8 := W.call (M1 := []) (M1' := []) w7 v8.st v8.hs rfl
      refine ⟨_, rfl, bF rfl ?_⟩
      exact ⟨I8, m7, _, rfl, w8, hc3.mono (v4.st.same.trans (v5.st.same.trans (v7.st.same.trans v8.st.same))), (nx3.trans n7).le (by omega)⟩
    · rintro σ H' ⟨I3, mi, v3', rfl, w3, _⟩
      have w4 := W.drop (M1 := []) (M2 := gM a cl mi) w3 (by simp)
      exact ⟨I3, _, _, _, rfl, w4⟩
  · rintro σ H' ⟨I1, v1, v2, v3, rfl, w1⟩
    exact q H'
end
end KW
set_option Elab.async false
set_option linter.all false
set_option maxRecDepth 100000
set_option maxHeartbeats 4000000
/-! E2: all is joined. -/
namespace KW
open PySem PySem.Spec PyProof.Rows L2
/-- where all defs stand -/
structure AllDefs (K : PySem.W.Frag) (mg : Str → Option Value) : Prop where
  d4 : DefAt K mg "split_program" 4
  d5 : DefAt K mg "menu_of" 5
  d8 : DefAt K mg "row_is_below" 8
  d9 : DefAt K mg "least_row" 9
  d10 : DefAt K mg "power" 10
  d11 : DefAt K mg "shared" 11
  d12 : DefAt K mg "finish" 12
  d16 : DefAt K mg "game_begun" 16
  d17 : DefAt K mg "game_moved" 17
  d21 : DefAt K mg "told_entry" 21
  d25 : DefAt K mg "put" 25
  d26 : DefAt K mg "run_of" 26
  d27 : DefAt K mg "combined" 27
  d28 : DefAt K mg "step_eval" 28
  d29 : DefAt K mg "wait" 29
  d30 : DefAt K mg "begin" 30
  d31 : DefAt K mg "step_value" 31
  d32 : DefAt K mg "give_prim" 32
  d33 : DefAt K mg "give_prim_2" 33
  d34 : DefAt K mg "give_as" 34
  d35 : DefAt K mg "give_part" 35
  d36 : DefAt K mg "give_if" 36
  d37 : DefAt K mg "give_repeat" 37
  d38 : DefAt K mg "give_repeat_2" 38
  d39 : DefAt K mg "turn" 39
  d40 : DefAt K mg "give_call" 40
  d41 : DefAt K mg "give_call_2" 41
  d42 : DefAt K mg "give_pair" 42
  d43 : DefAt K mg "give_pair_2" 43
  d44 : DefAt K mg "give_at" 44
  d45 : DefAt K mg "give_at_2" 45
  d46 : DefAt K mg "give_share" 46
  d48 : DefAt K mg "read_parameter" 48
  d49 : DefAt K mg "frame_of" 49
  d50 : DefAt K mg "step_stop" 50
  d51 : DefAt K mg "go_through" 51
  d52 : DefAt K mg "gone" 52
  d53 : DefAt K mg "is_done" 53
  d54 : DefAt K mg "done" 54
  d55 : DefAt K mg "plain_value" 55
  d56 : DefAt K mg "body_of" 56
  d57 : DefAt K mg "run_within" 57
  d61 : DefAt K mg "gone_through" 61
  d62 : DefAt K mg "ways" 62
  d63 : DefAt K mg "work" 63
  d64 : DefAt K mg "is_small" 64
  d66 : DefAt K mg "_law_begun" 66
  d67 : DefAt K mg "_law_draw" 67
  d68 : DefAt K mg "_law_of" 68
  d69 : DefAt K mg "_law_fresh" 69
  d70 : DefAt K mg "_law_p" 70
  d71 : DefAt K mg "_law_n" 71
  d72 : DefAt K mg "_law_having" 72
  d73 : DefAt K mg "_law_index" 73
  d74 : DefAt K mg "_law_entry" 74
  d75 : DefAt K mg "_law_few" 75
  d76 : DefAt K mg "_law_test" 76
  d77 : DefAt K mg "_law_num" 77
  d78 : DefAt K mg "_law_over_rows" 78
  d79 : DefAt K mg "_law_higher" 79
  d80 : DefAt K mg "_law_plain_term" 80
  d81 : DefAt K mg "_law_menu" 81
  d82 : DefAt K mg "_law_result" 82
  d83 : DefAt K mg "_law_with_rows" 83
  d84 : DefAt K mg "_law_program" 84
  d85 : DefAt K mg "_law_read" 85
  d86 : DefAt K mg "_law_prim" 86
  d87 : DefAt K mg "_law_all_out" 87
  d88 : DefAt K mg "_law_called" 88
  d89 : DefAt K mg "_law_out" 89
  d90 : DefAt K mg "_law_put" 90
  d91 : DefAt K mg "_law_with" 91
  d92 : DefAt K mg "_law_inner" 92
  d93 : DefAt K mg "_law_going" 93
  d94 : DefAt K mg "_law_power" 94
  d95 : DefAt K mg "_law_least" 95
  d96 : DefAt K mg "_law_run" 96
  d97 : DefAt K mg "_law_sizes" 97
  d99 : DefAt K mg "_law_ways" 99
  d100 : DefAt K mg "_law_branch" 100
  d101 : DefAt K mg "_law_everywhere" 101
  d102 : DefAt K mg "_law_told_ends" 102
  d103 : DefAt K mg "_law_program_right" 103
  d104 : DefAt K mg "law" 104
section
variable {P : Program} {w : World} {K : PySem.W.Frag} {mg : Str → Option Value} {base : Heap}
def Never : Sp := fun _ _ _ _ => False
theorem sc_told_entry : FnScope ["row", "i", "begun", "around"] ["row", "i"] (defScope (top 21)) := fnScope_ok (by decide +kernel)
theorem never_told_entry (D : DefAt K mg "told_entry" 21) : Cl P w K mg base 1 "told_entry" (fun _ _ _ _ => False) := cl_none D sc_told_entry (fun _ _ _ _ _ _ us hl => match us, hl with | [_, _], _ => rfl) fun _ _ _ _ z => z
theorem sc_game_begun : FnScope ["m", "ends", "game"] ["m", "ends"] (defScope (top 16)) := fnScope_ok (by decide +kernel)
theorem never_game_begun (D : DefAt K mg "game_begun" 16) : Cl P w K mg base 1 "game_begun" (fun _ _ _ _ => False) := cl_none D sc_game_begun (fun _ _ _ _ _ _ us hl => match us, hl with | [_, _], _ => rfl) fun _ _ _ _ z => z
theorem sc_game_moved : FnScope ["game", "side", "node"] ["game", "side"] (defScope (top 17)) := fnScope_ok (by decide +kernel)
theorem never_game_moved (D : DefAt K mg "game_moved" 17) : Cl P w K mg base 1 "game_moved" (fun _ _ _ _ => False) := cl_none D sc_game_moved (fun _ _ _ _ _ _ us hl => match us, hl with | [_, _], _ => rfl) fun _ _ _ _ z => z
theorem never_plain_value (D : DefAt K mg "plain_value" 55) : Cl P w K mg base 1 "plain_value" (fun _ _ _ _ => False) := cl_none D sc_plain_value (fun _ _ _ _ _ _ us hl => match us, hl with | [_], _ => rfl) fun _ _ _ _ z => z
theorem law_all {g f : Addr} {fd : FuncData} (D : AllDefs K mg) (T : Txt K mg) (G : Gives K w mg g) (F : FunD K "law" "law" (defArgs (top 104)) (defBody (top 104)) (defScope (top 104)) [] [] f fd) : FnG P w K mg base 198 f fd ["_law_script"] (spLaw K) := by
  have cput : Cl P w K mg base 1 "put" spPut := ok_putP D.d25 T
  have cwait : Cl P w K mg base 1 "wait" spWait := ok_wait D.d29 T
  have ccomb : Cl P w K mg base 1 "combined" spPrim := ok_combined D.d27 T
  have cturn : Cl P w K mg base 2 "turn" spTurn := ok_turn D.d39 T cput
  have cframe : Cl P w K mg base 1 "frame_of" spFrameOf := ok_frame_of D.d49 T
  have cread : Cl P w K mg base 2 "read_parameter" spReadP := ok_read_parameter D.d48 T (never_told_entry D.d21)
  have cbegin : Cl P w K mg base 2 "begin" spBegin := ok_begin D.d30 T cput
  have GC : GiveCl P w K mg base := ⟨(ok_give_prim D.d32 T cwait).mono (by omega), (ok_give_prim_2 D.d33 T ccomb).mono (by omega), (ok_give_as D.d34 T).mono (by omega), (ok_give_part D.d35 T).mono (by omega), (ok_give_if D.d36 T).mono (by omega), (ok_give_repeat D.d37 T cwait).mono (by omega), (ok_give_repeat_2 D.d38 T).mono (by omega), (ok_give_call D.d40 T cwait).mono (by omega), (ok_give_call_2 D.d41 T cput).mono (by omega), (ok_give_pair D.d42 T cwait).mono (by omega), (ok_give_pair_2 D.d43 T).mono (by omega), (ok_give_at D.d44 T cwait).mono (by omega), ok_give_at_2 D.d45 T cput cframe cread, ok_give_share D.d46 T cbegin⟩
  have ceval : Cl P w K mg base 3 "step_eval" spEval := ok_step_eval D.d28 T cwait cbegin
  have cpower : Cl P w K mg base 1 "power" spPower := ok_powerP D.d10 T
  have clr : Cl P w K mg base 2 "least_row" spLeastR := ok_least_row D.d9 T (ok_row_is_below D.d8 T)
  have cfin : Cl P w K mg base 3 "finish" spFinish := ok_finish D.d12 T (ok_shared D.d11 T cpower) clr
  have cgt : Cl P w K mg base 2 "go_through" spThrough := ok_go_through D.d51 T cput
  have cgone : Cl P w K mg base 4 "gone" spGone := ok_gone D.d52 T cput cgt cfin (never_game_begun D.d16) (never_game_moved D.d17)
  have cstop : Cl P w K mg base 3 "step_stop" spStop := ok_step_stop D.d50 T cput cgt
  have cval : Cl P w K mg base 5 "step_value" spValue := ok_step_value D.d31 T G GC cgone cturn
  have cdone : Cl P w K mg base 7 "done" spDone := ok_done D.d54 T (ok_is_done D.d53 T ceval cstop cval)
  have crun : Cl P w K mg base 8 "run_within" (spRunW DD) := ok_run_within D.d57 T (ok_body_of D.d56 T) (ok_run_of D.d26 T) cdone
  have cmenu : Cl P w K mg base 2 "menu_of" spMenu := ok_menu_of D.d5 T (ok_split_program D.d4 T)
  have cpv : Cl P w K mg base 3 "plain_value" (spPlain 1) := ok_plain_value D.d55 T (ok_plain_value0 D.d55 T (never_plain_value D.d55))
  have cgth : Cl P w K mg base 9 "gone_through" (spGoneT DD) := ok_gone_through D.d61 T cmenu crun (cpv.mono (by omega))
  have cways : Cl P w K mg base 10 "ways" (spWaysP DD) := ok_waysP D.d62 T cmenu cgth
  have cwork : Cl P w K mg base 10 "work" (spWork DD) := ok_work D.d63 T cgth
  have csmall : Cl P w K mg base 10 "is_small" (spSmall DD) := ok_is_small D.d64 T cgth
  have LD : LawDefs2 K mg := ⟨⟨D.d85, D.d86, D.d87, D.d88, D.d89, D.d90, D.d91, D.d92, D.d93, D.d94, D.d95⟩, D.d96, D.d97, D.d99, D.d100⟩
  have cout : Cl P w K mg base 181 "_law_out" (spOut DD) := out_all LD.toLawDefs T DD
  have clrun : Cl P w K mg base 182 "_law_run" (spRunL DD) := ok_run D.d96 T cout
  have csizes : Cl P w K mg base 1 "_law_sizes" spSizes := ok_sizes D.d97 T
  have cbr : Cl P w K mg base 195 "_law_branch" (spBr DD 13) := branch_all LD T DD 13
  have clways : Cl P w K mg base 196 "_law_ways" (spWays DD 13) := ok_ways (k := 194) D.d99 T csizes cbr
  have cwT : Cl P w K mg base 1 "_law_with" (spPutT P w) := ok_withT D.d91 T
  have cev : ClG P w K mg base 196 "_law_everywhere" spEvery := ok_everywhere (k := 194) D.d101 T cwT csizes (clrun.mono (by omega))
  have ctold : Cl P w K mg base 2 "_law_told_ends" spTold := ok_told_ends D.d102 T cwT
  have cright : ClG P w K mg base 197 "_law_program_right" spRight := ok_right (k := 194) D.d103 T clways cways cwork csmall ctold cev (by omega)
  have GD : GenDefs K mg := ⟨D.d66, D.d67, D.d68, D.d69, D.d70, D.d71, D.d72, D.d73, D.d74, D.d75, D.d76, D.d77, D.d78, D.d79, D.d80, D.d81, D.d82, D.d83, D.d84⟩
  have g5 : GenAt P w K mg base 5 20 1210 52 := gen5 GD T
  have cdraw : Cl P w K mg base 1 "_law_draw" spDraw := ok_draw D.d67 T
  have cof : Cl P w K mg base 2 "_law_of" spOf := ok_of D.d68 T cdraw
  have cfresh : Cl P w K mg base 1 "_law_fresh" spFresh := ok_fresh D.d69 T
  have np : Cl P w K mg base 1 "_law_plain_term" (fun _ _ _ _ => False) := cl_none D.d80 sc__law_plain_term (fun _ _ _ _ _ _ us hl => match us, hl with | [_, _, _, _], _ => rfl) fun _ _ _ _ z => z
  have pt1 : Cl P w K mg base 24 "_law_plain_term" (spPT true 5 1210 52) := ok_plain_term (k := 20) (Nat.le_refl _) (Nat.le_refl _) (fun z => by cases z) D.d80 T g5.few g5.num (fun z => by cases z) (np.mono (by omega))
  have pt2 : Cl P w K mg base 28 "_law_plain_term" (spPT false 5 2420 53) := ok_plain_term (k := 24) (c := 1210) (b := 52) (by omega) (by omega) (fun _ => ⟨by omega, by omega⟩) D.d80 T (g5.few.mono (by omega)) (g5.num.mono (by omega)) (fun _ => rfl) (pt1.mono (by omega))
  have cprog : Cl P w K mg base 29 "_law_program" spProg := ok_program D.d84 T cfresh (ok_with_rows D.d83 T) pt2
  exact ok_law (k := 194) F T (ok_begun D.d66 T) cdraw (ok_menuL D.d81 T cdraw cof) (ok_result D.d82 T cdraw cof) cprog cright (by omega)
end
end KW
set_option Elab.async false
set_option linter.all false
set_option maxRecDepth 100000
set_option maxHeartbeats 4000000
/-! E3: what the head tells; the law holds. -/
namespace KW
open PySem PySem.Spec PyProof.Rows L2
theorem walk_ofEG {l : PySem.W.OpenLaw} {n k : Nat} {q : Program} {loose : List Str} {XP : (Str → Option Value) → Heap → Prop} {YP : World → Heap → Prop} {d : DefRec} {x : Str}
    (hn : l.most = some n) (hn2 : n ≤ sizeLine) (hdf : d.params.defaults = []) (hr : Room k callerA)
    (F : ∀ (w : World) (mg : Str → Option Value) (fa : Addr) (h : Heap), YP w h → h.Ns mainGlobals mg → mg d.name = some (.ref fa) → ∃ (K : PySem.W.Frag) (fd : FuncData) (sp : Sp), K.In h ∧ (∀ (s : Shared) (u : Value), BindsTo s fd ⟨[u], []⟩ [(x, u)]) ∧
        (∀ (H : Hp) (a : Addr) (ns : List Int), ns.length ≤ n → Only H → SqL K H a (ns.map V.int) → sp [.ref a] H (fun v _ => v = .bl true) E0) ∧ ∀ base : Heap, K.In base → base.Ns mainGlobals mg → FnG l.prog w K mg base k fa fd [x] sp) :
    PySem.W.WalkO q loose XP YP l.row.toRowW d [] (fun f vs => PySem.call f vs) := by
  refine Att.attach_call hn hdf fun w s₀ s₁ mg mb fa o pm cd doc a vs ns G Y ho hd hcd hmg hobj hints hlen hg => ?_
  obtain ⟨K, fd, sp, KX, hb, hsp, hF⟩ := F w mg fa _ Y G.T.g hmg
  exact law_callG KX G.T.g G.T.b G.T.builtins G.T.nolimit hg hobj hints (Nat.le_trans hlen hn2) hr hF hb fun H hO hS => hsp H a ns hlen hO hS
section
variable {w : World} {K : PySem.W.Frag} {h : Heap} {mg : Str → Option Value}
theorem defAt_of (S : He.SaysD Hd.fa Hd.fn K) (X : K.In h) (G : h.Ns mainGlobals mg) {i : Nat} {x : Str} (j : Nat) (h1 : Hd.fn[j]? = some (Hd.dd i x)) (h2 : Hd.fa[j]? = some (.glo x)) : DefAt K mg x i := by
  obtain ⟨fd, F⟩ := S.def_ j h1
  exact ⟨⟨_, fd, F, He.glo_ok X G (S.fact j h2)⟩⟩
theorem defs_of (S : He.SaysD Hd.fa Hd.fn K) (X : K.In h) (G : h.Ns mainGlobals mg) : AllDefs K mg where
  d4 := defAt_of S X G 0 rfl rfl
  d5 := defAt_of S X G 1 rfl rfl
  d8 := defAt_of S X G 2 rfl rfl
  d9 := defAt_of S X G 3 rfl rfl
  d10 := defAt_of S X G 4 rfl rfl
  d11 := defAt_of S X G 5 rfl rfl
  d12 := defAt_of S X G 6 rfl rfl
  d16 := defAt_of S X G 7 rfl rfl
  d17 := defAt_of S X G 8 rfl rfl
  d21 := defAt_of S X G 9 rfl rfl
  d25 := defAt_of S X G 10 rfl rfl
  d26 := defAt_of S X G 11 rfl rfl
  d27 := defAt_of S X G 12 rfl rfl
  d28 := defAt_of S X G 13 rfl rfl
  d29 := defAt_of S X G 14 rfl rfl
  d30 := defAt_of S X G 15 rfl rfl
  d31 := defAt_of S X G 16 rfl rfl
  d32 := defAt_of S X G 17 rfl rfl
  d33 := defAt_of S X G 18 rfl rfl
  d34 := defAt_of S X G 19 rfl rfl
  d35 := defAt_of S X G 20 rfl rfl
  d36 := defAt_of S X G 21 rfl rfl
  d37 := defAt_of S X G 22 rfl rfl
  d38 := defAt_of S X G 23 rfl rfl
  d39 := defAt_of S X G 24 rfl rfl
  d40 := defAt_of S X G 25 rfl rfl
  d41 := defAt_of S X G 26 rfl rfl
  d42 := defAt_of S X G 27 rfl rfl
  d43 := defAt_of S X G 28 rfl rfl
  d44 := defAt_of S X G 29 rfl rfl
  d45 := defAt_of S X G 30 rfl rfl
  d46 := defAt_of S X G 31 rfl rfl
  d48 := defAt_of S X G 32 rfl rfl
  d49 := defAt_of S X G 33 rfl rfl
  d50 := defAt_of S X G 34 rfl rfl
  d51 := defAt_of S X G 35 rfl rfl
  d52 := defAt_of S X G 36 rfl rfl
  d53 := defAt_of S X G 37 rfl rfl
  d54 := defAt_of S X G 38 rfl rfl
  d55 := defAt_of S X G 39 rfl rfl
  d56 := defAt_of S X G 40 rfl rfl
  d57 := defAt_of S X G 41 rfl rfl
  d61 := defAt_of S X G 42 rfl rfl
  d62 := defAt_of S X G 43 rfl rfl
  d63 := defAt_of S X G 44 rfl rfl
  d64 := defAt_of S X G 45 rfl rfl
  d66 := defAt_of S X G 46 rfl rfl
  d67 := defAt_of S X G 47 rfl rfl
  d68 := defAt_of S X G 48 rfl rfl
  d69 := defAt_of S X G 49 rfl rfl
  d70 := defAt_of S X G 50 rfl rfl
  d71 := defAt_of S X G 51 rfl rfl
  d72 := defAt_of S X G 52 rfl rfl
  d73 := defAt_of S X G 53 rfl rfl
  d74 := defAt_of S X G 54 rfl rfl
  d75 := defAt_of S X G 55 rfl rfl
  d76 := defAt_of S X G 56 rfl rfl
  d77 := defAt_of S X G 57 rfl rfl
  d78 := defAt_of S X G 58 rfl rfl
  d79 := defAt_of S X G 59 rfl rfl
  d80 := defAt_of S X G 60 rfl rfl
  d81 := defAt_of S X G 61 rfl rfl
  d82 := defAt_of S X G 62 rfl rfl
  d83 := defAt_of S X G 63 rfl rfl
  d84 := defAt_of S X G 64 rfl rfl
  d85 := defAt_of S X G 65 rfl rfl
  d86 := defAt_of S X G 66 rfl rfl
  d87 := defAt_of S X G 67 rfl rfl
  d88 := defAt_of S X G 68 rfl rfl
  d89 := defAt_of S X G 69 rfl rfl
  d90 := defAt_of S X G 70 rfl rfl
  d91 := defAt_of S X G 71 rfl rfl
  d92 := defAt_of S X G 72 rfl rfl
  d93 := defAt_of S X G 73 rfl rfl
  d94 := defAt_of S X G 74 rfl rfl
  d95 := defAt_of S X G 75 rfl rfl
  d96 := defAt_of S X G 76 rfl rfl
  d97 := defAt_of S X G 77 rfl rfl
  d99 := defAt_of S X G 78 rfl rfl
  d100 := defAt_of S X G 79 rfl rfl
  d101 := defAt_of S X G 80 rfl rfl
  d102 := defAt_of S X G 81 rfl rfl
  d103 := defAt_of S X G 82 rfl rfl
  d104 := defAt_of S X G 83 rfl rfl
theorem txt_of (S : He.SaysD Hd.fa Hd.fn K) (X : K.In h) (G : h.Ns mainGlobals mg) : Txt K mg where
  len := He.free_ok X G (S.fact 85 (f := .free "len") rfl)
  int := He.free_ok X G (S.fact 86 (f := .free "int") rfl)
  max := He.free_ok X G (S.fact 87 (f := .free "max") rfl)
  min := He.free_ok X G (S.fact 88 (f := .free "min") rfl)
  sum := He.free_ok X G (S.fact 89 (f := .free "sum") rfl)
  sorted := He.free_ok X G (S.fact 90 (f := .free "sorted") rfl)
  list := He.free_ok X G (S.fact 91 (f := .free "list") rfl)
  dict := He.free_ok X G (S.fact 92 (f := .free "dict") rfl)
  tuple := He.free_ok X G (S.fact 93 (f := .free "tuple") rfl)
  range := He.free_ok X G (S.fact 94 (f := .free "range") rfl)
  str := He.free_ok X G (S.fact 95 (f := .free "str") rfl)
  repr := He.free_ok X G (S.fact 96 (f := .free "repr") rfl)
  isinstance := He.free_ok X G (S.fact 97 (f := .free "isinstance") rfl)
  enumerate := He.free_ok X G (S.fact 98 (f := .free "enumerate") rfl)
  all := He.free_ok X G (S.fact 99 (f := .free "all") rfl)
  cTOP_settling := let ⟨t, e⟩ := He.int_ok X G (S.fact 100 (f := .int "TOP_settling" 999999999999999999) rfl); ⟨_, e, t, rfl⟩
  cTOP_plain := let ⟨t, e⟩ := He.int_ok X G (S.fact 101 (f := .int "TOP_plain" 999999999999999999) rfl); ⟨_, e, t, rfl⟩
  cTURNS := let ⟨t, e⟩ := He.int_ok X G (S.fact 102 (f := .int "TURNS" 60) rfl); ⟨_, e, t, rfl⟩
  cSTEPS := let ⟨t, e⟩ := He.int_ok X G (S.fact 103 (f := .int "STEPS" 20000) rfl); ⟨_, e, t, rfl⟩
  cENDS := let ⟨t, e⟩ := He.int_ok X G (S.fact 104 (f := .int "ENDS" 500) rfl); ⟨_, e, t, rfl⟩
theorem give_of (c : He.SaysX Hd.fa Hd.fn Hd.ts [] Hd.ex w h K) (X : K.In h) (G : h.Ns mainGlobals mg) {x y : Str} (j : Nat) (h1 : (x, He.Dv.glo y) ∈ Hd.gvs) (h2 : Hd.fa[j]? = some (.glo y)) : ∃ f, mg y = some (.ref f) ∧ KDct K w (He.ga K "GIVES") x (.ref f) := by
  obtain ⟨es, n, D⟩ := c.t.tab 0 (t := (fun K => He.ga K "GIVES", Hd.gks)) rfl
  obtain ⟨u, e, r⟩ := He.valsB_ok (kvs := Hd.gvs) c.more h1
  exact ⟨_, He.glo_ok X G (c.t.d.fact j h2), es, n, u, D.at_, D.lit, e, r⟩
theorem gives_of (c : He.SaysX Hd.fa Hd.fn Hd.ts [] Hd.ex w h K) (X : K.In h) (G : h.Ns mainGlobals mg) : Gives K w mg (He.ga K "GIVES") where
  cGIVES := ⟨_, He.glo_ok X G (c.t.d.fact 84 (f := .glo "GIVES") rfl), rfl⟩
  k0 := give_of c X G 17 (List.mem_of_getElem? (i := 0) rfl) rfl
  k1 := give_of c X G 18 (List.mem_of_getElem? (i := 1) rfl) rfl
  k2 := give_of c X G 19 (List.mem_of_getElem? (i := 2) rfl) rfl
  k3 := give_of c X G 20 (List.mem_of_getElem? (i := 3) rfl) rfl
  k4 := give_of c X G 20 (List.mem_of_getElem? (i := 4) rfl) rfl
  k5 := give_of c X G 20 (List.mem_of_getElem? (i := 5) rfl) rfl
  k6 := give_of c X G 21 (List.mem_of_getElem? (i := 6) rfl) rfl
  k7 := give_of c X G 22 (List.mem_of_getElem? (i := 7) rfl) rfl
  k8 := give_of c X G 23 (List.mem_of_getElem? (i := 8) rfl) rfl
  k9 := give_of c X G 25 (List.mem_of_getElem? (i := 9) rfl) rfl
  k10 := give_of c X G 26 (List.mem_of_getElem? (i := 10) rfl) rfl
  k11 := give_of c X G 27 (List.mem_of_getElem? (i := 11) rfl) rfl
  k12 := give_of c X G 28 (List.mem_of_getElem? (i := 12) rfl) rfl
  k13 := give_of c X G 29 (List.mem_of_getElem? (i := 13) rfl) rfl
  k14 := give_of c X G 30 (List.mem_of_getElem? (i := 14) rfl) rfl
  k15 := give_of c X G 31 (List.mem_of_getElem? (i := 15) rfl) rfl
theorem law_bind (kV doc pm : Value) (an : Option Addr) (cdv ct : Value) (us : List Value) (hl : us.length = ([("_law_script" : Str)]).length) : bindArgs (PySem.W.fnOf "law" "law" (defArgs (top 104)) (defBody (top 104)) (defScope (top 104)) .none kV doc pm an cdv ct) ⟨us, []⟩ = pure ([("_law_script" : Str)].zip us) :=
  match us, hl with | [_], _ => rfl
/-- the law's function and its promise -/
theorem law_fun {f : Addr} (c : He.SaysX Hd.fa Hd.fn Hd.ts [] Hd.ex w h K) (X : K.In h) (G : h.Ns mainGlobals mg) (hf : mg "law" = some (.ref f)) :
    ∃ fd : FuncData, (∀ (s : Shared) (u : Value), BindsTo s fd ⟨[u], []⟩ [("_law_script", u)]) ∧ ∀ base : Heap, K.In base → base.Ns mainGlobals mg → FnG (PySem.Challenge.rw_allendless_k08_whole_ways).prog w K mg base 198 f fd ["_law_script"] (spLaw K) := by
  have D := defs_of c.t.d X G
  obtain ⟨f', fd, F, hm⟩ := D.d104.ex
  rw [hf] at hm
  cases hm
  exact ⟨fd, fun s u => FunD.bindsA (ps := ["_law_script"]) F law_bind s [u] rfl, fun base _ _ => law_all D (txt_of c.t.d X G) (gives_of c X G) F⟩
end
end KW
open PySem PySem.W PySem.Calls PyProof.Rows
set_option maxRecDepth 100000 in
set_option maxHeartbeats 0 in
theorem PySem.Challenge.cw_allendless_k08_whole_ways_holds : PySem.Challenge.rw_allendless_k08_whole_ways.Holds := by
  w_on; o_law
  refine HandSHeadRun.head_any (r := OpenLaw.row PySem.Challenge.rw_allendless_k08_whole_ways) (q := view (OpenLaw.row PySem.Challenge.rw_allendless_k08_whole_ways).prog [104]) (H := Hd.hk) (ob := Hd.ob) (M := 4000) (loose := Hd.loose) (d := HandSHeadRun.topDef (OpenLaw.row PySem.Challenge.rw_allendless_k08_whole_ways).prog 104) (kwd := []) Hd.ob_eq
    (by kernel_rfl) (fun s => by kernel_rfl) Hd.run (by kernel_rfl) (by kernel_rfl) (by kernel_rfl) (by rfl) (by first | assumption | decide +kernel) (by decide +kernel) ⟨rfl, rfl, rfl, rfl, rfl, by decide +kernel⟩ ?hw ?hc
  case hw => w_witness2
  case hc =>
    refine KW.walk_ofEG (l := PySem.Challenge.rw_allendless_k08_whole_ways) (n := 63) (k := 198) (x := "_law_script") rfl (by decide) (by kernel_rfl) ⟨rfl, by decide, by decide⟩ ?F
    intro w mg fa h Y G hmg0
    obtain ⟨K, KX, c⟩ := Y
    have hmg : mg ("law" : PySem.Str) = some (.ref fa) := by
      have e : (HandSHeadRun.topDef (OpenLaw.row PySem.Challenge.rw_allendless_k08_whole_ways).prog 104).name = ("law" : PySem.Str) := by kernel_rfl
      rw [← e]
      exact hmg0
    obtain ⟨fd, hb, hF⟩ := KW.law_fun c KX G hmg
    exact ⟨K, fd, KW.spLaw K, KX, hb, fun H a ns hl _ hS => ⟨a, ns, rfl, hS, hl, fun _ => rfl⟩, hF⟩
