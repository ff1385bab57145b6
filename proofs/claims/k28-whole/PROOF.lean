import PyProof.Rows.All
import Wide.All
import OpenK.AllK
import Wide.FinOn
import HandS.Words
import KE.KStateDown
import HandS.Base
import HandS.Call
import HandS.Ends
import HandS.More
import HandS.WordsExc
import HandS.Defaults
import HandS.Head0
import HandS.Head1
import HandS.Head2
import HandS.HeadEnd
import HandS.HeadHook1
import HandS.HeadHook2
import HandS.ForMost
import HandS.IsInst
import HandS.TupAny
import HandS.RevRange
import HandS.Deep
import HandS.Conv
import HandS.Style
import HandS.DictComp
import HandS.DictTup
import HandS.GenList
import KE.GoesEnum
import HandS.Iter
import KE.KDictDisplayH
import KE.KDictKeyed
import KE.KDictWalk
import KE.KDictList
import KE.KDictCopyH
import PyProof.Rows.NestShow
import PyProof.Rows.ReprShort
import PySem.Challenge.RW_outandover_k28_whole_counts_and_lists
set_option Elab.async false
set_option linter.all false
set_option maxRecDepth 100000
namespace K28
open PySem PySem.Spec PyProof.Rows L2
/-! the text by places -/
def top (i : Nat) : Stmt := PySem.Challenge.pw_outandover_k28_whole_counts_and_lists.main.body.getD i (.Pass ⟨0, 0, 0, 0⟩)
abbrev sIsInteger : Stmt := top 6
abbrev sIsNumber : Stmt := top 7
abbrev sTableOf : Stmt := top 9
abbrev sHandlerLine : Stmt := top 10
abbrev cPos : Stmt := top 11
abbrev sPInit : Stmt := inClass cPos 0
abbrev sLineHere : Stmt := inClass cPos 1
abbrev sWidth : Stmt := inClass cPos 2
abbrev sCanChoose : Stmt := inClass cPos 3
abbrev sChoose : Stmt := inClass cPos 5
abbrev sGoWay : Stmt := inClass cPos 6
abbrev sArrive : Stmt := inClass cPos 7
abbrev sLeave : Stmt := inClass cPos 8
abbrev sFailHere : Stmt := inClass cPos 9
abbrev sArrival : Stmt := inClass cPos 10
abbrev sFirstPosition : Stmt := top 12
abbrev sFollowRun : Stmt := top 13
abbrev sRunsOf : Stmt := top 15
abbrev sAddTo : Stmt := top 16
abbrev sOverIf : Stmt := top 17
abbrev cCounts : Stmt := top 18
abbrev sCInit : Stmt := inClass cCounts 0
abbrev sFill : Stmt := inClass cCounts 1
abbrev sBehindCall : Stmt := inClass cCounts 2
abbrev sBehindFault : Stmt := inClass cCounts 3
abbrev sFromSpot : Stmt := inClass cCounts 4
abbrev sAddCall : Stmt := inClass cCounts 5
abbrev sBehindFrame : Stmt := inClass cCounts 6
abbrev sHowMany : Stmt := top 19
abbrev sOptionsAfter : Stmt := top 21
abbrev sIsRun : Stmt := top 22
abbrev sFeed : Stmt := top 24
abbrev sDraw : Stmt := top 25
abbrev sAny : Stmt := top 26
abbrev sHands : Stmt := top 27
abbrev sGreat : Stmt := top 28
abbrev sCalls : Stmt := top 29
abbrev sFunction : Stmt := top 30
abbrev sProgram : Stmt := top 31
abbrev sNextRight : Stmt := top 32
abbrev sLaw : Stmt := top 33
end K28

set_option Elab.async false
set_option linter.all false
set_option maxRecDepth 100000
set_option maxHeartbeats 0
namespace K28
open PySem PySem.Spec PyProof.Rows L2
def gD (x : Str) (st : Stmt) : He.DefD := ⟨(x, none), x, x, defArgs st, defBody st, defScope st, [], []⟩
def mD (c m q : Str) (st : Stmt) (dfl : List He.Dv := []) : He.DefD := ⟨(c, some m), m, q, defArgs st, defBody st, defScope st, dfl, []⟩
def fnL : List He.DefD := [
  gD "is_integer" sIsInteger, gD "is_number" sIsNumber, gD "table_of" sTableOf, gD "handler_line" sHandlerLine,
  mD "Position" "__init__" "Position.__init__" sPInit [.str "call"], mD "Position" "line_here" "Position.line_here" sLineHere, mD "Position" "width" "Position.width" sWidth,
  mD "Position" "can_choose" "Position.can_choose" sCanChoose, mD "Position" "choose" "Position.choose" sChoose, mD "Position" "go_way" "Position.go_way" sGoWay,
  mD "Position" "arrive" "Position.arrive" sArrive, mD "Position" "leave" "Position.leave" sLeave, mD "Position" "fail_here" "Position.fail_here" sFailHere, mD "Position" "arrival" "Position.arrival" sArrival,
  gD "first_position" sFirstPosition, gD "follow_run" sFollowRun, gD "runs_of" sRunsOf, gD "add_to" sAddTo, gD "over_if" sOverIf,
  mD "Counts" "__init__" "Counts.__init__" sCInit, mD "Counts" "fill" "Counts.fill" sFill, mD "Counts" "behind_call" "Counts.behind_call" sBehindCall, mD "Counts" "behind_fault" "Counts.behind_fault" sBehindFault,
  mD "Counts" "from_spot" "Counts.from_spot" sFromSpot, mD "Counts" "add_call" "Counts.add_call" sAddCall, mD "Counts" "behind_frame" "Counts.behind_frame" sBehindFrame,
  gD "how_many_runs" sHowMany, gD "options_after" sOptionsAfter, gD "is_run" sIsRun,
  gD "_law_feed" sFeed, gD "_law_draw" sDraw, gD "_law_any" sAny, gD "_law_hands" sHands, gD "_law_great" sGreat, gD "_law_calls" sCalls, gD "_law_function" sFunction, gD "_law_program" sProgram,
  gD "_law_next_right" sNextRight, gD "law" sLaw]
def globs : List Str := ["is_integer", "is_number", "table_of", "handler_line", "Position", "first_position", "follow_run", "runs_of", "add_to", "over_if", "Counts", "how_many_runs", "options_after", "is_run",
  "_law_feed", "_law_draw", "_law_any", "_law_hands", "_law_great", "_law_calls", "_law_function", "_law_program", "_law_next_right", "law"]
def frees : List Str := ["len", "isinstance", "int", "bool", "list", "tuple", "reversed", "range", "sum", "enumerate", "repr", "dict", "sorted"]
def faL : List He.Fa := globs.map He.Fa.glo ++ frees.map He.Fa.free ++ [.cls "Position", .mkr "Position", .cls "Counts", .mkr "Counts"]
  ++ (["table", "stack", "due", "ending"] : List Str).map (He.Fa.noat "Position") ++ (["line_table", "at_call", "at_way"] : List Str).map (He.Fa.noat "Counts")
  ++ (["line_here", "width", "can_choose", "choose", "go_way", "arrive", "leave", "fail_here", "arrival"] : List Str).map (He.Fa.meth "Position")
  ++ (["fill", "behind_call", "behind_fault", "from_spot", "add_call", "behind_frame"] : List Str).map (He.Fa.meth "Counts")
abbrev R : PySem.W.OpenRow := PySem.W.OpenLaw.row PySem.Challenge.rw_outandover_k28_whole_counts_and_lists
abbrev hk : PySem.W.Hook := He.hookD 5 faL fnL
def ob (s : PySem.W.SharedT) : He.AlD := He.obsDG 5 faL fnL (HandSHeadRun.getT s)
theorem ob_eq (s : PySem.W.SharedT) : ob s = hk.obs s.abs := He.obsDG_eq (HandSHeadRun.getT_eq s)
def names : List Str := ["_wall", "StepError", "ProgramError", "NotUsable", "is_integer", "is_number", "table_of", "handler_line", "Position", "first_position", "follow_run", "runs_of", "add_to", "over_if", "Counts", "how_many_runs", "options_after", "is_run",
  "_law_feed", "_law_draw", "_law_any", "_law_hands", "_law_great", "_law_calls", "_law_function", "_law_program", "_law_next_right"]
theorem run (w : World) : HandSHeadRun.RunEq R (PySem.W.view R.prog [33]) hk ob 4000 names w := by
  intro os
  kernel_rfl
end K28

set_option Elab.async false
set_option linter.all false
/-! The machine, its runs, their numbers: plain Lean. -/
namespace K28
open PySem

/-! ### sums -/
def sm : Nat → (Nat → Nat) → Nat
  | 0, _ => 0
  | n + 1, f => sm n f + f n
theorem sm_congr {f g : Nat → Nat} : ∀ n, (∀ k, k < n → f k = g k) → sm n f = sm n g
  | 0, _ => rfl
  | n + 1, h => by
    show sm n f + f n = sm n g + g n
    rw [sm_congr n fun k hk => h k (Nat.lt_succ_of_lt hk), h n (Nat.lt_succ_self n)]
theorem sm_zero : ∀ n, sm n (fun _ => 0) = 0
  | 0 => rfl
  | n + 1 => by show sm n _ + 0 = 0; rw [sm_zero n]
theorem sm_add (f g : Nat → Nat) : ∀ n, sm n (fun k => f k + g k) = sm n f + sm n g
  | 0 => rfl
  | n + 1 => by
    show sm n _ + (f n + g n) = (sm n f + f n) + (sm n g + g n)
    rw [sm_add f g n]; omega
theorem sm_comm (f : Nat → Nat → Nat) (m : Nat) : ∀ n, sm n (fun k => sm m (fun j => f k j)) = sm m (fun j => sm n (fun k => f k j))
  | 0 => by show 0 = sm m (fun _ => 0); rw [sm_zero]
  | n + 1 => by
    show sm n _ + sm m (f n) = sm m (fun j => sm n (fun k => f k j) + f n j)
    rw [sm_comm f m n, sm_add]
theorem sm_front (f : Nat → Nat) : ∀ n, sm (n + 1) f = f 0 + sm n (fun k => f (k + 1))
  | 0 => by show 0 + f 0 = f 0 + 0; omega
  | n + 1 => by
    show sm (n + 1) f + f (n + 1) = f 0 + (sm n (fun k => f (k + 1)) + f (n + 1))
    rw [sm_front f n]; omega
theorem sm_one (f : Nat → Nat) (a : Nat) (h : ∀ k, k ≠ 0 → f k = 0) (h0 : f 0 = a) : ∀ n, sm (n + 1) f = a
  | 0 => by show 0 + f 0 = a; omega
  | n + 1 => by
    show sm (n + 1) f + f (n + 1) = a
    rw [sm_one f a h h0 n, h (n + 1) (by omega)]; omega
theorem sm_le {f g : Nat → Nat} : ∀ n, (∀ k, k < n → f k ≤ g k) → sm n f ≤ sm n g
  | 0, _ => Nat.le_refl _
  | n + 1, h => Nat.add_le_add (sm_le n fun k hk => h k (Nat.lt_succ_of_lt hk)) (h n (Nat.lt_succ_self n))
theorem sm_const (c : Nat) : ∀ n, sm n (fun _ => c) = n * c
  | 0 => by show 0 = 0 * c; rw [Nat.zero_mul]
  | n + 1 => by show sm n _ + c = _; rw [sm_const c n, Nat.succ_mul]
theorem sm_list (f : Nat → Nat) : ∀ n, ((List.range n).map f).sum = sm n f
  | 0 => rfl
  | n + 1 => by
    rw [List.range_succ, List.map_append, List.sum_append, sm_list f n]
    show _ + (f n + 0) = _; rfl

/-! ### programs -/
inductive Way where
  | num (n : Nat) | back | fail (k : Str)
  deriving DecidableEq
abbrev Line := List Str × List Way × List (Str × Nat)
abbrev Fn := Str × List Line
abbrev Prog := List Fn
abbrev Spot := Str × Nat
inductive End where
  | back | fail (k : Str)
  deriving DecidableEq
abbrev Outc := Option End

def lineAt (p : Prog) (s : Spot) : Option Line := (p.lookup s.1).bind fun ls => ls[s.2]?
def lineD (p : Prog) (s : Spot) : Line := (lineAt p s).getD ([], [], [])
def eS : Str := ⟨#[]⟩
def handler : List (Str × Nat) → Str → Option Nat
  | [], _ => none
  | (w, i) :: r, k => if w = k ∨ w = eS then some i else handler r k
inductive Conf where
  | run (st : List Spot) (call : Bool)
  | over (e : End)
def failHere (p : Prog) : List Spot → Str → Conf
  | [], k => .over (.fail k)
  | s :: r, k => match handler (lineD p s).2.2 k with
    | some t => .run ((s.1, t) :: r) true
    | none => failHere p r k
def leaveBack : List Spot → Conf
  | [] => .over .back
  | s :: r => .run (s :: r) false
def stepCall (s : Spot) (r : List Spot) : Option Str → Conf
  | some nm => if nm = eS then .run (s :: r) false else .run ((nm, 0) :: s :: r) true
  | none => .run (s :: r) true
def stepWay (p : Prog) (s : Spot) (r : List Spot) : Option Way → Conf
  | some (.num i) => .run ((s.1, i) :: r) true
  | some .back => leaveBack r
  | some (.fail k) => failHere p (s :: r) k
  | none => .run (s :: r) false
def step (p : Prog) : Conf → Nat → Conf
  | .run (s :: r) true, c => stepCall s r (lineD p s).1[c]?
  | .run (s :: r) false, c => stepWay p s r (lineD p s).2.1[c]?
  | .run [] b, _ => .run [] b
  | .over e, _ => .over e
def width (p : Prog) : Conf → Nat
  | .run (s :: _) true => (lineD p s).1.length
  | .run (s :: _) false => (lineD p s).2.1.length
  | .run [] _ => 0
  | .over _ => 0
def runs (p : Prog) : Nat → Conf → List (List Nat)
  | 0, _ => [[]]
  | n + 1, c => (List.range (width p c)).flatMap fun k => (runs p n (step p c k)).map (k :: ·)
def after (p : Prog) (c : Conf) (ks : List Nat) : Conf := ks.foldl (step p) c
/-- the rows of n choices, weighed by what they lead to -/
def T (p : Prog) (w : Outc → Nat) : Nat → Conf → Nat
  | 0, .run _ _ => w none
  | 0, .over e => w (some e)
  | n + 1, c => sm (width p c) fun k => T p w n (step p c k)

theorem T_over (p : Prog) (w : Outc → Nat) (e : End) : ∀ n, T p w n (.over e) = if n = 0 then w (some e) else 0
  | 0 => rfl
  | n + 1 => by rw [if_neg (Nat.succ_ne_zero n)]; rfl
theorem runs_length (p : Prog) : ∀ n c, (runs p n c).length = T p (fun _ => 1) n c
  | 0, .run _ _ => rfl
  | 0, .over _ => rfl
  | n + 1, c => by
    show ((List.range (width p c)).flatMap _).length = sm _ _
    rw [List.length_flatMap, ← sm_list]
    congr 1
    apply List.map_congr_left
    intro k _
    rw [List.length_map, runs_length p n]

/-! ### a frame below -/
def under (p : Prog) (s : Spot) : Conf → Conf
  | .run st d => .run (st ++ [s]) d
  | .over .back => .run [s] false
  | .over (.fail k) => failHere p [s] k
def Conf.ok : Conf → Prop
  | .run st _ => st ≠ []
  | .over _ => True
theorem failHere_ok (p : Prog) : ∀ st k, (failHere p st k).ok
  | [], _ => trivial
  | s :: r, k => by
    unfold failHere
    split
    · exact List.cons_ne_nil _ _
    · exact failHere_ok p r k
theorem leaveBack_ok : ∀ st, (leaveBack st).ok
  | [] => trivial
  | _ :: _ => List.cons_ne_nil _ _
theorem step_ok (p : Prog) : ∀ c k, c.ok → (step p c k).ok
  | .run [] _, _, h => absurd rfl h
  | .over _, _, h => trivial
  | .run (s :: r) true, k, _ => by
    show (stepCall s r _).ok
    unfold stepCall
    split
    · split
      · exact List.cons_ne_nil _ _
      · exact List.cons_ne_nil _ _
    · exact List.cons_ne_nil _ _
  | .run (s :: r) false, k, _ => by
    show (stepWay p s r _).ok
    unfold stepWay
    split
    · exact List.cons_ne_nil _ _
    · exact leaveBack_ok r
    · exact failHere_ok p _ _
    · exact List.cons_ne_nil _ _
theorem failHere_under (p : Prog) (s : Spot) (k : Str) : ∀ st, failHere p (st ++ [s]) k = under p s (failHere p st k)
  | [] => rfl
  | q :: r => by
    show failHere p (q :: (r ++ [s])) k = _
    unfold failHere
    cases h : handler (lineD p q).2.2 k with
    | some t => rfl
    | none => exact failHere_under p s k r
theorem leaveBack_under (p : Prog) (s : Spot) : ∀ st, leaveBack (st ++ [s]) = under p s (leaveBack st)
  | [] => rfl
  | _ :: _ => rfl
theorem step_under (p : Prog) (s : Spot) : ∀ st d k, st ≠ [] → step p (.run (st ++ [s]) d) k = under p s (step p (.run st d) k)
  | [], _, _, h => absurd rfl h
  | q :: r, true, k, _ => by
    show stepCall q (r ++ [s]) _ = under p s (stepCall q r _)
    unfold stepCall
    split
    · split <;> rfl
    · rfl
  | q :: r, false, k, _ => by
    show stepWay p q (r ++ [s]) _ = under p s (stepWay p q r _)
    unfold stepWay
    split
    · rfl
    · exact leaveBack_under p s r
    · exact failHere_under p s _ (q :: r)
    · rfl
theorem width_under (p : Prog) (s : Spot) : ∀ st d, st ≠ [] → width p (.run (st ++ [s]) d) = width p (.run st d)
  | [], _, h => absurd rfl h
  | _ :: _, true, _ => rfl
  | _ :: _, false, _ => rfl
def phi (p : Prog) (s : Spot) (w : Outc → Nat) (m u : Nat) : Outc → Nat
  | none => if u = m then w none else 0
  | some e => T p w (m - u) (under p s (.over e))
theorem phi_succ (p : Prog) (s : Spot) (w : Outc → Nat) (m u : Nat) : phi p s w (m + 1) (u + 1) = phi p s w m u := by
  funext o
  cases o with
  | none =>
    show (if u + 1 = m + 1 then _ else 0) = if u = m then _ else 0
    by_cases h : u = m
    · rw [if_pos h, if_pos (by omega)]
    · rw [if_neg h, if_neg (by omega)]
  | some e =>
    show T p w (m + 1 - (u + 1)) _ = T p w (m - u) _
    rw [Nat.add_sub_add_right]
theorem T_under (p : Prog) (s : Spot) (w : Outc → Nat) : ∀ m c, c.ok → T p w m (under p s c) = sm (m + 1) fun u => T p (phi p s w m u) u c
  | m, .over e, _ => by
    rw [sm_one _ (T p w m (under p s (.over e)))]
    · intro k hk
      rw [T_over, if_neg hk]
    · rfl
  | 0, .run st d, _ => by
    show w none = 0 + (if 0 = 0 then w none else 0)
    rw [if_pos rfl, Nat.zero_add]
  | m + 1, .run st d, h => by
    have hne : st ≠ [] := h
    show sm (width p (.run (st ++ [s]) d)) (fun k => T p w m (step p (.run (st ++ [s]) d) k)) = _
    rw [width_under p s st d hne, sm_front]
    have e0 : T p (phi p s w (m + 1) 0) 0 (.run st d) = 0 := by
      show (if 0 = m + 1 then w none else 0) = 0
      rw [if_neg (by omega)]
    rw [e0, Nat.zero_add]
    have e1 : ∀ k, k < width p (.run st d) → T p w m (step p (.run (st ++ [s]) d) k) = sm (m + 1) fun u => T p (phi p s w m u) u (step p (.run st d) k) := fun k _ => by
      rw [step_under p s st d k hne]
      exact T_under p s w m _ (step_ok p _ k h)
    rw [sm_congr _ e1, sm_comm]
    apply sm_congr
    intro u _
    show _ = sm (width p (.run st d)) fun k => T p (phi p s w (m + 1) (u + 1)) u (step p (.run st d) k)
    rw [phi_succ]

/-! ### bounds -/
def Widths (p : Prog) (W : Nat) : Prop := ∀ c, width p c ≤ W
theorem T_le {p : Prog} {W : Nat} (h : Widths p W) : ∀ n c, T p (fun _ => 1) n c ≤ W ^ n
  | 0, .run _ _ => Nat.le_refl _
  | 0, .over _ => Nat.le_refl _
  | n + 1, c => by
    show sm _ _ ≤ _
    refine Nat.le_trans (sm_le (g := fun _ => W ^ n) _ fun k _ => T_le h n _) ?_
    rw [sm_const, Nat.pow_succ, Nat.mul_comm]
    exact Nat.mul_le_mul_left _ (h c)

/-! ### tables of outcomes -/
abbrev Tab := List (Outc × Nat)
def wsum (d : Tab) (w : Outc → Nat) : Nat := (d.map fun x => x.2 * w x.1).sum
def getT (d : Tab) (o : Outc) : Nat := (d.lookup o).getD 0
def putT : Tab → Outc → Nat → Tab
  | [], o, n => [(o, n)]
  | (q, m) :: r, o, n => if q = o then (q, n) :: r else (q, m) :: putT r o n
theorem wsum_cons (x : Outc × Nat) (d : Tab) (w : Outc → Nat) : wsum (x :: d) w = x.2 * w x.1 + wsum d w := by
  unfold wsum; rw [List.map_cons, List.sum_cons]
theorem getT_cons (q o : Outc) (m : Nat) (r : Tab) : getT ((q, m) :: r) o = if q = o then m else getT r o := by
  unfold getT
  rw [List.lookup_cons]
  by_cases h : q = o
  · subst h
    rw [if_pos rfl]
    simp
  · rw [if_neg h]
    have hb : (o == q) = false := by simpa using fun z => h z.symm
    rw [hb]
theorem wsum_put (w : Outc → Nat) (o : Outc) (n : Nat) : ∀ d : Tab, wsum (putT d o (getT d o + n)) w = wsum d w + n * w o
  | [] => by
    show wsum [(o, 0 + n)] w = 0 + n * w o
    rw [wsum_cons]; show (0 + n) * w o + 0 = _; rw [Nat.zero_add, Nat.zero_add, Nat.add_zero]
  | (q, m) :: r => by
    rw [getT_cons]
    unfold putT
    by_cases h : q = o
    · subst h
      rw [if_pos rfl, if_pos rfl, wsum_cons, wsum_cons, Nat.add_mul]; dsimp only; omega
    · rw [if_neg h, if_neg h, wsum_cons, wsum_cons, wsum_put w o n r]; omega
theorem keys_put (o : Outc) (n : Nat) : ∀ d : Tab, (∀ x, x ∈ (putT d o n).map (·.1) → x ∈ d.map (·.1) ∨ x = o)
  | [], x, h => by
    have h' : x ∈ [o] := h
    exact .inr (List.mem_singleton.mp h')
  | (q, m) :: r, x, h => by
    unfold putT at h
    by_cases e : q = o
    · rw [if_pos e] at h
      exact .inl h
    · rw [if_neg e] at h
      rcases List.mem_cons.mp h with h | h
      · exact .inl (List.mem_cons.mpr (.inl h))
      · rcases keys_put o n r x h with h | h
        · exact .inl (List.mem_cons_of_mem _ h)
        · exact .inr h
theorem nodup_put (o : Outc) (n : Nat) : ∀ d : Tab, (d.map (·.1)).Nodup → ((putT d o n).map (·.1)).Nodup
  | [], _ => by show ([o] : List Outc).Nodup; simp
  | (q, m) :: r, h => by
    rw [List.map_cons, List.nodup_cons] at h
    unfold putT
    by_cases e : q = o
    · rw [if_pos e, List.map_cons, List.nodup_cons]
      exact h
    · rw [if_neg e, List.map_cons, List.nodup_cons]
      refine ⟨fun z => ?_, nodup_put o n r h.2⟩
      rcases keys_put o n r _ z with z | z
      · exact h.1 z
      · exact e z
theorem wsum_le (d : Tab) {o : Outc} {n : Nat} (h : (o, n) ∈ d) : n ≤ wsum d (fun _ => 1) := by
  induction d with
  | nil => cases h
  | cons x r ih =>
    rw [wsum_cons, Nat.mul_one]
    rcases List.mem_cons.mp h with h | h
    · rw [← h]; exact Nat.le_add_right _ _
    · exact Nat.le_trans (ih h) (Nat.le_add_left _ _)
theorem wsum_vals (d : Tab) : (d.map (·.2)).sum = wsum d (fun _ => 1) := by
  unfold wsum
  congr 1
  apply List.map_congr_left
  intro x _
  show x.2 = x.2 * 1
  rw [Nat.mul_one]
theorem getT_le (d : Tab) (o : Outc) : getT d o ≤ wsum d (fun _ => 1) := by
  induction d with
  | nil => exact Nat.zero_le _
  | cons x r ih =>
    obtain ⟨q, m⟩ := x
    rw [getT_cons, wsum_cons]
    by_cases h : q = o
    · rw [if_pos h, Nat.mul_one]; exact Nat.le_add_right _ _
    · rw [if_neg h]; exact Nat.le_trans ih (Nat.le_add_left _ _)

def failsW : List Way → List Str
  | [] => []
  | .fail k :: r => k :: failsW r
  | .num _ :: r => failsW r
  | .back :: r => failsW r
def kinds (p : Prog) : List Str := p.flatMap fun f => f.2.flatMap fun l => failsW l.2.1
def outs (p : Prog) : List Outc := none :: some .back :: (kinds p).map fun k => some (.fail k)
/-- d tells the rows of n choices from c -/
structure GoodC (p : Prog) (n : Nat) (c : Conf) (d : Tab) : Prop where
  eq : ∀ w, wsum d w = T p w n c
  nd : (d.map (·.1)).Nodup
  keys : ∀ o ∈ d.map (·.1), o ∈ outs p
theorem nodup_sub_len {α : Type} [DecidableEq α] : ∀ {l m : List α}, l.Nodup → (∀ x ∈ l, x ∈ m) → l.length ≤ m.length
  | [], m, _, _ => Nat.zero_le _
  | x :: r, m, h, hs => by
    rw [List.nodup_cons] at h
    have hx := hs x List.mem_cons_self
    have h1 : r.length ≤ (m.erase x).length := nodup_sub_len h.2 fun y hy => by
      refine (List.mem_erase_of_ne ?_).mpr (hs y (List.mem_cons_of_mem _ hy))
      rintro rfl
      exact h.1 hy
    rw [List.length_erase_of_mem hx] at h1
    have h2 := List.length_pos_of_mem hx
    rw [List.length_cons]
    omega
theorem failsW_mem {k : Str} : ∀ {ws : List Way}, Way.fail k ∈ ws → k ∈ failsW ws
  | [], h => nomatch h
  | .fail j :: r, h => by
    rcases List.mem_cons.mp h with h | h
    · cases h; exact List.mem_cons_self
    · exact List.mem_cons_of_mem _ (failsW_mem h)
  | .num _ :: r, h => by
    rcases List.mem_cons.mp h with h | h
    · cases h
    · show k ∈ failsW r
      exact failsW_mem h
  | .back :: r, h => by
    rcases List.mem_cons.mp h with h | h
    · cases h
    · show k ∈ failsW r
      exact failsW_mem h
end K28

set_option Elab.async false
set_option linter.all false
/-! The list of runs: its order, its growth, the walk that lists it. Plain Lean. -/
namespace K28
open PySem

theorem after_snoc (p : Prog) (c : Conf) (ks : List Nat) (k : Nat) : after p c (ks ++ [k]) = step p (after p c ks) k := by
  unfold after; rw [List.foldl_append]; rfl
theorem after_cons (p : Prog) (c : Conf) (k : Nat) (ks : List Nat) : after p c (k :: ks) = after p (step p c k) ks := rfl
theorem runs_len (p : Prog) : ∀ n c r, r ∈ runs p n c → r.length = n
  | 0, c, r, h => by
    have h' : r ∈ [[]] := h
    rw [List.mem_singleton.mp h']; rfl
  | n + 1, c, r, h => by
    have h' : r ∈ (List.range (width p c)).flatMap fun k => (runs p n (step p c k)).map (k :: ·) := h
    obtain ⟨k, _, h1⟩ := List.mem_flatMap.mp h'
    obtain ⟨q, hq, rfl⟩ := List.mem_map.mp h1
    rw [List.length_cons, runs_len p n _ q hq]
/-- ks can be made from c -/
def Can (p : Prog) : Conf → List Nat → Prop
  | _, [] => True
  | c, k :: r => k < width p c ∧ Can p (step p c k) r
theorem runs_can (p : Prog) : ∀ n c r, r ∈ runs p n c → Can p c r
  | 0, c, r, h => by
    have h' : r ∈ [[]] := h
    rw [List.mem_singleton.mp h']; trivial
  | n + 1, c, r, h => by
    have h' : r ∈ (List.range (width p c)).flatMap fun k => (runs p n (step p c k)).map (k :: ·) := h
    obtain ⟨k, hk, h1⟩ := List.mem_flatMap.mp h'
    obtain ⟨q, hq, rfl⟩ := List.mem_map.mp h1
    exact ⟨List.mem_range.mp hk, runs_can p n _ q hq⟩
/-- the rows of n + 1 choices go on from those of n -/
def grow (p : Prog) (c : Conf) (rs : List (List Nat)) : List (List Nat) := rs.flatMap fun r => (List.range (width p (after p c r))).map fun k => r ++ [k]
theorem flatMap_map' {α β γ : Type} (f : α → β) (g : β → List γ) : ∀ l : List α, (l.map f).flatMap g = l.flatMap fun x => g (f x)
  | [] => rfl
  | x :: r => by rw [List.map_cons, List.flatMap_cons, List.flatMap_cons, flatMap_map' f g r]
theorem map_flatMap' {α β γ : Type} (f : β → γ) (g : α → List β) : ∀ l : List α, (l.flatMap g).map f = l.flatMap fun x => (g x).map f
  | [] => rfl
  | x :: r => by rw [List.flatMap_cons, List.map_append, List.flatMap_cons, map_flatMap' f g r]
theorem flatMap_assoc' {α β γ : Type} (f : α → List β) (g : β → List γ) : ∀ l : List α, (l.flatMap f).flatMap g = l.flatMap fun x => (f x).flatMap g
  | [] => rfl
  | x :: r => by rw [List.flatMap_cons, List.flatMap_append, List.flatMap_cons, flatMap_assoc' f g r]
theorem flatMap_sing {α β : Type} (f : α → β) : ∀ l : List α, (l.flatMap fun x => [f x]) = l.map f
  | [] => rfl
  | x :: r => by rw [List.flatMap_cons, flatMap_sing f r]; rfl
theorem flatMap_congr' {α β : Type} {f g : α → List β} : ∀ {l : List α}, (∀ x ∈ l, f x = g x) → l.flatMap f = l.flatMap g
  | [], _ => rfl
  | x :: r, h => by rw [List.flatMap_cons, List.flatMap_cons, h x List.mem_cons_self, flatMap_congr' fun y hy => h y (List.mem_cons_of_mem _ hy)]
theorem runs_grow (p : Prog) : ∀ n c, runs p (n + 1) c = grow p c (runs p n c)
  | 0, c => by
    show (List.range (width p c)).flatMap (fun k => [[]].map (k :: ·)) = (List.range (width p c)).map (fun k => [] ++ [k]) ++ []
    rw [List.append_nil]
    exact flatMap_sing (fun k => [k]) _
  | n + 1, c => by
    show (List.range (width p c)).flatMap (fun k => (runs p (n + 1) (step p c k)).map (k :: ·)) = ((List.range (width p c)).flatMap fun k => (runs p n (step p c k)).map (k :: ·)).flatMap _
    rw [flatMap_assoc']
    refine flatMap_congr' fun k _ => ?_
    rw [runs_grow p n, flatMap_map']
    show ((runs p n (step p c k)).flatMap _).map _ = _
    rw [map_flatMap']
    refine flatMap_congr' fun r _ => ?_
    rw [List.map_map]
    rfl
theorem grow_length (p : Prog) (c : Conf) (rs : List (List Nat)) : (grow p c rs).length = (rs.map fun r => width p (after p c r)).sum := by
  unfold grow
  rw [List.length_flatMap]
  congr 1
  apply List.map_congr_left
  intro r _
  rw [List.length_map, List.length_range]

/-! ### the order -/
def ltL (a b : List Nat) : Prop := HT.lexLt (a.map fun (k : Nat) => (k : Int)) (b.map fun (k : Nat) => (k : Int)) = true
theorem ltL_cons (k : Nat) {a b : List Nat} (h : ltL a b) : ltL (k :: a) (k :: b) := by
  unfold ltL
  rw [List.map_cons, List.map_cons, HT.lexLt_cons, if_pos rfl]
  exact h
theorem ltL_head {j k : Nat} (a b : List Nat) (h : j < k) : ltL (j :: a) (k :: b) := by
  unfold ltL
  rw [List.map_cons, List.map_cons, HT.lexLt_cons, if_neg (by omega)]
  exact decide_eq_true (by omega)
theorem pair_flat {α : Type} {R : α → α → Prop} (f : Nat → List α) : ∀ n, (∀ k, k < n → (f k).Pairwise R) → (∀ j k, j < k → k < n → ∀ x ∈ f j, ∀ y ∈ f k, R x y) → ((List.range n).flatMap f).Pairwise R
  | 0, _, _ => List.Pairwise.nil
  | n + 1, h1, h2 => by
    rw [List.range_succ, List.flatMap_append]
    rw [List.pairwise_append]
    refine ⟨pair_flat f n (fun k hk => h1 k (Nat.lt_succ_of_lt hk)) fun j k hj hk => h2 j k hj (Nat.lt_succ_of_lt hk), ?_, ?_⟩
    · rw [List.flatMap_cons, List.flatMap_nil, List.append_nil]
      exact h1 n (Nat.lt_succ_self n)
    · intro x hx y hy
      rw [List.flatMap_cons, List.flatMap_nil, List.append_nil] at hy
      obtain ⟨j, hj, hx⟩ := List.mem_flatMap.mp hx
      exact h2 j n (List.mem_range.mp hj) (Nat.lt_succ_self n) x hx y hy
theorem runs_sorted (p : Prog) : ∀ n c, (runs p n c).Pairwise ltL
  | 0, _ => List.pairwise_singleton _ _
  | n + 1, c => by
    refine pair_flat _ _ (fun k _ => ?_) fun j k hj _ x hx y hy => ?_
    · rw [List.pairwise_map]
      exact (runs_sorted p n (step p c k)).imp fun h => ltL_cons k h
    · obtain ⟨a, _, rfl⟩ := List.mem_map.mp hx
      obtain ⟨b, _, rfl⟩ := List.mem_map.mp hy
      exact ltL_head a b hj
theorem pair_next {α : Type} {R : α → α → Prop} {l : List α} (h : l.Pairwise R) {i : Nat} {x y : α} (hx : l[i]? = some x) (hy : l[i + 1]? = some y) : R x y := by
  obtain ⟨h1, e1⟩ := List.getElem?_eq_some_iff.mp hx
  obtain ⟨h2, e2⟩ := List.getElem?_eq_some_iff.mp hy
  rw [← e1, ← e2]
  exact List.pairwise_iff_getElem.mp h i (i + 1) h1 h2 (Nat.lt_succ_self i)

/-! ### the walk: what waits, the next one first -/
abbrev Wait := List (List Nat × Conf)
def outW (p : Prog) (n : Nat) (l : Wait) : List (List Nat) := l.flatMap fun x => (runs p (n - x.1.length) x.2).map (x.1 ++ ·)
def kids (p : Prog) (r : List Nat) (c : Conf) (w : Nat) : Wait := (List.range w).map fun k => (r ++ [k], step p c k)
def size (p : Prog) : Nat → Conf → Nat
  | 0, _ => 1
  | n + 1, c => 1 + sm (width p c) fun k => size p n (step p c k)
def sizeW (p : Prog) (n : Nat) (l : Wait) : Nat := (l.map fun x => size p (n - x.1.length) x.2).sum
theorem size_pos (p : Prog) : ∀ n c, 0 < size p n c
  | 0, _ => Nat.one_pos
  | n + 1, c => by show 0 < 1 + _; omega
theorem outW_leaf (p : Prog) {n : Nat} {r : List Nat} {c : Conf} {l : Wait} (h : r.length = n) : outW p n ((r, c) :: l) = r :: outW p n l := by
  show (runs p (n - r.length) c).map (r ++ ·) ++ _ = _
  rw [h, Nat.sub_self]
  show [r ++ []] ++ _ = _
  rw [List.append_nil]; rfl
theorem outW_node (p : Prog) {n : Nat} {r : List Nat} {c : Conf} {l : Wait} (h : r.length < n) : outW p n ((r, c) :: l) = outW p n (kids p r c (width p c) ++ l) := by
  unfold outW
  rw [List.flatMap_cons, List.flatMap_append]
  congr 1
  unfold kids
  rw [flatMap_map']
  obtain ⟨m, hm⟩ : ∃ m, n - r.length = m + 1 := ⟨n - r.length - 1, by omega⟩
  rw [show n - (r, c).1.length = m + 1 from hm]
  show ((List.range (width p c)).flatMap _).map _ = _
  rw [map_flatMap']
  refine flatMap_congr' fun k _ => ?_
  rw [List.map_map]
  have e : n - (r ++ [k]).length = m := by rw [List.length_append, List.length_singleton]; omega
  show _ = (runs p (n - (r ++ [k]).length) (step p c k)).map ((r ++ [k]) ++ ·)
  rw [e]
  apply List.map_congr_left
  intro q _
  show r ++ (k :: q) = r ++ [k] ++ q
  rw [List.append_assoc]; rfl
theorem sizeW_leaf (p : Prog) {n : Nat} {x : List Nat × Conf} {l : Wait} : sizeW p n l < sizeW p n (x :: l) := by
  unfold sizeW
  rw [List.map_cons, List.sum_cons]
  have := size_pos p (n - x.1.length) x.2
  omega
theorem sizeW_node (p : Prog) {n : Nat} {r : List Nat} {c : Conf} {l : Wait} (h : r.length < n) : sizeW p n (kids p r c (width p c) ++ l) < sizeW p n ((r, c) :: l) := by
  unfold sizeW
  rw [List.map_append, List.sum_append, List.map_cons, List.sum_cons]
  obtain ⟨m, hm⟩ : ∃ m, n - r.length = m + 1 := ⟨n - r.length - 1, by omega⟩
  have e : ((kids p r c (width p c)).map fun x => size p (n - x.1.length) x.2).sum = sm (width p c) fun k => size p m (step p c k) := by
    unfold kids
    rw [List.map_map, ← sm_list]
    congr 1
    apply List.map_congr_left
    intro k _
    show size p (n - (r ++ [k]).length) (step p c k) = size p m (step p c k)
    have e : n - (r ++ [k]).length = m := by rw [List.length_append, List.length_singleton]; omega
    rw [e]
  rw [e]
  show _ < size p (n - r.length) c + _
  rw [hm]
  show _ < (1 + _) + _
  omega
end K28

set_option Elab.async false
set_option linter.all false
set_option maxRecDepth 100000
/-! Data on the heap; defs as promises. -/
namespace K28
open PySem PySem.Spec PyProof.Rows L2

/-! ### data that never changes -/
mutual
def Im (H : Hp) : PyData → V → Prop
  | .none, v => v = .non
  | .bool b, v => v = .bl b
  | .int i, v => v = .int i
  | .str x, v => v = .str x
  | .tuple ds, v => ∃ a xs, v = .ref a ∧ H a = some (.tup xs) ∧ ImAll H ds xs
  | .list _, _ => False
  | .dict _, _ => False
def ImAll (H : Hp) : List PyData → List V → Prop
  | [], xs => xs = []
  | d :: ds, xs => ∃ x r, xs = x :: r ∧ Im H d x ∧ ImAll H ds r
end
def TupK (H H' : Hp) : Prop := ∀ b xs, H b = some (.tup xs) → H' b = some (.tup xs)
/-- all is kept but what stands at F -/
def Chg (F : List Addr) (H H' : Hp) : Prop := ∀ b o, H b = some o → b ∉ F → H' b = some o
theorem TupK.refl (H : Hp) : TupK H H := fun _ _ e => e
theorem TupK.trans {H H1 H2 : Hp} (a : TupK H H1) (b : TupK H1 H2) : TupK H H2 := fun c o h => b c o (a c o h)
theorem Same.tup {H H' : Hp} (s : Same H H') : TupK H H' := fun b _ e => s b _ e
theorem Chg.refl (F : List Addr) (H : Hp) : Chg F H H := fun _ _ e _ => e
theorem Chg.trans {F : List Addr} {H H1 H2 : Hp} (a : Chg F H H1) (b : Chg F H1 H2) : Chg F H H2 := fun c o h n => b c o (a c o h n) n
theorem Chg.same {H H' : Hp} (c : Chg [] H H') : Same H H' := fun b o e => c b o e List.not_mem_nil
theorem Same.chg {F : List Addr} {H H' : Hp} (s : Same H H') : Chg F H H' := fun b o e _ => s b o e
theorem Chg.mono {F G : List Addr} {H H' : Hp} (c : Chg F H H') (h : ∀ b ∈ F, b ∈ G) : Chg G H H' := fun b o e n => c b o e fun z => n (h b z)
/-- no tuple stands at F -/
def NoTup (F : List Addr) (H : Hp) : Prop := ∀ b ∈ F, ∀ xs, H b ≠ some (.tup xs)
theorem Chg.tup {F : List Addr} {H H' : Hp} (c : Chg F H H') (n : NoTup F H) : TupK H H' := fun b xs e => c b _ e fun z => n b z xs e
theorem same_upd {H : Hp} {p : Addr} {o : HO} (h : H p = none) : Same H (upd H p o) := fun b u e => by
  rw [upd_ne (ne_of_none e h)]; exact e
theorem tup_upd {H : Hp} {p : Addr} {o : HO} (h : ∀ xs, H p ≠ some (.tup xs)) : TupK H (upd H p o) := fun b u e => by
  by_cases q : b = p
  · subst q; exact absurd e (h u)
  · rw [upd_ne q]; exact e
theorem chg_upd {F : List Addr} {H : Hp} {p : Addr} {o : HO} (h : p ∈ F) : Chg F H (upd H p o) := fun b u e n => by
  rw [upd_ne (fun q : b = p => n (by rw [q]; exact h))]; exact e

mutual
theorem Im.keep {H H' : Hp} (k : TupK H H') : ∀ {d : PyData} {v : V}, Im H d v → Im H' d v
  | .none, _, h => by unfold Im at h ⊢; exact h
  | .bool _, _, h => by unfold Im at h ⊢; exact h
  | .int _, _, h => by unfold Im at h ⊢; exact h
  | .str _, _, h => by unfold Im at h ⊢; exact h
  | .tuple ds, _, h => by
    unfold Im at h ⊢
    obtain ⟨a, xs, e, ha, hx⟩ := h
    exact ⟨a, xs, e, k a xs ha, hx.keep k⟩
  | .list _, _, h => by unfold Im at h; exact h.elim
  | .dict _, _, h => by unfold Im at h; exact h.elim
theorem ImAll.keep {H H' : Hp} (k : TupK H H') : ∀ {ds : List PyData} {xs : List V}, ImAll H ds xs → ImAll H' ds xs
  | [], _, h => by unfold ImAll at h ⊢; exact h
  | d :: ds, _, h => by
    unfold ImAll at h ⊢
    obtain ⟨x, r, e, h1, h2⟩ := h
    exact ⟨x, r, e, h1.keep k, h2.keep k⟩
end
theorem im_tup {H : Hp} {ds : List PyData} {v : V} : Im H (.tuple ds) v ↔ ∃ a xs, v = .ref a ∧ H a = some (.tup xs) ∧ ImAll H ds xs := by unfold Im; exact Iff.rfl
theorem im_int {H : Hp} {i : Int} {v : V} : Im H (.int i) v ↔ v = .int i := by unfold Im; exact Iff.rfl
theorem im_str {H : Hp} {x : Str} {v : V} : Im H (.str x) v ↔ v = .str x := by unfold Im; exact Iff.rfl
theorem imAll_nil {H : Hp} {xs : List V} : ImAll H [] xs ↔ xs = [] := by unfold ImAll; exact Iff.rfl
theorem imAll_cons {H : Hp} {d : PyData} {ds : List PyData} {xs : List V} : ImAll H (d :: ds) xs ↔ ∃ x r, xs = x :: r ∧ Im H d x ∧ ImAll H ds r := by
  constructor
  · intro h; unfold ImAll at h; exact h
  · intro h; unfold ImAll; exact h
theorem ImAll.length {H : Hp} : ∀ {ds : List PyData} {xs : List V}, ImAll H ds xs → xs.length = ds.length
  | [], _, h => by rw [imAll_nil.mp h]; rfl
  | d :: ds, _, h => by
    obtain ⟨x, r, rfl, _, h2⟩ := imAll_cons.mp h
    rw [List.length_cons, List.length_cons, h2.length]
theorem ImAll.get {H : Hp} : ∀ {ds : List PyData} {xs : List V} {i : Nat} {d : PyData}, ImAll H ds xs → ds[i]? = some d → ∃ x, xs[i]? = some x ∧ Im H d x
  | [], _, _, _, _, e => by simp at e
  | d :: ds, _, 0, _, h, e => by
    obtain ⟨x, r, rfl, h1, _⟩ := imAll_cons.mp h
    simp at e; subst e
    exact ⟨x, rfl, h1⟩
  | d :: ds, _, i + 1, _, h, e => by
    obtain ⟨x, r, rfl, _, h2⟩ := imAll_cons.mp h
    obtain ⟨y, e1, e2⟩ := h2.get (by simpa using e)
    exact ⟨y, by simpa using e1, e2⟩
theorem ImAll.getV {H : Hp} : ∀ {ds : List PyData} {xs : List V} {i : Nat} {x : V}, ImAll H ds xs → xs[i]? = some x → ∃ d, ds[i]? = some d ∧ Im H d x
  | [], _, _, _, h, e => by rw [imAll_nil.mp h] at e; simp at e
  | d :: ds, _, 0, _, h, e => by
    obtain ⟨x, r, rfl, h1, _⟩ := imAll_cons.mp h
    simp at e; subst e
    exact ⟨d, rfl, h1⟩
  | d :: ds, _, i + 1, _, h, e => by
    obtain ⟨x, r, rfl, _, h2⟩ := imAll_cons.mp h
    obtain ⟨y, e1, e2⟩ := h2.getV (by simpa using e)
    exact ⟨y, by simpa using e1, e2⟩
theorem ImAll.append {H : Hp} : ∀ {ds es : List PyData} {xs ys : List V}, ImAll H ds xs → ImAll H es ys → ImAll H (ds ++ es) (xs ++ ys)
  | [], _, _, _, h, h' => by rw [imAll_nil.mp h]; exact h'
  | d :: ds, _, _, _, h, h' => by
    obtain ⟨x, r, rfl, h1, h2⟩ := imAll_cons.mp h
    exact imAll_cons.mpr ⟨x, r ++ _, rfl, h1, h2.append h'⟩
theorem imAll_one {H : Hp} {d : PyData} {x : V} (h : Im H d x) : ImAll H [d] [x] := imAll_cons.mpr ⟨x, [], rfl, h, imAll_nil.mpr rfl⟩
theorem imAll_two {H : Hp} {d e : PyData} {x y : V} (h : Im H d x) (h' : Im H e y) : ImAll H [d, e] [x, y] := imAll_cons.mpr ⟨x, [y], rfl, h, imAll_one h'⟩
theorem imAll_three {H : Hp} {d e f : PyData} {x y z : V} (h : Im H d x) (h' : Im H e y) (h'' : Im H f z) : ImAll H [d, e, f] [x, y, z] := imAll_cons.mpr ⟨x, [y, z], rfl, h, imAll_two h' h''⟩
theorem imAll_one' {H : Hp} {d : PyData} {xs : List V} (h : ImAll H [d] xs) : ∃ x, xs = [x] ∧ Im H d x := by
  obtain ⟨x, r, rfl, h1, h2⟩ := imAll_cons.mp h
  rw [imAll_nil.mp h2]; exact ⟨x, rfl, h1⟩
theorem imAll_two' {H : Hp} {d e : PyData} {xs : List V} (h : ImAll H [d, e] xs) : ∃ x y, xs = [x, y] ∧ Im H d x ∧ Im H e y := by
  obtain ⟨x, r, rfl, h1, h2⟩ := imAll_cons.mp h
  obtain ⟨y, rfl, h3⟩ := imAll_one' h2
  exact ⟨x, y, rfl, h1, h3⟩
theorem imAll_three' {H : Hp} {d e f : PyData} {xs : List V} (h : ImAll H [d, e, f] xs) : ∃ x y z, xs = [x, y, z] ∧ Im H d x ∧ Im H e y ∧ Im H f z := by
  obtain ⟨x, r, rfl, h1, h2⟩ := imAll_cons.mp h
  obtain ⟨y, z, rfl, h3, h4⟩ := imAll_two' h2
  exact ⟨x, y, z, rfl, h1, h3, h4⟩
theorem ImAll.reverse {H : Hp} : ∀ {ds : List PyData} {xs : List V}, ImAll H ds xs → ImAll H ds.reverse xs.reverse
  | [], _, h => by rw [imAll_nil.mp h]; exact imAll_nil.mpr rfl
  | d :: ds, _, h => by
    obtain ⟨x, r, rfl, h1, h2⟩ := imAll_cons.mp h
    rw [List.reverse_cons, List.reverse_cons]
    exact h2.reverse.append (imAll_one h1)
/-- behind a list of data an item more: how the values part -/
theorem ImAll.snoc' {H : Hp} {ds : List PyData} {d : PyData} {xs : List V} (h : ImAll H (ds ++ [d]) xs) : ∃ ys x, xs = ys ++ [x] ∧ ImAll H ds ys ∧ Im H d x := by
  have r := h.reverse
  rw [List.reverse_append] at r
  obtain ⟨x, q, e, h1, h2⟩ := imAll_cons.mp r
  refine ⟨q.reverse, x, ?_, ?_, h1⟩
  · have e2 := congrArg List.reverse e
    rw [List.reverse_reverse, List.reverse_cons] at e2
    exact e2
  · have z : ImAll H ds.reverse.reverse q.reverse := ImAll.reverse h2
    rwa [List.reverse_reverse] at z
mutual
theorem Im.dp {K : PySem.W.Frag} {H : Hp} : ∀ {d : PyData} {v : V}, Im H d v → Dp K H v d
  | .none, _, h => by unfold Im at h; subst h; exact .non
  | .bool _, _, h => by unfold Im at h; subst h; exact .bl _
  | .int _, _, h => by unfold Im at h; subst h; exact .int _
  | .str _, _, h => by unfold Im at h; subst h; exact .str _
  | .tuple ds, _, h => by
    obtain ⟨a, xs, rfl, ha, hx⟩ := im_tup.mp h
    exact .tup (.of ha) hx.dp
  | .list _, _, h => by unfold Im at h; exact h.elim
  | .dict _, _, h => by unfold Im at h; exact h.elim
theorem ImAll.dp {K : PySem.W.Frag} {H : Hp} : ∀ {ds : List PyData} {xs : List V}, ImAll H ds xs → DpAll K H xs ds
  | [], _, h => by rw [imAll_nil.mp h]; exact .nil
  | d :: ds, _, h => by
    obtain ⟨x, r, rfl, h1, h2⟩ := imAll_cons.mp h
    exact .cons h1.dp h2.dp
end

/-! ### programs as data -/
def bkS : Str := "back"
def flS : Str := "fail"
def wayD : Way → PyData
  | .num n => .int n
  | .back => .tuple [.str bkS]
  | .fail k => .tuple [.str flS, .str k]
def endD : End → PyData
  | .back => .tuple [.str bkS]
  | .fail k => .tuple [.str flS, .str k]
def handD (h : Str × Nat) : PyData := .tuple [.str h.1, .int h.2]
def lineDt (l : Line) : PyData := .tuple [.tuple (l.1.map PyData.str), .tuple (l.2.1.map wayD), .tuple (l.2.2.map handD)]
def linesD (ls : List Line) : PyData := .tuple (ls.map lineDt)
def fnD (f : Fn) : PyData := .tuple [.str f.1, linesD f.2]
def progD (p : Prog) : PyData := .tuple (p.map fnD)
def spD (s : Spot) : PyData := .tuple [.str s.1, .int s.2]

/-! ### a def by its promise -/
def Ok (P : Program) (w : World) (K : PySem.W.Frag) (mg : Str → Option Value) (base : Heap) (k : Nat) (f : Addr) (ps : List Str) (sp : Sp) : Prop :=
  ∃ fd, FnOk P w K mg base CX0 k f fd ps sp ∧ Binds K fd ps [] ∧ PySem.W.keepIn K (.ref f) = true
/-- the def st stands at f -/
abbrev At (K : PySem.W.Frag) (x qual : Str) (st : Stmt) (f : Addr) : Prop := ∃ fd, FunD K x qual (defArgs st) (defBody st) (defScope st) [] [] f fd
section
variable {P : Program} {w : World} {K : PySem.W.Frag} {mg : Str → Option Value} {base : Heap}
theorem mkOk {x qual : Str} {st : Stmt} {f : Addr} {N ps : List Str} {k : Nat} {sp : Sp} (F : At K x qual st f) (S : FnScope N ps (defScope st))
    (hb : ∀ (kV doc pm : Value) (an : Option Addr) (cdv ct : Value) (us : List Value), us.length = ps.length → bindArgs (PySem.W.fnOf x qual (defArgs st) (defBody st) (defScope st) .none kV doc pm an cdv ct) ⟨us, []⟩ = pure (ps.zip us))
    (len : ∀ vs H Q E, sp vs H Q E → vs.length = ps.length)
    (hbody : ∀ (cdv : Value) (A : Around) (outer : List Env) (s : Shared) (H : Hp) (vs : List V) (Q : VK) (E : XK), Room k (A.deeper (envOfC qual (defScope st) s.heap.objs.size f cdv)) → sp vs H Q E →
      ∃ t, PSs (cxOf CX0 P w K mg base N qual (defScope st) f cdv A outer s H E).nox (defBody st) t ∧ t { nx := fun _ H' => Q .non H', rt := Q } (start N vs) H) : Ok P w K mg base (k + 1) f ps sp := by
  obtain ⟨fd, F⟩ := F
  refine ⟨fd, F.ok S len fun cdv A outer s H vs Q E hr h => ?_, F.bindsN hb, F.kp⟩
  obtain ⟨t, h1, h2⟩ := hbody cdv A outer s H vs Q E hr h
  exact ⟨t, h1.nox, h2⟩
theorem Ok.mono {j k : Nat} {f : Addr} {ps : List Str} {sp : Sp} (O : Ok P w K mg base j f ps sp) (h : j ≤ k) : Ok P w K mg base k f ps sp := by
  obtain ⟨fd, F, b, kp⟩ := O
  exact ⟨fd, F.mono h, b, kp⟩
end
section
variable {X : Cx} {k : Nat} {f C : Addr} {ps : List Str} {sp : Sp} {x m : Str} {p pos apos : Pos} {e o : Expr} {es : List Expr} {ta : TE} {t : TA}
theorem pe_callO (O : Ok X.prog X.w X.K X.mg X.base k f ps sp) (hr : Room k X.A) (hg : Gl X x) (hm : X.mg x = some (.ref f)) (ha : PA X (e :: es) t) (hdb : (x == ("__debug__" : Str)) = false := by decide)
    (he : starEach (e :: es) X.env = (false, eval e X.env) :: starEach es X.env := by rfl) (hpl : (backTo pos (starEach es X.env)).any (·.1) = false := by rfl) : PE X (.Call (.Name x p) (e :: es) [] pos) (tCall sp [] E0 t) := by
  obtain ⟨fd, F, b, kp⟩ := O
  exact pe_call F hr hg hm kp b .nil pass0 ha hdb he hpl
theorem pe_callO0 (O : Ok X.prog X.w X.K X.mg X.base k f ps sp) (hr : Room k X.A) (hg : Gl X x) (hm : X.mg x = some (.ref f)) (hdb : (x == ("__debug__" : Str)) = false := by decide) : PE X (.Call (.Name x p) [] [] pos) (tCall sp [] E0 tNil) := by
  obtain ⟨fd, F, b, kp⟩ := O
  exact pe_call0 F hr hg hm kp b .nil pass0 hdb
theorem pe_methO {pl : Sem Bool} (O : Ok X.prog X.w X.K X.mg X.base k f ps sp) (hr : Room k X.A) (he : PE X o ta) (c : Cls X.K C) (hm : Meth X.K C m f) (ha : PA X (e :: es) t)
    (hst : starEach (e :: es) X.env = (false, eval e X.env) :: starEach es X.env := by rfl) (hpl : (backTo pos (starEach es X.env)).any (·.1) = false := by rfl)
    (ht : eval (.Call (.Attribute o m apos) (e :: es) [] pos) X.env = (do
      let ov ← eval o X.env
      standAt apos.atName
      let (f, first) ← holding [ov] (getMethod ov m pl)
      callWith pos f first (backTo pos (starEach (e :: es) X.env)) (backToKw pos (keywordEach [] X.env))) := by rfl) :
    PE X (.Call (.Attribute o m apos) (e :: es) [] pos) (tMeth C m sp [] E0 ta t) := by
  obtain ⟨fd, F, b, kp⟩ := O
  exact pe_meth he c hm F hr b .nil pass0 ha hst hpl ht
theorem pe_methO0 {pl : Sem Bool} (O : Ok X.prog X.w X.K X.mg X.base k f ps sp) (hr : Room k X.A) (he : PE X o ta) (c : Cls X.K C) (hm : Meth X.K C m f)
    (ht : eval (.Call (.Attribute o m apos) [] [] pos) X.env = (do
      let ov ← eval o X.env
      standAt apos.atName
      let (f, first) ← holding [ov] (getMethod ov m pl)
      callWith pos f first (backTo pos (starEach [] X.env)) (backToKw pos (keywordEach [] X.env))) := by rfl) :
    PE X (.Call (.Attribute o m apos) [] [] pos) (tMeth C m sp [] E0 ta tNil) := by
  obtain ⟨fd, F, b, kp⟩ := O
  exact pe_meth0 he c hm F hr b .nil pass0 ht
end

/-! ### the facts of the text -/
abbrev cP (K : PySem.W.Frag) : Addr := He.ga K "Position"
abbrev cC (K : PySem.W.Frag) : Addr := He.ga K "Counts"
structure Tx (K : PySem.W.Frag) (mg : Str → Option Value) : Prop where
  len : mg "len" = none
  isi : mg "isinstance" = none
  int : mg "int" = none
  bool : mg "bool" = none
  list : mg "list" = none
  tuple : mg "tuple" = none
  rev : mg "reversed" = none
  range : mg "range" = none
  sum : mg "sum" = none
  enum : mg "enumerate" = none
  repr : mg "repr" = none
  dict : mg "dict" = none
  sorted : mg "sorted" = none
  clP : Cls K (cP K)
  nT : NoAttr K (cP K) "table"
  nS : NoAttr K (cP K) "stack"
  nD : NoAttr K (cP K) "due"
  nE : NoAttr K (cP K) "ending"
  clC : Cls K (cC K)
  nL : NoAttr K (cC K) "line_table"
  nC : NoAttr K (cC K) "at_call"
  nW : NoAttr K (cC K) "at_way"
end K28

set_option Elab.async false
set_option linter.all false
set_option maxRecDepth 100000
set_option maxHeartbeats 4000000
/-! kinds, handlers. -/
namespace K28
open PySem PySem.Spec PyProof.Rows L2
section
variable {P : Program} {w : World} {K : PySem.W.Frag} {mg : Str → Option Value} {base : Heap}

/-! ### is_integer, is_number -/
def spIsInteger : Sp := fun vs H Q _ => ∃ x b, vs = [x] ∧ ((∃ i, x = .int i ∧ b = true) ∨ (∃ a xs, x = .ref a ∧ H a = some (.tup xs) ∧ b = false)) ∧ Q (.bl b) H
theorem scIsInt : FnScope ["thing"] ["thing"] (defScope sIsInteger) := ⟨rfl, rfl, rfl, by decide +kernel, rfl, by decide +kernel, by decide +kernel⟩
theorem ok_isInteger {f : Addr} (F : At K "is_integer" "is_integer" sIsInteger f) (T : Tx K mg) : Ok P w K mg base 1 f ["thing"] spIsInteger := by
  refine mkOk F scIsInt (fun _ _ _ _ _ _ us hl => match us, hl with | [_], _ => rfl) (fun vs H Q E h => ?_) (fun cdv A outer s H vs Q E hr h => ?_)
  · obtain ⟨x, b, rfl, _⟩ := h; rfl
  · obtain ⟨x, b, rfl, hx, k⟩ := h
    refine ⟨_, pss_one (ps_ret (pe_and (pe_callB call_isi (by rfl) T.isi PyProof.Rows.boot_isinstance (pa_cons (pv 0) (pa_cons (pe_bltn (v := .ty "int") (by rfl) T.int PyProof.Rows.boot_int rfl) pa_nil)))
      (pe_one (pe_not (pe_callB call_isi (by rfl) T.isi PyProof.Rows.boot_isinstance (pa_cons (pv 0) (pa_cons (pe_bltn (v := .ty "bool") (u := .type "bool") (by rfl) T.bool (by decide +kernel) rfl) pa_nil))))))), ?_⟩
    refine ⟨_, rfl, ?_⟩
    rcases hx with ⟨i, rfl, rfl⟩ | ⟨a, xs, rfl, ha, rfl⟩
    · refine ⟨_, _, _, _, true, rfl, .ty "int", .base (.int i), kit_ty (by decide +kernel), _, rfl, iteT ?_⟩
      exact ⟨_, rfl, _, _, _, _, false, rfl, .ty "bool", .base (.int i), kit_ty (by decide +kernel), _, rfl, k⟩
    · exact ⟨_, _, _, _, false, rfl, .ty "int", .base (.tup ha), kit_ty (by decide +kernel), _, rfl, iteF k⟩
def spIsNumber : Sp := fun vs H Q _ => ∃ x b, vs = [x] ∧ ((∃ i : Int, x = .int i ∧ b = decide (0 ≤ i)) ∨ (∃ a xs, x = .ref a ∧ H a = some (.tup xs) ∧ b = false)) ∧ Q (.bl b) H
theorem scIsNum : FnScope ["thing"] ["thing"] (defScope sIsNumber) := ⟨rfl, rfl, rfl, by decide +kernel, rfl, by decide +kernel, by decide +kernel⟩
theorem ok_isNumber {f g : Addr} (F : At K "is_number" "is_number" sIsNumber f) (G : Ok P w K mg base 1 g ["thing"] spIsInteger) (mgG : mg "is_integer" = some (.ref g)) : Ok P w K mg base 2 f ["thing"] spIsNumber := by
  refine mkOk F scIsNum (fun _ _ _ _ _ _ us hl => match us, hl with | [_], _ => rfl) (fun vs H Q E h => ?_) (fun cdv A outer s H vs Q E hr h => ?_)
  · obtain ⟨x, b, rfl, _⟩ := h; rfl
  · obtain ⟨x, b, rfl, hx, k⟩ := h
    refine ⟨_, pss_one (ps_ret (pe_and (pe_callO G hr (by rfl) mgG (pa_cons (pv 0) pa_nil)) (pe_one (pe_cmpR op_ge (pv 0) pe_int (nomark _))))), ?_⟩
    refine ⟨_, rfl, ?_⟩
    rcases hx with ⟨i, rfl, rfl⟩ | ⟨a, xs, rfl, ha, rfl⟩
    · exact ⟨_, true, rfl, .inl ⟨i, rfl, rfl⟩, _, rfl, iteT ⟨_, rfl, _, _, rfl, rfl, k⟩⟩
    · exact ⟨_, false, rfl, .inr ⟨a, xs, rfl, ha, rfl⟩, _, rfl, iteF k⟩

/-! ### handler_line -/
def hlV (hs : List (Str × Nat)) (k : Str) : Int := match handler hs k with
  | some t => (t : Int)
  | none => -1
def spHandler : Sp := fun vs H Q _ => ∃ v k hs, vs = [v, .str k] ∧ Im H (.tuple (hs.map handD)) v ∧ Q (.int (hlV hs k)) H
theorem scHand : FnScope ["handlers", "kind", "word", "index"] ["handlers", "kind"] (defScope sHandlerLine) := ⟨rfl, rfl, rfl, by decide +kernel, rfl, by decide +kernel, by decide +kernel⟩
theorem hl_hit {hs : List (Str × Nat)} {k : Str} : ∀ {pre : List (Str × Nat)} {x : Str × Nat} {post : List (Str × Nat)}, hs = pre ++ x :: post → (∀ y ∈ pre, ¬ (y.1 = k ∨ y.1 = eS)) → (x.1 = k ∨ x.1 = eS) → hlV hs k = x.2 := by
  intro pre x post e h1 h2
  have q : handler hs k = some x.2 := by
    subst e
    induction pre with
    | nil => show handler (x :: post) k = _; obtain ⟨a, b⟩ := x; unfold handler; rw [if_pos h2]
    | cons y r ih =>
      obtain ⟨a, b⟩ := y
      show handler ((a, b) :: (r ++ x :: post)) k = _
      unfold handler
      rw [if_neg (h1 _ List.mem_cons_self)]
      exact ih fun z hz => h1 z (List.mem_cons_of_mem _ hz)
  unfold hlV; rw [q]
theorem hl_miss {hs : List (Str × Nat)} {k : Str} (h : ∀ y ∈ hs, ¬ (y.1 = k ∨ y.1 = eS)) : hlV hs k = -1 := by
  have q : handler hs k = none := by
    induction hs with
    | nil => rfl
    | cons y r ih =>
      obtain ⟨a, b⟩ := y
      unfold handler
      rw [if_neg (h _ List.mem_cons_self)]
      exact ih fun z hz => h z (List.mem_cons_of_mem _ hz)
  unfold hlV; rw [q]
theorem eS_eq : ("" : Str) = eS := by decide +kernel
theorem ok_handler {f : Addr} (F : At K "handler_line" "handler_line" sHandlerLine f) : Ok P w K mg base 1 f ["handlers", "kind"] spHandler := by
  refine mkOk F scHand (fun _ _ _ _ _ _ us hl => match us, hl with | [_, _], _ => rfl) (fun vs H Q E h => ?_) (fun cdv A outer s H vs Q E hr h => ?_)
  · obtain ⟨x, b, hs, rfl, _⟩ := h; rfl
  · obtain ⟨v, kd, hs, rfl, hv, k⟩ := h
    obtain ⟨a, xs, rfl, ha, hx⟩ := im_tup.mp hv
    refine ⟨_, pss_cons (ps_for PassesOwn.never rfl (pi_tup (pv 0)) (pg_tup (by rfl) (pgs_cons (pg_name (i := 2) scHand.nd rfl (Or.inl rfl)) (pgs_cons (pg_name (i := 3) scHand.nd rfl (Or.inl rfl)) pgs_nil)))
        (pss_one (ps_if (PW.pt (pw_or (pt_cmpR op_eq (pv 2) (pv 1) (nomark _)) (pw_or1 (pt_cmpR op_eq (pv 2) pe_str (nomark _))))) (pss_one (ps_ret (pv 3))) pss_nil)))
      (pss_one (ps_ret (pe_un un_neg pe_int))), ?_⟩
    refine ⟨_, rfl, a, rfl, ⟨xs, .of ha⟩, for_tup (K := K) (a := a) (xs := xs) (fun i σ H' => H' = H ∧ (∃ v2 v3, σ = [some (.ref a), some (.str kd), v2, v3]) ∧ ∀ y ∈ hs.take i, ¬ (y.1 = kd ∨ y.1 = eS))
      ⟨rfl, ⟨none, none, rfl⟩, fun y hy => by simp at hy⟩ (fun i σ H' _ ⟨e, _⟩ => by rw [e]; exact .of ha) ?_ ?_⟩
    · rintro i x σ H' hi ⟨rfl, ⟨v2, v3, rfl⟩, hn⟩
      obtain ⟨d, hd, hx'⟩ := hx.getV hi
      rw [List.getElem?_map] at hd
      obtain ⟨h0, hh0, rfl⟩ := Option.map_eq_some_iff.mp hd
      obtain ⟨b, ys, rfl, hb, hy⟩ := im_tup.mp hx'
      obtain ⟨y1, y2, rfl, e1, e2⟩ := imAll_two' hy
      rw [im_str] at e1; rw [im_int] at e2
      subst e1; subst e2
      have split : hs = hs.take i ++ h0 :: hs.drop (i + 1) := by
        obtain ⟨hlt, he⟩ := List.getElem?_eq_some_iff.mp hh0
        rw [← he, List.getElem_cons_drop, List.take_append_drop]
      refine ⟨b, _, rfl, .of hb, rfl, _, _, rfl, _, _, rfl, rfl, ?_⟩
      refine ⟨_, rfl, _, rfl, rfl, _, rfl, ?_⟩
      have miss : ¬ (h0.1 = kd ∨ h0.1 = eS) → ∀ y ∈ hs.take (i + 1), ¬ (y.1 = kd ∨ y.1 = eS) := fun q y hy => by
        rw [List.take_add_one, hh0] at hy
        rcases List.mem_append.mp hy with hy | hy
        · exact hn y hy
        · have : y = h0 := by simpa using hy
          rw [this]; exact q
      by_cases h1 : h0.1 = kd
      · rw [show decide (V.str h0.1 = V.str kd) = true from decide_eq_true (by rw [h1])]
        refine iteT (iteT ⟨_, rfl, ?_⟩)
        rw [hl_hit split hn (.inl h1)] at k
        exact k
      · rw [show decide (V.str h0.1 = V.str kd) = false from decide_eq_false (fun q => h1 (V.str.inj q))]
        refine iteF ⟨_, rfl, rfl, _, rfl, ?_⟩
        by_cases h2 : h0.1 = eS
        · rw [show decide (V.str h0.1 = V.str "") = true from decide_eq_true (by rw [h2, eS_eq])]
          refine iteT ⟨_, rfl, ?_⟩
          rw [hl_hit split hn (.inr h2)] at k
          exact k
        · rw [show decide (V.str h0.1 = V.str "") = false from decide_eq_false (fun q => h2 ((V.str.inj q).trans eS_eq))]
          refine iteF ⟨rfl, ⟨_, _, rfl⟩, miss (fun q => q.elim h1 h2)⟩
    · rintro σ H' ⟨rfl, ⟨v2, v3, rfl⟩, hn⟩
      have el : xs.length = hs.length := by rw [hx.length, List.length_map]
      rw [el, List.take_length] at hn
      rw [hl_miss hn] at k
      exact ⟨_, rfl, k⟩
end
end K28

set_option Elab.async false
set_option linter.all false
set_option maxRecDepth 100000
set_option maxHeartbeats 4000000
/-! class Position. -/
namespace K28
open PySem PySem.Spec PyProof.Rows L2

/-! ### well-formed programs -/
def NmOk (x : Str) : Prop := (x.cps.all (· < 0x110000)) = true ∧ x.length ≤ 8
structure WF (p : Prog) : Prop where
  ne : p ≠ []
  nd : (p.map (·.1)).Nodup
  ls : ∀ f ∈ p, f.2 ≠ []
  calls : ∀ f ∈ p, ∀ l ∈ f.2, ∀ c ∈ l.1, c = eS ∨ c ∈ p.map (·.1)
  ways : ∀ f ∈ p, ∀ l ∈ f.2, ∀ n, Way.num n ∈ l.2.1 → n < f.2.length
  hands : ∀ f ∈ p, ∀ l ∈ f.2, ∀ h ∈ l.2.2, h.2 < f.2.length
  few : p.length ≤ 8
  short : ∀ f ∈ p, f.2.length ≤ 12
  thin : ∀ f ∈ p, ∀ l ∈ f.2, l.1.length ≤ 16 ∧ l.2.1.length ≤ 16 ∧ l.2.2.length ≤ 8
  nms : ∀ f ∈ p, NmOk f.1 ∧ ∀ l ∈ f.2, (∀ c ∈ l.1, NmOk c) ∧ (∀ k, Way.fail k ∈ l.2.1 → NmOk k) ∧ ∀ h ∈ l.2.2, NmOk h.1
def SpotOk (p : Prog) (s : Spot) : Prop := ∃ l, lineAt p s = some l
theorem mem_of_lookup' : ∀ {p : Prog} {n : Str} {ls : List Line}, p.lookup n = some ls → (n, ls) ∈ p
  | (m, q) :: r, n, ls, h => by
    rw [List.lookup_cons] at h
    by_cases e : n = m
    · subst e
      simp at h; subst h
      exact List.mem_cons_self
    · have hb : (n == m) = false := by simpa using e
      rw [hb] at h
      exact List.mem_cons_of_mem _ (mem_of_lookup' h)
theorem lookup_of_name : ∀ {p : Prog} {n : Str}, n ∈ p.map (·.1) → ∃ ls, p.lookup n = some ls
  | (m, q) :: r, n, h => by
    rw [List.lookup_cons]
    by_cases e : n = m
    · subst e; exact ⟨q, by simp⟩
    · have hb : (n == m) = false := by simpa using e
      rw [hb]
      rcases List.mem_cons.mp h with h | h
      · exact absurd h e
      · exact lookup_of_name h
theorem lookup_of_mem : ∀ {p : Prog} {n : Str} {ls : List Line}, (p.map (·.1)).Nodup → (n, ls) ∈ p → p.lookup n = some ls
  | (m, q) :: r, n, ls, nd, h => by
    rw [List.map_cons, List.nodup_cons] at nd
    rw [List.lookup_cons]
    rcases List.mem_cons.mp h with h | h
    · cases h; simp
    · have e : n ≠ m := fun z => nd.1 (by rw [← z]; exact List.mem_map.mpr ⟨_, h, rfl⟩)
      have hb : (n == m) = false := by simpa using e
      rw [hb]
      exact lookup_of_mem nd.2 h
theorem lineAt_iff {p : Prog} {s : Spot} {l : Line} : lineAt p s = some l ↔ ∃ ls, p.lookup s.1 = some ls ∧ ls[s.2]? = some l := by
  unfold lineAt
  exact Option.bind_eq_some_iff
theorem lineD_of {p : Prog} {s : Spot} {l : Line} (h : lineAt p s = some l) : lineD p s = l := by unfold lineD; rw [h]; rfl
theorem spotOk_at {p : Prog} {n : Str} {ls : List Line} {i : Nat} (h : p.lookup n = some ls) (hi : i < ls.length) : SpotOk p (n, i) :=
  ⟨ls[i], lineAt_iff.mpr ⟨ls, h, List.getElem?_eq_getElem hi⟩⟩
theorem line_mem {p : Prog} {s : Spot} {l : Line} (h : lineAt p s = some l) : ∃ ls, p.lookup s.1 = some ls ∧ (s.1, ls) ∈ p ∧ l ∈ ls := by
  obtain ⟨ls, h1, h2⟩ := lineAt_iff.mp h
  exact ⟨ls, h1, mem_of_lookup' h1, List.mem_of_getElem? h2⟩
theorem WF.call {p : Prog} (W : WF p) {s : Spot} {l : Line} (h : lineAt p s = some l) {c : Str} (hc : c ∈ l.1) (hn : c ≠ eS) : SpotOk p (c, 0) := by
  obtain ⟨ls, h1, h2, h3⟩ := line_mem h
  rcases W.calls _ h2 l h3 c hc with z | z
  · exact absurd z hn
  · obtain ⟨ms, hm⟩ := lookup_of_name z
    have := W.ls _ (mem_of_lookup' hm)
    exact spotOk_at hm (List.length_pos_iff.mpr this)
theorem WF.way {p : Prog} (W : WF p) {s : Spot} {l : Line} (h : lineAt p s = some l) {n : Nat} (hn : Way.num n ∈ l.2.1) : SpotOk p (s.1, n) := by
  obtain ⟨ls, h1, h2, h3⟩ := line_mem h
  exact spotOk_at h1 (W.ways _ h2 l h3 n hn)
theorem handler_mem : ∀ {hs : List (Str × Nat)} {k : Str} {t : Nat}, handler hs k = some t → ∃ w, (w, t) ∈ hs
  | (a, b) :: r, k, t, h => by
    unfold handler at h
    by_cases e : a = k ∨ a = eS
    · rw [if_pos e] at h; cases h
      exact ⟨a, List.mem_cons_self⟩
    · rw [if_neg e] at h
      obtain ⟨w, hw⟩ := handler_mem h
      exact ⟨w, List.mem_cons_of_mem _ hw⟩
theorem WF.hand {p : Prog} (W : WF p) {s : Spot} {l : Line} (h : lineAt p s = some l) {k : Str} {t : Nat} (ht : handler l.2.2 k = some t) : SpotOk p (s.1, t) := by
  obtain ⟨ls, h1, h2, h3⟩ := line_mem h
  obtain ⟨w, hw⟩ := handler_mem ht
  exact spotOk_at h1 (W.hands _ h2 l h3 _ hw)
def Conf.st : Conf → List Spot
  | .run st _ => st
  | .over _ => []
def Conf.call : Conf → Bool
  | .run _ d => d
  | .over _ => false
def Spots (p : Prog) (st : List Spot) : Prop := ∀ s ∈ st, SpotOk p s
theorem failHere_spots {p : Prog} (W : WF p) : ∀ {st : List Spot} (k : Str), Spots p st → Spots p (failHere p st k).st
  | [], k, _ => fun _ h => nomatch h
  | s :: r, k, h => by
    obtain ⟨l, hl⟩ := h s List.mem_cons_self
    unfold failHere
    rw [lineD_of hl]
    cases e : handler l.2.2 k with
    | some t =>
      intro q hq
      rcases List.mem_cons.mp hq with rfl | hq
      · exact W.hand hl e
      · exact h q (List.mem_cons_of_mem _ hq)
    | none => exact failHere_spots W k fun q hq => h q (List.mem_cons_of_mem _ hq)
theorem leaveBack_spots {p : Prog} : ∀ {st : List Spot}, Spots p st → Spots p (leaveBack st).st
  | [], _ => fun _ h => nomatch h
  | _ :: _, h => h
theorem leaveBack_st : ∀ st : List Spot, (leaveBack st).st = st ∧ (leaveBack st).call = false
  | [] => ⟨rfl, rfl⟩
  | _ :: _ => ⟨rfl, rfl⟩
theorem step_spots {p : Prog} (W : WF p) : ∀ (c : Conf) (k : Nat), Spots p c.st → Spots p (step p c k).st
  | .run [] _, _, h => h
  | .over _, _, h => h
  | .run (s :: r) true, k, h => by
    obtain ⟨l, hl⟩ := h s List.mem_cons_self
    show Spots p (stepCall s r _).st
    rw [lineD_of hl]
    cases e : l.1[k]? with
    | none => exact h
    | some nm =>
      unfold stepCall
      dsimp only
      split
      · exact h
      · rename_i hn
        intro q hq
        rcases List.mem_cons.mp hq with rfl | hq
        · exact W.call hl (List.mem_of_getElem? e) hn
        · exact h q hq
  | .run (s :: r) false, k, h => by
    obtain ⟨l, hl⟩ := h s List.mem_cons_self
    show Spots p (stepWay p s r _).st
    rw [lineD_of hl]
    cases e : l.2.1[k]? with
    | none => exact h
    | some wy =>
      cases wy with
      | num n =>
        intro q hq
        rcases List.mem_cons.mp hq with rfl | hq
        · exact W.way hl (List.mem_of_getElem? e)
        · exact h q (List.mem_cons_of_mem _ hq)
      | back => exact leaveBack_spots fun q hq => h q (List.mem_cons_of_mem _ hq)
      | fail kd => exact failHere_spots W kd h
theorem widths {p : Prog} (W : WF p) : Widths p 16 := fun c => by
  have key : ∀ s, (lineD p s).1.length ≤ 16 ∧ (lineD p s).2.1.length ≤ 16 := fun s => by
    cases e : lineAt p s with
    | none => unfold lineD; rw [e]; exact ⟨Nat.zero_le _, Nat.zero_le _⟩
    | some l =>
      rw [lineD_of e]
      obtain ⟨ls, _, h2, h3⟩ := line_mem e
      exact ⟨(W.thin _ h2 l h3).1, (W.thin _ h2 l h3).2.1⟩
  match c with
  | .run (s :: _) true => exact (key s).1
  | .run (s :: _) false => exact (key s).2
  | .run [] _ => exact Nat.zero_le _
  | .over _ => exact Nat.zero_le _

/-! ### a position on the heap -/
def callS : Str := "call"
def wayS : Str := "way"
def dueS (b : Bool) : Str := if b then callS else wayS
def posF (tb st : Addr) (due : Str) (e : V) : List (Str × V) := [("table", .ref tb), ("stack", .ref st), ("due", .str due), ("ending", e)]
def TabAt (H : Hp) (tb : Addr) (p : Prog) : Prop := ∃ kvs, H tb = some (.dK kvs) ∧ ∀ n ls, p.lookup n = some ls → ∃ v, valV kvs (Sum.inr n) = some v ∧ Im H (linesD ls) v
structure PosAt (C : Addr) (p : Prog) (H : Hp) (a sk tb : Addr) (st : List Spot) (call : Bool) : Prop where
  ins : ∃ dx e, H a = some (.ins C dx (posF tb sk (dueS call) e))
  stk : ∃ xs, H sk = some (.lst xs) ∧ ImAll H (st.reverse.map spD) xs
  tab : TabAt H tb p
  ok : Spots p st
theorem TabAt.keep {H H' : Hp} {tb : Addr} {p : Prog} (h : TabAt H tb p) (k : TupK H H') (e : H' tb = H tb) : TabAt H' tb p := by
  obtain ⟨kvs, h1, h2⟩ := h
  refine ⟨kvs, e.trans h1, fun n ls q => ?_⟩
  obtain ⟨v, e1, e2⟩ := h2 n ls q
  exact ⟨v, e1, e2.keep k⟩
theorem TabAt.chg {F : List Addr} {H H' : Hp} {tb : Addr} {p : Prog} (h : TabAt H tb p) (c : Chg F H H') (n : NoTup F H) (hf : tb ∉ F) : TabAt H' tb p := by
  obtain ⟨kvs, h1, h2⟩ := id h
  exact h.keep (c.tup n) ((c _ _ h1 hf).trans h1.symm)
section
variable {C : Addr} {p : Prog} {H : Hp} {a sk tb : Addr} {st : List Spot} {call : Bool}
theorem PosAt.notup (h : PosAt C p H a sk tb st call) : NoTup [a, sk] H := fun b hb xs e => by
  rcases List.mem_cons.mp hb with rfl | hb
  · obtain ⟨_, _, q⟩ := h.ins
    rw [q] at e; cases e
  · rw [List.mem_singleton.mp hb] at e
    obtain ⟨_, q, _⟩ := h.stk
    rw [q] at e; cases e
theorem PosAt.nas (h : PosAt C p H a sk tb st call) : a ≠ sk := by
  obtain ⟨_, _, q⟩ := h.ins
  obtain ⟨_, q', _⟩ := h.stk
  exact ne_of q q' (by intro z; cases z)
theorem PosAt.nta (h : PosAt C p H a sk tb st call) : tb ≠ a := by
  obtain ⟨_, _, q⟩ := h.ins
  obtain ⟨_, q', _⟩ := h.tab
  exact ne_of q' q (by intro z; cases z)
theorem PosAt.nts (h : PosAt C p H a sk tb st call) : tb ≠ sk := by
  obtain ⟨_, q, _⟩ := h.stk
  obtain ⟨_, q', _⟩ := h.tab
  exact ne_of q' q (by intro z; cases z)
theorem PosAt.tbF (h : PosAt C p H a sk tb st call) : tb ∉ [a, sk] := by
  intro z
  rcases List.mem_cons.mp z with z | z
  · exact h.nta z
  · exact h.nts (List.mem_singleton.mp z)
theorem PosAt.same {H' : Hp} (h : PosAt C p H a sk tb st call) (s : Same H H') : PosAt C p H' a sk tb st call := by
  obtain ⟨dx, e, h1⟩ := h.ins
  obtain ⟨xs, h2, h3⟩ := h.stk
  obtain ⟨kvs, h4, _⟩ := h.tab
  exact ⟨⟨dx, e, s _ _ h1⟩, ⟨xs, s _ _ h2, h3.keep (Same.tup s)⟩, h.tab.keep (Same.tup s) ((s _ _ h4).trans h4.symm), h.ok⟩
end
theorem dueS_eq (b : Bool) (x : Str) (hx : x = dueS b) : True := trivial
theorem due_ne : callS ≠ wayS := by decide +kernel

section
variable {P : Program} {w : World} {K : PySem.W.Frag} {mg : Str → Option Value} {base : Heap}
/-! ### line_here, width, can_choose -/
def spLineHere (C : Addr) (p : Prog) : Sp := fun vs H Q _ => ∃ a sk tb s r call l, vs = [.ref a] ∧ PosAt C p H a sk tb (s :: r) call ∧ lineAt p s = some l ∧ ∀ v, Im H (lineDt l) v → Q v H
theorem scLH : FnScope ["self", "name", "index"] ["self"] (defScope sLineHere) := ⟨rfl, rfl, rfl, by decide +kernel, rfl, by decide +kernel, by decide +kernel⟩
theorem stk_top {H : Hp} {s : Spot} {r : List Spot} {xs : List V} (h : ImAll H ((s :: r).reverse.map spD) xs) : ∃ ys t, xs = ys ++ [.ref t] ∧ H t = some (.tup [.str s.1, .int s.2]) ∧ ImAll H (r.reverse.map spD) ys := by
  rw [List.reverse_cons, List.map_append] at h
  obtain ⟨ys, x, rfl, h1, h2⟩ := ImAll.snoc' (d := spD s) h
  obtain ⟨t, zs, rfl, h3, h4⟩ := im_tup.mp h2
  obtain ⟨y1, y2, rfl, e1, e2⟩ := imAll_two' h4
  rw [im_str] at e1; rw [im_int] at e2
  subst e1; subst e2
  exact ⟨ys, t, rfl, h3, h1⟩
theorem ok_lineHere {p : Prog} {f : Addr} (F : At K "line_here" "Position.line_here" sLineHere f) (T : Tx K mg) : Ok P w K mg base 1 f ["self"] (spLineHere (cP K) p) := by
  refine mkOk F scLH (fun _ _ _ _ _ _ us hl => match us, hl with | [_], _ => rfl) (fun vs H Q E h => ?_) (fun cdv A outer s H vs Q E hr h => ?_)
  · obtain ⟨a, sk, tb, s, r, call, l, rfl, _⟩ := h; rfl
  · obtain ⟨a, sk, tb, q, r, call, l, rfl, hp, hl, k⟩ := h
    obtain ⟨dx, e, h1⟩ := hp.ins
    obtain ⟨xs, h2, h3⟩ := hp.stk
    obtain ⟨ys, t, rfl, h4, h5⟩ := stk_top h3
    obtain ⟨kvs, h6, h7⟩ := hp.tab
    obtain ⟨ls, l1, l2⟩ := lineAt_iff.mp hl
    obtain ⟨v, v1, v2⟩ := h7 _ _ l1
    obtain ⟨ta, zs, rfl, v3, v4⟩ := im_tup.mp v2
    obtain ⟨x, x1, x2⟩ := v4.get (i := q.2) (d := lineDt l) (by rw [List.getElem?_map, l2]; rfl)
    refine ⟨_, pss_cons (ps_asg (pe_ix ix_list (pe_fld (pv 0) rfl) (pe_un un_neg pe_int) (fun _ _ => rfl)) (pg_tup (by rfl) (pgs_cons (pg_name (i := 1) scLH.nd rfl (Or.inl rfl)) (pgs_cons (pg_name (i := 2) scLH.nd rfl (Or.inl rfl)) pgs_nil))))
      (pss_one (ps_ret (pe_ix ix_tup (pe_dget (hu_of hr) (pe_fld (pv 0) rfl) (pv 1) (fun _ _ => rfl)) (pv 2) (fun _ _ => rfl)))), ?_⟩
    refine ⟨_, rfl, a, cP K, dx, _, _, rfl, h1, T.clP, T.nS, rfl, 1, rfl, sk, _, _, _, rfl, rfl, .of h2, atI_last _ _, ?_⟩
    refine ⟨t, _, rfl, .of h4, rfl, _, _, rfl, _, _, rfl, rfl, ?_⟩
    exact ⟨_, rfl, a, cP K, dx, _, _, rfl, h1, T.clP, T.nT, rfl, _, rfl, tb, _, rfl, DGet.k (k := Sum.inr q.1) h6 |> (by rw [← v1]; exact ·), _, rfl, ta, zs, _, x, rfl, rfl, .of v3, atI_nat x1, k x x2⟩
end
end K28

set_option Elab.async false
set_option linter.all false
set_option maxRecDepth 100000
set_option maxHeartbeats 4000000
/-! class Position: its moves. -/
namespace K28
open PySem PySem.Spec PyProof.Rows L2
theorem im_line {H : Hp} {l : Line} {v : V} (h : Im H (lineDt l) v) : ∃ t c y z, v = .ref t ∧ H t = some (.tup [.ref c, .ref y, .ref z]) ∧
    (∃ cs, H c = some (.tup cs) ∧ ImAll H (l.1.map PyData.str) cs) ∧ (∃ ws, H y = some (.tup ws) ∧ ImAll H (l.2.1.map wayD) ws) ∧ Im H (.tuple (l.2.2.map handD)) (.ref z) := by
  obtain ⟨t, xs, rfl, h1, h2⟩ := im_tup.mp h
  obtain ⟨x, y, z, rfl, e1, e2, e3⟩ := imAll_three' h2
  obtain ⟨c, cs, rfl, h3, h4⟩ := im_tup.mp e1
  obtain ⟨y, ws, rfl, h5, h6⟩ := im_tup.mp e2
  obtain ⟨z, hs, rfl, _⟩ := im_tup.mp e3
  exact ⟨t, c, y, z, rfl, h1, ⟨cs, h3, h4⟩, ⟨ws, h5, h6⟩, e3⟩
section
variable {P : Program} {w : World} {K : PySem.W.Frag} {mg : Str → Option Value} {base : Heap}
abbrev mP (K : PySem.W.Frag) (m : Str) : Addr := He.ma K (cP K) m
def spWidth (C : Addr) (p : Prog) : Sp := fun vs H Q _ => ∃ a sk tb st call, vs = [.ref a] ∧ PosAt C p H a sk tb st call ∧ Q (.int (width p (.run st call) : Nat)) H
theorem scWd : FnScope ["self", "calls", "ways", "handlers"] ["self"] (defScope sWidth) := ⟨rfl, rfl, rfl, by decide +kernel, rfl, by decide +kernel, by decide +kernel⟩
theorem lenL {α : Type} {xs : List V} {l : List α} (h : xs.length = l.length) : V.int (xs.length : Nat) = V.int (l.length : Nat) := by rw [h]
theorem ok_width {p : Prog} {f g : Addr} (F : At K "width" "Position.width" sWidth f) (T : Tx K mg) (G : Ok P w K mg base 1 g ["self"] (spLineHere (cP K) p)) (mG : Meth K (cP K) "line_here" g) : Ok P w K mg base 2 f ["self"] (spWidth (cP K) p) := by
  refine mkOk F scWd (fun _ _ _ _ _ _ us hl => match us, hl with | [_], _ => rfl) (fun vs H Q E h => ?_) (fun cdv A outer s H vs Q E hr h => ?_)
  · obtain ⟨a, sk, tb, st, call, rfl, _⟩ := h; rfl
  · obtain ⟨a, sk, tb, st, call, rfl, hp, k⟩ := h
    obtain ⟨dx, e, h1⟩ := hp.ins
    obtain ⟨xs, h2, h3⟩ := hp.stk
    refine ⟨_, pss_cons (ps_if (pt_not (pt_truth (pe_fld (pv 0) rfl) (by intro _; rfl))) (pss_one (ps_ret pe_int)) pss_nil)
      (pss_cons (ps_asg (pe_methO0 G hr (pv 0) T.clP mG) (pg_tup (by rfl) (pgs_cons (pg_name (i := 1) scWd.nd rfl (Or.inl rfl)) (pgs_cons (pg_name (i := 2) scWd.nd rfl (Or.inl rfl)) (pgs_cons (pg_name (i := 3) scWd.nd rfl (Or.inl rfl)) pgs_nil)))))
      (pss_one (ps_ret (pe_ifExp (pt_cmpR op_eq (pe_fld (pv 0) rfl) pe_str (nomark _)) (pe_callB call_len_seq (by rfl) T.len PySem.boot_len (pa_cons (pv 1) pa_nil)) (pe_callB call_len_seq (by rfl) T.len PySem.boot_len (pa_cons (pv 2) pa_nil)))))), ?_⟩
    refine ⟨_, rfl, a, cP K, dx, _, _, rfl, h1, T.clP, T.nS, rfl, !xs.isEmpty, .inl ⟨xs, .of h2, rfl⟩, ?_⟩
    cases st with
    | nil =>
      rw [imAll_nil.mp (show ImAll H [] xs from h3)]
      refine iteT ?_
      have k' : Q (.int 0) H := k
      exact k'
    | cons q r =>
      obtain ⟨ys, t, rfl, _⟩ := stk_top h3
      rw [show (!(!(ys ++ [V.ref t]).isEmpty)) = false by cases ys <;> rfl]
      refine iteF ?_
      obtain ⟨l, hl⟩ := hp.ok q List.mem_cons_self
      refine ⟨_, rfl, a, dx, _, rfl, h1, rfl, a, sk, tb, q, r, call, l, rfl, hp, hl, fun v hv => ?_⟩
      obtain ⟨t2, c, y, z, rfl, e1, ⟨cs, e2, e3⟩, ⟨ws, e4, e5⟩, _⟩ := im_line hv
      refine ⟨t2, _, rfl, .of e1, rfl, _, _, rfl, _, _, rfl, _, _, rfl, rfl, ?_⟩
      refine ⟨_, rfl, a, cP K, dx, _, _, rfl, h1, T.clP, T.nD, rfl, rfl, _, rfl, ?_⟩
      cases call with
      | true =>
        rw [show decide (V.str (dueS true) = V.str "call") = true from decide_eq_true rfl]
        refine iteT ⟨_, rfl, c, cs, rfl, .inr (.of e2), ?_⟩
        rw [lenL (l := l.1) (by rw [e3.length, List.length_map])]
        have k' : Q (.int ((lineD p q).1.length : Nat)) H := k
        rw [lineD_of hl] at k'
        exact k'
      | false =>
        rw [show decide (V.str (dueS false) = V.str "call") = false from decide_eq_false (by intro z; exact due_ne (V.str.inj z).symm)]
        refine iteF ⟨_, rfl, y, ws, rfl, .inr (.of e4), ?_⟩
        rw [lenL (l := l.2.1) (by rw [e5.length, List.length_map])]
        have k' : Q (.int ((lineD p q).2.1.length : Nat)) H := k
        rw [lineD_of hl] at k'
        exact k'
def spCanChoose (C : Addr) (p : Prog) : Sp := fun vs H Q _ => ∃ a sk tb st call, ∃ c : Nat, vs = [.ref a, .int c] ∧ PosAt C p H a sk tb st call ∧ c < width p (.run st call) ∧ Q (.bl true) H
theorem scCC : FnScope ["self", "choice"] ["self", "choice"] (defScope sCanChoose) := ⟨rfl, rfl, rfl, by decide +kernel, rfl, by decide +kernel, by decide +kernel⟩
theorem ok_canChoose {p : Prog} {f g gn : Addr} (F : At K "can_choose" "Position.can_choose" sCanChoose f) (T : Tx K mg) (N : Ok P w K mg base 2 gn ["thing"] spIsNumber) (mgN : mg "is_number" = some (.ref gn))
    (G : Ok P w K mg base 2 g ["self"] (spWidth (cP K) p)) (mG : Meth K (cP K) "width" g) : Ok P w K mg base 3 f ["self", "choice"] (spCanChoose (cP K) p) := by
  refine mkOk F scCC (fun _ _ _ _ _ _ us hl => match us, hl with | [_, _], _ => rfl) (fun vs H Q E h => ?_) (fun cdv A outer s H vs Q E hr h => ?_)
  · obtain ⟨a, sk, tb, st, call, c, rfl, _⟩ := h; rfl
  · obtain ⟨a, sk, tb, st, call, c, rfl, hp, hc, k⟩ := h
    obtain ⟨dx, e, h1⟩ := hp.ins
    refine ⟨_, pss_one (ps_ret (pe_and (pe_callO N hr (by rfl) mgN (pa_cons (pv 1) pa_nil)) (pe_one (pe_cmpR op_lt (pv 1) (pe_methO0 G hr (pv 0) T.clP mG) (nomark _))))), ?_⟩
    refine ⟨_, rfl, _, true, rfl, .inl ⟨(c : Int), rfl, (decide_eq_true (Int.natCast_nonneg c)).symm⟩, _, rfl, iteT ?_⟩
    refine ⟨_, rfl, _, rfl, a, dx, _, rfl, h1, rfl, a, sk, tb, st, call, rfl, hp, ?_⟩
    refine ⟨_, _, rfl, rfl, ?_⟩
    show Q (V.bl (decide ((c : Int) < ((width p (.run st call) : Nat) : Int)))) H
    rw [show decide ((c : Int) < ((width p (.run st call) : Nat) : Int)) = true from decide_eq_true (by omega)]
    exact k

/-! ### arrive -/
/-- behind a move -/
def Moved (C : Addr) (p : Prog) (H : Hp) (a sk tb : Addr) (c : Conf) (H' : Hp) : Prop := Chg [a, sk] H H' ∧ PosAt C p H' a sk tb c.st c.call
def spArrive (C : Addr) (p : Prog) : Sp := fun vs H Q _ => ∃ a sk tb s r call, ∃ i : Nat, vs = [.ref a, .int i] ∧ PosAt C p H a sk tb (s :: r) call ∧ SpotOk p (s.1, i) ∧
  ∀ H', Moved C p H a sk tb (.run ((s.1, i) :: r) true) H' → Q .non H'
theorem scAr : FnScope ["self", "index"] ["self", "index"] (defScope sArrive) := ⟨rfl, rfl, rfl, by decide +kernel, rfl, by decide +kernel, by decide +kernel⟩
theorem ixLast (ys : List V) (x : V) : ixN (ys ++ [x]).length (-1) = some ys.length := by
  unfold ixN
  rw [if_neg (by omega), if_pos (by rw [List.length_append, List.length_singleton]; omega), List.length_append, List.length_singleton]
  congr 1
  omega
theorem set_last (ys : List V) (x y : V) : (ys ++ [x]).set ys.length y = ys ++ [y] := by
  rw [List.set_append]
  simp
theorem ok_arrive {p : Prog} {f : Addr} (F : At K "arrive" "Position.arrive" sArrive f) (T : Tx K mg) : Ok P w K mg base 1 f ["self", "index"] (spArrive (cP K) p) := by
  refine mkOk F scAr (fun _ _ _ _ _ _ us hl => match us, hl with | [_, _], _ => rfl) (fun vs H Q E h => ?_) (fun cdv A outer s H vs Q E hr h => ?_)
  · obtain ⟨a, sk, tb, q, r, call, i, rfl, _⟩ := h; rfl
  · obtain ⟨a, sk, tb, q, r, call, i, rfl, hp, hi, k⟩ := h
    obtain ⟨dx, e, h1⟩ := hp.ins
    obtain ⟨xs, h2, h3⟩ := hp.stk
    obtain ⟨ys, t, rfl, h4, h5⟩ := stk_top h3
    refine ⟨_, pss_cons (ps_asg (pe_tup (pa_cons (pe_ix ix_tup (pe_ix ix_list (pe_fld (pv 0) rfl) (pe_un un_neg pe_int) (fun _ _ => rfl)) pe_int (fun _ _ => rfl)) (pa_cons (pv 1) pa_nil))) (pg_sub (pe_fld (pv 0) rfl) (pe_un un_neg pe_int) set_list))
      (pss_one (ps_fld (pv 0) pe_str rfl)), ?_⟩
    refine ⟨_, rfl, a, cP K, dx, _, _, rfl, h1, T.clP, T.nS, rfl, 1, rfl, sk, _, _, _, rfl, rfl, .of h2, atI_last _ _, ?_⟩
    refine ⟨t, _, _, _, rfl, rfl, .of h4, atI_nat (j := 0) rfl, _, rfl, (by show 2 ≤ sizeLine; decide), fun n hn => ?_⟩
    have nan : a ≠ n := ne_of_none h1 hn
    have nsn : sk ≠ n := ne_of_none h2 hn
    refine ⟨_, rfl, a, cP K, dx, _, _, rfl, (by rw [upd_ne nan]; exact h1), T.clP, T.nS, rfl, 1, rfl, sk, _, _, _, rfl, rfl, (by rw [upd_ne nsn]; exact h2), ixLast ys _, ?_⟩
    refine ⟨_, rfl, a, cP K, dx, _, rfl, (by rw [upd_ne hp.nas, upd_ne nan]; exact h1), T.clP, T.nD, (by show 4 < 1000; decide), ?_⟩
    rw [set_last]
    have kt : TupK H (upd (upd (upd H n (.tup [.str q.1, .int i])) sk (.lst (ys ++ [.ref n]))) a (.ins (cP K) dx (putF "due" (.str "call") (posF tb sk (dueS call) e)))) :=
      ((Same.tup (same_upd hn)).trans (tup_upd fun xs z => by rw [upd_ne nsn, h2] at z; cases z)).trans (tup_upd fun xs z => by rw [upd_ne hp.nas, upd_ne nan, h1] at z; cases z)
    have hnn : upd (upd (upd H n (.tup [.str q.1, .int i])) sk (.lst (ys ++ [.ref n]))) a (.ins (cP K) dx (putF "due" (.str "call") (posF tb sk (dueS call) e))) n = some (.tup [.str q.1, .int i]) := by
      rw [upd_ne nan.symm, upd_ne nsn.symm, upd_same]
    refine k _ ⟨(Chg.trans (Same.chg (same_upd hn)) (chg_upd (by simp))).trans (chg_upd (by simp)), ⟨dx, e, by rw [upd_same]; rfl⟩, ⟨ys ++ [.ref n], by rw [upd_ne hp.nas.symm, upd_same], ?_⟩, hp.tab.keep kt (by rw [upd_ne hp.nta, upd_ne hp.nts]; obtain ⟨_, z, _⟩ := hp.tab; rw [upd_ne (ne_of_none z hn)]), ?_⟩
    · show ImAll _ (((q.1, i) :: r).reverse.map spD) _
      rw [List.reverse_cons, List.map_append]
      exact (h5.keep kt).append (imAll_one (im_tup.mpr ⟨n, _, rfl, hnn, imAll_two (im_str.mpr rfl) (im_int.mpr rfl)⟩))
    · intro z hz
      rcases List.mem_cons.mp hz with rfl | hz
      · exact hi
      · exact hp.ok z (List.mem_cons_of_mem _ hz)
end
end K28

set_option Elab.async false
set_option linter.all false
set_option maxRecDepth 100000
set_option maxHeartbeats 4000000
/-! class Position: faults, choices. -/
namespace K28
open PySem PySem.Spec PyProof.Rows L2
section
variable {P : Program} {w : World} {K : PySem.W.Frag} {mg : Str → Option Value} {base : Heap}

/-! ### fail_here -/
def spFailHere (C : Addr) (p : Prog) : Sp := fun vs H Q _ => ∃ a sk tb st v kd, vs = [.ref a, v] ∧ PosAt C p H a sk tb st false ∧ Im H (endD (.fail kd)) v ∧
  ∀ b H', Moved C p H a sk tb (failHere p st kd) H' → (b = true → (failHere p st kd).st ≠ []) → Q (.bl b) H'
theorem scFH : FnScope ["self", "end", "target"] ["self", "end"] (defScope sFailHere) := ⟨rfl, rfl, rfl, by decide +kernel, rfl, by decide +kernel, by decide +kernel⟩
theorem failHere_hit {p : Prog} {s : Spot} {r : List Spot} {k : Str} {t : Nat} {l : Line} (hl : lineAt p s = some l) (h : handler l.2.2 k = some t) : failHere p (s :: r) k = .run ((s.1, t) :: r) true := by
  show (match handler (lineD p s).2.2 k with | some t => _ | none => _) = _
  rw [lineD_of hl, h]
theorem failHere_miss {p : Prog} {s : Spot} {r : List Spot} {k : Str} {l : Line} (hl : lineAt p s = some l) (h : handler l.2.2 k = none) : failHere p (s :: r) k = failHere p r k := by
  show (match handler (lineD p s).2.2 k with | some t => _ | none => _) = _
  rw [lineD_of hl, h]
theorem ok_failHere {p : Prog} (Wp : WF p) {f gl ga gh : Addr} (F : At K "fail_here" "Position.fail_here" sFailHere f) (T : Tx K mg)
    (L : Ok P w K mg base 1 gl ["self"] (spLineHere (cP K) p)) (mL : Meth K (cP K) "line_here" gl) (A1 : Ok P w K mg base 1 ga ["self", "index"] (spArrive (cP K) p)) (mA : Meth K (cP K) "arrive" ga)
    (Hd : Ok P w K mg base 1 gh ["handlers", "kind"] spHandler) (mgH : mg "handler_line" = some (.ref gh)) : Ok P w K mg base 2 f ["self", "end"] (spFailHere (cP K) p) := by
  refine mkOk F scFH (fun _ _ _ _ _ _ us hl => match us, hl with | [_, _], _ => rfl) (fun vs H Q E h => ?_) (fun cdv A outer s H vs Q E hr h => ?_)
  · obtain ⟨a, sk, tb, st, v, kd, rfl, _⟩ := h; rfl
  · obtain ⟨a, sk, tb, st, v, kd, rfl, hp, hv, k⟩ := h
    obtain ⟨tv, vs, rfl, hv1, hv2⟩ := im_tup.mp hv
    obtain ⟨y1, y2, rfl, e1, e2⟩ := imAll_two' hv2
    rw [im_str] at e1 e2
    subst e1; subst e2
    refine ⟨_, pss_cons (ps_while PassesOwn.never (pt_truth (pe_fld (pv 0) rfl) (by intro _; rfl))
        (pss_cons (ps_set (i := 2) scFH.nd rfl (Or.inl rfl) (pe_callO Hd hr (by rfl) mgH (pa_cons (pe_ix ix_tup (pe_methO0 L hr (pv 0) T.clP mL) pe_int (fun _ _ => rfl)) (pa_cons (pe_ix ix_tup (pv 1) pe_int (fun _ _ => rfl)) pa_nil))))
        (pss_cons (ps_if (pt_cmpR op_ge (pv 2) pe_int (nomark _)) (pss_cons (ps_expr (pe_methO A1 hr (pv 0) T.clP mA (pa_cons (pv 2) pa_nil))) (pss_one (ps_ret pe_bl))) pss_nil)
        (pss_one (ps_expr (pe_bm0 PySem.F.plainAttrs_list PySem.F.slot_list_pop PySem.F.type_list_pop mt_pop (pe_fld (pv 0) rfl)))))))
      (pss_cons (ps_fld (pv 0) (pv 1) rfl) (pss_one (ps_ret pe_bl))), ?_⟩
    refine ⟨fun m σ H' => ∃ st' t2, m = st'.length ∧ σ = [some (.ref a), some (.ref tv), t2] ∧ Chg [a, sk] H H' ∧ PosAt (cP K) p H' a sk tb st' false ∧ failHere p st' kd = failHere p st kd, ⟨_, st, none, rfl, rfl, Chg.refl _ _, hp, rfl⟩, ?_⟩
    rintro m σ H' ⟨st', t2, rfl, rfl, hc, hp', he⟩
    obtain ⟨dx, e, h1⟩ := hp'.ins
    obtain ⟨xs, h2, h3⟩ := hp'.stk
    refine ⟨_, rfl, a, cP K, dx, _, _, rfl, h1, T.clP, T.nS, rfl, !xs.isEmpty, .inl ⟨xs, .of h2, rfl⟩, ?_⟩
    have hv' : H' tv = some (.tup [.str flS, .str kd]) := hc.tup hp.notup _ _ hv1
    cases st' with
    | nil =>
      rw [imAll_nil.mp (show ImAll H' [] xs from h3)]
      refine iteF ?_
      refine ⟨_, rfl, _, rfl, a, cP K, dx, _, rfl, h1, T.clP, T.nE, (by show 4 < 1000; decide), ?_⟩
      have e0 : failHere p st kd = .over (.fail kd) := he.symm
      refine k false _ ⟨hc.trans (chg_upd (by simp)), ?_⟩ (fun z => nomatch z)
      rw [e0]
      have hx : xs = [] := imAll_nil.mp (show ImAll H' [] xs from h3)
      subst hx
      have kt : TupK H' (upd H' a (.ins (cP K) dx (putF "ending" (.ref tv) (posF tb sk (dueS false) e)))) := tup_upd fun xs z => by rw [h1] at z; cases z
      exact ⟨⟨dx, .ref tv, by rw [upd_same]; rfl⟩, ⟨[], by rw [upd_ne hp'.nas.symm]; exact h2, imAll_nil.mpr rfl⟩, hp'.tab.keep kt (upd_ne hp'.nta), fun _ z => nomatch z⟩
    | cons q r =>
      obtain ⟨ys, t, rfl, h4, h5⟩ := stk_top h3
      rw [show (!(ys ++ [V.ref t]).isEmpty) = true by cases ys <;> rfl]
      obtain ⟨l, hl⟩ := hp'.ok q List.mem_cons_self
      refine iteT ⟨fun σ2 H2 => ∃ m', m' < (q :: r).length ∧ ∃ st' t2, m' = st'.length ∧ σ2 = [some (.ref a), some (.ref tv), t2] ∧ Chg [a, sk] H H2 ∧ PosAt (cP K) p H2 a sk tb st' false ∧ failHere p st' kd = failHere p st kd, fun _ _ z => z, ?_⟩
      refine ⟨_, rfl, a, dx, _, rfl, h1, rfl, a, sk, tb, q, r, false, l, rfl, hp', hl, fun v hv => ?_⟩
      obtain ⟨t3, c, y, z, rfl, g1, _, _, g4⟩ := im_line hv
      refine ⟨t3, _, 2, _, rfl, rfl, .of g1, atI_nat (j := 2) rfl, ?_⟩
      refine ⟨_, rfl, tv, _, 1, _, rfl, rfl, .of hv', atI_nat (j := 1) rfl, ?_⟩
      refine ⟨_, kd, l.2.2, rfl, g4, ?_⟩
      refine ⟨_, rfl, _, _, rfl, rfl, _, rfl, ?_⟩
      cases hh : handler l.2.2 kd with
      | some tg =>
        have ev : hlV l.2.2 kd = (tg : Int) := by unfold hlV; rw [hh]
        rw [ev]
        show if decide ((0 : Int) ≤ (tg : Int)) = true then _ else _
        rw [decide_eq_true (Int.natCast_nonneg tg)]
        refine iteT ?_
        refine ⟨_, rfl, a, dx, _, rfl, h1, rfl, _, rfl, a, sk, tb, q, r, false, tg, rfl, hp', Wp.hand hl hh, fun H2 hm => ?_⟩
        rw [failHere_hit hl hh] at he
        refine k true H2 ⟨hc.trans hm.1, ?_⟩ (fun _ => ?_)
        · rw [← he]; exact hm.2
        · rw [← he]; exact List.cons_ne_nil _ _
      | none =>
        have ev : hlV l.2.2 kd = -1 := by unfold hlV; rw [hh]
        rw [ev]
        show if decide ((0 : Int) ≤ -1) = true then _ else _
        rw [decide_eq_false (by omega)]
        refine iteF ?_
        refine ⟨_, rfl, a, cP K, dx, _, _, rfl, h1, T.clP, T.nS, rfl, .inl ⟨rfl, _, .of h2⟩, sk, _, _, rfl, rfl, h2, (by rw [List.length_append, List.length_singleton, Nat.add_sub_cancel]; exact List.getElem?_concat_length), ?_⟩
        rw [List.dropLast_concat]
        have kt : TupK H' (upd H' sk (.lst ys)) := tup_upd fun xs z => by rw [h2] at z; cases z
        refine ⟨r.length, Nat.lt_succ_self _, r, _, rfl, rfl, hc.trans (chg_upd (by simp)), ⟨⟨dx, e, by rw [upd_ne hp'.nas]; exact h1⟩, ⟨ys, upd_same, h5.keep kt⟩, hp'.tab.keep kt (upd_ne hp'.nts), fun z hz => hp'.ok z (List.mem_cons_of_mem _ hz)⟩, ?_⟩
        rw [← he, failHere_miss hl hh]

/-! ### leave -/
def spLeave (C : Addr) (p : Prog) : Sp := fun vs H Q _ => ∃ a sk tb s r v, vs = [.ref a, v] ∧ PosAt C p H a sk tb (s :: r) false ∧ Im H (endD .back) v ∧
  ∀ H', Moved C p H a sk tb (leaveBack r) H' → Q (.bl false) H'
theorem scLv : FnScope ["self", "end"] ["self", "end"] (defScope sLeave) := ⟨rfl, rfl, rfl, by decide +kernel, rfl, by decide +kernel, by decide +kernel⟩
theorem bk_shaped : SeqAt.shaped (.tuple [.str bkS]) = true := by decide +kernel
theorem ok_leave {p : Prog} {f : Addr} (F : At K "leave" "Position.leave" sLeave f) (T : Tx K mg) : Ok P w K mg base 1 f ["self", "end"] (spLeave (cP K) p) := by
  refine mkOk F scLv (fun _ _ _ _ _ _ us hl => match us, hl with | [_, _], _ => rfl) (fun vs H Q E h => ?_) (fun cdv A outer s H vs Q E hr h => ?_)
  · obtain ⟨a, sk, tb, q, r, v, rfl, _⟩ := h; rfl
  · obtain ⟨a, sk, tb, q, r, v, rfl, hp, hv, k⟩ := h
    obtain ⟨dx, e, h1⟩ := hp.ins
    obtain ⟨xs, h2, h3⟩ := hp.stk
    obtain ⟨ys, t, rfl, h4, h5⟩ := stk_top h3
    refine ⟨_, pss_cons (ps_expr (pe_bm0 PySem.F.plainAttrs_list PySem.F.slot_list_pop PySem.F.type_list_pop mt_pop (pe_fld (pv 0) rfl)))
      (pss_cons (ps_if (pt_cmpR (op_neD hr.units) (pv 1) (pe_tup (pa_cons pe_str pa_nil)) (nomark _)) pss_never pss_nil)
      (pss_cons (ps_if (pt_truth (pe_fld (pv 0) rfl) (by intro _; rfl)) (pss_one (ps_fld (pv 0) pe_str rfl)) (pss_one (ps_fld (pv 0) (pv 1) rfl)))
      (pss_one (ps_ret pe_bl)))), ?_⟩
    refine ⟨_, rfl, a, cP K, dx, _, _, rfl, h1, T.clP, T.nS, rfl, .inl ⟨rfl, _, .of h2⟩, sk, _, _, rfl, rfl, h2, (by rw [List.length_append, List.length_singleton, Nat.add_sub_cancel]; exact List.getElem?_concat_length), ?_⟩
    rw [List.dropLast_concat]
    have kt : TupK H (upd H sk (.lst ys)) := tup_upd fun xs z => by rw [h2] at z; cases z
    have hv' := hv.keep kt
    refine ⟨v, rfl, (by show 1 ≤ sizeLine; decide), fun n hn => ?_⟩
    have hn0 : H n = none := by
      by_cases z : n = sk
      · rw [z, upd_same] at hn; cases hn
      · rw [upd_ne z] at hn; exact hn
    have nan : a ≠ n := ne_of_none h1 hn0
    have nsn : sk ≠ n := ne_of_none h2 hn0
    refine ⟨.tuple [.str bkS], .tuple [.str bkS], (hv'.keep (Same.tup (same_upd hn))).dp, (im_tup.mpr ⟨n, _, rfl, upd_same, imAll_one (im_str.mpr rfl)⟩).dp, bk_shaped, bk_shaped, ?_⟩
    refine ⟨_, rfl, ?_⟩
    rw [show (!PyData.eqv (.tuple [.str bkS]) (.tuple [.str bkS])) = false by decide +kernel]
    refine iteF ?_
    have h1' : upd (upd H sk (.lst ys)) n (.tup [.str "back"]) a = some (.ins (cP K) dx (posF tb sk (dueS false) e)) := by rw [upd_ne nan, upd_ne hp.nas]; exact h1
    have h2' : upd (upd H sk (.lst ys)) n (.tup [.str "back"]) sk = some (.lst ys) := by rw [upd_ne nsn, upd_same]
    refine ⟨_, rfl, a, cP K, dx, _, _, rfl, h1', T.clP, T.nS, rfl, !ys.isEmpty, .inl ⟨ys, .of h2', rfl⟩, ?_⟩
    have kt2 : TupK H (upd (upd H sk (.lst ys)) n (.tup [.str "back"])) := kt.trans (Same.tup (same_upd hn))
    have hch : Chg [a, sk] H (upd (upd H sk (.lst ys)) n (.tup [.str "back"])) := Chg.trans (chg_upd (by simp)) (Same.chg (same_upd hn))
    have fin : ∀ (e' : V) (u : Str), u = dueS false → Moved (cP K) p H a sk tb (leaveBack r) (upd (upd (upd H sk (.lst ys)) n (.tup [.str "back"])) a (.ins (cP K) dx (posF tb sk u e'))) := fun e' u hu => by
      have kt3 : TupK H (upd (upd (upd H sk (.lst ys)) n (.tup [.str "back"])) a (.ins (cP K) dx (posF tb sk u e'))) := kt2.trans (tup_upd fun xs z => by rw [upd_ne nan, upd_ne hp.nas, h1] at z; cases z)
      refine ⟨hch.trans (chg_upd (by simp)), ?_⟩
      rw [(leaveBack_st r).1, (leaveBack_st r).2]
      refine ⟨⟨dx, e', by rw [upd_same, hu]⟩, ⟨ys, by rw [upd_ne hp.nas.symm, upd_ne nsn, upd_same], h5.keep kt3⟩, hp.tab.keep kt3 ?_, fun z hz => hp.ok z (List.mem_cons_of_mem _ hz)⟩
      obtain ⟨kvs, z, _⟩ := hp.tab
      rw [upd_ne hp.nta, upd_ne (ne_of_none z hn0), upd_ne hp.nts]
    refine ite2 (fun _ => ?_) (fun _ => ?_)
    · refine ⟨_, rfl, a, cP K, dx, _, rfl, h1', T.clP, T.nD, (by show 4 < 1000; decide), ?_⟩
      exact k _ (fin e wayS rfl)
    · refine ⟨_, rfl, _, rfl, a, cP K, dx, _, rfl, h1', T.clP, T.nE, (by show 4 < 1000; decide), ?_⟩
      exact k _ (fin v _ rfl)
end
end K28

set_option Elab.async false
set_option linter.all false
set_option maxRecDepth 100000
set_option maxHeartbeats 4000000
/-! class Position: go_way, choose, arrival, __init__; table_of, first_position. -/
namespace K28
open PySem PySem.Spec PyProof.Rows L2
section
variable {P : Program} {w : World} {K : PySem.W.Frag} {mg : Str → Option Value} {base : Heap}

/-! ### go_way -/
def spGoWay (C : Addr) (p : Prog) : Sp := fun vs H Q _ => ∃ a sk tb s r v wy, vs = [.ref a, v] ∧ PosAt C p H a sk tb (s :: r) false ∧ Im H (wayD wy) v ∧ (∀ n, wy = .num n → SpotOk p (s.1, n)) ∧ (∀ k, wy = .fail k → NmOk k) ∧
  ∀ b H', Moved C p H a sk tb (stepWay p s r (some wy)) H' → (b = true → (stepWay p s r (some wy)).st ≠ []) → Q (.bl b) H'
theorem scGW : FnScope ["self", "way"] ["self", "way"] (defScope sGoWay) := ⟨rfl, rfl, rfl, by decide +kernel, rfl, by decide +kernel, by decide +kernel⟩
theorem shaped_fail {k : Str} (h : (k.cps.all (· < 0x110000)) = true) : SeqAt.shaped (.tuple [.str flS, .str k]) = true := by
  show (PyData.canLay0 (.tuple [.str flS, .str k]) && decide (PyData.depth (.tuple [.str flS, .str k]) ≤ 64)) = true
  rw [Bool.and_eq_true]
  refine ⟨?_, ?_⟩
  · simp only [PyData.canLay0, PyData.canLayAll0, Bool.and_true, Bool.and_eq_true]
    exact ⟨by decide +kernel, h⟩
  · exact decide_eq_true (by simp [PyData.depth, PyData.depthAll])
theorem eqv_bk_fail (k : Str) : PyData.eqv (.tuple [.str flS, .str k]) (.tuple [.str bkS]) = false := by
  simp only [PyData.eqv, PyData.eqvAll, Bool.and_false]
theorem eqv_bk_bk : PyData.eqv (.tuple [.str bkS]) (.tuple [.str bkS]) = true := by decide +kernel
theorem ok_goWay {p : Prog} {f gn ga gv gf : Addr} (F : At K "go_way" "Position.go_way" sGoWay f) (T : Tx K mg)
    (N : Ok P w K mg base 2 gn ["thing"] spIsNumber) (mgN : mg "is_number" = some (.ref gn)) (A1 : Ok P w K mg base 1 ga ["self", "index"] (spArrive (cP K) p)) (mA : Meth K (cP K) "arrive" ga)
    (L : Ok P w K mg base 1 gv ["self", "end"] (spLeave (cP K) p)) (mL : Meth K (cP K) "leave" gv) (FH : Ok P w K mg base 2 gf ["self", "end"] (spFailHere (cP K) p)) (mF : Meth K (cP K) "fail_here" gf) :
    Ok P w K mg base 3 f ["self", "way"] (spGoWay (cP K) p) := by
  refine mkOk F scGW (fun _ _ _ _ _ _ us hl => match us, hl with | [_, _], _ => rfl) (fun vs H Q E h => ?_) (fun cdv A outer s H vs Q E hr h => ?_)
  · obtain ⟨a, sk, tb, q, r, v, wy, rfl, _⟩ := h; rfl
  · obtain ⟨a, sk, tb, q, r, v, wy, rfl, hp, hv, hn, hk, k⟩ := h
    obtain ⟨dx, e, h1⟩ := hp.ins
    have hr1 : Room 1 _ := hr.mono (by decide)
    refine ⟨_, pss_cons (ps_if (pt_val (pe_callO N hr (by rfl) mgN (pa_cons (pv 1) pa_nil))) (pss_cons (ps_expr (pe_methO A1 hr1 (pv 0) T.clP mA (pa_cons (pv 1) pa_nil))) (pss_one (ps_ret pe_bl))) pss_nil)
      (pss_cons (ps_if (pt_cmpR (op_eqD hr.units) (pv 1) (pe_tup (pa_cons pe_str pa_nil)) (nomark _)) (pss_one (ps_ret (pe_methO L hr1 (pv 0) T.clP mL (pa_cons (pv 1) pa_nil)))) pss_nil)
      (pss_one (ps_ret (pe_methO FH hr (pv 0) T.clP mF (pa_cons (pv 1) pa_nil))))), ?_⟩
    have fresh : ∀ n, H n = none → PosAt (cP K) p (upd H n (.tup [.str "back"])) a sk tb (q :: r) false ∧ Same H (upd H n (.tup [.str "back"])) ∧ Im (upd H n (.tup [.str "back"])) (.tuple [.str bkS]) (.ref n) := fun n z =>
      ⟨hp.same (same_upd z), same_upd z, im_tup.mpr ⟨n, _, rfl, upd_same, imAll_one (im_str.mpr rfl)⟩⟩
    cases wy with
    | num n =>
      have ev : v = .int (n : Int) := im_int.mp hv
      subst ev
      refine ⟨_, rfl, _, true, rfl, .inl ⟨(n : Int), rfl, (decide_eq_true (Int.natCast_nonneg n)).symm⟩, _, rfl, iteT ?_⟩
      refine ⟨_, rfl, a, dx, _, rfl, h1, rfl, _, rfl, a, sk, tb, q, r, false, n, rfl, hp, hn n rfl, fun H' hm => ?_⟩
      exact k true H' hm fun _ => List.cons_ne_nil _ _
    | back =>
      obtain ⟨tv, xs, rfl, hv1, hv2⟩ := im_tup.mp hv
      refine ⟨_, rfl, _, false, rfl, .inr ⟨tv, xs, rfl, hv1, rfl⟩, _, rfl, iteF ?_⟩
      refine ⟨_, rfl, (by show 1 ≤ sizeLine; decide), fun n z => ?_⟩
      obtain ⟨hp', hs, hi⟩ := fresh n z
      refine ⟨.tuple [.str bkS], .tuple [.str bkS], (hv.keep (Same.tup hs)).dp, hi.dp, bk_shaped, bk_shaped, ?_⟩
      refine ⟨_, rfl, ?_⟩
      rw [eqv_bk_bk]
      refine iteT ?_
      refine ⟨_, rfl, a, dx, _, rfl, hs _ _ h1, rfl, _, rfl, a, sk, tb, q, r, _, rfl, hp', hv.keep (Same.tup hs), fun H' hm => ?_⟩
      exact k false H' ⟨(Same.chg hs).trans hm.1, hm.2⟩ fun z => nomatch z
    | fail kd =>
      obtain ⟨tv, xs, rfl, hv1, hv2⟩ := im_tup.mp hv
      refine ⟨_, rfl, _, false, rfl, .inr ⟨tv, xs, rfl, hv1, rfl⟩, _, rfl, iteF ?_⟩
      refine ⟨_, rfl, (by show 1 ≤ sizeLine; decide), fun n z => ?_⟩
      obtain ⟨hp', hs, hi⟩ := fresh n z
      refine ⟨.tuple [.str flS, .str kd], .tuple [.str bkS], (hv.keep (Same.tup hs)).dp, hi.dp, shaped_fail (hk kd rfl).1, bk_shaped, ?_⟩
      refine ⟨_, rfl, ?_⟩
      rw [eqv_bk_fail]
      refine iteF ?_
      refine ⟨_, rfl, a, dx, _, rfl, hs _ _ h1, rfl, _, rfl, a, sk, tb, q :: r, _, kd, rfl, hp', hv.keep (Same.tup hs), fun b H' hm hb => ?_⟩
      exact k b H' ⟨(Same.chg hs).trans hm.1, hm.2⟩ hb

/-! ### choose -/
def spChoose (C : Addr) (p : Prog) : Sp := fun vs H Q _ => ∃ a sk tb s r call, ∃ c : Nat, vs = [.ref a, .int c] ∧ PosAt C p H a sk tb (s :: r) call ∧ c < width p (.run (s :: r) call) ∧ r.length < 1000 ∧
  ∀ b H', Moved C p H a sk tb (step p (.run (s :: r) call) c) H' → (b = true → (step p (.run (s :: r) call) c).st ≠ []) → Q (.bl b) H'
theorem scCh : FnScope ["self", "choice", "calls", "ways", "handlers"] ["self", "choice"] (defScope sChoose) := ⟨rfl, rfl, rfl, by decide +kernel, rfl, by decide +kernel, by decide +kernel⟩
theorem ok_choose {p : Prog} (Wp : WF p) {f gl gw : Addr} (F : At K "choose" "Position.choose" sChoose f) (T : Tx K mg)
    (L : Ok P w K mg base 1 gl ["self"] (spLineHere (cP K) p)) (mL : Meth K (cP K) "line_here" gl) (G : Ok P w K mg base 3 gw ["self", "way"] (spGoWay (cP K) p)) (mG : Meth K (cP K) "go_way" gw) :
    Ok P w K mg base 4 f ["self", "choice"] (spChoose (cP K) p) := by
  refine mkOk F scCh (fun _ _ _ _ _ _ us hl => match us, hl with | [_, _], _ => rfl) (fun vs H Q E h => ?_) (fun cdv A outer s H vs Q E hr h => ?_)
  · obtain ⟨a, sk, tb, q, r, call, c, rfl, _⟩ := h; rfl
  · obtain ⟨a, sk, tb, q, r, call, c, rfl, hp, hc, hlen, k⟩ := h
    obtain ⟨dx, e, h1⟩ := hp.ins
    obtain ⟨xs, h2, h3⟩ := hp.stk
    obtain ⟨l, hl⟩ := hp.ok q List.mem_cons_self
    have hr1 : Room 1 _ := hr.mono (by decide)
    refine ⟨_, pss_cons (ps_asg (pe_methO0 L hr1 (pv 0) T.clP mL) (pg_tup (by rfl) (pgs_cons (pg_name (i := 2) scCh.nd rfl (Or.inl rfl)) (pgs_cons (pg_name (i := 3) scCh.nd rfl (Or.inl rfl)) (pgs_cons (pg_name (i := 4) scCh.nd rfl (Or.inl rfl)) pgs_nil)))))
      (pss_cons (ps_if (pt_cmpR op_eq (pe_fld (pv 0) rfl) pe_str (nomark _)) (pss_one (ps_ret (pe_methO G hr (pv 0) T.clP mG (pa_cons (pe_ix ix_tup (pv 3) (pv 1) (fun _ _ => rfl)) pa_nil)))) pss_nil)
      (pss_cons (ps_if (pt_cmpR op_eq (pe_ix ix_tup (pv 2) (pv 1) (fun _ _ => rfl)) pe_str (nomark _)) (pss_cons (ps_fld (pv 0) pe_str rfl) (pss_one (ps_ret pe_bl))) pss_nil)
      (pss_cons (ps_expr (pe_bm PySem.F.plainAttrs_list PySem.F.slot_list_append PySem.F.type_list_append mt_append (pe_fld (pv 0) rfl) (pa_cons (pe_tup (pa_cons (pe_ix ix_tup (pv 2) (pv 1) (fun _ _ => rfl)) (pa_cons pe_int pa_nil))) pa_nil)))
      (pss_one (ps_ret pe_bl))))), ?_⟩
    refine ⟨_, rfl, a, dx, _, rfl, h1, rfl, a, sk, tb, q, r, call, l, rfl, hp, hl, fun v hv => ?_⟩
    obtain ⟨t2, cs, ws, z, rfl, e1, ⟨csx, e2, e3⟩, ⟨wsx, e4, e5⟩, _⟩ := im_line hv
    refine ⟨t2, _, rfl, .of e1, rfl, _, _, rfl, _, _, rfl, _, _, rfl, rfl, ?_⟩
    refine ⟨_, rfl, a, cP K, dx, _, _, rfl, h1, T.clP, T.nD, rfl, rfl, _, rfl, ?_⟩
    cases call with
    | false =>
      rw [show decide (V.str (dueS false) = V.str "way") = true from decide_eq_true rfl]
      refine iteT ?_
      have hc' : c < l.2.1.length := by
        have q' : c < (lineD p q).2.1.length := hc
        rwa [lineD_of hl] at q'
      obtain ⟨x, x1, x2⟩ := e5.get (i := c) (d := wayD l.2.1[c]) (by rw [List.getElem?_map, List.getElem?_eq_getElem hc']; rfl)
      have hmem : l.2.1[c] ∈ l.2.1 := List.getElem_mem hc'
      obtain ⟨lsx, _, m2, m3⟩ := line_mem hl
      refine ⟨_, rfl, a, dx, _, rfl, h1, rfl, _, rfl, _, rfl, ws, wsx, _, x, rfl, rfl, .of e4, atI_nat x1, ?_⟩
      have es : step p (.run (q :: r) false) c = stepWay p q r (some l.2.1[c]) := by
        show stepWay p q r (lineD p q).2.1[c]? = _
        rw [lineD_of hl, List.getElem?_eq_getElem hc']
      refine ⟨a, sk, tb, q, r, x, l.2.1[c], rfl, hp, x2, fun n hn => Wp.way hl (hn ▸ hmem), fun kd hk => ((Wp.nms _ m2).2 l m3).2.1 kd (hk ▸ hmem), fun b H' hm hb => ?_⟩
      rw [← es] at hm hb
      exact k b H' hm hb
    | true =>
      rw [show decide (V.str (dueS true) = V.str "way") = false from decide_eq_false (by intro z; exact due_ne (V.str.inj z))]
      refine iteF ?_
      have hc' : c < l.1.length := by
        have q' : c < (lineD p q).1.length := hc
        rwa [lineD_of hl] at q'
      obtain ⟨x, x1, x2⟩ := e3.get (i := c) (d := .str l.1[c]) (by rw [List.getElem?_map, List.getElem?_eq_getElem hc']; rfl)
      rw [im_str] at x2; subst x2
      have hmem : l.1[c] ∈ l.1 := List.getElem_mem hc'
      have es : step p (.run (q :: r) true) c = stepCall q r (some l.1[c]) := by
        show stepCall q r (lineD p q).1[c]? = _
        rw [lineD_of hl, List.getElem?_eq_getElem hc']
      refine ⟨_, rfl, _, rfl, cs, csx, _, _, rfl, rfl, .of e2, atI_nat x1, rfl, _, rfl, ?_⟩
      by_cases hn : l.1[c] = eS
      · rw [show decide (V.str l.1[c] = V.str "") = true from decide_eq_true (by rw [hn, eS_eq])]
        have es' : step p (.run (q :: r) true) c = .run (q :: r) false := by
          rw [es]; show (if l.1[c] = eS then _ else _) = _; rw [if_pos hn]
        refine iteT ⟨_, rfl, a, cP K, dx, _, rfl, h1, T.clP, T.nD, (by show 4 < 1000; decide), ?_⟩
        have kt : TupK H (upd H a (.ins (cP K) dx (putF "due" (.str "way") (posF tb sk (dueS true) e)))) := tup_upd fun xs z => by rw [h1] at z; cases z
        refine k false _ ?_ (fun z => nomatch z)
        rw [es']
        exact ⟨chg_upd (by simp), ⟨⟨dx, e, by rw [upd_same]; rfl⟩, ⟨xs, by rw [upd_ne hp.nas.symm]; exact h2, h3.keep kt⟩, hp.tab.keep kt (upd_ne hp.nta), hp.ok⟩⟩
      · rw [show decide (V.str l.1[c] = V.str "") = false from decide_eq_false (fun z => hn ((V.str.inj z).trans eS_eq))]
        have es' : step p (.run (q :: r) true) c = .run ((l.1[c], 0) :: q :: r) true := by
          rw [es]; show (if l.1[c] = eS then _ else _) = _; rw [if_neg hn]
        refine iteF ?_
        have xl : xs.length = r.length + 1 := by rw [h3.length, List.length_map, List.length_reverse, List.length_cons]
        refine ⟨_, rfl, a, cP K, dx, _, _, rfl, h1, T.clP, T.nS, rfl, .inl ⟨rfl, _, .of h2⟩, _, rfl, _, rfl, cs, csx, _, _, rfl, rfl, .of e2, atI_nat x1, (by show 2 ≤ sizeLine; decide), fun n z => ?_⟩
        have nan : a ≠ n := ne_of_none h1 z
        have nsn : sk ≠ n := ne_of_none h2 z
        refine ⟨sk, xs, _, rfl, rfl, (by rw [upd_ne nsn]; exact h2), (by rw [xl]; exact Nat.lt_of_le_of_lt hlen (by decide)), ?_⟩
        have kt : TupK H (upd (upd H n (.tup [.str l.1[c], .int 0])) sk (.lst (xs ++ [.ref n]))) := (Same.tup (same_upd z)).trans (tup_upd fun xs y => by rw [upd_ne nsn, h2] at y; cases y)
        refine k true _ ?_ (fun _ => by rw [es']; exact List.cons_ne_nil _ _)
        rw [es']
        refine ⟨Chg.trans (Same.chg (same_upd z)) (chg_upd (by simp)), ⟨⟨dx, e, by rw [upd_ne hp.nas, upd_ne nan]; exact h1⟩, ⟨_, upd_same, ?_⟩, hp.tab.keep kt ?_, ?_⟩⟩
        · show ImAll _ (((l.1[c], 0) :: q :: r).reverse.map spD) _
          rw [List.reverse_cons, List.map_append]
          exact (h3.keep kt).append (imAll_one (im_tup.mpr ⟨n, _, rfl, by rw [upd_ne nsn.symm, upd_same]; rfl, imAll_two (im_str.mpr rfl) (im_int.mpr rfl)⟩))
        · obtain ⟨kvs, y, _⟩ := hp.tab
          rw [upd_ne hp.nts, upd_ne (ne_of_none y z)]
        · intro s' hs'
          rcases List.mem_cons.mp hs' with rfl | hs'
          · exact Wp.call hl hmem hn
          · exact hp.ok s' hs'
end
end K28

set_option Elab.async false
set_option linter.all false
set_option maxRecDepth 100000
set_option maxHeartbeats 4000000
/-! enumerate of a tuple. -/
namespace K28
open PySem PySem.Spec PyProof.Rows L2
theorem meets_enum1 {v : Value} {o : Obj} {J : Heap → Prop} (B : Begins v o J) :
    Meets (Builtin.«enumerate.__new__» ⟨[.type "enumerate", v], []⟩) (fun _ R s => J s.heap ∧
      R (.ok (.ret (.ref (s.heap.push o).objs.size))) { s with heap := (s.heap.push o).push { cls := .type "enumerate", data := .fields #[.none, .bool false, .ref s.heap.objs.size, rawInt 0, .none, .none] } }) :=
  .of_wp fun prog w A R s h => by
    obtain ⟨hp, g, d, tk, os⟩ := s
    obtain ⟨h1, h⟩ := h
    have hsub := sub_enumerate
    have begin_ : ∀ {A' : Around} {E : Value → Shared → Prop} {Q : Value → Shared → Prop}, Q (.ref hp.objs.size) ⟨hp.push o, g, d, tk, os⟩ → wpAny (model prog w) A' (pyIter v) Q E ⟨hp, g, d, tk, os⟩ :=
      fun q => B.iter prog w _ _ ⟨hp, g, d, tk, os⟩ _ h1 q
    wp_walk using begin_
    refine wpAny_stack_any fun st => wpAny_pure ?_
    split
    · rename_i c _ _ _ _ _
      cases (c == Value.type "enumerate") <;> (wp_walk using begin_; exact ⟨_, rfl, h⟩)
    · wp_walk using begin_
      exact ⟨_, rfl, h⟩
section
variable {prog : Program} {w : World} {A : Around} {E : Value → Shared → Prop} {s : Shared}
theorem call_enum1 {v : Value} {o : Obj} {J : Heap → Prop} {Q : Value → Shared → Prop} (B : Begins v o J) (h1 : J s.heap)
    (h : ∀ h', IsEnum h' (s.heap.objs.size + 1) s.heap.objs.size 0 .none → h'.get? s.heap.objs.size = some o → (∀ b o, s.heap.get? b = some o → h'.get? b = some o) → Q (.ref (s.heap.objs.size + 1)) { s with heap := h' }) :
    wpAny (model prog w) A (call (.type "enumerate") [v]) Q E s := by
  refine callType_new F.called_enumerate (by decide) (F.typeCall_enumerate_1 _) (F.newCall_enumerate_1 _) (fun obj => F.args_object_init_2 obj _) F.entry_enumerate_new (meets_enum1 B) ⟨h1, ?_⟩
  have hz : (s.heap.push o).objs.size = s.heap.objs.size + 1 := Heap.size_push ..
  show _ ∧ _
  rw [hz]
  have he : IsEnum ((s.heap.push o).push { cls := .type "enumerate", data := .fields #[.none, .bool false, .ref s.heap.objs.size, rawInt 0, .none, .none] }) (s.heap.objs.size + 1) s.heap.objs.size 0 .none := by
    have q := Heap.get?_push_size (s.heap.push o) (o := { cls := .type "enumerate", data := .fields #[.none, .bool false, .ref s.heap.objs.size, rawInt 0, .none, .none] }) rfl
    rwa [hz] at q
  exact ⟨⟨_, he, rfl⟩, h _ he (Heap.get?_push_of_some _ (Heap.get?_push_size _ B.free)) fun b u x => Heap.get?_push_of_some _ (Heap.get?_push_of_some _ x)⟩
end
/-- the tuple at a, each item in a new pair -/
def IteT (K : PySem.W.Frag) (a : Addr) : It :=
  ⟨fun i H => ∃ (xs : List V) (x : V), SqT K H a xs ∧ xs[i]? = some x, fun i H v H' => ∃ T x, v = .ref T ∧ H T = none ∧ H' = upd H T (.tup [.int (i : Nat), x]) ∧ ∀ xs, SqT K H a xs → xs[i]? = some x, fun i H => ∃ xs : List V, SqT K H a xs ∧ xs.length ≤ i⟩
theorem tupIter_ne {h : Heap} {it t : Addr} {i : Nat} {items : Array Value} (hi : h.IsTupleIter it t i) (ht : h.IsTuple t items) : t ≠ it := by
  rintro rfl
  obtain ⟨o, ho, hc, _⟩ := hi
  obtain ⟨o', ho', hc', _⟩ := ht
  rw [ho] at ho'; cases ho'
  rw [hc] at hc'
  exact absurd hc' (by decide)
theorem turn_enumT {P : Program} {w : World} {K : PySem.W.Frag} {elts : List Expr} {kk : Nat} {tpos : Pos} (a e it : Addr) :
    Turn P w K (.Tuple elts kk tpos) (IteT K a) [e, it] e (fun i h => (∃ old, IsEnum h e it ((i : Nat) : Int) old) ∧ h.IsTupleIter it a i ∧ e ≠ it) where
  mem := by simp
  obj := fun i h st b hb => by
    obtain ⟨⟨old, he⟩, ⟨o, ho, hc, hd⟩, _⟩ := st
    rcases List.mem_cons.mp hb with z | z
    · rw [z]; exact ⟨_, he, fun v q => nomatch q⟩
    · rw [List.mem_singleton.mp z]; exact ⟨o, ho, fun v q => by rw [hd] at q; cases q⟩
  keep := fun i h h' st k => let ⟨⟨old, he⟩, hi, hne⟩ := st; ⟨⟨old, k e (by simp) _ he⟩, hi.at fun o q => k it (by simp) o q, hne⟩
  item := by
    intro X hP hw hK hc i pins s σ H E I hf st hg
    subst hP hw hK
    obtain ⟨⟨old, he⟩, hit, hne⟩ := st
    obtain ⟨xs, x, hq, hx⟩ := hg
    obtain ⟨its, rv, p, hz⟩ := I.tuple hq
    obtain ⟨u, hu, ru⟩ := rv.get hx
    have hel : e < s.heap.objs.size := Heap.lt_size he
    have hil : it < s.heap.objs.size := by obtain ⟨_, q, _⟩ := hit; exact Heap.lt_size q
    have ht : s.heap.IsTuple a its.toArray := p
    have hai := tupIter_ne hit ht
    have hsz : i < its.toArray.size := by
      have := (List.getElem?_eq_some_iff.mp hu).1
      simpa using this
    have hea : e ≠ a := by
      rintro rfl
      obtain ⟨o', ho', hc', _⟩ := ht
      have he' : s.heap.get? e = some _ := he
      rw [he'] at ho'; cases ho'
      have hc2 : Value.type "enumerate" = Value.type "tuple" := hc'
      exact absurd hc2 (by decide)
    have D := Draws.tuple (prog := X.prog) (w := X.w) (A := X.A.in1) (I.ok.hd hc) it a hai its.toArray
    refine wpAny_pyNext_enum_itemC D he ⟨hit, ht⟩ hsz hne (fun z => by
      rcases List.mem_cons.mp z with z | z
      · exact hne z
      · exact hea (List.mem_singleton.mp z)) fun v h' tk hv ho hst' hT hz2 hk => ?_
    have ev : v = u := by
      have hv' : its.toArray[i]? = some v := hv
      have hu' : its.toArray[i]? = some u := by simpa using hu
      rw [hv'] at hu'; exact Option.some.inj hu'
    subst ev
    refine ⟨_, rfl, wpAny_letOwnedTupleGo_enum (s := { s with heap := h', toks := tk + 1 }) ho fun h'' he' sb => ?_⟩
    have hT2 : h''.get? s.heap.objs.size = some { cls := .type "tuple", data := .seq #[.int i tk, v] } := (sb.2 _ (Nat.ne_of_gt hel)).trans hT
    have new : ObjOk X.prog X.w (upd H s.heap.objs.size (.tup [.int (i : Nat), x])) h'' s.heap.objs.size (.tup [.int (i : Nat), x]) :=
      ⟨by show 2 ≤ sizeLine; decide, [.int i tk, v], .cons ⟨_, rfl⟩ (.cons ru .nil), ⟨_, hT2, rfl, _, rfl⟩⟩
    have I1 : Inv X pins σ (upd H s.heap.objs.size (.tup [.int (i : Nat), x])) { s with heap := h'', toks := tk + 1 } :=
      I.turnedNew (ch := [e, it]) (fun b ob hb q => (sb.2 b (fun z => hb (by simp [z]))).trans (hk b ob (fun z => hb (by simp [z])) (fun z => hb (by simp [z])) q)) hf (Nat.le_refl _) new
    refine ⟨.ref s.heap.objs.size, _, I1, rfl, ⟨_, x, rfl, I.hok.fresh (Nat.le_refl _), rfl, fun ys hy => by rw [I.tuple_inj hy hq]; exact hx⟩, ⟨⟨v, ?_⟩, hst'.1.at fun o q => (sb.2 it (Ne.symm hne)).trans q, hne⟩, fun b hb => ?_⟩
    · have e1 : ((i + 1 : Nat) : Int) = (i : Int) + 1 := by omega
      rw [e1]; exact he'
    · have hb' : b < s.heap.objs.size := by
        rcases List.mem_cons.mp hb with z | z
        · rw [z]; exact hel
        · rw [List.mem_singleton.mp z]; exact hil
      rw [upd_ne (Nat.ne_of_lt hb')]
      exact (hf b hb).1
  done := by
    intro X hP hw hK hc i pins s σ H E I hf st hg
    subst hP hw hK
    obtain ⟨⟨old, he⟩, hit, hne⟩ := st
    obtain ⟨xs, hq, hx⟩ := hg
    obtain ⟨its, rv, p, hz⟩ := I.tuple hq
    obtain ⟨f0, f1, f2, f3, f4, f5⟩ := hf it (by simp)
    have hl := rv.length
    have ht : s.heap.IsTuple a its.toArray := p
    unfold pyNext
    have hT : s.TypeIs (.ref e) "enumerate" := ⟨_, he, rfl⟩
    refine wpAny_bind (wpAny_attempt (wpAny_callSpecial?_slot (name := Str.ofString "__next__") hT F.slot_enumerate_next (wpAny_call_entry F.slot_enumerate_next hT F.entry_enumerate_next ?_ (F.args_enumerate_next_1 _))))
    show wpAny _ _ (field (.ref e) 2 >>= _) _ _ _
    refine wpAny_bind (wpAny_field he rfl (x := .ref it) rfl ?_)
    refine wpAny_bind (wpAny_nextOf_tuple_end (I.ok.hd hc) hit ht (by simp; omega) fun h' x he' hx' => ?_)
    obtain ⟨o, ho, hcl⟩ := hx'
    refine wpAny_bind (wpAny_isInstance (T := "StopIteration") (b := true) ⟨o, ho, hcl⟩ isSubtype_stop ?_)
    exact wpAny_pure ⟨rfl, I.turned (t' := s.toks) (fun b o hb q => he' b o hb q) f0 f1 f3 f4 f5⟩
  self := fun A i s Q E st h => let ⟨⟨_, he⟩, _⟩ := st; wpAny_pyIter_enum he h
def iEnumT (K : PySem.W.Frag) (ta : TA) : TI := fun σ H R => ta σ H fun vs H1 => ∃ a xs, vs = [.ref a] ∧ SqT K H1 a xs ∧ R (IteT K a) H1
theorem pi_enumT {X : Cx} {e : Expr} {ta : TA} {p pos tpos : Pos} {elts : List Expr} {kk : Nat} (hg : Gl X "enumerate") (hm : X.mg "enumerate" = none) (ha : PA X [e] ta) (hs : starEach [e] X.env = [(false, eval e X.env)] := by rfl) :
    PI X (.Tuple elts kk tpos) (.Call (.Name "enumerate" p) [e] [] pos) (iEnumT X.K ta) := by
  refine ⟨fun pins s σ H R I h => ?_⟩
  refine Call_ (ld_blt I hg hm (by decide +kernel : bootBuiltins "enumerate" = some (.type "enumerate")) (PyProof.Rows.callWith_type1 (thn (ha.run pos pins s σ H _ I h) fun us s1 ⟨vs, H1, I1, r1, q1⟩ => ?_) hs rfl))
  obtain ⟨a, xs, ex, hq, q⟩ := q1
  subst ex
  obtain ⟨u, rfl, r⟩ := Vals.one r1
  cases r
  obtain ⟨its, rv, p', hz⟩ := I1.tuple hq
  have ht : s1.heap.IsTuple a its.toArray := p'
  refine call_enum1 (begins_tuple a its.toArray) ht fun h' he hit hk => wpAny_pyIter_enum he ?_
  have I2 : Inv X pins σ H1 { s1 with heap := h' } := I1.kept (t' := s1.toks) hk
  refine ⟨s1.heap.objs.size + 1, [s1.heap.objs.size + 1, s1.heap.objs.size], _, _, H1, rfl, I2, turn_enumT a (s1.heap.objs.size + 1) s1.heap.objs.size, ⟨⟨.none, he⟩, ⟨_, hit, rfl, rfl⟩, Nat.succ_ne_self _⟩, fun b hb => ?_, q⟩
  have hle : s1.heap.objs.size ≤ b := by
    rcases List.mem_cons.mp hb with z | z
    · rw [z]; exact Nat.le_add_right _ _
    · rw [List.mem_singleton.mp z]; exact Nat.le_refl _
  exact I1.fpOk hle (I1.hok.fresh hle)
theorem for_enumT {K : PySem.W.Frag} {a : Addr} {xs : List V} {g : TG} {tb : TS} {D : Ends} {σ : L2.St} {H : Hp} (Pv : Nat → L2.St → Hp → Prop) (h0 : Pv 0 σ H) (hl : ∀ i σ H, i ≤ xs.length → Pv i σ H → SqT K H a xs)
    (hs : ∀ i x σ H t, xs[i]? = some x → Pv i σ H → H t = none → g (.ref t) σ (upd H t (.tup [.int (i : Nat), x])) fun σ2 H2 => tb { D with nx := Pv (i + 1), ct := Pv (i + 1), bk := D.nx } σ2 H2) (hd : ∀ σ H, Pv xs.length σ H → D.nx σ H) :
    ∃ W : Nat → Nat → L2.St → Hp → Prop, (∃ m, W 0 m σ H) ∧ ∀ i m σ H, W i m σ H →
      ((IteT K a).stop i H ∧ D.nx σ H) ∨ ((IteT K a).go i H ∧ ∃ N : L2.St → Hp → Prop, (∀ σ' H', N σ' H' → ∃ m', m' < m ∧ W (i + 1) m' σ' H') ∧ ∀ x H', (IteT K a).yld i H x H' → g x σ H' fun σ2 H2 => tb { D with nx := N, ct := N, bk := D.nx } σ2 H2) := by
  refine ⟨fun i m σ H => m = xs.length - i ∧ i ≤ xs.length ∧ Pv i σ H, ⟨xs.length, by simp, Nat.zero_le _, h0⟩, ?_⟩
  rintro i m σ H ⟨rfl, hi, p⟩
  have q := hl i σ H hi p
  by_cases hlt : i < xs.length
  · refine .inr ⟨⟨xs, xs[i], q, by simp [hlt]⟩, Pv (i + 1), fun σ' H' p' => ⟨xs.length - (i + 1), by omega, rfl, hlt, p'⟩, fun x H' y => ?_⟩
    obtain ⟨t, x', rfl, hn, rfl, y⟩ := y
    exact hs i x' σ H t (y xs q) p hn
  · have e : i = xs.length := by omega
    subst e
    exact .inl ⟨⟨xs, q, Nat.le_refl _⟩, hd σ H p⟩
end K28

set_option Elab.async false
set_option linter.all false
set_option maxRecDepth 100000
set_option maxHeartbeats 4000000
/-! positions made; runs followed. -/
namespace K28
open PySem PySem.Spec PyProof.Rows L2
section
variable {P : Program} {w : World} {K : PySem.W.Frag} {mg : Str → Option Value} {base : Heap}

/-! ### arrival -/
def spArrival (C : Addr) (p : Prog) : Sp := fun vs H Q _ => ∃ a sk tb st call, vs = [.ref a] ∧ PosAt C p H a sk tb st call ∧ st ≠ [] ∧ ∀ v H', Same H H' → Q v H'
theorem scArr : FnScope ["self"] ["self"] (defScope sArrival) := ⟨rfl, rfl, rfl, by decide +kernel, rfl, by decide +kernel, by decide +kernel⟩
theorem ok_arrival {p : Prog} {f : Addr} (F : At K "arrival" "Position.arrival" sArrival f) (T : Tx K mg) : Ok P w K mg base 1 f ["self"] (spArrival (cP K) p) := by
  refine mkOk F scArr (fun _ _ _ _ _ _ us hl => match us, hl with | [_], _ => rfl) (fun vs H Q E h => ?_) (fun cdv A outer s H vs Q E hr h => ?_)
  · obtain ⟨a, sk, tb, st, call, rfl, _⟩ := h; rfl
  · obtain ⟨a, sk, tb, st, call, rfl, hp, hne, k⟩ := h
    obtain ⟨dx, e, h1⟩ := hp.ins
    obtain ⟨xs, h2, h3⟩ := hp.stk
    cases st with
    | nil => exact absurd rfl hne
    | cons q r =>
      obtain ⟨ys, t, rfl, _⟩ := stk_top h3
      refine ⟨_, pss_one (ps_ret (pe_tup (pa_cons (pe_op op_sub (pe_callB call_len_seq (by rfl) T.len PySem.boot_len (pa_cons (pe_fld (pv 0) rfl) pa_nil)) pe_int) (pa_cons (pe_ix ix_list (pe_fld (pv 0) rfl) (pe_un un_neg pe_int) (fun _ _ => rfl)) pa_nil)))), ?_⟩
      refine ⟨_, rfl, a, cP K, dx, _, _, rfl, h1, T.clP, T.nS, rfl, sk, _, rfl, .inl (.of h2), _, _, rfl, rfl, ?_⟩
      refine ⟨_, rfl, a, cP K, dx, _, _, rfl, h1, T.clP, T.nS, rfl, 1, rfl, sk, _, _, _, rfl, rfl, .of h2, atI_last _ _, (by show 2 ≤ sizeLine; decide), fun n hn => ?_⟩
      exact k _ _ (same_upd hn)

/-! ### Position(..) -/
def psI : List Str := ["self", "table", "frames", "due"]
def spPInit (C : Addr) (p : Prog) : Sp := fun vs H Q _ => ∃ a dx tb fr call st xs, vs = [.ref a, .ref tb, .ref fr, .str (dueS call)] ∧ H a = some (.ins C dx []) ∧ TabAt H tb p ∧ H fr = some (.tup xs) ∧ ImAll H (st.reverse.map spD) xs ∧ Spots p st ∧
  ∀ H' sk, Chg [a] H H' → H sk = none → PosAt C p H' a sk tb st call → Q .non H'
theorem scPI : FnScope ["self", "table", "frames", "due"] ["self", "table", "frames", "due"] (defScope sPInit) := ⟨rfl, rfl, rfl, by decide +kernel, rfl, by decide +kernel, by decide +kernel⟩
abbrev AtI (K : PySem.W.Frag) (f : Addr) : Prop := ∃ fd, FunD K "__init__" "Position.__init__" (defArgs sPInit) (defBody sPInit) (defScope sPInit) [.str "call"] [] f fd
/-- the class's making: all four values given, or the default for the last -/
def OkI (P : Program) (w : World) (K : PySem.W.Frag) (mg : Str → Option Value) (base : Heap) (f : Addr) (sp : Sp) : Prop :=
  ∃ fd, FnOk P w K mg base CX0 1 f fd ["self", "table", "frames", "due"] sp ∧ Binds K fd ["self", "table", "frames", "due"] [] ∧ ∃ ds, Vals [.str "call"] ds ∧ Binds K fd ["self", "table", "frames", "due"] ds
theorem ok_pinit {p : Prog} {f : Addr} (F : AtI K f) (T : Tx K mg) : OkI P w K mg base f (spPInit (cP K) p) := by
  obtain ⟨fd, F⟩ := F
  refine ⟨fd, ?_, ?_, ?_⟩
  · refine F.ok scPI (fun vs H Q E h => ?_) (fun cdv A outer s H vs Q E hr h => ?_)
    · obtain ⟨a, dx, tb, fr, call, st, xs, rfl, _⟩ := h; rfl
    · obtain ⟨a, dx, tb, fr, call, st, xs, rfl, h1, ht, h2, h3, hs, k⟩ := h
      refine ⟨_, PSs.nox (pss_cons (ps_fld (pv 0) (pv 1) rfl) (pss_cons (ps_fld (pv 0) (pe_callTy call_list_of (by rfl) T.list (by decide +kernel) (pa_cons (pv 2) pa_nil)) rfl) (pss_cons (ps_fld (pv 0) (pv 3) rfl) (pss_one (ps_fld (pv 0) (pe_tup pa_nil) rfl))))), ?_⟩
      have nfa : fr ≠ a := ne_of h2 h1 (by intro z; cases z)
      refine ⟨_, rfl, _, rfl, a, cP K, dx, _, rfl, h1, T.clP, T.nT, (by show 0 < 1000; decide), ?_⟩
      refine ⟨_, rfl, fr, xs, rfl, .inr (.of (by rw [upd_ne nfa]; exact h2)), fun l hl => ?_⟩
      have nal : a ≠ l := fun z => by rw [← z, upd_same] at hl; cases hl
      have hl0 : H l = none := by rw [upd_ne nal.symm] at hl; exact hl
      refine ⟨_, rfl, a, cP K, dx, _, rfl, Eq.trans (upd_ne nal) upd_same, T.clP, T.nS, (by show 1 < 1000; decide), ?_⟩
      refine ⟨_, rfl, _, rfl, a, cP K, dx, _, rfl, upd_same, T.clP, T.nD, (by show 2 < 1000; decide), ?_⟩
      refine ⟨Nat.zero_le _, fun n hn => ?_⟩
      have nan : a ≠ n := fun z => by rw [← z, upd_same] at hn; cases hn
      have nln : l ≠ n := fun z => by rw [← z, upd_ne nal.symm, upd_ne nal.symm, upd_same] at hn; cases hn
      have hn0 : H n = none := by rw [upd_ne nan.symm, upd_ne nan.symm, upd_ne nln.symm, upd_ne nan.symm] at hn; exact hn
      refine ⟨_, rfl, a, cP K, dx, _, rfl, Eq.trans (upd_ne nan) upd_same, T.clP, T.nE, (by show 3 < 1000; decide), ?_⟩
      have hc : Chg [a] H (upd (upd (upd (upd (upd (upd H a (.ins (cP K) dx (putF "table" (.ref tb) []))) l (.lst xs)) a (.ins (cP K) dx (putF "stack" (.ref l) (putF "table" (.ref tb) [])))) a (.ins (cP K) dx (putF "due" (.str (dueS call)) (putF "stack" (.ref l) (putF "table" (.ref tb) []))))) n (.tup [])) a (.ins (cP K) dx (putF "ending" (.ref n) (putF "due" (.str (dueS call)) (putF "stack" (.ref l) (putF "table" (.ref tb) [])))))) := fun b o e nb => by
        have nba : b ≠ a := fun z => nb (by simp [z])
        rw [upd_ne nba, upd_ne (ne_of_none e hn0), upd_ne nba, upd_ne nba, upd_ne (ne_of_none e hl0), upd_ne nba]
        exact e
      have kt : TupK H _ := hc.tup fun b hb xs e => by rw [List.mem_singleton.mp hb, h1] at e; cases e
      refine k _ l hc hl0 ⟨⟨dx, .ref n, by rw [upd_same]; rfl⟩, ⟨xs, ?_, h3.keep kt⟩, ht.keep kt ?_, hs⟩
      · rw [upd_ne nal.symm, upd_ne nln, upd_ne nal.symm, upd_ne nal.symm, upd_same]
      · obtain ⟨kvs, z, _⟩ := ht
        rw [hc _ _ z (fun y => by rw [List.mem_singleton.mp y, h1] at z; cases z), z]
  · obtain ⟨ds, hv, hb⟩ := F.binds1 (ps := ["self", "table", "frames", "due"]) 4 1 (by simp) rfl (fun T kV doc pm an cdv ct us its hl hi => match us, hl, its, hi with | [_, _, _, _], _, [_], _ => ⟨_, rfl, rfl⟩)
    have e : ds = [] := by
      cases ds with
      | nil => rfl
      | cons d r => cases hv
    rw [e] at hb
    exact hb
  · exact F.binds1 (ps := ["self", "table", "frames", "due"]) 3 0 (by simp) rfl (fun T kV doc pm an cdv ct us its hl hi => match us, hl, its, hi with | [_, _, _], _, [_], _ => ⟨_, rfl, rfl⟩)
end
end K28

set_option Elab.async false
set_option linter.all false
set_option maxRecDepth 100000
set_option maxHeartbeats 4000000
/-! table_of, first_position, follow_run, options_after, is_run. -/
namespace K28
open PySem PySem.Spec PyProof.Rows L2
section
variable {P : Program} {w : World} {K : PySem.W.Frag} {mg : Str → Option Value} {base : Heap}

/-! ### table_of -/
def spTableOf (p : Prog) : Sp := fun vs H Q _ => ∃ v, vs = [v] ∧ Im H (progD p) v ∧ WF p ∧ ∀ tb H', Same H H' → H tb = none → TabAt H' tb p → Q (.ref tb) H'
theorem scTO : FnScope ["program", "name", "lines"] ["program"] (defScope sTableOf) := ⟨rfl, rfl, rfl, by decide +kernel, rfl, by decide +kernel, by decide +kernel⟩
theorem im_fn {H : Hp} {f : Fn} {v : V} (h : Im H (fnD f) v) : ∃ t ls, v = .ref t ∧ H t = some (.tup [.str f.1, ls]) ∧ Im H (linesD f.2) ls := by
  obtain ⟨t, xs, rfl, h1, h2⟩ := im_tup.mp h
  obtain ⟨x, y, rfl, e1, e2⟩ := imAll_two' h2
  rw [im_str] at e1; subst e1
  exact ⟨t, y, rfl, h1, e2⟩
theorem take_snoc {α : Type} {l : List α} {i : Nat} {x : α} (h : l[i]? = some x) : l.take (i + 1) = l.take i ++ [x] := by
  rw [List.take_add_one, h]; rfl
theorem ok_tableOf {p : Prog} {f : Addr} (F : At K "table_of" "table_of" sTableOf f) : Ok P w K mg base 1 f ["program"] (spTableOf p) := by
  refine mkOk F scTO (fun _ _ _ _ _ _ us hl => match us, hl with | [_], _ => rfl) (fun vs H Q E h => ?_) (fun cdv A outer s H vs Q E hr h => ?_)
  · obtain ⟨v, rfl, _⟩ := h; rfl
  · obtain ⟨v, rfl, hv, Wp, k⟩ := h
    obtain ⟨a, xs, rfl, ha, hx⟩ := im_tup.mp hv
    refine ⟨_, pss_one (ps_ret (pe_dc (own := [("name", 1), ("lines", 2)]) (g := gTup K 2 (gCons (gName 1) (gCons (gName 2) gNil))) (tt := tYes) (tk := tVar 1) (tv := tVar 2) rfl scTO.nd (pi_tup (pv 0)) (blkOk_by (own := [("name", 1), ("lines", 2)]) (N := ["program", "name", "lines"]) (sc := defScope sTableOf) (by decide +kernel))
      (fun _ _ _ _ _ => pg_tup (by rfl) (pgs_cons (pg_name (i := 1) scTO.nd rfl (Or.inl rfl)) (pgs_cons (pg_name (i := 2) scTO.nd rfl (Or.inl rfl)) pgs_nil))) (fun _ _ _ _ _ => pts_nil) (fun _ _ _ _ _ => pv 1) (fun _ _ _ _ _ => pv 2))), ?_⟩
    refine ⟨_, rfl, a, rfl, ⟨xs, .of ha⟩, fun D hD => ?_⟩
    refine dc_tup (K := K) (a := a) (xs := xs) (fun i H' => ∃ kvs, H' D = some (.dK kvs) ∧ Same H H' ∧ kvs.length ≤ i ∧ ∀ f ∈ p.take i, ∃ v, valV kvs (Sum.inr f.1) = some v ∧ Im H (linesD f.2) v)
      ⟨[], upd_same, same_upd hD, Nat.le_refl _, fun f hf => by simp at hf⟩ (fun i H' _ ⟨_, _, s, _⟩ => .of (s _ _ ha)) ?_ ?_
    · rintro i x H' hi ⟨kvs, h1, hs, hl, hall⟩
      obtain ⟨d, hd, hx'⟩ := hx.getV hi
      rw [List.getElem?_map] at hd
      obtain ⟨f0, hf0, rfl⟩ := Option.map_eq_some_iff.mp hd
      obtain ⟨t, ls, rfl, ht, hls⟩ := im_fn hx'
      have hin : i < p.length := (List.getElem?_eq_some_iff.mp hf0).1
      have nD : D ≠ a := (ne_of_none ha hD).symm
      refine ⟨t, _, rfl, .of (hs _ _ ht), rfl, _, _, rfl, _, _, rfl, rfl, rfl, ?_⟩
      refine ⟨_, rfl, _, rfl, kvs, Sum.inr f0.1, rfl, h1, Nat.lt_of_le_of_lt (Nat.le_trans hl (Nat.le_trans (Nat.le_of_lt hin) Wp.few)) (by decide), ?_⟩
      refine ⟨_, upd_same, fun b o e => ?_, Nat.le_trans (length_putK _ _ _) (Nat.succ_le_succ hl), fun f hf => ?_⟩
      · rw [upd_ne (ne_of_none e hD)]; exact hs b o e
      · rw [take_snoc hf0] at hf
        rw [valV_put]
        by_cases e : f.1 = f0.1
        · have ef : f = f0 := by
            have nd := Wp.nd.sublist ((List.take_sublist (i + 1) p).map (·.1))
            rw [take_snoc hf0, List.map_append, List.nodup_append] at nd
            rcases List.mem_append.mp hf with hf | hf
            · exact absurd e (nd.2.2 f.1 (List.mem_map.mpr ⟨f, hf, rfl⟩) f0.1 (by simp))
            · exact List.mem_singleton.mp hf
          subst ef
          exact ⟨ls, if_pos rfl, hls⟩
        · rcases List.mem_append.mp hf with hf | hf
          · obtain ⟨v, e1, e2⟩ := hall f hf
            exact ⟨v, by rw [if_neg (fun z => e (Sum.inr.inj z))]; exact e1, e2⟩
          · exact absurd (by rw [List.mem_singleton.mp hf]) e
    · rintro H' ⟨kvs, h1, hs, _, hall⟩
      rw [hx.length, List.length_map, List.take_length] at hall
      refine k D H' hs hD ⟨kvs, h1, fun n ls hn => ?_⟩
      obtain ⟨v, e1, e2⟩ := hall _ (mem_of_lookup' hn)
      exact ⟨v, e1, e2.keep (Same.tup hs)⟩

/-! ### first_position -/
def nm0 (p : Prog) : Str := (p.head?.map (·.1)).getD eS
def c0 (p : Prog) : Conf := .run [(nm0 p, 0)] true
theorem nm0_cons (f : Fn) (r : Prog) : nm0 (f :: r) = f.1 := rfl
theorem spot0 {p : Prog} (W : WF p) : SpotOk p (nm0 p, 0) := by
  cases p with
  | nil => exact absurd rfl W.ne
  | cons f r =>
    obtain ⟨n, ls⟩ := f
    exact spotOk_at (ls := ls) (show ((n, ls) :: r).lookup n = some ls by simp [List.lookup_cons]) (List.length_pos_iff.mpr (W.ls _ List.mem_cons_self))
theorem c0_ok (p : Prog) : (c0 p).ok := List.cons_ne_nil _ _
theorem c0_spots {p : Prog} (W : WF p) : Spots p (c0 p).st := fun s hs => by
  rw [List.mem_singleton.mp hs]; exact spot0 W
def spFirst (C : Addr) (p : Prog) : Sp := fun vs H Q _ => ∃ v, vs = [v] ∧ Im H (progD p) v ∧ WF p ∧ ∀ a sk tb H', Same H H' → H a = none → H sk = none → H tb = none → PosAt C p H' a sk tb (c0 p).st true → Q (.ref a) H'
theorem scFP : FnScope ["program"] ["program"] (defScope sFirstPosition) := ⟨rfl, rfl, rfl, by decide +kernel, rfl, by decide +kernel, by decide +kernel⟩
theorem im_prog0 {H : Hp} {p : Prog} {v : V} (h : Im H (progD p) v) (hne : p ≠ []) : ∃ a x r t ls, v = .ref a ∧ H a = some (.tup (x :: r)) ∧ x = .ref t ∧ H t = some (.tup [.str (nm0 p), ls]) := by
  obtain ⟨a, xs, rfl, h1, h2⟩ := im_tup.mp h
  cases p with
  | nil => exact absurd rfl hne
  | cons f q =>
    obtain ⟨x, r, rfl, h3, _⟩ := imAll_cons.mp (show ImAll H (fnD f :: q.map fnD) xs from h2)
    obtain ⟨t, ls, rfl, h4, _⟩ := im_fn h3
    exact ⟨a, _, r, t, ls, rfl, h1, rfl, h4⟩
theorem ok_first {p : Prog} {f gt gi : Addr} (F : At K "first_position" "first_position" sFirstPosition f) (T : Tx K mg) (TO : Ok P w K mg base 1 gt ["program"] (spTableOf p)) (mgT : mg "table_of" = some (.ref gt))
    (I : OkI P w K mg base gi (spPInit (cP K) p)) (M : Mk K (cP K) gi) (mgP : mg "Position" = some (.ref (cP K))) : Ok P w K mg base 3 f ["program"] (spFirst (cP K) p) := by
  obtain ⟨fd, G, _, ds, hds, hb⟩ := I
  refine mkOk F scFP (fun _ _ _ _ _ _ us hl => match us, hl with | [_], _ => rfl) (fun vs H Q E h => ?_) (fun cdv A outer s H vs Q E hr h => ?_)
  · obtain ⟨v, rfl, _⟩ := h; rfl
  · obtain ⟨v, rfl, hv, Wp, k⟩ := h
    obtain ⟨a, x, r, t, ls, rfl, h1, rfl, h2⟩ := im_prog0 hv Wp.ne
    have hr1 : Room 1 _ := hr.mono (by decide)
    refine ⟨_, pss_one (ps_ret (pe_make M G hr (by rfl) mgP hb hds pass0 (pa_cons (pe_callO TO hr1 (by rfl) mgT (pa_cons (pv 0) pa_nil))
      (pa_cons (pe_tup (pa_cons (pe_tup (pa_cons (pe_ix ix_tup (pe_ix ix_tup (pv 0) pe_int (fun _ _ => rfl)) pe_int (fun _ _ => rfl)) (pa_cons pe_int pa_nil))) pa_nil)) pa_nil)))), ?_⟩
    refine ⟨_, rfl, _, rfl, hv, Wp, fun tb H1 s1 n1 ht => ?_⟩
    refine ⟨_, rfl, a, _, 0, _, rfl, rfl, .of (s1 _ _ h1), atI_nat (j := 0) rfl, t, _, 0, _, rfl, rfl, .of (s1 _ _ h2), atI_nat (j := 0) rfl, (by show 2 ≤ sizeLine; decide), fun u hu => ?_⟩
    refine ⟨(by show 1 ≤ sizeLine; decide), fun fr hfr => ?_⟩
    have nufr : u ≠ fr := fun z => by rw [← z, upd_same] at hfr; cases hfr
    have hs2 : Same H1 (upd (upd H1 u (.tup [.str (nm0 p), .int 0])) fr (.tup [.ref u])) := (same_upd hu).trans (same_upd hfr)
    intro x dx nx ndx nex
    have hs3 : Same (upd (upd H1 u (.tup [.str (nm0 p), .int 0])) fr (.tup [.ref u])) (upd (upd (upd (upd H1 u (.tup [.str (nm0 p), .int 0])) fr (.tup [.ref u])) dx (.own x)) x (.ins (cP K) dx [])) := fun b o e => by
      rw [upd_ne (ne_of_none e nx), upd_ne (ne_of_none e ndx)]; exact e
    have hsA := s1.trans (hs2.trans hs3)
    have hsB := hs2.trans hs3
    have hu3 := hs3 u _ (show upd (upd H1 u (.tup [.str (nm0 p), .int 0])) fr (.tup [.ref u]) u = some (.tup [.str (nm0 p), .int 0]) by rw [upd_ne nufr, upd_same])
    refine ⟨x, dx, tb, fr, true, (c0 p).st, [.ref u], rfl, upd_same, ?_, hs3 fr _ upd_same, ?_, c0_spots Wp, fun H4 sk c4 nsk hp => ⟨rfl, ?_⟩⟩
    · obtain ⟨kvs, z, _⟩ := id ht
      exact ht.keep (Same.tup hsB) ((hsB _ _ z).trans z.symm)
    · exact imAll_one (im_tup.mpr ⟨u, _, rfl, hu3, imAll_two (im_str.mpr rfl) (im_int.mpr rfl)⟩)
    · have hx : H x = none := (s1.trans hs2).free nx
      refine k x sk tb H4 (fun b o e => c4 _ _ (hsA b o e) fun z => ?_) hx (hsA.free nsk) n1 hp
      rw [List.mem_singleton.mp z, hx] at e; cases e

/-! ### follow_run -/
def runD (ks : List Nat) : PyData := .tuple (ks.map fun (k : Nat) => PyData.int k)
theorem step_len (p : Prog) : ∀ c k, (step p c k).st.length ≤ c.st.length + 1
  | .run [] _, _ => Nat.le_succ _
  | .over _, _ => Nat.le_succ _
  | .run (s :: r) true, k => by
    show (stepCall s r _).st.length ≤ r.length + 1 + 1
    unfold stepCall
    split
    · split
      · exact Nat.le_succ _
      · exact Nat.le_refl _
    · exact Nat.le_succ _
  | .run (s :: r) false, k => by
    have hf : ∀ (st : List Spot) (kd : Str), (failHere p st kd).st.length ≤ st.length := fun st kd => by
      induction st with
      | nil => exact Nat.le_refl _
      | cons q t ih =>
        unfold failHere
        split
        · exact Nat.le_refl _
        · exact Nat.le_trans ih (Nat.le_succ _)
    show (stepWay p s r _).st.length ≤ r.length + 1 + 1
    unfold stepWay
    split
    · exact Nat.le_succ _
    · rw [(leaveBack_st r).1]; omega
    · exact Nat.le_trans (hf _ _) (Nat.le_succ _)
    · exact Nat.le_succ _
theorem after_len (p : Prog) (c : Conf) : ∀ ks : List Nat, (after p c ks).st.length ≤ c.st.length + ks.length := fun ks => by
  induction ks generalizing c with
  | nil => exact Nat.le_refl _
  | cons k r ih =>
    rw [after_cons, List.length_cons]
    have h1 := ih (step p c k)
    have h2 := step_len p c k
    omega
theorem after_ok (p : Prog) (c : Conf) (h : c.ok) : ∀ ks : List Nat, (after p c ks).ok := fun ks => by
  induction ks generalizing c with
  | nil => exact h
  | cons k r ih => rw [after_cons]; exact ih _ (step_ok p c k h)
theorem can_at {p : Prog} : ∀ {ks : List Nat} {c : Conf} {i k : Nat}, Can p c ks → ks[i]? = some k → k < width p (after p c (ks.take i))
  | [], _, _, _, _, e => by simp at e
  | j :: r, c, 0, k, h, e => by
    simp at e; subst e
    exact h.1
  | j :: r, c, i + 1, k, h, e => by
    rw [List.take_succ_cons, after_cons]
    exact can_at h.2 (by simpa using e)
theorem run_of_width {p : Prog} {c : Conf} {k : Nat} (h : k < width p c) : ∃ s r, c = .run (s :: r) c.call := by
  match c, h with
  | .run (s :: r) d, _ => exact ⟨s, r, rfl⟩
  | .run [] _, h => exact absurd h (Nat.not_lt_zero _)
  | .over _, h => exact absurd h (Nat.not_lt_zero _)
theorem width_st (p : Prog) : ∀ c, width p (.run c.st c.call) = width p c
  | .run _ _ => rfl
  | .over _ => rfl
theorem im_run {H : Hp} {ks : List Nat} {xs : List V} (h : ImAll H (ks.map fun (k : Nat) => PyData.int k) xs) : xs = ks.map fun (k : Nat) => V.int k := by
  induction ks generalizing xs with
  | nil => exact imAll_nil.mp h
  | cons k r ih =>
    obtain ⟨x, q, rfl, h1, h2⟩ := imAll_cons.mp (show ImAll H (.int k :: r.map _) xs from h)
    rw [im_int.mp h1, ih h2]; rfl
def spFollow (C : Addr) (p : Prog) : Sp := fun vs H Q _ => ∃ v r ks, vs = [v, .ref r] ∧ Im H (progD p) v ∧ WF p ∧ H r = some (.tup (ks.map fun (k : Nat) => V.int k)) ∧ Can p (c0 p) ks ∧ ks.length ≤ 500 ∧
  ∀ t a sk tb x H', Same H H' → H' t = some (.tup [.ref a, x]) → PosAt C p H' a sk tb (after p (c0 p) ks).st (after p (c0 p) ks).call → Q (.ref t) H'
theorem scFR : FnScope ["program", "run", "position", "arrivals", "index", "choice"] ["program", "run"] (defScope sFollowRun) := ⟨rfl, rfl, rfl, by decide +kernel, rfl, by decide +kernel, by decide +kernel⟩
/-- the state amid a run: H0 is kept, the position is ours -/
structure Amid (C : Addr) (p : Prog) (H0 H : Hp) (a sk tb : Addr) (c : Conf) : Prop where
  same : Same H0 H
  na : H0 a = none
  ns : H0 sk = none
  pos : PosAt C p H a sk tb c.st c.call
theorem Amid.more {C : Addr} {p : Prog} {H0 H H' : Hp} {a sk tb : Addr} {c : Conf} (m : Amid C p H0 H a sk tb c) (s : Same H H') : Amid C p H0 H' a sk tb c := ⟨m.same.trans s, m.na, m.ns, m.pos.same s⟩
theorem Amid.move {C : Addr} {p : Prog} {H0 H H' : Hp} {a sk tb : Addr} {c d : Conf} (m : Amid C p H0 H a sk tb c) (h : Moved C p H a sk tb d H') : Amid C p H0 H' a sk tb d :=
  ⟨fun b o e => h.1 b o (m.same b o e) (fun z => by
    rcases List.mem_cons.mp z with z | z
    · rw [z, m.na] at e; cases e
    · rw [List.mem_singleton.mp z, m.ns] at e; cases e), m.na, m.ns, h.2⟩
theorem ok_follow {p : Prog} {f gf ga gc gh : Addr} (F : At K "follow_run" "follow_run" sFollowRun f) (T : Tx K mg) (FP : Ok P w K mg base 3 gf ["program"] (spFirst (cP K) p)) (mgF : mg "first_position" = some (.ref gf))
    (A1 : Ok P w K mg base 1 ga ["self"] (spArrival (cP K) p)) (mA : Meth K (cP K) "arrival" ga) (CC : Ok P w K mg base 3 gc ["self", "choice"] (spCanChoose (cP K) p)) (mC : Meth K (cP K) "can_choose" gc)
    (CH : Ok P w K mg base 4 gh ["self", "choice"] (spChoose (cP K) p)) (mH : Meth K (cP K) "choose" gh) : Ok P w K mg base 5 f ["program", "run"] (spFollow (cP K) p) := by
  refine mkOk F scFR (fun _ _ _ _ _ _ us hl => match us, hl with | [_, _], _ => rfl) (fun vs H Q E h => ?_) (fun cdv A outer s H vs Q E hr h => ?_)
  · obtain ⟨v, r, ks, rfl, _⟩ := h; rfl
  · obtain ⟨v, rv, ks, rfl, hv, Wp, hrun, hcan, hlen, k⟩ := h
    have hr1 : Room 1 _ := hr.mono (by decide)
    have hr3 : Room 3 _ := hr.mono (by decide)
    refine ⟨_, pss_cons (ps_set (i := 2) scFR.nd rfl (Or.inl rfl) (pe_callO FP hr3 (by rfl) mgF (pa_cons (pv 0) pa_nil)))
      (pss_cons (ps_set (i := 3) scFR.nd rfl (Or.inl rfl) (pe_lst (pa_cons (pe_methO0 A1 hr1 (pv 2) T.clP mA) pa_nil)))
      (pss_cons (ps_for PassesOwn.never rfl (pi_enumT (by rfl) T.enum (pa_cons (pv 1) pa_nil)) (pg_tup (by rfl) (pgs_cons (pg_name (i := 4) scFR.nd rfl (Or.inl rfl)) (pgs_cons (pg_name (i := 5) scFR.nd rfl (Or.inl rfl)) pgs_nil)))
        (pss_cons (ps_if (pt_not (pt_val (pe_methO CC hr3 (pv 2) T.clP mC (pa_cons (pv 5) pa_nil)))) pss_never pss_nil)
        (pss_one (ps_if (pt_val (pe_methO CH hr (pv 2) T.clP mH (pa_cons (pv 5) pa_nil))) (pss_one (ps_expr (pe_bm PySem.F.plainAttrs_list PySem.F.slot_list_append PySem.F.type_list_append mt_append (pv 3) (pa_cons (pe_methO0 A1 hr1 (pv 2) T.clP mA) pa_nil)))) pss_nil))))
      (pss_one (ps_ret (pe_tup (pa_cons (pv 2) (pa_cons (pv 3) pa_nil))))))), ?_⟩
    refine ⟨_, rfl, v, rfl, hv, Wp, fun a sk tb H1 s1 na ns _ hp1 => ?_⟩
    obtain ⟨dx, e0, i1⟩ := hp1.ins
    refine ⟨_, rfl, a, dx, _, rfl, i1, rfl, a, sk, tb, _, _, rfl, hp1, List.cons_ne_nil _ _, fun av H2 s2 => ?_⟩
    refine ⟨(by show 1 ≤ sizeLine; decide), fun ar har => ?_⟩
    have m2 : Amid (cP K) p H (upd H2 ar (.lst [av])) a sk tb (after p (c0 p) []) := (Amid.more ⟨s1, na, ns, hp1⟩ s2).more (same_upd har)
    have nar : ar ≠ sk := by
      obtain ⟨_, z, _⟩ := hp1.stk
      exact (ne_of_none (s2 _ _ z) har).symm
    have har0 : H ar = none := (s1.trans s2).free har
    refine ⟨_, rfl, rv, _, rfl, .of (m2.same _ _ hrun), ?_⟩
    refine for_enumT (K := K) (a := rv) (xs := ks.map fun (k : Nat) => V.int k) (fun i σ H' => ∃ v4 v5 l, σ = [some v, some (.ref rv), some (.ref a), some (.ref ar), v4, v5] ∧ Amid (cP K) p H H' a sk tb (after p (c0 p) (ks.take i)) ∧ H' ar = some (.lst l) ∧ l.length ≤ i + 1)
      ⟨none, none, [av], rfl, m2, upd_same, Nat.le_refl _⟩ (fun i σ H' _ ⟨_, _, _, _, m, _⟩ => .of (m.same _ _ hrun)) ?_ ?_
    · rintro i x σ H' t hi ⟨v4, v5, l, rfl, m, hl, hll⟩ hn
      rw [List.getElem?_map] at hi
      obtain ⟨c, hc, rfl⟩ := Option.map_eq_some_iff.mp hi
      have m' := m.more (same_upd (o := .tup [.int (i : Nat), .int c]) hn)
      have hcw := can_at hcan hc
      obtain ⟨q, r, hconf⟩ := run_of_width hcw
      obtain ⟨dx', e', i'⟩ := m'.pos.ins
      have nart : ar ≠ t := ne_of_none hl hn
      refine ⟨t, _, rfl, .of upd_same, rfl, _, _, rfl, _, _, rfl, rfl, ?_⟩
      refine ⟨_, rfl, a, dx', _, rfl, i', rfl, _, rfl, a, sk, tb, _, _, c, rfl, m'.pos, (by rw [width_st]; exact hcw), _, rfl, ?_⟩
      refine iteF ?_
      have hst : (after p (c0 p) (ks.take i)).st = q :: r := by rw [hconf]; rfl
      have hlr : r.length < 1000 := by
        have h1 := after_len p (c0 p) (ks.take i)
        rw [hst, List.length_cons] at h1
        have h2 : (ks.take i).length ≤ ks.length := by rw [List.length_take]; omega
        have h3 : (c0 p).st.length = 1 := rfl
        omega
      have hp' := m'.pos
      rw [hst] at hp'
      refine ⟨_, rfl, a, dx', _, rfl, i', rfl, _, rfl, a, sk, tb, q, r, _, c, rfl, hp', (by rw [← hconf]; exact hcw), hlr, fun b H3 hm hb => ?_⟩
      rw [← hconf, ← after_snoc, ← take_snoc hc] at hm hb
      have m3 := m'.move hm
      have hl3 : H3 ar = some (.lst l) := hm.1 _ _ (by rw [upd_ne nart]; exact hl) (fun z => by
        rcases List.mem_cons.mp z with z | z
        · exact ne_of i' (show upd H' t (.tup [.int (i : Nat), .int c]) ar = some (.lst l) by rw [upd_ne nart]; exact hl) (by intro y; cases y) z.symm
        · exact nar (List.mem_singleton.mp z))
      refine ⟨_, rfl, ?_⟩
      cases b with
      | false => exact iteF ⟨_, _, l, rfl, m3, hl3, Nat.le_succ_of_le hll⟩
      | true =>
        obtain ⟨dx3, e3, i3⟩ := m3.pos.ins
        have hne : (after p (c0 p) (ks.take (i + 1))).st ≠ [] := hb rfl
        refine iteT ⟨_, rfl, .inl ⟨rfl, _, .of hl3⟩, _, rfl, a, dx3, _, rfl, i3, rfl, a, sk, tb, _, _, rfl, m3.pos, hne, fun av' H4 s4 => ?_⟩
        have hik : i < ks.length := (List.getElem?_eq_some_iff.mp hc).1
        refine ⟨ar, l, _, rfl, rfl, s4 _ _ hl3, Nat.lt_of_le_of_lt (show l.length ≤ 501 by omega) (by decide), ?_⟩
        have m4 := m3.more s4
        refine ⟨_, _, _, rfl, ⟨fun b o e => ?_, na, ns, ?_⟩, upd_same, by rw [List.length_append, List.length_singleton]; omega⟩
        · rw [upd_ne (ne_of_none e har0)]; exact m4.same b o e
        · obtain ⟨dx5, e5, i5⟩ := m4.pos.ins
          obtain ⟨xs5, s5, g5⟩ := m4.pos.stk
          have kt : TupK H4 (upd H4 ar (.lst (l ++ [av']))) := tup_upd fun xs z => by rw [s4 _ _ hl3] at z; cases z
          have naar : a ≠ ar := ne_of i5 (s4 _ _ hl3) (by intro y; cases y)
          obtain ⟨kvs, tz, _⟩ := m4.pos.tab
          exact ⟨⟨dx5, e5, by rw [upd_ne naar]; exact i5⟩, ⟨xs5, by rw [upd_ne nar.symm]; exact s5, g5.keep kt⟩, m4.pos.tab.keep kt (upd_ne (ne_of tz (s4 _ _ hl3) (by intro y; cases y))), m4.pos.ok⟩
    · rintro σ H' ⟨v4, v5, l, rfl, m, hl, hll⟩
      rw [List.length_map, List.take_length] at m
      refine ⟨_, rfl, _, rfl, (by show 2 ≤ sizeLine; decide), fun t ht => ?_⟩
      have m' := m.more (same_upd (o := .tup [.ref a, .ref ar]) ht)
      exact k t a sk tb _ _ m'.same upd_same m'.pos
end
end K28

set_option Elab.async false
set_option linter.all false
set_option maxRecDepth 100000
set_option maxHeartbeats 4000000
/-! options_after, is_run. -/
namespace K28
open PySem PySem.Spec PyProof.Rows L2
section
variable {P : Program} {w : World} {K : PySem.W.Frag} {mg : Str → Option Value} {base : Heap}
def spOptions (p : Prog) : Sp := fun vs H Q _ => ∃ v r ks, vs = [v, .ref r] ∧ Im H (progD p) v ∧ WF p ∧ H r = some (.tup (ks.map fun (k : Nat) => V.int k)) ∧ Can p (c0 p) ks ∧ ks.length ≤ 500 ∧
  ∀ H', Same H H' → Q (.int (width p (after p (c0 p) ks) : Nat)) H'
theorem scOA : FnScope ["program", "run", "position", "arrivals"] ["program", "run"] (defScope sOptionsAfter) := ⟨rfl, rfl, rfl, by decide +kernel, rfl, by decide +kernel, by decide +kernel⟩
theorem ok_options {p : Prog} {f gf gw : Addr} (F : At K "options_after" "options_after" sOptionsAfter f) (T : Tx K mg) (FR : Ok P w K mg base 5 gf ["program", "run"] (spFollow (cP K) p)) (mgF : mg "follow_run" = some (.ref gf))
    (Wd : Ok P w K mg base 2 gw ["self"] (spWidth (cP K) p)) (mW : Meth K (cP K) "width" gw) : Ok P w K mg base 6 f ["program", "run"] (spOptions p) := by
  refine mkOk F scOA (fun _ _ _ _ _ _ us hl => match us, hl with | [_, _], _ => rfl) (fun vs H Q E h => ?_) (fun cdv A outer s H vs Q E hr h => ?_)
  · obtain ⟨v, r, ks, rfl, _⟩ := h; rfl
  · obtain ⟨v, rv, ks, rfl, hv, Wp, hrun, hcan, hlen, k⟩ := h
    refine ⟨_, pss_cons (ps_asg (pe_callO FR hr (by rfl) mgF (pa_cons (pv 0) (pa_cons (pv 1) pa_nil))) (pg_tup (by rfl) (pgs_cons (pg_name (i := 2) scOA.nd rfl (Or.inl rfl)) (pgs_cons (pg_name (i := 3) scOA.nd rfl (Or.inl rfl)) pgs_nil))))
      (pss_one (ps_ret (pe_methO0 Wd (hr.mono (by decide)) (pv 2) T.clP mW))), ?_⟩
    refine ⟨_, rfl, _, rfl, v, rv, ks, rfl, hv, Wp, hrun, hcan, hlen, fun t a sk tb x H1 s1 ht hp => ?_⟩
    obtain ⟨dx, e, i1⟩ := hp.ins
    refine ⟨t, _, rfl, .of ht, rfl, _, _, rfl, _, _, rfl, rfl, ?_⟩
    refine ⟨_, rfl, a, dx, _, rfl, i1, rfl, a, sk, tb, _, _, rfl, hp, ?_⟩
    rw [width_st]
    exact k H1 s1
def spIsRun (p : Prog) : Sp := fun vs H Q _ => ∃ v r ks, vs = [v, .ref r] ∧ Im H (progD p) v ∧ WF p ∧ H r = some (.tup (ks.map fun (k : Nat) => V.int k)) ∧ Can p (c0 p) ks ∧ ks.length ≤ 500 ∧
  ∀ H', Same H H' → Q (.bl true) H'
theorem scIR : FnScope ["program", "thing", "position", "choice"] ["program", "thing"] (defScope sIsRun) := ⟨rfl, rfl, rfl, by decide +kernel, rfl, by decide +kernel, by decide +kernel⟩
theorem ok_isRun {p : Prog} {f gf gc gh : Addr} (F : At K "is_run" "is_run" sIsRun f) (T : Tx K mg) (FP : Ok P w K mg base 3 gf ["program"] (spFirst (cP K) p)) (mgF : mg "first_position" = some (.ref gf))
    (CC : Ok P w K mg base 3 gc ["self", "choice"] (spCanChoose (cP K) p)) (mC : Meth K (cP K) "can_choose" gc) (CH : Ok P w K mg base 4 gh ["self", "choice"] (spChoose (cP K) p)) (mH : Meth K (cP K) "choose" gh) :
    Ok P w K mg base 5 f ["program", "thing"] (spIsRun p) := by
  refine mkOk F scIR (fun _ _ _ _ _ _ us hl => match us, hl with | [_, _], _ => rfl) (fun vs H Q E h => ?_) (fun cdv A outer s H vs Q E hr h => ?_)
  · obtain ⟨v, r, ks, rfl, _⟩ := h; rfl
  · obtain ⟨v, rv, ks, rfl, hv, Wp, hrun, hcan, hlen, k⟩ := h
    have hr3 : Room 3 _ := hr.mono (by decide)
    refine ⟨_, pss_cons (ps_if (pt_not (pt_val (pe_callB call_isi (by rfl) T.isi PyProof.Rows.boot_isinstance (pa_cons (pv 1) (pa_cons (pe_bltn (v := .ty "tuple") (u := .type "tuple") (by rfl) T.tuple (by decide +kernel) rfl) pa_nil))))) pss_never pss_nil)
      (pss_cons (ps_set (i := 2) scIR.nd rfl (Or.inl rfl) (pe_callO FP hr3 (by rfl) mgF (pa_cons (pv 0) pa_nil)))
      (pss_cons (ps_for PassesOwn.never rfl (pi_tup (pv 1)) (pg_name (i := 3) scIR.nd rfl (Or.inl rfl))
        (pss_cons (ps_if (pt_not (pt_val (pe_methO CC hr3 (pv 2) T.clP mC (pa_cons (pv 3) pa_nil)))) pss_never pss_nil)
        (pss_one (ps_expr (pe_methO CH hr (pv 2) T.clP mH (pa_cons (pv 3) pa_nil))))))
      (pss_one (ps_ret pe_bl)))), ?_⟩
    refine ⟨_, rfl, _, _, _, _, true, rfl, .ty "tuple", .base (.tup hrun), kit_ty (by decide +kernel), _, rfl, iteF ?_⟩
    refine ⟨_, rfl, v, rfl, hv, Wp, fun a sk tb H1 s1 na ns _ hp1 => ?_⟩
    refine ⟨_, rfl, rv, rfl, ⟨_, .of (s1 _ _ hrun)⟩, ?_⟩
    refine for_tup (K := K) (a := rv) (xs := ks.map fun (k : Nat) => V.int k) (fun i σ H' => ∃ v3, σ = [some v, some (.ref rv), some (.ref a), v3] ∧ Amid (cP K) p H H' a sk tb (after p (c0 p) (ks.take i)))
      ⟨none, rfl, ⟨s1, na, ns, hp1⟩⟩ (fun i σ H' _ ⟨_, _, m⟩ => .of (m.same _ _ hrun)) ?_ ?_
    · rintro i x σ H' hi ⟨v3, rfl, m⟩
      rw [List.getElem?_map] at hi
      obtain ⟨c, hc, rfl⟩ := Option.map_eq_some_iff.mp hi
      have hcw := can_at hcan hc
      obtain ⟨q, r, hconf⟩ := run_of_width hcw
      obtain ⟨dx', e', i'⟩ := m.pos.ins
      refine ⟨_, rfl, a, dx', _, rfl, i', rfl, _, rfl, a, sk, tb, _, _, c, rfl, m.pos, (by rw [width_st]; exact hcw), _, rfl, ?_⟩
      refine iteF ?_
      have hst : (after p (c0 p) (ks.take i)).st = q :: r := by rw [hconf]; rfl
      have hlr : r.length < 1000 := by
        have h1 := after_len p (c0 p) (ks.take i)
        rw [hst, List.length_cons] at h1
        have h2 : (ks.take i).length ≤ ks.length := by rw [List.length_take]; omega
        have h3 : (c0 p).st.length = 1 := rfl
        omega
      have hp' := m.pos
      rw [hst] at hp'
      refine ⟨_, rfl, a, dx', _, rfl, i', rfl, _, rfl, a, sk, tb, q, r, _, c, rfl, hp', (by rw [← hconf]; exact hcw), hlr, fun b H3 hm hb => ?_⟩
      rw [← hconf, ← after_snoc, ← take_snoc hc] at hm
      exact ⟨_, rfl, m.move hm⟩
    · rintro σ H' ⟨v3, rfl, m⟩
      exact k H' m.same
end
end K28

set_option Elab.async false
set_option linter.all false
set_option maxRecDepth 100000
set_option maxHeartbeats 4000000
/-! A generator's body, its consumer a list at S and loose records at L; nothing is raised. -/
namespace K28
open PySem PySem.Spec PyProof.Rows L2 GenW

def NoCell (o : Obj) : Prop := ∀ u, o.data ≠ .cell u
/-- while the generator sleeps: v is put behind the list at S, the records at L may change -/
structure Naps (S : Addr) (L : List Addr) (v : Value) (s s' : Shared) : Prop where
  os : s'.os = s.os
  bare : AllBare s'.gens
  keep : ∀ b o, b ≠ S → b ∉ L → s.heap.get? b = some o → s'.heap.get? b = some o
  own : ∀ acc c, s.heap.get? S = some (lstObj acc c) → ∃ c', s'.heap.get? S = some (lstObj (acc.push v) c')
  loose : ∀ b ∈ L, ∃ o, s'.heap.get? b = some o ∧ NoCell o
/-- awake since s₀: ys is out -/
def Up (X : Cx) (S : Addr) (L : List Addr) (s₀ : Shared) (ys : List V) (σ : L2.St) (H : Hp) (s : Shared) : Prop :=
  (∀ b ∈ L, ∃ o, s₀.heap.get? b = some o) ∧ ∃ (acc : Array Value) (c : Nat), Vals ys acc.toList ∧ Inv X ((S, lstObj acc c) :: pinsAt L s₀.heap) σ H s
/-- S, L are younger than the generator's call, none of its frame's -/
structure Far (X : Cx) (S : Addr) (L : List Addr) : Prop where
  young : ∀ b ∈ S :: L, X.s_0.heap.objs.size ≤ b ∧ b ≠ X.env.locals ∧ ∀ x c, X.env.cells.lookup x = some c → c ≠ b
  pn : ∀ p ∈ X.pn, p.1 ∉ S :: L
  ne : S ∉ L
section
variable {X : Cx} {S : Addr} {L : List Addr} {s₀ s s' : Shared} {ys : List V} {σ : L2.St} {H : Hp}
theorem Up.pinS (h : Up X S L s₀ ys σ H s) : H S = none ∧ S ≠ X.env.locals ∧ S ∉ X.fs ∧ ∃ (acc : Array Value) (c : Nat), Vals ys acc.toList ∧ s.heap.get? S = some (lstObj acc c) := by
  obtain ⟨_, acc, c, r, I⟩ := h
  obtain ⟨h1, h2, h3, h4, _⟩ := I.pin (S, lstObj acc c) (List.mem_append_right _ List.mem_cons_self)
  exact ⟨h2, h3, h4, acc, c, r, h1⟩
theorem Up.pinL (h : Up X S L s₀ ys σ H s) {b : Addr} (hb : b ∈ L) : ∃ o, s₀.heap.get? b = some o ∧ s.heap.get? b = some o ∧ H b = none ∧ b ≠ X.env.locals ∧ b ∉ X.fs := by
  obtain ⟨hL, acc, c, r, I⟩ := h
  obtain ⟨o, e⟩ := hL b hb
  obtain ⟨h1, h2, h3, h4, _⟩ := I.pin (b, o) (List.mem_append_right _ (List.mem_cons_of_mem _ (mem_pinsAt hb e)))
  exact ⟨o, e, h1, h2, h3, h4⟩
theorem Up.wake (hA : Far X S L) {x : V} {v : Value} (h : Up X S L s₀ ys σ H s) (rv : RelV x v) (z : Naps S L v s s') : Up X S L s' (ys ++ [x]) σ H s' := by
  have hpS := h.pinS
  have hpL := fun b (hb : b ∈ L) => h.pinL hb
  obtain ⟨_, acc, c, r, I⟩ := h
  have eS : s.heap.get? S = some (lstObj acc c) := (I.pin (S, lstObj acc c) (List.mem_append_right _ List.mem_cons_self)).1
  have I0 : Inv X [] σ H s := I.pins_of fun p hp => nomatch hp
  have hN : ∀ b ∈ S :: L, H b = none ∧ b ≠ X.env.locals ∧ b ∉ X.fs := fun b hb => by
    rcases List.mem_cons.mp hb with q | q
    · rw [q]; exact ⟨hpS.1, hpS.2.1, hpS.2.2.1⟩
    · obtain ⟨o, _, _, q1, q2, q3⟩ := hpL b q
      exact ⟨q1, q2, q3⟩
  have nt : ∀ b u, H b = some u → b ∉ S :: L := fun b u q hb => by rw [(hN b hb).1] at q; cases q
  obtain ⟨c', eS'⟩ := z.own acc c eS
  have kp : ∀ b o, b ∉ S :: L → s.heap.get? b = some o → s'.heap.get? b = some o := fun b o hb e => z.keep b o (fun q => hb (by rw [q]; exact List.mem_cons_self)) (fun q => hb (List.mem_cons_of_mem _ q)) e
  obtain ⟨hh, g, d, t, o⟩ := s'
  have ho : o = s.os := z.os
  subst ho
  have J : Inv X [] σ H { s with heap := hh, gens := g, drawn := d, toks := t } := by
    refine I0.step (g' := g) (t' := t) (d' := d) (ch := S :: L) (fun b hb => ?_)
      (fun b ob _ _ hc q _ => kp b ob hc q) (fun b ob _ _ hc q _ => ⟨ob.slots, kp b ob hc q⟩) (fun _ _ _ _ n => n) (fun b ob hc q => ⟨ob, kp b ob hc q⟩)
      (fun _ _ q => q) (fun _ _ _ q => q) (fun b ps q => ⟨#[], by rw [q]; simp⟩) (fun m hm => ?_) (fun b u q => ?_) z.bare
    · obtain ⟨y1, y2, y3⟩ := hA.young b hb
      exact ⟨.inr y1, y2, y3, fun p hp q => by
        rcases List.mem_append.mp hp with hp | hp
        · exact hA.pn p hp (by rw [q]; exact hb)
        · cases hp⟩
    · obtain ⟨ob, es, ep, ho, q⟩ := hm
      exact ⟨ob, es, ep, kp _ ob (fun y => (hN _ y).2.1 rfl) ho, q⟩
    · refine (I0.hok b u q).stay (fun c v hc y => kp c v ?_ y) (fun _ y => y) fun _ _ y => y
      rcases hc with y | y
      · rw [y]; exact nt b u q
      · exact nt c _ y
  refine ⟨fun b hb => let ⟨o, e, _⟩ := z.loose b hb; ⟨o, e⟩, acc.push v, c', ?_, J.pins_of fun p hp => ?_⟩
  · rw [Array.toList_push]
    exact r.append (.cons rv .nil)
  · rcases List.mem_cons.mp hp with hp | hp
    · rw [hp]
      exact ⟨eS', hpS.1, hpS.2.1, hpS.2.2.1, fun v q => by cases q⟩
    · obtain ⟨hb, e⟩ := of_pinsAt hp
      obtain ⟨q1, q2, q3⟩ := hN p.1 (List.mem_cons_of_mem _ hb)
      obtain ⟨ob, e2, nc⟩ := z.loose p.1 hb
      have e3 : (⟨hh, g, d, t, s.os⟩ : Shared).heap.get? p.1 = some p.2 := e
      rw [e2] at e3; cases e3
      exact ⟨e2, q1, q2, q3, nc⟩
end

/-! ### the protocol -/
def PrY (X : Cx) (S : Addr) (L : List Addr) : Protocol := fun n s₀ v s kap =>
  ∃ ys x σ H, n + 1 + ys.length = sizeLine ∧ RelV x v ∧ Up X S L s₀ ys σ H s ∧ ∀ s', Naps S L v s s' → kap (.send .none) s'
def PrE (X : Cx) (S : Addr) (L : List Addr) (Q : List V → VK) : GenEnd := fun n s₀ r s => match r with
  | .ok (.ret u) => ∃ ys v σ H, n + ys.length = sizeLine ∧ Up X S L s₀ ys σ H s ∧ RelV v u ∧ Q ys v H
  | _ => False
def SPg (X : Cx) (S : Addr) (L : List Addr) (s₀ : Shared) (D : GEnds) (ys : List V) (f : Flow) (s : Shared) : Prop :=
  match f with
  | .next => ∃ σ H, Up X S L s₀ ys σ H s ∧ D.nx ys σ H
  | .brk => ∃ σ H, Up X S L s₀ ys σ H s ∧ D.bk ys σ H
  | .cont => ∃ σ H, Up X S L s₀ ys σ H s ∧ D.ct ys σ H
  | .ret u => ∃ v σ H, Up X S L s₀ ys σ H s ∧ RelV v u ∧ D.rt ys v H
structure Site (X : Cx) (S : Addr) (L : List Addr) (A : Around) (c : Code) (fs : List Frame) (gd : Bool → Bool) : Prop where
  far : Far X S L
  quiet : ∀ e s, X.xe e s → False
  over : A.over c fs = X.A
  split : splitAtGen fs = none
  guard : fs.any Frame.guarded = false
  gd : gd false = false
/-- what follows -/
def Then (X : Cx) (S : Addr) (L : List Addr) (A : Around) (R : GenEnd) (c : Code) (fs : List Frame) (k : Flow → Sem PySem.Fin) (D : GEnds) : Prop :=
  ∀ (n : Nat) (ys : List V) (s₀ s : Shared) (f : Flow), n + ys.length = sizeLine → SPg X S L s₀ D ys f s → Seg (model X.prog X.w) A R (PrY X S L) n s₀ c (k f) fs s
structure YS (X : Cx) (st : Stmt) (t : TGn) : Prop where
  run : ∀ (A : Around) (S : Addr) (L : List Addr) (R : GenEnd) (n : Nat) (ys : List V) (s₀ : Shared) (c : Code) (fs : List Frame) (k : Flow → Sem PySem.Fin) (J : Value → Sem PySem.Fin) (gd : Bool → Bool) (lv : List Value → List Value) (s : Shared) (σ : L2.St) (H : Hp) (D : GEnds),
    Site X S L A c fs gd → n + ys.length = sizeLine → Then X S L A R c fs k D → Up X S L s₀ ys σ H s → t D ys σ H →
    Seg (model X.prog X.w) A R (PrY X S L) n s₀ c ((exec st X.env).wrap k J gd lv) fs s
structure YSs (X : Cx) (st : List Stmt) (t : TGn) : Prop where
  run : ∀ (A : Around) (S : Addr) (L : List Addr) (R : GenEnd) (n : Nat) (ys : List V) (s₀ : Shared) (c : Code) (fs : List Frame) (k : Flow → Sem PySem.Fin) (J : Value → Sem PySem.Fin) (gd : Bool → Bool) (lv : List Value → List Value) (s : Shared) (σ : L2.St) (H : Hp) (D : GEnds),
    Site X S L A c fs gd → n + ys.length = sizeLine → Then X S L A R c fs k D → Up X S L s₀ ys σ H s → t D ys σ H →
    Seg (model X.prog X.w) A R (PrY X S L) n s₀ c ((execs st X.env).wrap k J gd lv) fs s
section
variable {X : Cx} {st : Stmt} {rest : List Stmt}
theorem spg_of {S : Addr} {L : List Addr} {s₀ s : Shared} {acc : Array Value} {c : Nat} {D : GEnds} {ys : List V} {f : Flow} (hL : ∀ b ∈ L, ∃ o, s₀.heap.get? b = some o) (r : Vals ys acc.toList) (h : SP X ((S, lstObj acc c) :: pinsAt L s₀.heap) (D.at ys) f s) : SPg X S L s₀ D ys f s := by
  cases f with
  | next => obtain ⟨σ, H, I, q⟩ := h; exact ⟨σ, H, ⟨hL, acc, c, r, I⟩, q⟩
  | brk => obtain ⟨σ, H, I, q⟩ := h; exact ⟨σ, H, ⟨hL, acc, c, r, I⟩, q⟩
  | cont => obtain ⟨σ, H, I, q⟩ := h; exact ⟨σ, H, ⟨hL, acc, c, r, I⟩, q⟩
  | ret u => obtain ⟨v, σ, H, I, r1, q⟩ := h; exact ⟨v, σ, H, ⟨hL, acc, c, r, I⟩, r1, q⟩
theorem ys_ps {t : TS} (h : PS X st t) : YS X st (tPlain t) := by
  refine ⟨fun A S L R n ys s₀ c fs k J gd lv s σ H D g hn kk hU ht => ?_⟩
  obtain ⟨hL, acc, cc, r, I⟩ := hU
  refine seg_wrap ?_
  rw [g.over]
  exact wpAny_mono (h.run _ s σ H (D.at ys) I ht) (fun f s' hs => kk n ys s₀ s' f hn (spg_of hL r hs)) fun x s' hx => (g.quiet x s' hx).elim
theorem yss_pss {t : TS} (h : PSs X rest t) : YSs X rest (tPlain t) := by
  refine ⟨fun A S L R n ys s₀ c fs k J gd lv s σ H D g hn kk hU ht => ?_⟩
  obtain ⟨hL, acc, cc, r, I⟩ := hU
  refine seg_wrap ?_
  rw [g.over]
  exact wpAny_mono (h.run _ s σ H (D.at ys) I ht) (fun f s' hs => kk n ys s₀ s' f hn (spg_of hL r hs)) fun x s' hx => (g.quiet x s' hx).elim
theorem yss_nil : YSs X [] tG0 := ⟨fun A S L R n ys s₀ c fs k J gd lv s σ H D g hn kk hU ht => seg_execs_nil (kk n ys s₀ s .next hn ⟨σ, H, hU, ht⟩)⟩
theorem yss_cons {t u : TGn} (a : YS X st t) (b : YSs X rest u) : YSs X (st :: rest) (tGThen t u) := by
  refine ⟨fun A S L R n ys s₀ c fs k J gd lv s σ H D g hn kk hU ht => ?_⟩
  refine seg_execs_cons ?_
  refine a.run A S L R n ys s₀ c fs _ J gd lv s σ H { D with nx := fun ys' σ' H' => u D ys' σ' H' } g hn (fun n' ys' s₀' s' f hn' hs => ?_) hU ht
  cases f with
  | next =>
    obtain ⟨σ', H', U', q⟩ := hs
    exact b.run A S L R n' ys' s₀' c fs k J gd lv s' σ' H' D g hn' kk U' q
  | brk => exact kk n' ys' s₀' s' .brk hn' hs
  | cont => exact kk n' ys' s₀' s' .cont hn' hs
  | ret u => exact kk n' ys' s₀' s' (.ret u) hn' hs
theorem ys_yield {e : Expr} {yp pos : Pos} {te : TE} (he : PE X e te) (hco : X.env.scope.isCoroutine = false := by rfl) (hi : interactive X.env = false := by rfl) : YS X (.Expr (.Yield (some e) yp) pos) (tGYield te) := by
  refine ⟨fun A S L R n ys s₀ c fs k J gd lv s σ H D g hn kk hU ht => ?_⟩
  obtain ⟨hlt, ht⟩ := ht
  obtain ⟨n, rfl⟩ : ∃ m, n = m + 1 := ⟨n - 1, by omega⟩
  obtain ⟨hL, acc, cc, r, I⟩ := hU
  refine seg_Expr_Yield g.split g.gd g.guard ?_ hco hi
  rw [g.over]
  refine wpAny_mono (he.run _ s σ H _ I ht) (fun v s' hv => ?_) fun x s' hx => (g.quiet x s' hx).elim
  obtain ⟨x, H1, I1, rv, q⟩ := hv
  have U1 : Up X S L s₀ ys σ H1 s' := ⟨hL, acc, cc, r, I1⟩
  intro kap hk
  refine ⟨ys, x, σ, H1, hn, rv, U1, fun s'' z => hk .none s'' ?_⟩
  exact kk n (ys ++ [x]) s'' s'' .next (by rw [List.length_append, List.length_singleton]; omega) ⟨σ, H1, U1.wake g.far rv z, q⟩
/-- a test, each way with its yields -/
def tGIf (c : TT) (t u : TGn) : TGn := fun D ys σ H => c σ H fun b H1 => if b = true then t D ys σ H1 else u D ys σ H1
theorem ys_if {test : Expr} {a b : List Stmt} {pos : Pos} {tc : TT} {t u : TGn} (hc : PT X test tc) (ha : YSs X a t) (hb : YSs X b u) : YS X (.If test a b pos) (tGIf tc t u) := by
  refine ⟨fun A S L R n ys s₀ c fs k J gd lv s σ H D g hn kk hU ht => ?_⟩
  obtain ⟨hL, acc, cc, r, I⟩ := hU
  rw [exec_If]
  show Seg _ _ _ _ _ _ _ (.at pos fun _ => (isTrue test X.env (eval test X.env) >>= fun d => if d then execs a X.env else execs b X.env).wrap k J gd lv) _ _
  refine seg_at (seg_bind_wrap ?_)
  rw [g.over]
  refine wpAny_mono (hc.run _ s σ H _ I ht) (fun d s' hd => ?_) fun x s' hx => (g.quiet x s' hx).elim
  obtain ⟨H1, I1, q⟩ := hd
  cases d with
  | true => exact ha.run A S L R n ys s₀ c fs k J gd lv s' σ H1 D g hn kk ⟨hL, acc, cc, r, I1⟩ q
  | false => exact hb.run A S L R n ys s₀ c fs k J gd lv s' σ H1 D g hn kk ⟨hL, acc, cc, r, I1⟩ q
theorem Site.loop {S : Addr} {L : List Addr} {A : Around} {c c' : Code} {fs : List Frame} {gd : Bool → Bool} {k : Result → Sem PySem.Fin} {l kp : List Value} {p : Pos} (g : Site X S L A c fs gd) (hw : c'.weight = 0) (hu : c'.cUnits = 0) :
    Site X S L A c' (.ret k none (gd false) l c p kp :: fs) id where
  far := g.far
  quiet := g.quiet
  over := (over_loop hw hu).trans g.over
  split := by show (splitAtGen fs).map _ = none; rw [g.split]; rfl
  guard := by show (gd false || fs.any Frame.guarded) = false; rw [g.gd, g.guard]; rfl
  gd := rfl
theorem ys_while {test : Expr} {body : List Stmt} {pos : Pos} {tc : TT} {tb : TGn} (hc : PT X test tc) (hb : YSs X body tb) : YS X (.While test body [] pos) (tGWhile tc tb) := by
  refine ⟨fun A S L R n ys s₀ c fs k J gd lv s σ H D g hn kk hU ht => ?_⟩
  obtain ⟨W, ⟨m0, w0⟩, turn⟩ := ht
  refine seg_While fun p => ?_
  have gl := fun (q : Result → Sem PySem.Fin) => g.loop (k := q) (c' := .whileLoop test body [] X.env) (l := lv []) (kp := []) (p := p) rfl rfl
  have go : ∀ (m n : Nat) (ys : List V) (s₀ s : Shared) (σ : L2.St) (H : Hp), n + ys.length = sizeLine → W m ys σ H → Up X S L s₀ ys σ H s →
      Seg (model X.prog X.w) A R (PrY X S L) n s₀ (.whileLoop test body [] X.env) ((model X.prog X.w).den (.whileLoop test body [] X.env))
        (.ret (fun r => ((match r with | .ok f => (.pure f : Sem Flow) | .error e => .raise e).onRaise (cameBack X.env)).wrap k J gd lv) none (gd false) (lv []) c p [] :: fs) s := by
    intro m
    induction m using Nat.strongRecOn with
    | ind m ih =>
      intro n ys s₀ s σ H hn w hU
      refine seg_whileLoop ?_
      rw [(gl _).over]
      obtain ⟨hL, acc, cc, r, I⟩ := hU
      refine wpAny_mono (hc.run _ s σ H _ I (turn m ys σ H w)) (fun b s' hb' => ?_) fun x s' hx => (g.quiet x s' hx).elim
      obtain ⟨H2, I2, q2⟩ := hb'
      cases b with
      | true =>
        obtain ⟨N, hN, q2⟩ := q2
        rw [if_pos rfl]
        refine hb.run A S L R n ys s₀ _ _ _ _ id id s' σ H2 { D with nx := N, ct := N, bk := D.nx } (gl _) hn (fun n' ys' s₀' s3 f hn' hs => ?_) ⟨hL, acc, cc, r, I2⟩ q2
        cases f with
        | next =>
          obtain ⟨σ3, H3, U3, n3⟩ := hs
          obtain ⟨m', hm, w3⟩ := hN ys' σ3 H3 n3
          exact seg_again rfl (ih m' hm n' ys' s₀' s3 σ3 H3 hn' w3 U3)
        | cont =>
          obtain ⟨σ3, H3, U3, n3⟩ := hs
          obtain ⟨m', hm, w3⟩ := hN ys' σ3 H3 n3
          exact seg_again rfl (ih m' hm n' ys' s₀' s3 σ3 H3 hn' w3 U3)
        | brk => exact seg_leaf (.ok .next) (kk n' ys' s₀' s3 .next hn' hs)
        | ret v => exact seg_leaf (.ok (.ret v)) (kk n' ys' s₀' s3 (.ret v) hn' hs)
      | false =>
        rw [if_neg Bool.false_ne_true]
        exact seg_execs_nil (seg_leaf (.ok .next) (kk n ys s₀ s' .next hn ⟨σ, H2, ⟨hL, acc, cc, r, I2⟩, q2⟩))
  exact go m0 n ys s₀ s σ H hn w0 hU
end
end K28

set_option Elab.async false
set_option linter.all false
set_option maxRecDepth 100000
set_option maxHeartbeats 4000000
/-! A generator def's promise by its body; nothing is raised. -/
namespace K28
open PySem PySem.Spec PyProof.Rows L2 GenW

abbrev NoX : XK := fun _ _ _ => False
/-- the end of a run -/
def REndY (P : Program) (w : World) (outer : List Env) (H : Hp) (s : Shared) (S : Addr) (L : List Addr) (Q : List V → Hp → Prop) : GenEnd := fun n s₀ r s1 =>
  r = .ok (.ret .none) ∧ ∃ H' ys acc c, s1.os = s.os ∧ AllBare s1.gens ∧ Un (frs outer) [] H H' s.heap s1.heap ∧ HOk P w H' s1.heap ∧ H' S = none ∧ s1.heap.get? S = some (lstObj acc c) ∧ Vals ys acc.toList ∧ ys.length ≤ sizeLine ∧
    (∀ b ∈ L, H' b = none ∧ ∃ o, s₀.heap.get? b = some o ∧ s1.heap.get? b = some o) ∧ Q ys H'
/-- an item is handed out -/
def YItemY (s : Shared) (S : Addr) (L : List Addr) (a : Addr) (g : Nat) : Protocol := fun n s₀ v s1 kap =>
  s1.os = s.os ∧ AllBare s1.gens ∧ s1.heap.NoLimit ∧ s1.heap.IsGen a g ∧ (∃ (acc : Array Value) (c : Nat), s1.heap.get? S = some (lstObj acc c) ∧ n + 1 + acc.size = sizeLine) ∧
    (∀ b ∈ L, ∃ o, s₀.heap.get? b = some o ∧ s1.heap.get? b = some o) ∧ (∃ x, RelV x v) ∧ ∀ s', Naps S L v s1 s' → kap (.send .none) s'
/-- a generator that has not begun -/
def GMadeY (P : Program) (w : World) (k : Nat) (outer : List Env) (H : Hp) (s : Shared) (Q : List V → Hp → Prop) (u : Value) (s' : Shared) : Prop :=
  ∃ (a : Addr) (g : Nat) (c : Code), u = .ref a ∧ s.heap.objs.size ≤ a ∧ a < s'.heap.objs.size ∧ s'.heap.IsGen a g ∧ s'.gens[g]? = some (.fresh c) ∧ s'.os = s.os ∧ AllBare s'.gens ∧ s'.heap.NoLimit ∧ (∀ b o, s.heap.get? b = some o → s'.heap.get? b = some o) ∧
    ∀ (A : Around) (S : Addr) (L : List Addr) (s2 : Shared), Room k A → A.frames = some outer → (∀ b ∈ S :: L, s'.heap.objs.size ≤ b) → S ∉ L → (∀ b o, s'.heap.get? b = some o → s2.heap.get? b = some o) → (∃ c, s2.heap.get? S = some (lstObj #[] c)) →
      (∀ b ∈ L, ∃ o, s2.heap.get? b = some o ∧ NoCell o) → s2.os = s.os → AllBare s2.gens →
      Seg (model P w) A (REndY P w outer H s S L Q) (YItemY s S L a g) sizeLine s2 c ((model P w).den c) [] s2
abbrev SpY := List V → Hp → (List V → Hp → Prop) → Prop
structure GFnY (P : Program) (w : World) (K : PySem.W.Frag) (mg : Str → Option Value) (base : Heap) (k : Nat) (f : Addr) (fd : FuncData) (ps : List Str) (sp : SpY) : Prop where
  len : ∀ vs H Q, sp vs H Q → vs.length = ps.length
  run : ∀ (A : Around) (outer : List Env) (s : Shared) (H : Hp) (args : Args) (us : List Value) (vs : List V) (Q : List V → Hp → Prop), Room k A → Env0 P w K mg base A outer s H → BindsTo s fd args (ps.zip us) → Vals vs us → sp vs H Q →
    codeAny (model P w) A (.call (.ref f) args) (fun r s' => match r with | .ok (.ret u) => GMadeY P w k outer H s Q u s' | _ => False) s

theorem gfnY_of {P : Program} {w : World} {K : PySem.W.Frag} {mg : Str → Option Value} {base : Heap} {k : Nat} {f : Addr} {name qual : Str} {params : Arguments} {body : List Stmt} {scope : Scope} {dV kV doc pm cdv ct oc : Value} {an od : Option Addr}
    {osl : Array (Option Value)} {N ps : List Str} {sp : SpY} (lk : K.lookup f = some ⟨oc, od, .func (PySem.W.fnOf name qual params body scope dV kV doc pm an cdv ct), osl⟩) (hcd : PySem.W.codeIn K cdv qual = true) (S : GScope N ps scope)
    (len : ∀ vs H Q, sp vs H Q → vs.length = ps.length)
    (hbody : ∀ (A : Around) (outer : List Env) (s : Shared) (H : Hp) (vs : List V) (Q : List V → Hp → Prop) (pn : List (Addr × Obj)), Room k (A.deeper (envOfC qual scope s.heap.objs.size f cdv)) → sp vs H Q →
      ∃ t, YSs (gcxOf P w K mg base N qual scope f cdv A outer s H NoX pn).nox body t ∧ t { nx := fun ys _ H' => Q ys H', rt := fun ys v H' => v = .non ∧ Q ys H' } [] (start N vs) H) :
    GFnY P w K mg base (k + 1) f (PySem.W.fnOf name qual params body scope dV kV doc pm an cdv ct) ps sp := by
  refine ⟨len, fun A outer s H args us vs Q hr e0 hb r hsp => ?_⟩
  have hl := len _ _ _ hsp
  have KX : K.In s.heap := e0.mod.kin.keeps fun b o e => (e0.bs b o e).1
  have lim : s.heap.NoLimit := e0.mod.nolimit.keeps fun b o e => (e0.bs b o e).1
  have hkind : ∀ y ∈ ps.zip us, scope.names.lookup y.1 = some .local ∨ (scope.names.lookup y.1 = some .cell ∧ ((cellsFrom (s.heap.objs.size + 1) scope.names []).lookup y.1).isSome = true) := fun ⟨n, v⟩ hy => by
    rcases S.par n (List.of_mem_zip hy).1 with q | q
    · exact .inl q
    · exact .inr ⟨q, PySem.W.cellsFrom_some _ _ _ (.inl q)⟩
  refine codeAny_call_generator hr.depth (KX _ _ lk) rfl S.co S.gen rfl (PySem.W.codeRec_of KX hcd) (hb _ _ _ _ ?_)
  refine wpAny_newFunctionEnv_cells S.kind hkind fun env he s1 x => ?_
  subst he
  have lim1 : s1.heap.NoLimit := lim.keeps x.toInCall.keep
  refine ⟨lim1, ?_⟩
  obtain ⟨h1, tk, es1, hk1⟩ := x.done
  have os1 : s1.os = s.os := by rw [es1]
  have gen1 : s1.gens = s.gens := by rw [es1]
  have lt1 : s.heap.objs.size < s1.heap.objs.size := x.toInCall.ns.lt
  have sz1 : s.heap.objs.size ≤ s1.heap.objs.size := Nat.le_of_lt lt1
  have kp1 : ∀ b o, s.heap.get? b = some o → s1.heap.get? b = some o := x.toInCall.keep
  have main : ∀ (go : Obj) (nm qn : Value) (tk2 : Nat), go.cls = .type "generator" → go.data = .fields #[.int s1.gens.size 0, nm, qn] → go.slots = #[] → (∀ h : Heap, (h.push go).get? h.objs.size = some go) →
      GMadeY P w (k + 1) outer H s Q (.ref s1.heap.objs.size) { s1 with gens := s1.gens.push (.fresh (.func body (envOfC qual scope s.heap.objs.size f cdv))), toks := tk2, heap := s1.heap.push go } := by
    intro go nm qn tk2 hgc hgd0 hgs hgp
    have hgen : ∀ h : Heap, h.get? s1.heap.objs.size = some go → h.IsGen s1.heap.objs.size s1.gens.size := fun h e => ⟨go, nm, qn, e, hgc, hgd0, hgs⟩
    have hpushed : (s1.heap.push go).get? s1.heap.objs.size = some go := hgp _
    refine ⟨s1.heap.objs.size, s1.gens.size, _, rfl, sz1, ?_, hgen _ hpushed, Array.getElem?_push_size .., os1, ?_, lim1.keeps fun b o e => Heap.get?_push_of_some _ e, fun b o e => Heap.get?_push_of_some _ (kp1 b o e), ?_⟩
    · show _ < (s1.heap.push _).objs.size
      rw [Heap.size_push]; exact Nat.lt_succ_self _
    · exact AllBare.push (by rw [gen1]; exact e0.bare) rfl
    intro Aw Sx L s2 hrw hfr hyg hSL hk2 hSo hLo hos hba
    have e0w : Env0 P w K mg base Aw outer s H := ⟨hfr, e0.mod, e0.bs, e0.bsz, e0.funs, e0.frf, e0.hok, e0.bare⟩
    obtain ⟨t, ht, hq⟩ := hbody Aw outer s H vs Q [(s1.heap.objs.size, go)] (hrw.deeper _) hsp
    have I1 : Inv (gcxOf P w K mg base N qual scope f cdv Aw outer s H NoX []) [] (start N vs) H s1 := inv_startG S hrw.hd e0w hl r x
    have kp2 : ∀ b o, s1.heap.get? b = some o → s2.heap.get? b = some o := fun b o e => hk2 b o (Heap.get?_push_of_some _ e)
    have I2 : Inv (gcxOf P w K mg base N qual scope f cdv Aw outer s H NoX []) [] (start N vs) H s2 :=
      I1.call' (ch := []) (hos.trans os1.symm) (Un.kept kp2) (I1.hok.kept kp2) hba fun b z => by simp at z
    have hyg' : ∀ b ∈ Sx :: L, s1.heap.objs.size < b := fun b hb => by
      have h := hyg b hb
      have h' : (s1.heap.push go).objs.size ≤ b := h
      rw [Heap.size_push] at h'
      exact h'
    obtain ⟨cS, heS⟩ := hSo
    have hea : s2.heap.get? s1.heap.objs.size = some go := hk2 s1.heap.objs.size go hpushed
    have hgd : ∀ v, go.data ≠ .cell v := fun v q => by rw [hgd0] at q; cases q
    have young : ∀ b, s1.heap.objs.size ≤ b → H b = none ∧ b ≠ s.heap.objs.size ∧ b ∉ frs outer ∧ s.heap.objs.size ≤ b ∧ ∀ y c, (cellsFrom (s.heap.objs.size + 1) scope.names []).lookup y = some c → c ≠ b := fun b hb => by
      refine ⟨I1.hok.fresh hb, Nat.ne_of_gt (Nat.lt_of_lt_of_le lt1 hb), I1.nofs hb, Nat.le_trans sz1 hb, fun y c e z => ?_⟩
      obtain ⟨v, ob, ho, _⟩ := I1.cell y c e
      have := Heap.lt_size ho
      rw [z] at this
      exact absurd (Nat.lt_of_lt_of_le this hb) (Nat.lt_irrefl _)
    have hLa : ∀ b ∈ L, ∃ o, s2.heap.get? b = some o := fun b hb => let ⟨o, e, _⟩ := hLo b hb; ⟨o, e⟩
    have hU : Up (gcxOf P w K mg base N qual scope f cdv Aw outer s H NoX [(s1.heap.objs.size, go)]).nox Sx L s2 [] (start N vs) H s2 := by
      refine ⟨hLa, #[], cS, .nil, (Inv.pinnedG I2 fun p hp => ?_).wish _⟩
      rcases List.mem_append.mp hp with z | z
      · rw [List.mem_singleton.mp z]
        obtain ⟨y1, y2, y3, _, _⟩ := young s1.heap.objs.size (Nat.le_refl _)
        exact ⟨hea, y1, y2, y3, hgd⟩
      · rcases List.mem_cons.mp z with z | z
        · rw [z]
          obtain ⟨y1, y2, y3, _, _⟩ := young Sx (Nat.le_of_lt (hyg' Sx List.mem_cons_self))
          exact ⟨heS, y1, y2, y3, fun v q => by cases q⟩
        · obtain ⟨hb, e⟩ := of_pinsAt z
          obtain ⟨y1, y2, y3, _, _⟩ := young p.1 (Nat.le_of_lt (hyg' p.1 (List.mem_cons_of_mem _ hb)))
          obtain ⟨o, e2, nc⟩ := hLo p.1 hb
          rw [e] at e2; cases e2
          exact ⟨e, y1, y2, y3, nc⟩
    have hA : Far (gcxOf P w K mg base N qual scope f cdv Aw outer s H NoX [(s1.heap.objs.size, go)]).nox Sx L := by
      refine ⟨fun b hb => ?_, fun p hp => ?_, hSL⟩
      · obtain ⟨_, y2, _, y4, y5⟩ := young b (Nat.le_of_lt (hyg' b hb))
        exact ⟨y4, y2, y5⟩
      · rw [List.mem_singleton.mp hp]
        exact fun hb => absurd (hyg' _ hb) (Nat.lt_irrefl _)
    refine seg_func ?_
    refine seg_imp (R := PrE (gcxOf P w K mg base N qual scope f cdv Aw outer s H NoX [(s1.heap.objs.size, go)]).nox Sx L (fun ys v H' => v = .non ∧ Q ys H'))
      (Y := PrY (gcxOf P w K mg base N qual scope f cdv Aw outer s H NoX [(s1.heap.objs.size, go)]).nox Sx L) (fun n s₀ r s1' hR => ?_) (fun n s₀ v s1' kap kap' hkk hY => ?_) sizeLine ?_
    · cases r with
      | error e => exact False.elim hR
      | ok fl =>
        cases fl with
        | next => exact False.elim hR
        | brk => exact False.elim hR
        | cont => exact False.elim hR
        | ret u =>
          obtain ⟨ys, v, σ', H', hn, hI, rv, ev, hQ⟩ := hR
          subst ev
          have eu : u = Value.none := rv
          subst eu
          obtain ⟨a1, _, _, acc, cc, ra, ea⟩ := hI.pinS
          have hL' := fun b (hb : b ∈ L) => hI.pinL hb
          obtain ⟨_, _, _, _, J⟩ := hI
          exact ⟨rfl, H', ys, acc, cc, J.os, J.bare, J.base, J.hok, a1, ea, ra, by omega, fun b hb => let ⟨o, e1, e2, e3, _⟩ := hL' b hb; ⟨e3, o, e1, e2⟩, hQ⟩
    · obtain ⟨ys, xx, σ', H', hn, h2, hI, h3⟩ := hY
      obtain ⟨_, _, _, acc, cc, ra, ea⟩ := hI.pinS
      have hL' := fun b (hb : b ∈ L) => hI.pinL hb
      have hg : s1'.heap.IsGen s1.heap.objs.size s1.gens.size := by
        obtain ⟨_, acc, cc, _, J⟩ := hI
        exact hgen _ (J.pin (s1.heap.objs.size, go) (List.mem_append_left _ (List.mem_singleton.mpr rfl))).1
      obtain ⟨_, _, _, _, J⟩ := hI
      have hsz : acc.size = ys.length := by
        have e1 := ra.length
        have e2 : acc.toList.length = acc.size := by simp
        omega
      exact ⟨J.os, J.bare, J.nolimit, hg, ⟨acc, cc, ea, by rw [hsz]; exact hn⟩, fun b hb => let ⟨o, e1, e2, _⟩ := hL' b hb; ⟨o, e1, e2⟩, ⟨xx, h2⟩, fun s' z => hkk _ _ (h3 s' z)⟩
    · refine ht.run Aw Sx L _ sizeLine [] s2 _ [] _ _ id id s2 (start N vs) H _ ⟨hA, fun _ _ z => z, over_func, rfl, rfl, rfl⟩ (Nat.add_zero _) (fun n ys s₀ s' fl hn hs => ?_) hU hq
      cases fl with
      | next =>
        obtain ⟨σ', H', hI, hQ⟩ := hs
        exact seg_end (.ok (.ret .none)) ⟨ys, .non, σ', H', hn, hI, rfl, rfl, hQ⟩
      | brk => obtain ⟨_, _, _, q⟩ := hs; exact False.elim q
      | cont => obtain ⟨_, _, _, q⟩ := hs; exact False.elim q
      | ret u =>
        obtain ⟨v, σ', H', hI, rv, ev, hQ⟩ := hs
        exact seg_end (.ok (.ret u)) ⟨ys, v, σ', H', hn, hI, rv, ev, hQ⟩
  exact main _ _ _ _ rfl rfl rfl fun h => Heap.get?_push_size _ rfl

/-! ### list(gen) -/
theorem Naps.of_slept {S : Addr} {v : Value} {s s' : Shared} (z : Slept S v s s') : Naps S [] v s s' := ⟨z.os, z.bare, fun b o h _ e => z.keep b o h e, z.own, fun b hb => nomatch hb⟩
theorem GMadeY.plain {P : Program} {w : World} {k : Nat} {outer : List Env} {H : Hp} {s : Shared} {Q : List V → Hp → Prop} {u : Value} {s' : Shared} (h : GMadeY P w k outer H s Q u s') : GMade P w k outer H s [] Q NoX u s' := by
  obtain ⟨a, g, c, eu, h1, h2, hg, hgs, hos, hb, hl, hkp, wake⟩ := h
  refine ⟨a, g, c, eu, h1, h2, hg, hgs, hos, hb, hl, hkp, fun A S s2 hr hf hS hk hSo ho hba => ?_⟩
  refine seg_imp (fun n s₀ r s1 hR => ?_) (fun n s₀ v s1 kap kap' hkk hY => ?_) sizeLine (wake A S [] s2 hr hf (fun b hb => by rw [List.mem_singleton.mp hb]; exact hS) (fun h => nomatch h) hk hSo (fun b hb => nomatch hb) ho hba)
  · obtain ⟨er, H', ys, acc, c, q1, q2, q3, q4, q5, q6, q7, q8, _, q9⟩ := hR
    exact .inl ⟨.inl er, H', ys, acc, c, q1, q2, q3, q4, q5, q6, q7, q8, q9⟩
  · obtain ⟨q1, q2, q3, q4, q5, _, _, q6⟩ := hY
    exact ⟨q1, q2, q3, q4, q5, fun s' z => hkk _ _ (q6 s' (.of_slept z))⟩
/-- an expression whose value is a generator that has not begun -/
structure PGenY (X : Cx) (k : Nat) (e : Expr) (tg : TGen) : Prop where
  run : ∀ (pins : List (Addr × Obj)) (s : Shared) (σ : L2.St) (H : Hp) (cont : List V → Hp → Prop), Inv X pins σ H s → tg σ H cont → wpAny (model X.prog X.w) X.A (eval e X.env)
    (fun u s' => ∃ H1 sc, Inv X pins σ H1 sc ∧ GMadeY X.prog X.w k X.stack H1 sc cont u s') X.xe s
theorem PGenY.plain {X : Cx} {k : Nat} {e : Expr} {tg : TGen} (h : PGenY X k e tg) : PGen X k e tg NoX :=
  ⟨fun pins s σ H cont I q => thn (h.run pins s σ H cont I q) fun u s' ⟨H1, sc, I1, g⟩ => ⟨H1, sc, [], I1, .nil, g.plain⟩⟩
def tCallY (sp : SpY) (dvs : List V) (t : TA) : TGen := fun σ H cont => t σ H fun vs H1 => sp (vs ++ dvs) H1 cont
section
variable {X : Cx} {k : Nat} {f : Addr} {fd : FuncData} {ps : List Str} {sp : SpY} {dvs : List V} {ds : List Value} {x : Str} {p pos' : Pos}
/-- f(e, ..) of a generator def -/
theorem pgenY_call {e : Expr} {es : List Expr} {t : TA} (F : GFnY X.prog X.w X.K X.mg X.base k f fd ps sp) (hr : Room k X.A) (hg : Gl X x) (hm : X.mg x = some (.ref f)) (hk : PySem.W.keepIn X.K (.ref f) = true) (hb : Binds X.K fd ps ds) (hd : Vals dvs ds)
    (ha : PA X (e :: es) t) (hdb : (x == ("__debug__" : Str)) = false := by decide) (he : starEach (e :: es) X.env = (false, eval e X.env) :: starEach es X.env := by rfl) (hpl : (backTo pos' (starEach es X.env)).any (·.1) = false := by rfl) :
    PGenY X k (.Call (.Name x p) (e :: es) [] pos') (tCallY sp dvs t) := by
  refine ⟨fun pins s σ H cont I h => ?_⟩
  refine wpAny_Call_Name_kw (ld_glob I hg hm ?_ hdb)
  refine PySem.W.callWith_K (h₀ := X.base) I.ok.mod.kin hk (thn (ha.run pos' pins s σ H _ I h) fun us s1 ⟨vs, H1, I1, r, q⟩ => ⟨I1.kIn, ?_⟩) he hpl
  have r2 : Vals (vs ++ dvs) (us ++ ds) := r.append hd
  have hl2 : (us ++ ds).length = ps.length := by rw [← r2.length]; exact F.len _ _ _ q
  refine wpAny_call (codeAny_mono (F.run X.A X.stack s1 H1 ⟨us, []⟩ (us ++ ds) (vs ++ dvs) cont hr I1.env0 (hb s1 us I1.kIn hl2) r2 q) fun r s' hq => ?_)
  cases r with
  | error e => exact False.elim hq
  | ok fl =>
    cases fl with
    | ret u => exact ⟨H1, s1, I1, hq⟩
    | next => exact False.elim hq
    | brk => exact False.elim hq
    | cont => exact False.elim hq
end
end K28

set_option Elab.async false
set_option linter.all false
set_option maxRecDepth 100000
set_option maxHeartbeats 4000000
/-! [x for x in gen]: the list of all that the generator hands out. -/
namespace K28
open PySem PySem.Spec PyProof.Rows L2 GenW

/-- what a run of the generator ends with -/
def FinY (P : Program) (w : World) (outer : List Env) (H : Hp) (s : Shared) (S C : Addr) (Q : List V → Hp → Prop) : Nat → Shared → Shared → Prop := fun _ s₀ s1 =>
  ∃ H' ys acc c, s1.os = s.os ∧ AllBare s1.gens ∧ Un (frs outer) [] H H' s.heap s1.heap ∧ HOk P w H' s1.heap ∧ H' S = none ∧ s1.heap.get? S = some (lstObj acc c) ∧ Vals ys acc.toList ∧ ys.length ≤ sizeLine ∧
    (H' C = none ∧ ∃ o, s₀.heap.get? C = some o ∧ s1.heap.get? C = some o) ∧ Q ys H'
abbrev RY (P : Program) (w : World) (outer : List Env) (H : Hp) (s : Shared) (S C : Addr) (Q : List V → Hp → Prop) : GenEnd := fun n s₀ r s1 =>
  ((r = .ok (.ret .none) ∨ r = .ok .next) ∧ FinY P w outer H s S C Q n s₀ s1) ∨ ∃ e, r = .error e ∧ (fun (_ : Value) (_ : Shared) => False) e s1

theorem allBare_set {s : Shared} {g : Nat} {x : GenState} (h : AllBare s.gens) (hx : x.bare = true) : AllBare (s.setGen g x).gens := allBare_setGen h hx

section
variable {X : Cx} {k : Nat}
def tLcY (tg : TGen) : TE := fun σ H Q => tg σ H fun out H2 => ∀ p, H2 p = none → Q (.ref p) (upd H2 p (.lst out))
theorem pe_lcY {y : Str} {e : Expr} {tg : TGen} {scope : Scope} {own : List (Str × Nat)} {p1 p2 pos : Pos} (hg : PGenY X k e tg) (hr : Room (k + 3) X.A) (ok : BlkOk X.N X.env.scope scope own) (hy : scope.names.lookup y = some .local)
    (hd : (y == ("__debug__" : Str)) = false := by decide) (hcd : (y == ("__classdict__" : Str)) = false := by decide) (hs : ∀ x, foldedSetIterable e X.env x = pure x := by intro _; rfl) :
    PE X (.ListComp (.Name y p1) [⟨.Name y p2, e, [], 0⟩] scope pos) (tLcY tg) := by
  refine ⟨fun pins s σ H Q I h => ?_⟩
  rw [eval_ListComp]
  have hfree : ∀ z ∈ scope.names, z.2 = .free → ∃ c, X.env.cells.lookup z.1 = some c := fun z hz e => by
    rcases ok.free z hz e with q | q
    · exact I.ok.has _ (.inl q)
    · exact I.ok.has _ (.inr q)
  refine wpAny_comprehension_free (use := none) rfl hs (closure_ok hfree) ok.kind (fun z hz e => by rw [ok.uniq z hz, e])
    (thn (hg.run pins s σ H _ I h) fun u s1 ⟨H1, sc, I1, g⟩ => ?_)
  obtain ⟨a, g, c, rfl, ha1, ha2, hgen, hgs, hos, hb, hl, hkp, wake⟩ := g
  refine wpAny_pyIter_gen hgen ?_
  refine wpAny_newObj_type (newEnv_comp ?_) (by show 0 ≤ sizeLine; decide)
  generalize hD : s1.heap.objs.size = D
  generalize hs3 : ({ s1 with heap := s1.heap.push { cls := .type "list", data := .seq ([] : List Value).toArray } } : Shared) = s3
  have e3 : s3.heap = s1.heap.push { cls := .type "list", data := .seq ([] : List Value).toArray } := by rw [← hs3]
  have z3 : s3.heap.objs.size = D + 1 := by rw [e3, Heap.size_push, hD]
  have kp3 : ∀ b o, s1.heap.get? b = some o → s3.heap.get? b = some o := fun b o e => by rw [e3]; exact Heap.get?_push_of_some _ e
  have hD3 : s3.heap.get? D = some (lstObj #[] 0) := by rw [e3, ← hD]; exact Heap.get?_push_size _ rfl
  show codeAny _ _ (.compStart (.ListComp (.Name y p1) [⟨.Name y p2, e, [], 0⟩] scope pos) 0 (.ref a) (.ref D) (compEnvC scope (cellsFrom (s3.heap.objs.size + 1) scope.names (cloFrom X.env.cells scope.names [])) s3.heap.objs.size X.env)) (compPost (model X.prog X.w) X.A X.xe none (EP X pins σ Q) (.ref D) s3.heap.objs.size) { s3 with heap := pushCells (s3.heap.push { cls := .type "dict", data := .dict #[] }) scope.names }
  generalize hce : compEnvC scope (cellsFrom (s3.heap.objs.size + 1) scope.names (cloFrom X.env.cells scope.names [])) s3.heap.objs.size X.env = ce
  generalize hC : s3.heap.objs.size = C at *
  have cL : ce.locals = C := by subst hce; rfl
  have ck : ce.scope.kind = .function := by subst hce; exact ok.kind
  have cl : ce.kindOf y = some .local := by subst hce; exact lookup_relabel_local hy
  generalize hs4 : ({ s3 with heap := pushCells (s3.heap.push { cls := .type "dict", data := .dict #[] }) scope.names } : Shared) = s4
  have kp34 : ∀ b o, s3.heap.get? b = some o → s4.heap.get? b = some o := fun b o e => by rw [← hs4]; exact pushCells_keeps _ _ _ _ (Heap.get?_push_of_some _ e)
  have kp4 : ∀ b o, s1.heap.get? b = some o → s4.heap.get? b = some o := fun b o e => kp34 b o (kp3 b o e)
  have nC4 : s4.heap.Ns C fun _ => none := by
    rw [← hs4, ← hC]
    exact Heap.Ns.keeps (Heap.Ns.new ..) fun b o e => pushCells_keeps _ _ _ _ e
  have g4 : s4.gens = s1.gens := by rw [← hs4, ← hs3]
  have o4 : s4.os = sc.os := by rw [← hs4, ← hs3]; exact hos
  have hDC : D ≠ C := by omega
  have aD : a ≠ D := Nat.ne_of_lt (by rw [← hD]; exact ha2)
  have aC : a ≠ C := Nat.ne_of_lt (Nat.lt_trans (show a < D by rw [← hD]; exact ha2) (by rw [z3]; exact Nat.lt_succ_self _))
  have dataC : ∀ {h : Heap} {m : Str → Option Value}, h.Ns C m → ∃ o, h.get? C = some o ∧ NoCell o := fun {h m} hn => by
    obtain ⟨o, es, ep, e1, e2, _⟩ := hn.noRefKey
    exact ⟨o, e1, fun u q => by rw [e2] at q; cases q⟩
  have hstat : cStatics < D := by rw [← hD]; exact (let ⟨_, hn, _⟩ := hl; hn.lt)
  have hsD : sc.heap.objs.size ≤ D := by rw [← hD]; exact Nat.le_trans ha1 (Nat.le_of_lt ha2)
  have sD : cStatics ≠ D := Nat.ne_of_lt hstat
  have sC : cStatics ≠ C := Nat.ne_of_lt (Nat.lt_trans hstat (by rw [z3]; exact Nat.lt_succ_self _))
  -- the loop
  have loop : codeAny (model X.prog X.w) X.A (.compLoop (.ListComp (.Name y p1) [⟨.Name y p2, e, [], 0⟩] scope pos) 0 (.ref a) (.ref D) ce) (compPost (model X.prog X.w) X.A X.xe none (EP X pins σ Q) (.ref D) C) s4 := by
    refine compLoop_any (fun n s5 => s5.heap.IsGen a g ∧ s5.heap.NoLimit ∧ (∃ m, s5.heap.Ns C m) ∧ (∃ gs, s5.gens[g]? = some gs ∧
      gs.Goes (model X.prog X.w) X.A.in1 (RY X.prog X.w X.stack H1 sc D C fun out H2 => ∀ p, H2 p = none → Q (.ref p) (upd H2 p (.lst out))) (YItemY sc D [C] a g) n (.send .none) (s5.setGen g .running))) ?_ sizeLine
      ⟨hgen.keeps kp4, hl.keeps kp4, ⟨_, nC4⟩, .fresh c, by rw [g4]; exact hgs, rfl, ?_⟩
    · rintro n s5 ⟨hg5, hl5, ⟨m5, n5⟩, gs, hgs5, hgo⟩
      have hgl : g < s5.gens.size := (Array.getElem?_eq_some_iff.mp hgs5).1
      refine wpAny_gsz (n := g + 1) hgl (next_genG (A := X.A) hr.hd hl5 hr.depth hg5 hgs5 hgo (fun v s6 gs' hbare hv => ?_) (fun s6 hp h' hk => ?_) fun e s6 he => he.elim)
      · intro hsz
        obtain ⟨q1, q2, q3, q4, ⟨acc, cc, hS6, hasz⟩, q6, ⟨x, rx⟩, q7⟩ := hv
        obtain ⟨oC, eC0, eC6⟩ := q6 C List.mem_cons_self
        have n6 : s6.heap.Ns C m5 := Heap.Ns.at n5 fun o e => by
          have e : (s5.setGen g .running).heap.get? C = some o := e
          rw [eC0] at e; cases e; exact eC6
        cases n with
        | zero =>
          exact (q7 (s6.setGen g .running |> fun z => { z with heap := z.heap.update D (Obj.mapSeq (·.push v)) }) ⟨rfl, allBare_set q2 rfl, fun b o h _ e => (Heap.get?_update_other _ _ (Ne.symm h)).trans e,
            fun acc' c' e => by
              have e : s6.heap.get? D = some (lstObj acc' c') := e
              rw [hS6] at e; cases e
              exact ⟨_, Heap.get?_update_self _ hS6 rfl⟩, fun b hb => by
              rw [List.mem_singleton.mp hb]
              obtain ⟨o, e1, e2⟩ := dataC n6
              exact ⟨o, (Heap.get?_update_other _ _ hDC).trans e1, e2⟩⟩).elim
        | succ n =>
        obtain ⟨go, nm, qn, eg, gc, gd, gl⟩ := id q4
        refine go_of (s := s6.setGen g gs') eg gc gd (by decide) ?_
        refine wpAny_assign_Name (wpAny_storeName_local (env := ce) (m := m5) cl (by rw [cL]; exact n6) (fun h' hn' sb => ?_) (by rw [ck]; rfl))
        rw [cL] at hn' sb
        refine wpAny_tests_nil ?_
        rw [if_pos rfl]
        refine wpAny_Name (wpAny_loadName_local ck cl (by rw [cL]; exact hn') (if_pos rfl) ?_) hd
        have hS7 : h'.get? D = some (lstObj acc cc) := (sb.2 D hDC).trans hS6
        refine append_at (D := D) (hsz := by omega) hS7 fun h8 sb8 hS8 => ⟨n, Nat.lt_succ_self _, ?_⟩
        have hgl8 : g < (s6.setGen g gs').gens.size := hsz
        have hgl6 : g < s6.gens.size := by
          have z : (s6.setGen g gs').gens.size = s6.gens.size := setGen_size _ _ _
          omega
        have n8 : h8.Ns C (fun x => if x = y then some v else m5 x) := hn'.sameBut sb8 (Ne.symm hDC)
        have kp8 : ∀ b o, b ≠ D → b ≠ C → s6.heap.get? b = some o → h8.get? b = some o := fun b o h1 h2 e => (sb8.2 b h1).trans ((sb.2 b h2).trans e)
        refine ⟨⟨go, nm, qn, kp8 a go aD aC eg, gc, gd, gl⟩, ?_, ⟨_, n8⟩, gs', setGen_at (s := s6) hgl6, ?_⟩
        · obtain ⟨mc, hns, hnn⟩ := q3
          exact ⟨mc, hns.at' fun o e => kp8 _ o sD sC e, hnn⟩
        · refine q7 _ ⟨rfl, ?_, fun b o h1 h2 e => kp8 b o h1 (fun z => h2 (by rw [z]; exact List.mem_cons_self)) e, fun acc' c' e => ?_, fun b hb => ?_⟩
          · exact allBare_set (s := { s6.setGen g gs' with heap := _, toks := _ }) (allBare_set (s := s6) q2 hbare) rfl
          · have e : s6.heap.get? D = some (lstObj acc' c') := e
            rw [hS6] at e; cases e
            exact ⟨_, hS8⟩
          · rw [List.mem_singleton.mp hb]
            exact dataC n8
      · intro hsz
        obtain ⟨H', ys, acc, cc, q1, q2, q3, q4, q5, q6, q7, q8, ⟨q9, oC, eC0, eC6⟩, q10⟩ := hp
        have n6 : s6.heap.Ns C m5 := Heap.Ns.at n5 fun o e => by
          have e : (s5.setGen g .running).heap.get? C = some o := e
          rw [eC0] at e; cases e; exact eC6
        refine ⟨m5, n6.keeps hk, fun h9 sb9 => ?_⟩
        have hle : sc.heap.objs.size ≤ D := hsD
        have hleC : sc.heap.objs.size ≤ C := Nat.le_trans hsD (by rw [z3]; exact Nat.le_succ _)
        have J := I1.drained (s' := { s6.setGen g .finished with heap := h' }) (ex := []) hle q8 (hk _ _ q6) q7 .nil q1 (allBare_set (s := s6) q2 rfl) (q3.trans (Un.kept hk)) (q4.kept hk) q5
        obtain ⟨f0, f1, f2, f3, f4, f5⟩ := I1.fpOk (H' := upd H' D (.lst ys)) hleC (by rw [upd_ne (Ne.symm hDC)]; exact q9)
        exact ⟨.ref D, _, J.turned (t' := s6.toks) (fun b o hb e => (sb9.2 b hb).trans e) f0 f1 f3 f4 f5, rfl, q10 D q5⟩
    · refine seg_imp (fun n s₀ r s1 hR => ?_) (fun n s₀ v s1 kap kap' hkk hY => ?_) sizeLine (wake X.A.in1 D [C] (s4.setGen g .running) ((hr.mono (by omega : k + 1 ≤ k + 3)).in1) I1.ok.frames (fun b hb => ?_) (fun h => hDC (List.mem_singleton.mp h)) kp4 ⟨0, kp34 _ _ hD3⟩ (fun b hb => ?_) o4 (allBare_set (s := s4) (by rw [g4]; exact hb) rfl))
      · obtain ⟨er, H', ys, acc, c, q1, q2, q3, q4, q5, q6, q7, q8, q9, q10⟩ := hR
        exact .inl ⟨.inl er, H', ys, acc, c, q1, q2, q3, q4, q5, q6, q7, q8, q9 C List.mem_cons_self, q10⟩
      · obtain ⟨q1, q2, q3, q4, q5, q6, q7, q8⟩ := hY
        exact ⟨q1, q2, q3, q4, q5, q6, q7, fun s' z => hkk _ _ (q8 s' z)⟩
      · rcases List.mem_cons.mp hb with z | z
        · rw [z, hD]; exact Nat.le_refl _
        · rw [List.mem_singleton.mp z]; omega
      · rw [List.mem_singleton.mp hb]
        exact dataC (h := (s4.setGen g .running).heap) nC4
  exact codeAny_compStart_list loop (wpAny_pyIter_gen (hgen.keeps kp4) loop)
end
end K28

set_option Elab.async false
set_option linter.all false
set_option maxRecDepth 100000
set_option maxHeartbeats 4000000
/-! runs_of. -/
namespace K28
open PySem PySem.Spec PyProof.Rows L2 GenW
section
variable {P : Program} {w : World} {K : PySem.W.Frag} {mg : Str → Option Value} {base : Heap}
def OkY (P : Program) (w : World) (K : PySem.W.Frag) (mg : Str → Option Value) (base : Heap) (k : Nat) (f : Addr) (ps : List Str) (sp : SpY) : Prop :=
  ∃ fd, GFnY P w K mg base k f fd ps sp ∧ Binds K fd ps [] ∧ PySem.W.keepIn K (.ref f) = true
theorem pgenY_callO {X : Cx} {k : Nat} {f : Addr} {ps : List Str} {sp : SpY} {x : Str} {p pos : Pos} {e : Expr} {es : List Expr} {t : TA} (O : OkY X.prog X.w X.K X.mg X.base k f ps sp) (hr : Room k X.A) (hg : Gl X x) (hm : X.mg x = some (.ref f))
    (ha : PA X (e :: es) t) (hdb : (x == ("__debug__" : Str)) = false := by decide) (he : starEach (e :: es) X.env = (false, eval e X.env) :: starEach es X.env := by rfl) (hpl : (backTo pos (starEach es X.env)).any (·.1) = false := by rfl) :
    PGenY X k (.Call (.Name x p) (e :: es) [] pos) (tCallY sp [] t) := by
  obtain ⟨fd, F, b, kp⟩ := O
  exact pgenY_call F hr hg hm kp b .nil ha hdb he hpl

/-! ### what waits, on the heap -/
def itemD (x : List Nat × Conf) : PyData := .tuple [runD x.1, .tuple (x.2.st.reverse.map spD), .str (dueS x.2.call)]
def Idx : Wait → Prop
  | [] => True
  | x :: l => l.length ≤ 16 * x.1.length ∧ Idx l
structure ItmOk (p : Prog) (n : Nat) (x : List Nat × Conf) : Prop where
  le : x.1.length ≤ n
  spots : Spots p x.2.st
  deep : x.2.st.length ≤ x.1.length + 1
structure Lay (p : Prog) (H0 H : Hp) (tb pd : Addr) (l : Wait) : Prop where
  same : Same H0 H
  pdn : H0 pd = none
  lst : ∃ vs, H pd = some (.lst vs) ∧ ImAll H (l.reverse.map itemD) vs
  tab : TabAt H tb p
theorem Lay.more {p : Prog} {H0 H H' : Hp} {tb pd : Addr} {l : Wait} (L : Lay p H0 H tb pd l) (s : Same H H') : Lay p H0 H' tb pd l := by
  obtain ⟨vs, h1, h2⟩ := L.lst
  obtain ⟨kvs, z, _⟩ := id L.tab
  exact ⟨L.same.trans s, L.pdn, ⟨vs, s _ _ h1, h2.keep (Same.tup s)⟩, L.tab.keep (Same.tup s) ((s _ _ z).trans z.symm)⟩
theorem Lay.put {p : Prog} {H0 H : Hp} {tb pd : Addr} {l l' : Wait} {vs : List V} (L : Lay p H0 H tb pd l) (h : ImAll H (l'.reverse.map itemD) vs) : Lay p H0 (upd H pd (.lst vs)) tb pd l' := by
  obtain ⟨ws, h1, h2⟩ := L.lst
  obtain ⟨kvs, z, _⟩ := id L.tab
  have kt : TupK H (upd H pd (.lst vs)) := tup_upd fun xs e => by rw [h1] at e; cases e
  refine ⟨fun b o e => ?_, L.pdn, ⟨vs, upd_same, h.keep kt⟩, L.tab.keep kt (upd_ne (ne_of z h1 (by intro q; cases q)))⟩
  rw [upd_ne (ne_of_none e L.pdn)]
  exact L.same _ _ e
theorem im_item {H : Hp} {x : List Nat × Conf} {v : V} (h : Im H (itemD x) v) : ∃ t r fr xs, v = .ref t ∧ H t = some (.tup [.ref r, .ref fr, .str (dueS x.2.call)]) ∧ H r = some (.tup (x.1.map fun (k : Nat) => V.int k)) ∧ H fr = some (.tup xs) ∧ ImAll H (x.2.st.reverse.map spD) xs := by
  obtain ⟨t, ys, rfl, h1, h2⟩ := im_tup.mp h
  obtain ⟨a, b, c, rfl, e1, e2, e3⟩ := imAll_three' h2
  obtain ⟨r, rs, rfl, h3, h4⟩ := im_tup.mp e1
  obtain ⟨fr, xs, rfl, h5, h6⟩ := im_tup.mp e2
  rw [im_str.mp e3] at h1
  rw [im_run h4] at h3
  exact ⟨t, r, fr, xs, rfl, h1, h3, h5, h6⟩
theorem imAll_run {H : Hp} : ∀ ks : List Nat, ImAll H (ks.map fun (k : Nat) => PyData.int k) (ks.map fun (k : Nat) => V.int k)
  | [] => imAll_nil.mpr rfl
  | k :: r => imAll_cons.mpr ⟨_, _, rfl, im_int.mpr rfl, imAll_run r⟩
theorem im_runD {H : Hp} {r : Addr} {ks : List Nat} (h : H r = some (.tup (ks.map fun (k : Nat) => V.int k))) : Im H (runD ks) (.ref r) := im_tup.mpr ⟨r, _, rfl, h, imAll_run ks⟩

theorem made_same {H : Hp} {x dx C : Addr} (nx : H x = none) (ndx : H dx = none) : Same H (upd (upd H dx (.own x)) x (.ins C dx [])) := fun b o e => by
  rw [upd_ne (ne_of_none e nx), upd_ne (ne_of_none e ndx)]; exact e
theorem made_more {H H3 H4 : Hp} {x : Addr} (s : Same H H3) (nx : H x = none) (c : Chg [x] H3 H4) : Same H H4 := fun b o e => c _ _ (s b o e) fun z => by rw [List.mem_singleton.mp z, nx] at e; cases e
theorem TabAt.more {p : Prog} {H H' : Hp} {tb : Addr} (ht : TabAt H tb p) (s : Same H H') : TabAt H' tb p := by
  obtain ⟨kvs, z, _⟩ := id ht
  exact ht.keep (Same.tup s) ((s _ _ z).trans z.symm)
theorem kids_drop {p : Prog} {r : List Nat} {c : Conf} {w i : Nat} (h : i < w) : (kids p r c w).drop (w - (i + 1)) = (r ++ [w - 1 - i], step p c (w - 1 - i)) :: (kids p r c w).drop (w - i) := by
  have e : w - i = (w - (i + 1)) + 1 := by omega
  have hl : w - (i + 1) < (kids p r c w).length := by unfold kids; rw [List.length_map, List.length_range]; omega
  rw [e, List.drop_eq_getElem_cons hl]
  have e2 : w - 1 - i = w - (i + 1) := by omega
  have e3 : (kids p r c w)[w - (i + 1)]? = some (r ++ [w - (i + 1)], step p c (w - (i + 1))) := by
    unfold kids
    rw [List.getElem?_map, List.getElem?_range (by omega)]; rfl
  obtain ⟨_, e4⟩ := List.getElem?_eq_some_iff.mp e3
  rw [e4, e2]

theorem cat_run {K : PySem.W.Frag} {H : Hp} {r b : Addr} {ks : List Nat} {c : Nat} {Q : VK} (hr : H r = some (.tup (ks.map fun (k : Nat) => V.int k))) (hb : H b = some (.tup [.int c])) (hz : ks.length + 1 ≤ sizeLine)
    (k : ∀ q H', Same H H' → H' q = some (.tup ((ks ++ [c]).map fun (k : Nat) => V.int k)) → Q (.ref q) H') : rCatA K (.ref r) (.ref b) H Q := by
  refine ⟨r, b, _, _, rfl, rfl, .of hr, .of hb, by rw [List.length_map]; exact hz, fun e => ?_, fun _ e => (nomatch e), fun _ _ q hq => ?_⟩
  · have e2 : ks = [] := List.map_eq_nil_iff.mp e
    subst e2
    exact k b H (fun _ _ e => e) hb
  · exact k q _ (same_upd hq) (by rw [upd_same, List.map_append]; rfl)
theorem idx_more {n0 : Nat} {l : Wait} (hl : Idx l) : ∀ ks : Wait, (∀ y ∈ ks, y.1.length = n0 + 1) → ks.length + l.length ≤ 16 * (n0 + 1) → Idx (ks ++ l)
  | [], _, _ => hl
  | y :: r, h, hz => by
    rw [List.length_cons] at hz
    refine ⟨?_, idx_more hl r (fun z hz => h z (List.mem_cons_of_mem _ hz)) (by omega)⟩
    rw [h y List.mem_cons_self]
    show (List.append r l).length ≤ _
    rw [show (List.append r l).length = r.length + l.length from List.length_append]
    omega
theorem mem_kids {p : Prog} {r : List Nat} {c : Conf} {w : Nat} {y : List Nat × Conf} (h : y ∈ kids p r c w) : ∃ k, k < w ∧ y = (r ++ [k], step p c k) := by
  unfold kids at h
  obtain ⟨k, hk, rfl⟩ := List.mem_map.mp h
  exact ⟨k, List.mem_range.mp hk, rfl⟩
theorem kids_len (p : Prog) (r : List Nat) (c : Conf) (w : Nat) : (kids p r c w).length = w := by unfold kids; rw [List.length_map, List.length_range]

def spRunsOf (p : Prog) : SpY := fun vs H Q => ∃ v, ∃ n : Nat, vs = [v, .int n] ∧ Im H (progD p) v ∧ WF p ∧ n ≤ 20 ∧ (runs p n (c0 p)).length ≤ 1000 ∧
  ∀ ys H', Same H H' → ImAll H' ((runs p n (c0 p)).map runD) ys → Q ys H'
theorem scRO : GScope ["program", "count", "table", "pending", "run", "frames", "due", "width", "choice", "after"] ["program", "count"] (defScope sRunsOf) := ⟨rfl, rfl, rfl, by decide +kernel, rfl, by decide +kernel, by decide +kernel⟩
theorem ok_runsOf {p : Prog} {f gt gi gw gh : Addr} (F : At K "runs_of" "runs_of" sRunsOf f) (T : Tx K mg) (TO : Ok P w K mg base 1 gt ["program"] (spTableOf p)) (mgT : mg "table_of" = some (.ref gt))
    (I : OkI P w K mg base gi (spPInit (cP K) p)) (M : Mk K (cP K) gi) (mgP : mg "Position" = some (.ref (cP K))) (Wd : Ok P w K mg base 2 gw ["self"] (spWidth (cP K) p)) (mW : Meth K (cP K) "width" gw)
    (CH : Ok P w K mg base 4 gh ["self", "choice"] (spChoose (cP K) p)) (mH : Meth K (cP K) "choose" gh) : OkY P w K mg base 5 f ["program", "count"] (spRunsOf p) := by
  obtain ⟨fdI, G, hb0, _⟩ := I
  obtain ⟨fd, F⟩ := F
  have bnd : Binds K fd ["program", "count"] [] := F.bindsN (fun _ _ _ _ _ _ us hl => match us, hl with | [_, _], _ => rfl)
  have kp := F.kp
  obtain ⟨oc, od, dV, kV, doc, pm, an, cdv, ct, osl, rfl, lk, hcd, _, _⟩ := F.ex
  refine ⟨_, gfnY_of lk hcd scRO (fun vs H Q h => ?_) (fun A outer s H vs Q pn hr h => ?_), bnd, kp⟩
  · obtain ⟨v, n, rfl, _⟩ := h; rfl
  · obtain ⟨v, n, rfl, hv, Wp, hn, hlen, k⟩ := h
    obtain ⟨pa, px, pr, pt, pls, rfl, h1, rfl, h2⟩ := im_prog0 hv Wp.ne
    have hr1 : Room 1 _ := hr.mono (by decide)
    have hr2 : Room 2 _ := hr.mono (by decide)
    refine ⟨_, yss_cons (ys_ps (ps_set (i := 2) scRO.nd rfl (Or.inl rfl) (pe_callO TO hr1 (by rfl) mgT (pa_cons (pv 0) pa_nil))))
      (yss_cons (ys_ps (ps_set (i := 3) scRO.nd rfl (Or.inl rfl) (pe_lst (pa_cons (pe_tup (pa_cons (pe_tup pa_nil) (pa_cons (pe_tup (pa_cons (pe_tup (pa_cons (pe_ix ix_tup (pe_ix ix_tup (pv 0) pe_int (fun _ _ => rfl)) pe_int (fun _ _ => rfl)) (pa_cons pe_int pa_nil))) pa_nil)) (pa_cons pe_str pa_nil)))) pa_nil))))
      (yss_cons (ys_while (pt_truth (pv 3) (by intro _; rfl))
        (yss_cons (ys_ps (ps_asg (pe_bm0 PySem.F.plainAttrs_list PySem.F.slot_list_pop PySem.F.type_list_pop mt_pop (pv 3)) (pg_tup (by rfl) (pgs_cons (pg_name (i := 4) scRO.nd rfl (Or.inl rfl)) (pgs_cons (pg_name (i := 5) scRO.nd rfl (Or.inl rfl)) (pgs_cons (pg_name (i := 6) scRO.nd rfl (Or.inl rfl)) pgs_nil))))))
        (yss_cons (ys_if (pt_cmpR op_eq (pe_callB call_len_seq (by rfl) T.len PySem.boot_len (pa_cons (pv 4) pa_nil)) (pv 1) (nomark _))
          (yss_cons (ys_yield (pv 4)) yss_nil)
          (yss_pss (pss_cons (ps_set (i := 7) scRO.nd rfl (Or.inl rfl) (pe_methO0 Wd hr2 (pe_make M G hr2 (by rfl) mgP hb0 .nil pass0 (pa_cons (pv 2) (pa_cons (pv 5) (pa_cons (pv 6) pa_nil)))) T.clP mW))
            (pss_one (ps_for PassesOwn.never rfl (pi_revR (by rfl) T.rev (prg_1 (by rfl) T.range (pv 7))) (pg_name (i := 8) scRO.nd rfl (Or.inl rfl))
              (pss_cons (ps_set (i := 9) scRO.nd rfl (Or.inl rfl) (pe_make M G hr2 (by rfl) mgP hb0 .nil pass0 (pa_cons (pv 2) (pa_cons (pv 5) (pa_cons (pv 6) pa_nil)))))
              (pss_cons (ps_expr (pe_methO CH hr (pv 9) T.clP mH (pa_cons (pv 8) pa_nil)))
              (pss_one (ps_expr (pe_bm PySem.F.plainAttrs_list PySem.F.slot_list_append PySem.F.type_list_append mt_append (pv 3)
                (pa_cons (pe_tup (pa_cons (pe_op op_catA (pv 4) (pe_tup (pa_cons (pv 8) pa_nil))) (pa_cons (pe_callTy call_tuple_of (by rfl) T.tuple (by decide +kernel) (pa_cons (pe_fld (pv 9) rfl) pa_nil)) (pa_cons (pe_fld (pv 9) rfl) pa_nil)))) pa_nil)))))))))))
        yss_nil)))
      yss_nil)), ?_⟩
    refine ⟨_, rfl, _, rfl, hv, Wp, fun tb H1 s1 n1 ht => ?_⟩
    refine ⟨Nat.zero_le _, fun e0 he0 => ?_⟩
    refine ⟨_, rfl, pa, _, 0, _, rfl, rfl, .of ((s1.trans (same_upd he0)) _ _ h1), atI_nat (j := 0) rfl, pt, _, 0, _, rfl, rfl, .of ((s1.trans (same_upd he0)) _ _ h2), atI_nat (j := 0) rfl, (by show 2 ≤ sizeLine; decide), fun u hu => ?_⟩
    refine ⟨(by show 1 ≤ sizeLine; decide), fun fr hfr => ?_⟩
    refine ⟨(by show 3 ≤ sizeLine; decide), fun t0 ht0 => ?_⟩
    refine ⟨(by show 1 ≤ sizeLine; decide), fun pd hpd => ?_⟩
    have sA : Same H1 (upd H1 e0 (.tup [])) := same_upd he0
    have sB : Same _ (upd (upd H1 e0 (.tup [])) u (.tup [.str (nm0 p), .int 0])) := same_upd hu
    have sC : Same _ (upd (upd (upd H1 e0 (.tup [])) u (.tup [.str (nm0 p), .int 0])) fr (.tup [.ref u])) := same_upd hfr
    have sD : Same _ (upd (upd (upd (upd H1 e0 (.tup [])) u (.tup [.str (nm0 p), .int 0])) fr (.tup [.ref u])) t0 (.tup [.ref e0, .ref fr, .str "call"])) := same_upd ht0
    have sE : Same _ (upd (upd (upd (upd (upd H1 e0 (.tup [])) u (.tup [.str (nm0 p), .int 0])) fr (.tup [.ref u])) t0 (.tup [.ref e0, .ref fr, .str "call"])) pd (.lst [.ref t0])) := same_upd hpd
    have h0 : H pd = none := (s1.trans (sA.trans (sB.trans (sC.trans sD)))).free hpd
    refine ⟨fun m ys σ H' => ∃ l v4 v5 v6 v7 v8 v9 rs, σ = [some (.ref pa), some (.int n), some (.ref tb), some (.ref pd), v4, v5, v6, v7, v8, v9] ∧ Lay p H H' tb pd l ∧ Idx l ∧ (∀ x ∈ l, ItmOk p n x) ∧ ImAll H' (rs.map runD) ys ∧ rs ++ outW p n l = runs p n (c0 p) ∧ m = sizeW p n l,
      ⟨_, [([], c0 p)], none, none, none, none, none, none, [], rfl, ⟨s1.trans (sA.trans (sB.trans (sC.trans (sD.trans sE)))), h0, ⟨_, upd_same, ?_⟩, ?_⟩, ⟨Nat.zero_le _, trivial⟩, fun x hx => ?_, imAll_nil.mpr rfl, ?_, rfl⟩, ?_⟩
    · refine imAll_one (im_tup.mpr ⟨t0, _, rfl, sE _ _ upd_same, imAll_three (im_tup.mpr ⟨e0, _, rfl, (sB.trans (sC.trans (sD.trans sE))) _ _ upd_same, imAll_nil.mpr rfl⟩) (im_tup.mpr ⟨fr, _, rfl, (sD.trans sE) _ _ upd_same, ?_⟩) (im_str.mpr rfl)⟩)
      exact imAll_one (im_tup.mpr ⟨u, _, rfl, (sC.trans (sD.trans sE)) _ _ upd_same, imAll_two (im_str.mpr rfl) (im_int.mpr rfl)⟩)
    · obtain ⟨kvs, z, _⟩ := id ht
      have sAll := sA.trans (sB.trans (sC.trans (sD.trans sE)))
      exact ht.keep (Same.tup sAll) ((sAll _ _ z).trans z.symm)
    · rw [List.mem_singleton.mp hx]
      exact ⟨Nat.zero_le _, c0_spots Wp, Nat.le_refl _⟩
    · show [] ++ ((runs p (n - 0) (c0 p)).map ([] ++ ·) ++ []) = _
      rw [List.append_nil, List.nil_append, Nat.sub_zero]
      exact (List.map_congr_left fun x _ => List.nil_append x).trans (List.map_id _)
    rintro m ys σ H' ⟨l, v4, v5, v6, v7, v8, v9, rs, rfl, L, ix, ok, hys, hout, rfl⟩
    obtain ⟨vs, hl1, hl2⟩ := L.lst
    refine ⟨_, rfl, _, .inl ⟨vs, .of hl1, rfl⟩, ?_⟩
    cases l with
    | nil =>
      rw [imAll_nil.mp (show ImAll H' [] vs from hl2)]
      refine (if_neg Bool.false_ne_true).mpr ?_
      rw [show outW p n [] = [] from rfl, List.append_nil] at hout
      rw [hout] at hys
      exact k ys H' L.same hys
    | cons x l =>
      rw [List.reverse_cons, List.map_append] at hl2
      obtain ⟨vs0, v, rfl, hb, hx⟩ := ImAll.snoc' (d := itemD x) hl2
      rw [show (!(vs0 ++ [v]).isEmpty) = true by cases vs0 <;> rfl]
      refine (if_pos rfl).mpr ?_
      refine ⟨_, fun _ _ _ h => h, ?_⟩
      obtain ⟨t, r, fr', xs, rfl, i1, i2, i3, i4⟩ := im_item hx
      refine ⟨_, rfl, .inl ⟨rfl, _, .of hl1⟩, pd, _, .ref t, rfl, rfl, hl1, ?_, ?_⟩
      · simp
      rw [List.dropLast_concat]
      have L2 := L.put (l' := l) hb
      have kt : TupK H' (upd H' pd (.lst vs0)) := tup_upd fun xs e => by rw [hl1] at e; cases e
      generalize hH2 : upd H' pd (.lst vs0) = H2 at L2 kt
      have hok := ok x List.mem_cons_self
      refine ⟨t, _, rfl, .of (kt _ _ i1), rfl, _, _, rfl, _, _, rfl, _, _, rfl, rfl, ?_⟩
      refine ⟨_, rfl, r, _, rfl, .inr (.of (kt _ _ i2)), _, rfl, rfl, _, rfl, ?_⟩
      by_cases he : x.1.length = n
      · rw [show decide (V.int ((x.1.map fun (k : Nat) => V.int k).length : Nat) = V.int (n : Nat)) = true from decide_eq_true (by rw [List.length_map, he])]
        refine (if_pos rfl).mpr ⟨?_, _, rfl, ?_⟩
        · have h5 := congrArg List.length hout
          rw [List.length_append] at h5
          have h6 := hys.length
          rw [List.length_map] at h6
          exact Nat.lt_of_le_of_lt (show ys.length ≤ 1000 by omega) (by decide)
        refine ⟨sizeW p n l, sizeW_leaf p, l, _, _, _, _, _, _, rs ++ [x.1], rfl, L2, ix.2, fun y hy => ok y (List.mem_cons_of_mem _ hy), ?_, ?_, rfl⟩
        · rw [List.map_append]
          exact (hys.keep kt).append (imAll_one (im_runD (kt _ _ i2)))
        · rw [← hout, show x :: l = (x.1, x.2) :: l from rfl, outW_leaf p he, List.append_assoc]; rfl
      · rw [show decide (V.int ((x.1.map fun (k : Nat) => V.int k).length : Nat) = V.int (n : Nat)) = false from decide_eq_false (by rw [List.length_map]; intro z; exact he (Int.ofNat.inj (V.int.inj z)))]
        refine (if_neg Bool.false_ne_true).mpr ?_
        have hlt : x.1.length < n := Nat.lt_of_le_of_ne hok.le he
        refine ⟨_, rfl, _, rfl, _, rfl, ?_⟩
        intro xx dxx nxx ndx nex
        have hs3 : Same H2 (upd (upd H2 dxx (.own xx)) xx (.ins (cP K) dxx [])) := made_same nxx ndx
        refine ⟨xx, dxx, tb, fr', x.2.call, x.2.st, xs, rfl, upd_same, L2.tab.more hs3, hs3 _ _ (kt _ _ i3), (i4.keep kt).keep (Same.tup hs3), hok.spots, fun H4 sk1 c4 nsk1 hp1 => ⟨rfl, ?_⟩⟩
        have s4 : Same H2 H4 := made_more hs3 nxx c4
        obtain ⟨dx1, e1, j1⟩ := hp1.ins
        refine ⟨xx, dx1, _, rfl, j1, rfl, xx, sk1, tb, _, _, rfl, hp1, ?_⟩
        rw [width_st]
        have hw16 : width p x.2 ≤ 16 := widths Wp x.2
        generalize hwd : width p x.2 = wd at hw16
        refine ⟨_, rfl, _, rfl, by decide, by decide, by omega, by omega, ?_⟩
        rw [show ((wd : Int) - 0).toNat = wd by omega]
        have hll : l.length ≤ 16 * x.1.length := ix.1
        refine for_rangeC (fun i σ H'' => ∃ v8 v9, σ = [some (.ref pa), some (.int n), some (.ref tb), some (.ref pd), some (.ref r), some (.ref fr'), some (.str (dueS x.2.call)), some (.int wd), v8, v9] ∧ Lay p H H'' tb pd ((kids p x.1 x.2 wd).drop (wd - i) ++ l) ∧ TupK H2 H'')
          ⟨_, _, rfl, ?_, Same.tup s4⟩ ?_ ?_
        · rw [Nat.sub_zero, List.drop_eq_nil_of_le (by rw [kids_len]; exact Nat.le_refl _)]
          exact L2.more s4
        · rintro i σ H'' hi ⟨v8, v9, rfl, L3, k3⟩
          rw [show V.int (0 + (wd : Int) - 1 + (i : Nat) * -1) = V.int ((wd - 1 - i : Nat) : Int) by congr 1; omega]
          have hcw : wd - 1 - i < width p x.2 := by omega
          generalize hc' : wd - 1 - i = c' at hcw
          obtain ⟨q, r', hconf⟩ := run_of_width hcw
          have hst : x.2.st = q :: r' := by rw [hconf]; rfl
          refine ⟨_, rfl, _, rfl, _, rfl, ?_⟩
          intro xx dxx nxx ndx nex
          have hs3 : Same H'' (upd (upd H'' dxx (.own xx)) xx (.ins (cP K) dxx [])) := made_same nxx ndx
          refine ⟨xx, dxx, tb, fr', x.2.call, x.2.st, xs, rfl, upd_same, L3.tab.more hs3, hs3 _ _ (k3 _ _ (kt _ _ i3)), ((i4.keep kt).keep k3).keep (Same.tup hs3), hok.spots, fun H5 sk2 c5 nsk2 hp2 => ⟨rfl, ?_⟩⟩
          have s5 : Same H'' H5 := made_more hs3 nxx c5
          have na2 : H'' xx = none := nxx
          have ns2 : H'' sk2 = none := hs3.free nsk2
          obtain ⟨dx2, e2, j2⟩ := hp2.ins
          have hp2' := hp2
          rw [hst] at hp2'
          have hlr : r'.length < 1000 := by
            have h1 := hok.deep
            rw [hst, List.length_cons] at h1
            omega
          refine ⟨_, rfl, xx, dx2, _, rfl, j2, rfl, _, rfl, xx, sk2, tb, q, r', _, c', rfl, hp2', (by rw [← hconf]; exact hcw), hlr, fun b H6 hm _ => ?_⟩
          rw [← hconf] at hm
          have s6 : Same H'' H6 := fun b o e => hm.1 b o (s5 _ _ e) fun z => by
            rcases List.mem_cons.mp z with z | z
            · rw [z, na2] at e; cases e
            · rw [List.mem_singleton.mp z, ns2] at e; cases e
          have L6 := L3.more s6
          have k6 : TupK H2 H6 := k3.trans (Same.tup s6)
          obtain ⟨vs6, hv6, hI6⟩ := L6.lst
          obtain ⟨dx6, e6, j6⟩ := hm.2.ins
          obtain ⟨xs6, g6, f6⟩ := hm.2.stk
          refine ⟨_, rfl, .inl ⟨rfl, _, .of hv6⟩, _, rfl, _, rfl, (by show 1 ≤ sizeLine; decide), fun b1 hb1 => ?_⟩
          have s7 : Same H6 (upd H6 b1 (.tup [.int c'])) := same_upd hb1
          refine cat_run (s7 _ _ (k6 _ _ (kt _ _ i2))) upd_same (Nat.le_trans (show x.1.length + 1 ≤ 100 by omega) (by decide)) fun q8 H8 s8 hq8 => ?_
          have s8' := s7.trans s8
          refine ⟨_, rfl, xx, cP K, dx6, _, _, rfl, s8' _ _ j6, T.clP, T.nS, rfl, sk2, xs6, rfl, .inl ⟨.of (s8' _ _ g6), fun t7 ht7 => ?_⟩⟩
          have s9 := s8'.trans (same_upd (o := .tup xs6) ht7)
          refine ⟨_, rfl, xx, cP K, dx6, _, _, rfl, s9 _ _ j6, T.clP, T.nD, rfl, (by show 3 ≤ sizeLine; decide), fun t9 ht9 => ?_⟩
          have s10 := s9.trans (same_upd (o := .tup [.ref q8, .ref t7, .str (dueS (step p x.2 c').call)]) ht9)
          refine ⟨pd, vs6, .ref t9, rfl, rfl, s10 _ _ hv6, ?_, ?_⟩
          · have h5 := hI6.length
            rw [List.length_map, List.length_reverse, List.length_append, List.length_drop, kids_len] at h5
            exact Nat.lt_of_le_of_lt (show vs6.length ≤ 500 by omega) (by decide)
          · refine ⟨_, _, rfl, (L6.more s10).put ?_, k6.trans ((Same.tup s10).trans (tup_upd fun xs z => by rw [s10 _ _ hv6] at z; cases z))⟩
            rw [kids_drop hi, hc', List.cons_append, List.reverse_cons, List.map_append]
            refine (hI6.keep (Same.tup s10)).append (imAll_one (im_tup.mpr ⟨t9, _, rfl, upd_same, imAll_three ?_ ?_ (im_str.mpr rfl)⟩))
            · exact im_runD ((same_upd ht7).trans (same_upd ht9) _ _ hq8)
            · exact im_tup.mpr ⟨t7, _, rfl, (same_upd ht9) _ _ upd_same, f6.keep (Same.tup s10)⟩
        · rintro σ H'' ⟨v8, v9, rfl, L3, k3⟩
          rw [Nat.sub_self, List.drop_zero] at L3
          subst hwd
          refine ⟨_, sizeW_node (c := x.2) (l := l) p hlt, _, _, _, _, _, _, _, rs, rfl, L3, ?_, fun y hy => ?_, (hys.keep kt).keep k3, ?_, rfl⟩
          · refine idx_more (n0 := x.1.length) ix.2 _ (fun y hy => ?_) (by rw [kids_len]; omega)
            obtain ⟨j, _, rfl⟩ := mem_kids hy
            rw [List.length_append, List.length_singleton]
          · rcases List.mem_append.mp hy with hy | hy
            · obtain ⟨j, _, rfl⟩ := mem_kids hy
              have h7 := step_len p x.2 j
              have h8 := hok.deep
              refine ⟨?_, step_spots Wp _ _ hok.spots, ?_⟩
              · show (x.1 ++ [j]).length ≤ n
                rw [List.length_append, List.length_singleton]; omega
              · show (step p x.2 j).st.length ≤ (x.1 ++ [j]).length + 1
                rw [List.length_append, List.length_singleton]; omega
            · exact ok y (List.mem_cons_of_mem _ hy)
          · rw [← hout, show x :: l = (x.1, x.2) :: l from rfl, outW_node p hlt]
end
end K28

set_option Elab.async false
set_option linter.all false
set_option maxRecDepth 100000
set_option maxHeartbeats 4000000
/-! dicts with tuple keys: frozen, walked, displayed. -/
namespace K28
open PySem PySem.Spec PyProof.Rows L2
section
variable {X : Cx}
/-- the new thing is known to the object from now on -/
def tFrz (t : TE) : TE := fun σ H Q => t σ H fun v H1 => ∃ a u, v = .ref a ∧ H1 a = some u ∧ Mut (some u) ∧ ∀ od, Q v (upd H1 a (.frz od u))
theorem pe_frz {e : Expr} {t : TE} (h : PE X e t) : PE X e (tFrz t) := by
  refine ⟨fun pins s σ H Q I hw => ?_⟩
  refine thn (h.run pins s σ H _ I hw) fun v s1 ⟨x, H1, I1, r, a, u, ex, ha, mu, q⟩ => ?_
  obtain ⟨od, I2⟩ := I1.lock ha mu
  exact ⟨x, _, I2, r, q od⟩

/-! ### the walk over the pairs of a frozen dict -/
def ItIT (d : Addr) (o : Obj) (kvs : List (List Key × V)) : It :=
  ⟨fun i H => H d = some (.frz o (.dT kvs)) ∧ i < kvs.length, fun i H x H' => ∃ T k v q, kvs[i]? = some (k, v) ∧ x = .ref T ∧ H T = none ∧ H q = some (.tup (k.map kV)) ∧ H' = upd H T (.tup [.ref q, v]), fun i H => H d = some (.frz o (.dT kvs)) ∧ kvs.length ≤ i⟩
theorem frzTv {pins : List (Addr × Obj)} {σ : L2.St} {H : Hp} {s : Shared} {d : Addr} {o : Obj} {kvs : List (List Key × V)} (I : Inv X pins σ H s) (h : H d = some (.frz o (.dT kvs))) :
    (d == sysModules) = false ∧ s.heap.get? d = some o ∧ o.ExactDict ∧ kvs.length ≤ sizeLine ∧ ∃ (es : Array DictEntry) (ep : Nat), o.data = .dict es ep ∧ es.size = kvs.length ∧
      ∀ (i : Nat) (k : List Key) (v : V), kvs[i]? = some (k, v) → ∃ (en : DictEntry) (q : Addr), es[i]? = some en ∧ en.key = .ref q ∧ H q = some (.tup (k.map kV)) ∧ RelV v en.val := by
  obtain ⟨hd, z, hs, xs, pr, o', es, ep, ho, hx, hdt, he, _⟩ := I.hok d _ h
  rw [hd] at ho
  cases ho
  refine ⟨hs, hd, hx, z, es, ep, hdt, ?_, fun i k v e => ?_⟩
  · have l1 : es.size = xs.length := size_of_entries he
    have l2 : kvs.length = xs.length := Paired.length pr
    omega
  · obtain ⟨b, hb, e1, e2, e3⟩ := paired_get pr e
    have q := entry_at he i
    rw [hb] at q
    exact ⟨_, b.2.1, q, rfl, e2, e3⟩
section
variable {P : Program} {w : World} {K : PySem.W.Frag} {tg : Expr} {d : Addr} {o : Obj} {es : Array DictEntry} {ep : Nat}
theorem turn_itemsT {kvs : List (List Key × V)} {elts : List Expr} {kk : Nat} {tpos : Pos} (it : Addr) (hod : o.data = .dict es ep) :
    Turn P w K (.Tuple elts kk tpos) (ItIT d o kvs) [it] it (fun i h => ∃ ok ov, IsItemIter h it d i es.size ep ok ov) where
  mem := by simp
  obj := fun i h st b hb => by
    have e : b = it := by simpa using hb
    subst e
    obtain ⟨ok, ov, e⟩ := st
    exact ⟨_, e, fun v z => nomatch z⟩
  keep := fun i h h' st k => let ⟨ok, ov, e⟩ := st; ⟨ok, ov, k it (by simp) _ e⟩
  item := by
    intro X hP hw hK hc i pins s σ H E I hf st hg
    subst hP hw hK
    obtain ⟨hd, hi⟩ := hg
    obtain ⟨hs, hgd, hx, _, es', ep', hdt, hsz, ent⟩ := frzTv I hd
    obtain ⟨rfl, rfl⟩ := dict_ep hod hdt
    obtain ⟨⟨k, v⟩, hkv⟩ : ∃ p, kvs[i]? = some p := ⟨kvs[i], List.getElem?_eq_getElem hi⟩
    obtain ⟨en, q, hen, hkey, hq, rv⟩ := ent i k v hkv
    obtain ⟨ok, ov, he⟩ := st
    have hie : i < es'.size := by omega
    have een : es'[i] = en := by
      rw [Array.getElem?_eq_getElem hie] at hen
      exact Option.some.inj hen
    have hlt : it < s.heap.objs.size := Heap.lt_size he
    refine DT.nextI he ⟨o, hgd, hx, hdt⟩ hie fun h' ho hT hz hk => ?_
    refine ⟨_, rfl, wpAny_letOwnedTupleGo_items (s := { s with heap := h' }) ho fun h'' he' sb => ?_⟩
    rw [een, hkey] at hT
    have hT2 : h''.get? s.heap.objs.size = some { cls := .type "tuple", data := .seq #[.ref q, en.val] } := (sb.2 _ (Nat.ne_of_gt hlt)).trans hT
    have new : ObjOk X.prog X.w (upd H s.heap.objs.size (.tup [.ref q, v])) h'' s.heap.objs.size (.tup [.ref q, v]) :=
      ⟨by show 2 ≤ sizeLine; decide, [.ref q, en.val], .cons rfl (.cons rv .nil), ⟨_, hT2, rfl, _, rfl⟩⟩
    have I1 : Inv X pins σ (upd H s.heap.objs.size (.tup [.ref q, v])) { s with heap := h'' } :=
      I.turnedNew (t' := s.toks) (ch := [it]) (fun b ob hb e => (sb.2 b (by simpa using hb)).trans (hk b ob (by simpa using hb) e)) hf (Nat.le_refl _) new
    refine ⟨.ref s.heap.objs.size, _, I1, rfl, ⟨_, k, v, q, hkv, rfl, I.hok.fresh (Nat.le_refl _), hq, rfl⟩, ⟨_, _, he'⟩, fun b hb => ?_⟩
    have e : b = it := by simpa using hb
    rw [e, upd_ne (Nat.ne_of_lt hlt)]
    exact (hf it (by simp)).1
  done := by
    intro X hP hw hK hc i pins s σ H E I hf st hg
    subst hP hw hK
    obtain ⟨hd, hi⟩ := hg
    obtain ⟨f0, f1, f2, f3, f4, f5⟩ := hf it (by simp)
    obtain ⟨hs, hgd, hx, _, es', ep', hdt, hsz, ent⟩ := frzTv I hd
    obtain ⟨rfl, rfl⟩ := dict_ep hod hdt
    obtain ⟨ok, ov, he⟩ := st
    exact DT.endI (I.ok.hd hc) he ⟨o, hgd, hx, hdt⟩ (by omega) fun h' eb => ⟨rfl, I.turned (t' := s.toks) (fun b ob hb e => eb b ob hb e) f0 f1 f3 f4 f5⟩
  self := fun A i s Q E st h => let ⟨_, _, e⟩ := st; PySem.W.kcp_self e h
end
def iItemsT (td : TE) : TI := fun σ H R => td σ H fun x H1 => ∃ d o kvs, x = .ref d ∧ H1 d = some (.frz o (.dT kvs)) ∧ R (ItIT d o kvs) H1
theorem pi_itemsT {e : Expr} {td : TE} {apos cpos : Pos} {elts : List Expr} {kk : Nat} {tpos : Pos} (he : PE X e td) (hbase : attributeBase e "items" X.env (eval e X.env) = eval e X.env := by rfl) (hline : (apos.endLine == cpos.line) = true := by rfl) :
    PI X (.Tuple elts kk tpos) (.Call (.Attribute e "items" apos) [] [] cpos) (iItemsT td) := by
  refine ⟨fun pins s σ H R I h => ?_⟩
  refine wpAny_Call_method (T := "dict") (id := "dict.items") hbase rfl hline PySem.F.plainAttrs_dict PySem.F.slot_dict_items PySem.F.type_dict_items (thn (he.run pins s σ H _ I h) fun u s1 ⟨x, H1, I1, rx, d, o, kvs, ex, hd, q⟩ => ?_)
  subst ex
  obtain rfl : u = Value.ref d := rx
  obtain ⟨hs, hgd, hx, _, es, ep, hdt, hsz, ent⟩ := frzTv I1 hd
  have raw : DT.Raw s1.heap d es ep := ⟨o, hgd, hx, hdt⟩
  refine ⟨raw.typeIs, fun b e => by cases e; exact ⟨o, hgd, hx.2.1⟩, ?_⟩
  have I2 : Inv X pins σ H1 { s1 with heap := s1.heap.push { cls := .type "dict_items", data := .fields #[.ref d] } } := I1.kept (t' := s1.toks) fun b ob q => Heap.get?_push_of_some _ q
  have fin : wpAny (model X.prog X.w) X.A (pyIter (.ref s1.heap.objs.size)) (PIE X pins σ (.Tuple elts kk tpos) R) X.xe { s1 with heap := s1.heap.push { cls := .type "dict_items", data := .fields #[.ref d] } } := by
    refine DT.iterI (d := d) ⟨_, Heap.get?_push_size _ rfl, rfl, rfl⟩ (raw.push _) (pi_one (tk := s1.toks) I2 _ (turn_itemsT _ hdt) ⟨.none, .none, ?_⟩ q)
    exact Heap.get?_push_size _ rfl
  show wpAny _ _ (callWith cpos (.builtin "dict.items") [.ref d] [] []) _ X.xe s1
  exact method_meetsIn PySem.F.slot_dict_items PySem.F.entry_dict_items rfl (PySem.evalArgs_none ⟨rfl, raw.typeIs, PySem.F.args_dict_items_1 _, _, DT.meetsItems hs, ⟨raw, fin⟩⟩)
/-- a loop over the pairs -/
theorem for_itemsT {d : Addr} {o : Obj} {kvs : List (List Key × V)} {g : TG} {tb : TS} {D : Ends} {σ : L2.St} {H : Hp} (Pv : Nat → L2.St → Hp → Prop) (h0 : Pv 0 σ H) (hl : ∀ i σ H, i ≤ kvs.length → Pv i σ H → H d = some (.frz o (.dT kvs)))
    (hs : ∀ i k v σ H T q, kvs[i]? = some (k, v) → Pv i σ H → H T = none → H q = some (.tup (k.map kV)) → g (.ref T) σ (upd H T (.tup [.ref q, v])) fun σ2 H2 => tb { D with nx := Pv (i + 1), ct := Pv (i + 1), bk := D.nx } σ2 H2) (hd : ∀ σ H, Pv kvs.length σ H → D.nx σ H) :
    ∃ W : Nat → Nat → L2.St → Hp → Prop, (∃ m, W 0 m σ H) ∧ ∀ i m σ H, W i m σ H →
      ((ItIT d o kvs).stop i H ∧ D.nx σ H) ∨ ((ItIT d o kvs).go i H ∧ ∃ N : L2.St → Hp → Prop, (∀ σ' H', N σ' H' → ∃ m', m' < m ∧ W (i + 1) m' σ' H') ∧ ∀ x H', (ItIT d o kvs).yld i H x H' → g x σ H' fun σ2 H2 => tb { D with nx := N, ct := N, bk := D.nx } σ2 H2) := by
  refine ⟨fun i m σ H => m = kvs.length - i ∧ i ≤ kvs.length ∧ Pv i σ H, ⟨kvs.length, by simp, Nat.zero_le _, h0⟩, ?_⟩
  rintro i m σ H ⟨rfl, hi, p⟩
  have q := hl i σ H hi p
  by_cases hlt : i < kvs.length
  · refine .inr ⟨⟨q, hlt⟩, Pv (i + 1), fun σ' H' p' => ⟨kvs.length - (i + 1), by omega, rfl, hlt, p'⟩, fun x H' y => ?_⟩
    obtain ⟨T, k, v, b, e1, rfl, e3, e4, rfl⟩ := y
    exact hs i k v σ H T b e1 p e3 e4
  · have e : i = kvs.length := by omega
    subst e
    exact .inl ⟨⟨q, Nat.le_refl _⟩, hd σ H p⟩

/-! ### its values as a list -/
def valsO (p d : Addr) : HO := .ext fun h => h.IsValuesView p d
theorem valsO_ok {P : Program} {w : World} {H : Hp} {h : Heap} {p d : Addr} (e : h.get? p = some { cls := .type "dict_values", data := .fields #[.ref d] }) : ObjOk P w H h p (valsO p d) :=
  ⟨⟨_, e, rfl, rfl⟩, ⟨_, e⟩, fun h1 h2 x k => let ⟨o, ho, r⟩ := x; ⟨o, k o ho, r⟩⟩
/-- e.values() -/
def tValsT (td : TE) : TE := fun σ H Q => td σ H fun x H1 => ∃ d o kvs, x = .ref d ∧ H1 d = some (.frz o (.dT kvs)) ∧ ∀ p, H1 p = none → Q (.ref p) (upd H1 p (valsO p d))
theorem pe_valsT {e : Expr} {td : TE} {apos cpos : Pos} (he : PE X e td) (hbase : attributeBase e "values" X.env (eval e X.env) = eval e X.env := by rfl) (hline : (apos.endLine == cpos.line) = true := by rfl) :
    PE X (.Call (.Attribute e "values" apos) [] [] cpos) (tValsT td) := by
  refine ⟨fun pins s σ H R I h => ?_⟩
  refine wpAny_Call_method (T := "dict") (id := "dict.values") hbase rfl hline PySem.F.plainAttrs_dict PySem.F.slot_dict_values PySem.F.type_dict_values (thn (he.run pins s σ H _ I h) fun u s1 ⟨x, H1, I1, rx, d, o, kvs, ex, hd, q⟩ => ?_)
  subst ex
  obtain rfl : u = Value.ref d := rx
  obtain ⟨hs, hgd, hx, _, es, ep, hdt, hsz, ent⟩ := frzTv I1 hd
  have raw : s1.heap.DictRaw d es ep := ⟨o, hgd, hx, hdt⟩
  refine ⟨raw.typeIs, fun b e => by cases e; exact ⟨o, hgd, hx.2.1⟩, ?_⟩
  have I2 : Inv X pins σ (upd H1 s1.heap.objs.size (valsO s1.heap.objs.size d)) { s1 with heap := s1.heap.push { cls := .type "dict_values", data := .fields #[.ref d] } } :=
    I1.laid (t' := s1.toks) (fun b u e => Heap.get?_push_of_some _ e) (Nat.le_refl _) (valsO_ok (Heap.get?_push_size _ rfl))
  show wpAny _ _ (callWith cpos (.builtin "dict.values") [.ref d] [] []) _ X.xe s1
  exact method_meetsIn PySem.F.slot_dict_values PySem.F.entry_dict_values rfl (PySem.evalArgs_none ⟨rfl, raw.typeIs, PySem.F.args_dict_values_1 _, _, meets_dict_values_raw d hs, ⟨⟨es, ep, raw⟩, .ref s1.heap.objs.size, _, I2, rfl, q _ (I1.hok.fresh (Nat.le_refl _))⟩⟩)
theorem call_list_vals (hc : X.calm = true) : CallR X (.type "list") (fun xs H Q => ∃ p d o kvs, xs = [V.ref p] ∧ H p = some (valsO p d) ∧ H d = some (.frz o (.dT kvs)) ∧ ∀ l, H l = none → Q (.ref l) (upd H l (.lst (kvs.map (·.2))))) := by
  intro pins s σ H xs us Q I r h
  obtain ⟨p, d, o, kvs, rfl, hp, hd, q⟩ := h
  obtain ⟨u, rfl, rx⟩ := r.one
  cases rx
  obtain ⟨hs, hgd, hx, hz, es, ep, hdt, hsz, ent⟩ := frzTv I hd
  have hv : s.heap.IsValuesView p d := (show ObjOk X.prog X.w H s.heap p (valsO p d) from I.hok p _ hp).1
  refine PySem.W.kdl_call (PySem.KdlSrc.rawValues (r := p) (d := d) (es := es) (ep := ep)) (I.ok.hd hc) ⟨hv, o, hgd, hx, hdt⟩ (by omega) fun h' tk acc' c' kp e it => ?_
  have hal : acc'.toList.length = kvs.length := by rw [Array.length_toList, it.1]; exact hsz
  have key : ∀ (n : Nat) (a : List Value) (b : List (List Key × V)), a.length = b.length → (∀ (j : Nat) (v : Value), a[j]? = some v → ∃ kv : List Key × V, b[j]? = some kv ∧ RelV kv.2 v) → Vals (b.map (·.2)) a := by
    intro n a
    induction a with
    | nil => intro b hl _; cases b with
      | nil => exact .nil
      | cons _ _ => cases hl
    | cons v a ih =>
      intro b hl hr
      cases b with
      | nil => cases hl
      | cons kv b =>
        obtain ⟨kv', e1, e2⟩ := hr 0 v rfl
        cases e1
        exact .cons e2 (ih b (Nat.succ.inj hl) fun j v e => hr (j + 1) v e)
  have rv : Vals (kvs.map (·.2)) acc'.toList := key 0 _ _ hal fun j v e => by
    obtain ⟨hi, ev⟩ := it.2 j v (by rw [← Array.getElem?_toList]; exact e)
    have hik : j < kvs.length := by omega
    obtain ⟨en, b, e1, _, _, e4⟩ := ent j kvs[j].1 kvs[j].2 (List.getElem?_eq_getElem hik)
    refine ⟨kvs[j], List.getElem?_eq_getElem hik, ?_⟩
    rw [Array.getElem?_eq_getElem hi] at e1
    rw [ev, Option.some.inj e1]
    exact e4
  refine ⟨.ref s.heap.objs.size, _, I.laid (t' := tk) (o := .lst (kvs.map (·.2))) kp (Nat.le_refl _) ?_, rfl, q _ (I.hok.fresh (Nat.le_refl _))⟩
  exact ⟨by rw [List.length_map]; exact hz, acc'.toList, c', rv, by rw [Array.toArray_toList]; exact e⟩
end
end K28

set_option Elab.async false
set_option linter.all false
set_option maxRecDepth 100000
set_option maxHeartbeats 400000
/-! {k: v for .. for ..}, the keys tuples (turned from the kit's list comprehension of two clauses). -/
namespace K28
open PySem PySem.Spec PyProof.Rows L2
theorem d_dictSetT {X : Cx} {pins : List (Addr × Obj)} {σ : L2.St} {H : Hp} {s : Shared} {E : Value → Shared → Prop} {D b : Addr} {kvs : List (List Key × V)} {k : List Key} {v : V} {r : Value} {Q : Unit → Shared → Prop} (hu : X.A.units < cLine) (I : Inv X pins σ H s) (hD : H D = some (.dT kvs)) (hz : kvs.length < sizeLine)
    (hb : H b = some (.tup (k.map kV))) (rv : RelV v r) (h : ∀ s', Inv X pins σ (upd H D (.dT (putK kvs k v))) s' → Q () s') : wpAny (model X.prog X.w) X.A (dictSet D (.ref b) r) Q E s := by
  obtain ⟨z, hd, xs, rel, dd⟩ := dt_of I.hok hD
  have hzx : xs.length ≤ sizeLine := by rw [← Paired.length rel]; exact z
  have hl : (putK kvs k v).length ≤ sizeLine := by have := length_putK kvs k v; omega
  refine wpAny_dictSet_heap (knd := tupleKind (mixKind X.prog X.w)) (hsz := hzx) hu (key_of I.hok hb) dd fun h' dd' hs => h _ ?_
  obtain ⟨q, es, ep, hq, h2, h3, h4, _, h5⟩ := dd'
  refine d_write I (by rw [hD]; exact True.intro) hs ⟨q, hq⟩ ⟨hl, hd, _, (rel.put k hb rv).keeps fun c ys ec => ?_, q, es, ep, hq, h2, h3, h4, h5⟩
  rw [upd_ne (ne_of ec hD (fun z => nomatch z))]
  exact ec
theorem compTurnD2_out (kx vx t0 i0 t1 i1 : Expr) (ifs0 ifs1 : List Expr) (scope : Scope) (pos : Pos) (it acc : Value) (env : Env) :
    compTurn (.DictComp kx vx [⟨t0, i0, ifs0, 0⟩, ⟨t1, i1, ifs1, 0⟩] scope pos) 0 it acc env = (do
      standAt i0.pos
      match ← pyNext it with
      | none => pure (.done .next)
      | some v =>
        letOwnedTupleGo t0 it v
        assign t0 env v
        let mut ok := true
        for c in ifs0 do
          if ok then ok ← isTrue c env (eval c env)
        if ok then
          let x ← eval i1 env
          standAt i1.pos
          let x ← foldedSetIterable i1 env x
          let _ ← runOwn (.compStart (.DictComp kx vx [⟨t0, i0, ifs0, 0⟩, ⟨t1, i1, ifs1, 0⟩] scope pos) 1 (← holding [x] (pyIter x)) acc env) env
        again (.compLoop (.DictComp kx vx [⟨t0, i0, ifs0, 0⟩, ⟨t1, i1, ifs1, 0⟩] scope pos) 0 it acc env)) := by rfl
theorem compTurnD2_in (kx vx t0 i0 t1 i1 : Expr) (ifs0 ifs1 : List Expr) (scope : Scope) (pos : Pos) (it : Value) (D : Addr) (env : Env) :
    compTurn (.DictComp kx vx [⟨t0, i0, ifs0, 0⟩, ⟨t1, i1, ifs1, 0⟩] scope pos) 1 it (.ref D) env = (do
      standAt i1.pos
      match ← pyNext it with
      | none => pure (.done .next)
      | some v =>
        letOwnedTupleGo t1 it v
        assign t1 env v
        let mut ok := true
        for c in ifs1 do
          if ok then ok ← isTrue c env (eval c env)
        if ok then
          (do
            let kv ← eval kx env
            let vv ← holding [kv] (eval vx env)
            standAt { kx.pos with endLine := vx.pos.endLine, endCol := vx.pos.endCol }
            holding [kv, vv] (dictSet D kv vv))
        again (.compLoop (.DictComp kx vx [⟨t0, i0, ifs0, 0⟩, ⟨t1, i1, ifs1, 0⟩] scope pos) 1 it (.ref D) env)) := by rfl

section
variable {prog : Program} {w : World} {A : Around} {R : Result → Shared → Prop} {s : Shared} {kx vx t0 i0 t1 i1 : Expr} {ifs0 ifs1 : List Expr} {scope : Scope} {pos : Pos} {it acc : Value} {env : Env}
/-- the loop of the first clause -/
theorem compLoopD2_out (hs : ∀ x, foldedSetIterable i1 env x = pure x) (I : Nat → Shared → Prop)
    (turn : ∀ n s, I n s → wpAny (model prog w) A (pyNext it) (fun r s₁ => match r with
      | none => R (.ok .next) s₁
      | some v => wpAny (model prog w) A (letOwnedTupleGo t0 it v) (fun _ s₁' => wpAny (model prog w) A (assign t0 env v) (fun _ s₂ =>
          wpAny (model prog w) A (forIn ifs0 true fun c r => if r = true then do let ok ← isTrue c env (eval c env); pure (ForInStep.yield ok) else pure (ForInStep.yield r)) (fun ok s₃ =>
            if ok = true then wpAny (model prog w) A (eval i1 env) (fun x s₄ => wpAny (model prog w) A (pyIter x) (fun it1 s₅ =>
              codeAny (model prog w) A (.compStart (.DictComp kx vx [⟨t0, i0, ifs0, 0⟩, ⟨t1, i1, ifs1, 0⟩] scope pos) 1 it1 acc env) (fun r s' => match r with
                | .ok _ => ∃ m, m < n ∧ I m s'
                | .error _ => False) s₅) (notedBy (model prog w) A env fun e s' => R (.error e) s') s₄) (notedBy (model prog w) A env fun e s' => R (.error e) s') s₃
            else ∃ m, m < n ∧ I m s₃) (notedBy (model prog w) A env fun e s' => R (.error e) s') s₂) (notedBy (model prog w) A env fun e s' => R (.error e) s') s₁') (notedBy (model prog w) A env fun e s' => R (.error e) s') s₁) (notedBy (model prog w) A env fun e s' => R (.error e) s') s)
    (n : Nat) (h : I n s) :
    codeAny (model prog w) A (.compLoop (.DictComp kx vx [⟨t0, i0, ifs0, 0⟩, ⟨t1, i1, ifs1, 0⟩] scope pos) 0 it acc env) R s := by
  refine codeAny_loop rfl I (fun n s hI => ?_) n h
  show wpAny _ A ((compTurn (.DictComp kx vx [⟨t0, i0, ifs0, 0⟩, ⟨t1, i1, ifs1, 0⟩] scope pos) 0 it acc env).onRaise (fun x => do noteFrame x env; theTreesLotGoes x)) _ _ s
  refine wpAny_noted ?_
  rw [compTurnD2_out]
  refine wpAny_bind (wpAny_standAt (wpAny_bind (wpAny_mono (turn n s hI) (fun r s₁ h₁ => ?_) fun _ _ h' => h')))
  cases r with
  | none => exact wpAny_pure h₁
  | some v =>
    refine wpAny_bind (wpAny_mono h₁ (fun _ s₁' h₁' => ?_) fun _ _ h' => h')
    refine wpAny_bind (wpAny_mono h₁' (fun _ s₂ h₂ => wpAny_bind (wpAny_mono h₂ (fun ok s₃ h₃ => ?_) fun _ _ h' => h')) fun _ _ h' => h')
    cases ok with
    | false => exact wpAny_pure ⟨rfl, h₃⟩
    | true =>
      refine wpAny_bind (wpAny_mono h₃ (fun x s₄ h₄ => ?_) fun _ _ h' => h')
      refine wpAny_bind (wpAny_standAt (wpAny_bind (wpAny_of_eq (hs x) (wpAny_bind (wpAny_holding (wpAny_mono h₄ (fun it1 s₅ h₅ => ?_) fun _ _ h' => h'))))))
      refine wpAny_bind (wpAny_runOwn ?_)
      rw [Around.mark_none]
      refine codeAny_mono h₅ fun r s' hr => ?_
      cases r with
      | ok f =>
        first
          | exact wpAny_pure ⟨rfl, hr⟩
          | exact wpAny_bind (wpAny_pure (wpAny_pure ⟨rfl, hr⟩))
      | error e => exact hr.elim
/-- the loop of the second -/
theorem compLoopD2_in {D : Addr} (I : Nat → Shared → Prop)
    (turn : ∀ n s, I n s → wpAny (model prog w) A (pyNext it) (fun r s₁ => match r with
      | none => R (.ok .next) s₁
      | some v => wpAny (model prog w) A (letOwnedTupleGo t1 it v) (fun _ s₁' => wpAny (model prog w) A (assign t1 env v) (fun _ s₂ =>
          wpAny (model prog w) A (forIn ifs1 true fun c r => if r = true then do let ok ← isTrue c env (eval c env); pure (ForInStep.yield ok) else pure (ForInStep.yield r)) (fun ok s₃ =>
            if ok = true then wpAny (model prog w) A (eval kx env) (fun kv s₄ => wpAny (model prog w) A (eval vx env) (fun vv s₅ =>
              wpAny (model prog w) A (dictSet D kv vv) (fun _ s₆ => ∃ m, m < n ∧ I m s₆) (notedBy (model prog w) A env fun e s' => R (.error e) s') s₅) (notedBy (model prog w) A env fun e s' => R (.error e) s') s₄) (notedBy (model prog w) A env fun e s' => R (.error e) s') s₃
            else ∃ m, m < n ∧ I m s₃) (notedBy (model prog w) A env fun e s' => R (.error e) s') s₂) (notedBy (model prog w) A env fun e s' => R (.error e) s') s₁') (notedBy (model prog w) A env fun e s' => R (.error e) s') s₁) (notedBy (model prog w) A env fun e s' => R (.error e) s') s)
    (n : Nat) (h : I n s) :
    codeAny (model prog w) A (.compLoop (.DictComp kx vx [⟨t0, i0, ifs0, 0⟩, ⟨t1, i1, ifs1, 0⟩] scope pos) 1 it (.ref D) env) R s := by
  refine codeAny_loop rfl I (fun n s hI => ?_) n h
  show wpAny _ A ((compTurn (.DictComp kx vx [⟨t0, i0, ifs0, 0⟩, ⟨t1, i1, ifs1, 0⟩] scope pos) 1 it (.ref D) env).onRaise (fun x => do noteFrame x env; theTreesLotGoes x)) _ _ s
  refine wpAny_noted ?_
  rw [compTurnD2_in]
  refine wpAny_bind (wpAny_standAt (wpAny_bind (wpAny_mono (turn n s hI) (fun r s₁ h₁ => ?_) fun _ _ h' => h')))
  cases r with
  | none => exact wpAny_pure h₁
  | some v =>
    refine wpAny_bind (wpAny_mono h₁ (fun _ s₁' h₁' => ?_) fun _ _ h' => h')
    refine wpAny_bind (wpAny_mono h₁' (fun _ s₂ h₂ => wpAny_bind (wpAny_mono h₂ (fun ok s₃ h₃ => ?_) fun _ _ h' => h')) fun _ _ h' => h')
    cases ok with
    | false => exact wpAny_pure ⟨rfl, h₃⟩
    | true =>
      exact wpAny_bind (wpAny_bind (wpAny_mono h₃ (fun kv s₄ h₄ => wpAny_bind (wpAny_holding (wpAny_mono h₄ (fun vv s₅ h₅ => wpAny_bind (wpAny_standAt (wpAny_holding (wpAny_mono h₅ (fun _ s₆ h₆ => wpAny_pure ⟨rfl, h₆⟩) fun _ _ h' => h')))) fun _ _ h' => h'))) fun _ _ h' => h'))
/-- the second clause's start -/
theorem compStartD1_ok (h0 : codeAny (model prog w) A (.compLoop (.DictComp kx vx [⟨t0, i0, ifs0, 0⟩, ⟨t1, i1, ifs1, 0⟩] scope pos) 1 it acc env) R s)
    (h : wpAny (model prog w) A (pyIter it) (fun it' s' => codeAny (model prog w) A (.compLoop (.DictComp kx vx [⟨t0, i0, ifs0, 0⟩, ⟨t1, i1, ifs1, 0⟩] scope pos) 1 it' acc env) R s')
      (notedBy (model prog w) A env fun x s' => R (.error x) s') s) :
    codeAny (model prog w) A (.compStart (.DictComp kx vx [⟨t0, i0, ifs0, 0⟩, ⟨t1, i1, ifs1, 0⟩] scope pos) 1 it acc env) R s := by
  refine codeAny_of_tree ?_
  show wpAny _ _ ((compStart (.DictComp kx vx [⟨t0, i0, ifs0, 0⟩, ⟨t1, i1, ifs1, 0⟩] scope pos) 1 it acc env).onRaise (fun x => do noteFrame x env; standAt theWindowsPlace)) _ _ s
  refine wpAny_notedAt ?_
  unfold compStart
  show wpAny _ _ (ask >>= _) _ _ s
  refine wpAny_bind (wpAny_askSetting (wpAny_ite ?_))
  split
  · first
      | exact wpAny_bind (wpAny_pure (wpAny_pure (And.intro rfl h0)))
      | exact wpAny_pure (And.intro rfl h0)
  · first
      | exact wpAny_bind (wpAny_rule (wpAny_bind (wpAny_standAt (wpAny_bind (wpAny_mono h (fun it' s' h' => wpAny_pure (And.intro rfl h')) fun _ _ x => x)))))
      | (refine wpAny_bind (wpAny_rule ?_); show wpAny _ _ (standAt i1.pos >>= _) _ _ s; exact wpAny_bind (wpAny_standAt (wpAny_bind (wpAny_mono h (fun it' s' h' => wpAny_pure (And.intro rfl h')) fun _ _ x => x))))
end
variable {X : Cx}
/-- {k: v for tg in iter if .. for tg1 in iter1 if ..}, the keys tuples; the second source's own loop stands behind the first clause's store -/
def tDc2 (wi : TI) (g : TG) (tt : TT) (wi1 : TI) (g1 : TG) (tt1 : TT) (tk tv : TE) (vs vs1 : List Nat) : TE := fun σ H Q => wi σ H fun J H1 => ∀ D, H1 D = none → ∃ W : Nat → Nat → Hp → Prop, (∃ m, W 0 m (upd H1 D (.dT []))) ∧ ∀ i m H, W i m H →
  (J.stop i H ∧ Q (.ref D) H) ∨ (J.go i H ∧ ∃ Nx : Hp → Prop, (∀ H', Nx H' → ∃ m', m' < m ∧ W (i + 1) m' H') ∧ ∀ x H', J.yld i H x H' → g x (wipe σ vs) H' fun σ2 H2 => wipe σ2 vs = wipe σ vs ∧ tt σ2 H2 fun b H3 =>
    if b = true then wi1 σ2 H3 fun J1 H4 => ∃ W1 : Nat → Nat → Hp → Prop, (∃ m, W1 0 m H4) ∧ ∀ j k H, W1 j k H →
      (J1.stop j H ∧ Nx H) ∨ (J1.go j H ∧ ∃ Nx1 : Hp → Prop, (∀ H', Nx1 H' → ∃ k', k' < k ∧ W1 (j + 1) k' H') ∧ ∀ x H', J1.yld j H x H' → g1 x (wipe σ2 vs1) H' fun σ3 H5 => wipe σ3 vs1 = wipe σ2 vs1 ∧ tt1 σ3 H5 fun b H6 =>
        if b = true then tk σ3 H6 fun y H7 => tv σ3 H7 fun z H8 => ∃ kvs k b, y = .ref b ∧ H8 b = some (.tup (k.map kV)) ∧ H8 D = some (.dT kvs) ∧ kvs.length < sizeLine ∧ Nx1 (upd H8 D (.dT (putK kvs k z))) else Nx1 H6)
    else Nx H3)
theorem dc2_core {pins : List (Addr × Obj)} {s : Shared} {σ : L2.St} {H : Hp} {Q : VK} {kx vx tg iter tg1 iter1 : Expr} {ifs ifs1 : List Expr} {scope : Scope} {own : List (Str × Nat)} {vs1 : List Nat} {pos pos' : Pos} {wi wi1 : TI} {g g1 : TG} {tt tt1 : TT} {tk tv : TE} {use : Option (Value → Sem Unit)} {Qf : Value → Shared → Prop}
    (hc : X.calm = true) (hN : X.N.Nodup) (I : Inv X pins σ H s) (hi : PI X tg iter wi) (ok : BlkOk X.N X.env.scope scope own) (hv : ∀ i ∈ vs1, i ∈ own.map (·.2))
    (hg : ∀ (s : Shared) (H : Hp) (C : Addr) (cl : List (Str × Addr)) (fp : List Addr), PG (X.blk s H scope (compEnvC scope cl C X.env) fp) tg g) (ht : ∀ (s : Shared) (H : Hp) (C : Addr) (cl : List (Str × Addr)) (fp : List Addr), PTs (X.blk s H scope (compEnvC scope cl C X.env) fp) ifs tt)
    (hk : ∀ (s : Shared) (H : Hp) (C : Addr) (cl : List (Str × Addr)) (fp : List Addr), PE (X.blk s H scope (compEnvC scope cl C X.env) fp) kx tk)
    (he : ∀ (s : Shared) (H : Hp) (C : Addr) (cl : List (Str × Addr)) (fp : List Addr), PE (X.blk s H scope (compEnvC scope cl C X.env) fp) vx tv) (hu : X.A.units < cLine) (hs : ∀ x, foldedSetIterable iter X.env x = pure x)
    (hi1 : ∀ (s : Shared) (H : Hp) (C : Addr) (cl : List (Str × Addr)) (fp : List Addr), PI (X.blk s H scope (compEnvC scope cl C X.env) fp) tg1 iter1 wi1)
    (hg1 : ∀ (s : Shared) (H : Hp) (C : Addr) (cl : List (Str × Addr)) (fp : List Addr), PG (X.blk s H scope (compEnvC scope cl C X.env) fp) tg1 g1)
    (ht1 : ∀ (s : Shared) (H : Hp) (C : Addr) (cl : List (Str × Addr)) (fp : List Addr), PTs (X.blk s H scope (compEnvC scope cl C X.env) fp) ifs1 tt1)
    (hs1 : ∀ env x, foldedSetIterable iter1 env x = pure x)
    (h : tDc2 wi g tt wi1 g1 tt1 tk tv (own.map (·.2)) vs1 σ H Q)
    (hRR : ∀ D C s' m H', Inv X pins σ H' s' → Q (.ref D) H' → s'.heap.Ns C m → FpOk X pins H' C → compPost (model X.prog X.w) X.A X.xe use Qf (.ref D) C (.ok .next) s') :
    wpAny (model X.prog X.w) X.A (comprehension (.DictComp kx vx [⟨tg, iter, ifs, 0⟩, ⟨tg1, iter1, ifs1, 0⟩] scope pos) scope X.env pos' newDict false (eval iter X.env) use) Qf X.xe s := by
  have hfree : ∀ y ∈ scope.names, y.2 = .free → ∃ c, X.env.cells.lookup y.1 = some c := fun y hy e => by
    rcases ok.free y hy e with k | k
    · exact I.ok.has _ (.inl k)
    · exact I.ok.has _ (.inr k)
  refine wpAny_comprehension_free (use := use) rfl hs (closure_ok hfree) ok.kind (fun y hy e => by rw [ok.uniq y hy, e])
    (thn (hi.run pins s σ H _ I h) fun xv s1 hx => thn hx fun itv s2 h2 => ?_)
  obtain ⟨it, fp, tn, J, H2, e, I2, T, st2, f2, q⟩ := h2
  subst e
  refine wpAny_newObj_type (newEnv_comp ?_)
  generalize hD : s2.heap.objs.size = D
  have hDn : H2 D = none := I2.hok.fresh (Nat.le_of_eq hD)
  obtain ⟨W, ⟨m0, w0⟩, turn⟩ := q D hDn
  -- the new list
  generalize hs3 : ({ s2 with heap := s2.heap.push { cls := .type "dict", data := .dict #[] } } : Shared) = s3
  have I3 : Inv X pins σ (upd H2 D (.dT [])) s3 := by
    rw [← hs3]
    refine I2.laid (t' := s2.toks) (fun b o e => Heap.get?_push_of_some _ e) (Nat.le_of_eq hD) ?_
    rw [← hD]
    exact dt_empty s2.heap I2.big
  have h3 : s3.heap = s2.heap.push { cls := .type "dict", data := .dict #[] } := by rw [← hs3]
  have sz : ∀ b ∈ fp, b < s2.heap.objs.size := fun b hb => by
    obtain ⟨o, e, _⟩ := T.obj _ _ st2 b hb
    exact Heap.lt_size e
  have f3 : ∀ b ∈ fp, FpOk X pins (upd H2 D (.dT [])) b ∧ b < s3.heap.objs.size := fun b hb => by
    have hlt := sz b hb
    refine ⟨⟨?_, (f2 b hb).2⟩, by rw [h3, Heap.size_push]; exact Nat.lt_succ_of_lt hlt⟩
    rw [upd_ne (by rw [← hD]; exact Nat.ne_of_lt hlt)]
    exact (f2 b hb).1
  have st3 : tn 0 s3.heap := T.keep _ _ _ st2 fun b _ o e => by rw [h3]; exact Heap.get?_push_of_some _ e
  have I4 := block_start I3 ok hN f3
  have pg := hg s3 (upd H2 D (.dT [])) s3.heap.objs.size (cellsFrom (s3.heap.objs.size + 1) scope.names (cloFrom X.env.cells scope.names [])) fp
  have pt := ht s3 (upd H2 D (.dT [])) s3.heap.objs.size (cellsFrom (s3.heap.objs.size + 1) scope.names (cloFrom X.env.cells scope.names [])) fp
  have pk := hk s3 (upd H2 D (.dT [])) s3.heap.objs.size (cellsFrom (s3.heap.objs.size + 1) scope.names (cloFrom X.env.cells scope.names [])) fp
  have pe := he s3 (upd H2 D (.dT [])) s3.heap.objs.size (cellsFrom (s3.heap.objs.size + 1) scope.names (cloFrom X.env.cells scope.names [])) fp
  have pi1 := hi1 s3 (upd H2 D (.dT [])) s3.heap.objs.size (cellsFrom (s3.heap.objs.size + 1) scope.names (cloFrom X.env.cells scope.names [])) fp
  have pg1 := hg1 s3 (upd H2 D (.dT [])) s3.heap.objs.size (cellsFrom (s3.heap.objs.size + 1) scope.names (cloFrom X.env.cells scope.names [])) fp
  have pt1 := ht1 s3 (upd H2 D (.dT [])) s3.heap.objs.size (cellsFrom (s3.heap.objs.size + 1) scope.names (cloFrom X.env.cells scope.names [])) fp
  show codeAny _ _ (.compStart (.DictComp kx vx [⟨tg, iter, ifs, 0⟩, ⟨tg1, iter1, ifs1, 0⟩] scope pos) 0 (.ref it) (.ref D) (compEnvC scope (cellsFrom (s3.heap.objs.size + 1) scope.names (cloFrom X.env.cells scope.names [])) s3.heap.objs.size X.env)) (compPost (model X.prog X.w) X.A X.xe use Qf (.ref D) s3.heap.objs.size) { s3 with heap := pushCells (s3.heap.push { cls := .type "dict", data := .dict #[] }) scope.names }
  have nfp : ∀ b ∈ fp, (upd H2 D (.dT [])) b = none := fun b hb => (f3 b hb).1.1
  generalize hce : compEnvC scope (cellsFrom (s3.heap.objs.size + 1) scope.names (cloFrom X.env.cells scope.names [])) s3.heap.objs.size X.env = ce at I4 pg pt pk pe pi1 pg1 pt1 ⊢
  have cL : ce.locals = s3.heap.objs.size := by subst hce; rfl
  generalize hH3 : upd H2 D (.dT []) = H3 at I3 I4 pg pt pk pe pi1 pg1 pt1 w0 nfp f3
  generalize hs4 : ({ s3 with heap := pushCells (s3.heap.push { cls := .type "dict", data := .dict #[] }) scope.names } : Shared) = s4 at I4 ⊢
  have st4 : tn 0 s4.heap := T.keep _ _ _ st3 fun b _ o e => by rw [← hs4]; exact pushCells_keeps _ _ _ _ (Heap.get?_push_of_some _ e)
  have stat : ∀ {σ' : L2.St} {H' : Hp} {s' : Shared}, Inv (X.blk s3 H3 scope ce fp) [] σ' H' s' → (∀ b ∈ fp, H' b = none) → ∀ b ∈ fp, FpOk (X.blk s3 H3 scope ce fp) [] H' b := fun {σ' H' s'} I' hn b hb =>
    ⟨hn b hb, (I'.ok.exf b hb).1, I'.ok.exfs b hb, .inl hb, fun x c e => (I'.ok.exf b hb).2 x c e, fun p hp => absurd (show p ∈ ([] : List (Addr × Obj)) ++ [] from hp) (by simp)⟩
  have loop : codeAny (model X.prog X.w) X.A (.compLoop (.DictComp kx vx [⟨tg, iter, ifs, 0⟩, ⟨tg1, iter1, ifs1, 0⟩] scope pos) 0 (.ref it) (.ref D) ce) (compPost (model X.prog X.w) X.A X.xe use Qf (.ref D) s3.heap.objs.size) s4 := by
    refine compLoopD2_out (hs1 ce) (fun n s' => ∃ i H', Inv (X.blk s3 H3 scope ce fp) [] (wipe σ (own.map (·.2))) H' s' ∧ tn i s'.heap ∧ (∀ b ∈ fp, H' b = none) ∧ W i n H') ?_ m0 ⟨0, H3, I4, st4, nfp, w0⟩
    rintro n s5 ⟨i, H5, I5, st5, n5, w5⟩
    rcases turn i n H5 w5 with ⟨stop, qq⟩ | ⟨go, Nx, hNx, step⟩
    · have td := T.done (X.blk s3 H3 scope ce fp) rfl rfl rfl hc i [] s5 _ H5 (fun _ _ => False) I5 (stat I5 n5) st5 stop
      refine thnF td fun r s6 ⟨hr, I6⟩ => ?_
      subst hr
      -- back in the def's context
      have I7 : Inv X pins σ H5 s6 := I3.call' (ch := fp) I6.os I6.base I6.hok I6.bare fun b hb => ⟨(f3 b hb).1.2.2.2.1, (f3 b hb).1.2.1, (f3 b hb).1.2.2.2.2.1, (f3 b hb).1.2.2.2.2.2⟩
      have nC : H5 s3.heap.objs.size = none := by
        have z : H5 ce.locals = none := I6.free
        rw [cL] at z
        exact z
      obtain ⟨m, hn, _⟩ := I6.loc
      have hn : s6.heap.Ns ce.locals m := hn
      rw [cL] at hn
      exact hRR D s3.heap.objs.size s6 m H5 I7 qq hn (I3.fpOk (Nat.le_refl _) nC)
    · have ti := T.item (X.blk s3 H3 scope ce fp) rfl rfl rfl hc i [] s5 _ H5 (fun _ _ => False) I5 (stat I5 n5) st5 go
      refine thnF ti fun r s6 ⟨u, hr, h6⟩ => ?_
      subst hr
      refine thnF h6 fun _ s7 ⟨x, H7, I7, r7, y7, st7, n7⟩ => ?_
      have I7' := I7.pinned (stat I7 n7) (T.obj _ _ st7)
      refine thnF (pg.run _ s7 _ H7 x u _ I7' r7 (step x H7 y7)) fun _ s8 ⟨σ8, H8, I8, hw8, q8⟩ => ?_
      refine thnF (pt.run _ s8 σ8 H8 _ I8 q8) fun b s9 ⟨H9, I9, q9⟩ => ?_
      -- the turn's end, from any slots that know what the block knew at its start
      have fin : ∀ {σ9 : L2.St} {s' : Shared} {H' : Hp}, Inv (X.blk s3 H3 scope ce fp) ([] ++ pinsAt fp s7.heap) σ9 H' s' → (wipe σ (own.map (·.2))).length = σ9.length → (∀ (j : Nat) v, (wipe σ (own.map (·.2)))[j]? = some (some v) → σ9[j]? = some (some v)) → Nx H' →
          ∃ m, m < n ∧ ∃ i H', Inv (X.blk s3 H3 scope ce fp) [] (wipe σ (own.map (·.2))) H' s' ∧ tn i s'.heap ∧ (∀ b ∈ fp, H' b = none) ∧ W i m H' := fun {σ9 s' H'} I' hl hk nx => by
        obtain ⟨m', hm, w'⟩ := hNx H' nx
        have pin' : ∀ b ∈ fp, ∀ o, s7.heap.get? b = some o → s'.heap.get? b = some o ∧ H' b = none := fun b hb o e =>
          let z := I'.pin (b, o) (List.mem_append_right _ (List.mem_append_right _ (mem_pinsAt hb e)))
          ⟨z.1, z.2.1⟩
        refine ⟨m', hm, i + 1, H', (I'.unpinned (pins := [])).weak hl hk, T.keep _ _ _ st7 fun b hb o e => (pin' b hb o e).1, fun b hb => ?_, w'⟩
        obtain ⟨o, e, _⟩ := T.obj _ _ st7 b hb
        exact (pin' b hb o e).2
      have hl8 : (wipe σ (own.map (·.2))).length = σ8.length := by rw [← hw8, wipe_length]
      have hk8 : ∀ (j : Nat) v, (wipe σ (own.map (·.2)))[j]? = some (some v) → σ8[j]? = some (some v) := fun j v e => by
        rw [← hw8] at e
        exact (wipe_some e).1
      have hk9 : ∀ (j : Nat) v, (wipe σ (own.map (·.2)))[j]? = some (some v) → (wipe σ8 vs1)[j]? = some (some v) := fun j v e => by
        rw [← hw8] at e
        obtain ⟨e1, e2⟩ := wipe_some e
        rw [wipe_out fun z => e2 (hv j z)]
        exact e1
      cases b with
      | false =>
        simp only [Bool.false_eq_true, if_false] at q9 ⊢
        exact fin I9 hl8 hk8 q9
      | true =>
        simp only [if_true] at q9 ⊢
        refine thnF (pi1.run _ s9 σ8 H9 _ I9 q9) fun xv s10 hx => thnF hx fun itv s11 h11 => ?_
        obtain ⟨it1, fp1, tn1, J1, H11, e1, I11, T1, st11, f11, W1, ⟨m1, w1⟩, turn1⟩ := h11
        subst e1
        -- the inner loop
        have stat1 : ∀ {H' : Hp}, (∀ b ∈ fp1, H' b = none) → ∀ b ∈ fp1, FpOk (X.blk s3 H3 scope ce fp) ([] ++ pinsAt fp s7.heap) H' b := fun hn b hb => ⟨hn b hb, (f11 b hb).2⟩
        have loop1 : codeAny (model X.prog X.w) X.A (.compLoop (.DictComp kx vx [⟨tg, iter, ifs, 0⟩, ⟨tg1, iter1, ifs1, 0⟩] scope pos) 1 (.ref it1) (.ref D) ce)
            (fun r s' => match r with
              | .ok _ => ∃ m, m < n ∧ ∃ i H', Inv (X.blk s3 H3 scope ce fp) [] (wipe σ (own.map (·.2))) H' s' ∧ tn i s'.heap ∧ (∀ b ∈ fp, H' b = none) ∧ W i m H'
              | .error _ => False) s11 := by
          refine compLoopD2_in (fun k s' => ∃ j H', Inv (X.blk s3 H3 scope ce fp) ([] ++ pinsAt fp s7.heap) (wipe σ8 vs1) H' s' ∧ tn1 j s'.heap ∧ (∀ b ∈ fp1, H' b = none) ∧ W1 j k H') ?_ m1 ⟨0, H11, I11.weak (wipe_length _ _) (fun j v e => (wipe_some e).1), st11, fun b hb => (f11 b hb).1, w1⟩
          rintro k s12 ⟨j, H12, I12, st12, n12, w12⟩
          rcases turn1 j k H12 w12 with ⟨stop1, nx1⟩ | ⟨go1, Nx1, hNx1, step1⟩
          · refine thnF (T1.done (X.blk s3 H3 scope ce fp) rfl rfl rfl hc j _ s12 (wipe σ8 vs1) H12 (fun _ _ => False) I12 (stat1 n12) st12 stop1) fun r s13 ⟨hr, I13⟩ => ?_
            subst hr
            exact fin I13 (hl8.trans (wipe_length σ8 vs1).symm) hk9 nx1
          · refine thnF (T1.item (X.blk s3 H3 scope ce fp) rfl rfl rfl hc j _ s12 (wipe σ8 vs1) H12 (fun _ _ => False) I12 (stat1 n12) st12 go1) fun r s13 ⟨u1, hr, h13⟩ => ?_
            subst hr
            refine thnF h13 fun _ s14 ⟨x1, H14, I14, r14, y14, st14, n14⟩ => ?_
            have I14' := I14.pinned (stat1 n14) (T1.obj _ _ st14)
            refine thnF (pg1.run _ s14 (wipe σ8 vs1) H14 x1 u1 _ I14' r14 (step1 x1 H14 y14)) fun _ s15 ⟨σ15, H15, I15, hw15, q15⟩ => ?_
            refine thnF (pt1.run _ s15 σ15 H15 _ I15 q15) fun b1 s16 ⟨H16, I16, q16⟩ => ?_
            have fin1 : ∀ {s' : Shared} {H' : Hp}, Inv (X.blk s3 H3 scope ce fp) (([] ++ pinsAt fp s7.heap) ++ pinsAt fp1 s14.heap) σ15 H' s' → Nx1 H' → ∃ m, m < k ∧ ∃ j H', Inv (X.blk s3 H3 scope ce fp) ([] ++ pinsAt fp s7.heap) (wipe σ8 vs1) H' s' ∧ tn1 j s'.heap ∧ (∀ b ∈ fp1, H' b = none) ∧ W1 j m H' := fun {s' H'} I' nx => by
              obtain ⟨m', hm, w'⟩ := hNx1 H' nx
              have pin' : ∀ b ∈ fp1, ∀ o, s14.heap.get? b = some o → s'.heap.get? b = some o ∧ H' b = none := fun b hb o e =>
                let z := I'.pin (b, o) (List.mem_append_right _ (List.mem_append_right _ (mem_pinsAt hb e)))
                ⟨z.1, z.2.1⟩
              refine ⟨m', hm, j + 1, H', I'.unpinned.weak (by rw [← hw15, wipe_length]) (fun j v e => by rw [← hw15] at e; exact (wipe_some e).1), T1.keep _ _ _ st14 fun b hb o e => (pin' b hb o e).1, fun b hb => ?_, w'⟩
              obtain ⟨o, e, _⟩ := T1.obj _ _ st14 b hb
              exact (pin' b hb o e).2
            cases b1 with
            | false =>
              simp only [Bool.false_eq_true, if_false] at q16 ⊢
              exact fin1 I16 q16
            | true =>
              simp only [if_true] at q16 ⊢
              refine thnF (pk.run _ s16 σ15 H16 _ I16 q16) fun zk s17 ⟨yk, H17, I17, r17, q17⟩ => ?_
              refine thnF (pe.run _ s17 σ15 H17 _ I17 q17) fun z2 s18 ⟨yv, H18, I18, r18, kvs, ky, b, ek, hb18, hD18, hz18, nx⟩ => ?_
              subst ek
              cases (show zk = Value.ref b from r17)
              exact d_dictSetT (X := X.blk s3 H3 scope ce fp) hu I18 hD18 hz18 hb18 r18 fun s19 I19 => fin1 I19 nx
        exact compStartD1_ok loop1 (T1.self X.A 0 _ _ _ st11 loop1)
  exact codeAny_compStart_dict loop (T.self X.A 0 _ _ _ st4 loop)
/-- as a value -/
theorem pe_dc2 {kx vx tg iter tg1 iter1 : Expr} {ifs ifs1 : List Expr} {scope : Scope} {own : List (Str × Nat)} {vs1 : List Nat} {pos : Pos} {wi wi1 : TI} {g g1 : TG} {tt tt1 : TT} {tk tv : TE} (hc : X.calm = true) (hN : X.N.Nodup) (hi : PI X tg iter wi) (ok : BlkOk X.N X.env.scope scope own) (hv : ∀ i ∈ vs1, i ∈ own.map (·.2))
    (hg : ∀ (s : Shared) (H : Hp) (C : Addr) (cl : List (Str × Addr)) (fp : List Addr), PG (X.blk s H scope (compEnvC scope cl C X.env) fp) tg g) (ht : ∀ (s : Shared) (H : Hp) (C : Addr) (cl : List (Str × Addr)) (fp : List Addr), PTs (X.blk s H scope (compEnvC scope cl C X.env) fp) ifs tt)
    (hi1 : ∀ (s : Shared) (H : Hp) (C : Addr) (cl : List (Str × Addr)) (fp : List Addr), PI (X.blk s H scope (compEnvC scope cl C X.env) fp) tg1 iter1 wi1)
    (hg1 : ∀ (s : Shared) (H : Hp) (C : Addr) (cl : List (Str × Addr)) (fp : List Addr), PG (X.blk s H scope (compEnvC scope cl C X.env) fp) tg1 g1) (ht1 : ∀ (s : Shared) (H : Hp) (C : Addr) (cl : List (Str × Addr)) (fp : List Addr), PTs (X.blk s H scope (compEnvC scope cl C X.env) fp) ifs1 tt1)
    (hk : ∀ (s : Shared) (H : Hp) (C : Addr) (cl : List (Str × Addr)) (fp : List Addr), PE (X.blk s H scope (compEnvC scope cl C X.env) fp) kx tk)
    (he : ∀ (s : Shared) (H : Hp) (C : Addr) (cl : List (Str × Addr)) (fp : List Addr), PE (X.blk s H scope (compEnvC scope cl C X.env) fp) vx tv) (hu : X.A.units < cLine)
    (hs : ∀ x, foldedSetIterable iter X.env x = pure x := by intro _; rfl) (hs1 : ∀ env x, foldedSetIterable iter1 env x = pure x := by intro _ _; rfl) :
    PE X (.DictComp kx vx [⟨tg, iter, ifs, 0⟩, ⟨tg1, iter1, ifs1, 0⟩] scope pos) (tDc2 wi g tt wi1 g1 tt1 tk tv (own.map (·.2)) vs1) := by
  refine ⟨fun pins s σ H Q I h => ?_⟩
  rw [arm_eval_DictComp]
  refine dc2_core hc hN I hi ok hv hg ht hk he hu hs hi1 hg1 ht1 hs1 h fun D C s' m H' I' q hn f => ⟨m, hn, fun h'' sb => ?_⟩
  obtain ⟨f0, f1, f2, f3, f4, f5⟩ := f
  exact ⟨.ref D, H', I'.turned (t' := s'.toks) (fun b o hb e => (sb.2 b hb).trans e) f0 f1 f3 f4 f5, rfl, q⟩
end K28

set_option Elab.async false
set_option linter.all false
set_option maxRecDepth 100000
set_option maxHeartbeats 400000
/-! {tuple: v}; dicts whose keys are ((name, index), number). -/
namespace K28
open PySem PySem.Spec PyProof.Rows L2
section
variable {X : Cx}
/-- {k: v}, k a tuple -/
def tDispT (tk tv : TE) : TE := fun σ H Q => ∀ p, H p = none → tk σ (upd H p (.dT [])) fun x H1 => tv σ H1 fun y H2 => ∃ b k, x = .ref b ∧ H2 b = some (.tup (k.map kV)) ∧ H2 p = some (.dT []) ∧ Q (.ref p) (upd H2 p (.dT [(k, y)]))
theorem pe_dispT {k v : Expr} {pos : Pos} {tk tv : TE} (hu : X.A.units < cLine) (hk : PE X k tk) (hv : PE X v tv) : PE X (.Dict [some k] [v] pos) (tDispT tk tv) := by
  refine ⟨fun pins s σ H Q I q => ?_⟩
  have hn := I.hok.fresh (Nat.le_refl s.heap.objs.size)
  have I1 := I.laid (a := s.heap.objs.size) (o := .dT []) (h' := s.heap.push { cls := .type "dict", data := .dict #[] }) (t' := s.toks) (fun _ _ q => Heap.get?_push_of_some _ q) (Nat.le_refl _) (dt_empty s.heap I.big)
  rw [arm_eval_Dict, zip_pairTrees [some k] [v] X.env pos rfl rfl, dictDisplay_pairs (pairTrees [some k] [v] X.env pos) (by show [_] ≠ []; exact List.cons_ne_nil _ _) (by show 1 < 17; decide)]
  refine wpAny_bind (wpAny_standAt (wpAny_bind (wpAny_subDictH (knd := tupleKind (mixKind X.prog X.w)) (Q := fun d s' => wpAny (model X.prog X.w) X.A (pure (Value.ref d)) (EP X pins σ Q) X.xe s') hu (by show 1 ≤ 15; decide) ?_)))
  refine thn ((pps_cons (pos := pos) hk hv pps_nil).run pins _ σ _ (fun ps H2 => match ps with
    | [(x, y)] => ∃ b k, x = .ref b ∧ H2 b = some (.tup (k.map kV)) ∧ H2 s.heap.objs.size = some (.dT []) ∧ Q (.ref s.heap.objs.size) (upd H2 s.heap.objs.size (.dT [(k, y)]))
    | _ => False) I1 (q _ hn)) fun ws s2 ⟨ps, H2, I2, rel, x⟩ => ?_
  cases rel with
  | nil => exact x.elim
  | @cons a b as bs h t =>
    cases t with
    | cons _ _ => exact x.elim
    | nil =>
      obtain ⟨x0, y⟩ := a
      obtain ⟨u, r⟩ := b
      obtain ⟨b, ky, ex, hb, hp, qq⟩ := x
      subst ex
      obtain ⟨h1, h2⟩ := h
      cases (show u = Value.ref b from h1)
      obtain ⟨_, hd, xs0, rel0, dd⟩ := dt_of I2.hok hp
      have e0 : xs0 = [] := by cases rel0; rfl
      subst e0
      have h2 : RelV y r := h2
      refine ⟨[(ky, b, r)], ⟨rfl, rfl, key_of I2.hok hb, trivial⟩, dd, fun h' tk' dd' hs => wpAny_pure ⟨.ref s.heap.objs.size, _, ?_, rfl, qq⟩⟩
      have es0 : storedAllH ([] : List (List Key × Addr × Value)) [(ky, b, r)] = [(ky, b, r)] := rfl
      rw [es0] at dd'
      obtain ⟨o, es, ep, hq, c2, c3, c4, _, c5⟩ := dd'
      have hb' : upd H2 s.heap.objs.size (.dT [(ky, y)]) b = some (.tup (ky.map kV)) := by
        rw [upd_ne (ne_of hb hp (fun z => nomatch z))]
        exact hb
      have one : 1 ≤ sizeLine := by decide
      exact d_write I2 (by rw [hp]; exact True.intro) hs ⟨o, hq⟩ ⟨one, hd, [(ky, b, r)], Paired.cons ⟨rfl, hb', h2⟩ Paired.nil, o, es, ep, hq, c2, c3, c4, c5⟩

/-! ### keys ((name, index), number) -/
abbrev SK := Spot × Nat
def keyN (k : SK) : NestedKey := .tup [.tup [.text k.1.1, .num k.1.2], .num k.2]
def keyD (k : SK) : PyData := .tuple [spD k.1, .int k.2]
theorem keyN_inj {k l : SK} (h : keyN k = keyN l) : k = l := by
  obtain ⟨⟨a, b⟩, c⟩ := k
  obtain ⟨⟨d, e⟩, f⟩ := l
  injection h with h
  injection h with h1 h2
  injection h1 with h1
  injection h1 with h3 h4
  injection h4 with h4 _
  injection h2 with h2 _
  injection h3 with h3
  injection h4 with h4
  injection h2 with h2
  have h3 : a = d := h3
  have h4 : b = e := Int.ofNat.inj h4
  have h2 : c = f := Int.ofNat.inj h2
  rw [h3, h4, h2]
theorem im_key {H : Hp} {k : SK} {b : Addr} (h : Im H (keyD k) (.ref b)) : ∃ q, H b = some (.tup [.ref q, .int k.2]) ∧ H q = some (.tup [.str k.1.1, .int k.1.2]) := by
  obtain ⟨b', xs, e, h1, h2⟩ := im_tup.mp h
  cases e
  obtain ⟨x, y, rfl, e1, e2⟩ := imAll_two' h2
  obtain ⟨q, ys, rfl, h3, h4⟩ := im_tup.mp e1
  obtain ⟨z, w, rfl, e3, e4⟩ := imAll_two' h4
  rw [im_int.mp e2] at h1
  rw [im_str.mp e3, im_int.mp e4] at h3
  exact ⟨q, h1, h3⟩
theorem nested_is {P : Program} {w : World} {H : Hp} {h : Heap} {k : SK} {b : Addr} (ok : HOk P w H h) (x : Im H (keyD k) (.ref b)) : (nestedKind P w).is h (keyN k) b := by
  obtain ⟨q, h1, h2⟩ := im_key x
  obtain ⟨_, its, r, o, e1, e2, n, e3⟩ := (show ObjOk P w H h b (.tup _) from ok b _ h1)
  obtain ⟨_, its2, r2, o2, g1, g2, n2, g3⟩ := (show ObjOk P w H h q (.tup _) from ok q _ h2)
  refine ⟨?_, by show max (max 0 (max 0 0) + 1) (max 0 0) + 1 ≤ 8; decide⟩
  match its, r, its2, r2 with
  | [u, v], .cons r1 (.cons ⟨t, e4⟩ .nil), [u2, v2], .cons ⟨t2, g4⟩ (.cons ⟨t3, g5⟩ .nil) =>
    cases (show u = Value.ref q from r1)
    subst e4 g4 g5
    exact .tup e1 e2 e3 (.cons (.tup g1 g2 g3 (.cons (.text _ _) (.cons (.int _ _) .nil))) (.cons (.int _ _) .nil))

/-! ### the dict -/
def ndO (P : Program) (w : World) (a : Addr) (xs : List (NestedKey × Addr × Value)) : HO :=
  .ext fun h => (a == sysModules) = false ∧ ∃ o es ep, h.get? a = some o ∧ o.ExactDict ∧ o.data = .dict es ep ∧ es.toList = xs.map (entryOfKey (nestedKind P w))
theorem ndO_ok {P : Program} {w : World} {H : Hp} {h : Heap} {a : Addr} {xs : List (NestedKey × Addr × Value)} (hs : (a == sysModules) = false) {o : Obj} {es : Array DictEntry} {ep : Nat} (h1 : h.get? a = some o) (h2 : o.ExactDict) (h3 : o.data = .dict es ep)
    (h4 : es.toList = xs.map (entryOfKey (nestedKind P w))) : ObjOk P w H h a (ndO P w a xs) :=
  ⟨⟨hs, o, es, ep, h1, h2, h3, h4⟩, ⟨o, h1⟩, fun g1 g2 ⟨y0, o', es', ep', y1, y2⟩ k => ⟨y0, o', es', ep', k o' y1, y2⟩⟩
abbrev NRel (H : Hp) : List (SK × Addr) → List (NestedKey × Addr × Value) → Prop := Paired fun kv x => x.1 = keyN kv.1 ∧ Im H (keyD kv.1) (.ref x.2.1) ∧ x.2.2 = .ref kv.2
/-- at a stands a dict with the pairs kvs -/
def NdAt (P : Program) (w : World) (H : Hp) (a : Addr) (kvs : List (SK × Addr)) : Prop := ∃ xs, H a = some (ndO P w a xs) ∧ (xs.map (·.1)).Nodup ∧ NRel H kvs xs
theorem NRel.keep {H H' : Hp} (k : TupK H H') {kvs : List (SK × Addr)} {xs : List (NestedKey × Addr × Value)} (r : NRel H kvs xs) : NRel H' kvs xs := Paired.mapP r fun _ _ z => ⟨z.1, z.2.1.keep k, z.2.2⟩
theorem NdAt.keep {P : Program} {w : World} {H H' : Hp} {a : Addr} {kvs : List (SK × Addr)} (n : NdAt P w H a kvs) (k : TupK H H') (e : H' a = H a) : NdAt P w H' a kvs := by
  obtain ⟨xs, h1, h2, h3⟩ := n
  exact ⟨xs, e.trans h1, h2, h3.keep k⟩
theorem NRel.look {H : Hp} {kvs : List (SK × Addr)} {xs : List (NestedKey × Addr × Value)} (r : NRel H kvs xs) (k : SK) : (atKey xs (keyN k)).map (·.2) = (kvs.lookup k).map Value.ref := by
  unfold NRel at r
  induction r with
  | nil => rfl
  | @cons kv x l1 l2 h t ih =>
    obtain ⟨⟨kk, d⟩, e1, e2, e3⟩ : ∃ z : SK × Addr, x.1 = keyN z.1 ∧ kv = z ∧ x.2.2 = .ref z.2 := ⟨kv, h.1, rfl, h.2.2⟩
    subst e2
    rw [List.lookup_cons]
    unfold atKey at ih ⊢
    rw [List.find?_cons]
    by_cases hk : k = kk
    · subst hk
      rw [show decide (x.1 = keyN k) = true from decide_eq_true e1]
      simp [e3]
    · rw [show decide (x.1 = keyN k) = false from decide_eq_false fun z => hk (keyN_inj (e1.symm.trans z)).symm]
      have hb : (k == kk) = false := by simpa using hk
      rw [hb]
      exact ih
theorem NdAt.of {P : Program} {w : World} {H : Hp} {h : Heap} {a : Addr} {kvs : List (SK × Addr)} (ok : HOk P w H h) (n : NdAt P w H a kvs) : (a == sysModules) = false ∧ ∃ xs, H a = some (ndO P w a xs) ∧ NRel H kvs xs ∧ h.DictOfH (nestedKind P w) a xs := by
  obtain ⟨xs, h1, h2, h3⟩ := n
  obtain ⟨⟨hs, o, es, ep, g1, g2, g3, g4⟩, _, _⟩ := (show ObjOk P w H h a (ndO P w a xs) from ok a _ h1)
  refine ⟨hs, xs, h1, h3, o, es, ep, g1, g2, g3, g4, fun x hx => ?_, h2⟩
  have all : ∀ {l : List (SK × Addr)} {m : List (NestedKey × Addr × Value)}, NRel H l m → ∀ x ∈ m, (nestedKind P w).is h x.1 x.2.1 := by
    intro l m q
    unfold NRel at q
    induction q with
    | nil => intro x hx; exact nomatch hx
    | @cons p y ps qs hq t ih =>
      intro x hx
      rcases List.mem_cons.mp hx with e | hx
      · subst e
        rw [hq.1]
        exact nested_is ok hq.2.1
      · exact ih x hx
  exact all h3 x hx
/-- {} -/
def tNNew (X : Cx) : TE := fun _ H Q => ∀ p u, H p = none → NdAt X.prog X.w (upd H p u) p [] → Q (.ref p) (upd H p u)
theorem pe_nnew {pos : Pos} : PE X (.Dict [] [] pos) (tNNew X) := ⟨fun pins s σ H Q I h =>
  wpAny_Dict_empty ⟨.ref s.heap.objs.size, _, I.laid (a := s.heap.objs.size) (o := ndO X.prog X.w s.heap.objs.size []) (t' := s.toks) (fun _ _ q => Heap.get?_push_of_some _ q) (Nat.le_refl _)
    (ndO_ok (beq_eq_false_iff_ne.mpr (Ne.symm (Nat.ne_of_lt I.big))) (es := #[]) (ep := 0) (Heap.get?_push_size _ rfl) ⟨rfl, rfl, rfl⟩ rfl rfl), rfl, h _ _ (I.hok.fresh (Nat.le_refl _)) ⟨[], upd_same, List.nodup_nil, .nil⟩⟩⟩
/-- d[y] -/
def tNGet (X : Cx) (td ty : TE) : TE := fun σ H Q => td σ H fun x H1 => ty σ H1 fun y H2 => ∃ a kvs k b d, x = .ref a ∧ y = .ref b ∧ NdAt X.prog X.w H2 a kvs ∧ Im H2 (keyD k) (.ref b) ∧ kvs.lookup k = some d ∧ Q (.ref d) H2
theorem pe_nget {o i : Expr} {pos : Pos} {td ty : TE} (hu : X.A.units + 9 < cLine) (ho : PE X o td) (hi : PE X i ty) (hs : NoSl i) : PE X (.Subscript o i pos) (tNGet X td ty) := by
  refine ⟨fun pins s σ H Q I h => ?_⟩
  refine subD_of PySem.F.slot_dict_getitem.lookup hs (thn (ho.run pins s σ H _ I h) fun u s1 ⟨x, H1, I1, rx, q1⟩ => thn (hi.run pins s1 σ H1 _ I1 q1) fun iv s2 ⟨y, H2, I2, ry, a, kvs, k, b, d, ex, ey, n, hk, l, q2⟩ => ?_)
  subst ex ey
  obtain rfl : u = Value.ref a := rx
  obtain rfl : iv = Value.ref b := ry
  obtain ⟨hd, xs, h1, h2, h3⟩ := n.of I2.hok
  have hl := h2.look k
  rw [l] at hl
  obtain ⟨p, hp, hp2⟩ := Option.map_eq_some_iff.mp (show (atKey xs (keyN k)).map (·.2) = some (Value.ref d) from hl)
  refine ⟨h3.typeIs, wpAny_getItem_heap (knd := nestedKind X.prog X.w) (by show X.A.units + 1 + 8 < cLine; omega) (nested_is I2.hok hk) h3 hp ?_⟩
  rw [hp2]
  exact ⟨.ref d, H2, I2.tok _, rfl, q2⟩
/-- d[y] = v, a new key -/
def sNPut (X : Cx) (td ty tv : TE) : TS := fun D σ H => tv σ H fun v H1 => td σ H1 fun x H2 => ty σ H2 fun y H3 => ∃ a kvs k b d, x = .ref a ∧ y = .ref b ∧ v = .ref d ∧ NdAt X.prog X.w H3 a kvs ∧ Im H3 (keyD k) (.ref b) ∧ kvs.lookup k = none ∧ kvs.length < sizeLine ∧
  ∀ u, NdAt X.prog X.w (upd H3 a u) a (kvs ++ [(k, d)]) → D.nx σ (upd H3 a u)
theorem ps_nput {o i value : Expr} {pos pos' : Pos} {td ty tv : TE} (hu : X.A.units + 9 < cLine) (ho : PE X o td) (hi : PE X i ty) (hv : PE X value tv) (hs : swapsWith value (some (.Subscript o i pos')) pos.line X.env = pure false) :
    PS X (.Assign [.Subscript o i pos'] value pos) (sNPut X td ty tv) := by
  refine ⟨fun pins s σ H D I h => ?_⟩
  refine wpAny_Assign_Subscript (thn (hv.run pins s σ H _ I h) fun r s1 ⟨v, H1, I1, rv, q1⟩ => thn (ho.run pins s1 σ H1 _ I1 q1) fun u s2 ⟨x, H2, I2, rx, q2⟩ => thn (hi.run pins s2 σ H2 _ I2 q2) fun iv s3 ⟨y, H3, I3, ry, a, kvs, k, b, d, ex, ey, ev, n, hk, l, hz, q3⟩ => ?_) hs
  subst ex ey ev
  obtain rfl : u = Value.ref a := rx
  obtain rfl : iv = Value.ref b := ry
  obtain rfl : r = Value.ref d := rv
  obtain ⟨hd, xs, h1, h2, h3⟩ := n.of I3.hok
  have hl := h2.look k
  rw [l] at hl
  have hno : atKey xs (keyN k) = none := Option.map_eq_none_iff.mp hl
  have hxl : xs.length = kvs.length := (Paired.length h2).symm
  refine wpAny_setItem_heap (knd := nestedKind X.prog X.w) (hsz := by omega) (by show X.A.units + 1 + 8 < cLine; omega) (nested_is I3.hok hk) h3 fun h' dd hs' => ?_
  rw [storedH_new hno] at dd
  obtain ⟨o', es, ep, g1, g2, g3, g4, _, g5⟩ := dd
  refine ⟨σ, upd H3 a (ndO X.prog X.w a (xs ++ [(keyN k, b, .ref d)])), d_write I3 (by rw [h1]; exact True.intro) hs' ⟨o', g1⟩ (ndO_ok hd g1 g2 g3 g4), q3 _ ⟨_, upd_same, g5, ?_⟩⟩
  have kt : TupK H3 (upd H3 a (ndO X.prog X.w a (xs ++ [(keyN k, b, .ref d)]))) := tup_upd fun ys z => by rw [h1] at z; cases z
  exact Paired.snoc (h2.keep kt) ⟨rfl, hk.keep kt, rfl⟩
end
end K28

set_option Elab.async false
set_option linter.all false
set_option maxRecDepth 100000
set_option maxHeartbeats 400000
/-! tables of outcomes on the heap; add_to, over_if. -/
namespace K28
open PySem PySem.Spec PyProof.Rows L2

def kT : Outc → List Key
  | none => []
  | some .back => [Sum.inr bkS]
  | some (.fail k) => [Sum.inr flS, Sum.inr k]
theorem kT_inj : ∀ {a b : Outc}, kT a = kT b → a = b
  | none, none, _ => rfl
  | none, some .back, h => nomatch h
  | none, some (.fail _), h => nomatch h
  | some .back, none, h => nomatch h
  | some .back, some .back, _ => rfl
  | some .back, some (.fail _), h => by simp [kT] at h
  | some (.fail _), none, h => nomatch h
  | some (.fail _), some .back, h => by simp [kT] at h
  | some (.fail j), some (.fail k), h => by
    simp [kT] at h
    rw [h]
def outD : Outc → PyData
  | none => .tuple []
  | some e => endD e
theorem im_out {H : Hp} {o : Outc} {v : V} : Im H (outD o) v ↔ ∃ b, v = .ref b ∧ H b = some (.tup ((kT o).map kV)) := by
  constructor
  · intro h
    cases o with
    | none =>
      obtain ⟨b, xs, rfl, h1, h2⟩ := im_tup.mp (show Im H (.tuple []) v from h)
      rw [imAll_nil.mp h2] at h1
      exact ⟨b, rfl, h1⟩
    | some e =>
      cases e with
      | back =>
        obtain ⟨b, xs, rfl, h1, h2⟩ := im_tup.mp (show Im H (.tuple [.str bkS]) v from h)
        obtain ⟨x, rfl, h3⟩ := imAll_one' h2
        rw [im_str.mp h3] at h1
        exact ⟨b, rfl, h1⟩
      | fail k =>
        obtain ⟨b, xs, rfl, h1, h2⟩ := im_tup.mp (show Im H (.tuple [.str flS, .str k]) v from h)
        obtain ⟨x, y, rfl, h3, h4⟩ := imAll_two' h2
        rw [im_str.mp h3, im_str.mp h4] at h1
        exact ⟨b, rfl, h1⟩
  · rintro ⟨b, rfl, h⟩
    cases o with
    | none => exact im_tup.mpr ⟨b, _, rfl, h, imAll_nil.mpr rfl⟩
    | some e =>
      cases e with
      | back => exact im_tup.mpr ⟨b, _, rfl, h, imAll_one (im_str.mpr rfl)⟩
      | fail k => exact im_tup.mpr ⟨b, _, rfl, h, imAll_two (im_str.mpr rfl) (im_str.mpr rfl)⟩

/-! ### the table as pairs -/
def tabV (d : Tab) : List (List Key × V) := d.map fun x => (kT x.1, V.int (x.2 : Nat))
theorem tabV_val (o : Outc) : ∀ d : Tab, valV (tabV d) (kT o) = (d.lookup o).map fun (n : Nat) => V.int n
  | [] => rfl
  | (q, m) :: r => by
    rw [List.lookup_cons]
    unfold valV
    show ((((kT q, V.int (m : Nat)) :: tabV r).find? _).map _) = _
    rw [List.find?_cons]
    by_cases h : q = o
    · subst h
      simp
    · rw [show decide (kT q = kT o) = false from decide_eq_false fun z => h (kT_inj z)]
      have hb : (o == q) = false := by simpa using fun z => h z.symm
      rw [hb]
      exact tabV_val o r
theorem tabV_getD (d : Tab) (o : Outc) : ((valV (tabV d) (kT o)).getD (.int 0)) = V.int (getT d o : Nat) := by
  rw [tabV_val]
  unfold getT
  cases d.lookup o <;> rfl
theorem putT_new {o : Outc} {n : Nat} : ∀ {d : Tab}, o ∉ d.map (·.1) → putT d o n = d ++ [(o, n)]
  | [], _ => rfl
  | (q, m) :: r, h => by
    rw [List.map_cons, List.mem_cons, not_or] at h
    show (if q = o then _ else _) = _
    rw [if_neg (fun z => h.1 z.symm), putT_new h.2]; rfl
theorem putT_old {o : Outc} {n : Nat} : ∀ {d : Tab}, (d.map (·.1)).Nodup → o ∈ d.map (·.1) → putT d o n = d.map fun x => if x.1 = o then (x.1, n) else x
  | [], _, h => nomatch h
  | (q, m) :: r, nd, h => by
    rw [List.map_cons, List.nodup_cons] at nd
    show (if q = o then _ else _) = (if q = o then (q, n) else (q, m)) :: r.map _
    by_cases e : q = o
    · rw [if_pos e, if_pos e]
      congr 1
      symm
      rw [List.map_congr_left (g := id) (fun x hx => ?_), List.map_id]
      have hx' : x.1 ≠ o := fun z => nd.1 (by rw [e, ← z]; exact List.mem_map.mpr ⟨x, hx, rfl⟩)
      rw [if_neg hx']; rfl
    · rw [if_neg e, if_neg e]
      rcases List.mem_cons.mp h with h | h
      · exact absurd h.symm e
      · rw [putT_old nd.2 h]
theorem tabV_put {d : Tab} (nd : (d.map (·.1)).Nodup) (o : Outc) (n : Nat) : putK (tabV d) (kT o) (.int (n : Nat)) = tabV (putT d o n) := by
  unfold putK
  by_cases h : o ∈ d.map (·.1)
  · rw [if_pos, putT_old nd h]
    · unfold tabV
      rw [List.map_map, List.map_map]
      apply List.map_congr_left
      intro x _
      show (if kT x.1 = kT o then _ else _) = _
      by_cases e : x.1 = o
      · rw [if_pos (congrArg kT e)]
        show _ = (kT (if x.1 = o then (x.1, n) else x).1, V.int ((if x.1 = o then (x.1, n) else x).2 : Nat))
        rw [if_pos e]
      · rw [if_neg (fun z => e (kT_inj z))]
        show _ = (kT (if x.1 = o then (x.1, n) else x).1, V.int ((if x.1 = o then (x.1, n) else x).2 : Nat))
        rw [if_neg e]
    · rw [List.any_eq_true]
      obtain ⟨x, hx, e⟩ := List.mem_map.mp h
      exact ⟨(kT x.1, V.int (x.2 : Nat)), List.mem_map.mpr ⟨x, hx, rfl⟩, decide_eq_true (congrArg kT e)⟩
  · rw [if_neg, putT_new h]
    · unfold tabV
      rw [List.map_append]; rfl
    · rw [List.any_eq_true]
      rintro ⟨y, hy, e⟩
      obtain ⟨x, hx, rfl⟩ := List.mem_map.mp hy
      exact h (List.mem_map.mpr ⟨x, hx, kT_inj (of_decide_eq_true e)⟩)

/-! ### what a table tells -/
structure Acc (p : Prog) (d : Tab) (f : (Outc → Nat) → Nat) : Prop where
  eq : ∀ w, wsum d w = f w
  nd : (d.map (·.1)).Nodup
  keys : ∀ o ∈ d.map (·.1), o ∈ outs p
theorem Acc.good {p : Prog} {n : Nat} {c : Conf} {d : Tab} (a : Acc p d fun w => T p w n c) : GoodC p n c d := ⟨a.eq, a.nd, a.keys⟩
theorem Acc.nil (p : Prog) : Acc p [] fun _ => 0 := ⟨fun _ => rfl, List.nodup_nil, fun _ h => nomatch h⟩
theorem Acc.put {p : Prog} {d : Tab} {f : (Outc → Nat) → Nat} (a : Acc p d f) {o : Outc} (ho : o ∈ outs p) (n : Nat) : Acc p (putT d o (getT d o + n)) fun w => f w + n * w o :=
  ⟨fun w => by rw [wsum_put, a.eq], nodup_put _ _ _ a.nd, fun x hx => by
    rcases keys_put _ _ _ x hx with h | h
    · exact a.keys x h
    · rw [h]; exact ho⟩
theorem Acc.congr {p : Prog} {d : Tab} {f g : (Outc → Nat) → Nat} (a : Acc p d f) (h : ∀ w, f w = g w) : Acc p d g := ⟨fun w => (a.eq w).trans (h w), a.nd, a.keys⟩
theorem failsW_len : ∀ ws : List Way, (failsW ws).length ≤ ws.length
  | [] => Nat.le_refl _
  | .fail k :: r => Nat.succ_le_succ (failsW_len r)
  | .num _ :: r => Nat.le_succ_of_le (failsW_len r)
  | .back :: r => Nat.le_succ_of_le (failsW_len r)
theorem flatMap_len {α β : Type} (f : α → List β) (b : Nat) : ∀ l : List α, (∀ x ∈ l, (f x).length ≤ b) → (l.flatMap f).length ≤ l.length * b
  | [], _ => by simp
  | x :: r, h => by
    rw [List.flatMap_cons, List.length_append, List.length_cons, Nat.succ_mul]
    have h1 := flatMap_len f b r fun y hy => h y (List.mem_cons_of_mem _ hy)
    have h2 := h x List.mem_cons_self
    omega
theorem outs_len {p : Prog} (W : WF p) : (outs p).length ≤ 1600 := by
  have h : (kinds p).length ≤ p.length * 192 := flatMap_len _ 192 p fun f hf => by
    have h1 := flatMap_len (fun l : Line => failsW l.2.1) 16 f.2 fun l hl => Nat.le_trans (failsW_len _) (W.thin f hf l hl).2.1
    have h2 := W.short f hf
    omega
  have h2 := W.few
  show ((kinds p).map _).length + 1 + 1 ≤ 1600
  rw [List.length_map]
  omega
theorem Acc.len {p : Prog} (W : WF p) {d : Tab} {f : (Outc → Nat) → Nat} (a : Acc p d f) : d.length < sizeLine := by
  have h := nodup_sub_len a.nd a.keys
  rw [List.length_map] at h
  have h2 := outs_len W
  exact Nat.lt_of_le_of_lt (show d.length ≤ 1600 by omega) (by decide)
theorem fail_out {p : Prog} {f : Fn} {l : Line} {k : Str} (hf : f ∈ p) (hl : l ∈ f.2) (hk : Way.fail k ∈ l.2.1) : some (End.fail k) ∈ outs p := by
  refine List.mem_cons_of_mem _ (List.mem_cons_of_mem _ (List.mem_map.mpr ⟨k, ?_, rfl⟩))
  exact List.mem_flatMap.mpr ⟨f, hf, List.mem_flatMap.mpr ⟨l, hl, failsW_mem hk⟩⟩
theorem out_fail {p : Prog} {k : Str} (h : some (End.fail k) ∈ outs p) : ∃ f ∈ p, ∃ l ∈ f.2, Way.fail k ∈ l.2.1 := by
  rcases List.mem_cons.mp h with h | h
  · cases h
  rcases List.mem_cons.mp h with h | h
  · cases h
  obtain ⟨j, hj, e⟩ := List.mem_map.mp h
  cases e
  obtain ⟨f, hf, h⟩ := List.mem_flatMap.mp hj
  obtain ⟨l, hl, h⟩ := List.mem_flatMap.mp h
  refine ⟨f, hf, l, hl, ?_⟩
  have key : ∀ ws : List Way, k ∈ failsW ws → Way.fail k ∈ ws := by
    intro ws
    induction ws with
    | nil => intro h; cases h
    | cons w r ih =>
      cases w with
      | fail j =>
        intro h
        rcases List.mem_cons.mp h with h | h
        · rw [h]; exact List.mem_cons_self
        · exact List.mem_cons_of_mem _ (ih h)
      | num n => exact fun h => List.mem_cons_of_mem _ (ih h)
      | back => exact fun h => List.mem_cons_of_mem _ (ih h)
  exact key _ h

/-- a finished table stands at a -/
def GoodAt (p : Prog) (n : Nat) (c : Conf) (H : Hp) (a : Addr) : Prop := ∃ od d, H a = some (.frz od (.dT (tabV d))) ∧ GoodC p n c d
theorem GoodAt.more {p : Prog} {n : Nat} {c : Conf} {H H' : Hp} {a : Addr} (g : GoodAt p n c H a) (s : Same H H') : GoodAt p n c H' a := by
  obtain ⟨od, d, h, k⟩ := g
  exact ⟨od, d, s _ _ h, k⟩
theorem GoodAt.chg {F : List Addr} {p : Prog} {n : Nat} {c : Conf} {H H' : Hp} {a : Addr} (g : GoodAt p n c H a) (s : Chg F H H') (hF : ∀ b ∈ F, ∀ od u, H b ≠ some (.frz od u)) : GoodAt p n c H' a := by
  obtain ⟨od, d, h, k⟩ := g
  exact ⟨od, d, s _ _ h (fun z => hF _ z _ _ h), k⟩

section
variable {P : Program} {w : World} {K : PySem.W.Frag} {mg : Str → Option Value} {base : Heap}
/-! ### add_to -/
def spAddTo : Sp := fun vs H Q _ => ∃ t b d o, ∃ n : Nat, vs = [.ref t, .ref b, .int n] ∧ H t = some (.dT (tabV d)) ∧ (d.map (·.1)).Nodup ∧ d.length < sizeLine ∧ H b = some (.tup ((kT o).map kV)) ∧ Q .non (upd H t (.dT (tabV (putT d o (getT d o + n)))))
theorem scAT : FnScope ["totals", "outcome", "many"] ["totals", "outcome", "many"] (defScope sAddTo) := ⟨rfl, rfl, rfl, by decide +kernel, rfl, by decide +kernel, by decide +kernel⟩
theorem ok_addTo {f : Addr} (F : At K "add_to" "add_to" sAddTo f) : Ok P w K mg base 1 f ["totals", "outcome", "many"] spAddTo := by
  refine mkOk F scAT (fun _ _ _ _ _ _ us hl => match us, hl with | [_, _, _], _ => rfl) (fun vs H Q E h => ?_) (fun cdv A outer s H vs Q E hr h => ?_)
  · obtain ⟨t, b, d, o, n, rfl, _⟩ := h; rfl
  · obtain ⟨t, b, d, o, n, rfl, ht, nd, hz, hb, k⟩ := h
    have hu : (A.deeper (envOfC "add_to" (defScope sAddTo) s.heap.objs.size f cdv)).units + 1 < cLine := by have := hr.un; omega
    refine ⟨_, pss_one (ps_dput hu (pv 0) (pv 1) (pe_op op_add (pe_dget2 hu (pv 0) (pv 1) pe_int ⟨rfl, rfl, rfl, rfl⟩) (pv 2)) rfl), ?_⟩
    refine ⟨_, rfl, t, rfl, .inr ⟨_, .of ht⟩, _, rfl, _, .t ht hb, _, rfl, ?_⟩
    rw [tabV_getD]
    refine ⟨_, _, rfl, rfl, _, rfl, _, rfl, t, _, rfl, .t ht hb (by unfold tabV; rw [List.length_map]; exact hz), ?_⟩
    show Q .non (upd H t (.dT (putK (tabV d) (kT o) (V.int (((getT d o : Nat) : Int) + (n : Int))))))
    rw [show ((getT d o : Nat) : Int) + (n : Int) = ((getT d o + n : Nat) : Int) by omega, tabV_put nd]
    exact k

/-! ### over_if -/
def spOverIf (p : Prog) : Sp := fun vs H Q _ => ∃ v e, ∃ n : Nat, vs = [v, .int n] ∧ Im H (endD e) v ∧ some e ∈ outs p ∧ ∀ a H', Same H H' → GoodAt p n (.over e) H' a → Q (.ref a) H'
theorem scOv : FnScope ["end", "left"] ["end", "left"] (defScope sOverIf) := ⟨rfl, rfl, rfl, by decide +kernel, rfl, by decide +kernel, by decide +kernel⟩
theorem ok_overIf {p : Prog} {f : Addr} (F : At K "over_if" "over_if" sOverIf f) : Ok P w K mg base 1 f ["end", "left"] (spOverIf p) := by
  refine mkOk F scOv (fun _ _ _ _ _ _ us hl => match us, hl with | [_, _], _ => rfl) (fun vs H Q E h => ?_) (fun cdv A outer s H vs Q E hr h => ?_)
  · obtain ⟨v, e, n, rfl, _⟩ := h; rfl
  · obtain ⟨v, e, n, rfl, hv, ho, k⟩ := h
    obtain ⟨b, rfl, hb⟩ := im_out (o := some e).mp hv
    have hu : (A.deeper (envOfC "over_if" (defScope sOverIf) s.heap.objs.size f cdv)).units < cLine := by have := hr.un; omega
    refine ⟨_, pss_one (ps_ret (pe_frz (pe_ifExp (pt_cmpR op_eq (pv 1) pe_int (nomark _)) (pe_dispT hu (pv 0) pe_int) pe_dnewT))), ?_⟩
    refine ⟨_, rfl, rfl, _, rfl, ?_⟩
    cases n with
    | zero =>
      refine iteT ?_
      intro a ha
      refine ⟨_, rfl, b, kT (some e), rfl, (same_upd ha) _ _ hb, upd_same, a, _, rfl, upd_same, trivial, fun od => ?_⟩
      refine k a _ (fun x u hx => ?_) ⟨od, [(some e, 1)], upd_same, ?_⟩
      · have nx := ne_of_none hx ha
        rw [upd_ne nx, upd_ne nx, upd_ne nx]; exact hx
      · refine ⟨fun w => ?_, by simp, fun o hx => ?_⟩
        · rw [T_over, if_pos rfl, wsum_cons]
          show 1 * w (some e) + 0 = _
          omega
        · rw [List.mem_singleton.mp hx]; exact ho
    | succ n =>
      rw [show decide (V.int ((n + 1 : Nat) : Int) = V.int 0) = false from decide_eq_false (by intro z; have := V.int.inj z; omega)]
      refine iteF ?_
      intro a ha
      refine ⟨a, _, rfl, upd_same, trivial, fun od => ?_⟩
      refine k a _ (fun x u hx => ?_) ⟨od, [], upd_same, ?_⟩
      · have nx := ne_of_none hx ha
        rw [upd_ne nx, upd_ne nx]; exact hx
      · exact ⟨fun w => by rw [T_over, if_neg (Nat.succ_ne_zero n)]; rfl, List.nodup_nil, fun o hx => nomatch hx⟩
end
end K28

set_option Elab.async false
set_option linter.all false
set_option maxRecDepth 100000
set_option maxHeartbeats 400000
/-! class Counts: behind_fault, behind_frame. -/
namespace K28
open PySem PySem.Spec PyProof.Rows L2
theorem _root_.L2.Room.u0 {k : Nat} {A : Around} (r : Room k A) : A.units < cLine := by have := r.un; omega
theorem _root_.L2.Room.u1 {k : Nat} {A : Around} (r : Room k A) : A.units + 1 < cLine := by have := r.un; omega
theorem _root_.L2.Room.u9 {k : Nat} {A : Around} (r : Room k A) : A.units + 9 < cLine := by have := r.un; omega
def cF (lt ac aw : Addr) : List (Str × V) := [("line_table", .ref lt), ("at_call", .ref ac), ("at_way", .ref aw)]
abbrev mC (K : PySem.W.Frag) (m : Str) : Addr := He.ma K (cC K) m
/-- the counts of all rows shorter than m are there -/
structure CAt (P : Program) (w : World) (C : Addr) (p : Prog) (H : Hp) (c lt ac aw : Addr) (kc kw : List (SK × Addr)) (m : Nat) : Prop where
  ins : ∃ dx, H c = some (.ins C dx (cF lt ac aw))
  lin : ∃ kvs, H lt = some (.dT kvs) ∧ ∀ s l, lineAt p s = some l → ∃ v, valV kvs [Sum.inr s.1, Sum.inl (s.2 : Int)] = some v ∧ Im H (lineDt l) v
  nc : NdAt P w H ac kc
  nw : NdAt P w H aw kw
  call : ∀ s, SpotOk p s → ∀ j, j < m → ∃ a, kc.lookup (s, j) = some a ∧ GoodAt p j (.run [s] true) H a
  way : ∀ s, SpotOk p s → ∀ j, j < m → ∃ a, kw.lookup (s, j) = some a ∧ GoodAt p j (.run [s] false) H a
section
variable {P : Program} {w : World} {C : Addr} {p : Prog} {H H' : Hp} {c lt ac aw : Addr} {kc kw : List (SK × Addr)} {m : Nat}
theorem CAt.more (x : CAt P w C p H c lt ac aw kc kw m) (s : Same H H') : CAt P w C p H' c lt ac aw kc kw m := by
  obtain ⟨dx, h1⟩ := x.ins
  obtain ⟨kvs, h2, h3⟩ := x.lin
  obtain ⟨xs, h4, _⟩ := id x.nc
  obtain ⟨ys, h5, _⟩ := id x.nw
  refine ⟨⟨dx, s _ _ h1⟩, ⟨kvs, s _ _ h2, fun q l e => ?_⟩, x.nc.keep (Same.tup s) ((s _ _ h4).trans h4.symm), x.nw.keep (Same.tup s) ((s _ _ h5).trans h5.symm), fun q hq j hj => ?_, fun q hq j hj => ?_⟩
  · obtain ⟨v, e1, e2⟩ := h3 q l e
    exact ⟨v, e1, e2.keep (Same.tup s)⟩
  · obtain ⟨a, e1, e2⟩ := x.call q hq j hj
    exact ⟨a, e1, e2.more s⟩
  · obtain ⟨a, e1, e2⟩ := x.way q hq j hj
    exact ⟨a, e1, e2.more s⟩
/-- one dict that is none of these changes -/
theorem CAt.tot {t : Addr} {d : Tab} (x : CAt P w C p H c lt ac aw kc kw m) (ht : ∃ d0 : Tab, H t = some (.dT (tabV d0))) (hl : t ≠ lt) : CAt P w C p (upd H t (.dT (tabV d))) c lt ac aw kc kw m := by
  obtain ⟨d0, ht⟩ := ht
  obtain ⟨dx, h1⟩ := x.ins
  obtain ⟨kvs, h2, h3⟩ := x.lin
  obtain ⟨xs, h4, _⟩ := id x.nc
  obtain ⟨ys, h5, _⟩ := id x.nw
  have kt : TupK H (upd H t (.dT (tabV d))) := tup_upd fun xs z => by rw [ht] at z; cases z
  have fz : ∀ {n : Nat} {cf : Conf} {a : Addr}, GoodAt p n cf H a → GoodAt p n cf (upd H t (.dT (tabV d))) a := fun g => by
    obtain ⟨od, d, e, k⟩ := g
    exact ⟨od, d, by rw [upd_ne (ne_of e ht (by intro z; cases z))]; exact e, k⟩
  refine ⟨⟨dx, by rw [upd_ne (ne_of h1 ht (by intro z; cases z))]; exact h1⟩, ⟨kvs, by rw [upd_ne hl.symm]; exact h2, fun q l e => ?_⟩, x.nc.keep kt (upd_ne (ne_of h4 ht (by unfold ndO; intro z; cases z))), x.nw.keep kt (upd_ne (ne_of h5 ht (by unfold ndO; intro z; cases z))), fun q hq j hj => ?_, fun q hq j hj => ?_⟩
  · obtain ⟨v, e1, e2⟩ := h3 q l e
    exact ⟨v, e1, e2.keep kt⟩
  · obtain ⟨a, e1, e2⟩ := x.call q hq j hj
    exact ⟨a, e1, fz e2⟩
  · obtain ⟨a, e1, e2⟩ := x.way q hq j hj
    exact ⟨a, e1, fz e2⟩
end
theorem im_sp {H : Hp} {s : Spot} {v : V} (h : Im H (spD s) v) : ∃ a, v = .ref a ∧ H a = some (.tup [.str s.1, .int s.2]) := by
  obtain ⟨a, xs, rfl, h1, h2⟩ := im_tup.mp h
  obtain ⟨x, y, rfl, e1, e2⟩ := imAll_two' h2
  rw [im_str.mp e1, im_int.mp e2] at h1
  exact ⟨a, rfl, h1⟩
theorem sp_im {H : Hp} {s : Spot} {a : Addr} (h : H a = some (.tup [.str s.1, .int s.2])) : Im H (spD s) (.ref a) := im_tup.mpr ⟨a, _, rfl, h, imAll_two (im_str.mpr rfl) (im_int.mpr rfl)⟩
section
variable {P : Program} {w : World} {K : PySem.W.Frag} {mg : Str → Option Value} {base : Heap}
/-- the line of a spot -/
theorem CAt.line {C : Addr} {p : Prog} {H : Hp} {c lt ac aw : Addr} {kc kw : List (SK × Addr)} {m : Nat} (x : CAt P w C p H c lt ac aw kc kw m) {s : Spot} {l : Line} {sp : Addr} (hl : lineAt p s = some l) (hs : H sp = some (.tup [.str s.1, .int s.2])) :
    ∃ v, DGet H lt (.ref sp) (some v) ∧ Im H (lineDt l) v := by
  obtain ⟨kvs, h1, h2⟩ := x.lin
  obtain ⟨v, e1, e2⟩ := h2 s l hl
  have g : DGet H lt (.ref sp) (valV kvs [Sum.inr s.1, Sum.inl (s.2 : Int)]) := DGet.t (k := [Sum.inr s.1, Sum.inl (s.2 : Int)]) h1 hs
  rw [e1] at g
  exact ⟨v, g, e2⟩

/-! ### behind_fault -/
theorem fail_nm {p : Prog} (W : WF p) {k : Str} (h : some (End.fail k) ∈ outs p) : NmOk k := by
  obtain ⟨f, hf, l, hl, hk⟩ := out_fail h
  exact ((W.nms f hf).2 l hl).2.1 k hk
def spBFault (P : Program) (w : World) (C : Addr) (p : Prog) : Sp := fun vs H Q _ => ∃ c lt ac aw kc kw m s sp v k, ∃ n : Nat, vs = [.ref c, .ref sp, v, .int n] ∧ CAt P w C p H c lt ac aw kc kw m ∧ WF p ∧ n < m ∧ SpotOk p s ∧ H sp = some (.tup [.str s.1, .int s.2]) ∧
  Im H (endD (.fail k)) v ∧ some (End.fail k) ∈ outs p ∧ ∀ a H', Same H H' → GoodAt p n (failHere p [s] k) H' a → Q (.ref a) H'
theorem scBF : FnScope ["self", "spot", "end", "left", "target"] ["self", "spot", "end", "left"] (defScope sBehindFault) := ⟨rfl, rfl, rfl, by decide +kernel, rfl, by decide +kernel, by decide +kernel⟩
theorem ok_bFault {p : Prog} {f gh go : Addr} (F : At K "behind_fault" "Counts.behind_fault" sBehindFault f) (T : Tx K mg) (HL : Ok P w K mg base 1 gh ["handlers", "kind"] spHandler) (mgH : mg "handler_line" = some (.ref gh))
    (OV : Ok P w K mg base 1 go ["end", "left"] (spOverIf p)) (mgO : mg "over_if" = some (.ref go)) : Ok P w K mg base 2 f ["self", "spot", "end", "left"] (spBFault P w (cC K) p) := by
  refine mkOk F scBF (fun _ _ _ _ _ _ us hl => match us, hl with | [_, _, _, _], _ => rfl) (fun vs H Q E h => ?_) (fun cdv A outer s H vs Q E hr h => ?_)
  · obtain ⟨c, lt, ac, aw, kc, kw, m, s, sp, v, k, n, rfl, _⟩ := h; rfl
  · obtain ⟨c, lt, ac, aw, kc, kw, m, sq, sp, v, kd, n, rfl, hc, Wp, hn, hs, hsp, hv, ho, k⟩ := h
    obtain ⟨l, hl⟩ := hs
    obtain ⟨lv, g1, g2⟩ := hc.line hl hsp
    obtain ⟨t, cs, ws, z, rfl, e1, _, _, e4⟩ := im_line g2
    obtain ⟨b, rfl, hb⟩ := im_out (o := some (.fail kd)).mp hv
    obtain ⟨dx, hi⟩ := hc.ins
    refine ⟨_, pss_cons (ps_set (i := 4) scBF.nd rfl (Or.inl rfl) (pe_callO HL hr (by rfl) mgH (pa_cons (pe_ix ix_tup (pe_dget hr.u1 (pe_fld (pv 0) rfl) (pv 1) (fun _ _ => rfl)) pe_int (fun _ _ => rfl)) (pa_cons (pe_ix ix_tup (pv 2) pe_int (fun _ _ => rfl)) pa_nil))))
      (pss_cons (ps_if (pt_cmpR op_ge (pv 4) pe_int (nomark _)) (pss_one (ps_ret (pe_nget hr.u9 (pe_fld (pv 0) rfl) (pe_tup (pa_cons (pe_tup (pa_cons (pe_ix ix_tup (pv 1) pe_int (fun _ _ => rfl)) (pa_cons (pv 4) pa_nil))) (pa_cons (pv 3) pa_nil))) (fun _ _ => rfl)))) pss_nil)
      (pss_one (ps_ret (pe_callO OV hr (by rfl) mgO (pa_cons (pv 2) (pa_cons (pv 3) pa_nil)))))), ?_⟩
    refine ⟨_, rfl, c, cC K, dx, _, _, rfl, hi, T.clC, T.nL, rfl, _, rfl, lt, _, rfl, g1, ?_⟩
    refine ⟨t, _, 2, _, rfl, rfl, .of e1, atI_nat (j := 2) rfl, _, rfl, b, _, 1, _, rfl, rfl, .of hb, atI_nat (j := 1) rfl, ?_⟩
    refine ⟨_, kd, l.2.2, rfl, e4, ?_⟩
    have hfl : failHere p [sq] kd = match handler l.2.2 kd with | some t => .run [(sq.1, t)] true | none => .over (.fail kd) := by
      show (match handler (lineD p sq).2.2 kd with | some t => Conf.run ((sq.1, t) :: []) true | none => failHere p [] kd) = _
      rw [lineD_of hl]
      cases handler l.2.2 kd <;> rfl
    have hz : hlV l.2.2 kd = match handler l.2.2 kd with | some t => (t : Int) | none => -1 := rfl
    cases hh : handler l.2.2 kd with
    | some t2 =>
      rw [hh] at hfl hz
      have hz : hlV l.2.2 kd = (t2 : Int) := hz
      rw [hz]
      refine ⟨_, rfl, _, _, rfl, rfl, true, congrArg V.bl (decide_eq_true (Int.natCast_nonneg t2)), iteT ?_⟩
      refine ⟨_, rfl, c, cC K, dx, _, _, rfl, hi, T.clC, T.nC, rfl, ?_⟩
      refine ⟨_, rfl, sp, _, 0, _, rfl, rfl, .of hsp, atI_nat (j := 0) rfl, _, rfl, (by show 2 ≤ sizeLine; decide), fun q hq => ?_⟩
      refine ⟨_, rfl, (by show 2 ≤ sizeLine; decide), fun y hy => ?_⟩
      have hs2 : Same H (upd (upd H q (.tup [.str sq.1, .int t2])) y (.tup [.ref q, .int n])) := (same_upd hq).trans (same_upd hy)
      obtain ⟨d, e5, e6⟩ := hc.call _ (Wp.hand hl hh) n hn
      refine ⟨ac, kc, ((sq.1, t2), n), y, d, rfl, rfl, (hc.more hs2).nc, ?_, e5, ?_⟩
      · exact im_tup.mpr ⟨y, _, rfl, upd_same, imAll_two (sp_im (s := (sq.1, t2)) ((same_upd hy) _ _ upd_same)) (im_int.mpr rfl)⟩
      · refine k d _ hs2 ?_
        rw [hfl]
        exact e6.more hs2
    | none =>
      rw [hh] at hfl hz
      have hz : hlV l.2.2 kd = -1 := hz
      rw [hz]
      refine ⟨_, rfl, _, _, rfl, rfl, false, congrArg V.bl (decide_eq_false (by omega)), iteF ?_⟩
      refine ⟨_, rfl, _, rfl, _, _, _, rfl, hv, ho, fun a H' hs' hg => ?_⟩
      rw [← show failHere p [sq] kd = .over (.fail kd) from hfl] at hg
      exact k a H' hs' hg

/-! ### behind_frame -/
def spBFrame (P : Program) (w : World) (C : Addr) (p : Prog) : Sp := fun vs H Q _ => ∃ c lt ac aw kc kw m s sp v e, ∃ n : Nat, vs = [.ref c, .ref sp, v, .int n] ∧ CAt P w C p H c lt ac aw kc kw m ∧ WF p ∧ n < m ∧ SpotOk p s ∧ H sp = some (.tup [.str s.1, .int s.2]) ∧
  Im H (endD e) v ∧ some e ∈ outs p ∧ ∀ a H', Same H H' → GoodAt p n (under p s (.over e)) H' a → Q (.ref a) H'
theorem scBFr : FnScope ["self", "spot", "end", "left"] ["self", "spot", "end", "left"] (defScope sBehindFrame) := ⟨rfl, rfl, rfl, by decide +kernel, rfl, by decide +kernel, by decide +kernel⟩
theorem bk_shaped' : SeqAt.shaped (.tuple [.str bkS]) = true := by decide +kernel
theorem ok_bFrame {p : Prog} {f gf : Addr} (F : At K "behind_frame" "Counts.behind_frame" sBehindFrame f) (T : Tx K mg) (BF : Ok P w K mg base 2 gf ["self", "spot", "end", "left"] (spBFault P w (cC K) p)) (mF : Meth K (cC K) "behind_fault" gf) :
    Ok P w K mg base 3 f ["self", "spot", "end", "left"] (spBFrame P w (cC K) p) := by
  refine mkOk F scBFr (fun _ _ _ _ _ _ us hl => match us, hl with | [_, _, _, _], _ => rfl) (fun vs H Q E h => ?_) (fun cdv A outer s H vs Q E hr h => ?_)
  · obtain ⟨c, lt, ac, aw, kc, kw, m, s, sp, v, k, n, rfl, _⟩ := h; rfl
  · obtain ⟨c, lt, ac, aw, kc, kw, m, sq, sp, v, e, n, rfl, hc, Wp, hn, hs, hsp, hv, ho, k⟩ := h
    obtain ⟨dx, hi⟩ := hc.ins
    refine ⟨_, pss_cons (ps_if (pt_cmpR (op_eqD hr.units) (pv 2) (pe_tup (pa_cons pe_str pa_nil)) (nomark _)) (pss_one (ps_ret (pe_nget hr.u9 (pe_fld (pv 0) rfl) (pe_tup (pa_cons (pv 1) (pa_cons (pv 3) pa_nil))) (fun _ _ => rfl)))) pss_nil)
      (pss_one (ps_ret (pe_methO BF hr (pv 0) T.clC mF (pa_cons (pv 1) (pa_cons (pv 2) (pa_cons (pv 3) pa_nil)))))), ?_⟩
    refine ⟨_, rfl, (by show 1 ≤ sizeLine; decide), fun q hq => ?_⟩
    have s1 : Same H (upd H q (.tup [.str "back"])) := same_upd hq
    have hi' : Im (upd H q (.tup [.str "back"])) (.tuple [.str bkS]) (.ref q) := im_tup.mpr ⟨q, _, rfl, upd_same, imAll_one (im_str.mpr rfl)⟩
    cases e with
    | back =>
      refine ⟨.tuple [.str bkS], .tuple [.str bkS], (hv.keep (Same.tup s1)).dp, hi'.dp, bk_shaped', bk_shaped', ?_⟩
      refine ⟨true, by rw [eqv_bk_bk], iteT ?_⟩
      refine ⟨_, rfl, c, cC K, dx, _, _, rfl, s1 _ _ hi, T.clC, T.nW, rfl, ?_⟩
      refine ⟨_, rfl, _, rfl, (by show 2 ≤ sizeLine; decide), fun y hy => ?_⟩
      have s2 := s1.trans (same_upd (o := .tup [.ref sp, .int n]) hy)
      obtain ⟨d, e5, e6⟩ := hc.way _ hs n hn
      refine ⟨aw, kw, (sq, n), y, d, rfl, rfl, (hc.more s2).nw, ?_, e5, k d _ s2 (e6.more s2)⟩
      exact im_tup.mpr ⟨y, _, rfl, upd_same, imAll_two (sp_im (s2 _ _ hsp)) (im_int.mpr rfl)⟩
    | fail kd =>
      refine ⟨.tuple [.str flS, .str kd], .tuple [.str bkS], (hv.keep (Same.tup s1)).dp, hi'.dp, shaped_fail (fail_nm Wp ho).1, bk_shaped', ?_⟩
      refine ⟨false, by rw [eqv_bk_fail], iteF ?_⟩
      refine ⟨_, rfl, c, dx, _, rfl, s1 _ _ hi, rfl, _, rfl, _, rfl, _, rfl, c, lt, ac, aw, kc, kw, m, sq, sp, v, kd, n, rfl, hc.more s1, Wp, hn, hs, s1 _ _ hsp, hv.keep (Same.tup s1), ho, fun a H' hs' hg => ?_⟩
      exact k a H' (s1.trans hs') hg
end
end K28

set_option Elab.async false
set_option linter.all false
set_option maxRecDepth 100000
set_option maxHeartbeats 400000
/-! class Counts: behind_call, from_spot, add_call. -/
namespace K28
open PySem PySem.Spec PyProof.Rows L2
/-- a dict that is ours to fill -/
def Free (H : Hp) (t : Addr) : Prop := H t = none ∨ ∃ d : Tab, H t = some (.dT (tabV d))
structure Tot (p : Prog) (H0 H : Hp) (t : Addr) (d : Tab) (f : (Outc → Nat) → Nat) : Prop where
  chg : Chg [t] H0 H
  fr : Free H0 t
  at' : H t = some (.dT (tabV d))
  acc : Acc p d f
section
variable {p : Prog} {H0 H H' : Hp} {t : Addr} {d : Tab} {f : (Outc → Nat) → Nat}
theorem Free.ne {o : HO} (h : Free H t) {a : Addr} (e : H a = some o) (n : ∀ d : Tab, o ≠ .dT (tabV d)) : a ≠ t := fun z => by
  rw [z] at e
  rcases h with h | ⟨d, h⟩
  · rw [e] at h; cases h
  · rw [e] at h; exact n d (Option.some.inj h)
theorem Tot.more (x : Tot p H0 H t d f) (s : Same H H') : Tot p H0 H' t d f := ⟨fun b o e n => s _ _ (x.chg b o e n), x.fr, s _ _ x.at', x.acc⟩
theorem Tot.put (x : Tot p H0 H t d f) {o : Outc} (ho : o ∈ outs p) (n : Nat) : Tot p H0 (upd H t (.dT (tabV (putT d o (getT d o + n))))) t (putT d o (getT d o + n)) fun w => f w + n * w o :=
  ⟨x.chg.trans (chg_upd (by simp)), x.fr, upd_same, x.acc.put ho n⟩
theorem Tot.tup (x : Tot p H0 H t d f) : TupK H0 H := x.chg.tup fun b hb xs e => by
  rw [List.mem_singleton.mp hb] at e
  rcases x.fr with h | ⟨d, h⟩
  · rw [e] at h; cases h
  · rw [e] at h; cases h
theorem Tot.keep (x : Tot p H0 H t d f) {a : Addr} {o : HO} (e : H0 a = some o) (n : ∀ d : Tab, o ≠ .dT (tabV d)) : H a = some o := x.chg a o e fun z => x.fr.ne e n (List.mem_singleton.mp z)
theorem Tot.good (x : Tot p H0 H t d f) {n : Nat} {c : Conf} {a : Addr} (g : GoodAt p n c H0 a) : GoodAt p n c H a := by
  obtain ⟨od, e, h, k⟩ := g
  exact ⟨od, e, x.keep h (by intro d z; cases z), k⟩
theorem Tot.cat {P : Program} {w : World} {C : Addr} {c lt ac aw : Addr} {kc kw : List (SK × Addr)} {m : Nat} (x : Tot p H0 H t d f) (h : CAt P w C p H0 c lt ac aw kc kw m) (hl : lt ≠ t) : CAt P w C p H c lt ac aw kc kw m := by
  obtain ⟨dx, h1⟩ := h.ins
  obtain ⟨kvs, h2, h3⟩ := h.lin
  obtain ⟨xs, h4, _⟩ := id h.nc
  obtain ⟨ys, h5, _⟩ := id h.nw
  refine ⟨⟨dx, x.keep h1 (by intro d z; cases z)⟩, ⟨kvs, x.chg _ _ h2 (fun z => hl (List.mem_singleton.mp z)), fun q l e => ?_⟩, h.nc.keep x.tup ((x.keep h4 (by unfold ndO; intro d z; cases z)).trans h4.symm), h.nw.keep x.tup ((x.keep h5 (by unfold ndO; intro d z; cases z)).trans h5.symm), fun q hq j hj => ?_, fun q hq j hj => ?_⟩
  · obtain ⟨v, e1, e2⟩ := h3 q l e
    exact ⟨v, e1, e2.keep x.tup⟩
  · obtain ⟨a, e1, e2⟩ := h.call q hq j hj
    exact ⟨a, e1, x.good e2⟩
  · obtain ⟨a, e1, e2⟩ := h.way q hq j hj
    exact ⟨a, e1, x.good e2⟩
theorem Tot.fun (x : Tot p H0 H t d f) {g : (Outc → Nat) → Nat} (h : ∀ w, f w = g w) : Tot p H0 H t d g := ⟨x.chg, x.fr, x.at', x.acc.congr h⟩
end
theorem wsum_take {g : Tab} {i : Nat} {o : Outc} {n : Nat} (h : g[i]? = some (o, n)) (w : Outc → Nat) : wsum (g.take (i + 1)) w = wsum (g.take i) w + n * w o := by
  rw [show g.take (i + 1) = g.take i ++ [(o, n)] by rw [List.take_add_one, h]; rfl]
  unfold wsum
  rw [List.map_append, List.sum_append]
  show _ + (n * w o + 0) = _
  rw [Nat.add_zero]
theorem tab_get {g : Tab} {i : Nat} {k : List Key} {v : V} (h : (tabV g)[i]? = some (k, v)) : ∃ o n, g[i]? = some (o, n) ∧ k = kT o ∧ v = .int (n : Nat) := by
  unfold tabV at h
  rw [List.getElem?_map] at h
  obtain ⟨x, hx, e⟩ := Option.map_eq_some_iff.mp h
  cases e
  exact ⟨x.1, x.2, hx, rfl, rfl⟩
theorem tabV_len (g : Tab) : (tabV g).length = g.length := List.length_map _
/-- for o, n in table.items(): add_to(totals, o, n) -/
theorem add_core {K : PySem.W.Frag} {p : Prog} (Wp : WF p) {H0 H : Hp} {t a : Addr} {d g : Tab} {f : (Outc → Nat) → Nat} {od : Obj} {iO iN iT : Nat} {mk : Option V → Option V → L2.St}
    (hset : ∀ x y v u, ((mk x y).set iO (some v)).set iN (some u) = mk (some v) (some u)) (hT : ∀ x y, (mk x y)[iT]? = some (some (.ref t))) (hO : ∀ v y, (mk (some v) y)[iO]? = some (some v)) (hN : ∀ x v, (mk x (some v))[iN]? = some (some v))
    (tot : Tot p H0 H t d f) (ha : H a = some (.frz od (.dT (tabV g)))) (hk : ∀ o ∈ g.map (·.1), o ∈ outs p) {D : Ends} {x y : Option V} (hd : ∀ x y H' d', Tot p H0 H' t d' (fun w => f w + wsum g w) → TupK H H' → D.nx (mk x y) H') :
    ∃ W : Nat → Nat → L2.St → Hp → Prop, (∃ m, W 0 m (mk x y) H) ∧ ∀ i m σ H, W i m σ H →
      ((ItIT a od (tabV g)).stop i H ∧ D.nx σ H) ∨ ((ItIT a od (tabV g)).go i H ∧ ∃ N : L2.St → Hp → Prop, (∀ σ' H', N σ' H' → ∃ m', m' < m ∧ W (i + 1) m' σ' H') ∧ ∀ x H', (ItIT a od (tabV g)).yld i H x H' →
        gTup K 2 (gCons (gName iO) (gCons (gName iN) gNil)) x σ H' fun σ2 H2 => tDrop (tCall spAddTo [] E0 (tCons (tVar iT) (tCons (tVar iO) (tCons (tVar iN) tNil)))) { D with nx := N, ct := N, bk := D.nx } σ2 H2) := by
  refine for_itemsT (fun i σ H' => ∃ x y d', σ = mk x y ∧ Tot p H0 H' t d' (fun w => f w + wsum (g.take i) w) ∧ H' a = some (.frz od (.dT (tabV g))) ∧ TupK H H') ⟨x, y, d, rfl, tot.fun fun w => (Nat.add_zero _).symm, ha, .refl H⟩ (fun i σ H' _ ⟨_, _, _, _, _, e, _⟩ => e) ?_ ?_
  · rintro i k v σ H' Tn q hi ⟨x, y, d', rfl, m, e, kt⟩ hTn hq
    obtain ⟨o, n, hg, rfl, rfl⟩ := tab_get hi
    have hog : o ∈ g.map (·.1) := List.mem_map.mpr ⟨(o, n), List.mem_of_getElem? hg, rfl⟩
    have m' := m.more (same_upd (o := .tup [.ref q, .int (n : Nat)]) hTn)
    refine ⟨Tn, _, rfl, .of upd_same, rfl, _, _, rfl, _, _, rfl, rfl, ?_⟩
    show tDrop _ _ (((mk x y).set iO (some (.ref q))).set iN (some (.int (n : Nat)))) _
    rw [hset]
    refine ⟨_, hT _ _, _, hO _ _, _, hN _ _, t, q, d', o, n, rfl, m'.at', m'.acc.nd, m'.acc.len Wp, same_upd hTn _ _ hq, ?_⟩
    refine ⟨_, _, _, rfl, ((m'.put (hk o hog) n).fun fun w => ?_), ?_, kt.trans ((Same.tup (same_upd hTn)).trans (tup_upd fun xs z => by rw [m'.at'] at z; cases z))⟩
    · rw [wsum_take hg]
      omega
    · rw [upd_ne (ne_of (same_upd hTn _ _ e) m'.at' (by intro z; cases z))]
      exact same_upd hTn _ _ e
  · rintro σ H' ⟨x, y, d', rfl, m, e, kt⟩
    rw [tabV_len, List.take_length] at m
    exact hd x y H' d' m kt
section
variable {P : Program} {w : World} {K : PySem.W.Frag} {mg : Str → Option Value} {base : Heap}
/-! ### behind_call -/
def spBCall (P : Program) (w : World) (C : Addr) (p : Prog) : Sp := fun vs H Q _ => ∃ c lt ac aw kc kw s sp, ∃ n : Nat, vs = [.ref c, .ref sp, .int n] ∧ CAt P w C p H c lt ac aw kc kw n ∧ WF p ∧ SpotOk p s ∧ H sp = some (.tup [.str s.1, .int s.2]) ∧
  ∀ a H', Same H H' → GoodAt p n (.run [s] false) H' a → Q (.ref a) H'
theorem scBC : FnScope ["self", "spot", "many", "totals", "way", "found", "outcome", "number"] ["self", "spot", "many"] (defScope sBehindCall) := ⟨rfl, rfl, rfl, by decide +kernel, rfl, by decide +kernel, by decide +kernel⟩
theorem way_shaped {wy : Way} (h : ∀ k, wy = .fail k → NmOk k) (hn : ∀ n, wy ≠ .num n) : SeqAt.shaped (wayD wy) = true := by
  cases wy with
  | num n => exact absurd rfl (hn n)
  | back => exact bk_shaped'
  | fail k => exact shaped_fail (h k rfl).1
theorem ok_bCall {p : Prog} {f ga go gf : Addr} (F : At K "behind_call" "Counts.behind_call" sBehindCall f) (T : Tx K mg) (AT : Ok P w K mg base 1 ga ["totals", "outcome", "many"] spAddTo) (mgA : mg "add_to" = some (.ref ga))
    (OV : Ok P w K mg base 1 go ["end", "left"] (spOverIf p)) (mgO : mg "over_if" = some (.ref go)) (BF : Ok P w K mg base 2 gf ["self", "spot", "end", "left"] (spBFault P w (cC K) p)) (mF : Meth K (cC K) "behind_fault" gf) :
    Ok P w K mg base 3 f ["self", "spot", "many"] (spBCall P w (cC K) p) := by
  refine mkOk F scBC (fun _ _ _ _ _ _ us hl => match us, hl with | [_, _, _], _ => rfl) (fun vs H Q E h => ?_) (fun cdv A outer s H vs Q E hr h => ?_)
  · obtain ⟨c, lt, ac, aw, kc, kw, s, sp, n, rfl, _⟩ := h; rfl
  · obtain ⟨c, lt, ac, aw, kc, kw, sq, sp, n, rfl, hc, Wp, hs, hsp, k⟩ := h
    have hr1 : Room 1 _ := hr.mono (by decide)
    obtain ⟨l, hl⟩ := id hs
    obtain ⟨dx, hi⟩ := hc.ins
    obtain ⟨lsx, _, lm1, lm2⟩ := line_mem hl
    refine ⟨_, pss_cons (ps_if (pt_cmpR op_eq (pv 2) pe_int (nomark _)) (pss_one (ps_ret (pe_frz (pe_dispT hr.u0 (pe_tup pa_nil) pe_int)))) pss_nil)
      (pss_cons (ps_set (i := 3) scBC.nd rfl (Or.inl rfl) pe_dnewT)
      (pss_cons (ps_for PassesOwn.never rfl (pi_tup (pe_ix ix_tup (pe_dget hr.u1 (pe_fld (pv 0) rfl) (pv 1) (fun _ _ => rfl)) pe_int (fun _ _ => rfl))) (pg_name (i := 4) scBC.nd rfl (Or.inl rfl))
        (pss_cons (ps_if (pt_val (pe_callB call_isi (by rfl) T.isi PyProof.Rows.boot_isinstance (pa_cons (pv 4) (pa_cons (pe_bltn (v := .ty "int") (by rfl) T.int PyProof.Rows.boot_int rfl) pa_nil))))
          (pss_one (ps_set (i := 5) scBC.nd rfl (Or.inl rfl) (pe_nget hr.u9 (pe_fld (pv 0) rfl) (pe_tup (pa_cons (pe_tup (pa_cons (pe_ix ix_tup (pv 1) pe_int (fun _ _ => rfl)) (pa_cons (pv 4) pa_nil))) (pa_cons (pe_op op_sub (pv 2) pe_int) pa_nil))) (fun _ _ => rfl))))
          (pss_one (ps_if (pt_cmpR (op_eqD hr.units) (pv 4) (pe_tup (pa_cons pe_str pa_nil)) (nomark _))
            (pss_one (ps_set (i := 5) scBC.nd rfl (Or.inl rfl) (pe_callO OV hr1 (by rfl) mgO (pa_cons (pv 4) (pa_cons (pe_op op_sub (pv 2) pe_int) pa_nil)))))
            (pss_one (ps_set (i := 5) scBC.nd rfl (Or.inl rfl) (pe_methO BF hr (pv 0) T.clC mF (pa_cons (pv 1) (pa_cons (pv 4) (pa_cons (pe_op op_sub (pv 2) pe_int) pa_nil)))))))))
        (pss_one (ps_for PassesOwn.never rfl (pi_itemsT (pv 5)) (pg_tup (by rfl) (pgs_cons (pg_name (i := 6) scBC.nd rfl (Or.inl rfl)) (pgs_cons (pg_name (i := 7) scBC.nd rfl (Or.inl rfl)) pgs_nil)))
          (pss_one (ps_expr (pe_callO AT hr1 (by rfl) mgA (pa_cons (pv 3) (pa_cons (pv 6) (pa_cons (pv 7) pa_nil))))))))))
      (pss_one (ps_ret (pe_frz (pv 3)))))), ?_⟩
    refine ⟨_, rfl, rfl, _, rfl, ?_⟩
    cases n with
    | zero =>
      refine iteT ?_
      intro a ha
      refine ⟨Nat.zero_le _, fun b hb => ?_⟩
      have nab : a ≠ b := fun q => by rw [← q, upd_same] at hb; cases hb
      have hb0 : H b = none := by rw [upd_ne nab.symm] at hb; exact hb
      refine ⟨b, kT none, rfl, upd_same, by rw [upd_ne nab, upd_same], a, _, rfl, upd_same, trivial, fun od => ?_⟩
      refine k a _ (fun x u hx => ?_) ⟨od, [(none, 1)], upd_same, ?_⟩
      · have nx := ne_of_none hx ha
        rw [upd_ne nx, upd_ne nx, upd_ne (ne_of_none hx hb0), upd_ne nx]; exact hx
      · refine ⟨fun w => ?_, by simp, fun o hx => ?_⟩
        · rw [wsum_cons]
          show 1 * w none + 0 = w none
          omega
        · rw [List.mem_singleton.mp hx]; exact List.mem_cons_self
    | succ n =>
      rw [show decide (V.int ((n + 1 : Nat) : Int) = V.int 0) = false from decide_eq_false (by intro z; have := V.int.inj z; omega)]
      refine iteF ?_
      intro t ht
      have tot0 : Tot p H (upd H t (.dT [])) t [] (fun _ => 0) := ⟨chg_upd (by simp), .inl ht, upd_same, .nil p⟩
      have s0 : Same H (upd H t (.dT [])) := same_upd ht
      obtain ⟨lv, g1, g2⟩ := (hc.more s0).line hl (s0 _ _ hsp)
      obtain ⟨tl, cs, ws, z, rfl, e1, _, ⟨wsx, e2, e3⟩, _⟩ := im_line g2
      have hlt : lt ≠ t := by
        obtain ⟨kvs, q, _⟩ := hc.lin
        exact ne_of_none q ht
      refine ⟨_, rfl, c, cC K, dx, _, _, rfl, s0 _ _ hi, T.clC, T.nL, rfl, _, rfl, lt, _, rfl, g1, ?_⟩
      refine ⟨tl, _, 1, _, rfl, rfl, .of e1, atI_nat (j := 1) rfl, ws, rfl, ⟨wsx, .of e2⟩, ?_⟩
      refine for_tup (K := K) (a := ws) (xs := wsx) (fun i σ H' => ∃ v4 v5 v6 v7 d, σ = [some (.ref c), some (.ref sp), some (.int ((n + 1 : Nat) : Int)), some (.ref t), v4, v5, v6, v7] ∧ Tot p H H' t d (fun w => sm i fun k => K28.T p w n (step p (.run [sq] false) k)) ∧ TupK (upd H t (.dT [])) H')
        ⟨none, none, none, none, [], rfl, tot0, .refl _⟩ (fun i σ H' _ ⟨_, _, _, _, _, _, _, kt⟩ => .of (kt _ _ e2)) ?_ ?_
      · rintro i x σ H' hx ⟨v4, v5, v6, v7, d, rfl, m, kt⟩
        obtain ⟨wd, hwd, hxi⟩ := e3.getV hx
        rw [List.getElem?_map] at hwd
        obtain ⟨wy, hwy, rfl⟩ := Option.map_eq_some_iff.mp hwd
        have hmem : wy ∈ l.2.1 := List.mem_of_getElem? hwy
        have est : step p (.run [sq] false) i = stepWay p sq [] (some wy) := by
          show stepWay p sq [] (lineD p sq).2.1[i]? = _
          rw [lineD_of hl, hwy]
        have hcm := m.cat hc hlt
        have hi' : H' c = some (.ins (cC K) dx (cF lt ac aw)) := m.keep hi (by intro d z; cases z)
        have hsp' : H' sp = some (.tup [.str sq.1, .int sq.2]) := m.keep hsp (by intro d z; cases z)
        have hxi' := hxi.keep kt
        have inner : ∀ (D : Ends) (a : Addr) (H'' : Hp), (∀ v6 v7 d' H3, Tot p H H3 t d' (fun w => sm (i + 1) fun k => K28.T p w n (step p (.run [sq] false) k)) → TupK (upd H t (.dT [])) H3 → D.nx [some (.ref c), some (.ref sp), some (.int ((n + 1 : Nat) : Int)), some (.ref t), some x, some (.ref a), v6, v7] H3) →
            Same H' H'' → GoodAt p n (step p (.run [sq] false) i) H'' a →
            tFor (iItemsT (tVar 5)) (gTup K 2 (gCons (gName 6) (gCons (gName 7) gNil))) (tDrop (tCall spAddTo [] E0 (tCons (tVar 3) (tCons (tVar 6) (tCons (tVar 7) tNil))))) D [some (.ref c), some (.ref sp), some (.int ((n + 1 : Nat) : Int)), some (.ref t), some x, some (.ref a), v6, v7] H'' := by
          intro D a H'' hD s2 ⟨od, g, hg, gg⟩
          refine ⟨_, rfl, a, od, _, rfl, hg, ?_⟩
          refine add_core Wp (t := t) (iO := 6) (iN := 7) (iT := 3) (mk := fun x6 x7 => [some (.ref c), some (.ref sp), some (.int ((n + 1 : Nat) : Int)), some (.ref t), some x, some (.ref a), x6, x7]) (fun _ _ _ _ => rfl) (fun _ _ => rfl) (fun _ _ => rfl) (fun _ _ => rfl) (m.more s2) hg gg.keys fun x6 x7 H3 d' m3 k3 => ?_
          exact hD x6 x7 d' H3 (m3.fun fun w => by rw [gg.eq]; rfl) (kt.trans ((Same.tup s2).trans k3))
        cases wy with
        | num j =>
          have ex : x = .int (j : Int) := im_int.mp hxi
          subst ex
          refine ⟨_, rfl, _, _, _, _, true, rfl, .ty "int", .base (.int j), kit_ty (by decide +kernel), _, rfl, iteT ?_⟩
          refine ⟨_, rfl, c, cC K, dx, _, _, rfl, hi', T.clC, T.nC, rfl, ?_⟩
          refine ⟨_, rfl, sp, _, 0, _, rfl, rfl, .of hsp', atI_nat (j := 0) rfl, _, rfl, (by show 2 ≤ sizeLine; decide), fun q hq => ?_⟩
          refine ⟨_, rfl, _, _, rfl, rfl, (by show 2 ≤ sizeLine; decide), fun y hy => ?_⟩
          have hs2 : Same H' _ := (same_upd (o := .tup [.str sq.1, .int j]) hq).trans (same_upd (o := .tup [.ref q, .int (((n + 1 : Nat) : Int) - 1)]) hy)
          obtain ⟨dd, e5, e6⟩ := hcm.call _ (Wp.way hl hmem) n (Nat.lt_succ_self n)
          refine ⟨ac, kc, ((sq.1, j), n), y, dd, rfl, rfl, (hcm.more hs2).nc, ?_, e5, ?_⟩
          · exact im_tup.mpr ⟨y, _, rfl, upd_same, imAll_two (sp_im (s := (sq.1, j)) ((same_upd hy) _ _ upd_same)) (im_int.mpr (congrArg V.int (by omega)))⟩
          · refine inner _ dd _ (fun v6 v7 d' H3 m3 k3 => ⟨_, _, v6, v7, d', rfl, m3, k3⟩) hs2 ?_
            rw [est]
            exact e6.more hs2
        | back =>
          obtain ⟨b, rfl, hb⟩ := im_out (o := some .back).mp hxi
          have hb' := kt _ _ hb
          refine ⟨_, rfl, _, _, _, _, false, rfl, .ty "int", .base (.tup hb'), kit_ty (by decide +kernel), _, rfl, iteF ?_⟩
          refine ⟨_, rfl, (by show 1 ≤ sizeLine; decide), fun q hq => ?_⟩
          have s1 : Same H' (upd H' q (.tup [.str "back"])) := same_upd hq
          have him : Im (upd H' q (.tup [.str "back"])) (.tuple [.str bkS]) (.ref q) := im_tup.mpr ⟨q, _, rfl, upd_same, imAll_one (im_str.mpr rfl)⟩
          refine ⟨.tuple [.str bkS], .tuple [.str bkS], (hxi'.keep (Same.tup s1)).dp, him.dp, bk_shaped', bk_shaped', ?_⟩
          refine ⟨true, by rw [eqv_bk_bk], iteT ?_⟩
          refine ⟨_, rfl, _, rfl, _, _, rfl, rfl, .ref b, .back, n, congrArg (fun z => [V.ref b, V.int z]) (by omega), hxi'.keep (Same.tup s1), List.mem_cons_of_mem _ List.mem_cons_self, fun a H'' s2 hg => ?_⟩
          refine inner _ a _ (fun v6 v7 d' H3 m3 k3 => ⟨_, _, v6, v7, d', rfl, m3, k3⟩) (s1.trans s2) ?_
          rw [est]
          exact hg
        | fail kd =>
          obtain ⟨b, rfl, hb⟩ := im_out (o := some (.fail kd)).mp hxi
          have hb' := kt _ _ hb
          refine ⟨_, rfl, _, _, _, _, false, rfl, .ty "int", .base (.tup hb'), kit_ty (by decide +kernel), _, rfl, iteF ?_⟩
          refine ⟨_, rfl, (by show 1 ≤ sizeLine; decide), fun q hq => ?_⟩
          have s1 : Same H' (upd H' q (.tup [.str "back"])) := same_upd hq
          have him : Im (upd H' q (.tup [.str "back"])) (.tuple [.str bkS]) (.ref q) := im_tup.mpr ⟨q, _, rfl, upd_same, imAll_one (im_str.mpr rfl)⟩
          have ho := fail_out lm1 lm2 hmem
          refine ⟨.tuple [.str flS, .str kd], .tuple [.str bkS], (hxi'.keep (Same.tup s1)).dp, him.dp, shaped_fail (fail_nm Wp ho).1, bk_shaped', ?_⟩
          refine ⟨false, by rw [eqv_bk_fail], iteF ?_⟩
          refine ⟨_, rfl, c, dx, _, rfl, s1 _ _ hi', rfl, _, rfl, _, rfl, _, rfl, _, _, rfl, rfl, c, lt, ac, aw, kc, kw, n + 1, sq, sp, .ref b, kd, n, congrArg (fun z => [V.ref c, V.ref sp, V.ref b, V.int z]) (by omega), hcm.more s1, Wp, Nat.lt_succ_self n, hs, s1 _ _ hsp', hxi'.keep (Same.tup s1), ho, fun a H'' s2 hg => ?_⟩
          refine inner _ a _ (fun v6 v7 d' H3 m3 k3 => ⟨_, _, v6, v7, d', rfl, m3, k3⟩) (s1.trans s2) ?_
          rw [est]
          exact hg
      · rintro σ H' ⟨v4, v5, v6, v7, d, rfl, m, kt⟩
        refine ⟨_, rfl, t, _, rfl, m.at', trivial, fun od => ?_⟩
        refine k t _ (fun b o e => ?_) ⟨od, d, upd_same, Acc.good (m.acc.congr fun w => ?_)⟩
        · have nb := ne_of_none e ht
          rw [upd_ne nb]
          exact m.chg b o e fun z => nb (List.mem_singleton.mp z)
        · rw [e3.length, List.length_map]
          show _ = sm (lineD p sq).2.1.length _
          rw [lineD_of hl]
end
end K28

set_option Elab.async false
set_option linter.all false
set_option maxRecDepth 100000
set_option maxHeartbeats 400000
/-! class Counts: add_call, from_spot. -/
namespace K28
open PySem PySem.Spec PyProof.Rows L2
theorem out_shaped {p : Prog} (W : WF p) {o : Outc} (ho : o ∈ outs p) : SeqAt.shaped (outD o) = true := by
  cases o with
  | none => show SeqAt.shaped (.tuple []) = true; decide +kernel
  | some e =>
    cases e with
    | back => exact bk_shaped'
    | fail k => exact shaped_fail (fail_nm W ho).1
theorem eqv_none : PyData.eqv (outD none) (.tuple []) = true := by decide +kernel
theorem eqv_some (e : End) : PyData.eqv (outD (some e)) (.tuple []) = false := by
  cases e with
  | back => decide +kernel
  | fail k => simp [outD, endD, PyData.eqv, PyData.eqvAll]
section
variable {P : Program} {w : World} {K : PySem.W.Frag} {mg : Str → Option Value} {base : Heap}
def spAddCall (P : Program) (w : World) (C : Addr) (p : Prog) : Sp := fun vs H Q _ => ∃ c lt ac aw kc kw m s sp nm t d f, ∃ m0 : Nat, vs = [.ref c, .ref sp, .str nm, .int m0, .ref t] ∧ CAt P w C p H c lt ac aw kc kw m ∧ WF p ∧ m0 < m ∧ m ≤ 16 ∧ SpotOk p s ∧ SpotOk p (nm, 0) ∧ H sp = some (.tup [.str s.1, .int s.2]) ∧
  H t = some (.dT (tabV d)) ∧ lt ≠ t ∧ Acc p d f ∧ ∀ d' H', Tot p H H' t d' (fun w => f w + T p w m0 (.run [(nm, 0), s] true)) → Q .non H'
theorem scAC : FnScope ["self", "spot", "name", "many", "totals", "used", "end", "number", "outcome", "ways"] ["self", "spot", "name", "many", "totals"] (defScope sAddCall) := ⟨rfl, rfl, rfl, by decide +kernel, rfl, by decide +kernel, by decide +kernel⟩
theorem ok_addCall {p : Prog} {f ga gf : Addr} (F : At K "add_call" "Counts.add_call" sAddCall f) (Tx : Tx K mg) (AT : Ok P w K mg base 1 ga ["totals", "outcome", "many"] spAddTo) (mgA : mg "add_to" = some (.ref ga))
    (BF : Ok P w K mg base 3 gf ["self", "spot", "end", "left"] (spBFrame P w (cC K) p)) (mF : Meth K (cC K) "behind_frame" gf) :
    Ok P w K mg base 4 f ["self", "spot", "name", "many", "totals"] (spAddCall P w (cC K) p) := by
  refine mkOk F scAC (fun _ _ _ _ _ _ us hl => match us, hl with | [_, _, _, _, _], _ => rfl) (fun vs H Q E h => ?_) (fun cdv A outer s H vs Q E hr h => ?_)
  · obtain ⟨c, lt, ac, aw, kc, kw, m, s, sp, nm, t, d, f, m0, rfl, _⟩ := h; rfl
  · obtain ⟨c, lt, ac, aw, kc, kw, m, sq, sp, nm, t, d, f, m0, rfl, hc, Wp, hm0, hm16, hs, hnm, hsp, ht, hlt, hacc, k⟩ := h
    have hr1 : Room 1 _ := hr.mono (by decide)
    obtain ⟨dx, hi⟩ := hc.ins
    refine ⟨_, pss_one (ps_for PassesOwn.never rfl (pi_range1 (by rfl) Tx.range (pa_cons (pe_op op_add (pv 3) pe_int) pa_nil)) (pg_name (i := 5) scAC.nd rfl (Or.inl rfl))
      (pss_one (ps_for PassesOwn.never rfl (pi_itemsT (pe_nget hr.u9 (pe_fld (pv 0) rfl) (pe_tup (pa_cons (pe_tup (pa_cons (pv 2) (pa_cons pe_int pa_nil))) (pa_cons (pv 5) pa_nil))) (fun _ _ => rfl))) (pg_tup (by rfl) (pgs_cons (pg_name (i := 6) scAC.nd rfl (Or.inl rfl)) (pgs_cons (pg_name (i := 7) scAC.nd rfl (Or.inl rfl)) pgs_nil)))
        (pss_one (ps_if (pt_cmpR (op_eqD hr.units) (pv 6) (pe_tup pa_nil) (nomark _))
          (pss_one (ps_if (pt_cmpR op_eq (pv 5) (pv 3) (nomark _)) (pss_one (ps_expr (pe_callO AT hr1 (by rfl) mgA (pa_cons (pv 4) (pa_cons (pe_tup pa_nil) (pa_cons (pv 7) pa_nil)))))) pss_nil))
          (pss_one (ps_for PassesOwn.never rfl (pi_itemsT (pe_methO BF hr (pv 0) Tx.clC mF (pa_cons (pv 1) (pa_cons (pv 6) (pa_cons (pe_op op_sub (pv 3) (pv 5)) pa_nil))))) (pg_tup (by rfl) (pgs_cons (pg_name (i := 8) scAC.nd rfl (Or.inl rfl)) (pgs_cons (pg_name (i := 9) scAC.nd rfl (Or.inl rfl)) pgs_nil)))
            (pss_one (ps_expr (pe_callO AT hr1 (by rfl) mgA (pa_cons (pv 4) (pa_cons (pv 8) (pa_cons (pe_op op_mul (pv 7) (pv 9)) pa_nil))))))))))))), ?_⟩
    refine ⟨_, rfl, _, _, rfl, rfl, _, rfl, by omega, by omega, ?_⟩
    rw [show ((m0 : Int) + 1).toNat = m0 + 1 by omega]
    have tot0 : Tot p H H t d f := ⟨.refl _ _, .inr ⟨d, ht⟩, ht, hacc⟩
    refine for_range (fun u σ H' => ∃ v5 v6 v7 v8 v9 d', σ = [some (.ref c), some (.ref sp), some (.str nm), some (.int m0), some (.ref t), v5, v6, v7, v8, v9] ∧ Tot p H H' t d' (fun w => f w + sm u fun u => T p (phi p sq w m0 u) u (.run [(nm, 0)] true)))
      ⟨none, none, none, none, none, d, rfl, tot0.fun fun w => (Nat.add_zero _).symm⟩ ?_ ?_
    · rintro u σ H' hu ⟨v5, v6, v7, v8, v9, d1, rfl, m1⟩
      rw [show V.int (0 + ((u : Nat) : Int)) = V.int (u : Nat) by rw [Int.zero_add]]
      have hcm := m1.cat hc hlt
      have hi' : H' c = some (.ins (cC K) dx (cF lt ac aw)) := m1.keep hi (by intro d z; cases z)
      obtain ⟨dd, e5, od, g, hg, gg⟩ := hc.call _ hnm u (by omega)
      refine ⟨_, rfl, c, cC K, dx, _, _, rfl, hi', Tx.clC, Tx.nC, rfl, ?_⟩
      refine ⟨_, rfl, (by show 2 ≤ sizeLine; decide), fun q hq => ?_⟩
      refine ⟨_, rfl, (by show 2 ≤ sizeLine; decide), fun y hy => ?_⟩
      have hs2 : Same H' _ := (same_upd (o := .tup [.str nm, .int 0]) hq).trans (same_upd (o := .tup [.ref q, .int (u : Nat)]) hy)
      refine ⟨ac, kc, ((nm, 0), u), y, dd, rfl, rfl, (hcm.more hs2).nc, ?_, e5, ?_⟩
      · exact im_tup.mpr ⟨y, _, rfl, upd_same, imAll_two (sp_im (s := (nm, 0)) ((same_upd hy) _ _ upd_same)) (im_int.mpr rfl)⟩
      have m2 := m1.more hs2
      have hg' : ∀ {H2 : Hp} {d2 : Tab} {f2}, Tot p H H2 t d2 f2 → H2 dd = some (.frz od (.dT (tabV g))) := fun x => x.keep hg (by intro d z; cases z)
      refine ⟨dd, od, _, rfl, hg' m2, ?_⟩
      refine for_itemsT (fun j σ H2 => ∃ v6 v7 v8 v9 d', σ = [some (.ref c), some (.ref sp), some (.str nm), some (.int m0), some (.ref t), some (.int (u : Nat)), v6, v7, v8, v9] ∧ Tot p H H2 t d' (fun w => (f w + sm u fun u => T p (phi p sq w m0 u) u (.run [(nm, 0)] true)) + wsum (g.take j) (phi p sq w m0 u)))
        ⟨_, _, _, _, d1, rfl, m2.fun fun w => (Nat.add_zero _).symm⟩ (fun j σ H2 _ ⟨_, _, _, _, _, _, x⟩ => hg' x) ?_ ?_
      · rintro j kk vv σ H2 Tn qk hj ⟨v6, v7, v8, v9, d2, rfl, m3⟩ hTn hqk
        obtain ⟨o, n, hgo, rfl, rfl⟩ := tab_get hj
        have hmem : (o, n) ∈ g := List.mem_of_getElem? hgo
        have hog : o ∈ outs p := gg.keys o (List.mem_map.mpr ⟨(o, n), hmem, rfl⟩)
        have s4 : Same H2 (upd H2 Tn (.tup [.ref qk, .int (n : Nat)])) := same_upd hTn
        have m4 := m3.more s4
        refine ⟨Tn, _, rfl, .of upd_same, rfl, _, _, rfl, _, _, rfl, rfl, ?_⟩
        refine ⟨_, rfl, Nat.zero_le _, fun e0 he0 => ?_⟩
        have s5 : Same _ (upd (upd H2 Tn (.tup [.ref qk, .int (n : Nat)])) e0 (.tup [])) := same_upd he0
        have m5 := m4.more s5
        have hq5 := s5 _ _ (s4 _ _ hqk)
        have him : Im _ (outD o) (.ref qk) := im_out.mpr ⟨qk, rfl, hq5⟩
        have hi0 : Im (upd (upd H2 Tn (.tup [.ref qk, .int (n : Nat)])) e0 (.tup [])) (outD none) (.ref e0) := im_out.mpr ⟨e0, rfl, upd_same⟩
        refine ⟨outD o, .tuple [], him.dp, hi0.dp, out_shaped Wp hog, out_shaped Wp (o := none) List.mem_cons_self, ?_⟩
        cases o with
        | none =>
          refine ⟨true, by rw [eqv_none], iteT ?_⟩
          refine ⟨_, rfl, _, rfl, rfl, _, rfl, ?_⟩
          by_cases hum : u = m0
          · rw [show decide (V.int ((u : Nat) : Int) = V.int (m0 : Nat)) = true from decide_eq_true (by rw [hum])]
            refine iteT ?_
            refine ⟨_, rfl, Nat.zero_le _, fun b hb => ?_⟩
            have m6 := m5.more (same_upd (o := .tup []) hb)
            refine ⟨_, rfl, t, b, d2, none, n, rfl, m6.at', m6.acc.nd, m6.acc.len Wp, upd_same, ?_⟩
            refine ⟨_, _, _, _, _, rfl, (m6.put hog n).fun fun w => ?_⟩
            rw [wsum_take hgo, show phi p sq w m0 u none = w none from if_pos hum]
            omega
          · rw [show decide (V.int ((u : Nat) : Int) = V.int (m0 : Nat)) = false from decide_eq_false (by intro z; exact hum (Int.ofNat.inj (V.int.inj z)))]
            refine iteF ?_
            refine ⟨_, _, _, _, _, rfl, m5.fun fun w => ?_⟩
            rw [wsum_take hgo, show phi p sq w m0 u none = 0 from if_neg hum]
            omega
        | some e =>
          refine ⟨false, by rw [eqv_some], iteF ?_⟩
          have hcm5 := m5.cat hc hlt
          obtain ⟨dx5, hi5⟩ := hcm5.ins
          refine ⟨_, rfl, c, dx5, _, rfl, hi5, rfl, _, rfl, _, rfl, _, rfl, _, rfl, _, _, rfl, rfl, ?_⟩
          refine ⟨c, lt, ac, aw, kc, kw, m, sq, sp, .ref qk, e, m0 - u, congrArg (fun z => [V.ref c, V.ref sp, V.ref qk, V.int z]) (by omega), hcm5, Wp, by omega, hs, m5.keep hsp (by intro d z; cases z), him, hog, fun a H6 s6 ⟨od2, g2, hg2, gg2⟩ => ?_⟩
          have m6 := m5.more s6
          refine ⟨a, od2, _, rfl, hg2, ?_⟩
          refine for_itemsT (fun i σ H3 => ∃ v8 v9 d', σ = [some (.ref c), some (.ref sp), some (.str nm), some (.int m0), some (.ref t), some (.int (u : Nat)), some (.ref qk), some (.int (n : Nat)), v8, v9] ∧
              Tot p H H3 t d' (fun w => ((f w + sm u fun u => T p (phi p sq w m0 u) u (.run [(nm, 0)] true)) + wsum (g.take j) (phi p sq w m0 u)) + n * wsum (g2.take i) w) ∧ H3 a = some (.frz od2 (.dT (tabV g2))))
            ⟨_, _, d2, rfl, m6.fun fun w => (Nat.add_zero _).symm, hg2⟩ (fun i σ H3 _ ⟨_, _, _, _, _, x⟩ => x) ?_ ?_
          · rintro i k2 v2 σ H3 T2 q2 hi2 ⟨v8, v9, d3, rfl, m7, ha7⟩ hT2 hq2
            obtain ⟨o2, n2, hgo2, rfl, rfl⟩ := tab_get hi2
            have hog2 : o2 ∈ outs p := gg2.keys o2 (List.mem_map.mpr ⟨(o2, n2), List.mem_of_getElem? hgo2, rfl⟩)
            have s8 : Same H3 (upd H3 T2 (.tup [.ref q2, .int (n2 : Nat)])) := same_upd hT2
            have m8 := m7.more s8
            have hle : n ≤ 16 ^ u := by
              have h1 := wsum_le g hmem
              rw [gg.eq] at h1
              exact Nat.le_trans h1 (T_le (widths Wp) _ _)
            have hpow : 16 ^ u < 2 ^ 64 := Nat.lt_of_le_of_lt (Nat.pow_le_pow_right (by decide) (show u ≤ 15 by omega)) (by decide)
            have hlt64 : (n : Int) < 2 ^ 64 := by
              have h2 : n < 2 ^ 64 := Nat.lt_of_le_of_lt hle hpow
              omega
            refine ⟨T2, _, rfl, .of upd_same, rfl, _, _, rfl, _, _, rfl, rfl, ?_⟩
            refine ⟨_, rfl, _, rfl, _, rfl, _, rfl, _, _, rfl, rfl, .inl ⟨by omega, hlt64⟩, ?_⟩
            refine ⟨t, q2, d3, o2, n * n2, congrArg (fun z => [V.ref t, V.ref q2, V.int z]) (by rw [Int.natCast_mul]), m8.at', m8.acc.nd, m8.acc.len Wp, s8 _ _ hq2, ?_⟩
            refine ⟨_, _, _, rfl, (m8.put hog2 (n * n2)).fun fun w => ?_, ?_⟩
            · rw [wsum_take hgo2, Nat.mul_add, Nat.mul_assoc]
              omega
            · rw [upd_ne (ne_of (s8 _ _ ha7) m8.at' (by intro z; cases z))]
              exact s8 _ _ ha7
          · rintro σ H3 ⟨v8, v9, d3, rfl, m7, _⟩
            rw [tabV_len, List.take_length] at m7
            refine ⟨_, _, _, _, d3, rfl, m7.fun fun w => ?_⟩
            rw [wsum_take hgo, gg2.eq]
            show _ = _ + (_ + n * T p w (m0 - u) (under p sq (.over e)))
            omega
      · rintro σ H2 ⟨v6, v7, v8, v9, d2, rfl, m3⟩
        rw [tabV_len, List.take_length] at m3
        refine ⟨_, _, _, _, _, d2, rfl, m3.fun fun w => ?_⟩
        rw [gg.eq]
        show _ = f w + (sm u _ + T p (phi p sq w m0 u) u (.run [(nm, 0)] true))
        omega
    · rintro σ H' ⟨v5, v6, v7, v8, v9, d1, rfl, m1⟩
      refine k d1 H' (m1.fun fun w => ?_)
      have h := T_under p sq w m0 (.run [(nm, 0)] true) (List.cons_ne_nil _ _)
      rw [← h]; rfl
end
end K28

set_option Elab.async false
set_option linter.all false
set_option maxRecDepth 100000
set_option maxHeartbeats 400000
/-! class Counts: from_spot. -/
namespace K28
open PySem PySem.Spec PyProof.Rows L2
section
variable {P : Program} {w : World} {K : PySem.W.Frag} {mg : Str → Option Value} {base : Heap}
def spFSpot (P : Program) (w : World) (C : Addr) (p : Prog) : Sp := fun vs H Q _ => ∃ c lt ac aw kc kw s sp, ∃ n : Nat, vs = [.ref c, .ref sp, .int n] ∧ CAt P w C p H c lt ac aw kc kw n ∧ WF p ∧ n ≤ 16 ∧ SpotOk p s ∧ H sp = some (.tup [.str s.1, .int s.2]) ∧
  ∀ a H', Same H H' → GoodAt p n (.run [s] true) H' a → Q (.ref a) H'
theorem scFS : FnScope ["self", "spot", "many", "totals", "name", "outcome", "number"] ["self", "spot", "many"] (defScope sFromSpot) := ⟨rfl, rfl, rfl, by decide +kernel, rfl, by decide +kernel, by decide +kernel⟩
theorem ok_fSpot {p : Prog} {f ga gc : Addr} (F : At K "from_spot" "Counts.from_spot" sFromSpot f) (Tx : Tx K mg) (AT : Ok P w K mg base 1 ga ["totals", "outcome", "many"] spAddTo) (mgA : mg "add_to" = some (.ref ga))
    (AC : Ok P w K mg base 4 gc ["self", "spot", "name", "many", "totals"] (spAddCall P w (cC K) p)) (mA : Meth K (cC K) "add_call" gc) :
    Ok P w K mg base 5 f ["self", "spot", "many"] (spFSpot P w (cC K) p) := by
  refine mkOk F scFS (fun _ _ _ _ _ _ us hl => match us, hl with | [_, _, _], _ => rfl) (fun vs H Q E h => ?_) (fun cdv A outer s H vs Q E hr h => ?_)
  · obtain ⟨c, lt, ac, aw, kc, kw, s, sp, n, rfl, _⟩ := h; rfl
  · obtain ⟨c, lt, ac, aw, kc, kw, sq, sp, n, rfl, hc, Wp, hn16, hs, hsp, k⟩ := h
    have hr1 : Room 1 _ := hr.mono (by decide)
    obtain ⟨l, hl⟩ := id hs
    obtain ⟨dx, hi⟩ := hc.ins
    refine ⟨_, pss_cons (ps_if (pt_cmpR op_eq (pv 2) pe_int (nomark _)) (pss_one (ps_ret (pe_frz (pe_dispT hr.u0 (pe_tup pa_nil) pe_int)))) pss_nil)
      (pss_cons (ps_set (i := 3) scFS.nd rfl (Or.inl rfl) pe_dnewT)
      (pss_cons (ps_for PassesOwn.never rfl (pi_tup (pe_ix ix_tup (pe_dget hr.u1 (pe_fld (pv 0) rfl) (pv 1) (fun _ _ => rfl)) pe_int (fun _ _ => rfl))) (pg_name (i := 4) scFS.nd rfl (Or.inl rfl))
        (pss_one (ps_if (pt_cmpR op_eq (pv 4) pe_str (nomark _))
          (pss_one (ps_for PassesOwn.never rfl (pi_itemsT (pe_nget hr.u9 (pe_fld (pv 0) rfl) (pe_tup (pa_cons (pv 1) (pa_cons (pe_op op_sub (pv 2) pe_int) pa_nil))) (fun _ _ => rfl))) (pg_tup (by rfl) (pgs_cons (pg_name (i := 5) scFS.nd rfl (Or.inl rfl)) (pgs_cons (pg_name (i := 6) scFS.nd rfl (Or.inl rfl)) pgs_nil)))
            (pss_one (ps_expr (pe_callO AT hr1 (by rfl) mgA (pa_cons (pv 3) (pa_cons (pv 5) (pa_cons (pv 6) pa_nil))))))))
          (pss_one (ps_expr (pe_methO AC hr (pv 0) Tx.clC mA (pa_cons (pv 1) (pa_cons (pv 4) (pa_cons (pe_op op_sub (pv 2) pe_int) (pa_cons (pv 3) pa_nil))))))))))
      (pss_one (ps_ret (pe_frz (pv 3)))))), ?_⟩
    refine ⟨_, rfl, rfl, _, rfl, ?_⟩
    cases n with
    | zero =>
      refine iteT ?_
      intro a ha
      refine ⟨Nat.zero_le _, fun b hb => ?_⟩
      have nab : a ≠ b := fun q => by rw [← q, upd_same] at hb; cases hb
      have hb0 : H b = none := by rw [upd_ne nab.symm] at hb; exact hb
      refine ⟨b, kT none, rfl, upd_same, by rw [upd_ne nab, upd_same], a, _, rfl, upd_same, trivial, fun od => ?_⟩
      refine k a _ (fun x u hx => ?_) ⟨od, [(none, 1)], upd_same, ?_⟩
      · have nx := ne_of_none hx ha
        rw [upd_ne nx, upd_ne nx, upd_ne (ne_of_none hx hb0), upd_ne nx]; exact hx
      · refine ⟨fun w => ?_, by simp, fun o hx => ?_⟩
        · rw [wsum_cons]
          show 1 * w none + 0 = w none
          omega
        · rw [List.mem_singleton.mp hx]; exact List.mem_cons_self
    | succ n =>
      rw [show decide (V.int ((n + 1 : Nat) : Int) = V.int 0) = false from decide_eq_false (by intro z; have := V.int.inj z; omega)]
      refine iteF ?_
      intro t ht
      have tot0 : Tot p H (upd H t (.dT [])) t [] (fun _ => 0) := ⟨chg_upd (by simp), .inl ht, upd_same, .nil p⟩
      have s0 : Same H (upd H t (.dT [])) := same_upd ht
      obtain ⟨lv, g1, g2⟩ := (hc.more s0).line hl (s0 _ _ hsp)
      obtain ⟨tl, cs, ws, z, rfl, e1, ⟨csx, e2, e3⟩, _, _⟩ := im_line g2
      have hlt : lt ≠ t := by
        obtain ⟨kvs, q, _⟩ := hc.lin
        exact ne_of_none q ht
      refine ⟨_, rfl, c, cC K, dx, _, _, rfl, s0 _ _ hi, Tx.clC, Tx.nL, rfl, _, rfl, lt, _, rfl, g1, ?_⟩
      refine ⟨tl, _, 0, _, rfl, rfl, .of e1, atI_nat (j := 0) rfl, cs, rfl, ⟨csx, .of e2⟩, ?_⟩
      refine for_tup (K := K) (a := cs) (xs := csx) (fun i σ H' => ∃ v4 v5 v6 d, σ = [some (.ref c), some (.ref sp), some (.int ((n + 1 : Nat) : Int)), some (.ref t), v4, v5, v6] ∧ Tot p H H' t d (fun w => sm i fun k => T p w n (step p (.run [sq] true) k)) ∧ TupK (upd H t (.dT [])) H')
        ⟨none, none, none, [], rfl, tot0, .refl _⟩ (fun i σ H' _ ⟨_, _, _, _, _, _, kt⟩ => .of (kt _ _ e2)) ?_ ?_
      · rintro i x σ H' hx ⟨v4, v5, v6, d, rfl, m, kt⟩
        obtain ⟨nd, hnd, hxi⟩ := e3.getV hx
        rw [List.getElem?_map] at hnd
        obtain ⟨nm, hnm, rfl⟩ := Option.map_eq_some_iff.mp hnd
        have ex : x = .str nm := im_str.mp hxi
        subst ex
        have hmem : nm ∈ l.1 := List.mem_of_getElem? hnm
        have est : step p (.run [sq] true) i = stepCall sq [] (some nm) := by
          show stepCall sq [] (lineD p sq).1[i]? = _
          rw [lineD_of hl, hnm]
        have hcm := m.cat hc hlt
        have hi' : H' c = some (.ins (cC K) dx (cF lt ac aw)) := m.keep hi (by intro d z; cases z)
        have hsp' : H' sp = some (.tup [.str sq.1, .int sq.2]) := m.keep hsp (by intro d z; cases z)
        refine ⟨_, rfl, rfl, _, rfl, ?_⟩
        by_cases hne : nm = eS
        · rw [show decide (V.str nm = V.str "") = true from decide_eq_true (by rw [hne, eS_eq])]
          have est' : step p (.run [sq] true) i = .run [sq] false := by
            rw [est]; show (if nm = eS then _ else _) = _; rw [if_pos hne]
          refine iteT ?_
          refine ⟨_, rfl, c, cC K, dx, _, _, rfl, hi', Tx.clC, Tx.nW, rfl, ?_⟩
          refine ⟨_, rfl, _, rfl, _, _, rfl, rfl, (by show 2 ≤ sizeLine; decide), fun y hy => ?_⟩
          have s2 : Same H' _ := same_upd (o := .tup [.ref sp, .int (((n + 1 : Nat) : Int) - 1)]) hy
          obtain ⟨dd, e5, od, g, hg, gg⟩ := hc.way _ hs n (Nat.lt_succ_self n)
          refine ⟨aw, kw, (sq, n), y, dd, rfl, rfl, (hcm.more s2).nw, ?_, e5, ?_⟩
          · exact im_tup.mpr ⟨y, _, rfl, upd_same, imAll_two (sp_im (s2 _ _ hsp')) (im_int.mpr (congrArg V.int (by omega)))⟩
          have m2 := m.more s2
          have hg2 := m2.keep hg (by intro d z; cases z)
          refine ⟨dd, od, _, rfl, hg2, ?_⟩
          refine add_core Wp (t := t) (iO := 5) (iN := 6) (iT := 3) (mk := fun x6 x7 => [some (.ref c), some (.ref sp), some (.int ((n + 1 : Nat) : Int)), some (.ref t), some (.str nm), x6, x7]) (fun _ _ _ _ => rfl) (fun _ _ => rfl) (fun _ _ => rfl) (fun _ _ => rfl) m2 hg2 gg.keys fun x6 x7 H3 d' m3 k3 => ?_
          refine ⟨_, x6, x7, d', rfl, m3.fun fun w => ?_, kt.trans ((Same.tup s2).trans k3)⟩
          rw [gg.eq, ← est']; rfl
        · rw [show decide (V.str nm = V.str "") = false from decide_eq_false (fun z => hne ((V.str.inj z).trans eS_eq))]
          have est' : step p (.run [sq] true) i = .run [(nm, 0), sq] true := by
            rw [est]; show (if nm = eS then _ else _) = _; rw [if_neg hne]
          refine iteF ?_
          refine ⟨_, rfl, c, dx, _, rfl, hi', rfl, _, rfl, _, rfl, _, rfl, _, _, rfl, rfl, _, rfl, ?_⟩
          refine ⟨c, lt, ac, aw, kc, kw, n + 1, sq, sp, nm, t, d, _, n, congrArg (fun z => [V.ref c, V.ref sp, V.str nm, V.int z, V.ref t]) (by omega), hcm, Wp, Nat.lt_succ_self n, hn16, hs, Wp.call hl hmem hne, hsp', m.at', hlt, m.acc, fun d' H3 m3 => ?_⟩
          refine ⟨_, _, _, d', rfl, ⟨m.chg.trans m3.chg, .inl ht, m3.at', m3.acc.congr fun w => ?_⟩, kt.trans m3.tup⟩
          rw [← est']; rfl
      · rintro σ H' ⟨v4, v5, v6, d, rfl, m, kt⟩
        refine ⟨_, rfl, t, _, rfl, m.at', trivial, fun od => ?_⟩
        refine k t _ (fun b o e => ?_) ⟨od, d, upd_same, Acc.good (m.acc.congr fun w => ?_)⟩
        · have nb := ne_of_none e ht
          rw [upd_ne nb]
          exact m.chg b o e fun z => nb (List.mem_singleton.mp z)
        · rw [e3.length, List.length_map]
          show _ = sm (lineD p sq).1.length _
          rw [lineD_of hl]
end
end K28

set_option Elab.async false
set_option linter.all false
set_option maxRecDepth 100000
set_option maxHeartbeats 400000
/-! class Counts: the table of lines, __init__. -/
namespace K28
open PySem PySem.Spec PyProof.Rows L2
abbrev SL := Spot × Line
def lineS (f : Fn) : List SL := (List.range f.2.length).map fun i => ((f.1, i), (f.2[i]?).getD ([], [], []))
def linesOf (p : Prog) : List SL := p.flatMap lineS
def spotsOf (p : Prog) : List Spot := (linesOf p).map (·.1)
def kS (s : Spot) : List Key := [Sum.inr s.1, Sum.inl (s.2 : Int)]
theorem kS_inj {s q : Spot} (h : kS s = kS q) : s = q := by
  obtain ⟨a, b⟩ := s
  obtain ⟨c, d⟩ := q
  injection h with h1 h2
  injection h1 with h1
  injection h2 with h2 _
  injection h2 with h2
  have h1 : a = c := h1
  have h2 : b = d := Int.ofNat.inj h2
  rw [h1, h2]
theorem lineS_len (f : Fn) : (lineS f).length = f.2.length := by unfold lineS; rw [List.length_map, List.length_range]
theorem lineS_get {f : Fn} {i : Nat} {l : Line} (h : f.2[i]? = some l) : (lineS f)[i]? = some ((f.1, i), l) := by
  have hi : i < f.2.length := (List.getElem?_eq_some_iff.mp h).1
  unfold lineS
  rw [List.getElem?_map, List.getElem?_range hi]
  show some ((f.1, i), (f.2[i]?).getD _) = _
  rw [h]; rfl
theorem mem_lineS {f : Fn} {x : SL} : x ∈ lineS f ↔ ∃ i l, f.2[i]? = some l ∧ x = ((f.1, i), l) := by
  constructor
  · intro h
    unfold lineS at h
    obtain ⟨i, hi, rfl⟩ := List.mem_map.mp h
    have hi := List.mem_range.mp hi
    exact ⟨i, f.2[i], List.getElem?_eq_getElem hi, by rw [List.getElem?_eq_getElem hi]; rfl⟩
  · rintro ⟨i, l, h, rfl⟩
    exact List.mem_of_getElem? (lineS_get h)
theorem lineAt_of {p : Prog} (W : WF p) {s : Spot} {l : Line} : lineAt p s = some l ↔ (s, l) ∈ linesOf p := by
  constructor
  · intro h
    obtain ⟨ls, h1, h2⟩ := lineAt_iff.mp h
    exact List.mem_flatMap.mpr ⟨_, mem_of_lookup' h1, mem_lineS.mpr ⟨s.2, l, h2, rfl⟩⟩
  · intro h
    obtain ⟨f, hf, h⟩ := List.mem_flatMap.mp h
    obtain ⟨i, l', h2, e⟩ := mem_lineS.mp h
    cases e
    exact lineAt_iff.mpr ⟨f.2, lookup_of_mem W.nd (show (f.1, f.2) ∈ p from hf), h2⟩
theorem mem_spots {p : Prog} (W : WF p) {s : Spot} : s ∈ spotsOf p ↔ SpotOk p s := by
  constructor
  · intro h
    obtain ⟨x, hx, rfl⟩ := List.mem_map.mp h
    exact ⟨x.2, (lineAt_of W).mpr hx⟩
  · rintro ⟨l, h⟩
    exact List.mem_map.mpr ⟨(s, l), (lineAt_of W).mp h, rfl⟩
theorem nd_lineS (f : Fn) : ((lineS f).map (·.1)).Nodup := by
  unfold lineS
  rw [List.map_map]
  have h : (List.range f.2.length).Nodup := List.nodup_range
  unfold List.Nodup at h ⊢
  rw [List.pairwise_map]
  exact h.imp fun {a b} hab e => hab (Prod.mk.inj e).2
theorem nd_lines : ∀ {p : Prog}, (p.map (·.1)).Nodup → ((linesOf p).map (·.1)).Nodup
  | [], _ => List.nodup_nil
  | f :: r, h => by
    rw [List.map_cons, List.nodup_cons] at h
    show ((lineS f ++ linesOf r).map (·.1)).Nodup
    rw [List.map_append, List.nodup_append]
    refine ⟨nd_lineS f, nd_lines h.2, fun a ha b hb e => ?_⟩
    obtain ⟨x, hx, rfl⟩ := List.mem_map.mp ha
    obtain ⟨y, hy, rfl⟩ := List.mem_map.mp hb
    obtain ⟨i, l, _, rfl⟩ := mem_lineS.mp hx
    obtain ⟨g, hg, hy⟩ := List.mem_flatMap.mp hy
    obtain ⟨j, l', _, rfl⟩ := mem_lineS.mp hy
    have e1 : f.1 = g.1 := (Prod.mk.inj e).1
    exact h.1 (by rw [e1]; exact List.mem_map.mpr ⟨g, hg, rfl⟩)
theorem spots_len {p : Prog} (W : WF p) : (spotsOf p).length ≤ 96 := by
  unfold spotsOf
  rw [List.length_map]
  have h : (linesOf p).length ≤ p.length * 12 := by
    have key : ∀ q : Prog, (∀ f ∈ q, f.2.length ≤ 12) → (linesOf q).length ≤ q.length * 12 := by
      intro q
      induction q with
      | nil => intro _; exact Nat.le_refl _
      | cons f r ih =>
        intro h
        show (lineS f ++ linesOf r).length ≤ _
        rw [List.length_append, lineS_len, List.length_cons, Nat.succ_mul]
        have h1 := ih fun g hg => h g (List.mem_cons_of_mem _ hg)
        have h2 := h f List.mem_cons_self
        omega
    exact key p W.short
  have := W.few
  omega
theorem lines_split {p : Prog} {i : Nat} {f : Fn} (h : p[i]? = some f) : linesOf p = linesOf (p.take i) ++ (lineS f ++ linesOf (p.drop (i + 1))) := by
  obtain ⟨hi, e⟩ := List.getElem?_eq_some_iff.mp h
  have e2 : p = p.take i ++ f :: p.drop (i + 1) := by
    rw [← e, ← List.drop_eq_getElem_cons hi, List.take_append_drop]
  unfold linesOf
  conv => lhs; rw [e2]
  rw [List.flatMap_append, List.flatMap_cons]
theorem lines_take {p : Prog} {i : Nat} {f : Fn} (h : p[i]? = some f) : linesOf (p.take (i + 1)) = linesOf (p.take i) ++ lineS f := by
  unfold linesOf
  rw [List.take_add_one, h, List.flatMap_append]
  show _ ++ (lineS f ++ []) = _
  rw [List.append_nil]
/-- what comes next is new -/
theorem lines_new {p : Prog} (W : WF p) {i j : Nat} {f : Fn} {l : Line} (h : p[i]? = some f) (hl : f.2[j]? = some l) : (f.1, j) ∉ (linesOf (p.take i) ++ (lineS f).take j).map (·.1) := by
  have nd := nd_lines W.nd
  rw [lines_split h] at nd
  have hj : j < (lineS f).length := by rw [lineS_len]; exact (List.getElem?_eq_some_iff.mp hl).1
  have e : lineS f = (lineS f).take j ++ ((f.1, j), l) :: (lineS f).drop (j + 1) := by
    have e1 := (List.getElem?_eq_some_iff.mp (lineS_get hl)).2
    rw [← e1, ← List.drop_eq_getElem_cons hj, List.take_append_drop]
  rw [e, List.append_assoc, ← List.append_assoc, List.map_append, List.nodup_append] at nd
  intro hm
  exact nd.2.2 _ hm (f.1, j) (by rw [List.cons_append, List.map_cons]; exact List.mem_cons_self) rfl

/-! ### on the heap -/
abbrev LinV (H : Hp) : List SL → List (List Key × V) → Prop := Paired fun sl kv => kv.1 = kS sl.1 ∧ Im H (lineDt sl.2) kv.2
theorem LinV.keep {H H' : Hp} (k : TupK H H') {a : List SL} {b : List (List Key × V)} (r : LinV H a b) : LinV H' a b := Paired.mapP r fun _ _ z => ⟨z.1, z.2.keep k⟩
theorem LinV.keys {H : Hp} {a : List SL} {b : List (List Key × V)} (r : LinV H a b) : b.map (·.1) = a.map fun x => kS x.1 := by
  unfold LinV at r
  induction r with
  | nil => rfl
  | cons h t ih => rw [List.map_cons, List.map_cons, ih, h.1]
theorem LinV.look {H : Hp} {a : List SL} {b : List (List Key × V)} (r : LinV H a b) {s : Spot} {l : Line} (nd : (a.map (·.1)).Nodup) (h : (s, l) ∈ a) : ∃ v, valV b (kS s) = some v ∧ Im H (lineDt l) v := by
  unfold LinV at r
  induction r with
  | nil => cases h
  | @cons x kv as bs hx t ih =>
    rw [List.map_cons, List.nodup_cons] at nd
    rcases List.mem_cons.mp h with e | h
    · subst e
      exact ⟨kv.2, valV_pos hx.1, hx.2⟩
    · obtain ⟨v, e1, e2⟩ := ih nd.2 h
      refine ⟨v, ?_, e2⟩
      have hne : kv.1 ≠ kS s := fun z => nd.1 (by
        have : x.1 = s := kS_inj (hx.1.symm.trans z)
        rw [this]
        exact List.mem_map.mpr ⟨(s, l), h, rfl⟩)
      unfold valV at e1 ⊢
      rw [List.find?_cons, decide_eq_false hne]
      exact e1
theorem putK_new {kvs : List (List Key × V)} {k : List Key} {v : V} (h : k ∉ kvs.map (·.1)) : putK kvs k v = kvs ++ [(k, v)] := by
  unfold putK
  rw [if_neg]
  rw [List.any_eq_true]
  rintro ⟨x, hx, e⟩
  exact h (List.mem_map.mpr ⟨x, hx, of_decide_eq_true e⟩)
def LinAt (p : Prog) (H : Hp) (lt : Addr) : Prop := ∃ kvs, H lt = some (.dT kvs) ∧ LinV H (linesOf p) kvs
theorem LinAt.lin {p : Prog} (W : WF p) {H : Hp} {lt : Addr} (h : LinAt p H lt) : ∃ kvs, H lt = some (.dT kvs) ∧ ∀ s l, lineAt p s = some l → ∃ v, valV kvs [Sum.inr s.1, Sum.inl (s.2 : Int)] = some v ∧ Im H (lineDt l) v := by
  obtain ⟨kvs, h1, h2⟩ := h
  exact ⟨kvs, h1, fun s l e => h2.look (nd_lines W.nd) ((lineAt_of W).mp e)⟩

section
variable {P : Program} {w : World} {K : PySem.W.Frag} {mg : Str → Option Value} {base : Heap}
def spCInit (P : Program) (w : World) (C : Addr) (p : Prog) : Sp := fun vs H Q _ => ∃ c dx v, vs = [.ref c, v] ∧ H c = some (.ins C dx []) ∧ Im H (progD p) v ∧ WF p ∧
  ∀ lt ac aw H', Chg [c] H H' → CAt P w C p H' c lt ac aw [] [] 0 → LinAt p H' lt → ac ≠ aw → H ac = none → H aw = none → Q .non H'
theorem scCI : FnScope ["self", "program", "name", "lines", "index", "line"] ["self", "program"] (defScope sCInit) := ⟨rfl, rfl, rfl, by decide +kernel, rfl, by decide +kernel, by decide +kernel⟩
theorem ok_cinit {p : Prog} {f : Addr} (F : At K "__init__" "Counts.__init__" sCInit f) (Tx : Tx K mg) : Ok P w K mg base 1 f ["self", "program"] (spCInit P w (cC K) p) := by
  refine mkOk F scCI (fun _ _ _ _ _ _ us hl => match us, hl with | [_, _], _ => rfl) (fun vs H Q E h => ?_) (fun cdv A outer s H vs Q E hr h => ?_)
  · obtain ⟨c, dx, v, rfl, _⟩ := h; rfl
  · obtain ⟨c, dx, v, rfl, hi, hv, Wp, k⟩ := h
    obtain ⟨a, xs, rfl, ha, hx⟩ := im_tup.mp hv
    refine ⟨_, pss_cons (ps_fld (pv 0) (pe_dc2 (own := [("name", 2), ("lines", 3), ("index", 4), ("line", 5)]) (vs1 := [4, 5]) (g := gTup K 2 (gCons (gName 2) (gCons (gName 3) gNil))) (g1 := gTup K 2 (gCons (gName 4) (gCons (gName 5) gNil))) (wi1 := iEnumT K (tCons (tVar 3) tNil)) (tt := tYes) (tt1 := tYes) (tk := tTup (tCons (tVar 2) (tCons (tVar 4) tNil))) (tv := tVar 5) rfl scCI.nd (pi_tup (pv 1))
        (blkOk_by (own := [("name", 2), ("lines", 3), ("index", 4), ("line", 5)]) (N := ["self", "program", "name", "lines", "index", "line"]) (sc := defScope sCInit) (by decide +kernel)) (by decide)
        (fun _ _ _ _ _ => pg_tup (by rfl) (pgs_cons (pg_name (i := 2) scCI.nd rfl (Or.inl rfl)) (pgs_cons (pg_name (i := 3) scCI.nd rfl (Or.inl rfl)) pgs_nil))) (fun _ _ _ _ _ => pts_nil)
        (fun _ _ _ _ _ => pi_enumT (by rfl) Tx.enum (pa_cons (pv 3) pa_nil))
        (fun _ _ _ _ _ => pg_tup (by rfl) (pgs_cons (pg_name (i := 4) scCI.nd rfl (Or.inl rfl)) (pgs_cons (pg_name (i := 5) scCI.nd rfl (Or.inl rfl)) pgs_nil))) (fun _ _ _ _ _ => pts_nil)
        (fun _ _ _ _ _ => pe_tup (pa_cons (pv 2) (pa_cons (pv 4) pa_nil))) (fun _ _ _ _ _ => pv 5) hr.u0) rfl)
      (pss_cons (ps_fld (pv 0) pe_nnew rfl) (pss_one (ps_fld (pv 0) pe_nnew rfl))), ?_⟩
    refine ⟨_, rfl, a, rfl, ⟨xs, .of ha⟩, fun D hD => ?_⟩
    have hxl : xs.length = p.length := by rw [hx.length, List.length_map]
    refine ⟨fun i m H' => m = p.length - i ∧ i ≤ p.length ∧ ∃ kvs, H' D = some (.dT kvs) ∧ Same H H' ∧ LinV H' (linesOf (p.take i)) kvs, ⟨p.length, (Nat.sub_zero _).symm, Nat.zero_le _, [], upd_same, same_upd hD, .nil⟩, ?_⟩
    rintro i m H' ⟨rfl, hi1, kvs, h1, hs, hvv⟩
    by_cases hlt : i < p.length
    · obtain ⟨x, hxi⟩ : ∃ x, xs[i]? = some x := ⟨xs[i], List.getElem?_eq_getElem (by omega)⟩
      refine .inr ⟨⟨xs, x, .of (hs _ _ ha), hxi⟩, fun H2 => ∃ kvs, H2 D = some (.dT kvs) ∧ Same H H2 ∧ LinV H2 (linesOf (p.take (i + 1))) kvs, fun H2 p' => ⟨p.length - (i + 1), by omega, rfl, hlt, p'⟩, fun x' H2 y => ?_⟩
      obtain ⟨e, y⟩ := y
      subst e
      have e2 := y xs (.of (hs _ _ ha))
      rw [hxi] at e2
      cases e2
      obtain ⟨d, hd, hx'⟩ := hx.getV hxi
      rw [List.getElem?_map] at hd
      obtain ⟨f0, hf0, rfl⟩ := Option.map_eq_some_iff.mp hd
      obtain ⟨t, ls, rfl, ht, hls⟩ := im_fn hx'
      obtain ⟨q, lv, rfl, hq, hlv⟩ := im_tup.mp hls
      have hll : lv.length = f0.2.length := by rw [hlv.length, List.length_map]
      have hf0m : f0 ∈ p := List.mem_of_getElem? hf0
      refine ⟨t, _, rfl, .of (hs _ _ ht), rfl, _, _, rfl, _, _, rfl, rfl, rfl, ?_⟩
      refine ⟨_, rfl, q, lv, rfl, .of (hs _ _ hq), fun j k H3 => k = lv.length - j ∧ j ≤ lv.length ∧ ∃ kvs, H3 D = some (.dT kvs) ∧ Same H H3 ∧ LinV H3 (linesOf (p.take i) ++ (lineS f0).take j) kvs, ⟨lv.length, (Nat.sub_zero _).symm, Nat.zero_le _, kvs, h1, hs, by rw [List.take_zero, List.append_nil]; exact hvv⟩, ?_⟩
      rintro j m2 H3 ⟨rfl, hj1, kvs3, g1, gs, gv⟩
      by_cases hjl : j < lv.length
      · obtain ⟨z, hz⟩ : ∃ z, lv[j]? = some z := ⟨lv[j], List.getElem?_eq_getElem hjl⟩
        refine .inr ⟨⟨lv, z, .of (gs _ _ hq), hz⟩, fun H4 => ∃ kvs, H4 D = some (.dT kvs) ∧ Same H H4 ∧ LinV H4 (linesOf (p.take i) ++ (lineS f0).take (j + 1)) kvs, fun H4 p' => ⟨lv.length - (j + 1), by omega, rfl, hjl, p'⟩, fun x' H4 y => ?_⟩
        obtain ⟨Tn, z', rfl, hTn, rfl, y⟩ := y
        have e3 := y lv (.of (gs _ _ hq))
        rw [hz] at e3
        cases e3
        obtain ⟨d, hd, hz'⟩ := hlv.getV hz
        rw [List.getElem?_map] at hd
        obtain ⟨l0, hl0, rfl⟩ := Option.map_eq_some_iff.mp hd
        have s4 : Same H3 (upd H3 Tn (.tup [.int (j : Nat), z])) := same_upd hTn
        refine ⟨Tn, _, rfl, .of upd_same, rfl, _, _, rfl, _, _, rfl, rfl, rfl, ?_⟩
        refine ⟨_, rfl, _, rfl, (by show 2 ≤ sizeLine; decide), fun b hb => ?_⟩
        have s5 : Same _ (upd (upd H3 Tn (.tup [.int (j : Nat), z])) b (.tup [.str f0.1, .int (j : Nat)])) := same_upd hb
        have gD := s5 _ _ (s4 _ _ g1)
        have hkl : kvs3.length < sizeLine := by
          have e := Paired.length gv
          have h2 := spots_len Wp
          unfold spotsOf at h2
          rw [List.length_map, lines_split hf0, List.length_append, List.length_append] at h2
          rw [List.length_append, List.length_take] at e
          exact Nat.lt_of_le_of_lt (show kvs3.length ≤ 96 by omega) (by decide)
        refine ⟨_, rfl, kvs3, kS (f0.1, j), b, rfl, upd_same, gD, hkl, ?_⟩
        have hnew : kS (f0.1, j) ∉ kvs3.map (·.1) := by
          rw [gv.keys]
          intro hm
          obtain ⟨x, hx, e⟩ := List.mem_map.mp hm
          exact lines_new Wp hf0 hl0 (List.mem_map.mpr ⟨x, hx, kS_inj e⟩)
        have hDn : ∀ {b' : Addr} {o : HO}, H b' = some o → b' ≠ D := fun e => ne_of_none e hD
        have kt : TupK H3 (upd (upd (upd H3 Tn (.tup [.int (j : Nat), z])) b (.tup [.str f0.1, .int (j : Nat)])) D (.dT (putK kvs3 (kS (f0.1, j)) z))) :=
          (Same.tup (s4.trans s5)).trans (tup_upd fun xs w => by rw [gD] at w; cases w)
        rw [putK_new hnew] at kt
        rw [putK_new hnew]
        refine ⟨_, upd_same, fun b' o e => ?_, ?_⟩
        · rw [upd_ne (hDn e)]
          exact s5 _ _ (s4 _ _ (gs _ _ e))
        · rw [List.take_add_one, lineS_get hl0, ← List.append_assoc]
          refine Paired.snoc (gv.keep kt) ⟨rfl, ?_⟩
          exact (hz'.keep (Same.tup gs)).keep kt
      · have ej : j = lv.length := by omega
        subst ej
        refine .inl ⟨⟨lv, .of (gs _ _ hq), Nat.le_refl _⟩, kvs3, g1, gs, ?_⟩
        rw [show (lineS f0).take lv.length = lineS f0 from List.take_of_length_le (by rw [lineS_len, hll]; exact Nat.le_refl _)] at gv
        rw [lines_take hf0]
        exact gv
    · have ei : i = p.length := by omega
      subst ei
      refine .inl ⟨⟨xs, .of (hs _ _ ha), by omega⟩, ?_⟩
      rw [List.take_length] at hvv
      have ncD : c ≠ D := ne_of_none hi hD
      refine ⟨_, rfl, c, cC K, dx, _, rfl, hs _ _ hi, Tx.clC, Tx.nL, (by show 0 < 1000; decide), ?_⟩
      intro ac u1 hac nac
      have nca : c ≠ ac := fun z => by rw [← z, upd_same] at hac; cases hac
      refine ⟨_, rfl, c, cC K, dx, _, rfl, (by rw [upd_ne nca, upd_same]), Tx.clC, Tx.nC, (by show 1 < 1000; decide), ?_⟩
      intro aw u2 haw naw
      have ncw : c ≠ aw := fun z => by rw [← z, upd_same] at haw; cases haw
      have hacw : ac ≠ aw := fun z => by rw [← z, upd_ne nca.symm, upd_same] at haw; cases haw
      refine ⟨_, rfl, c, cC K, dx, _, rfl, (by rw [upd_ne ncw, upd_same]), Tx.clC, Tx.nW, (by show 2 < 1000; decide), ?_⟩
      have hac0 : H' ac = none := by rw [upd_ne nca.symm] at hac; exact hac
      have haw0 : H' aw = none := by rw [upd_ne ncw.symm, upd_ne hacw.symm, upd_ne ncw.symm] at haw; exact haw
      have hDa : D ≠ ac := ne_of_none h1 hac0
      have hDw : D ≠ aw := ne_of_none h1 haw0
      generalize hHf : upd (upd (upd (upd (upd H' c (.ins (cC K) dx (putF "line_table" (.ref D) []))) ac u1) c (.ins (cC K) dx (putF "at_call" (.ref ac) (putF "line_table" (.ref D) [])))) aw u2) c (.ins (cC K) dx (putF "at_way" (.ref aw) (putF "at_call" (.ref ac) (putF "line_table" (.ref D) [])))) = Hf
      have cg : Chg [c] H' Hf := fun b o e n => by
        have nb : b ≠ c := fun z => n (by simp [z])
        rw [← hHf, upd_ne nb, upd_ne (ne_of_none e haw0), upd_ne nb, upd_ne (ne_of_none e hac0), upd_ne nb]
        exact e
      have kt : TupK H' Hf := cg.tup fun b hb xs e => by rw [List.mem_singleton.mp hb, hs _ _ hi] at e; cases e
      have hDf : Hf D = some (.dT kvs) := cg _ _ h1 fun z => ncD (List.mem_singleton.mp z).symm
      have hlin : LinAt p Hf D := ⟨kvs, hDf, hvv.keep kt⟩
      have sA : upd (upd H' c (.ins (cC K) dx (putF "line_table" (.ref D) []))) ac u1 ac = some u1 := upd_same
      have eA : Hf ac = some u1 := by rw [← hHf, upd_ne nca.symm, upd_ne hacw, upd_ne nca.symm, upd_same]
      have eW : Hf aw = some u2 := by rw [← hHf, upd_ne ncw.symm, upd_same]
      have n1 : NdAt P w Hf ac [] := by
        obtain ⟨ys, y1, y2, y3⟩ := nac
        cases y3
        rw [upd_same] at y1
        exact ⟨[], by rw [eA]; exact y1, y2, .nil⟩
      have n2 : NdAt P w Hf aw [] := by
        obtain ⟨ys, y1, y2, y3⟩ := naw
        cases y3
        rw [upd_same] at y1
        exact ⟨[], by rw [eW]; exact y1, y2, .nil⟩
      refine k D ac aw Hf (fun b o e n => cg _ _ (hs _ _ e) n) ⟨⟨dx, by rw [← hHf, upd_same]; rfl⟩, hlin.lin Wp, n1, n2, fun s _ j hj => absurd hj (Nat.not_lt_zero _), fun s _ j hj => absurd hj (Nat.not_lt_zero _)⟩ hlin hacw (hs.free hac0) (hs.free haw0)
end
end K28

set_option Elab.async false
set_option linter.all false
set_option maxRecDepth 100000
set_option maxHeartbeats 400000
/-! class Counts: fill; how_many_runs. -/
namespace K28
open PySem PySem.Spec PyProof.Rows L2
section
variable {P : Program} {w : World} {C : Addr} {p : Prog} {H : Hp} {c lt ac aw : Addr} {kc kw : List (SK × Addr)} {m : Nat}
theorem look_app {k k' : SK} {d a : Addr} {l : List (SK × Addr)} (h : l.lookup k' = some a) : (l ++ [(k, d)]).lookup k' = some a := by
  rw [List.lookup_append, h]; rfl
theorem look_new {k : SK} {d : Addr} {l : List (SK × Addr)} (h : l.lookup k = none) : (l ++ [(k, d)]).lookup k = some d := by
  rw [List.lookup_append, h]
  simp
theorem CAt.putW (x : CAt P w C p H c lt ac aw kc kw m) (hne : ac ≠ aw) {k : SK} {d : Addr} {u : HO} (n : NdAt P w (upd H aw u) aw (kw ++ [(k, d)])) :
    CAt P w C p (upd H aw u) c lt ac aw kc (kw ++ [(k, d)]) m ∧ TupK H (upd H aw u) ∧ ∀ {n' : Nat} {cf : Conf} {a : Addr}, GoodAt p n' cf H a → GoodAt p n' cf (upd H aw u) a := by
  obtain ⟨dx, h1⟩ := x.ins
  obtain ⟨kvs, h2, h3⟩ := x.lin
  obtain ⟨xs, h4, _⟩ := id x.nc
  obtain ⟨ys, h5, _⟩ := id x.nw
  have kt : TupK H (upd H aw u) := tup_upd fun xs z => by rw [h5] at z; cases z
  have fz : ∀ {n' : Nat} {cf : Conf} {a : Addr}, GoodAt p n' cf H a → GoodAt p n' cf (upd H aw u) a := fun g => by
    obtain ⟨od, d, e, k⟩ := g
    exact ⟨od, d, by rw [upd_ne (ne_of e h5 (by unfold ndO; intro z; cases z))]; exact e, k⟩
  refine ⟨⟨⟨dx, by rw [upd_ne (ne_of h1 h5 (by unfold ndO; intro z; cases z))]; exact h1⟩, ⟨kvs, by rw [upd_ne (ne_of h2 h5 (by unfold ndO; intro z; cases z))]; exact h2, fun q l e => ?_⟩, x.nc.keep kt (upd_ne hne), n, fun q hq j hj => ?_, fun q hq j hj => ?_⟩, kt, fz⟩
  · obtain ⟨v, e1, e2⟩ := h3 q l e
    exact ⟨v, e1, e2.keep kt⟩
  · obtain ⟨a, e1, e2⟩ := x.call q hq j hj
    exact ⟨a, e1, fz e2⟩
  · obtain ⟨a, e1, e2⟩ := x.way q hq j hj
    exact ⟨a, look_app e1, fz e2⟩
theorem CAt.putC (x : CAt P w C p H c lt ac aw kc kw m) (hne : ac ≠ aw) {k : SK} {d : Addr} {u : HO} (n : NdAt P w (upd H ac u) ac (kc ++ [(k, d)])) :
    CAt P w C p (upd H ac u) c lt ac aw (kc ++ [(k, d)]) kw m ∧ TupK H (upd H ac u) ∧ ∀ {n' : Nat} {cf : Conf} {a : Addr}, GoodAt p n' cf H a → GoodAt p n' cf (upd H ac u) a := by
  obtain ⟨dx, h1⟩ := x.ins
  obtain ⟨kvs, h2, h3⟩ := x.lin
  obtain ⟨xs, h4, _⟩ := id x.nc
  obtain ⟨ys, h5, _⟩ := id x.nw
  have kt : TupK H (upd H ac u) := tup_upd fun xs z => by rw [h4] at z; cases z
  have fz : ∀ {n' : Nat} {cf : Conf} {a : Addr}, GoodAt p n' cf H a → GoodAt p n' cf (upd H ac u) a := fun g => by
    obtain ⟨od, d, e, k⟩ := g
    exact ⟨od, d, by rw [upd_ne (ne_of e h4 (by unfold ndO; intro z; cases z))]; exact e, k⟩
  refine ⟨⟨⟨dx, by rw [upd_ne (ne_of h1 h4 (by unfold ndO; intro z; cases z))]; exact h1⟩, ⟨kvs, by rw [upd_ne (ne_of h2 h4 (by unfold ndO; intro z; cases z))]; exact h2, fun q l e => ?_⟩, n, x.nw.keep kt (upd_ne hne.symm), fun q hq j hj => ?_, fun q hq j hj => ?_⟩, kt, fz⟩
  · obtain ⟨v, e1, e2⟩ := h3 q l e
    exact ⟨v, e1, e2.keep kt⟩
  · obtain ⟨a, e1, e2⟩ := x.call q hq j hj
    exact ⟨a, look_app e1, fz e2⟩
  · obtain ⟨a, e1, e2⟩ := x.way q hq j hj
    exact ⟨a, e1, fz e2⟩
end
/-- the keys that may be there, round i, j spots done -/
def KeysOk (p : Prog) (i j : Nat) (l : List (SK × Addr)) : Prop := l.length ≤ 96 * i + j ∧ ∀ k ∈ l.map (·.1), k.2 < i ∨ (k.2 = i ∧ k.1 ∈ (spotsOf p).take j)
theorem look_none {l : List (SK × Addr)} {k : SK} (h : k ∉ l.map (·.1)) : l.lookup k = none := by
  induction l with
  | nil => rfl
  | cons x r ih =>
    rw [List.map_cons, List.mem_cons, not_or] at h
    obtain ⟨a, b⟩ := x
    rw [List.lookup_cons]
    have hb : (k == a) = false := by simpa using h.1
    rw [hb]
    exact ih h.2
theorem KeysOk.new {p : Prog} (W : WF p) {i j : Nat} {l : List (SK × Addr)} {s : Spot} (h : KeysOk p i j l) (hs : (spotsOf p)[j]? = some s) : l.lookup (s, i) = none := by
  refine look_none fun hm => ?_
  rcases h.2 _ hm with h | ⟨_, h⟩
  · exact absurd h (Nat.lt_irrefl _)
  · have nd : (spotsOf p).Nodup := nd_lines W.nd
    obtain ⟨n, hn, e⟩ := List.mem_take_iff_getElem.mp h
    obtain ⟨hj, e2⟩ := List.getElem?_eq_some_iff.mp hs
    have : n = j := (List.getElem_inj nd).mp (e.trans e2.symm)
    omega
theorem KeysOk.put {p : Prog} {i j : Nat} {l : List (SK × Addr)} {s : Spot} {d : Addr} (h : KeysOk p i j l) (hs : (spotsOf p)[j]? = some s) : KeysOk p i (j + 1) (l ++ [((s, i), d)]) := by
  refine ⟨by rw [List.length_append, List.length_singleton]; have := h.1; omega, fun k hk => ?_⟩
  rw [List.map_append] at hk
  have ht : (spotsOf p).take (j + 1) = (spotsOf p).take j ++ [s] := by rw [List.take_add_one, hs]; rfl
  rcases List.mem_append.mp hk with hk | hk
  · rcases h.2 _ hk with h | ⟨h1, h2⟩
    · exact .inl h
    · exact .inr ⟨h1, by rw [ht]; exact List.mem_append_left _ h2⟩
  · rw [List.mem_singleton.mp hk]
    exact .inr ⟨rfl, by rw [ht]; exact List.mem_append_right _ (List.mem_singleton.mpr rfl)⟩
section
variable {P : Program} {w : World} {K : PySem.W.Frag} {mg : Str → Option Value} {base : Heap}
def spFill (P : Program) (w : World) (C : Addr) (p : Prog) : Sp := fun vs H Q _ => ∃ c lt ac aw, ∃ n : Nat, vs = [.ref c, .int n] ∧ CAt P w C p H c lt ac aw [] [] 0 ∧ ac ≠ aw ∧ LinAt p H lt ∧ WF p ∧ n ≤ 15 ∧
  ∀ H' kc kw, Chg [ac, aw] H H' → CAt P w C p H' c lt ac aw kc kw (n + 1) → Q .non H'
theorem scFi : FnScope ["self", "count", "many", "spot"] ["self", "count"] (defScope sFill) := ⟨rfl, rfl, rfl, by decide +kernel, rfl, by decide +kernel, by decide +kernel⟩
theorem ok_fill {p : Prog} {f gb gf : Addr} (F : At K "fill" "Counts.fill" sFill f) (Tx : Tx K mg) (BC : Ok P w K mg base 3 gb ["self", "spot", "many"] (spBCall P w (cC K) p)) (mB : Meth K (cC K) "behind_call" gb)
    (FS : Ok P w K mg base 5 gf ["self", "spot", "many"] (spFSpot P w (cC K) p)) (mF : Meth K (cC K) "from_spot" gf) : Ok P w K mg base 6 f ["self", "count"] (spFill P w (cC K) p) := by
  refine mkOk F scFi (fun _ _ _ _ _ _ us hl => match us, hl with | [_, _], _ => rfl) (fun vs H Q E h => ?_) (fun cdv A outer s H vs Q E hr h => ?_)
  · obtain ⟨c, lt, ac, aw, n, rfl, _⟩ := h; rfl
  · obtain ⟨c, lt, ac, aw, n, rfl, hc, hne, hlin, Wp, hn, k⟩ := h
    have hr3 : Room 3 _ := hr.mono (by decide)
    refine ⟨_, pss_one (ps_for PassesOwn.never rfl (pi_range1 (by rfl) Tx.range (pa_cons (pe_op op_add (pv 1) pe_int) pa_nil)) (pg_name (i := 2) scFi.nd rfl (Or.inl rfl))
      (pss_one (ps_for PassesOwn.never rfl (pi_list (pe_callTy (call_list_dT rfl) (by rfl) Tx.list (by decide +kernel) (pa_cons (pe_fld (pv 0) rfl) pa_nil))) (pg_name (i := 3) scFi.nd rfl (Or.inl rfl))
        (pss_cons (ps_nput hr.u9 (pe_fld (pv 0) rfl) (pe_tup (pa_cons (pv 3) (pa_cons (pv 2) pa_nil))) (pe_methO BC hr3 (pv 0) Tx.clC mB (pa_cons (pv 3) (pa_cons (pv 2) pa_nil))) rfl)
        (pss_one (ps_nput hr.u9 (pe_fld (pv 0) rfl) (pe_tup (pa_cons (pv 3) (pa_cons (pv 2) pa_nil))) (pe_methO FS hr (pv 0) Tx.clC mF (pa_cons (pv 3) (pa_cons (pv 2) pa_nil))) rfl)))))), ?_⟩
    refine ⟨_, rfl, _, _, rfl, rfl, _, rfl, by omega, by omega, ?_⟩
    rw [show ((n : Int) + 1).toNat = n + 1 by omega]
    refine for_range (fun i σ H' => ∃ v2 v3 kc kw, σ = [some (.ref c), some (.int n), v2, v3] ∧ Chg [ac, aw] H H' ∧ CAt P w (cC K) p H' c lt ac aw kc kw i ∧ KeysOk p i 0 kc ∧ KeysOk p i 0 kw)
      ⟨none, none, [], [], rfl, .refl _ _, hc, ⟨Nat.zero_le _, fun k h => nomatch h⟩, ⟨Nat.zero_le _, fun k h => nomatch h⟩⟩ ?_ ?_
    · rintro i σ H' hi ⟨v2, v3, kc, kw, rfl, cg, hc1, hkc, hkw⟩
      rw [show V.int (0 + ((i : Nat) : Int)) = V.int (i : Nat) by rw [Int.zero_add]]
      obtain ⟨dx, hi1⟩ := hc1.ins
      obtain ⟨ktab, hl1, hl2⟩ := hlin
      have ntc : lt ≠ ac := by obtain ⟨ys, z, _⟩ := hc.nc; exact ne_of hl1 z (by unfold ndO; intro q; cases q)
      have ntw : lt ≠ aw := by obtain ⟨ys, z, _⟩ := hc.nw; exact ne_of hl1 z (by unfold ndO; intro q; cases q)
      have nott : NoTup [ac, aw] H := fun b hb xs e => by
        rcases List.mem_cons.mp hb with z | z
        · obtain ⟨ys, y, _⟩ := hc.nc; rw [z, y] at e; cases e
        · obtain ⟨ys, y, _⟩ := hc.nw; rw [List.mem_singleton.mp z, y] at e; cases e
      have hl1' : H' lt = some (.dT ktab) := cg _ _ hl1 fun z => by
        rcases List.mem_cons.mp z with z | z
        · exact ntc z
        · exact ntw (List.mem_singleton.mp z)
      have hl2' := hl2.keep (cg.tup nott)
      refine ⟨_, rfl, c, cC K, dx, _, _, rfl, hi1, Tx.clC, Tx.nL, rfl, lt, ktab, rfl, .of hl1', fun lst bs hlst hbs => ?_⟩
      have s1 : Same H' (upd H' lst (.lst (bs.map V.ref))) := same_upd hlst
      have hlst0 : ∀ {b : Addr} {o : HO}, H' b = some o → b ≠ lst := fun e => ne_of_none e hlst
      have hbl : bs.length = (spotsOf p).length := by
        have e1 := Paired.length hbs
        have e2 := Paired.length hl2'
        unfold spotsOf
        rw [List.length_map]; omega
      have hspot : ∀ (j : Nat) (b : Addr), bs[j]? = some b → ∃ s, (spotsOf p)[j]? = some s ∧ H' b = some (.tup [.str s.1, .int s.2]) := fun j b hb => by
        obtain ⟨kv, e1, e2⟩ := L2.DX.pget hbs hb
        obtain ⟨sl, e3, e4, _⟩ := L2.DX.pget hl2' e1
        refine ⟨sl.1, by unfold spotsOf; rw [List.getElem?_map, e3]; rfl, ?_⟩
        rw [e4] at e2
        exact e2
      refine ⟨lst, rfl, ⟨bs.map V.ref, .of upd_same⟩, ?_⟩
      refine for_list (K := K) (a := lst) (xs := bs.map V.ref) (fun j σ H2 => ∃ v3 kc kw, σ = [some (.ref c), some (.int n), some (.int (i : Nat)), v3] ∧ Chg [ac, aw] H H2 ∧ CAt P w (cC K) p H2 c lt ac aw kc kw i ∧ KeysOk p i j kc ∧ KeysOk p i j kw ∧
          (∀ s ∈ (spotsOf p).take j, (∃ a, kc.lookup (s, i) = some a ∧ GoodAt p i (.run [s] true) H2 a) ∧ ∃ a, kw.lookup (s, i) = some a ∧ GoodAt p i (.run [s] false) H2 a) ∧ H2 lst = some (.lst (bs.map V.ref)) ∧ TupK H' H2)
        ⟨v3, kc, kw, rfl, cg.trans (Same.chg s1), hc1.more s1, hkc, hkw, fun s h => by rw [List.take_zero] at h; (exact nomatch h), upd_same, Same.tup s1⟩ (fun j σ H2 _ ⟨_, _, _, _, _, _, _, _, _, x, _⟩ => .of x) ?_ ?_
      · rintro j x σ H2 hj ⟨v3, kc, kw, rfl, cg2, hc2, hkc, hkw, hdone, hl, kt⟩
        rw [List.getElem?_map] at hj
        obtain ⟨b, hb, rfl⟩ := Option.map_eq_some_iff.mp hj
        obtain ⟨sq, hsj, hbq⟩ := hspot j b hb
        have hsq : SpotOk p sq := (mem_spots Wp).mp (List.mem_of_getElem? hsj)
        have hb2 := kt _ _ hbq
        obtain ⟨dx2, hi2⟩ := hc2.ins
        refine ⟨_, rfl, c, dx2, _, rfl, hi2, rfl, _, rfl, _, rfl, c, lt, ac, aw, kc, kw, sq, b, i, rfl, hc2, Wp, hsq, hb2, fun a1 H3 s3 g3 => ?_⟩
        obtain ⟨dx3, hi3⟩ := (hc2.more s3).ins
        refine ⟨_, rfl, c, cC K, dx3, _, _, rfl, hi3, Tx.clC, Tx.nW, rfl, _, rfl, _, rfl, (by show 2 ≤ sizeLine; decide), fun y hy => ?_⟩
        have s4 : Same H3 (upd H3 y (.tup [.ref b, .int (i : Nat)])) := same_upd hy
        have hc4 := (hc2.more s3).more s4
        have hb4 := s4 _ _ (s3 _ _ hb2)
        refine ⟨aw, kw, (sq, i), y, a1, rfl, rfl, rfl, hc4.nw, ?_, hkw.new Wp hsj, ?_, fun u nd => ?_⟩
        · exact im_tup.mpr ⟨y, _, rfl, upd_same, imAll_two (sp_im hb4) (im_int.mpr rfl)⟩
        · have h1 := hkw.1
          have h2 := spots_len Wp
          have h3 := (List.getElem?_eq_some_iff.mp hsj).1
          exact Nat.lt_of_le_of_lt (show kw.length ≤ 2000 by omega) (by decide)
        obtain ⟨hc5, kt5, fz5⟩ := hc4.putW hne nd
        have g5 := fz5 (g3.more s4)
        have hb5 := kt5 _ _ hb4
        obtain ⟨dx5, hi5⟩ := hc5.ins
        refine ⟨_, rfl, c, dx5, _, rfl, hi5, rfl, _, rfl, _, rfl, c, lt, ac, aw, kc, _, sq, b, i, rfl, hc5, Wp, by omega, hsq, hb5, fun a2 H6 s6 g6 => ?_⟩
        obtain ⟨dx6, hi6⟩ := (hc5.more s6).ins
        refine ⟨_, rfl, c, cC K, dx6, _, _, rfl, hi6, Tx.clC, Tx.nC, rfl, _, rfl, _, rfl, (by show 2 ≤ sizeLine; decide), fun y2 hy2 => ?_⟩
        have s7 : Same H6 (upd H6 y2 (.tup [.ref b, .int (i : Nat)])) := same_upd hy2
        have hc7 := (hc5.more s6).more s7
        have hb7 := s7 _ _ (s6 _ _ hb5)
        refine ⟨ac, kc, (sq, i), y2, a2, rfl, rfl, rfl, hc7.nc, ?_, hkc.new Wp hsj, ?_, fun u2 nd2 => ?_⟩
        · exact im_tup.mpr ⟨y2, _, rfl, upd_same, imAll_two (sp_im hb7) (im_int.mpr rfl)⟩
        · have h1 := hkc.1
          have h2 := spots_len Wp
          have h3 := (List.getElem?_eq_some_iff.mp hsj).1
          exact Nat.lt_of_le_of_lt (show kc.length ≤ 2000 by omega) (by decide)
        obtain ⟨hc8, kt8, fz8⟩ := hc7.putC hne nd2
        have nla : lst ≠ aw := by
          obtain ⟨ys, z, _⟩ := hc2.nw
          exact ne_of hl z (by unfold ndO; intro q; cases q)
        have nlc : lst ≠ ac := by
          obtain ⟨ys, z, _⟩ := hc2.nc
          exact ne_of hl z (by unfold ndO; intro q; cases q)
        refine ⟨_, _, _, rfl, ?_, hc8, hkc.put hsj, hkw.put hsj, fun s hs => ?_, ?_, ?_⟩
        · refine cg2.trans ((Same.chg (s3.trans s4)).trans ((chg_upd (by simp)).trans ((Same.chg (s6.trans s7)).trans (chg_upd (by simp)))))
        · have et : (spotsOf p).take (j + 1) = (spotsOf p).take j ++ [sq] := by rw [List.take_add_one, hsj]; rfl
          rw [et] at hs
          rcases List.mem_append.mp hs with hs | hs
          · obtain ⟨⟨b1, e1, e2⟩, b2, e3, e4⟩ := hdone s hs
            exact ⟨⟨b1, look_app e1, fz8 (((fz5 ((e2.more s3).more s4)).more s6).more s7)⟩, b2, look_app e3, fz8 (((fz5 ((e4.more s3).more s4)).more s6).more s7)⟩
          · rw [List.mem_singleton.mp hs]
            exact ⟨⟨a2, look_new (hkc.new Wp hsj), fz8 (g6.more s7)⟩, a1, look_new (hkw.new Wp hsj), fz8 ((g5.more s6).more s7)⟩
        · rw [upd_ne nlc]
          refine s7 _ _ (s6 _ _ ?_)
          rw [upd_ne nla]
          exact s4 _ _ (s3 _ _ hl)
        · exact kt.trans ((Same.tup (s3.trans s4)).trans (kt5.trans ((Same.tup (s6.trans s7)).trans kt8)))
      · rintro σ H2 ⟨v3, kc, kw, rfl, cg2, hc2, hkc, hkw, hdone, hl, kt⟩
        rw [List.length_map, hbl] at hkc hkw hdone
        rw [List.take_length] at hdone
        have more : ∀ {l : List (SK × Addr)}, KeysOk p i (spotsOf p).length l → KeysOk p (i + 1) 0 l := fun h => by
          refine ⟨by have := h.1; have := spots_len Wp; omega, fun k hk => .inl ?_⟩
          rcases h.2 k hk with h | ⟨h, _⟩ <;> omega
        refine ⟨_, v3, kc, kw, rfl, cg2, ⟨hc2.ins, hc2.lin, hc2.nc, hc2.nw, fun s hs j hj => ?_, fun s hs j hj => ?_⟩, more hkc, more hkw⟩
        · by_cases e : j = i
          · rw [e]; exact (hdone s ((mem_spots Wp).mpr hs)).1
          · exact hc2.call s hs j (by omega)
        · by_cases e : j = i
          · rw [e]; exact (hdone s ((mem_spots Wp).mpr hs)).2
          · exact hc2.way s hs j (by omega)
    · rintro σ H' ⟨v2, v3, kc, kw, rfl, cg, hc1, _, _⟩
      exact k H' kc kw cg hc1
end
end K28

set_option Elab.async false
set_option linter.all false
set_option maxRecDepth 100000
set_option maxHeartbeats 400000
/-! how_many_runs. -/
namespace K28
open PySem PySem.Spec PyProof.Rows L2
section
variable {P : Program} {w : World} {K : PySem.W.Frag} {mg : Str → Option Value} {base : Heap}
def spMany (p : Prog) : Sp := fun vs H Q _ => ∃ v, ∃ n : Nat, vs = [v, .int n] ∧ Im H (progD p) v ∧ WF p ∧ n ≤ 15 ∧ ∀ H', Same H H' → Q (.int ((runs p n (c0 p)).length : Nat)) H'
theorem scHM : FnScope ["program", "count", "counts"] ["program", "count"] (defScope sHowMany) := ⟨rfl, rfl, rfl, by decide +kernel, rfl, by decide +kernel, by decide +kernel⟩
theorem tab_ints : ∀ g : Tab, (tabV g).map (·.2) = (g.map fun x => (x.2 : Int)).map V.int
  | [] => rfl
  | x :: r => by
    have h := tab_ints r
    unfold tabV at h ⊢
    rw [List.map_cons, List.map_cons, List.map_cons, List.map_cons, h]
theorem tab_sum : ∀ g : Tab, (g.map fun x => (x.2 : Int)).sum = ((wsum g fun _ => 1 : Nat) : Int)
  | [] => rfl
  | x :: r => by
    rw [List.map_cons, List.sum_cons, tab_sum r, wsum_cons]
    omega
theorem ok_many {p : Prog} {f gi gf : Addr} (F : At K "how_many_runs" "how_many_runs" sHowMany f) (Tx : Tx K mg) (I : Ok P w K mg base 1 gi ["self", "program"] (spCInit P w (cC K) p)) (M : Mk K (cC K) gi) (mgC : mg "Counts" = some (.ref (cC K)))
    (Fi : Ok P w K mg base 6 gf ["self", "count"] (spFill P w (cC K) p)) (mF : Meth K (cC K) "fill" gf) : Ok P w K mg base 7 f ["program", "count"] (spMany p) := by
  obtain ⟨fdI, G, hb0, _⟩ := I
  refine mkOk F scHM (fun _ _ _ _ _ _ us hl => match us, hl with | [_, _], _ => rfl) (fun vs H Q E h => ?_) (fun cdv A outer s H vs Q E hr h => ?_)
  · obtain ⟨v, n, rfl, _⟩ := h; rfl
  · obtain ⟨v, n, rfl, hv, Wp, hn, k⟩ := h
    obtain ⟨a, x, r, t, ls, rfl, h1, rfl, h2⟩ := im_prog0 hv Wp.ne
    have hr2 : Room 2 _ := hr.mono (by decide)
    refine ⟨_, pss_cons (ps_set (i := 2) scHM.nd rfl (Or.inl rfl) (pe_make M G hr2 (by rfl) mgC hb0 .nil pass0 (pa_cons (pv 0) pa_nil)))
      (pss_cons (ps_expr (pe_methO Fi hr (pv 2) Tx.clC mF (pa_cons (pv 1) pa_nil)))
      (pss_one (ps_ret (pe_callB (cr_sum rfl) (by rfl) Tx.sum (by decide +kernel) (pa_cons (pe_callTy (call_list_vals rfl) (by rfl) Tx.list (by decide +kernel) (pa_cons (pe_valsT
        (pe_nget hr.u9 (pe_fld (pv 2) rfl) (pe_tup (pa_cons (pe_tup (pa_cons (pe_ix ix_tup (pe_ix ix_tup (pv 0) pe_int (fun _ _ => rfl)) pe_int (fun _ _ => rfl)) (pa_cons pe_int pa_nil))) (pa_cons (pv 1) pa_nil))) (fun _ _ => rfl))) pa_nil)) pa_nil))))), ?_⟩
    refine ⟨_, rfl, ?_⟩
    intro c dx nx ndx nex
    have hs3 : Same H (upd (upd H dx (.own c)) c (.ins (cC K) dx [])) := made_same nx ndx
    refine ⟨c, dx, .ref a, rfl, upd_same, hv.keep (Same.tup hs3), Wp, fun lt ac aw H1 cg hc hlin hne na nw => ⟨rfl, ?_⟩⟩
    have s1 : Same H H1 := made_more hs3 nx cg
    have na0 : H ac = none := hs3.free na
    have nw0 : H aw = none := hs3.free nw
    obtain ⟨dx1, hi1⟩ := hc.ins
    refine ⟨_, rfl, c, dx1, _, rfl, hi1, rfl, _, rfl, c, lt, ac, aw, n, rfl, hc, hne, hlin, Wp, hn, fun H2 kc kw cg2 hc2 => ?_⟩
    have s2 : Same H H2 := fun b o e => cg2 _ _ (s1 b o e) fun z => by
      rcases List.mem_cons.mp z with z | z
      · rw [z, na0] at e; cases e
      · rw [List.mem_singleton.mp z, nw0] at e; cases e
    obtain ⟨dx2, hi2⟩ := hc2.ins
    refine ⟨_, rfl, c, cC K, dx2, _, _, rfl, hi2, Tx.clC, Tx.nC, rfl, ?_⟩
    refine ⟨_, rfl, a, _, 0, _, rfl, rfl, .of (s2 _ _ h1), atI_nat (j := 0) rfl, t, _, 0, _, rfl, rfl, .of (s2 _ _ h2), atI_nat (j := 0) rfl, (by show 2 ≤ sizeLine; decide), fun q hq => ?_⟩
    refine ⟨_, rfl, (by show 2 ≤ sizeLine; decide), fun y hy => ?_⟩
    have s3 : Same H2 _ := (same_upd (o := .tup [.str (nm0 p), .int 0]) hq).trans (same_upd (o := .tup [.ref q, .int (n : Nat)]) hy)
    obtain ⟨dd, e5, od, g, hg, gg⟩ := hc2.call _ (spot0 Wp) n (Nat.lt_succ_self n)
    refine ⟨ac, kc, ((nm0 p, 0), n), y, dd, rfl, rfl, (hc2.more s3).nc, ?_, e5, ?_⟩
    · exact im_tup.mpr ⟨y, _, rfl, upd_same, imAll_two (sp_im (s := (nm0 p, 0)) ((same_upd hy) _ _ upd_same)) (im_int.mpr rfl)⟩
    have hg3 := s3 _ _ hg
    refine ⟨dd, od, _, rfl, hg3, fun vw hvw => ?_⟩
    have s4 := s3.trans (same_upd (o := valsO vw dd) hvw)
    refine ⟨vw, dd, od, _, rfl, upd_same, s4 _ _ hg, fun l hl => ?_⟩
    have s5 := s4.trans (same_upd (o := .lst ((tabV g).map (·.2))) hl)
    refine ⟨l, g.map fun x => (x.2 : Int), rfl, ?_, ?_⟩
    · rw [← tab_ints]
      exact .of upd_same
    · have e : (g.map fun x => (x.2 : Int)).sum = ((runs p n (c0 p)).length : Nat) := by
        rw [tab_sum, gg.eq, runs_length]; rfl
      rw [e]
      exact k _ (s2.trans s5)
end
end K28

set_option Elab.async false
set_option linter.all false
set_option maxRecDepth 100000
set_option maxHeartbeats 400000
/-! _law_feed, _law_draw, _law_any. -/
namespace K28
open PySem PySem.Spec PyProof.Rows L2
def feedL (cl : Addr) (nx rs tn : Int) : List (Key × V) := [(Sum.inr "cells", .ref cl), (Sum.inr "next", .int nx), (Sum.inr "rest", .int rs), (Sum.inr "turn", .int tn)]
structure FeedIs (H : Hp) (fd cl : Addr) (ns : List Int) (nx rs tn : Int) : Prop where
  at' : H fd = some (.dK (feedL cl nx rs tn))
  cells : H cl = some (.lst (ns.map V.int))
theorem SqL.same {K : PySem.W.Frag} {H H' : Hp} {a : Addr} {xs : List V} (h : SqL K H a xs) (s : Same H H') : SqL K H' a xs := by
  rcases h with (h | ⟨o, h⟩) | h
  · exact .inl (.inl (s _ _ h))
  · exact .inl (.inr ⟨o, s _ _ h⟩)
  · exact .inr h
def FeedAt (H : Hp) (fd cl : Addr) : Prop := ∃ ns nx rs tn, FeedIs H fd cl ns nx rs tn
theorem FeedAt.more {H H' : Hp} {fd cl : Addr} (f : FeedAt H fd cl) (s : Same H H') : FeedAt H' fd cl := by
  obtain ⟨ns, nx, rs, tn, h1, h2⟩ := f
  exact ⟨ns, nx, rs, tn, s _ _ h1, s _ _ h2⟩
section
variable {H : Hp} {fd cl : Addr} {ns : List Int} {nx rs tn : Int}
theorem FeedIs.gC (f : FeedIs H fd cl ns nx rs tn) : DGet H fd (.str "cells") (some (.ref cl)) := DGet.k (k := Sum.inr "cells") f.at'
theorem FeedIs.gN (f : FeedIs H fd cl ns nx rs tn) : DGet H fd (.str "next") (some (.int nx)) := DGet.k (k := Sum.inr "next") f.at'
theorem FeedIs.gR (f : FeedIs H fd cl ns nx rs tn) : DGet H fd (.str "rest") (some (.int rs)) := DGet.k (k := Sum.inr "rest") f.at'
theorem FeedIs.gT (f : FeedIs H fd cl ns nx rs tn) : DGet H fd (.str "turn") (some (.int tn)) := DGet.k (k := Sum.inr "turn") f.at'
theorem four : (feedL cl nx rs tn).length < sizeLine := by show 4 < sizeLine; decide
theorem FeedIs.ne (f : FeedIs H fd cl ns nx rs tn) : cl ≠ fd := ne_of f.cells f.at' (by intro z; cases z)
theorem FeedIs.set (f : FeedIs H fd cl ns nx rs tn) (nx' rs' tn' : Int) : FeedIs (upd H fd (.dK (feedL cl nx' rs' tn'))) fd cl ns nx' rs' tn' := ⟨upd_same, by rw [upd_ne f.ne]; exact f.cells⟩
theorem FeedIs.pT (f : FeedIs H fd cl ns nx rs tn) (v : Int) : DPut H fd (.str "turn") (.int v) (upd H fd (.dK (feedL cl nx rs v))) := DPut.k (k := Sum.inr "turn") (v := .int v) f.at' four
theorem FeedIs.pR (f : FeedIs H fd cl ns nx rs tn) (v : Int) : DPut H fd (.str "rest") (.int v) (upd H fd (.dK (feedL cl nx v tn))) := DPut.k (k := Sum.inr "rest") (v := .int v) f.at' four
theorem FeedIs.pN (f : FeedIs H fd cl ns nx rs tn) (v : Int) : DPut H fd (.str "next") (.int v) (upd H fd (.dK (feedL cl v rs tn))) := DPut.k (k := Sum.inr "next") (v := .int v) f.at' four
end
theorem dp_ints {K : PySem.W.Frag} {H : Hp} : ∀ ns : List Int, DpAll K H (ns.map V.int) (ns.map PyData.int)
  | [] => .nil
  | i :: r => .cons (.int i) (dp_ints r)
theorem shaped_ints (ns : List Int) : SeqAt.shaped (.list (ns.map PyData.int)) = true := by
  have h1 : ∀ ns : List Int, PyData.canLayAll0 (ns.map PyData.int) = true := by
    intro ns
    induction ns with
    | nil => rfl
    | cons i r ih =>
      rw [List.map_cons]
      show (PyData.canLay0 (.int i) && PyData.canLayAll0 (r.map PyData.int)) = true
      rw [ih]; rfl
  have h2 : ∀ ns : List Int, PyData.depthAll (ns.map PyData.int) = 0 := by
    intro ns
    induction ns with
    | nil => rfl
    | cons i r ih =>
      rw [List.map_cons]
      show max (PyData.depth (.int i)) (PyData.depthAll (r.map PyData.int)) = 0
      rw [ih]; rfl
  show (PyData.canLay0 _ && decide (PyData.depth _ ≤ 64)) = true
  rw [Bool.and_eq_true]
  refine ⟨?_, decide_eq_true ?_⟩
  · show PyData.canLayAll0 _ = true
    exact h1 ns
  · show PyData.depthAll (ns.map PyData.int) + 1 ≤ 64
    rw [h2]; decide
theorem eqv_ints (ns : List Int) : PyData.eqv (.list (ns.map PyData.int)) (.list []) = ns.isEmpty := by
  cases ns with
  | nil => decide +kernel
  | cons i r => simp [PyData.eqv, PyData.eqvAll]
theorem iteB {b : Bool} {A B : Prop} (ha : b = true → A) (hb : b = false → B) : if b = true then A else B := by
  cases b with
  | true => exact (if_pos rfl).mpr (ha rfl)
  | false => exact (if_neg Bool.false_ne_true).mpr (hb rfl)
theorem cmulM {a n b : Int} (h : 0 < n ∧ n ≤ 2 ^ 64) : CMul (a % n) b := .inl ⟨by have := Int.emod_nonneg a (show n ≠ 0 by omega); omega, Int.lt_of_lt_of_le (Int.emod_lt_of_pos a h.1) h.2⟩
theorem mod_nat {i : Int} {m : Nat} (h : 0 < m) : ∃ k : Nat, i % (m : Int) = (k : Int) ∧ k < m := by
  have h1 : (0 : Int) ≤ i % (m : Int) := Int.emod_nonneg _ (by omega)
  have h2 : i % (m : Int) < (m : Int) := Int.emod_lt_of_pos _ (by omega)
  exact ⟨(i % (m : Int)).toNat, by omega, by omega⟩
section
variable {P : Program} {w : World} {K : PySem.W.Frag} {mg : Str → Option Value} {base : Heap}
def spFeed (K : PySem.W.Frag) : Sp := fun vs H Q _ => ∃ (a : Addr) (ns : List Int), vs = [.ref a] ∧ SqL K H a (ns.map V.int) ∧ ∀ fd cl H', Same H H' → H fd = none → FeedAt H' fd cl → Q (.ref fd) H'
theorem scFe : FnScope ["_law_script"] ["_law_script"] (defScope sFeed) := ⟨rfl, rfl, rfl, by decide +kernel, rfl, by decide +kernel, by decide +kernel⟩
theorem ok_feed {f : Addr} (F : At K "_law_feed" "_law_feed" sFeed f) (Tx : Tx K mg) : Ok P w K mg base 1 f ["_law_script"] (spFeed K) := by
  refine mkOk F scFe (fun _ _ _ _ _ _ us hl => match us, hl with | [_], _ => rfl) (fun vs H Q E h => ?_) (fun cdv A outer s H vs Q E hr h => ?_)
  · obtain ⟨a, ns, rfl, _⟩ := h; rfl
  · obtain ⟨a, ns, rfl, ha, k⟩ := h
    refine ⟨_, pss_one (ps_ret (pe_disp (pps_cons pe_str (pe_callTy call_list_of (by rfl) Tx.list (by decide +kernel) (pa_cons (pe_slice sl_list (pv 0) po_none (po_some pe_int)) pa_nil))
      (pps_cons pe_str pe_int (pps_cons pe_str pe_int (pps_cons pe_str pe_int pps_nil)))) rfl rfl (List.cons_ne_nil _ _) (by decide))), ?_⟩
    intro fd hfd
    have s1 : Same H (upd H fd (.dK [])) := same_upd hfd
    refine ⟨_, rfl, _, rfl, a, _, rfl, SqL.same ha s1, fun l1 hl1 => ?_⟩
    have s2 := s1.trans (same_upd (o := .lst (cutV (ns.map V.int) none (some 63))) hl1)
    refine ⟨l1, _, rfl, .inl (.of upd_same), fun cl hcl => ?_⟩
    have s3 := s2.trans (same_upd (o := .lst (cutV (ns.map V.int) none (some 63))) hcl)
    have nfc : fd ≠ cl := fun z => by
      rw [← z, upd_ne (fun y => by rw [← y, upd_same] at hl1; cases hl1), upd_same] at hcl; cases hcl
    have nfl : fd ≠ l1 := fun z => by rw [← z, upd_same] at hl1; cases hl1
    refine ⟨?_, [(Sum.inr "cells", .ref cl), (Sum.inr "next", .int 0), (Sum.inr "rest", .int 0), (Sum.inr "turn", .int 0)], rfl, by show 4 ≤ 15; decide, ?_⟩
    · rw [upd_ne nfc, upd_ne nfl, upd_same]
    refine k fd cl _ (fun b o e => ?_) hfd ⟨(ns.drop 0).take (HT.sIx (ns.map V.int).length (ns.map V.int).length (some 63) - 0), 0, 0, 0, by rw [upd_same]; rfl, ?_⟩
    · rw [upd_ne (ne_of_none e hfd)]
      exact s3 _ _ e
    · rw [upd_ne nfc.symm, upd_same, List.map_take, List.map_drop]
      rfl
/-! ### _law_draw -/
def spDraw : Sp := fun vs H Q _ => ∃ fd cl, ∃ m : Nat, vs = [.ref fd, .int m] ∧ FeedAt H fd cl ∧ 0 < m ∧ m < 1073741824 ∧ ∀ (k : Nat) H', k < m → Chg [fd] H H' → FeedAt H' fd cl → Q (.int (k : Nat)) H'
theorem scDr : FnScope ["_law_feed_here", "_law_many", "_law_digit", "_law_cells", "_law_place", "_law_cell", "_law_mixed"] ["_law_feed_here", "_law_many"] (defScope sDraw) := ⟨rfl, rfl, rfl, by decide +kernel, rfl, by decide +kernel, by decide +kernel⟩
theorem ok_draw {f : Addr} (F : At K "_law_draw" "_law_draw" sDraw f) (Tx : Tx K mg) : Ok P w K mg base 1 f ["_law_feed_here", "_law_many"] spDraw := by
  refine mkOk F scDr (fun _ _ _ _ _ _ us hl => match us, hl with | [_, _], _ => rfl) (fun vs H Q E h => ?_) (fun cdv A outer s H vs Q E hr h => ?_)
  · obtain ⟨fd, cl, m, rfl, _⟩ := h; rfl
  · obtain ⟨fd, cl, m, rfl, ⟨ns, nx, rs, tn, hf⟩, hm0, hm1, k⟩ := h
    refine ⟨_, pss_cons (ps_dput hr.u1 (pv 0) pe_str (pe_op op_add (pe_dget hr.u1 (pv 0) pe_str (fun _ _ => rfl)) pe_int) rfl)
      (pss_cons (ps_if (pt_cmpR op_gt (pe_dget hr.u1 (pv 0) pe_str (fun _ _ => rfl)) pe_int (nomark _))
        (pss_cons (ps_set (i := 2) scDr.nd rfl (Or.inl rfl) (pe_op op_mod (pe_callTy call_int1 (by rfl) Tx.int (by decide +kernel) (pa_cons (pe_dget hr.u1 (pv 0) pe_str (fun _ _ => rfl)) pa_nil)) (pv 1)))
        (pss_cons (ps_dput hr.u1 (pv 0) pe_str (pe_op op_fdiv (pe_dget hr.u1 (pv 0) pe_str (fun _ _ => rfl)) (pv 1)) rfl)
        (pss_one (ps_ret (pv 2))))) pss_nil)
      (pss_cons (ps_par (i := 3) (j := 4) rfl scDr.nd rfl rfl (by decide) rfl rfl (pa_cons (pe_dget hr.u1 (pv 0) pe_str (fun _ _ => rfl)) (pa_cons (pe_dget hr.u1 (pv 0) pe_str (fun _ _ => rfl)) pa_nil)) (by rfl))
      (pss_cons (ps_set (i := 5) scDr.nd rfl (Or.inl rfl) (pe_ifExp (pt_cmpR (op_neD hr.units) (pv 3) (pe_lst pa_nil) (nomark _)) (pe_ix ix_list (pv 3) (pe_op op_mod (pe_callTy call_int1 (by rfl) Tx.int (by decide +kernel) (pa_cons (pv 4) pa_nil)) (pe_callB call_len_seq (by rfl) Tx.len PySem.boot_len (pa_cons (pv 3) pa_nil))) (fun _ _ => rfl)) pe_int))
      (pss_cons (ps_dput hr.u1 (pv 0) pe_str (pe_op op_add (pv 4) pe_int) rfl)
      (pss_cons (ps_if (pw_and (pt_cmpR op_ge (pv 5) (pe_op op_pow pe_int pe_int) (nomark _)) (pw_and1 (pt_cmpR op_lt (pv 4) (pe_callB call_len_seq (by rfl) Tx.len PySem.boot_len (pa_cons (pv 3) pa_nil)) (nomark _)))).pt
        (pss_cons (ps_dput hr.u1 (pv 0) pe_str (pe_op op_fdiv (pv 5) (pv 1)) rfl)
        (pss_one (ps_ret (pe_op op_mod (pe_callTy call_int1 (by rfl) Tx.int (by decide +kernel) (pa_cons (pv 5) pa_nil)) (pv 1))))) pss_nil)
      (pss_cons (ps_set (i := 6) scDr.nd rfl (Or.inl rfl) (pe_op op_mod (pe_callTy call_int1 (by rfl) Tx.int (by decide +kernel) (pa_cons (pe_op op_add (pe_op op_add (pe_op op_mod (pe_callTy call_int1 (by rfl) Tx.int (by decide +kernel) (pa_cons (pv 5) pa_nil)) pe_int) (pe_op op_mul pe_int (pe_dget hr.u1 (pv 0) pe_str (fun _ _ => rfl)))) pe_int) pa_nil)) pe_int))
      (pss_cons (ps_set (i := 6) scDr.nd rfl (Or.inl rfl) (pe_op op_mod (pe_callTy call_int1 (by rfl) Tx.int (by decide +kernel) (pa_cons (pe_op op_add (pe_op op_add (pe_op op_mul (pv 6) (pv 6)) (pe_op op_mul pe_int (pe_dget hr.u1 (pv 0) pe_str (fun _ _ => rfl)))) pe_int) pa_nil)) pe_int))
      (pss_one (ps_ret (pe_op op_mod (pe_callTy call_int1 (by rfl) Tx.int (by decide +kernel) (pa_cons (pe_op op_fdiv (pe_op op_mod (pe_callTy call_int1 (by rfl) Tx.int (by decide +kernel) (pa_cons (pe_op op_add (pe_op op_mul (pv 6) (pv 6)) (pe_op op_mul pe_int (pv 6))) pa_nil)) pe_int) pe_int) pa_nil)) (pv 1))))))))))), ?_⟩
    have hmp : (0 : Int) < (m : Int) := by omega
    refine ⟨_, rfl, fd, _, rfl, hf.gT, _, _, rfl, rfl, ?_⟩
    refine ⟨_, rfl, fd, _, rfl, hf.pT _, ?_⟩
    have f1 := hf.set nx rs (tn + 1)
    have c1 : Chg [fd] H (upd H fd (.dK (feedL cl nx rs (tn + 1)))) := chg_upd (by simp)
    generalize hH1 : upd H fd (.dK (feedL cl nx rs (tn + 1))) = H1 at f1 c1
    refine ⟨_, rfl, fd, _, rfl, f1.gR, _, _, rfl, rfl, _, rfl, ?_⟩
    by_cases hrs : 0 < rs
    · rw [show decide (0 < rs) = true from decide_eq_true hrs]
      refine iteT ?_
      obtain ⟨r, hr1, hr2⟩ := mod_nat (i := rs) hm0
      refine ⟨_, rfl, fd, _, rfl, f1.gR, .inl ⟨rs, rfl, _, rfl, _, _, rfl, rfl, hmp, ?_⟩⟩
      refine ⟨_, rfl, fd, _, rfl, f1.gR, _, rfl, _, _, rfl, rfl, ⟨hmp, by omega⟩, ?_⟩
      refine ⟨_, rfl, fd, _, rfl, f1.pR _, _, rfl, ?_⟩
      have := k r _ hr2 (c1.trans (chg_upd (by simp))) ⟨ns, nx, rs / (m : Int), tn + 1, f1.set _ _ _⟩
      rw [← hr1] at this
      exact this
    · rw [show decide (0 < rs) = false from decide_eq_false hrs]
      refine iteF ?_
      have fin : ∀ (x : Int) (H' : Hp), Chg [fd] H H' → FeedAt H' fd cl → Q (.int (x % (m : Int))) H' := fun x H' c f => by
        obtain ⟨k', e1, e2⟩ := mod_nat (i := x) hm0
        rw [e1]
        exact k k' H' e2 c f
      refine ⟨_, rfl, fd, _, rfl, f1.gC, _, rfl, fd, _, rfl, f1.gN, _, _, rfl, ?_⟩
      refine ⟨_, rfl, Nat.zero_le _, fun l hl => ?_⟩
      have s2 : Same H1 (upd H1 l (.lst [])) := same_upd hl
      have f2 : FeedIs (upd H1 l (.lst [])) fd cl ns nx rs (tn + 1) := ⟨s2 _ _ f1.at', s2 _ _ f1.cells⟩
      have c2 : Chg [fd] H (upd H1 l (.lst [])) := c1.trans (Same.chg s2)
      refine ⟨.list (ns.map PyData.int), .list [], .lst (.of f2.cells) (dp_ints ns), .lst (.of upd_same) .nil, shaped_ints ns, by decide +kernel, !ns.isEmpty, by rw [eqv_ints], ?_⟩
      generalize hH2 : upd H1 l (.lst []) = H2 at f2 c2
      have c3 : ∀ v, Chg [fd] H (upd H2 fd (.dK (feedL cl v rs (tn + 1)))) := fun v => c2.trans (chg_upd (by simp))
      have c4 : ∀ v r, Chg [fd] H (upd (upd H2 fd (.dK (feedL cl v rs (tn + 1)))) fd (.dK (feedL cl v r (tn + 1)))) := fun v r => (c3 v).trans (chg_upd (by simp))
      refine iteB (fun hb => ?_) (fun _ => ?_)
      · have hne : 0 < ns.length := by
          cases ns with
          | nil => exact Bool.noConfusion hb
          | cons _ _ => exact Nat.succ_pos _
        obtain ⟨j, hj1, hj2⟩ := mod_nat (i := nx) hne
        refine ⟨_, rfl, _, rfl, .inl ⟨_, rfl, _, rfl, cl, _, rfl, .inl (.of f2.cells), _, _, rfl, rfl, by rw [List.length_map]; omega, cl, _, (j : Nat), _, rfl, ?_, .of f2.cells, atI_nat (j := j) (v := V.int ns[j]) (by rw [List.getElem?_map, List.getElem?_eq_getElem hj2]; rfl), ?_⟩⟩
        · rw [List.length_map]
          exact congrArg V.int hj1
        generalize ns[j] = c
        refine ⟨_, rfl, _, _, rfl, rfl, _, rfl, fd, _, rfl, f2.pN _, ?_⟩
        have f3 := f2.set (nx + 1) rs (tn + 1)
        refine ⟨_, rfl, _, _, rfl, rfl, ⟨by decide, by decide, by decide⟩, _, _, rfl, rfl, _, rfl, ?_⟩
        refine iteB (fun _ => ?_) (fun _ => ?_)
        · refine ⟨_, rfl, _, rfl, cl, _, rfl, .inl (.of f3.cells), _, _, rfl, rfl, _, rfl, ?_⟩
          refine iteB (fun _ => ?_) (fun _ => ?_)
          · refine ⟨_, rfl, _, rfl, _, _, rfl, rfl, ⟨hmp, by omega⟩, _, rfl, fd, _, rfl, f3.pR _, ?_⟩
            exact ⟨_, rfl, .inl ⟨_, rfl, _, rfl, _, _, rfl, rfl, hmp, fin _ _ (c4 _ _) ⟨ns, _, _, _, f3.set _ _ _⟩⟩⟩
          · refine ⟨_, rfl, .inl ⟨_, rfl, _, _, rfl, rfl, by show (0 : Int) < _; decide, _, rfl, fd, _, rfl, f3.gT, _, _, rfl, rfl, .inl ⟨by decide, by decide⟩, _, _, rfl, rfl, _, _, rfl, rfl, .inl ⟨_, rfl, _, _, rfl, rfl, by show (0 : Int) < _; decide, ?_⟩⟩⟩
            refine ⟨_, rfl, _, rfl, _, _, rfl, rfl, cmulM ⟨by decide, by decide⟩, _, rfl, fd, _, rfl, f3.gT, _, _, rfl, rfl, .inl ⟨by decide, by decide⟩, _, _, rfl, rfl, _, _, rfl, rfl, .inl ⟨_, rfl, _, _, rfl, rfl, by show (0 : Int) < _; decide, ?_⟩⟩
            refine ⟨_, rfl, _, rfl, _, _, rfl, rfl, cmulM ⟨by decide, by decide⟩, _, rfl, _, _, rfl, rfl, .inl ⟨by decide, by decide⟩, _, _, rfl, rfl, .inl ⟨_, rfl, _, _, rfl, rfl, by show (0 : Int) < _; decide, _, _, rfl, rfl, ⟨by decide, by decide⟩, .inl ⟨_, rfl, _, rfl, _, _, rfl, rfl, hmp, ?_⟩⟩⟩
            exact fin _ _ (c3 _) ⟨ns, _, _, _, f3⟩
        · refine ⟨_, rfl, .inl ⟨_, rfl, _, _, rfl, rfl, by show (0 : Int) < _; decide, _, rfl, fd, _, rfl, f3.gT, _, _, rfl, rfl, .inl ⟨by decide, by decide⟩, _, _, rfl, rfl, _, _, rfl, rfl, .inl ⟨_, rfl, _, _, rfl, rfl, by show (0 : Int) < _; decide, ?_⟩⟩⟩
          refine ⟨_, rfl, _, rfl, _, _, rfl, rfl, cmulM ⟨by decide, by decide⟩, _, rfl, fd, _, rfl, f3.gT, _, _, rfl, rfl, .inl ⟨by decide, by decide⟩, _, _, rfl, rfl, _, _, rfl, rfl, .inl ⟨_, rfl, _, _, rfl, rfl, by show (0 : Int) < _; decide, ?_⟩⟩
          refine ⟨_, rfl, _, rfl, _, _, rfl, rfl, cmulM ⟨by decide, by decide⟩, _, rfl, _, _, rfl, rfl, .inl ⟨by decide, by decide⟩, _, _, rfl, rfl, .inl ⟨_, rfl, _, _, rfl, rfl, by show (0 : Int) < _; decide, _, _, rfl, rfl, ⟨by decide, by decide⟩, .inl ⟨_, rfl, _, rfl, _, _, rfl, rfl, hmp, ?_⟩⟩⟩
          exact fin _ _ (c3 _) ⟨ns, _, _, _, f3⟩
      · refine ⟨_, rfl, _, _, rfl, rfl, _, rfl, fd, _, rfl, f2.pN _, ?_⟩
        have f3 := f2.set (nx + 1) rs (tn + 1)
        refine ⟨_, rfl, _, _, rfl, rfl, ⟨by decide, by decide, by decide⟩, _, _, rfl, rfl, _, rfl, ?_⟩
        refine iteB (fun _ => ?_) (fun _ => ?_)
        · refine ⟨_, rfl, _, rfl, cl, _, rfl, .inl (.of f3.cells), _, _, rfl, rfl, _, rfl, ?_⟩
          refine iteB (fun _ => ?_) (fun _ => ?_)
          · refine ⟨_, rfl, _, rfl, _, _, rfl, rfl, ⟨hmp, by omega⟩, _, rfl, fd, _, rfl, f3.pR _, ?_⟩
            exact ⟨_, rfl, .inl ⟨_, rfl, _, rfl, _, _, rfl, rfl, hmp, fin _ _ (c4 _ _) ⟨ns, _, _, _, f3.set _ _ _⟩⟩⟩
          · refine ⟨_, rfl, .inl ⟨_, rfl, _, _, rfl, rfl, by show (0 : Int) < _; decide, _, rfl, fd, _, rfl, f3.gT, _, _, rfl, rfl, .inl ⟨by decide, by decide⟩, _, _, rfl, rfl, _, _, rfl, rfl, .inl ⟨_, rfl, _, _, rfl, rfl, by show (0 : Int) < _; decide, ?_⟩⟩⟩
            refine ⟨_, rfl, _, rfl, _, _, rfl, rfl, cmulM ⟨by decide, by decide⟩, _, rfl, fd, _, rfl, f3.gT, _, _, rfl, rfl, .inl ⟨by decide, by decide⟩, _, _, rfl, rfl, _, _, rfl, rfl, .inl ⟨_, rfl, _, _, rfl, rfl, by show (0 : Int) < _; decide, ?_⟩⟩
            refine ⟨_, rfl, _, rfl, _, _, rfl, rfl, cmulM ⟨by decide, by decide⟩, _, rfl, _, _, rfl, rfl, .inl ⟨by decide, by decide⟩, _, _, rfl, rfl, .inl ⟨_, rfl, _, _, rfl, rfl, by show (0 : Int) < _; decide, _, _, rfl, rfl, ⟨by decide, by decide⟩, .inl ⟨_, rfl, _, rfl, _, _, rfl, rfl, hmp, ?_⟩⟩⟩
            exact fin _ _ (c3 _) ⟨ns, _, _, _, f3⟩
        · refine ⟨_, rfl, .inl ⟨_, rfl, _, _, rfl, rfl, by show (0 : Int) < _; decide, _, rfl, fd, _, rfl, f3.gT, _, _, rfl, rfl, .inl ⟨by decide, by decide⟩, _, _, rfl, rfl, _, _, rfl, rfl, .inl ⟨_, rfl, _, _, rfl, rfl, by show (0 : Int) < _; decide, ?_⟩⟩⟩
          refine ⟨_, rfl, _, rfl, _, _, rfl, rfl, cmulM ⟨by decide, by decide⟩, _, rfl, fd, _, rfl, f3.gT, _, _, rfl, rfl, .inl ⟨by decide, by decide⟩, _, _, rfl, rfl, _, _, rfl, rfl, .inl ⟨_, rfl, _, _, rfl, rfl, by show (0 : Int) < _; decide, ?_⟩⟩
          refine ⟨_, rfl, _, rfl, _, _, rfl, rfl, cmulM ⟨by decide, by decide⟩, _, rfl, _, _, rfl, rfl, .inl ⟨by decide, by decide⟩, _, _, rfl, rfl, .inl ⟨_, rfl, _, _, rfl, rfl, by show (0 : Int) < _; decide, _, _, rfl, rfl, ⟨by decide, by decide⟩, .inl ⟨_, rfl, _, rfl, _, _, rfl, rfl, hmp, ?_⟩⟩⟩
          exact fin _ _ (c3 _) ⟨ns, _, _, _, f3⟩
end
end K28

set_option Elab.async false
set_option linter.all false
set_option maxRecDepth 100000
set_option maxHeartbeats 400000
/-! literal data in the text; _law_any. -/
namespace K28
open PySem PySem.Spec PyProof.Rows L2
theorem PE.conv {X : Cx} {e : Expr} {t t' : TE} (h : PE X e t) (c : ∀ σ H Q, t' σ H Q → t σ H Q) : PE X e t' := ⟨fun pins s σ H Q I q => h.run pins s σ H Q I (c _ _ _ q)⟩
theorem PA.conv {X : Cx} {es : List Expr} {t t' : TA} (h : PA X es t) (c : ∀ σ H Q, t' σ H Q → t σ H Q) : PA X es t' := ⟨fun pos pins s σ H Q I q => h.run pos pins s σ H Q I (c _ _ _ q)⟩
abbrev LEnv := List (Nat × PyData)
mutual
def litD (N : List Str) (sc : Scope) (env : LEnv) : Expr → Option PyData
  | .Constant (.int i) _ _ => some (.int i)
  | .Constant (.str x) _ _ => some (.str x)
  | .Tuple es _ _ => if es.length ≤ 1000 then (litDs N sc env es).map .tuple else none
  | .Name x _ => match N.findIdx? (· == x) with
    | some i => if N[i]? = some x ∧ sc.names.lookup x = some .local ∧ (x == ("__debug__" : Str)) = false ∧ (x == ("__classdict__" : Str)) = false then env.lookup i else none
    | none => none
  | _ => none
def litDs (N : List Str) (sc : Scope) (env : LEnv) : List Expr → Option (List PyData)
  | [] => some []
  | e :: es => match litD N sc env e, litDs N sc env es with
    | some d, some ds => some (d :: ds)
    | _, _ => none
end
def EnvOk (env : LEnv) (σ : L2.St) (H : Hp) : Prop := ∀ i d, env.lookup i = some d → ∃ v, σ[i]? = some (some v) ∧ Im H d v
theorem EnvOk.more {env : LEnv} {σ : L2.St} {H H' : Hp} (h : EnvOk env σ H) (s : Same H H') : EnvOk env σ H' := fun i d e => let ⟨v, e1, e2⟩ := h i d e; ⟨v, e1, e2.keep (Same.tup s)⟩
def tLit (env : LEnv) (d : PyData) : TE := fun σ H Q => EnvOk env σ H ∧ ∀ v H', Same H H' → Im H' d v → Q v H'
def tLits (env : LEnv) (ds : List PyData) : TA := fun σ H Q => EnvOk env σ H ∧ ∀ vs H', Same H H' → ImAll H' ds vs → Q vs H'
theorem star_lit {N : List Str} {sc : Scope} {env : LEnv} {E : Env} {e : Expr} {es : List Expr} (h : (litD N sc env e).isSome = true) : starEach (e :: es) E = (false, eval e E) :: starEach es E := by
  cases e <;> first | rfl | (unfold litD at h; cases h)
theorem litDs_len {N : List Str} {sc : Scope} {env : LEnv} : ∀ {es : List Expr} {ds : List PyData}, litDs N sc env es = some ds → ds.length = es.length
  | [], ds, h => by unfold litDs at h; cases h; rfl
  | e :: es, ds, h => by
    unfold litDs at h
    split at h
    · rename_i d ds' h1 h2
      cases h
      rw [List.length_cons, List.length_cons, litDs_len h2]
    · cases h
mutual
theorem pe_lit {X : Cx} {env : LEnv} : ∀ (e : Expr) (d : PyData), litD X.N X.env.scope env e = some d → PE X e (tLit env d)
  | .Constant c k p, d, h => by
    cases c with
    | int i =>
      unfold litD at h; cases h
      exact PE.conv pe_int fun σ H Q q => q.2 _ _ (fun _ _ e => e) (im_int.mpr rfl)
    | str x =>
      unfold litD at h; cases h
      exact PE.conv pe_str fun σ H Q q => q.2 _ _ (fun _ _ e => e) (im_str.mpr rfl)
    | _ => unfold litD at h; cases h
  | .Tuple es k p, d, h => by
    unfold litD at h
    by_cases hz : es.length ≤ 1000
    · rw [if_pos hz] at h
      obtain ⟨ds, hds, rfl⟩ := Option.map_eq_some_iff.mp h
      refine PE.conv (pe_tup (pa_lit es ds hds)) fun σ H Q q => ⟨q.1, fun vs H' s him => ⟨?_, fun n hn => ?_⟩⟩
      · rw [him.length, litDs_len hds]; exact Nat.le_trans hz (by decide)
      · exact q.2 _ _ (s.trans (same_upd hn)) (im_tup.mpr ⟨n, _, rfl, upd_same, him.keep (Same.tup (same_upd hn))⟩)
    · rw [if_neg hz] at h; cases h
  | .Name x p, d, h => by
    unfold litD at h
    split at h
    · rename_i i _
      split at h
      · rename_i hc
        exact PE.conv (pe_var (i := i) hc.1 (.inl hc.2.1) hc.2.2.1 hc.2.2.2) fun σ H Q q => let ⟨v, e1, e2⟩ := q.1 i d h; ⟨v, e1, q.2 _ _ (fun _ _ e => e) e2⟩
      · cases h
    · cases h
  | .BoolOp _ _ _, _, h => by unfold litD at h; cases h
  | .NamedExpr _ _ _, _, h => by unfold litD at h; cases h
  | .BinOp _ _ _ _, _, h => by unfold litD at h; cases h
  | .UnaryOp _ _ _, _, h => by unfold litD at h; cases h
  | .Lambda _ _ _ _, _, h => by unfold litD at h; cases h
  | .IfExp _ _ _ _, _, h => by unfold litD at h; cases h
  | .Dict _ _ _, _, h => by unfold litD at h; cases h
  | .Set _ _ _, _, h => by unfold litD at h; cases h
  | .ListComp _ _ _ _, _, h => by unfold litD at h; cases h
  | .SetComp _ _ _ _, _, h => by unfold litD at h; cases h
  | .DictComp _ _ _ _ _, _, h => by unfold litD at h; cases h
  | .GeneratorExp _ _ _ _, _, h => by unfold litD at h; cases h
  | .Await _ _, _, h => by unfold litD at h; cases h
  | .Yield _ _, _, h => by unfold litD at h; cases h
  | .YieldFrom _ _, _, h => by unfold litD at h; cases h
  | .Compare _ _ _ _, _, h => by unfold litD at h; cases h
  | .Call _ _ _ _, _, h => by unfold litD at h; cases h
  | .FormattedValue _ _ _ _, _, h => by unfold litD at h; cases h
  | .JoinedStr _ _, _, h => by unfold litD at h; cases h
  | .Attribute _ _ _, _, h => by unfold litD at h; cases h
  | .Subscript _ _ _, _, h => by unfold litD at h; cases h
  | .Starred _ _, _, h => by unfold litD at h; cases h
  | .List _ _, _, h => by unfold litD at h; cases h
  | .Slice _ _ _ _, _, h => by unfold litD at h; cases h
theorem pa_lit {X : Cx} {env : LEnv} : ∀ (es : List Expr) (ds : List PyData), litDs X.N X.env.scope env es = some ds → PA X es (tLits env ds)
  | [], ds, h => by
    unfold litDs at h; cases h
    exact PA.conv pa_nil fun σ H Q q => q.2 _ _ (fun _ _ e => e) (imAll_nil.mpr rfl)
  | e :: es, ds, h => by
    unfold litDs at h
    split at h
    · rename_i d ds' h1 h2
      cases h
      refine PA.conv (pa_cons (pe_lit e d h1) (pa_lit es ds' h2) (star_lit (by rw [h1]; rfl))) fun σ H Q q => ⟨q.1, fun v H1 s1 i1 => ⟨q.1.more s1, fun vs H2 s2 i2 => ?_⟩⟩
      exact q.2 _ _ (s1.trans s2) (imAll_cons.mpr ⟨v, vs, rfl, i1.keep (Same.tup s2), i2⟩)
    · cases h
end
end K28

set_option Elab.async false
set_option linter.all false
set_option maxRecDepth 100000
set_option maxHeartbeats 400000
/-! data that are programs: told by a program. -/
namespace K28
open PySem PySem.Spec PyProof.Rows L2
def dAll {α : Type} (f : PyData → Option α) : List PyData → Option (List α)
  | [] => some []
  | d :: ds => match f d, dAll f ds with
    | some x, some xs => some (x :: xs)
    | _, _ => none
theorem dAll_ok {α : Type} {f : PyData → Option α} {g : α → PyData} (h : ∀ d x, f d = some x → g x = d) : ∀ {ds : List PyData} {xs : List α}, dAll f ds = some xs → xs.map g = ds
  | [], xs, e => by cases e; rfl
  | d :: ds, xs, e => by
    unfold dAll at e
    split at e
    · rename_i x xs' h1 h2
      cases e
      rw [List.map_cons, h d x h1, dAll_ok h h2]
    · cases e
def dWay : PyData → Option Way
  | .int i => if 0 ≤ i then some (.num i.toNat) else none
  | .tuple [.str s] => if s = bkS then some .back else none
  | .tuple [.str s, .str k] => if s = flS then some (.fail k) else none
  | _ => none
theorem dWay_ok (d : PyData) (x : Way) (h : dWay d = some x) : wayD x = d := by
  unfold dWay at h
  split at h
  · split at h
    · rename_i i hi; cases h
      show PyData.int ((i.toNat : Nat) : Int) = _
      rw [Int.toNat_of_nonneg hi]
    · cases h
  · split at h
    · rename_i s hs; cases h; rw [hs]; rfl
    · cases h
  · split at h
    · rename_i s k hs; cases h; rw [hs]; rfl
    · cases h
  · cases h
def dStr : PyData → Option Str
  | .str x => some x
  | _ => none
theorem dStr_ok (d : PyData) (x : Str) (h : dStr d = some x) : PyData.str x = d := by
  unfold dStr at h
  split at h
  · cases h; rfl
  · cases h
def dHand : PyData → Option (Str × Nat)
  | .tuple [.str a, .int i] => if 0 ≤ i then some (a, i.toNat) else none
  | _ => none
theorem dHand_ok (d : PyData) (x : Str × Nat) (h : dHand d = some x) : handD x = d := by
  unfold dHand at h
  split at h
  · split at h
    · rename_i a i hi; cases h
      show PyData.tuple [.str a, .int ((i.toNat : Nat) : Int)] = _
      rw [Int.toNat_of_nonneg hi]
    · cases h
  · cases h
def dLine : PyData → Option Line
  | .tuple [.tuple cs, .tuple ws, .tuple hs] => match dAll dStr cs, dAll dWay ws, dAll dHand hs with
    | some a, some b, some c => some (a, b, c)
    | _, _, _ => none
  | _ => none
theorem dLine_ok (d : PyData) (x : Line) (h : dLine d = some x) : lineDt x = d := by
  unfold dLine at h
  split at h
  · split at h
    · rename_i a b c h1 h2 h3
      cases h
      show PyData.tuple [.tuple (a.map PyData.str), .tuple (b.map wayD), .tuple (c.map handD)] = _
      rw [dAll_ok dStr_ok h1, dAll_ok dWay_ok h2, dAll_ok dHand_ok h3]
    · cases h
  · cases h
def dFn : PyData → Option Fn
  | .tuple [.str n, .tuple ls] => match dAll dLine ls with
    | some a => some (n, a)
    | none => none
  | _ => none
theorem dFn_ok (d : PyData) (x : Fn) (h : dFn d = some x) : fnD x = d := by
  unfold dFn at h
  split at h
  · split at h
    · rename_i a h1
      cases h
      show PyData.tuple [.str _, .tuple (a.map lineDt)] = _
      rw [dAll_ok dLine_ok h1]
    · cases h
  · cases h
def dProg : PyData → Option Prog
  | .tuple fs => dAll dFn fs
  | _ => none
theorem dProg_ok (d : PyData) (x : Prog) (h : dProg d = some x) : progD x = d := by
  unfold dProg at h
  split at h
  · show PyData.tuple (x.map fnD) = _
    rw [dAll_ok dFn_ok h]
  · cases h
def nmB (x : Str) : Bool := (x.cps.all (· < 0x110000)) && decide (x.length ≤ 8)
theorem nmB_ok {x : Str} (h : nmB x = true) : NmOk x := by
  unfold nmB at h
  rw [Bool.and_eq_true] at h
  exact ⟨h.1, of_decide_eq_true h.2⟩
def ndB : List Str → Bool
  | [] => true
  | x :: r => (r.all fun y => !(y == x)) && ndB r
theorem ndB_ok : ∀ {l : List Str}, ndB l = true → l.Nodup
  | [], _ => List.nodup_nil
  | x :: r, h => by
    unfold ndB at h
    rw [Bool.and_eq_true, List.all_eq_true] at h
    rw [List.nodup_cons]
    refine ⟨fun hm => ?_, ndB_ok h.2⟩
    have := h.1 x hm
    simp at this
def wayB (n : Nat) : Way → Bool
  | .num i => decide (i < n)
  | .back => true
  | .fail k => nmB k
def lineB (ns : List Str) (n : Nat) (l : Line) : Bool :=
  (l.1.all fun c => (c == eS || ns.contains c) && nmB c) && l.2.1.all (wayB n) && (l.2.2.all fun h => decide (h.2 < n) && nmB h.1) && decide (l.1.length ≤ 16 ∧ l.2.1.length ≤ 16 ∧ l.2.2.length ≤ 8)
def fnB (ns : List Str) (f : Fn) : Bool := nmB f.1 && !f.2.isEmpty && decide (f.2.length ≤ 12) && f.2.all (lineB ns f.2.length)
def wfB (p : Prog) : Bool := !p.isEmpty && ndB (p.map (·.1)) && decide (p.length ≤ 8) && p.all (fnB (p.map (·.1)))
theorem wfB_ok {p : Prog} (h : wfB p = true) : WF p := by
  unfold wfB at h
  simp only [Bool.and_eq_true, List.all_eq_true, decide_eq_true_eq] at h
  obtain ⟨⟨⟨h1, h2⟩, h3⟩, h4⟩ := h
  have fn : ∀ f ∈ p, NmOk f.1 ∧ f.2 ≠ [] ∧ f.2.length ≤ 12 ∧ ∀ l ∈ f.2, lineB (p.map (·.1)) f.2.length l = true := fun f hf => by
    have q := h4 f hf
    unfold fnB at q
    simp only [Bool.and_eq_true, List.all_eq_true, decide_eq_true_eq] at q
    obtain ⟨⟨⟨q1, q2⟩, q3⟩, q4⟩ := q
    refine ⟨nmB_ok q1, fun e => ?_, q3, q4⟩
    rw [e] at q2; cases q2
  have ln : ∀ f ∈ p, ∀ l ∈ f.2, (∀ c ∈ l.1, (c = eS ∨ c ∈ p.map (·.1)) ∧ NmOk c) ∧ (∀ w ∈ l.2.1, wayB f.2.length w = true) ∧ (∀ h ∈ l.2.2, h.2 < f.2.length ∧ NmOk h.1) ∧ l.1.length ≤ 16 ∧ l.2.1.length ≤ 16 ∧ l.2.2.length ≤ 8 := fun f hf l hl => by
    have q := (fn f hf).2.2.2 l hl
    unfold lineB at q
    simp only [Bool.and_eq_true, List.all_eq_true, decide_eq_true_eq] at q
    obtain ⟨⟨⟨q1, q2⟩, q3⟩, q4⟩ := q
    refine ⟨fun c hc => ?_, q2, fun h hh => ⟨(q3 h hh).1, nmB_ok (q3 h hh).2⟩, q4⟩
    obtain ⟨y1, y2⟩ := q1 c hc
    rw [Bool.or_eq_true] at y1
    refine ⟨?_, nmB_ok y2⟩
    rcases y1 with y | y
    · exact .inl (by simpa using y)
    · exact .inr (by simpa using y)
  refine ⟨fun e => ?_, ndB_ok h2, fun f hf => (fn f hf).2.1, fun f hf l hl c hc => ((ln f hf l hl).1 c hc).1, fun f hf l hl n hn => ?_, fun f hf l hl h hh => ((ln f hf l hl).2.2.1 h hh).1, h3, fun f hf => (fn f hf).2.2.1, fun f hf l hl => (ln f hf l hl).2.2.2,
    fun f hf => ⟨(fn f hf).1, fun l hl => ⟨fun c hc => ((ln f hf l hl).1 c hc).2, fun k hk => ?_, fun h hh => ((ln f hf l hl).2.2.1 h hh).2⟩⟩⟩
  · rw [e] at h1; cases h1
  · exact of_decide_eq_true ((ln f hf l hl).2.1 _ hn)
  · exact nmB_ok ((ln f hf l hl).2.1 _ hk)
/-- this is a well-formed program -/
def dOk (d : PyData) : Bool := match dProg d with
  | some p => wfB p
  | none => false
theorem dOk_ok {d : PyData} (h : dOk d = true) : ∃ p, WF p ∧ progD p = d := by
  unfold dOk at h
  split at h
  · rename_i p hp
    exact ⟨p, wfB_ok h, dProg_ok d p hp⟩
  · cases h
end K28

set_option Elab.async false
set_option linter.all false
set_option maxRecDepth 100000
set_option maxHeartbeats 400000
/-! _law_any, _law_hands. -/
namespace K28
open PySem PySem.Spec PyProof.Rows L2
theorem EnvOk.keep {env : LEnv} {σ : L2.St} {H H' : Hp} (h : EnvOk env σ H) (k : TupK H H') : EnvOk env σ H' := fun i d e => let ⟨v, e1, e2⟩ := h i d e; ⟨v, e1, e2.keep k⟩
theorem EnvOk.nil {σ : L2.St} {H : Hp} : EnvOk [] σ H := fun _ _ e => nomatch e
theorem EnvOk.set {env : LEnv} {σ : L2.St} {H : Hp} (h : EnvOk env σ H) {i : Nat} {d : PyData} {v : V} (hi : i < σ.length) (hv : Im H d v) : EnvOk ((i, d) :: env) (σ.set i (some v)) H := fun j d' e => by
  rw [List.lookup_cons] at e
  by_cases hj : j = i
  · subst hj
    simp at e; subst e
    exact ⟨v, List.getElem?_set_self hi, hv⟩
  · have hb : (j == i) = false := by simpa using hj
    rw [hb] at e
    obtain ⟨u, e1, e2⟩ := h j d' e
    exact ⟨u, by rw [List.getElem?_set_ne (fun z => hj z.symm)]; exact e1, e2⟩
theorem EnvOk.drop {env : LEnv} {σ : L2.St} {H : Hp} (h : EnvOk env σ H) {i : Nat} {v : V} (hi : env.lookup i = none) : EnvOk env (σ.set i (some v)) H := fun j d' e => by
  have hj : i ≠ j := fun z => by rw [z, e] at hi; cases hi
  obtain ⟨u, e1, e2⟩ := h j d' e
  exact ⟨u, by rw [List.getElem?_set_ne hj]; exact e1, e2⟩
def hN : List Str := ["_law_main", "_law_f", "_law_found", "_law_c", "_law_b", "_law_e", "_law_d", "_law_turns", "_law_deep", "_law_q"]
def hSt (k : Nat) : Stmt := (defBody sHands).getD k (.Pass ⟨0, 0, 0, 0⟩)
def valE : Stmt → Expr
  | .Assign _ e _ => e
  | .Expr (.Call _ (e :: _) _ _) _ => e
  | _ => .Constant .none 0 ⟨0, 0, 0, 0⟩
def elE : Expr → Expr
  | .List (e :: _) _ => e
  | e => e
def hL (env : LEnv) (e : Expr) : PyData := (litD hN (defScope sHands) env e).getD .none
def h0 : PyData := hL [] (valE (hSt 0))
def h1 : PyData := hL [] (valE (hSt 1))
def h2 : PyData := hL [(1, h1), (0, h0)] (elE (valE (hSt 2)))
def h3 : PyData := hL [] (valE (hSt 3))
def h4 : PyData := hL [] (valE (hSt 4))
def h5 : PyData := hL [] (valE (hSt 5))
def h6 : PyData := hL [] (valE (hSt 6))
def h7 : PyData := hL [(4, h6), (3, h5)] (valE (hSt 7))
def h8 : PyData := hL [] (valE (hSt 8))
def h9 : PyData := hL [] (valE (hSt 9))
def h10 : PyData := hL [] (valE (hSt 10))
def h11 : PyData := hL [(6, h10), (5, h9)] (valE (hSt 11))
def h12 : PyData := hL [] (valE (hSt 12))
def h13 : PyData := hL [(7, h12)] (valE (hSt 13))
def h14 : PyData := hL [] (valE (hSt 14))
def h15 : PyData := hL [] (valE (hSt 15))
def h16 : PyData := hL [(8, h15)] (valE (hSt 16))
def h17 : PyData := hL [] (valE (hSt 17))
def h18 : PyData := hL [(9, h17)] (valE (hSt 18))
def hAll : List PyData := [h2, h3, h4, h7, h8, h11, h13, h14, h16, h18]
theorem hAll_ok : hAll.all dOk = true := by decide +kernel
theorem EnvOk.one {i : Nat} {d : PyData} {v : V} {σ : L2.St} {H : Hp} (h : σ[i]? = some (some v)) (hv : Im H d v) : EnvOk [(i, d)] σ H := fun j d' e => by
  rw [List.lookup_cons] at e
  by_cases hj : j = i
  · subst hj
    simp at e; subst e
    exact ⟨v, h, hv⟩
  · have hb : (j == i) = false := by simpa using hj
    rw [hb] at e; cases e
theorem EnvOk.two {i j : Nat} {d d' : PyData} {v v' : V} {σ : L2.St} {H : Hp} (h : σ[i]? = some (some v)) (hv : Im H d v) (h' : σ[j]? = some (some v')) (hv' : Im H d' v') : EnvOk [(i, d), (j, d')] σ H := fun m d0 e => by
  rw [List.lookup_cons] at e
  by_cases hj : m = i
  · subst hj
    simp at e; subst e
    exact ⟨v, h, hv⟩
  · have hb : (m == i) = false := by simpa using hj
    rw [hb] at e
    exact EnvOk.one h' hv' m d0 e
section
variable {P : Program} {w : World} {K : PySem.W.Frag} {mg : Str → Option Value} {base : Heap}
/-! ### _law_any -/
def spAny : Sp := fun vs H Q _ => ∃ fd cl sm xs, vs = [.ref fd, .ref sm] ∧ FeedAt H fd cl ∧ H sm = some (.lst xs) ∧ 0 < xs.length ∧ xs.length < 1073741824 ∧ ∀ (i : Nat) x H', xs[i]? = some x → Chg [fd] H H' → FeedAt H' fd cl → Q x H'
theorem scAny : FnScope ["_law_feed_here", "_law_some"] ["_law_feed_here", "_law_some"] (defScope sAny) := ⟨rfl, rfl, rfl, by decide +kernel, rfl, by decide +kernel, by decide +kernel⟩
theorem ok_any {f gd : Addr} (F : At K "_law_any" "_law_any" sAny f) (Tx : Tx K mg) (DR : Ok P w K mg base 1 gd ["_law_feed_here", "_law_many"] spDraw) (mgD : mg "_law_draw" = some (.ref gd)) : Ok P w K mg base 2 f ["_law_feed_here", "_law_some"] spAny := by
  refine mkOk F scAny (fun _ _ _ _ _ _ us hl => match us, hl with | [_, _], _ => rfl) (fun vs H Q E h => ?_) (fun cdv A outer s H vs Q E hr h => ?_)
  · obtain ⟨fd, cl, sm, xs, rfl, _⟩ := h; rfl
  · obtain ⟨fd, cl, sm, xs, rfl, hf, hs, h0, h1, k⟩ := h
    refine ⟨_, pss_one (ps_ret (pe_ix ix_list (pv 1) (pe_callO DR hr (by rfl) mgD (pa_cons (pv 0) (pa_cons (pe_callB call_len_seq (by rfl) Tx.len PySem.boot_len (pa_cons (pv 1) pa_nil)) pa_nil))) (fun _ _ => rfl))), ?_⟩
    refine ⟨_, rfl, _, rfl, _, rfl, sm, _, rfl, .inl (.of hs), fd, cl, xs.length, rfl, hf, h0, h1, fun i H' hi c f' => ?_⟩
    have hne : sm ≠ fd := by
      obtain ⟨ns, nx, rs, tn, z, _⟩ := hf
      exact ne_of hs z (by intro q; cases q)
    have hs' := c _ _ hs fun z => hne (List.mem_singleton.mp z)
    exact ⟨sm, xs, i, xs[i], rfl, rfl, .of hs', atI_nat (j := i) (List.getElem?_eq_getElem hi), k i _ H' (List.getElem?_eq_getElem hi) c f'⟩

/-! ### _law_hands -/
def spHands : Sp := fun vs H Q _ => vs = [] ∧ ∀ l xs H', Same H H' → H l = none → H' l = some (.lst xs) → 0 < xs.length → xs.length < 100 → (∀ x ∈ xs, ∃ p, WF p ∧ Im H' (progD p) x) → Q (.ref l) H'
theorem scHa : FnScope ["_law_main", "_law_f", "_law_found", "_law_c", "_law_b", "_law_e", "_law_d", "_law_turns", "_law_deep", "_law_q"] [] (defScope sHands) := ⟨rfl, rfl, rfl, by decide +kernel, rfl, by decide +kernel, by decide +kernel⟩
/-- the list so far -/
structure HL (H0 H : Hp) (l : Addr) (ds : List PyData) : Prop where
  chg : Same H0 H
  nl : H0 l = none
  at' : ∃ xs, H l = some (.lst xs) ∧ ImAll H ds xs
theorem HL.more {H0 H H' : Hp} {l : Addr} {ds : List PyData} (h : HL H0 H l ds) (s : Same H H') : HL H0 H' l ds := by
  obtain ⟨xs, e1, e2⟩ := h.at'
  exact ⟨h.chg.trans s, h.nl, xs, s _ _ e1, e2.keep (Same.tup s)⟩
theorem HL.put {H0 H : Hp} {l : Addr} {ds : List PyData} {d : PyData} {v : V} {xs : List V} (h : HL H0 H l ds) (e : H l = some (.lst xs)) (hv : Im H d v) : HL H0 (upd H l (.lst (xs ++ [v]))) l (ds ++ [d]) ∧ TupK H (upd H l (.lst (xs ++ [v]))) := by
  obtain ⟨ys, e1, e2⟩ := h.at'
  rw [e] at e1; cases e1
  have kt : TupK H (upd H l (.lst (xs ++ [v]))) := tup_upd fun zs z => by rw [e] at z; cases z
  refine ⟨⟨fun b o q => ?_, h.nl, xs ++ [v], upd_same, (e2.keep kt).append (imAll_one (hv.keep kt))⟩, kt⟩
  rw [upd_ne (ne_of_none q h.nl)]
  exact h.chg _ _ q
theorem HL.len {H0 H : Hp} {l : Addr} {ds : List PyData} {xs : List V} (h : HL H0 H l ds) (e : H l = some (.lst xs)) (hz : ds.length ≤ 100) : xs.length < sizeLine := by
  obtain ⟨ys, e1, e2⟩ := h.at'
  rw [e] at e1; cases e1
  rw [e2.length]
  exact Nat.lt_of_le_of_lt hz (by decide)
theorem ok_hands {f : Addr} (F : At K "_law_hands" "_law_hands" sHands f) : Ok P w K mg base 1 f [] spHands := by
  refine mkOk F scHa (fun _ _ _ _ _ _ us hl => match us, hl with | [], _ => rfl) (fun vs H Q E h => ?_) (fun cdv A outer s H vs Q E hr h => ?_)
  · obtain ⟨rfl, _⟩ := h; rfl
  · obtain ⟨rfl, k⟩ := h
    refine ⟨_, (pss_cons (ps_set (i := 0) scHa.nd rfl (Or.inl rfl) (pe_lit (env := []) _ h0 (by kernel_rfl)))
      (pss_cons (ps_set (i := 1) scHa.nd rfl (Or.inl rfl) (pe_lit (env := []) _ h1 (by kernel_rfl)))
      (pss_cons (ps_set (i := 2) scHa.nd rfl (Or.inl rfl) (pe_lst (pa_cons (pe_lit (env := [(1, h1), (0, h0)]) _ h2 (by kernel_rfl)) pa_nil)))
      (pss_cons (ps_expr (pe_bm PySem.F.plainAttrs_list PySem.F.slot_list_append PySem.F.type_list_append mt_append (pv 2) (pa_cons (pe_lit (env := []) _ h3 (by kernel_rfl)) pa_nil)))
      (pss_cons (ps_expr (pe_bm PySem.F.plainAttrs_list PySem.F.slot_list_append PySem.F.type_list_append mt_append (pv 2) (pa_cons (pe_lit (env := []) _ h4 (by kernel_rfl)) pa_nil)))
      (pss_cons (ps_set (i := 3) scHa.nd rfl (Or.inl rfl) (pe_lit (env := []) _ h5 (by kernel_rfl)))
      (pss_cons (ps_set (i := 4) scHa.nd rfl (Or.inl rfl) (pe_lit (env := []) _ h6 (by kernel_rfl)))
      (pss_cons (ps_expr (pe_bm PySem.F.plainAttrs_list PySem.F.slot_list_append PySem.F.type_list_append mt_append (pv 2) (pa_cons (pe_lit (env := [(4, h6), (3, h5)]) _ h7 (by kernel_rfl)) pa_nil)))
      (pss_cons (ps_expr (pe_bm PySem.F.plainAttrs_list PySem.F.slot_list_append PySem.F.type_list_append mt_append (pv 2) (pa_cons (pe_lit (env := []) _ h8 (by kernel_rfl)) pa_nil)))
      (pss_cons (ps_set (i := 5) scHa.nd rfl (Or.inl rfl) (pe_lit (env := []) _ h9 (by kernel_rfl)))
      (pss_cons (ps_set (i := 6) scHa.nd rfl (Or.inl rfl) (pe_lit (env := []) _ h10 (by kernel_rfl)))
      (pss_cons (ps_expr (pe_bm PySem.F.plainAttrs_list PySem.F.slot_list_append PySem.F.type_list_append mt_append (pv 2) (pa_cons (pe_lit (env := [(6, h10), (5, h9)]) _ h11 (by kernel_rfl)) pa_nil)))
      (pss_cons (ps_set (i := 7) scHa.nd rfl (Or.inl rfl) (pe_lit (env := []) _ h12 (by kernel_rfl)))
      (pss_cons (ps_expr (pe_bm PySem.F.plainAttrs_list PySem.F.slot_list_append PySem.F.type_list_append mt_append (pv 2) (pa_cons (pe_lit (env := [(7, h12)]) _ h13 (by kernel_rfl)) pa_nil)))
      (pss_cons (ps_expr (pe_bm PySem.F.plainAttrs_list PySem.F.slot_list_append PySem.F.type_list_append mt_append (pv 2) (pa_cons (pe_lit (env := []) _ h14 (by kernel_rfl)) pa_nil)))
      (pss_cons (ps_set (i := 8) scHa.nd rfl (Or.inl rfl) (pe_lit (env := []) _ h15 (by kernel_rfl)))
      (pss_cons (ps_expr (pe_bm PySem.F.plainAttrs_list PySem.F.slot_list_append PySem.F.type_list_append mt_append (pv 2) (pa_cons (pe_lit (env := [(8, h15)]) _ h16 (by kernel_rfl)) pa_nil)))
      (pss_cons (ps_set (i := 9) scHa.nd rfl (Or.inl rfl) (pe_lit (env := []) _ h17 (by kernel_rfl)))
      (pss_cons (ps_expr (pe_bm PySem.F.plainAttrs_list PySem.F.slot_list_append PySem.F.type_list_append mt_append (pv 2) (pa_cons (pe_lit (env := [(9, h17)]) _ h18 (by kernel_rfl)) pa_nil)))
      (pss_one (ps_ret (pv 2)))))))))))))))))))))), ?_⟩
    have sm : Same H H := fun _ _ e => e
    refine ⟨EnvOk.nil, fun v0 H0 s0 im0 => ?_⟩
    replace sm := sm.trans s0
    refine ⟨EnvOk.nil, fun v1 H1 s1 im1 => ?_⟩
    replace im0 := im0.keep (Same.tup s1)
    replace sm := sm.trans s1
    refine ⟨EnvOk.two rfl im1 rfl im0, fun v2 H2 s2 im2 => ⟨by show 1 ≤ sizeLine; decide, fun l hl => ?_⟩⟩
    replace sm := sm.trans s2
    have hL : HL H (upd H2 l (.lst [v2])) l [h2] := ⟨sm.trans (same_upd hl), sm.free hl, _, upd_same, imAll_one (im2.keep (Same.tup (same_upd hl)))⟩
    generalize upd H2 l (.lst [v2]) = G2 at hL
    obtain ⟨xs3, hx3, _⟩ := id hL.at'
    refine ⟨_, rfl, .inl ⟨rfl, xs3, .of hx3⟩, EnvOk.nil, fun v3 H3 s3 im3 => ?_⟩
    refine ⟨l, xs3, v3, rfl, rfl, s3 _ _ hx3, hL.len hx3 (by decide), ?_⟩
    obtain ⟨hL, kt⟩ := (hL.more s3).put (s3 _ _ hx3) im3
    generalize upd H3 l (.lst (xs3 ++ [v3])) = G3 at hL kt
    obtain ⟨xs4, hx4, _⟩ := id hL.at'
    refine ⟨_, rfl, .inl ⟨rfl, xs4, .of hx4⟩, EnvOk.nil, fun v4 H4 s4 im4 => ?_⟩
    refine ⟨l, xs4, v4, rfl, rfl, s4 _ _ hx4, hL.len hx4 (by decide), ?_⟩
    obtain ⟨hL, kt⟩ := (hL.more s4).put (s4 _ _ hx4) im4
    generalize upd H4 l (.lst (xs4 ++ [v4])) = G4 at hL kt
    refine ⟨EnvOk.nil, fun v5 H5 s5 im5 => ?_⟩
    replace hL := hL.more s5
    refine ⟨EnvOk.nil, fun v6 H6 s6 im6 => ?_⟩
    replace im5 := im5.keep (Same.tup s6)
    replace hL := hL.more s6
    obtain ⟨xs7, hx7, _⟩ := id hL.at'
    refine ⟨_, rfl, .inl ⟨rfl, xs7, .of hx7⟩, EnvOk.two rfl im6 rfl im5, fun v7 H7 s7 im7 => ?_⟩
    refine ⟨l, xs7, v7, rfl, rfl, s7 _ _ hx7, hL.len hx7 (by decide), ?_⟩
    obtain ⟨hL, kt⟩ := (hL.more s7).put (s7 _ _ hx7) im7
    generalize upd H7 l (.lst (xs7 ++ [v7])) = G7 at hL kt
    obtain ⟨xs8, hx8, _⟩ := id hL.at'
    refine ⟨_, rfl, .inl ⟨rfl, xs8, .of hx8⟩, EnvOk.nil, fun v8 H8 s8 im8 => ?_⟩
    refine ⟨l, xs8, v8, rfl, rfl, s8 _ _ hx8, hL.len hx8 (by decide), ?_⟩
    obtain ⟨hL, kt⟩ := (hL.more s8).put (s8 _ _ hx8) im8
    generalize upd H8 l (.lst (xs8 ++ [v8])) = G8 at hL kt
    refine ⟨EnvOk.nil, fun v9 H9 s9 im9 => ?_⟩
    replace hL := hL.more s9
    refine ⟨EnvOk.nil, fun v10 H10 s10 im10 => ?_⟩
    replace im9 := im9.keep (Same.tup s10)
    replace hL := hL.more s10
    obtain ⟨xs11, hx11, _⟩ := id hL.at'
    refine ⟨_, rfl, .inl ⟨rfl, xs11, .of hx11⟩, EnvOk.two rfl im10 rfl im9, fun v11 H11 s11 im11 => ?_⟩
    refine ⟨l, xs11, v11, rfl, rfl, s11 _ _ hx11, hL.len hx11 (by decide), ?_⟩
    obtain ⟨hL, kt⟩ := (hL.more s11).put (s11 _ _ hx11) im11
    generalize upd H11 l (.lst (xs11 ++ [v11])) = G11 at hL kt
    refine ⟨EnvOk.nil, fun v12 H12 s12 im12 => ?_⟩
    replace hL := hL.more s12
    obtain ⟨xs13, hx13, _⟩ := id hL.at'
    refine ⟨_, rfl, .inl ⟨rfl, xs13, .of hx13⟩, EnvOk.one rfl im12, fun v13 H13 s13 im13 => ?_⟩
    refine ⟨l, xs13, v13, rfl, rfl, s13 _ _ hx13, hL.len hx13 (by decide), ?_⟩
    obtain ⟨hL, kt⟩ := (hL.more s13).put (s13 _ _ hx13) im13
    generalize upd H13 l (.lst (xs13 ++ [v13])) = G13 at hL kt
    obtain ⟨xs14, hx14, _⟩ := id hL.at'
    refine ⟨_, rfl, .inl ⟨rfl, xs14, .of hx14⟩, EnvOk.nil, fun v14 H14 s14 im14 => ?_⟩
    refine ⟨l, xs14, v14, rfl, rfl, s14 _ _ hx14, hL.len hx14 (by decide), ?_⟩
    obtain ⟨hL, kt⟩ := (hL.more s14).put (s14 _ _ hx14) im14
    generalize upd H14 l (.lst (xs14 ++ [v14])) = G14 at hL kt
    refine ⟨EnvOk.nil, fun v15 H15 s15 im15 => ?_⟩
    replace hL := hL.more s15
    obtain ⟨xs16, hx16, _⟩ := id hL.at'
    refine ⟨_, rfl, .inl ⟨rfl, xs16, .of hx16⟩, EnvOk.one rfl im15, fun v16 H16 s16 im16 => ?_⟩
    refine ⟨l, xs16, v16, rfl, rfl, s16 _ _ hx16, hL.len hx16 (by decide), ?_⟩
    obtain ⟨hL, kt⟩ := (hL.more s16).put (s16 _ _ hx16) im16
    generalize upd H16 l (.lst (xs16 ++ [v16])) = G16 at hL kt
    refine ⟨EnvOk.nil, fun v17 H17 s17 im17 => ?_⟩
    replace hL := hL.more s17
    obtain ⟨xs18, hx18, _⟩ := id hL.at'
    refine ⟨_, rfl, .inl ⟨rfl, xs18, .of hx18⟩, EnvOk.one rfl im17, fun v18 H18 s18 im18 => ?_⟩
    refine ⟨l, xs18, v18, rfl, rfl, s18 _ _ hx18, hL.len hx18 (by decide), ?_⟩
    obtain ⟨hL, kt⟩ := (hL.more s18).put (s18 _ _ hx18) im18
    generalize upd H18 l (.lst (xs18 ++ [v18])) = G18 at hL kt
    obtain ⟨xs, hx, hxi⟩ := id hL.at'
    refine ⟨_, rfl, ?_⟩
    have hlen : xs.length = 10 := hxi.length
    refine k l xs _ hL.chg hL.nl hx (by omega) (by omega) fun x hm => ?_
    obtain ⟨i, hi⟩ := List.getElem?_of_mem hm
    obtain ⟨d, hd, hv⟩ := hxi.getV hi
    obtain ⟨p, h1, h2⟩ := dOk_ok (List.all_eq_true.mp hAll_ok d (List.mem_of_getElem? hd))
    exact ⟨p, h1, by rw [h2]; exact hv⟩
end
end K28

set_option Elab.async false
set_option linter.all false
set_option maxRecDepth 100000
set_option maxHeartbeats 400000
/-! _law_calls. -/
namespace K28
open PySem PySem.Spec PyProof.Rows L2
theorem FeedAt.tup {H H' : Hp} {fd cl : Addr} (f : FeedAt H fd cl) (c : Chg [fd] H H') : TupK H H' := c.tup fun b hb xs e => by
  obtain ⟨ns, nx, rs, tn, z, _⟩ := f
  rw [List.mem_singleton.mp hb, z] at e; cases e
theorem FeedAt.ne {H : Hp} {fd cl a : Addr} {o : HO} (f : FeedAt H fd cl) (e : H a = some o) (n : ∀ kvs, o ≠ .dK kvs) : a ≠ fd := fun z => by
  obtain ⟨ns, nx, rs, tn, q, _⟩ := f
  rw [z, q] at e
  exact n _ (Option.some.inj e).symm
theorem FeedAt.keep {H H' : Hp} {fd cl a : Addr} {o : HO} (f : FeedAt H fd cl) (c : Chg [fd] H H') (e : H a = some o) (n : ∀ kvs, o ≠ .dK kvs) : H' a = some o := c _ _ e fun z => f.ne e n (List.mem_singleton.mp z)
section
variable {P : Program} {w : World} {K : PySem.W.Frag} {mg : Str → Option Value} {base : Heap}
def spCalls : Sp := fun vs H Q _ => ∃ (fd cl tl : Addr) (ts : List Str), vs = [.ref fd, .ref tl] ∧ FeedAt H fd cl ∧ H tl = some (.lst (ts.map V.str)) ∧ 0 < ts.length ∧ ts.length ≤ 8 ∧
  ∀ (v : V) (H' : Hp) (cs : List Str), Chg [fd] H H' → FeedAt H' fd cl → Im H' (.tuple (cs.map PyData.str)) v → (∀ c ∈ cs, c = eS ∨ c ∈ ts) → cs.length ≤ 16 → Q v H'
theorem scCa : FnScope ["_law_feed_here", "_law_titles", "_law_turn", "_law_one"] ["_law_feed_here", "_law_titles"] (defScope sCalls) := ⟨rfl, rfl, rfl, by decide +kernel, rfl, by decide +kernel, by decide +kernel⟩
theorem imAll_strs {H : Hp} : ∀ cs : List Str, ImAll H (cs.map PyData.str) (cs.map V.str)
  | [] => imAll_nil.mpr rfl
  | c :: r => imAll_cons.mpr ⟨_, _, rfl, im_str.mpr rfl, imAll_strs r⟩
theorem ok_calls {f gd ga : Addr} (F : At K "_law_calls" "_law_calls" sCalls f) (Tx : Tx K mg) (DR : Ok P w K mg base 1 gd ["_law_feed_here", "_law_many"] spDraw) (mgD : mg "_law_draw" = some (.ref gd))
    (AN : Ok P w K mg base 2 ga ["_law_feed_here", "_law_some"] spAny) (mgA : mg "_law_any" = some (.ref ga)) : Ok P w K mg base 3 f ["_law_feed_here", "_law_titles"] spCalls := by
  refine mkOk F scCa (fun _ _ _ _ _ _ us hl => match us, hl with | [_, _], _ => rfl) (fun vs H Q E h => ?_) (fun cdv A outer s H vs Q E hr h => ?_)
  · obtain ⟨fd, cl, tl, ts, rfl, _⟩ := h; rfl
  · obtain ⟨fd, cl, tl, ts, rfl, hf, ht, h0, h8, k⟩ := h
    have hr1 : Room 1 _ := hr.mono (by decide)
    refine ⟨_, pss_cons (ps_set (i := 2) scCa.nd rfl (Or.inl rfl) (pe_callO DR hr1 (by rfl) mgD (pa_cons (pv 0) (pa_cons pe_int pa_nil))))
      (pss_cons (ps_set (i := 3) scCa.nd rfl (Or.inl rfl) (pe_callO AN hr (by rfl) mgA (pa_cons (pv 0) (pa_cons (pv 1) pa_nil))))
      (pss_cons (ps_if (pt_cmpR op_lt (pv 2) pe_int (nomark _)) (pss_one (ps_ret (pe_tup (pa_cons pe_str pa_nil)))) pss_nil)
      (pss_cons (ps_if (pt_cmpR op_lt (pv 2) pe_int (nomark _)) (pss_one (ps_ret (pe_tup (pa_cons (pv 3) pa_nil)))) pss_nil)
      (pss_cons (ps_if (pt_cmpR op_lt (pv 2) pe_int (nomark _)) (pss_one (ps_ret (pe_tup (pa_cons pe_str (pa_cons (pv 3) pa_nil))))) pss_nil)
      (pss_one (ps_ret (pe_callTy call_tuple_of (by rfl) Tx.tuple (by decide +kernel) (pa_cons (pe_callB cr_sortedS (by rfl) Tx.sorted (by decide +kernel) (pa_cons (pe_ifExp (pt_cmpR op_eq (pv 2) pe_int (nomark _)) (pv 1) (pe_op op_cat (pv 1) (pe_lst (pa_cons pe_str pa_nil)))) pa_nil)) pa_nil)))))))), ?_⟩
    refine ⟨_, rfl, fd, cl, 9, rfl, hf, by decide, by decide, fun t H1 ht9 c1 f1 => ?_⟩
    have ht1 := hf.keep c1 ht (by intro q z; cases z)
    refine ⟨_, rfl, _, rfl, fd, cl, tl, _, rfl, f1, ht1, by rw [List.length_map]; exact h0, by rw [List.length_map]; omega, fun i x H2 hx c2 f2 => ?_⟩
    rw [List.getElem?_map] at hx
    obtain ⟨one, hone, rfl⟩ := Option.map_eq_some_iff.mp hx
    have hom : one ∈ ts := List.mem_of_getElem? hone
    have c12 := c1.trans c2
    have ht2 := f1.keep c2 ht1 (by intro q z; cases z)
    have fin : ∀ (n : Addr) (cs : List Str), H2 n = none → (∀ c ∈ cs, c = eS ∨ c ∈ ts) → cs.length ≤ 16 → Q (.ref n) (upd H2 n (.tup (cs.map V.str))) := fun n cs hn h1 h2 =>
      k _ _ cs (c12.trans (Same.chg (same_upd hn))) (f2.more (same_upd hn)) (im_tup.mpr ⟨n, _, rfl, upd_same, imAll_strs cs⟩) h1 h2
    refine ⟨_, rfl, _, _, rfl, rfl, _, rfl, iteB (fun _ => ?_) (fun _ => ?_)⟩
    · refine ⟨by show 1 ≤ sizeLine; decide, fun n hn => fin n [""] hn (fun c hc => ?_) (by decide)⟩
      rw [List.mem_singleton.mp hc]; exact .inl eS_eq
    refine ⟨_, rfl, _, _, rfl, rfl, _, rfl, iteB (fun _ => ?_) (fun _ => ?_)⟩
    · refine ⟨_, rfl, by show 1 ≤ sizeLine; decide, fun n hn => fin n [one] hn (fun c hc => ?_) (by show 1 ≤ 16; decide)⟩
      rw [List.mem_singleton.mp hc]; exact .inr hom
    refine ⟨_, rfl, _, _, rfl, rfl, _, rfl, iteB (fun _ => ?_) (fun _ => ?_)⟩
    · refine ⟨_, rfl, by show 2 ≤ sizeLine; decide, fun n hn => fin n ["", one] hn (fun c hc => ?_) (by show 2 ≤ 16; decide)⟩
      rcases List.mem_cons.mp hc with hc | hc
      · rw [hc]; exact .inl eS_eq
      · rw [List.mem_singleton.mp hc]; exact .inr hom
    refine ⟨_, rfl, rfl, _, rfl, iteB (fun _ => ?_) (fun _ => ?_)⟩
    · refine ⟨_, rfl, tl, ts, rfl, .of ht2, by omega, fun ys p hp hs hn => ?_⟩
      refine ⟨p, _, rfl, .inl ⟨.of upd_same, fun l hl => ?_⟩⟩
      have s2 := (same_upd (o := .lst (ys.map V.str)) hn).trans (same_upd (o := .tup (ys.map V.str)) hl)
      refine k _ _ ys (c12.trans (Same.chg s2)) (f2.more s2) (im_tup.mpr ⟨l, _, rfl, upd_same, imAll_strs ys⟩) (fun c hc => .inr (hp.mem_iff.mp hc)) (by rw [hp.length_eq]; omega)
    · refine ⟨_, rfl, (by show 1 ≤ sizeLine; decide), fun q hq => ?_⟩
      have s1 : Same H2 (upd H2 q (.lst [.str ""])) := same_upd hq
      refine ⟨tl, q, _, _, rfl, rfl, s1 _ _ ht2, upd_same, by rw [List.length_map]; exact Nat.le_trans (show ts.length + 1 ≤ 9 by omega) (by decide), fun b hb => ?_⟩
      have s2 := s1.trans (same_upd (o := .lst (ts.map V.str ++ [.str ""])) hb)
      refine ⟨b, ts ++ [("" : Str)], rfl, ?_, by rw [List.length_append, List.length_singleton]; omega, fun ys p hp hs hn => ?_⟩
      · rw [List.map_append]
        exact .of upd_same
      refine ⟨p, _, rfl, .inl ⟨.of upd_same, fun l hl => ?_⟩⟩
      have s3 := s2.trans ((same_upd (o := .lst (ys.map V.str)) hn).trans (same_upd (o := .tup (ys.map V.str)) hl))
      refine k _ _ ys (c12.trans (Same.chg s3)) (f2.more s3) (im_tup.mpr ⟨l, _, rfl, upd_same, imAll_strs ys⟩) (fun c hc => ?_) (by rw [hp.length_eq, List.length_append, List.length_singleton]; omega)
      rcases List.mem_append.mp (hp.mem_iff.mp hc) with h | h
      · exact .inr h
      · rw [List.mem_singleton.mp h]; exact .inl eS_eq
end
end K28

set_option Elab.async false
set_option linter.all false
set_option maxRecDepth 100000
set_option maxHeartbeats 400000
/-! _law_function. -/
namespace K28
open PySem PySem.Spec PyProof.Rows L2
/-- a line of a function of n lines, among the titles ts -/
structure LineOk (ts : List Str) (n : Nat) (l : Line) : Prop where
  calls : ∀ c ∈ l.1, c = eS ∨ c ∈ ts
  ways : ∀ i, Way.num i ∈ l.2.1 → i < n
  fails : ∀ k, Way.fail k ∈ l.2.1 → NmOk k
  hands : ∀ h ∈ l.2.2, h.2 < n ∧ NmOk h.1
  thin : l.1.length ≤ 16 ∧ l.2.1.length ≤ 16 ∧ l.2.2.length ≤ 8
def WayOk (n : Nat) : Way → Prop
  | .num i => i < n
  | .back => True
  | .fail k => NmOk k
theorem _root_.L2.Room.u65 {k : Nat} {A : Around} (r : Room k A) : A.units + 65 < cLine := by have := r.un; omega
theorem nm_of {x : Str} (h : nmB x = true) : NmOk x := nmB_ok h
theorem wayOk_shaped {n : Nat} {wy : Way} (h : WayOk n wy) : SeqAt.shaped (wayD wy) = true := by
  cases wy with
  | num i => show SeqAt.shaped (.int (i : Nat)) = true; rfl
  | back => exact bk_shaped'
  | fail k => exact shaped_fail h.1
theorem ways_shaped {n : Nat} {ws : List Way} (h : ∀ wy ∈ ws, WayOk n wy) : SeqAt.shaped (.list (ws.map wayD)) = true := by
  have h1 : PyData.canLayAll0 (ws.map wayD) = true := by
    induction ws with
    | nil => rfl
    | cons x r ih =>
      rw [List.map_cons]
      show (PyData.canLay0 (wayD x) && PyData.canLayAll0 (r.map wayD)) = true
      rw [ih fun y hy => h y (List.mem_cons_of_mem _ hy), SeqAt.canLay_of_shaped (wayOk_shaped (h x List.mem_cons_self))]; rfl
  have hd : ∀ wy : Way, PyData.depth (wayD wy) ≤ 1 := fun wy => by cases wy <;> simp [wayD, PyData.depth, PyData.depthAll]
  have h2 : ∀ ws : List Way, PyData.depthAll (ws.map wayD) ≤ 1 := by
    intro ws
    induction ws with
    | nil => decide
    | cons x r ih =>
      rw [List.map_cons]
      show max (PyData.depth (wayD x)) (PyData.depthAll (r.map wayD)) ≤ 1
      have := hd x
      omega
  show (PyData.canLay0 _ && decide (PyData.depth _ ≤ 64)) = true
  rw [Bool.and_eq_true]
  refine ⟨h1, decide_eq_true ?_⟩
  show PyData.depthAll (ws.map wayD) + 1 ≤ 64
  have := h2 ws
  omega
theorem lst_dp {K : PySem.W.Frag} {H : Hp} {a : Addr} {xs : List V} {ds : List PyData} (h : H a = some (.lst xs)) (hx : ImAll H ds xs) : Dp K H (.ref a) (.list ds) := .lst (.of h) hx.dp
def kindsL : List (List Str) := [[], [], ["bad"], [""], ["odd", "bad"], ["", "bad"], ["bad", ""], ["back", "odd", "", "bad"]]
def kindsD : List PyData := kindsL.map fun ks => .tuple (ks.map PyData.str)
theorem kindsL_ok : ∀ ks ∈ kindsL, ks.length ≤ 4 ∧ ∀ k ∈ ks, NmOk k := by
  have h : (kindsL.all fun ks => decide (ks.length ≤ 4) && ks.all nmB) = true := by decide +kernel
  intro ks hk
  have h2 := List.all_eq_true.mp h ks hk
  rw [Bool.and_eq_true, List.all_eq_true] at h2
  exact ⟨of_decide_eq_true h2.1, fun k hk => nmB_ok (h2.2 k hk)⟩
theorem im_strs {H : Hp} {ks : List Str} {xs : List V} (h : ImAll H (ks.map PyData.str) xs) : xs = ks.map V.str := by
  induction ks generalizing xs with
  | nil => exact imAll_nil.mp h
  | cons k r ih =>
    obtain ⟨x, q, rfl, h1, h2⟩ := imAll_cons.mp (show ImAll H (.str k :: r.map _) xs from h)
    rw [im_str.mp h1, ih h2]; rfl
/-- a list of data -/
def LstAt (H : Hp) (a : Addr) (ds : List PyData) : Prop := ∃ xs, H a = some (.lst xs) ∧ ImAll H ds xs
theorem LstAt.more {H H' : Hp} {a : Addr} {ds : List PyData} (h : LstAt H a ds) (s : Same H H') : LstAt H' a ds := let ⟨xs, e1, e2⟩ := h; ⟨xs, s _ _ e1, e2.keep (Same.tup s)⟩
theorem LstAt.draw {H H' : Hp} {a fd cl : Addr} {ds : List PyData} (h : LstAt H a ds) (f : FeedAt H fd cl) (c : Chg [fd] H H') : LstAt H' a ds := let ⟨xs, e1, e2⟩ := h; ⟨xs, f.keep c e1 (by intro q z; cases z), e2.keep (f.tup c)⟩
theorem LstAt.new {H : Hp} {a : Addr} {ds : List PyData} {xs : List V} (hn : H a = none) (h : ImAll H ds xs) : LstAt (upd H a (.lst xs)) a ds := ⟨xs, upd_same, h.keep (Same.tup (same_upd hn))⟩
theorem LstAt.put {H : Hp} {a : Addr} {ds : List PyData} {xs : List V} {d : PyData} {v : V} (h : LstAt H a ds) (e : H a = some (.lst xs)) (hv : Im H d v) : LstAt (upd H a (.lst (xs ++ [v]))) a (ds ++ [d]) := by
  obtain ⟨ys, e1, e2⟩ := h
  rw [e] at e1; cases e1
  have kt : TupK H (upd H a (.lst (xs ++ [v]))) := tup_upd fun zs z => by rw [e] at z; cases z
  exact ⟨_, upd_same, (e2.keep kt).append (imAll_one (hv.keep kt))⟩
theorem LstAt.other {H : Hp} {a b : Addr} {ds : List PyData} {xs ys : List V} (h : LstAt H a ds) (e : H b = some (.lst xs)) (n : a ≠ b) : LstAt (upd H b (.lst ys)) a ds := by
  obtain ⟨zs, e1, e2⟩ := h
  exact ⟨zs, by rw [upd_ne n]; exact e1, e2.keep (tup_upd fun ws z => by rw [e] at z; cases z)⟩
/-- amid _law_function: mn the menu, ll the lines -/
structure FSt (H0 H : Hp) (fd cl tl mn ll : Addr) (ts : List Str) (ws : List Way) (ls : List Line) : Prop where
  chg : Chg [fd] H0 H
  feed : FeedAt H fd cl
  titles : H tl = some (.lst (ts.map V.str))
  menu : LstAt H mn (ws.map wayD)
  lines : LstAt H ll (ls.map lineDt)
  nll : H0 ll = none
  ne1 : mn ≠ ll
  ne2 : tl ≠ ll
  ne3 : cl ≠ ll
section
variable {H0 H H' : Hp} {fd cl tl mn ll wl : Addr} {ts : List Str} {ws : List Way} {ls : List Line}
theorem FSt.more (x : FSt H0 H fd cl tl mn ll ts ws ls) (s : Same H H') : FSt H0 H' fd cl tl mn ll ts ws ls :=
  ⟨x.chg.trans (Same.chg s), x.feed.more s, s _ _ x.titles, x.menu.more s, x.lines.more s, x.nll, x.ne1, x.ne2, x.ne3⟩
theorem FSt.draw (x : FSt H0 H fd cl tl mn ll ts ws ls) (c : Chg [fd] H H') (f : FeedAt H' fd cl) : FSt H0 H' fd cl tl mn ll ts ws ls :=
  ⟨x.chg.trans c, f, x.feed.keep c x.titles (by intro q z; cases z), x.menu.draw x.feed c, x.lines.draw x.feed c, x.nll, x.ne1, x.ne2, x.ne3⟩
theorem FeedAt.lst {xs ys : List V} (f : FeedAt H fd cl) (e : H wl = some (.lst xs)) (n : cl ≠ wl) : FeedAt (upd H wl (.lst ys)) fd cl := by
  obtain ⟨ns, nx, rs, tn, h1, h2⟩ := f
  exact ⟨ns, nx, rs, tn, by rw [upd_ne (ne_of h1 e (by intro z; cases z))]; exact h1, by rw [upd_ne n]; exact h2⟩
theorem FeedAt.cl' (f : FeedAt H fd cl) (n : H wl = none) : cl ≠ wl := by
  obtain ⟨ns, nx, rs, tn, h1, h2⟩ := f
  exact ne_of_none h2 n
theorem FSt.lst {xs ys : List V} (x : FSt H0 H fd cl tl mn ll ts ws ls) (e : H wl = some (.lst xs)) (h0 : H0 wl = none) (n1 : tl ≠ wl) (n2 : mn ≠ wl) (n3 : ll ≠ wl) (n4 : cl ≠ wl) : FSt H0 (upd H wl (.lst ys)) fd cl tl mn ll ts ws ls :=
  ⟨fun b o q n => by rw [upd_ne (ne_of_none q h0)]; exact x.chg b o q n, x.feed.lst e n4, by rw [upd_ne n1]; exact x.titles, x.menu.other e n2, x.lines.other e n3, x.nll, x.ne1, x.ne2, x.ne3⟩
theorem FSt.put {xs : List V} {l : Line} {v : V} (x : FSt H0 H fd cl tl mn ll ts ws ls) (e : H ll = some (.lst xs)) (hv : Im H (lineDt l) v) : FSt H0 (upd H ll (.lst (xs ++ [v]))) fd cl tl mn ll ts ws (ls ++ [l]) := by
  refine ⟨fun b o q n => by rw [upd_ne (ne_of_none q x.nll)]; exact x.chg b o q n, x.feed.lst e x.ne3, by rw [upd_ne x.ne2]; exact x.titles, x.menu.other e x.ne1, ?_, x.nll, x.ne1, x.ne2, x.ne3⟩
  rw [List.map_append]
  exact x.lines.put e hv
end
section
variable {P : Program} {w : World} {K : PySem.W.Frag} {mg : Str → Option Value} {base : Heap}
abbrev fN : List Str := ["_law_feed_here", "_law_title", "_law_titles", "_law_size", "_law_menu", "_law_lines", "_law_k", "_law_ways", "_law_turn", "_law_way", "_law_some", "_law_hands_here", "_law_kind"]
def spFunction : Sp := fun vs H Q _ => ∃ (fd cl tl : Addr) (title : Str) (ts : List Str), vs = [.ref fd, .str title, .ref tl] ∧ FeedAt H fd cl ∧ H tl = some (.lst (ts.map V.str)) ∧ 0 < ts.length ∧ ts.length ≤ 8 ∧
  ∀ (v : V) (H' : Hp) (ls : List Line), Chg [fd] H H' → FeedAt H' fd cl → Im H' (fnD (title, ls)) v → 0 < ls.length → ls.length ≤ 5 → (∀ l ∈ ls, LineOk ts ls.length l) → Q v H'
theorem scFu : FnScope fN ["_law_feed_here", "_law_title", "_law_titles"] (defScope sFunction) := ⟨rfl, rfl, rfl, by decide +kernel, rfl, by decide +kernel, by decide +kernel⟩
theorem ok_function {f gd ga gc : Addr} (F : At K "_law_function" "_law_function" sFunction f) (Tx : Tx K mg) (DR : Ok P w K mg base 1 gd ["_law_feed_here", "_law_many"] spDraw) (mgD : mg "_law_draw" = some (.ref gd))
    (AN : Ok P w K mg base 2 ga ["_law_feed_here", "_law_some"] spAny) (mgA : mg "_law_any" = some (.ref ga)) (CA : Ok P w K mg base 3 gc ["_law_feed_here", "_law_titles"] spCalls) (mgC : mg "_law_calls" = some (.ref gc)) :
    Ok P w K mg base 4 f ["_law_feed_here", "_law_title", "_law_titles"] spFunction := by
  refine mkOk F scFu (fun _ _ _ _ _ _ us hl => match us, hl with | [_, _, _], _ => rfl) (fun vs H Q E h => ?_) (fun cdv A outer s H vs Q E hr h => ?_)
  · obtain ⟨fd, cl, tl, title, ts, rfl, _⟩ := h; rfl
  · obtain ⟨fd, cl, tl, title, ts, rfl, hf, ht, h0, h8, k⟩ := h
    have hr1 : Room 1 _ := hr.mono (by decide)
    have hr2 : Room 2 _ := hr.mono (by decide)
    refine ⟨_, pss_cons (ps_set (i := 3) scFu.nd rfl (Or.inr rfl) (pe_op op_add pe_int (pe_callO DR hr1 (by rfl) mgD (pa_cons (pv 0) (pa_cons pe_int pa_nil)))))
      (pss_cons (ps_set (i := 4) scFu.nd rfl (Or.inl rfl) (pe_op op_cat (pe_lst (pa_cons (pe_tup (pa_cons pe_str pa_nil)) (pa_cons (pe_tup (pa_cons pe_str (pa_cons (pe_callO AN hr2 (by rfl) mgA (pa_cons (pv 0) (pa_cons (pe_lst (pa_cons pe_str (pa_cons pe_str (pa_cons pe_str pa_nil)))) pa_nil))) pa_nil))) (pa_cons (pe_tup (pa_cons pe_str (pa_cons pe_str pa_nil))) pa_nil))))
        (pe_listRg rfl (by rfl) Tx.list (prg_1 (by rfl) Tx.range (pv 3)))))
      (pss_cons (ps_set (i := 5) scFu.nd rfl (Or.inl rfl) (pe_lst pa_nil))
      (pss_cons (ps_for PassesOwn.never rfl (pi_range1 (by rfl) Tx.range (pa_cons (pv 3) pa_nil)) (pg_name (i := 6) scFu.nd rfl (Or.inl rfl))
        (pss_cons (ps_set (i := 7) scFu.nd rfl (Or.inl rfl) (pe_lst (pa_cons (pe_callO AN hr2 (by rfl) mgA (pa_cons (pv 0) (pa_cons (pv 4) pa_nil))) pa_nil)))
        (pss_cons (ps_for PassesOwn.never rfl (pi_range1 (by rfl) Tx.range (pa_cons (pe_callO DR hr1 (by rfl) mgD (pa_cons (pv 0) (pa_cons pe_int pa_nil))) pa_nil)) (pg_name (i := 8) scFu.nd rfl (Or.inl rfl))
          (pss_cons (ps_set (i := 9) scFu.nd rfl (Or.inl rfl) (pe_callO AN hr2 (by rfl) mgA (pa_cons (pv 0) (pa_cons (pv 4) pa_nil))))
          (pss_one (ps_if (pt_cmpR (op_notInD hr.u65) (pv 9) (pv 7) (by rfl)) (pss_one (ps_expr (pe_bm PySem.F.plainAttrs_list PySem.F.slot_list_append PySem.F.type_list_append mt_append (pv 7) (pa_cons (pv 9) pa_nil)))) pss_nil))))
        (pss_cons (ps_set (i := 10) scFu.nd rfl (Or.inl rfl) (pe_lst (pa_lit (env := []) _ kindsD (by kernel_rfl))))
        (pss_cons (ps_setLc (i := 11) (own := [("_law_kind", 12)]) (g := gName 12) (tt := tYes) (te := tTup (tCons (tVar 12) (tCons (tCall spDraw [] E0 (tCons (tVar 0) (tCons (tVar 3) tNil))) tNil))) rfl scFu.nd rfl rfl (sw_true rfl rfl rfl (by rfl)) (pi_tup (pe_callO AN hr2 (by rfl) mgA (pa_cons (pv 0) (pa_cons (pv 10) pa_nil))))
          (blkOk_by (own := [("_law_kind", 12)]) (N := fN) (sc := defScope sFunction) (by decide +kernel)) (fun _ _ _ _ _ => pg_name (i := 12) scFu.nd rfl (Or.inl rfl)) (fun _ _ _ _ _ => pts_nil)
          (fun _ _ _ _ _ => pe_tup (pa_cons (pv 12) (pa_cons (pe_callO DR hr1 (by rfl) mgD (pa_cons (pv 0) (pa_cons (pv 3) pa_nil))) pa_nil))))
        (pss_one (ps_expr (pe_bm PySem.F.plainAttrs_list PySem.F.slot_list_append PySem.F.type_list_append mt_append (pv 5) (pa_cons (pe_tup (pa_cons (pe_callO CA hr (by rfl) mgC (pa_cons (pv 0) (pa_cons (pv 2) pa_nil)))
          (pa_cons (pe_callTy call_tuple_of (by rfl) Tx.tuple (by decide +kernel) (pa_cons (pv 7) pa_nil)) (pa_cons (pe_callTy call_tuple_of (by rfl) Tx.tuple (by decide +kernel) (pa_cons (pv 11) pa_nil)) pa_nil)))) pa_nil)))))))))
      (pss_one (ps_ret (pe_tup (pa_cons (pv 1) (pa_cons (pe_callTy call_tuple_of (by rfl) Tx.tuple (by decide +kernel) (pa_cons (pv 5) pa_nil)) pa_nil)))))))), ?_⟩
    refine ⟨_, rfl, fd, cl, 5, rfl, hf, by decide, by decide, fun z H1 hz c1 f1 => ?_⟩
    refine ⟨_, _, rfl, rfl, ?_⟩
    dsimp only
    rw [show V.int (1 + (z : Int)) = V.int ((z + 1 : Nat) : Int) by congr 1; omega]
    generalize hn : z + 1 = n
    have hn0 : 0 < n := by omega
    have hn5 : n ≤ 5 := by omega
    have ht1 := hf.keep c1 ht (by intro q z; cases z)
    -- the menu
    refine ⟨by show 1 ≤ sizeLine; decide, fun b1 hb1 => ?_⟩
    have s1 : Same H1 (upd H1 b1 (.tup [.str "back"])) := same_upd hb1
    refine ⟨_, rfl, by show 3 ≤ sizeLine; decide, fun q0 hq0 => ?_⟩
    have s2 := s1.trans (same_upd (o := .lst [.str "bad", .str "odd", .str "back"]) hq0)
    refine ⟨fd, cl, q0, _, rfl, f1.more s2, upd_same, by show 0 < 3; decide, by show 3 < 1073741824; decide, fun i0 x0 H2 hx0 c2 f2 => ?_⟩
    have hx0' : ∃ kd, x0 = .str kd ∧ NmOk kd := by
      match i0, hx0 with
      | 0, h => exact ⟨"bad", (Option.some.inj h).symm, nm_of (by decide +kernel)⟩
      | 1, h => exact ⟨"odd", (Option.some.inj h).symm, nm_of (by decide +kernel)⟩
      | 2, h => exact ⟨"back", (Option.some.inj h).symm, nm_of (by decide +kernel)⟩
      | n + 3, h => simp at h
    obtain ⟨kd, rfl, hkd⟩ := hx0'
    have eb1 : H2 b1 = some (.tup [.str "back"]) := (f1.more s2).keep c2 ((same_upd hq0) _ _ upd_same) (by intro q z; cases z)
    have ht2 : H2 tl = some (.lst (ts.map V.str)) := (f1.more s2).keep c2 (s2 _ _ ht1) (by intro q z; cases z)
    have c12 : Chg [fd] H H2 := c1.trans ((Same.chg s2).trans c2)
    refine ⟨by show 2 ≤ sizeLine; decide, fun b2 hb2 => ?_⟩
    have s3 : Same H2 (upd H2 b2 (.tup [.str "fail", .str kd])) := same_upd hb2
    refine ⟨by show 2 ≤ sizeLine; decide, fun b3 hb3 => ?_⟩
    have s4 : Same _ (upd (upd H2 b2 (.tup [.str "fail", .str kd])) b3 (.tup [.str "fail", .str "k"])) := same_upd hb3
    refine ⟨by show 3 ≤ sizeLine; decide, fun m0 hm0 => ?_⟩
    have s5 : Same _ (upd (upd (upd H2 b2 (.tup [.str "fail", .str kd])) b3 (.tup [.str "fail", .str "k"])) m0 (.lst [.ref b1, .ref b2, .ref b3])) := same_upd hm0
    refine ⟨_, rfl, _, rfl, .of_le (by decide) (by omega) (by decide) (by omega), fun q1 hq1 => ?_⟩
    have s6 : Same _ (upd (upd (upd (upd H2 b2 (.tup [.str "fail", .str kd])) b3 (.tup [.str "fail", .str "k"])) m0 (.lst [.ref b1, .ref b2, .ref b3])) q1 (.lst (rgV 0 (n : Nat)))) := same_upd hq1
    have hlr : (rgV 0 ((n : Nat) : Int)).length = n := by rw [rgV_length]; omega
    refine ⟨m0, q1, _, _, rfl, rfl, s6 _ _ upd_same, upd_same, by rw [hlr]; exact Nat.le_trans (show 3 + n ≤ 8 by omega) (by decide), fun mn hmn => ?_⟩
    have s3456 := (s3.trans s4).trans (s5.trans s6)
    have s7 := s3456.trans (same_upd (o := .lst ([.ref b1, .ref b2, .ref b3] ++ rgV 0 ((n : Nat) : Int))) hmn)
    have hrg : ∀ (H' : Hp), ImAll H' (((List.range n).map Way.num).map wayD) (rgV 0 ((n : Nat) : Int)) := fun H' => by
      unfold rgV
      rw [show ((n : Int) - 0).toNat = n by omega, List.map_map]
      have key : ∀ l : List Nat, ImAll H' (l.map (wayD ∘ Way.num)) (l.map fun i => V.int (0 + (i : Nat))) := by
        intro l
        induction l with
        | nil => exact imAll_nil.mpr rfl
        | cons i r ih => exact imAll_cons.mpr ⟨_, _, rfl, im_int.mpr (congrArg V.int (Int.zero_add _)), ih⟩
      exact key _
    have hmenu := LstAt.new (ds := ([Way.back, Way.fail kd, Way.fail "k"] ++ (List.range n).map Way.num).map wayD) (xs := [.ref b1, .ref b2, .ref b3] ++ rgV 0 ((n : Nat) : Int)) hmn (by
      rw [List.map_append]
      refine ImAll.append (imAll_three ?_ ?_ ?_) (hrg _)
      · exact im_tup.mpr ⟨b1, _, rfl, s3456 _ _ eb1, imAll_one (im_str.mpr rfl)⟩
      · exact im_tup.mpr ⟨b2, _, rfl, (s4.trans (s5.trans s6)) _ _ upd_same, imAll_two (im_str.mpr rfl) (im_str.mpr rfl)⟩
      · exact im_tup.mpr ⟨b3, _, rfl, (s5.trans s6) _ _ upd_same, imAll_two (im_str.mpr rfl) (im_str.mpr rfl)⟩)
    generalize hws : [Way.back, Way.fail kd, Way.fail "k"] ++ (List.range n).map Way.num = ws at hmenu
    have hwl : ws.length = 3 + n := by rw [← hws, List.length_append, List.length_map, List.length_range]; rfl
    have hwok : ∀ wy ∈ ws, WayOk n wy := fun wy h => by
      rw [← hws] at h
      rcases List.mem_append.mp h with h | h
      · rcases List.mem_cons.mp h with h | h
        · rw [h]; trivial
        rcases List.mem_cons.mp h with h | h
        · rw [h]; exact hkd
        · rw [List.mem_singleton.mp h]; exact nm_of (by decide +kernel)
      · obtain ⟨i, hi, rfl⟩ := List.mem_map.mp h
        exact List.mem_range.mp hi
    have fG := f2.more s7
    have tG := s7 _ _ ht2
    have cG : Chg [fd] H _ := c12.trans (Same.chg s7)
    -- the lines
    refine ⟨Nat.zero_le _, fun ll hll => ?_⟩
    have s8 := same_upd (o := .lst []) hll
    have hll0 : H ll = none := by
      cases e : H ll with
      | none => rfl
      | some o =>
        have nfd : ll ≠ fd := fun y => by
          obtain ⟨ns, nx, rs, tn, q, _⟩ := fG
          rw [y, q] at hll; cases hll
        have := cG _ _ e fun y => nfd (List.mem_singleton.mp y)
        rw [hll] at this; cases this
    have st0 : FSt H _ fd cl tl mn ll ts ws [] := ⟨cG.trans (Same.chg s8), fG.more s8, s8 _ _ tG, hmenu.more s8, ⟨[], upd_same, imAll_nil.mpr rfl⟩, hll0,
      (let ⟨_, e, _⟩ := hmenu; ne_of_none e hll), ne_of_none tG hll, fG.cl' hll⟩
    refine ⟨_, rfl, _, rfl, by omega, by omega, ?_⟩
    rw [Int.toNat_natCast]
    refine for_range (fun i σ H' => ∃ v6 v7 v8 v9 v10 v11 v12 ls, σ = [some (.ref fd), some (.str title), some (.ref tl), some (.int n), some (.ref mn), some (.ref ll), v6, v7, v8, v9, v10, v11, v12] ∧ FSt H H' fd cl tl mn ll ts ws ls ∧ ls.length = i ∧ ∀ l ∈ ls, LineOk ts n l)
      ⟨_, _, _, _, _, _, _, [], rfl, st0, rfl, fun l h => nomatch h⟩ ?_ ?_
    · rintro i σ H3 hi ⟨v6, v7, v8, v9, v10, v11, v12, ls, rfl, st, hls, hlok⟩
      obtain ⟨mx, hmx, hmxi⟩ := st.menu
      have hmxl : mx.length = 3 + n := by rw [hmxi.length, List.length_map]; exact hwl
      -- ways
      refine ⟨_, rfl, _, rfl, fd, cl, mn, mx, rfl, st.feed, hmx, by omega, by omega, fun i1 x1 H4 hx1 c4 f4 => ?_⟩
      obtain ⟨d1, hd1, hi1⟩ := hmxi.getV hx1
      rw [List.getElem?_map] at hd1
      obtain ⟨w1, hw1, rfl⟩ := Option.map_eq_some_iff.mp hd1
      have hwok1 := hwok w1 (List.mem_of_getElem? hw1)
      have hi1 := hi1.keep (st.feed.tup c4)
      have st4 := st.draw c4 f4
      refine ⟨by show 1 ≤ sizeLine; decide, fun wl hwl0 => ?_⟩
      have st5 := st4.more (same_upd (o := .lst [x1]) hwl0)
      have hw5 : LstAt (upd H4 wl (.lst [x1])) wl ([w1].map wayD) := LstAt.new hwl0 (imAll_one hi1)
      have hH0wl : H wl = none := by
        cases e : H wl with
        | none => rfl
        | some o =>
          have nfd : wl ≠ fd := fun y => by
            obtain ⟨ns, nx, rs, tn, q, _⟩ := st4.feed
            rw [y, q] at hwl0; cases hwl0
          have := st4.chg _ _ e fun y => nfd (List.mem_singleton.mp y)
          rw [hwl0] at this; cases this
      have ntw := ne_of_none st4.titles hwl0
      have nmw : mn ≠ wl := let ⟨_, e, _⟩ := st4.menu; ne_of_none e hwl0
      have nlw : ll ≠ wl := let ⟨_, e, _⟩ := st4.lines; ne_of_none e hwl0
      have ncw := st4.feed.cl' hwl0
      refine ⟨_, rfl, fd, cl, 3, rfl, st5.feed, by decide, by decide, fun r H6 hr3 c6 f6 => ⟨_, rfl, by omega, by omega, ?_⟩⟩
      rw [Int.toNat_natCast]
      have st6 := st5.draw c6 f6
      have hw6 := hw5.draw st5.feed c6
      refine for_range (fun j σ H' => ∃ v8 v9 wys, σ = [some (.ref fd), some (.str title), some (.ref tl), some (.int n), some (.ref mn), some (.ref ll), some (.int (0 + (i : Nat))), some (.ref wl), v8, v9, v10, v11, v12] ∧ FSt H H' fd cl tl mn ll ts ws ls ∧ LstAt H' wl (wys.map wayD) ∧ (∀ wy ∈ wys, WayOk n wy) ∧ wys.length ≤ j + 1)
        ⟨_, _, [w1], rfl, st6, hw6, fun wy h => by rw [List.mem_singleton.mp h]; exact hwok1, Nat.le_refl _⟩ ?_ ?_
      · rintro j σ H7 hj ⟨v8, v9, wys, rfl, st7, hw7, hwok7, hwl7⟩
        obtain ⟨mx7, hmx7, hmxi7⟩ := st7.menu
        have hmxl7 : mx7.length = 3 + n := by rw [hmxi7.length, List.length_map]; exact hwl
        refine ⟨_, rfl, _, rfl, fd, cl, mn, mx7, rfl, st7.feed, hmx7, by omega, by omega, fun i2 x2 H8 hx2 c8 f8 => ?_⟩
        obtain ⟨d2, hd2, hi2⟩ := hmxi7.getV hx2
        rw [List.getElem?_map] at hd2
        obtain ⟨w2, hw2, rfl⟩ := Option.map_eq_some_iff.mp hd2
        have hwok2 := hwok w2 (List.mem_of_getElem? hw2)
        have hi2 := hi2.keep (st7.feed.tup c8)
        have st8 := st7.draw c8 f8
        have hw8 := hw7.draw st7.feed c8
        obtain ⟨wx8, hwx8, hwi8⟩ := id hw8
        refine ⟨_, rfl, _, rfl, wayD w2, wys.map wayD, hi2.dp, lst_dp hwx8 hwi8, wayOk_shaped hwok2, ways_shaped hwok7, _, rfl, iteB (fun _ => ?_) (fun _ => ?_)⟩
        · refine ⟨_, rfl, .inl ⟨rfl, _, .of hwx8⟩, _, rfl, wl, wx8, x2, rfl, rfl, hwx8, ?_, ?_⟩
          · rw [hwi8.length, List.length_map]
            exact Nat.lt_of_le_of_lt (show wys.length ≤ 4 by omega) (by decide)
          · refine ⟨_, _, wys ++ [w2], rfl, st8.lst hwx8 hH0wl ntw nmw nlw ncw, ?_, fun wy h => ?_, by rw [List.length_append, List.length_singleton]; omega⟩
            · rw [List.map_append]; exact hw8.put hwx8 hi2
            · rcases List.mem_append.mp h with h | h
              · exact hwok7 wy h
              · rw [List.mem_singleton.mp h]; exact hwok2
        · exact ⟨_, _, wys, rfl, st8, hw8, hwok7, Nat.le_succ_of_le hwl7⟩
      · rintro σ H7 ⟨v8, v9, wys, rfl, st7, hw7, hwok7, hwl7⟩
        have hwl7' : wys.length ≤ 4 := by omega
        -- the kinds
        refine ⟨EnvOk.nil, fun kv H9 s9 hkv => ?_⟩
        have hkl : kv.length = 8 := hkv.length
        refine ⟨by rw [hkl]; decide, fun sl hsl => ?_⟩
        have s10 := s9.trans (same_upd (o := .lst kv) hsl)
        have st10 := st7.more s10
        have hw10 := hw7.more s10
        refine ⟨_, rfl, _, rfl, fd, cl, sl, kv, rfl, st10.feed, upd_same, by omega, by omega, fun i3 x3 H11 hx3 c11 f11 => ?_⟩
        obtain ⟨d3, hd3, hi3⟩ := hkv.getV hx3
        obtain ⟨ks, hks, rfl⟩ := List.mem_map.mp (List.mem_of_getElem? hd3)
        obtain ⟨hk4, hkn⟩ := kindsL_ok ks hks
        obtain ⟨kt, kxs, rfl, hkt, hkx⟩ := im_tup.mp ((hi3.keep (Same.tup (same_upd hsl))).keep (st10.feed.tup c11))
        rw [im_strs hkx] at hkt
        have st11 := st10.draw c11 f11
        have hw11 := hw10.draw st10.feed c11
        refine ⟨kt, rfl, ⟨_, .of hkt⟩, fun D hD => ?_⟩
        have sD := same_upd (o := .lst []) hD
        have hH0D : H D = none := by
          cases e : H D with
          | none => rfl
          | some o =>
            have nfd : D ≠ fd := fun y => by
              obtain ⟨ns, nx, rs, tn, q, _⟩ := st11.feed
              rw [y, q] at hD; cases hD
            have := st11.chg _ _ e fun y => nfd (List.mem_singleton.mp y)
            rw [hD] at this; cases this
        have nDt := ne_of_none st11.titles hD
        have nDm : mn ≠ D := let ⟨_, e, _⟩ := st11.menu; ne_of_none e hD
        have nDl : ll ≠ D := let ⟨_, e, _⟩ := st11.lines; ne_of_none e hD
        have nDw : wl ≠ D := let ⟨_, e, _⟩ := hw11; ne_of_none e hD
        have nDc := st11.feed.cl' hD
        refine lc_tup (K := K) (a := kt) (xs := ks.map V.str) (fun j H' => ∃ hs, FSt H H' fd cl tl mn ll ts ws ls ∧ LstAt H' wl (wys.map wayD) ∧ LstAt H' D (hs.map handD) ∧ hs.length = j ∧ (∀ h ∈ hs, h.2 < n ∧ NmOk h.1) ∧ H' kt = some (.tup (ks.map V.str)))
          ⟨[], st11.more sD, hw11.more sD, ⟨[], upd_same, imAll_nil.mpr rfl⟩, rfl, fun h hm => (nomatch hm), sD _ _ hkt⟩ (fun j H' _ ⟨_, _, _, _, _, _, e⟩ => .of e) ?_ ?_
        · rintro j x H12 hxj ⟨hs, st12, hw12, hd12, hlen12, hok12, hkt12⟩
          rw [List.getElem?_map] at hxj
          obtain ⟨kn, hkn', rfl⟩ := Option.map_eq_some_iff.mp hxj
          have hjk : j < ks.length := (List.getElem?_eq_some_iff.mp hkn').1
          refine ⟨rfl, _, rfl, _, rfl, _, rfl, fd, cl, n, rfl, st12.feed, hn0, by omega, fun z3 H13 hz3 c13 f13 => ?_⟩
          have st13 := st12.draw c13 f13
          have hw13 := hw12.draw st12.feed c13
          have hd13 := hd12.draw st12.feed c13
          have hkt13 := st12.feed.keep c13 hkt12 (by intro q z; cases z)
          refine ⟨by show 2 ≤ sizeLine; decide, fun b hb => ?_⟩
          have s14 := same_upd (o := .tup [.str kn, .int (z3 : Nat)]) hb
          have st14 := st13.more s14
          have hd14 := hd13.more s14
          obtain ⟨hx, ehx, ihx⟩ := id hd14
          refine ⟨hx, ehx, ?_, hs ++ [(kn, z3)], st14.lst ehx hH0D nDt nDm nDl nDc, (hw13.more s14).other ehx nDw, ?_, by rw [List.length_append, List.length_singleton, hlen12], fun h hm => ?_, ?_⟩
          · rw [ihx.length, List.length_map]
            exact Nat.lt_of_le_of_lt (show hs.length ≤ 4 by omega) (by decide)
          · rw [List.map_append]
            exact hd14.put ehx (im_tup.mpr ⟨b, _, rfl, upd_same, imAll_two (im_str.mpr rfl) (im_int.mpr rfl)⟩)
          · rcases List.mem_append.mp hm with hm | hm
            · exact hok12 h hm
            · rw [List.mem_singleton.mp hm]; exact ⟨hz3, hkn kn (List.mem_of_getElem? hkn')⟩
          · rw [upd_ne (ne_of (s14 _ _ hkt13) ehx (by intro z; cases z))]
            exact s14 _ _ hkt13
        · rintro H12 ⟨hs, st12, hw12, hd12, hlen12, hok12, _⟩
          rw [List.length_map] at hlen12
          -- the line
          obtain ⟨lx, hlx, hlxi⟩ := st12.lines
          refine ⟨_, rfl, .inl ⟨rfl, _, .of hlx⟩, _, rfl, _, rfl, fd, cl, tl, ts, rfl, st12.feed, st12.titles, h0, h8, fun cv H13 cs c13 f13 hcv hcs hcl => ?_⟩
          have st13 := st12.draw c13 f13
          obtain ⟨wx, ewx, iwx⟩ := hw12.draw st12.feed c13
          refine ⟨_, rfl, wl, wx, rfl, .inl ⟨.of ewx, fun u1 hu1 => ?_⟩⟩
          have s14 := same_upd (o := .tup wx) hu1
          obtain ⟨hx, ehx, ihx⟩ := (hd12.draw st12.feed c13).more s14
          refine ⟨_, rfl, D, hx, rfl, .inl ⟨.of ehx, fun u2 hu2 => ?_⟩⟩
          have s15 := same_upd (o := .tup hx) hu2
          refine ⟨by show 3 ≤ sizeLine; decide, fun u3 hu3 => ?_⟩
          have s16 := same_upd (o := .tup [cv, .ref u1, .ref u2]) hu3
          have sAll := (s14.trans s15).trans s16
          have st16 := st13.more sAll
          obtain ⟨lx2, hlx2, hlxi2⟩ := id st16.lines
          refine ⟨ll, lx2, .ref u3, rfl, rfl, hlx2, ?_, ?_⟩
          · rw [hlxi2.length, List.length_map, hls]
            exact Nat.lt_of_le_of_lt (show i ≤ 5 by omega) (by decide)
          · refine ⟨_, _, _, _, _, _, _, ls ++ [(cs, wys, hs)], rfl, st16.put hlx2 ?_, by rw [List.length_append, List.length_singleton, hls], fun l hm => ?_⟩
            · refine im_tup.mpr ⟨u3, _, rfl, upd_same, imAll_three (hcv.keep (Same.tup sAll)) ?_ ?_⟩
              · exact im_tup.mpr ⟨u1, _, rfl, (s15.trans s16) _ _ upd_same, iwx.keep (Same.tup sAll)⟩
              · exact im_tup.mpr ⟨u2, _, rfl, s16 _ _ upd_same, ihx.keep (Same.tup (s15.trans s16))⟩
            · rcases List.mem_append.mp hm with hm | hm
              · exact hlok l hm
              · rw [List.mem_singleton.mp hm]
                refine ⟨hcs, fun i hi => hwok7 _ hi, fun k hk => hwok7 _ hk, hok12, hcl, by show wys.length ≤ 16; omega, by show hs.length ≤ 8; omega⟩
    · rintro σ H3 ⟨v6, v7, v8, v9, v10, v11, v12, ls, rfl, st, hls, hlok⟩
      obtain ⟨xs, hx, hxi⟩ := st.lines
      refine ⟨_, rfl, _, rfl, ll, xs, rfl, .inl ⟨.of hx, fun t1 ht1 => ?_⟩⟩
      refine ⟨by show 2 ≤ sizeLine; decide, fun r hr => ?_⟩
      have s9 := (same_upd (o := .tup xs) ht1).trans (same_upd (o := .tup [.str title, .ref t1]) hr)
      refine k _ _ ls (st.chg.trans (Same.chg s9)) (st.feed.more s9) ?_ (by omega) (by omega) (by rw [hls]; exact hlok)
      exact im_tup.mpr ⟨r, _, rfl, upd_same, imAll_two (im_str.mpr rfl) (im_tup.mpr ⟨t1, _, rfl, (same_upd hr) _ _ upd_same, hxi.keep (Same.tup s9)⟩)⟩
end
end K28

set_option Elab.async false
set_option linter.all false
set_option maxRecDepth 100000
set_option maxHeartbeats 400000
/-! _law_program. -/
namespace K28
open PySem PySem.Spec PyProof.Rows L2
def titlesL : List (List Str) := [["main", "f", "g", "h"], ["z", "a", "zz", "back"], ["fail", "life", "b", "aaaaaaaa"]]
def titlesD : List PyData := titlesL.map fun ks => .tuple (ks.map PyData.str)
theorem titlesL_ok : ∀ ks ∈ titlesL, ks.length = 4 ∧ ks.Nodup ∧ ∀ k ∈ ks, NmOk k := by
  have h : (titlesL.all fun ks => decide (ks.length = 4) && ndB ks && ks.all nmB) = true := by decide +kernel
  intro ks hk
  have h2 := List.all_eq_true.mp h ks hk
  rw [Bool.and_eq_true, Bool.and_eq_true, List.all_eq_true] at h2
  exact ⟨of_decide_eq_true h2.1.1, ndB_ok h2.1.2, fun k hk => nmB_ok (h2.2 k hk)⟩
structure FnsOk (ts : List Str) (f : Fn) : Prop where
  pos : 0 < f.2.length
  short : f.2.length ≤ 5
  lines : ∀ l ∈ f.2, LineOk ts f.2.length l
theorem wf_of {ts : List Str} {p : Prog} (h0 : 0 < ts.length) (h4 : ts.length ≤ 4) (nd : ts.Nodup) (hn : ∀ t ∈ ts, NmOk t) (e : p.map (·.1) = ts) (hf : ∀ f ∈ p, FnsOk ts f) : WF p := by
  have hl : p.length = ts.length := by rw [← e, List.length_map]
  have nE : NmOk eS := nm_of (by decide +kernel)
  refine ⟨fun z => (by rw [z] at hl; rw [← hl] at h0; exact absurd h0 (Nat.lt_irrefl _)), (by rw [e]; exact nd), fun f h z => ?_, fun f h l m c hc => ?_, fun f h l m n hn => ((hf f h).lines l m).ways n hn, fun f h l m k hk => (((hf f h).lines l m).hands k hk).1, by omega, fun f h => Nat.le_trans (hf f h).short (by decide), fun f h l m => ((hf f h).lines l m).thin, fun f h => ⟨?_, fun l m => ⟨fun c hc => ?_, fun k hk => ((hf f h).lines l m).fails k hk, fun k hk => (((hf f h).lines l m).hands k hk).2⟩⟩⟩
  · have := (hf f h).pos
    rw [z] at this; cases this
  · rw [e]; exact ((hf f h).lines l m).calls c hc
  · exact hn _ (by rw [← e]; exact List.mem_map.mpr ⟨f, h, rfl⟩)
  · rcases ((hf f h).lines l m).calls c hc with y | y
    · rw [y]; exact nE
    · exact hn c y
section
variable {P : Program} {w : World} {K : PySem.W.Frag} {mg : Str → Option Value} {base : Heap}
theorem cut_tup {K : PySem.W.Frag} {H : Hp} {t : Addr} {xs : List V} {m : Nat} {Q : VK} (ht : H t = some (.tup xs)) (hm : m ≤ xs.length) (k : ∀ q H', Same H H' → H' q = some (.tup (xs.take m)) → Q (.ref q) H') : rSlA K (.ref t) none (some ((m : Nat) : Int)) H Q := by
  have e1 : HT.sIx xs.length xs.length (some ((m : Nat) : Int)) = m := by rw [HT.sIx_nat]; omega
  have e0 : HT.sIx xs.length 0 none = 0 := rfl
  refine ⟨t, xs, rfl, .of ht, fun h => ?_, fun _ q hq => ?_⟩
  · rw [e1] at h
    refine k t H (fun _ _ e => e) ?_
    rw [ht, h.2, List.take_length]
  · refine k q _ (same_upd hq) ?_
    rw [upd_same]
    unfold cutV
    rw [e1, e0]; rfl
def spProgram : Sp := fun vs H Q _ => ∃ (fd cl : Addr), vs = [.ref fd] ∧ FeedAt H fd cl ∧ ∀ (v : V) (H' : Hp) (p : Prog), Chg [fd] H H' → FeedAt H' fd cl → WF p → Im H' (progD p) v → Q v H'
theorem scPr : FnScope ["_law_feed_here", "_law_some", "_law_titles", "_law_title"] ["_law_feed_here"] (defScope sProgram) := ⟨rfl, rfl, rfl, by decide +kernel, rfl, by decide +kernel, by decide +kernel⟩
theorem ok_program {f gd ga gh gf : Addr} (F : At K "_law_program" "_law_program" sProgram f) (Tx : Tx K mg) (DR : Ok P w K mg base 1 gd ["_law_feed_here", "_law_many"] spDraw) (mgD : mg "_law_draw" = some (.ref gd))
    (AN : Ok P w K mg base 2 ga ["_law_feed_here", "_law_some"] spAny) (mgA : mg "_law_any" = some (.ref ga)) (HA : Ok P w K mg base 1 gh [] spHands) (mgH : mg "_law_hands" = some (.ref gh))
    (FU : Ok P w K mg base 4 gf ["_law_feed_here", "_law_title", "_law_titles"] spFunction) (mgF : mg "_law_function" = some (.ref gf)) : Ok P w K mg base 5 f ["_law_feed_here"] spProgram := by
  refine mkOk F scPr (fun _ _ _ _ _ _ us hl => match us, hl with | [_], _ => rfl) (fun vs H Q E h => ?_) (fun cdv A outer s H vs Q E hr h => ?_)
  · obtain ⟨fd, cl, rfl, _⟩ := h; rfl
  · obtain ⟨fd, cl, rfl, hf, k⟩ := h
    have hr1 : Room 1 _ := hr.mono (by decide)
    have hr2 : Room 2 _ := hr.mono (by decide)
    refine ⟨_, pss_cons (ps_if (pt_cmpR op_eq (pe_callO DR hr1 (by rfl) mgD (pa_cons (pv 0) (pa_cons pe_int pa_nil))) pe_int (nomark _))
        (pss_one (ps_ret (pe_callO AN hr2 (by rfl) mgA (pa_cons (pv 0) (pa_cons (pe_callO0 HA hr1 (by rfl) mgH) pa_nil))))) pss_nil)
      (pss_cons (ps_set (i := 1) scPr.nd rfl (Or.inl rfl) (pe_lst (pa_lit (env := []) _ titlesD (by kernel_rfl))))
      (pss_cons (ps_set (i := 2) scPr.nd rfl (Or.inr rfl) (pe_callTy call_list_of (by rfl) Tx.list (by decide +kernel) (pa_cons (pe_slice sl_tupA (pe_callO AN hr2 (by rfl) mgA (pa_cons (pv 0) (pa_cons (pv 1) pa_nil))) po_none (po_some (pe_op op_add pe_int (pe_callO DR hr1 (by rfl) mgD (pa_cons (pv 0) (pa_cons pe_int pa_nil)))))) pa_nil)))
      (pss_one (ps_ret (pe_callTy call_tuple_of (by rfl) Tx.tuple (by decide +kernel) (pa_cons (pe_lc (own := [("_law_title", 3)]) (g := gName 3) (tt := tYes) (te := tCall spFunction [] E0 (tCons (tVar 0) (tCons (tVar 3) (tCons (tVar 2) tNil)))) rfl scPr.nd (pi_list (pv 2))
        (blkOk_by (own := [("_law_title", 3)]) (N := ["_law_feed_here", "_law_some", "_law_titles", "_law_title"]) (sc := defScope sProgram) (by decide +kernel)) (fun _ _ _ _ _ => pg_name (i := 3) scPr.nd rfl (Or.inl rfl)) (fun _ _ _ _ _ => pts_nil)
        (fun _ _ _ _ _ => pe_callO FU hr (by rfl) mgF (pa_cons (pv 0) (pa_cons (pv 3) (pa_cons (pv 2) pa_nil))))) pa_nil)))))), ?_⟩
    refine ⟨_, rfl, fd, cl, 2, rfl, hf, by decide, by decide, fun z H1 hz c1 f1 => ⟨rfl, _, rfl, iteB (fun _ => ?_) (fun _ => ?_)⟩⟩
    · refine ⟨_, rfl, rfl, fun l xs H2 s2 hl e2 h0 h1 hx => ?_⟩
      have f2 := f1.more s2
      refine ⟨fd, cl, l, xs, rfl, f2, e2, h0, by omega, fun i x H3 hi c3 f3 => ?_⟩
      obtain ⟨p, h1, h2⟩ := hx x (List.mem_of_getElem? hi)
      exact k x H3 p (c1.trans ((Same.chg s2).trans c3)) f3 h1 (h2.keep (f2.tup c3))
    · refine ⟨EnvOk.nil, fun tv H2 s2 htv => ?_⟩
      have htl : tv.length = 3 := htv.length
      refine ⟨by rw [htl]; decide, fun sm hsm => ?_⟩
      have s3 := s2.trans (same_upd (o := .lst tv) hsm)
      have f3 := f1.more s3
      refine ⟨_, rfl, _, rfl, fd, cl, sm, tv, rfl, f3, upd_same, by omega, by omega, fun i x H4 hi c4 f4 => ?_⟩
      obtain ⟨d, hd, him⟩ := htv.getV hi
      obtain ⟨ks, hks, rfl⟩ := List.mem_map.mp (List.mem_of_getElem? hd)
      obtain ⟨hk4, hknd, hkn⟩ := titlesL_ok ks hks
      obtain ⟨kt, kxs, rfl, hkt, hkx⟩ := im_tup.mp ((him.keep (Same.tup (same_upd hsm))).keep (f3.tup c4))
      rw [im_strs hkx] at hkt
      refine ⟨_, rfl, fd, cl, 4, rfl, f4, by decide, by decide, fun z2 H5 hz2 c5 f5 => ?_⟩
      refine ⟨_, _, rfl, rfl, _, rfl, ?_⟩
      rw [show (1 + (z2 : Int)) = ((z2 + 1 : Nat) : Int) by omega]
      have hkt5 := f4.keep c5 hkt (by intro q z; cases z)
      refine cut_tup hkt5 (by rw [List.length_map, hk4]; omega) fun q H6 s6 hq => ?_
      refine ⟨q, _, rfl, .inr (.of hq), fun tl htl2 => ?_⟩
      have s7 := s6.trans (same_upd (o := .lst ((ks.map V.str).take (z2 + 1))) htl2)
      have f7 := f5.more s7
      have c17 : Chg [fd] H _ := c1.trans ((Same.chg s3).trans (c4.trans (c5.trans (Same.chg s7))))
      generalize hts : ks.take (z2 + 1) = ts
      have hts1 : ts.length = z2 + 1 := by rw [← hts, List.length_take, hk4]; omega
      have htnd : ts.Nodup := by rw [← hts]; exact hknd.sublist (List.take_sublist _ _)
      have htn : ∀ t ∈ ts, NmOk t := fun t h => hkn t (by rw [← hts] at h; exact List.mem_of_mem_take h)
      have etl : (ks.map V.str).take (z2 + 1) = ts.map V.str := by rw [← hts, List.map_take]
      rw [etl] at f7 c17
      rw [etl]
      generalize hG : upd H6 tl (.lst (ts.map V.str)) = G at f7 c17
      have hGt : G tl = some (.lst (ts.map V.str)) := by rw [← hG, upd_same]
      refine ⟨_, rfl, tl, rfl, ⟨_, .of hGt⟩, fun D hD => ?_⟩
      have sD := same_upd (o := .lst []) hD
      have hH0D : H D = none := by
        cases e : H D with
        | none => rfl
        | some o =>
          have nfd : D ≠ fd := fun y => by
            obtain ⟨ns, nx, rs, tn, q, _⟩ := f7
            rw [y, q] at hD; cases hD
          have := c17 _ _ e fun y => nfd (List.mem_singleton.mp y)
          rw [hD] at this; cases this
      have nDt := ne_of_none hGt hD
      have nDc := f7.cl' hD
      refine lc_list (K := K) (a := tl) (xs := ts.map V.str) (fun j H' => ∃ fs : Prog, Chg [fd] H H' ∧ FeedAt H' fd cl ∧ H' tl = some (.lst (ts.map V.str)) ∧ LstAt H' D (fs.map fnD) ∧ fs.map (·.1) = ts.take j ∧ ∀ f ∈ fs, FnsOk ts f)
        ⟨[], c17.trans (Same.chg sD), f7.more sD, sD _ _ hGt, ⟨[], upd_same, imAll_nil.mpr rfl⟩, rfl, fun f h => (nomatch h)⟩ (fun j H' _ ⟨_, _, _, e, _⟩ => .of e) ?_ ?_
      · rintro j x H8 hxj ⟨fs, c8, f8, t8, d8, e8, ok8⟩
        rw [List.getElem?_map] at hxj
        obtain ⟨tn, htj, rfl⟩ := Option.map_eq_some_iff.mp hxj
        refine ⟨rfl, _, rfl, _, rfl, _, rfl, fd, cl, tl, tn, ts, rfl, f8, t8, by omega, by omega, fun v H9 ls c9 f9 hv h0 h5 hls => ?_⟩
        have t9 := f8.keep c9 t8 (by intro q z; cases z)
        have d9 := d8.draw f8 c9
        obtain ⟨dx, edx, idx⟩ := id d9
        refine ⟨dx, edx, ?_, fs ++ [(tn, ls)], ?_, f9.lst edx nDc, by rw [upd_ne nDt]; exact t9, ?_, ?_, fun f h => ?_⟩
        · rw [idx.length, List.length_map]
          have := congrArg List.length e8
          rw [List.length_map, List.length_take] at this
          exact Nat.lt_of_le_of_lt (show fs.length ≤ 4 by omega) (by decide)
        · intro b o e n
          rw [upd_ne (ne_of_none e hH0D)]
          exact (c8.trans c9) b o e n
        · rw [List.map_append]
          exact d9.put edx hv
        · rw [List.map_append, e8, List.take_add_one, htj]; rfl
        · rcases List.mem_append.mp h with h | h
          · exact ok8 f h
          · rw [List.mem_singleton.mp h]
            exact ⟨h0, h5, hls⟩
      · rintro H8 ⟨fs, c8, f8, t8, d8, e8, ok8⟩
        rw [List.length_map, List.take_length] at e8
        obtain ⟨dx, edx, idx⟩ := d8
        refine ⟨D, dx, rfl, .inl ⟨.of edx, fun r hr => ?_⟩⟩
        have s9 := same_upd (o := .tup dx) hr
        refine k _ _ fs (c8.trans (Same.chg s9)) (f8.more s9) (wf_of (by omega) (by omega) htnd htn e8 ok8) ?_
        exact im_tup.mpr ⟨r, _, rfl, upd_same, idx.keep (Same.tup s9)⟩
end
end K28

set_option Elab.async false
set_option linter.all false
set_option maxRecDepth 100000
set_option maxHeartbeats 400000
/-! _law_great. -/
namespace K28
open PySem PySem.Spec PyProof.Rows L2
def gN : List Str := ["a", "back", "bb", "call", "dddddddd", "fail", "x", "zz"]
def gSize (i : Nat) : Nat := if i = 0 then 12 else 4
def gCalls (i k : Nat) : List Str := if k = 2 then gN else if k % 3 = 0 then ["", (gN[(i + 1) % 8]?).getD eS] else [""]
def gWays (n k : Nat) : List Way := if k % 2 = 0 then ((List.range n).map Way.num).reverse ++ [.back, .fail "k"] else [.fail "k", .back] ++ [.num ((k + 1) % n)]
def gHands (i n k : Nat) : List (Str × Nat) := if (k + i) % 3 = 0 then [("bad", 0), ("k", (k + 2) % n), ("odd", 1), ("", 2)] else []
def gLine (i k : Nat) : Line := (gCalls i k, gWays (gSize i) k, gHands i (gSize i) k)
def gFn (i : Nat) : Fn := ((gN[i]?).getD eS, (List.range (gSize i)).map (gLine i))
def gProg : Prog := (List.range 8).map gFn
theorem gProg_ok : WF gProg := wfB_ok (by decide +kernel)
theorem for_enumL {K : PySem.W.Frag} {a : Addr} {xs : List V} {g : TG} {tb : TS} {D : Ends} {σ : L2.St} {H : Hp} (Pv : Nat → L2.St → Hp → Prop) (h0 : Pv 0 σ H) (hl : ∀ i σ H, i ≤ xs.length → Pv i σ H → SqL K H a xs)
    (hs : ∀ i x σ H t, xs[i]? = some x → Pv i σ H → H t = none → g (.ref t) σ (upd H t (.tup [.int (i : Nat), x])) fun σ2 H2 => tb { D with nx := Pv (i + 1), ct := Pv (i + 1), bk := D.nx } σ2 H2) (hd : ∀ σ H, Pv xs.length σ H → D.nx σ H) :
    ∃ W : Nat → Nat → L2.St → Hp → Prop, (∃ m, W 0 m σ H) ∧ ∀ i m σ H, W i m σ H →
      ((Ite K a).stop i H ∧ D.nx σ H) ∨ ((Ite K a).go i H ∧ ∃ N : L2.St → Hp → Prop, (∀ σ' H', N σ' H' → ∃ m', m' < m ∧ W (i + 1) m' σ' H') ∧ ∀ x H', (Ite K a).yld i H x H' → g x σ H' fun σ2 H2 => tb { D with nx := N, ct := N, bk := D.nx } σ2 H2) := by
  refine ⟨fun i m σ H => m = xs.length - i ∧ i ≤ xs.length ∧ Pv i σ H, ⟨xs.length, by simp, Nat.zero_le _, h0⟩, ?_⟩
  rintro i m σ H ⟨rfl, hi, p⟩
  have q := hl i σ H hi p
  by_cases hlt : i < xs.length
  · refine .inr ⟨⟨xs, xs[i], q, by simp [hlt]⟩, Pv (i + 1), fun σ' H' p' => ⟨xs.length - (i + 1), by omega, rfl, hlt, p'⟩, fun x H' y => ?_⟩
    obtain ⟨T, z, rfl, hT, rfl, y⟩ := y
    exact hs i z σ H T (y xs q) p hT
  · have e : i = xs.length := by omega
    subst e
    exact .inl ⟨⟨xs, q, Nat.le_refl _⟩, hd σ H p⟩
def gC1 (i k : Nat) : List Str := if k % 3 = 0 then ["", (gN[(i + 1) % 8]?).getD eS] else [""]
def tGSize : TE := fun σ H Q => ∃ i : Nat, σ[3]? = some (some (.int i)) ∧ Q (.int (gSize i : Nat)) H
def tGC1 : TE := fun σ H Q => ∃ (i k : Nat) (nl : Addr), σ[3]? = some (some (.int i)) ∧ σ[7]? = some (some (.int k)) ∧ σ[0]? = some (some (.ref nl)) ∧ H nl = some (.lst (gN.map V.str)) ∧ ∀ v H', Same H H' → Im H' (.tuple ((gC1 i k).map PyData.str)) v → Q v H'
def tGC2 : TE := fun σ H Q => ∃ (i k : Nat) (nl : Addr) (v : V), σ[7]? = some (some (.int k)) ∧ σ[0]? = some (some (.ref nl)) ∧ σ[8]? = some (some v) ∧ H nl = some (.lst (gN.map V.str)) ∧ Im H (.tuple ((gC1 i k).map PyData.str)) v ∧ ∀ v H', Same H H' → Im H' (.tuple ((gCalls i k).map PyData.str)) v → Q v H'
def tGW : TE := fun σ H Q => ∃ (n k : Nat) (el : Addr), σ[7]? = some (some (.int k)) ∧ σ[5]? = some (some (.int n)) ∧ σ[1]? = some (some (.ref el)) ∧ 0 < n ∧ n ≤ 12 ∧ LstAt H el ([Way.back, Way.fail "k"].map wayD) ∧ ∀ a H', Same H H' → LstAt H' a ((gWays n k).map wayD) → Q (.ref a) H'
def tGH : TE := fun σ H Q => ∃ i n k : Nat, σ[7]? = some (some (.int k)) ∧ σ[3]? = some (some (.int i)) ∧ σ[5]? = some (some (.int n)) ∧ 0 < n ∧ ∀ v H', Same H H' → Im H' (.tuple ((gHands i n k).map handD)) v → Q v H'
structure GSt (H0 H : Hp) (nl el fl : Addr) (done : Prog) : Prop where
  same : Same H0 H
  nm : H nl = some (.lst (gN.map V.str))
  en : LstAt H el ([Way.back, Way.fail "k"].map wayD)
  fo : LstAt H fl (done.map fnD)
  nfl : H0 fl = none
  ne1 : nl ≠ fl
  ne2 : el ≠ fl
theorem GSt.more {H0 H H' : Hp} {nl el fl : Addr} {done : Prog} (x : GSt H0 H nl el fl done) (s : Same H H') : GSt H0 H' nl el fl done := ⟨x.same.trans s, s _ _ x.nm, x.en.more s, x.fo.more s, x.nfl, x.ne1, x.ne2⟩
theorem int_zero {i : Nat} {n : Nat} (h : decide (V.int (i : Nat) = V.int (n : Nat)) = true) : i = n := Int.ofNat.inj (V.int.inj (of_decide_eq_true h))
theorem int_ne {i : Nat} {n : Nat} (h : decide (V.int (i : Nat) = V.int (n : Nat)) = false) : i ≠ n := fun e => of_decide_eq_false h (by rw [e])
section
variable {P : Program} {w : World} {K : PySem.W.Frag} {mg : Str → Option Value} {base : Heap}
abbrev gNN : List Str := ["_law_names", "_law_ends", "_law_found", "_law_i", "_law_title", "_law_size", "_law_lines", "_law_k", "_law_calls_here", "_law_ways", "_law_hands_here"]
def spGreat : Sp := fun vs H Q _ => vs = [] ∧ ∀ (v : V) (H' : Hp), Same H H' → Im H' (progD gProg) v → Q v H'
theorem scGr : FnScope gNN [] (defScope sGreat) := ⟨rfl, rfl, rfl, by decide +kernel, rfl, by decide +kernel, by decide +kernel⟩
theorem ok_great {f : Addr} (F : At K "_law_great" "_law_great" sGreat f) (Tx : Tx K mg) : Ok P w K mg base 1 f [] spGreat := by
  refine mkOk F scGr (fun _ _ _ _ _ _ us hl => match us, hl with | [], _ => rfl) (fun vs H Q E h => ?_) (fun cdv A outer s H vs Q E hr h => ?_)
  · obtain ⟨rfl, _⟩ := h; rfl
  · obtain ⟨rfl, k⟩ := h
    refine ⟨_, pss_cons (ps_set (i := 0) scGr.nd rfl (Or.inl rfl) (pe_lst (pa_lit (env := []) _ (gN.map PyData.str) (by kernel_rfl))))
      (pss_cons (ps_set (i := 1) scGr.nd rfl (Or.inl rfl) (pe_lst (pa_lit (env := []) _ ([Way.back, Way.fail "k"].map wayD) (by kernel_rfl))))
      (pss_cons (ps_set (i := 2) scGr.nd rfl (Or.inl rfl) (pe_lst pa_nil))
      (pss_cons (ps_for PassesOwn.never rfl (pi_enum (by rfl) Tx.enum (pa_cons (pv 0) pa_nil)) (pg_tup (by rfl) (pgs_cons (pg_name (i := 3) scGr.nd rfl (Or.inl rfl)) (pgs_cons (pg_name (i := 4) scGr.nd rfl (Or.inl rfl)) pgs_nil)))
        (pss_cons (ps_set (i := 5) scGr.nd rfl (Or.inl rfl) (PE.conv (t' := tGSize) (pe_ifExp (pt_cmpR op_eq (pv 3) pe_int (nomark _)) pe_int pe_int) (fun σ H Q h => by
          obtain ⟨i, hi, q⟩ := h
          refine ⟨_, hi, rfl, _, rfl, iteB (fun hb => ?_) (fun hb => ?_)⟩
          · have e : i = 0 := int_zero (n := 0) hb
            subst e; exact q
          · have e : gSize i = 4 := if_neg (int_ne (n := 0) hb)
            rw [e] at q; exact q)))
        (pss_cons (ps_set (i := 6) scGr.nd rfl (Or.inl rfl) (pe_lst pa_nil))
        (pss_cons (ps_for PassesOwn.never rfl (pi_range1 (by rfl) Tx.range (pa_cons (pv 5) pa_nil)) (pg_name (i := 7) scGr.nd rfl (Or.inl rfl))
          (pss_cons (ps_set (i := 8) scGr.nd rfl (Or.inl rfl) (PE.conv (t' := tGC1) (pe_ifExp (pt_cmpR op_eq (pe_op op_mod (pe_callTy call_int1 (by rfl) Tx.int (by decide +kernel) (pa_cons (pv 7) pa_nil)) pe_int) pe_int (nomark _))
            (pe_tup (pa_cons pe_str (pa_cons (pe_ix ix_list (pv 0) (pe_op op_mod (pe_callTy call_int1 (by rfl) Tx.int (by decide +kernel) (pa_cons (pe_op op_add (pv 3) pe_int) pa_nil)) pe_int) (fun _ _ => rfl)) pa_nil))) (pe_tup (pa_cons pe_str pa_nil))) (fun σ H Q h => by
            obtain ⟨i, k, nl, h3, h7, h0, hn, q⟩ := h
            refine ⟨_, h7, .inl ⟨_, rfl, _, _, rfl, rfl, by show (0 : Int) < _; decide, rfl, _, rfl, iteB (fun hb => ?_) (fun hb => ?_)⟩⟩
            · have hb := int_zero (i := k % 3) (n := 0) hb
              have e : gC1 i k = [("" : Str), (gN[(i + 1) % 8]?).getD eS] := if_pos hb
              rw [e] at q
              have hj : (i + 1) % 8 < 8 := Nat.mod_lt _ (by decide)
              have hgj : gN[(i + 1) % 8]? = some ((gN[(i + 1) % 8]?).getD eS) := by
                have hl : (i + 1) % 8 < gN.length := hj
                rw [List.getElem?_eq_getElem hl]; rfl
              refine ⟨_, h0, _, h3, _, _, rfl, rfl, .inl ⟨_, rfl, _, _, rfl, rfl, by show (0 : Int) < _; decide, nl, _, (((i + 1) % 8 : Nat) : Int), _, rfl, congrArg V.int (by omega), .of hn, atI_nat (j := (i + 1) % 8) (v := V.str ((gN[(i + 1) % 8]?).getD eS)) (by rw [List.getElem?_map, hgj]; rfl), by show 2 ≤ sizeLine; decide, fun b hb2 => ?_⟩⟩
              exact q _ _ (same_upd hb2) (im_tup.mpr ⟨b, _, rfl, upd_same, imAll_two (im_str.mpr rfl) (im_str.mpr rfl)⟩)
            · have hb := int_ne (i := k % 3) (n := 0) hb
              have e : gC1 i k = [("" : Str)] := if_neg hb
              rw [e] at q
              exact ⟨by show 1 ≤ sizeLine; decide, fun b hb2 => q _ _ (same_upd hb2) (im_tup.mpr ⟨b, _, rfl, upd_same, imAll_one (im_str.mpr rfl)⟩)⟩)))
          (pss_cons (ps_set (i := 8) scGr.nd rfl (Or.inl rfl) (PE.conv (t' := tGC2) (pe_ifExp (pt_cmpR op_eq (pv 7) pe_int (nomark _)) (pe_callTy call_tuple_of (by rfl) Tx.tuple (by decide +kernel) (pa_cons (pv 0) pa_nil)) (pv 8)) (fun σ H Q h => by
            obtain ⟨i, k, nl, v, h7, h0, h8, hn, hv, q⟩ := h
            refine ⟨_, h7, rfl, _, rfl, iteB (fun hb => ?_) (fun hb => ?_)⟩
            · have hb := int_zero (i := k) (n := 2) hb
              have e : gCalls i k = gN := if_pos hb
              rw [e] at q
              exact ⟨_, h0, nl, _, rfl, .inl ⟨.of hn, fun b hb2 => q _ _ (same_upd hb2) (im_tup.mpr ⟨b, _, rfl, upd_same, imAll_strs gN⟩)⟩⟩
            · have hb := int_ne (i := k) (n := 2) hb
              have e : gCalls i k = gC1 i k := if_neg hb
              rw [e] at q
              exact ⟨v, h8, q v H (fun _ _ e => e) hv⟩)))
          (pss_cons (ps_set (i := 9) scGr.nd rfl (Or.inl rfl) (PE.conv (t' := tGW) (pe_ifExp (pt_cmpR op_eq (pe_op op_mod (pe_callTy call_int1 (by rfl) Tx.int (by decide +kernel) (pa_cons (pv 7) pa_nil)) pe_int) pe_int (nomark _))
            (pe_op op_cat (pe_revL (pe_listRg rfl (by rfl) Tx.list (prg_1 (by rfl) Tx.range (pv 5)))) (pv 1)) (pe_op op_cat (pe_revL (pv 1)) (pe_lst (pa_cons (pe_op op_mod (pe_callTy call_int1 (by rfl) Tx.int (by decide +kernel) (pa_cons (pe_op op_add (pv 7) pe_int) pa_nil)) (pv 5)) pa_nil)))) (fun σ H Q h => by
            obtain ⟨n, k, el, h7, h5, h1, hn0, hn12, ⟨ex, hex, hexi⟩, q⟩ := h
            have hexl : ex.length = 2 := hexi.length
            refine ⟨_, h7, .inl ⟨_, rfl, _, _, rfl, rfl, by show (0 : Int) < _; decide, rfl, _, rfl, iteB (fun hb => ?_) (fun hb => ?_)⟩⟩
            · have hb := int_zero (i := k % 2) (n := 0) hb
              have e : gWays n k = ((List.range n).map Way.num).reverse ++ [.back, .fail "k"] := if_pos hb
              rw [e] at q
              refine ⟨_, h5, _, rfl, .of_le (by decide) (by omega) (by decide) (by omega), fun q1 hq1 => ?_⟩
              have s1 := same_upd (o := .lst (rgV 0 (n : Nat))) hq1
              refine ⟨q1, _, rfl, .of upd_same, fun q2 hq2 => ?_⟩
              have s2 := s1.trans (same_upd (o := .lst (rgV 0 (n : Nat)).reverse) hq2)
              have hlr : (rgV 0 ((n : Nat) : Int)).length = n := by rw [rgV_length]; omega
              refine ⟨_, h1, q2, el, _, _, rfl, rfl, upd_same, s2 _ _ hex, by rw [List.length_reverse, hlr, hexl]; exact Nat.le_trans (show n + 2 ≤ 14 by omega) (by decide), fun b hb2 => ?_⟩
              have s3 := s2.trans (same_upd (o := .lst ((rgV 0 ((n : Nat) : Int)).reverse ++ ex)) hb2)
              refine q b _ s3 (LstAt.new hb2 ?_)
              rw [List.map_append]
              refine ImAll.append ?_ (hexi.keep (Same.tup s2))
              rw [List.map_reverse]
              refine ImAll.reverse ?_
              unfold rgV
              rw [show ((n : Int) - 0).toNat = n by omega, List.map_map]
              have key : ∀ (H' : Hp) (l : List Nat), ImAll H' (l.map (wayD ∘ Way.num)) (l.map fun i => V.int (0 + (i : Nat))) := by
                intro H' l
                induction l with
                | nil => exact imAll_nil.mpr rfl
                | cons i r ih => exact imAll_cons.mpr ⟨_, _, rfl, im_int.mpr (congrArg V.int (Int.zero_add _)), ih⟩
              exact key _ _
            · have hb := int_ne (i := k % 2) (n := 0) hb
              have e : gWays n k = [.fail "k", .back] ++ [.num ((k + 1) % n)] := if_neg hb
              rw [e] at q
              refine ⟨_, h1, el, ex, rfl, .of hex, fun q1 hq1 => ?_⟩
              have s1 := same_upd (o := .lst ex.reverse) hq1
              refine ⟨_, h7, _, _, rfl, rfl, .inl ⟨_, rfl, _, h5, _, _, rfl, rfl, by show (0 : Int) < _; omega, by show 1 ≤ sizeLine; decide, fun q2 hq2 => ?_⟩⟩
              have s2 := same_upd (o := .lst [.int (((k : Int) + 1) % (n : Int))]) hq2
              refine ⟨q1, q2, _, _, rfl, rfl, s2 _ _ upd_same, upd_same, by rw [List.length_reverse, hexl]; show 3 ≤ sizeLine; decide, fun b hb2 => ?_⟩
              have s3 := s1.trans (s2.trans (same_upd (o := .lst (ex.reverse ++ [.int (((k : Int) + 1) % (n : Int))])) hb2))
              refine q b _ s3 (LstAt.new hb2 ?_)
              rw [List.map_append]
              refine ImAll.append ?_ (imAll_one (im_int.mpr (congrArg V.int (by rw [Int.natCast_emod, Int.natCast_add]; rfl))))
              exact (ImAll.reverse hexi).keep (Same.tup (s1.trans s2)))))
          (pss_cons (ps_set (i := 10) scGr.nd rfl (Or.inl rfl) (PE.conv (t' := tGH) (pe_ifExp (pt_cmpR op_eq (pe_op op_mod (pe_callTy call_int1 (by rfl) Tx.int (by decide +kernel) (pa_cons (pe_op op_add (pv 7) (pv 3)) pa_nil)) pe_int) pe_int (nomark _))
            (pe_tup (pa_cons (pe_tup (pa_cons pe_str (pa_cons pe_int pa_nil))) (pa_cons (pe_tup (pa_cons pe_str (pa_cons (pe_op op_mod (pe_callTy call_int1 (by rfl) Tx.int (by decide +kernel) (pa_cons (pe_op op_add (pv 7) pe_int) pa_nil)) (pv 5)) pa_nil))) (pa_cons (pe_tup (pa_cons pe_str (pa_cons pe_int pa_nil))) (pa_cons (pe_tup (pa_cons pe_str (pa_cons pe_int pa_nil))) pa_nil)))))
            (pe_tup pa_nil)) (fun σ H Q h => by
            obtain ⟨i, n, k, h7, h3, h5, hn0, q⟩ := h
            refine ⟨_, h7, _, h3, _, _, rfl, rfl, .inl ⟨_, rfl, _, _, rfl, rfl, by show (0 : Int) < _; decide, rfl, _, rfl, iteB (fun hb => ?_) (fun hb => ?_)⟩⟩
            · have hb := int_zero (i := (k + i) % 3) (n := 0) hb
              have e : gHands i n k = [(("bad" : Str), 0), (("k" : Str), (k + 2) % n), (("odd" : Str), 1), (("" : Str), 2)] := if_pos hb
              rw [e] at q
              refine ⟨by show 2 ≤ sizeLine; decide, fun a1 ha1 => ?_⟩
              have s1 := same_upd (o := .tup [.str "bad", .int 0]) ha1
              refine ⟨_, h7, _, _, rfl, rfl, .inl ⟨_, rfl, _, h5, _, _, rfl, rfl, by show (0 : Int) < _; omega, by show 2 ≤ sizeLine; decide, fun a2 ha2 => ?_⟩⟩
              have s2 := same_upd (o := .tup [.str "k", .int (((k : Int) + 2) % (n : Int))]) ha2
              refine ⟨by show 2 ≤ sizeLine; decide, fun a3 ha3 => ?_⟩
              have s3 := same_upd (o := .tup [.str "odd", .int 1]) ha3
              refine ⟨by show 2 ≤ sizeLine; decide, fun a4 ha4 => ?_⟩
              have s4 := same_upd (o := .tup [.str "", .int 2]) ha4
              refine ⟨by show 4 ≤ sizeLine; decide, fun b hb2 => ?_⟩
              have s5 := same_upd (o := .tup [.ref a1, .ref a2, .ref a3, .ref a4]) hb2
              refine q _ _ (s1.trans (s2.trans (s3.trans (s4.trans s5)))) (im_tup.mpr ⟨b, _, rfl, upd_same, ?_⟩)
              refine imAll_cons.mpr ⟨_, _, rfl, ?_, imAll_three ?_ ?_ ?_⟩
              · exact im_tup.mpr ⟨a1, _, rfl, (s2.trans (s3.trans (s4.trans s5))) _ _ upd_same, imAll_two (im_str.mpr rfl) (im_int.mpr rfl)⟩
              · exact im_tup.mpr ⟨a2, _, rfl, (s3.trans (s4.trans s5)) _ _ upd_same, imAll_two (im_str.mpr rfl) (im_int.mpr (congrArg V.int (by rw [Int.natCast_emod, Int.natCast_add]; rfl)))⟩
              · exact im_tup.mpr ⟨a3, _, rfl, (s4.trans s5) _ _ upd_same, imAll_two (im_str.mpr rfl) (im_int.mpr rfl)⟩
              · exact im_tup.mpr ⟨a4, _, rfl, s5 _ _ upd_same, imAll_two (im_str.mpr rfl) (im_int.mpr rfl)⟩
            · have hb := int_ne (i := (k + i) % 3) (n := 0) hb
              have e : gHands i n k = [] := if_neg hb
              rw [e] at q
              exact ⟨Nat.zero_le _, fun b hb2 => q _ _ (same_upd hb2) (im_tup.mpr ⟨b, _, rfl, upd_same, imAll_nil.mpr rfl⟩)⟩)))
          (pss_one (ps_expr (pe_bm PySem.F.plainAttrs_list PySem.F.slot_list_append PySem.F.type_list_append mt_append (pv 6) (pa_cons (pe_tup (pa_cons (pv 8) (pa_cons (pe_callTy call_tuple_of (by rfl) Tx.tuple (by decide +kernel) (pa_cons (pv 9) pa_nil)) (pa_cons (pv 10) pa_nil)))) pa_nil)))))))))
        (pss_one (ps_expr (pe_bm PySem.F.plainAttrs_list PySem.F.slot_list_append PySem.F.type_list_append mt_append (pv 2) (pa_cons (pe_tup (pa_cons (pv 4) (pa_cons (pe_callTy call_tuple_of (by rfl) Tx.tuple (by decide +kernel) (pa_cons (pv 6) pa_nil)) pa_nil))) pa_nil))))))))
      (pss_one (ps_ret (pe_callTy call_tuple_of (by rfl) Tx.tuple (by decide +kernel) (pa_cons (pv 2) pa_nil))))))), ?_⟩
    refine ⟨EnvOk.nil, fun nv H1 s1 hnv => ?_⟩
    have enl := im_strs hnv
    subst enl
    refine ⟨by show 8 ≤ sizeLine; decide, fun nl hnl => ?_⟩
    have s2 := s1.trans (same_upd (o := .lst (gN.map V.str)) hnl)
    refine ⟨EnvOk.nil, fun ev H3 s3 hev => ?_⟩
    have hel2 : ev.length = 2 := hev.length
    refine ⟨by rw [hel2]; decide, fun el hel => ?_⟩
    have s4 := s3.trans (same_upd (o := .lst ev) hel)
    have hen := LstAt.new hel hev
    refine ⟨Nat.zero_le _, fun fl hfl => ?_⟩
    have s5 := same_upd (o := .lst []) hfl
    have hnm := s4 _ _ (show upd H1 nl (.lst (gN.map V.str)) nl = some (.lst (gN.map V.str)) by rw [upd_same])
    have g0 : GSt H _ nl el fl [] := ⟨s2.trans (s4.trans s5), s5 _ _ hnm, hen.more s5, ⟨[], upd_same, imAll_nil.mpr rfl⟩, (s2.trans s4).free hfl, ne_of_none hnm hfl, (let ⟨_, e, _⟩ := hen; ne_of_none e hfl)⟩
    refine ⟨_, rfl, nl, _, rfl, .of g0.nm, ?_⟩
    refine for_enumL (K := K) (a := nl) (xs := gN.map V.str) (fun i σ H' => ∃ v3 v4 v5 v6 v7 v8 v9 v10, σ = [some (.ref nl), some (.ref el), some (.ref fl), v3, v4, v5, v6, v7, v8, v9, v10] ∧ GSt H H' nl el fl (gProg.take i))
      ⟨_, _, _, _, _, _, _, _, rfl, g0⟩ (fun i σ H' _ ⟨_, _, _, _, _, _, _, _, _, g⟩ => .of g.nm) ?_ ?_
    · rintro i x σ H5 Tn hxi ⟨v3, v4, v5, v6, v7, v8, v9, v10, rfl, g⟩ hTn
      rw [List.getElem?_map] at hxi
      obtain ⟨ti, hti, rfl⟩ := Option.map_eq_some_iff.mp hxi
      have hi8 : i < 8 := (List.getElem?_eq_some_iff.mp hti).1
      have hgi : gProg[i]? = some (gFn i) := by
        unfold gProg
        rw [List.getElem?_map, List.getElem?_range hi8]; rfl
      have g1 := g.more (same_upd (o := .tup [.int (i : Nat), .str ti]) hTn)
      refine ⟨Tn, _, rfl, .of upd_same, rfl, _, _, rfl, _, _, rfl, rfl, ?_⟩
      refine ⟨i, rfl, ?_⟩
      have hs0 : 0 < gSize i ∧ gSize i ≤ 12 := by unfold gSize; split <;> omega
      refine ⟨Nat.zero_le _, fun ll hll => ?_⟩
      have s6 := same_upd (o := .lst []) hll
      have g2 := g1.more s6
      have nll0 : H ll = none := g1.same.free hll
      have nln := ne_of_none g1.nm hll
      have nle : el ≠ ll := let ⟨_, e, _⟩ := g1.en; ne_of_none e hll
      have nlf : fl ≠ ll := let ⟨_, e, _⟩ := g1.fo; ne_of_none e hll
      refine ⟨_, rfl, _, rfl, by omega, by omega, ?_⟩
      rw [Int.toNat_natCast]
      refine for_range (fun k σ H' => ∃ v7 v8 v9 v10, σ = [some (.ref nl), some (.ref el), some (.ref fl), some (.int (i : Nat)), some (.str ti), some (.int (gSize i : Nat)), some (.ref ll), v7, v8, v9, v10] ∧ GSt H H' nl el fl (gProg.take i) ∧ LstAt H' ll (((List.range k).map (gLine i)).map lineDt))
        ⟨_, _, _, _, rfl, g2, ⟨[], upd_same, imAll_nil.mpr rfl⟩⟩ ?_ ?_
      · rintro k σ H6 hk ⟨v7, v8, v9, v10, rfl, g3, hl⟩
        rw [show V.int (0 + ((k : Nat) : Int)) = V.int (k : Nat) by rw [Int.zero_add]]
        refine ⟨i, k, nl, rfl, rfl, rfl, g3.nm, fun cv H7 s7 hcv => ?_⟩
        refine ⟨i, k, nl, cv, rfl, rfl, rfl, (g3.more s7).nm, hcv, fun cv2 H8 s8 hcv2 => ?_⟩
        refine ⟨gSize i, k, el, rfl, rfl, rfl, hs0.1, hs0.2, (g3.more (s7.trans s8)).en, fun wa H9 s9 hwa => ?_⟩
        refine ⟨i, gSize i, k, rfl, rfl, rfl, hs0.1, fun hv H10 s10 hhv => ?_⟩
        have sA := s7.trans (s8.trans (s9.trans s10))
        have g4 := g3.more sA
        obtain ⟨wx, hwx, iwx⟩ := hwa.more s10
        obtain ⟨lx, hlx, ilx⟩ := hl.more sA
        refine ⟨_, rfl, .inl ⟨rfl, _, .of hlx⟩, _, rfl, _, rfl, wa, wx, rfl, .inl ⟨.of hwx, fun u1 hu1 => ?_⟩⟩
        have s11 := same_upd (o := .tup wx) hu1
        refine ⟨_, rfl, by show 3 ≤ sizeLine; decide, fun u2 hu2 => ?_⟩
        have s12 := same_upd (o := .tup [cv2, .ref u1, hv]) hu2
        have s13 := s11.trans s12
        have g5 := g4.more s13
        have hl5 := (hl.more sA).more s13
        refine ⟨ll, lx, .ref u2, rfl, rfl, s13 _ _ hlx, ?_, ?_⟩
        · rw [ilx.length, List.length_map, List.length_map, List.length_range]
          exact Nat.lt_of_le_of_lt (show k ≤ 12 by omega) (by decide)
        · refine ⟨_, _, _, _, rfl, ⟨fun b o e => ?_, by rw [upd_ne nln]; exact g5.nm, g5.en.other (s13 _ _ hlx) nle, g5.fo.other (s13 _ _ hlx) nlf, g5.nfl, g5.ne1, g5.ne2⟩, ?_⟩
          · rw [upd_ne (ne_of_none e nll0)]
            exact g5.same _ _ e
          · rw [List.range_succ, List.map_append, List.map_append]
            refine hl5.put (s13 _ _ hlx) (im_tup.mpr ⟨u2, _, rfl, upd_same, imAll_three ?_ ?_ ?_⟩)
            · exact hcv2.keep (Same.tup (s9.trans (s10.trans s13)))
            · exact im_tup.mpr ⟨u1, _, rfl, s12 _ _ upd_same, iwx.keep (Same.tup s13)⟩
            · exact hhv.keep (Same.tup s13)
      · rintro σ H6 ⟨v7, v8, v9, v10, rfl, g3, hl⟩
        obtain ⟨lx, hlx, ilx⟩ := hl
        obtain ⟨fx, hfx, ifx⟩ := id g3.fo
        refine ⟨_, rfl, .inl ⟨rfl, _, .of hfx⟩, _, rfl, _, rfl, ll, lx, rfl, .inl ⟨.of hlx, fun u1 hu1 => ?_⟩⟩
        have s11 := same_upd (o := .tup lx) hu1
        refine ⟨by show 2 ≤ sizeLine; decide, fun u2 hu2 => ?_⟩
        have s12 := same_upd (o := .tup [.str ti, .ref u1]) hu2
        have s13 := s11.trans s12
        have g5 := g3.more s13
        refine ⟨fl, fx, .ref u2, rfl, rfl, s13 _ _ hfx, ?_, ?_⟩
        · rw [ifx.length, List.length_map, List.length_take]
          exact Nat.lt_of_le_of_lt (show min i gProg.length ≤ 8 by omega) (by decide)
        · refine ⟨_, _, _, _, _, _, _, _, rfl, ⟨fun b o e => ?_, by rw [upd_ne g5.ne1]; exact g5.nm, g5.en.other (s13 _ _ hfx) g5.ne2, ?_, g5.nfl, g5.ne1, g5.ne2⟩⟩
          · rw [upd_ne (ne_of_none e g5.nfl)]
            exact g5.same _ _ e
          · rw [List.take_add_one, hgi, List.map_append]
            refine g5.fo.put (s13 _ _ hfx) (im_tup.mpr ⟨u2, _, rfl, upd_same, imAll_two (im_str.mpr ?_) ?_⟩)
            · show V.str ti = V.str ((gN[i]?).getD eS)
              rw [hti]; rfl
            · exact im_tup.mpr ⟨u1, _, rfl, s12 _ _ upd_same, ilx.keep (Same.tup s13)⟩
    · rintro σ H5 ⟨v3, v4, v5, v6, v7, v8, v9, v10, rfl, g⟩
      obtain ⟨fx, hfx, ifx⟩ := g.fo
      refine ⟨_, rfl, fl, fx, rfl, .inl ⟨.of hfx, fun r hr => ?_⟩⟩
      have s6 := same_upd (o := .tup fx) hr
      refine k _ _ (g.same.trans s6) (im_tup.mpr ⟨r, _, rfl, upd_same, ?_⟩)
      exact (show ImAll H5 (gProg.map fnD) fx from ifx).keep (Same.tup s6)
end
end K28

set_option Elab.async false
set_option linter.all false
set_option maxRecDepth 100000
set_option maxHeartbeats 400000
/-! defs that show data: no repr is under way. -/
namespace K28
open PySem PySem.Spec PyProof.Rows L2
structure FnOkG (P : Program) (w : World) (K : PySem.W.Frag) (mg : Str → Option Value) (base : Heap) (k : Nat) (f : Addr) (fd : FuncData) (ps : List Str) (sp : Sp) : Prop where
  len : ∀ vs H Q E, sp vs H Q E → vs.length = ps.length
  run : ∀ (A : Around) (outer : List Env) (s : Shared) (H : Hp) (args : Args) (us : List Value) (vs : List V) (Q : VK) (E : XK), A.guards = some [] → Room k A → Env0 P w K mg base A outer s H → BindsTo s fd args (ps.zip us) → Vals vs us → sp vs H Q E →
    codeAny (model P w) A (.call (.ref f) args) (CR CX0 outer P w H s Q E) s
theorem fnG_of {P : Program} {w : World} {K : PySem.W.Frag} {mg : Str → Option Value} {base : Heap} {k : Nat} {f : Addr} {name qual : Str} {params : Arguments} {body : List Stmt} {scope : Scope} {dV kV doc pm cdv ct oc : Value} {an od : Option Addr}
    {osl : Array (Option Value)} {N ps : List Str} {sp : Sp} (lk : K.lookup f = some ⟨oc, od, .func (PySem.W.fnOf name qual params body scope dV kV doc pm an cdv ct), osl⟩) (hcd : PySem.W.codeIn K cdv qual = true) (S : FnScope N ps scope)
    (len : ∀ vs H Q E, sp vs H Q E → vs.length = ps.length)
    (hbody : ∀ (A : Around) (outer : List Env) (s : Shared) (H : Hp) (vs : List V) (Q : VK) (E : XK), (A.deeper (envOfC qual scope s.heap.objs.size f cdv)).guards = some [] → Room k (A.deeper (envOfC qual scope s.heap.objs.size f cdv)) → sp vs H Q E →
      ∃ t, PSs (cxOf CX0 P w K mg base N qual scope f cdv A outer s H E).nox body t ∧ t { nx := fun _ H' => Q .non H', rt := Q } (start N vs) H) :
    FnOkG P w K mg base (k + 1) f (PySem.W.fnOf name qual params body scope dV kV doc pm an cdv ct) ps sp := by
  refine ⟨len, fun A outer s H args us vs Q E hgd hr e0 hb r hsp => ?_⟩
  have hl := len _ _ _ _ hsp
  have KX : K.In s.heap := e0.mod.kin.keeps fun b o e => (e0.bs b o e).1
  have lim : s.heap.NoLimit := e0.mod.nolimit.keeps fun b o e => (e0.bs b o e).1
  have hkind : ∀ y ∈ ps.zip us, scope.names.lookup y.1 = some .local ∨ (scope.names.lookup y.1 = some .cell ∧ ((cellsFrom (s.heap.objs.size + 1) scope.names []).lookup y.1).isSome = true) := fun ⟨n, v⟩ hy => by
    rcases S.par n (List.of_mem_zip hy).1 with q | q
    · exact .inl q
    · exact .inr ⟨q, PySem.W.cellsFrom_some _ _ _ (.inl q)⟩
  refine codeAny_call_function hr.depth (KX _ _ lk) rfl S.co S.gen rfl (PySem.W.codeRec_of KX hcd) (hb _ _ _ _ ?_)
  refine wpAny_newFunctionEnv_cells S.kind hkind fun env he s1 x => ?_
  subst he
  refine ⟨lim.keeps x.toInCall.keep, codeAny_func ?_⟩
  obtain ⟨t, ht, hq⟩ := hbody A outer s H vs Q E hgd (hr.deeper _) hsp
  have I : Inv (cxOf CX0 P w K mg base N qual scope f cdv A outer s H E) [] (start N vs) H s1 := inv_start S hr.hd e0 hl r x
  refine wpAny_mono (ht.nox.run [] s1 (start N vs) H _ I hq) (fun fl s' hs => ?_) fun e s' hs => hs
  have fin : ∀ {σ' : L2.St} {H' : Hp} {v : V} {u : Value}, Inv (cxOf CX0 P w K mg base N qual scope f cdv A outer s H E) [] σ' H' s' → RelV v u → Q v H' → CE outer P w H s Q u s' :=
    fun {σ' H' v u} J rv q => ⟨v, H', J.os, J.bare, J.base, J.hok, rv, q⟩
  cases fl with
  | ret u =>
    obtain ⟨v, σ', H', J, rv, q⟩ := hs
    exact fin J rv q
  | next =>
    obtain ⟨σ', H', J, q⟩ := hs
    exact fin (v := V.non) (u := Value.none) J rfl q
  | brk =>
    obtain ⟨_, _, _, q⟩ := hs
    exact False.elim q
  | cont =>
    obtain ⟨_, _, _, q⟩ := hs
    exact False.elim q
def OkG (P : Program) (w : World) (K : PySem.W.Frag) (mg : Str → Option Value) (base : Heap) (k : Nat) (f : Addr) (ps : List Str) (sp : Sp) : Prop :=
  ∃ fd, FnOkG P w K mg base k f fd ps sp ∧ Binds K fd ps [] ∧ PySem.W.keepIn K (.ref f) = true
section
variable {P : Program} {w : World} {K : PySem.W.Frag} {mg : Str → Option Value} {base : Heap}
theorem mkOkG {x qual : Str} {st : Stmt} {f : Addr} {N ps : List Str} {k : Nat} {sp : Sp} (F : At K x qual st f) (S : FnScope N ps (defScope st))
    (hb : ∀ (kV doc pm : Value) (an : Option Addr) (cdv ct : Value) (us : List Value), us.length = ps.length → bindArgs (PySem.W.fnOf x qual (defArgs st) (defBody st) (defScope st) .none kV doc pm an cdv ct) ⟨us, []⟩ = pure (ps.zip us))
    (len : ∀ vs H Q E, sp vs H Q E → vs.length = ps.length)
    (hbody : ∀ (cdv : Value) (A : Around) (outer : List Env) (s : Shared) (H : Hp) (vs : List V) (Q : VK) (E : XK), (A.deeper (envOfC qual (defScope st) s.heap.objs.size f cdv)).guards = some [] → Room k (A.deeper (envOfC qual (defScope st) s.heap.objs.size f cdv)) → sp vs H Q E →
      ∃ t, PSs (cxOf CX0 P w K mg base N qual (defScope st) f cdv A outer s H E).nox (defBody st) t ∧ t { nx := fun _ H' => Q .non H', rt := Q } (start N vs) H) : OkG P w K mg base (k + 1) f ps sp := by
  obtain ⟨fd, F⟩ := F
  have b := F.bindsN hb
  have kp := F.kp
  obtain ⟨oc, od, dV, kV, doc, pm, an, cdv, ct, osl, rfl, lk, hcd, _, _⟩ := F.ex
  exact ⟨_, fnG_of lk hcd S len (hbody cdv), b, kp⟩
end
section
variable {X : Cx} {k : Nat} {f : Addr} {ps : List Str} {sp : Sp} {x : Str} {p pos : Pos} {e : Expr} {es : List Expr} {t : TA}
theorem pe_callG (O : OkG X.prog X.w X.K X.mg X.base k f ps sp) (hgd : X.A.guards = some []) (hr : Room k X.A) (hg : Gl X x) (hm : X.mg x = some (.ref f)) (ha : PA X (e :: es) t) (hdb : (x == ("__debug__" : Str)) = false := by decide)
    (he : starEach (e :: es) X.env = (false, eval e X.env) :: starEach es X.env := by rfl) (hpl : (backTo pos (starEach es X.env)).any (·.1) = false := by rfl) : PE X (.Call (.Name x p) (e :: es) [] pos) (tCall sp [] E0 t) := by
  obtain ⟨fd, F, hb, hk⟩ := O
  refine ⟨fun pins s σ H Q I h => ?_⟩
  refine wpAny_Call_Name_kw (ld_glob I hg hm ?_ hdb)
  refine PySem.W.callWith_K (h₀ := X.base) I.ok.mod.kin hk (thn (ha.run pos pins s σ H _ I h) fun us s1 ⟨vs, H1, I1, r, q⟩ => ⟨I1.kIn, ?_⟩) he hpl
  have r2 : Vals (vs ++ []) (us ++ []) := r.append .nil
  have hl : (us ++ []).length = ps.length := by rw [← r2.length]; exact F.len _ _ _ _ q
  refine wpAny_call (codeAny_mono (F.run X.A X.stack s1 H1 ⟨us, []⟩ (us ++ []) (vs ++ []) Q E0 hgd hr I1.env0 (hb s1 us I1.kIn hl) r2 q) fun r s' hq => ?_)
  cases r with
  | error e => exact hq.elim
  | ok fl =>
    cases fl with
    | ret u => exact I1.after hq
    | next => exact False.elim hq
    | brk => exact False.elim hq
    | cont => exact False.elim hq
/-- repr(e), the value data -/
def tRepr (K : PySem.W.Frag) (te : TE) : TE := fun σ H Q => te σ H fun x H1 => ∃ d, Dp K H1 x d ∧ d.showable = true ∧ d.hasDict = false ∧ isDisplay d = true ∧ d.depth ≤ 50 ∧ d.shown.length ≤ sizeLine ∧ Q (.str d.shown) H1
theorem pe_repr {te : TE} (hgd : X.A.guards = some []) (hu : X.A.units + 65 < cLine) (hg : Gl X "repr") (hm : X.mg "repr" = none) (he : PE X e te) (hst : starEach [e] X.env = (false, eval e X.env) :: starEach [] X.env := by rfl) :
    PE X (.Call (.Name "repr" p) [e] [] pos) (tRepr X.K te) := by
  refine ⟨fun pins s σ H Q I h => ?_⟩
  refine wpAny_Call_Name_kw (ld_blt I hg hm (u := .builtin "repr") (by first | rfl | decide +kernel) ?_ (by decide) (by decide))
  have hA := he.run pins s σ H _ I h
  rw [hst]
  refine PySem.callWith_builtin1 (thn hA fun v s1 ⟨x, H1, I1, r1, d, hd, h1, h2, h3, h4, h5, q⟩ => ?_)
  obtain ⟨as, rd⟩ := Dp.reads I1 d x v hd r1
  obtain ⟨a, rfl⟩ := isRef_of_reads rd h3
  refine repr_of_reads' rd h1 (PyData.noDict_hsm h2) hgd (by show X.A.units + (d.depth + 1) < cLine; omega) (fun _ _ e => e) (fun h' u tk hk => ?_) h5
  exact ⟨.str d.shown, H1, I1.kept hk, ⟨_, rfl⟩, q⟩
end
end K28

set_option Elab.async false
set_option linter.all false
set_option maxRecDepth 100000
set_option maxHeartbeats 400000
/-! how long shown data may be -/
namespace K28
open PySem PySem.Spec PyProof.Rows PySem.StrLaws
structure Bd (n e : Nat) (d : PyData) : Prop where
  len : d.shown.length ≤ n
  sh : d.showable = true
  nd : d.hasDict = false
  dp : d.depth ≤ e
theorem Bd.mono {n e m g : Nat} {d : PyData} (b : Bd n e d) (h1 : n ≤ m) (h2 : e ≤ g) : Bd m g d := ⟨Nat.le_trans b.len h1, b.sh, b.nd, Nat.le_trans b.dp h2⟩
theorem bd_all {n e : Nat} : ∀ {xs : List PyData}, (∀ x ∈ xs, Bd n e x) → ((PyData.shownAll xs).map (·.length)).sum ≤ xs.length * n ∧ PyData.showableAll xs = true ∧ PyData.hasDictAll xs = false ∧ PyData.depthAll xs ≤ e
  | [], _ => ⟨by simp only [PyData.shownAll]; exact Nat.zero_le _, by simp only [PyData.showableAll], by simp only [PyData.hasDictAll], by simp only [PyData.depthAll]; exact Nat.zero_le _⟩
  | x :: r, h => by
    have hx := h x List.mem_cons_self
    obtain ⟨a, b, c, d⟩ := bd_all (xs := r) fun y hy => h y (List.mem_cons_of_mem _ hy)
    refine ⟨?_, ?_, ?_, ?_⟩
    · simp only [PyData.shownAll, List.map_cons, List.sum_cons, List.length_cons, Nat.succ_mul]
      have := hx.len
      omega
    · simp only [PyData.showableAll, hx.sh, b, Bool.and_self]
    · simp only [PyData.hasDictAll, hx.nd, c, Bool.or_self]
    · simp only [PyData.depthAll]
      have := hx.dp
      omega
theorem bd_tup {n e k : Nat} {xs : List PyData} (h : ∀ x ∈ xs, Bd n e x) (hk : xs.length ≤ k) : Bd (k * (n + 2) + 3) (e + 1) (.tuple xs) := by
  obtain ⟨a, b, c, d⟩ := bd_all h
  refine ⟨?_, by simp only [PyData.showable, b], by simp only [PyData.hasDict, c], by simp only [PyData.depth]; omega⟩
  have h2 := tupleText_len_le (PyData.shownAll xs)
  have h3 := PyData.shownAll_length xs
  have h4 : xs.length * (n + 2) ≤ k * (n + 2) := Nat.mul_le_mul_right _ hk
  rw [Nat.mul_add] at h4
  simp only [PyData.shown]
  omega
theorem bd_list {n e k : Nat} {xs : List PyData} (h : ∀ x ∈ xs, Bd n e x) (hk : xs.length ≤ k) : Bd (k * (n + 2) + 3) (e + 1) (.list xs) := by
  obtain ⟨a, b, c, d⟩ := bd_all h
  refine ⟨?_, by simp only [PyData.showable, b], by simp only [PyData.hasDict, c], by simp only [PyData.depth]; omega⟩
  have h2 := listText_len_le (PyData.shownAll xs)
  have h3 := PyData.shownAll_length xs
  have h4 : xs.length * (n + 2) ≤ k * (n + 2) := Nat.mul_le_mul_right _ hk
  rw [Nat.mul_add] at h4
  simp only [PyData.shown]
  omega
theorem bd_int {i : Nat} (h : i ≤ 999999999999) : Bd 13 0 (.int (i : Nat)) := by
  refine ⟨PyData.shown_int_le2 (by omega) (by omega), ?_, by simp only [PyData.hasDict], by simp only [PyData.depth]; exact Nat.le_refl _⟩
  simp only [PyData.showable, decide_eq_true_eq]
  have e : (Int.natAbs ((i : Nat) : Int)) = i := rfl
  rw [e]
  by_cases h0 : i = 0
  · subst h0; decide
  · rw [Nat.log2_lt h0]
    exact Nat.lt_of_le_of_lt h (by decide +kernel)
theorem bd_str {x : Str} (h : NmOk x) : Bd 82 0 (.str x) := by
  refine ⟨?_, by simp only [PyData.showable], by simp only [PyData.hasDict], by simp only [PyData.depth]; exact Nat.le_refl _⟩
  have h1 := h.1
  rw [← Array.all_toList, List.all_eq_true] at h1
  have e := reprText_len x fun c hc => Nat.lt_trans (of_decide_eq_true (h1 c hc)) (by decide)
  have h2 := h.2
  rw [PyData.shown_str]
  omega
theorem bd_way {w : Way} (h : ∀ k, w = .fail k → NmOk k) (hn : ∀ n, w = .num n → n < 12) : Bd 171 1 (wayD w) := by
  cases w with
  | num n => exact (bd_int (Nat.le_of_lt (Nat.lt_trans (hn n rfl) (by decide)))).mono (by decide) (by decide)
  | back =>
    refine (bd_tup (k := 1) (n := 82) (e := 0) (fun x hx => ?_) (Nat.le_refl _)).mono (by decide) (by decide)
    rw [List.mem_singleton] at hx; subst hx
    exact bd_str ⟨by decide +kernel, by decide +kernel⟩
  | fail k =>
    refine (bd_tup (k := 2) (n := 82) (e := 0) (fun x hx => ?_) (Nat.le_refl _)).mono (by decide) (by decide)
    rcases List.mem_cons.mp hx with rfl | hx
    · exact bd_str ⟨by decide +kernel, by decide +kernel⟩
    · rw [List.mem_singleton] at hx; subst hx
      exact bd_str (h k rfl)
theorem bd_prog {p : Prog} (w : WF p) : Bd 2000000 7 (progD p) := by
  refine (bd_tup (k := 8) (n := 210000) (e := 6) (fun x hx => ?_) (by rw [List.length_map]; exact w.few)).mono (by decide) (by decide)
  obtain ⟨f, hf, rfl⟩ := List.mem_map.mp hx
  obtain ⟨hn, hl⟩ := w.nms f hf
  refine (bd_tup (k := 2) (n := 103000) (e := 5) (fun x hx => ?_) (Nat.le_refl _)).mono (by decide) (by decide)
  rcases List.mem_cons.mp hx with rfl | hx
  · exact (bd_str hn).mono (by decide) (by decide)
  rw [List.mem_singleton] at hx; subst hx
  refine (bd_tup (k := 12) (n := 8500) (e := 4) (fun x hx => ?_) (by rw [List.length_map]; exact w.short f hf)).mono (by decide) (by decide)
  obtain ⟨l, hll, rfl⟩ := List.mem_map.mp hx
  obtain ⟨h1, h2, h3⟩ := hl l hll
  obtain ⟨t1, t2, t3⟩ := w.thin f hf l hll
  refine (bd_tup (k := 3) (n := 2800) (e := 3) (fun x hx => ?_) (Nat.le_refl _)).mono (by decide) (by decide)
  rcases List.mem_cons.mp hx with rfl | hx
  · refine (bd_tup (k := 16) (n := 82) (e := 0) (fun x hx => ?_) (by rw [List.length_map]; exact t1)).mono (by decide) (by decide)
    obtain ⟨c, hc, rfl⟩ := List.mem_map.mp hx
    exact bd_str (h1 c hc)
  rcases List.mem_cons.mp hx with rfl | hx
  · refine (bd_tup (k := 16) (n := 171) (e := 1) (fun x hx => ?_) (by rw [List.length_map]; exact t2)).mono (by decide) (by decide)
    obtain ⟨y, hy, rfl⟩ := List.mem_map.mp hx
    refine (bd_way (fun k e => h2 k (e ▸ hy)) fun n e => ?_).mono (by decide) (by decide)
    have := w.ways f hf l hll n (e ▸ hy)
    have := w.short f hf
    omega
  rw [List.mem_singleton] at hx; subst hx
  refine (bd_tup (k := 8) (n := 171) (e := 1) (fun x hx => ?_) (by rw [List.length_map]; exact t3)).mono (by decide) (by decide)
  obtain ⟨y, hy, rfl⟩ := List.mem_map.mp hx
  refine (bd_tup (k := 2) (n := 82) (e := 0) (fun x hx => ?_) (Nat.le_refl _)).mono (by decide) (by decide)
  rcases List.mem_cons.mp hx with rfl | hx
  · exact bd_str (h3 y hy)
  · rw [List.mem_singleton] at hx; subst hx
    have := w.hands f hf l hll y hy
    have := w.short f hf
    exact (bd_int (by omega)).mono (by decide) (by decide)
theorem bd_run {ks : List Nat} (h : ∀ k ∈ ks, k ≤ 999) (hl : ks.length ≤ 8) : Bd 123 1 (runD ks) := by
  refine (bd_tup (k := 8) (n := 13) (e := 0) (fun x hx => ?_) (by rw [List.length_map]; exact hl)).mono (by decide) (by decide)
  obtain ⟨k, hk, rfl⟩ := List.mem_map.mp hx
  exact bd_int (Nat.le_trans (h k hk) (by decide))
theorem can_le {p : Prog} (w : WF p) : ∀ (ks : List Nat) (c : Conf), Can p c ks → ∀ k ∈ ks, k ≤ 999
  | [], _, _, k, hk => nomatch hk
  | j :: r, c, h, k, hk => by
    rcases List.mem_cons.mp hk with rfl | hk
    · have := widths w c
      have := h.1
      omega
    · exact can_le w r _ h.2 k hk
theorem bd_runs {p : Prog} (w : WF p) {n : Nat} (hn : n ≤ 8) {r : List Nat} (h : r ∈ runs p n (c0 p)) : Bd 123 1 (runD r) :=
  bd_run (can_le w r _ (runs_can p n _ r h)) (by rw [runs_len p n _ r h]; exact hn)
theorem bd_found {p : Prog} (w : WF p) {n : Nat} (hn : n ≤ 8) (hl : (runs p n (c0 p)).length ≤ 1000) : Bd 1000000 2 (.list ((runs p n (c0 p)).map runD)) := by
  refine (bd_list (k := 1000) (n := 123) (e := 1) (fun x hx => ?_) (by rw [List.length_map]; exact hl)).mono (by decide) (by decide)
  obtain ⟨r, hr, rfl⟩ := List.mem_map.mp hx
  exact bd_runs w hn hr
theorem bd_some {ps : List Prog} (h : ∀ p ∈ ps, WF p) (hl : ps.length ≤ 8) : Bd 16777216 8 (.list (ps.map progD)) := by
  refine (bd_list (k := 8) (n := 2000000) (e := 7) (fun x hx => ?_) (by rw [List.length_map]; exact hl)).mono (by decide) (by decide)
  obtain ⟨p, hp, rfl⟩ := List.mem_map.mp hx
  exact bd_prog (h p hp)
end K28

set_option Elab.async false
set_option linter.all false
set_option maxRecDepth 100000
set_option maxHeartbeats 400000
/-! what _law_next_right leans on. -/
namespace K28
open PySem PySem.Spec PyProof.Rows L2
theorem im_ints {H : Hp} {ks : List Nat} {xs : List V} (h : ImAll H (ks.map fun (k : Nat) => PyData.int k) xs) : xs = ks.map fun (k : Nat) => V.int k := by
  induction ks generalizing xs with
  | nil => exact imAll_nil.mp h
  | cons k r ih =>
    obtain ⟨x, q, rfl, h1, h2⟩ := imAll_cons.mp h
    rw [im_int.mp h1, ih h2]; rfl
theorem im_runV {H : Hp} {ks : List Nat} {v : V} (h : Im H (runD ks) v) : ∃ r, v = .ref r ∧ H r = some (.tup (ks.map fun (k : Nat) => V.int k)) := by
  obtain ⟨a, ys, rfl, ha, hy⟩ := im_tup.mp h
  rw [im_ints hy] at ha
  exact ⟨a, rfl, ha⟩
theorem at_runs {H : Hp} {rs : List (List Nat)} {xs : List V} {j : Nat} {x : V} (h : ImAll H (rs.map runD) xs) (e : xs[j]? = some x) : ∃ r ks, rs[j]? = some ks ∧ x = .ref r ∧ H r = some (.tup (ks.map fun (k : Nat) => V.int k)) := by
  obtain ⟨d, hd, im⟩ := h.getV e
  rw [List.getElem?_map] at hd
  obtain ⟨ks, hks, rfl⟩ := Option.map_eq_some_iff.mp hd
  obtain ⟨r, hr, h2⟩ := im_runV im
  exact ⟨r, ks, hks, hr, h2⟩
theorem int_sum (l : List Nat) : (l.map fun (k : Nat) => (k : Int)).sum = (l.sum : Nat) := by
  induction l with
  | nil => rfl
  | cons k r ih => rw [List.map_cons, List.sum_cons, List.sum_cons, ih]; omega
theorem grow_le {p : Prog} (w : WF p) (c : Conf) (rs : List (List Nat)) : (grow p c rs).length ≤ 16 * rs.length := by
  rw [grow_length]
  induction rs with
  | nil => exact Nat.le_refl _
  | cons r l ih =>
    rw [List.map_cons, List.sum_cons, List.length_cons]
    have := widths w (after p c r)
    omega
theorem merge_some (k : Key) : ∀ (more acc : List (Key × V)), (k ∈ more.map (·.1) ∨ (valV acc k).isSome = true) → (valV (mergeK acc more) k).isSome = true
  | [], acc, h => by
    rcases h with h | h
    · exact (nomatch h)
    · exact h
  | (j, v) :: r, acc, h => by
    show (valV (mergeK (putK acc j v) r) k).isSome = true
    refine merge_some k r _ ?_
    by_cases e : k = j
    · right
      rw [valV_put, if_pos e]; rfl
    · rcases h with h | h
      · rcases List.mem_cons.mp h with h | h
        · exact absurd h e
        · exact .inl h
      · right
        rw [valV_put, if_neg e]; exact h
def rNotK : R2 := fun x y H Q => ∃ a kvs, ∃ k : Key, x = kV k ∧ y = .ref a ∧ H a = some (.dK kvs) ∧ Q (.bl (!(valV kvs k).isSome)) H
theorem op_notK {X : Cx} (hu : X.A.units + 1 < cLine) : OpR X (compareOp .NotIn) rNotK := by
  intro pins s σ H x y v u Q I rx ry h
  obtain ⟨a, kvs, k, rfl, rfl, ha, q⟩ := h
  cases ry
  exact d_notIn hu I (DGet.k ha) rx fun s1 I1 => ⟨.bl _, H, I1, rfl, q⟩
theorem last_tup {K : PySem.W.Frag} {H : Hp} {t : Addr} {xs : List V} {Q : VK} (ht : H t = some (.tup xs)) (hm : 0 < xs.length) (k : ∀ q H', Same H H' → H' q = some (.tup (xs.take (xs.length - 1))) → Q (.ref q) H') : rSlA K (.ref t) none (some (-1)) H Q := by
  have e1 : HT.sIx xs.length xs.length (some (-1)) = xs.length - 1 := by
    show (if (-1 : Int) < 0 then ((-1 : Int) + (xs.length : Int)).toNat else min (-1 : Int).toNat xs.length) = _
    rw [if_pos (by decide)]; omega
  have e0 : HT.sIx xs.length 0 none = 0 := rfl
  refine ⟨t, xs, rfl, .of ht, fun h => ?_, fun _ q hq => ?_⟩
  · rw [e1] at h
    omega
  · refine k q _ (same_upd hq) ?_
    rw [upd_same]
    unfold cutV
    rw [e1, e0]; rfl
/-- a row of n + 1 without its last choice -/
theorem runs_front {p : Prog} {n : Nat} {c : Conf} {ks : List Nat} (h : ks ∈ runs p (n + 1) c) : ks.take (ks.length - 1) ∈ runs p n c := by
  rw [runs_grow] at h
  obtain ⟨r, hr, h⟩ := List.mem_flatMap.mp h
  obtain ⟨k, _, rfl⟩ := List.mem_map.mp h
  rw [List.length_append, List.length_singleton, Nat.add_sub_cancel, List.take_left]
  exact hr
theorem grow_take {p : Prog} {c : Conf} {rs : List (List Nat)} {j : Nat} {r : List Nat} (h : rs[j]? = some r) : grow p c (rs.take (j + 1)) = grow p c (rs.take j) ++ (List.range (width p (after p c r))).map fun k => r ++ [k] := by
  unfold grow
  rw [List.take_add_one, h, List.flatMap_append]
  show _ ++ (_ ++ []) = _
  rw [List.append_nil]
theorem eqv_nil : PyData.eqv (.list []) (.list []) = true := by decide +kernel
theorem Same.mut {H H' : Hp} {D : Addr} {o : HO} (hD : H D = none) (s : Same H H') : Same H (upd H' D o) := fun b u e => by
  rw [upd_ne (ne_of_none e hD)]; exact s _ _ e
theorem ne_empty {K : PySem.W.Frag} {σ : L2.St} {H : Hp} {D : Addr} {Q : Bool → Hp → Prop} (hD : H D = some (.lst [])) (k : ∀ H', Same H H' → Q false H') :
    tLst tNil σ H fun y H2 => rNeD K (.ref D) y H2 fun x H' => ∃ k, x = .bl k ∧ Q k H' := by
  refine ⟨Nat.zero_le _, fun q hq => ?_⟩
  have s1 := same_upd (o := .lst []) hq
  refine ⟨.list [], .list [], .lst (.of (s1 _ _ hD)) .nil, .lst (.of upd_same) .nil, by decide +kernel, by decide +kernel, _, rfl, ?_⟩
  rw [eqv_nil]
  exact k _ s1
theorem paired_mono {α β : Type} {F G : α → β → Prop} (h : ∀ a b, F a b → G a b) : ∀ {l : List α} {m : List β}, Paired F l m → Paired G l m
  | _, _, .nil => .nil
  | _, _, .cons a t => .cons (h _ _ a) (paired_mono h t)
theorem LstAt.cat {H : Hp} {a b : Addr} {ds es : List PyData} {xs zs : List V} (h : LstAt H a ds) (e : H a = some (.lst xs)) (h2 : LstAt H b es) (e2 : H b = some (.lst zs)) : LstAt (upd H a (.lst (xs ++ zs))) a (ds ++ es) := by
  obtain ⟨ys, e3, i1⟩ := h
  obtain ⟨ws, e4, i2⟩ := h2
  rw [e] at e3; cases e3
  rw [e2] at e4; cases e4
  have kt : TupK H (upd H a (.lst (xs ++ zs))) := tup_upd fun zs z => by rw [e] at z; cases z
  exact ⟨_, upd_same, (i1.keep kt).append (i2.keep kt)⟩
end K28

set_option Elab.async false
set_option linter.all false
set_option maxRecDepth 100000
set_option maxHeartbeats 400000
/-! _law_next_right. -/
namespace K28
open PySem PySem.Spec PyProof.Rows L2 GenW
section
variable {P : Program} {w : World} {K : PySem.W.Frag} {mg : Str → Option Value} {base : Heap}
abbrev nN : List Str := ["_law_prog", "_law_level", "_law_n", "_law_due", "_law_found", "_law_known", "_law_made", "_law_picks", "_law_k"]
def spNext (p : Prog) : Sp := fun vs H Q _ => ∃ v lv xs, ∃ n : Nat, vs = [v, .ref lv, .int (n + 1 : Nat)] ∧ Im H (progD p) v ∧ WF p ∧ n ≤ 6 ∧ H lv = some (.lst xs) ∧ ImAll H ((runs p n (c0 p)).map runD) xs ∧ (runs p n (c0 p)).length ≤ 60 ∧
  (∀ H', Same H H' → Q (.ref lv) H') ∧ ∀ a ys H', Same H H' → H a = none → H' a = some (.lst ys) → ImAll H' ((runs p (n + 1) (c0 p)).map runD) ys → Q (.ref a) H'
def spNextA : Sp := fun vs H Q E => ∃ p, spNext p vs H Q E
theorem scNx : FnScope nN ["_law_prog", "_law_level", "_law_n"] (defScope sNextRight) := ⟨rfl, rfl, rfl, by decide +kernel, rfl, by decide +kernel, by decide +kernel⟩
theorem ok_next {f go gr gm gi : Addr} (F : At K "_law_next_right" "_law_next_right" sNextRight f) (Tx : Tx K mg)
    (OA : ∀ p, Ok P w K mg base 6 go ["program", "run"] (spOptions p)) (mgO : mg "options_after" = some (.ref go)) (RO : ∀ p, OkY P w K mg base 5 gr ["program", "count"] (spRunsOf p)) (mgR : mg "runs_of" = some (.ref gr))
    (HM : ∀ p, Ok P w K mg base 7 gm ["program", "count"] (spMany p)) (mgM : mg "how_many_runs" = some (.ref gm)) (IR : ∀ p, Ok P w K mg base 5 gi ["program", "thing"] (spIsRun p)) (mgI : mg "is_run" = some (.ref gi)) :
    OkG P w K mg base 9 f ["_law_prog", "_law_level", "_law_n"] spNextA := by
  refine mkOkG F scNx (fun _ _ _ _ _ _ us hl => match us, hl with | [_, _, _], _ => rfl) (fun vs H Q E h => ?_) (fun cdv A outer s H vs Q E hgd hr h => ?_)
  · obtain ⟨p, v, lv, xs, n, rfl, _⟩ := h; rfl
  · obtain ⟨p, v, lv, xs, n, rfl, hv, Wp, hn6, hlv, hxs, h60, kl, kf⟩ := h
    have hr5 : Room 5 _ := hr.mono (by decide)
    have hr6 : Room 6 _ := hr.mono (by decide)
    have hr8 : Room (5 + 3) _ := hr.mono (by decide)
    have hr7 : Room 7 _ := hr.mono (by decide)
    refine ⟨_, pss_cons (ps_set (i := 3) scNx.nd rfl (Or.inl rfl) (pe_callB (cr_sum rfl) (by rfl) Tx.sum (by decide +kernel) (pa_cons (pe_lc (own := [("_law_picks", 7)]) (g := gName 7) (tt := tYes) (te := tCall (spOptions p) [] E0 (tCons (tVar 0) (tCons (tVar 7) tNil))) rfl scNx.nd (pi_list (pv 1))
        (blkOk_by (own := [("_law_picks", 7)]) (N := nN) (sc := defScope sNextRight) (by decide +kernel)) (fun _ _ _ _ _ => pg_name (i := 7) scNx.nd rfl (Or.inl rfl)) (fun _ _ _ _ _ => pts_nil)
        (fun _ _ _ _ _ => pe_callO (OA p) hr6 (by rfl) mgO (pa_cons (pv 0) (pa_cons (pv 7) pa_nil)))) pa_nil)))
      (pss_cons (ps_if (pt_cmpR op_gt (pv 3) pe_int (nomark _)) (pss_one (ps_ret (pv 1))) pss_nil)
      (pss_cons (ps_set (i := 4) scNx.nd rfl (Or.inr rfl) (pe_lcY (pgenY_callO (RO p) hr5 (by rfl) mgR (pa_cons (pv 0) (pa_cons (pv 2) pa_nil))) hr8 (blkOk_by (own := [("_law_picks", 7)]) (N := nN) (sc := defScope sNextRight) (by decide +kernel)) (by rfl)))
      (pss_cons (ps_if (PW.pt (pw_or (pt_cmpR op_ne (pe_callO (HM p) hr7 (by rfl) mgM (pa_cons (pv 0) (pa_cons (pv 2) pa_nil))) (pv 3) (nomark _)) (pw_or1 (pt_cmpR op_ne (pe_callB call_len_seq (by rfl) Tx.len PySem.boot_len (pa_cons (pv 4) pa_nil)) (pv 3) (nomark _))))) pss_never pss_nil)
      (pss_cons (ps_if (pt_cmpR (op_neD hr.units) (pe_lc (own := [("_law_picks", 7)]) (g := gName 7) (tt := tOr (tTest (tOp rNe (tCB (fun xs H Q => ∃ p ys, xs = [.ref p] ∧ (SqL K H p ys ∨ SqT K H p ys) ∧ Q (.int ys.length) H) (tCons (tVar 7) tNil)) (tVar 2))) (tNot (tB (tCB (rIsi K) (tCons (tVar 7) (tCons (tC (.ty "tuple")) tNil)))))) (te := tVar 7) rfl scNx.nd (pi_list (pv 4))
          (blkOk_by (own := [("_law_picks", 7)]) (N := nN) (sc := defScope sNextRight) (by decide +kernel)) (fun _ _ _ _ _ => pg_name (i := 7) scNx.nd rfl (Or.inl rfl))
          (fun _ _ _ _ _ => pts_one (PW.pt (pw_or (pt_cmpR op_ne (pe_callB call_len_seq (by rfl) Tx.len PySem.boot_len (pa_cons (pv 7) pa_nil)) (pv 2) (nomark _)) (pw_or1 (pt_not (pt_val (pe_callB call_isi (by rfl) Tx.isi PyProof.Rows.boot_isinstance (pa_cons (pv 7) (pa_cons (pe_bltn (v := .ty "tuple") (u := .type "tuple") (by rfl) Tx.tuple (by decide +kernel) rfl) pa_nil)))))))))
          (fun _ _ _ _ _ => pv 7)) (pe_lst pa_nil) (nomark _)) pss_never pss_nil)
      (pss_cons (ps_if (pt_cmpR (op_neD hr.units) (pe_lc (own := [("_law_k", 8)]) (g := gName 8) (tt := tNot (tTest (tOp (rLtT K) (tOp (rIxL K) (tVar 4) (tOp (rI0 fun i j => .int (i - j)) (tVar 8) (tC (.int 1)))) (tOp (rIxL K) (tVar 4) (tVar 8))))) (te := tVar 8) rfl scNx.nd (pi_range2 (by rfl) Tx.range (pa_cons pe_int (pa_cons (pe_callB call_len_seq (by rfl) Tx.len PySem.boot_len (pa_cons (pv 4) pa_nil)) pa_nil)))
          (blkOk_by (own := [("_law_k", 8)]) (N := nN) (sc := defScope sNextRight) (by decide +kernel)) (fun _ _ _ _ _ => pg_name (i := 8) scNx.nd rfl (Or.inl rfl))
          (fun _ _ _ _ _ => pts_one (pt_not (pt_cmpR (op_ltT hr.u0) (pe_ix ix_list (pv 4) (pe_op op_sub (pv 8) pe_int) (fun _ _ => rfl)) (pe_ix ix_list (pv 4) (pv 8) (fun _ _ => rfl)) (nomark _))))
          (fun _ _ _ _ _ => pv 8)) (pe_lst pa_nil) (nomark _)) pss_never pss_nil)
      (pss_cons (ps_set (i := 5) scNx.nd rfl (Or.inr rfl) (pe_callTy (call_dictP rfl) (by rfl) Tx.dict (by decide +kernel) (pa_cons (pe_lc (own := [("_law_picks", 7)]) (g := gName 7) (tt := tYes) (te := tTup (tCons (tRepr K (tVar 7)) (tCons (tC (.bl true)) tNil))) rfl scNx.nd (pi_list (pv 1))
          (blkOk_by (own := [("_law_picks", 7)]) (N := nN) (sc := defScope sNextRight) (by decide +kernel)) (fun _ _ _ _ _ => pg_name (i := 7) scNx.nd rfl (Or.inl rfl)) (fun _ _ _ _ _ => pts_nil)
          (fun _ _ _ _ _ => pe_tup (pa_cons (pe_repr hgd hr.u65 (by rfl) Tx.repr (pv 7)) (pa_cons pe_bl pa_nil)))) pa_nil)))
      (pss_cons (ps_if (pt_cmpR (op_neD hr.units) (pe_lc (own := [("_law_picks", 7)]) (g := gName 7) (tt := tOr (tTest (tOp rNotK (tRepr K (tSl (rSlA K) (tVar 7) tNoPart (tPart (tUn (rU fun i => .int (-i)) (tC (.int 1)))))) (tVar 5))) (tTest (tOp rNotB (tCall (spIsRun p) [] E0 (tCons (tVar 0) (tCons (tVar 7) tNil))) (tC (.bl true))))) (te := tVar 7) rfl scNx.nd (pi_list (pv 4))
          (blkOk_by (own := [("_law_picks", 7)]) (N := nN) (sc := defScope sNextRight) (by decide +kernel)) (fun _ _ _ _ _ => pg_name (i := 7) scNx.nd rfl (Or.inl rfl))
          (fun _ _ _ _ _ => pts_one (PW.pt (pw_or (pt_cmpR (op_notK hr.u1) (pe_repr hgd hr.u65 (by rfl) Tx.repr (pe_slice sl_tupA (pv 7) po_none (po_some (pe_un un_neg pe_int)))) (pv 5) (by rfl)) (pw_or1 (pt_cmpR op_notBl (pe_callO (IR p) hr5 (by rfl) mgI (pa_cons (pv 0) (pa_cons (pv 7) pa_nil))) pe_bl (nomark _))))))
          (fun _ _ _ _ _ => pv 7)) (pe_lst pa_nil) (nomark _)) pss_never pss_nil)
      (pss_cons (ps_set (i := 6) scNx.nd rfl (Or.inl rfl) (pe_lst pa_nil))
      (pss_cons (ps_for PassesOwn.never rfl (pi_list (pv 1)) (pg_name (i := 7) scNx.nd rfl (Or.inr rfl))
        (pss_one (ps_expr (pe_bm PySem.F.plainAttrs_list PySem.F.slot_list_extend PySem.F.type_list_extend mt_extend (pv 6) (pa_cons (pe_lc (own := [("_law_k", 8)]) (g := gName 8) (tt := tYes) (te := tOp (rCatA K) (tVar 7) (tTup (tCons (tVar 8) tNil))) rfl scNx.nd
          (pi_range1 (by rfl) Tx.range (pa_cons (pe_callO (OA p) hr6 (by rfl) mgO (pa_cons (pv 0) (pa_cons (pv 7) pa_nil))) pa_nil))
          (blkOk_by (own := [("_law_k", 8)]) (N := nN) (sc := defScope sNextRight) (by decide +kernel)) (fun _ _ _ _ _ => pg_name (i := 8) scNx.nd rfl (Or.inl rfl)) (fun _ _ _ _ _ => pts_nil)
          (fun _ _ _ _ _ => pe_op op_catA (pv 7) (pe_tup (pa_cons (pv 8) pa_nil)))) pa_nil)))))
      (pss_one (ps_ret (pe_ifExp (pt_cmpR op_eq (pe_repr hgd hr.u65 (by rfl) Tx.repr (pv 4)) (pe_repr hgd hr.u65 (by rfl) Tx.repr (pv 6)) (nomark _)) (pv 4) pe_non)))))))))))), ?_⟩
    generalize hrs : runs p n (c0 p) = rs at hxs h60
    have hgr : runs p (n + 1) (c0 p) = grow p (c0 p) rs := by rw [← hrs]; exact runs_grow p n _
    have hrl : ∀ ks ∈ rs, ks.length = n := fun ks h => runs_len p n _ ks (hrs ▸ h)
    have hrc : ∀ ks ∈ rs, Can p (c0 p) ks := fun ks h => runs_can p n _ ks (hrs ▸ h)
    have hrb : ∀ ks ∈ rs, Bd 123 1 (runD ks) := fun ks h => bd_runs Wp (n := n) (by omega) (hrs ▸ h)
    have hxl : xs.length = rs.length := by rw [hxs.length, List.length_map]
    have hgl := grow_le Wp (c0 p) rs
    refine ⟨_, rfl, lv, rfl, ⟨_, .of hlv⟩, fun D hD => ?_⟩
    refine lc_list (K := K) (a := lv) (xs := xs) (fun j H' => Same H H' ∧ H' D = some (.lst ((rs.take j).map fun ks => V.int (width p (after p (c0 p) ks) : Nat))))
      ⟨same_upd hD, upd_same⟩ (fun j H' _ ⟨s, _⟩ => .of (s _ _ hlv)) ?_ ?_
    · rintro j x H1 hj ⟨s1, d1⟩
      obtain ⟨r, ks, hks, rfl, hr1⟩ := at_runs hxs hj
      have hm := List.mem_of_getElem? hks
      refine ⟨rfl, _, rfl, _, rfl, v, r, ks, rfl, hv.keep (Same.tup s1), Wp, s1 _ _ hr1, hrc ks hm, by rw [hrl ks hm]; omega, fun H2 s2 => ?_⟩
      refine ⟨_, s2 _ _ d1, ?_, Same.mut hD (s1.trans s2), ?_⟩
      · rw [List.length_map, List.length_take]
        exact Nat.lt_of_le_of_lt (show min j rs.length ≤ 60 by omega) (by decide)
      · rw [upd_same, List.take_add_one, hks, List.map_append]; rfl
    rintro H1 ⟨s1, d1⟩
    have d1' : H1 D = some (.lst (((rs.map fun ks => width p (after p (c0 p) ks)).map fun (k : Nat) => (k : Int)).map V.int)) := by
      rw [d1, hxl, List.take_length, List.map_map, List.map_map]; rfl
    refine ⟨D, _, rfl, .of d1', ?_⟩
    rw [int_sum, ← grow_length, ← hgr]
    rw [← hgr] at hgl
    generalize hd : runs p (n + 1) (c0 p) = fs at hgr hgl
    have hfl : ∀ ks ∈ fs, ks.length = n + 1 := fun ks h => runs_len p _ _ ks (hd ▸ h)
    have hfc : ∀ ks ∈ fs, Can p (c0 p) ks := fun ks h => runs_can p _ _ ks (hd ▸ h)
    refine ⟨_, rfl, _, _, rfl, rfl, _, rfl, iteB (fun _ => ?_) (fun hle => ?_)⟩
    · exact ⟨_, rfl, kl H1 s1⟩
    have h250 : fs.length ≤ 250 := by
      have := of_decide_eq_false hle
      omega
    refine ⟨_, rfl, _, rfl, v, n + 1, rfl, hv.keep (Same.tup s1), Wp, by omega, by rw [hd]; omega, fun ys H2 s2 hys q hq => ?_⟩
    rw [hd] at hys
    have s3 : Same H (upd H2 q (.lst ys)) := (s1.trans s2).trans (same_upd hq)
    have hq0 : H q = none := by
      cases e : H q with
      | none => rfl
      | some o => rw [(s1.trans s2) _ _ e] at hq; cases hq
    have hys3 := hys.keep (Same.tup (same_upd (o := .lst ys) hq))
    have fq : (upd H2 q (.lst ys)) q = some (.lst ys) := upd_same
    generalize hF : upd H2 q (.lst ys) = F at s3 hys3 fq
    have hyl : ys.length = fs.length := by rw [hys.length, List.length_map]
    -- how many
    refine ⟨_, rfl, _, rfl, v, n + 1, rfl, hv.keep (Same.tup s3), Wp, by omega, fun H4 s4 => ?_⟩
    rw [hd]
    refine ⟨_, rfl, rfl, _, rfl, ?_⟩
    rw [decide_eq_true rfl]
    refine iteF ?_
    refine ⟨_, rfl, q, ys, rfl, .inl (.of (s4 _ _ fq)), _, rfl, rfl, _, rfl, ?_⟩
    rw [hyl, decide_eq_true rfl]
    refine iteF ?_
    -- lengths
    refine ⟨_, rfl, q, rfl, ⟨_, .of (s4 _ _ fq)⟩, fun D2 hD2 => ?_⟩
    refine lc_list (K := K) (a := q) (xs := ys) (fun j H' => Same F H' ∧ H' D2 = some (.lst [])) ⟨Same.trans s4 (same_upd hD2), upd_same⟩ (fun j H' _ ⟨s, _⟩ => .of (s _ _ fq)) ?_ ?_
    · rintro j x H5 hj ⟨s5, d5⟩
      obtain ⟨r, ks, hks, rfl, hr1⟩ := at_runs hys3 hj
      have hm := List.mem_of_getElem? hks
      refine ⟨rfl, _, rfl, r, _, rfl, .inr (.of (s5 _ _ hr1)), _, rfl, rfl, _, rfl, ?_⟩
      rw [List.length_map, hfl ks hm, decide_eq_true rfl]
      refine iteF ?_
      exact ⟨_, rfl, _, _, _, _, true, rfl, .ty "tuple", .base (.tup (s5 _ _ hr1)), kit_ty (by decide +kernel), _, rfl, iteF ⟨s5, d5⟩⟩
    rintro H5 ⟨s5, d5⟩
    refine ne_empty d5 fun H6 s6 => iteF ?_
    have s7 := s5.trans s6
    -- in order
    refine ⟨_, rfl, q, ys, rfl, .inl (.of (s7 _ _ fq)), _, _, rfl, ⟨by decide, by decide, by omega, by omega⟩, fun D3 hD3 => ?_⟩
    refine lc_range (fun j H' => Same F H' ∧ H' D3 = some (.lst [])) ⟨s7.trans (same_upd hD3), upd_same⟩ ?_ ?_
    · rintro i H7 hi ⟨s8, d8⟩
      have hi2 : i + 1 < ys.length := by omega
      obtain ⟨ra, ka, hka, ea, hra⟩ := at_runs hys3 (List.getElem?_eq_getElem (show i < ys.length by omega))
      obtain ⟨rb, kb, hkb, eb, hrb2⟩ := at_runs hys3 (List.getElem?_eq_getElem hi2)
      have hlt : ltL ka kb := pair_next (hd ▸ runs_sorted p (n + 1) (c0 p)) hka hkb
      have ea2 : ys[i]? = some (.ref ra) := by rw [List.getElem?_eq_getElem (show i < ys.length by omega), ea]
      have eb2 : ys[i + 1]? = some (.ref rb) := by rw [List.getElem?_eq_getElem hi2, eb]
      refine ⟨rfl, _, rfl, _, rfl, _, _, rfl, rfl, q, ys, _, .ref ra, rfl, rfl, .of (s8 _ _ fq), by rw [show (1 + (i : Int) - 1) = ((i : Nat) : Int) by omega]; exact atI_nat ea2, ?_⟩
      refine ⟨_, rfl, _, rfl, q, ys, _, .ref rb, rfl, rfl, .of (s8 _ _ fq), by rw [show (1 + (i : Int)) = ((i + 1 : Nat) : Int) by omega]; exact atI_nat eb2, ?_⟩
      refine ⟨ra, rb, ka.map fun (k : Nat) => (k : Int), kb.map fun (k : Nat) => (k : Int), rfl, rfl, .of (by rw [List.map_map]; exact s8 _ _ hra), .of (by rw [List.map_map]; exact s8 _ _ hrb2), _, rfl, ?_⟩
      rw [show HT.lexLt (ka.map fun (k : Nat) => (k : Int)) (kb.map fun (k : Nat) => (k : Int)) = true from hlt]
      exact iteF ⟨s8, d8⟩
    rintro H7 ⟨s8, d8⟩
    refine ne_empty d8 fun H8 s9 => iteF ?_
    have s10 := s8.trans s9
    -- what is known
    have hlF := s3 _ _ hlv
    have hxF := hxs.keep (Same.tup s3)
    refine ⟨_, rfl, lv, rfl, ⟨_, .of (s10 _ _ hlF)⟩, fun D4 hD4 => ?_⟩
    refine lc_list (K := K) (a := lv) (xs := xs) (fun j H' => Same F H' ∧ ∃ ps : List Addr, ps.length ≤ j ∧ H' D4 = some (.lst (ps.map V.ref)) ∧ Paired (fun t (kv : Key × V) => H' t = some (.tup [kV kv.1, kv.2])) ps ((rs.take j).map fun ks => ((Sum.inr (runD ks).shown : Key), V.bl true)))
      ⟨s10.trans (same_upd hD4), [], Nat.le_refl _, upd_same, .nil⟩ (fun j H' _ ⟨s, _⟩ => .of (s _ _ hlF)) ?_ ?_
    · rintro j x H9 hj ⟨s11, ps, hpl, d9, hpr⟩
      obtain ⟨r, ks, hks, rfl, hr1⟩ := at_runs hxF hj
      have hm := List.mem_of_getElem? hks
      have bk := hrb ks hm
      refine ⟨rfl, _, rfl, runD ks, (im_runD (s11 _ _ hr1)).dp, bk.sh, bk.nd, rfl, Nat.le_trans bk.dp (by decide), Nat.le_trans bk.len (by decide), by show 2 ≤ sizeLine; decide, fun t ht => ?_⟩
      have st := same_upd (o := .tup [.str (runD ks).shown, .bl true]) ht
      have hD4F : F D4 = none := by
        cases e : F D4 with
        | none => rfl
        | some o => rw [s10 _ _ e] at hD4; cases hD4
      have nt : t ≠ D4 := fun e => by rw [e, d9] at ht; cases ht
      refine ⟨_, st _ _ d9, ?_, Same.mut hD4F (s11.trans st), ps ++ [t], ?_, ?_, ?_⟩
      · rw [List.length_map]
        have : j < xs.length := (List.getElem?_eq_some_iff.mp hj).1
        exact Nat.lt_of_le_of_lt (show ps.length ≤ 60 by omega) (by decide)
      · rw [List.length_append, List.length_singleton]; omega
      · rw [upd_same, List.map_append]; rfl
      · rw [List.take_add_one, hks, List.map_append]
        refine Paired.snoc (paired_mono (fun a b (h : H9 a = some (.tup [kV b.1, b.2])) => ?_) hpr) ?_
        · have na : a ≠ D4 := fun e => by rw [e, d9] at h; cases h
          rw [upd_ne na]; exact st _ _ h
        · show upd _ D4 _ t = _
          rw [upd_ne nt]; exact upd_same
    rintro H9 ⟨s11, ps, _, d9, hpr⟩
    rw [hxl, List.take_length] at hpr
    refine ⟨D4, ps, _, rfl, .of d9, paired_mono (fun a b h => .of h) hpr, fun kd hkd => ?_⟩
    have s12 := s11.trans (same_upd (o := .dK (mergeK [] (rs.map fun ks => ((Sum.inr (runD ks).shown : Key), V.bl true)))) hkd)
    have hG : (upd H9 kd (.dK (mergeK [] (rs.map fun ks => ((Sum.inr (runD ks).shown : Key), V.bl true))))) kd = some (.dK (mergeK [] (rs.map fun ks => ((Sum.inr (runD ks).shown : Key), V.bl true)))) := upd_same
    generalize (upd H9 kd (.dK (mergeK [] (rs.map fun ks => ((Sum.inr (runD ks).shown : Key), V.bl true))))) = G at s12 hG
    -- each goes on from a known one, and is a run
    refine ⟨_, rfl, q, rfl, ⟨_, .of (s12 _ _ fq)⟩, fun D5 hD5 => ?_⟩
    refine lc_list (K := K) (a := q) (xs := ys) (fun j H' => Same G H' ∧ H' D5 = some (.lst [])) ⟨same_upd hD5, upd_same⟩ (fun j H' _ ⟨s, _⟩ => .of (s _ _ (s12 _ _ fq))) ?_ ?_
    · rintro j x H5 hj ⟨s5, d5⟩
      obtain ⟨r, ks, hks, rfl, hr1⟩ := at_runs hys3 hj
      have hm := List.mem_of_getElem? hks
      have hl := hfl ks hm
      have hfm : ks.take (ks.length - 1) ∈ rs := hrs ▸ runs_front (hd ▸ hm)
      have bk := hrb _ hfm
      refine ⟨rfl, _, rfl, _, rfl, _, rfl, ?_⟩
      refine last_tup (s5 _ _ (s12 _ _ hr1)) (by rw [List.length_map]; omega) fun c H6 s6 hc => ?_
      rw [List.length_map, ← List.map_take] at hc
      refine ⟨_, (im_runD hc).dp, bk.sh, bk.nd, rfl, Nat.le_trans bk.dp (by decide), Nat.le_trans bk.len (by decide), ?_⟩
      refine ⟨_, rfl, kd, _, Sum.inr _, rfl, rfl, s6 _ _ (s5 _ _ hG), _, rfl, ?_⟩
      rw [merge_some _ _ _ (.inl (by rw [List.map_map]; exact List.mem_map.mpr ⟨_, hfm, rfl⟩))]
      refine iteF ?_
      have s7 := (s12.trans s5).trans s6
      refine ⟨_, rfl, _, rfl, v, r, ks, rfl, hv.keep (Same.tup (s3.trans s7)), Wp, s7 _ _ hr1, hfc ks hm, by omega, fun H7 s8 => ?_⟩
      exact ⟨true, true, rfl, rfl, _, rfl, iteF ⟨(s5.trans s6).trans s8, (s6.trans s8) _ _ d5⟩⟩
    rintro H5 ⟨s13, d5⟩
    refine ne_empty d5 fun H6 s14 => iteF ?_
    have s15 := s12.trans (s13.trans s14)
    -- made anew
    refine ⟨Nat.zero_le _, fun M hM => ?_⟩
    have s16 := s15.trans (same_upd (o := .lst []) hM)
    have hFM : F M = none := by
      cases e : F M with
      | none => rfl
      | some o => rw [s15 _ _ e] at hM; cases hM
    refine ⟨_, rfl, lv, rfl, ⟨_, .of (s16 _ _ hlF)⟩, ?_⟩
    refine for_list (K := K) (a := lv) (xs := xs) (fun j σ H' => ∃ v7, σ = [some v, some (.ref lv), some (.int (n + 1 : Nat)), some (.int (fs.length : Nat)), some (.ref q), some (.ref kd), some (.ref M), v7, none] ∧ Same F H' ∧ LstAt H' M ((grow p (c0 p) (rs.take j)).map runD))
      ⟨none, rfl, s16, [], upd_same, imAll_nil.mpr rfl⟩ (fun j σ H' _ ⟨_, _, s, _⟩ => .of (s _ _ hlF)) ?_ ?_
    · rintro j x σ H7 hj ⟨v7, rfl, s17, hM7⟩
      obtain ⟨r, ks, hks, rfl, hr1⟩ := at_runs hxF hj
      have hm := List.mem_of_getElem? hks
      have hl := hrl ks hm
      obtain ⟨mx0, em0, _⟩ := id hM7
      refine ⟨_, rfl, .inl ⟨rfl, _, .of em0⟩, _, rfl, _, rfl, v, r, ks, rfl, hv.keep (Same.tup (s3.trans s17)), Wp, s17 _ _ hr1, hrc ks hm, by omega, fun H8 s18 => ?_⟩
      have hw := widths Wp (after p (c0 p) ks)
      generalize hW : width p (after p (c0 p) ks) = W at hw
      refine ⟨_, rfl, by omega, by omega, fun D6 hD6 => ?_⟩
      rw [Int.toNat_natCast]
      have s19 := s17.trans s18
      have hM8 := hM7.more s18
      have hr8 := s19 _ _ hr1
      generalize hgm : grow p (c0 p) (rs.take j) = gm at hM8
      have nMD : M ≠ D6 := fun e => by
        obtain ⟨zs, e1, _⟩ := hM8
        rw [e, hD6] at e1; cases e1
      refine lc_range (fun i H' => Same H8 H' ∧ LstAt H' D6 (((List.range i).map fun k => ks ++ [k]).map runD)) ⟨same_upd hD6, [], upd_same, imAll_nil.mpr rfl⟩ ?_ ?_
      · rintro i H9 hi ⟨s20, l9⟩
        rw [show V.int (0 + ((i : Nat) : Int)) = V.int (i : Nat) by rw [Int.zero_add]]
        obtain ⟨dx, ed, id9⟩ := id l9
        refine ⟨rfl, _, rfl, _, rfl, by show 1 ≤ sizeLine; decide, fun b hb => ?_⟩
        have s21 := same_upd (o := .tup [.int (i : Nat)]) hb
        refine cat_run (s21 _ _ (s20 _ _ hr8)) upd_same (Nat.le_trans (show ks.length + 1 ≤ 8 by omega) (by decide)) fun c H10 s22 hc => ?_
        have s23 := s21.trans s22
        refine ⟨dx, s23 _ _ ed, ?_, Same.mut hD6 (s20.trans s23), ?_⟩
        · rw [id9.length, List.length_map, List.length_map, List.length_range]
          exact Nat.lt_of_le_of_lt (show i ≤ 16 by omega) (by decide)
        · rw [List.range_succ, List.map_append, List.map_append]
          exact (l9.more s23).put (s23 _ _ ed) (im_runD hc)
      · rintro H9 ⟨s20, l9⟩
        have hM9 := hM8.more s20
        obtain ⟨mx, em, im⟩ := id hM9
        obtain ⟨dx, ed, id9⟩ := id l9
        refine ⟨M, D6, mx, dx, rfl, rfl, em, ed, ?_, _, rfl, Same.mut hFM (s19.trans s20), ?_⟩
        · rw [im.length, id9.length, List.length_map, List.length_map, List.length_map, List.length_range]
          have := grow_le Wp (c0 p) (rs.take j)
          rw [hgm, List.length_take] at this
          exact Nat.le_trans (show gm.length + W ≤ 1000 by omega) (by decide)
        · rw [grow_take hks, hgm, List.map_append, hW]
          exact hM9.cat em l9 ed
    rintro σ H7 ⟨v7, rfl, s17, hM7⟩
    rw [hxl, List.take_length, ← hgr] at hM7
    obtain ⟨mx, em, im⟩ := hM7
    have bf : Bd 1000000 2 (.list (fs.map runD)) := by rw [← hd]; exact bd_found Wp (by omega) (by rw [hd]; omega)
    have hy7 := hys3.keep (Same.tup s17)
    refine ⟨_, rfl, _, lst_dp (s17 _ _ fq) hy7, bf.sh, bf.nd, rfl, Nat.le_trans bf.dp (by decide), Nat.le_trans bf.len (by decide), ?_⟩
    refine ⟨_, rfl, _, lst_dp em im, bf.sh, bf.nd, rfl, Nat.le_trans bf.dp (by decide), Nat.le_trans bf.len (by decide), rfl, _, rfl, ?_⟩
    rw [decide_eq_true rfl]
    refine iteT ?_
    refine ⟨_, rfl, ?_⟩
    exact kf q ys H7 (s3.trans s17) hq0 (s17 _ _ fq) (by rw [hd]; exact hy7)
end
end K28

set_option Elab.async false
set_option linter.all false
set_option maxRecDepth 100000
set_option maxHeartbeats 400000
/-! what law leans on. -/
namespace K28
open PySem PySem.Spec PyProof.Rows L2 GenW
section
variable {X : Cx} {k : Nat} {f : Addr} {ps : List Str} {x : Str} {p pos : Pos} {e : Expr} {es : List Expr} {t : TA}
/-- a def promised for every a -/
theorem pe_callA {α : Type} (a0 : α) {sp : α → Sp} (O : ∀ a, Ok X.prog X.w X.K X.mg X.base k f ps (sp a)) (hr : Room k X.A) (hg : Gl X x) (hm : X.mg x = some (.ref f)) (ha : PA X (e :: es) t) (hdb : (x == ("__debug__" : Str)) = false := by decide)
    (he : starEach (e :: es) X.env = (false, eval e X.env) :: starEach es X.env := by rfl) (hpl : (backTo pos (starEach es X.env)).any (·.1) = false := by rfl) :
    PE X (.Call (.Name x p) (e :: es) [] pos) (tCall (fun vs H Q E => ∃ a, sp a vs H Q E) [] E0 t) := by
  obtain ⟨_, _, _, hk⟩ := O a0
  refine ⟨fun pins s σ H Q I h => ?_⟩
  refine wpAny_Call_Name_kw (ld_glob I hg hm ?_ hdb)
  refine PySem.W.callWith_K (h₀ := X.base) I.ok.mod.kin hk (thn (ha.run pos pins s σ H _ I h) fun us s1 ⟨vs, H1, I1, r, q⟩ => ⟨I1.kIn, ?_⟩) he hpl
  obtain ⟨a, q⟩ := q
  obtain ⟨fd, F, hb, _⟩ := O a
  have q2 : sp a (vs ++ []) H1 Q E0 := q
  exact run_fn F hr hb .nil pass0 I1 r q2
theorem pgenY_callA {α : Type} (a0 : α) {sp : α → SpY} (O : ∀ a, OkY X.prog X.w X.K X.mg X.base k f ps (sp a)) (hr : Room k X.A) (hg : Gl X x) (hm : X.mg x = some (.ref f)) (ha : PA X (e :: es) t) (hdb : (x == ("__debug__" : Str)) = false := by decide)
    (he : starEach (e :: es) X.env = (false, eval e X.env) :: starEach es X.env := by rfl) (hpl : (backTo pos (starEach es X.env)).any (·.1) = false := by rfl) :
    PGenY X k (.Call (.Name x p) (e :: es) [] pos) (tCallY (fun vs H Q => ∃ a, sp a vs H Q) [] t) := by
  obtain ⟨_, _, _, hk⟩ := O a0
  refine ⟨fun pins s σ H cont I h => ?_⟩
  refine wpAny_Call_Name_kw (ld_glob I hg hm ?_ hdb)
  refine PySem.W.callWith_K (h₀ := X.base) I.ok.mod.kin hk (thn (ha.run pos pins s σ H _ I h) fun us s1 ⟨vs, H1, I1, r, q⟩ => ⟨I1.kIn, ?_⟩) he hpl
  obtain ⟨a, q⟩ := q
  obtain ⟨fd, F, hb, _⟩ := O a
  have r2 : Vals (vs ++ []) (us ++ []) := r.append .nil
  have hl2 : (us ++ []).length = ps.length := by rw [← r2.length]; exact F.len _ _ _ q
  refine wpAny_call (codeAny_mono (F.run X.A X.stack s1 H1 ⟨us, []⟩ (us ++ []) (vs ++ []) cont hr I1.env0 (hb s1 us I1.kIn hl2) r2 q) fun r s' hq => ?_)
  cases r with
  | error e => exact False.elim hq
  | ok fl =>
    cases fl with
    | ret u => exact ⟨H1, s1, I1, hq⟩
    | next => exact False.elim hq
    | brk => exact False.elim hq
    | cont => exact False.elim hq
theorem passNo : Passes (CX X.prog X.w) X NoX := fun _ _ _ _ _ _ _ ⟨_, _, _, _, _, _, _, _, _, _, _, _, h⟩ => False.elim h
theorem noStopNo {K : PySem.W.Frag} : NoStop K NoX := fun _ _ _ h => False.elim h
end
theorem lay_runs : ∀ rs : List (List Nat), PyData.canLayAll0 (rs.map runD) = true
  | [] => rfl
  | r :: l => by
    have h : ∀ ks : List Nat, PyData.canLayAll0 (ks.map fun (k : Nat) => PyData.int k) = true := fun ks => by
      induction ks with
      | nil => rfl
      | cons k r ih =>
        rw [List.map_cons]
        show (PyData.canLay0 (.int k) && PyData.canLayAll0 (r.map fun (k : Nat) => PyData.int k)) = true
        rw [ih]; rfl
    rw [List.map_cons]
    show (PyData.canLayAll0 (r.map fun (k : Nat) => PyData.int k) && PyData.canLayAll0 (l.map runD)) = true
    rw [h, lay_runs l]; rfl
theorem shaped_runs {rs : List (List Nat)} (h : (PyData.list (rs.map runD)).depth ≤ 64) : SeqAt.shaped (.list (rs.map runD)) = true := by
  show (PyData.canLayAll0 (rs.map runD) && decide _) = true
  rw [lay_runs, decide_eq_true h]; rfl
theorem depth_runs (rs : List (List Nat)) : (PyData.list (rs.map runD)).depth ≤ 2 := by
  have h1 : ∀ ks : List Nat, PyData.depthAll (ks.map fun (k : Nat) => PyData.int k) = 0 := fun ks => by
    induction ks with
    | nil => rfl
    | cons k r ih =>
      rw [List.map_cons]
      show max (PyData.depth (.int k)) (PyData.depthAll (r.map fun (k : Nat) => PyData.int k)) = 0
      rw [ih]; rfl
  have h2 : ∀ rs : List (List Nat), PyData.depthAll (rs.map runD) ≤ 1 := fun rs => by
    induction rs with
    | nil => exact Nat.zero_le _
    | cons r l ih =>
      rw [List.map_cons]
      show max (PyData.depthAll (r.map fun (k : Nat) => PyData.int k) + 1) (PyData.depthAll (l.map runD)) ≤ 1
      rw [h1]; omega
  show PyData.depthAll (rs.map runD) + 1 ≤ 2
  have := h2 rs
  omega
theorem eqv_runs (rs : List (List Nat)) : PyData.eqv (.list (rs.map runD)) (.list []) = rs.isEmpty := by
  cases rs with
  | nil => decide +kernel
  | cons i r => simp [PyData.eqv, PyData.eqvAll]
theorem runs_empty {p : Prog} {c : Conf} {m : Nat} (h : runs p m c = []) : ∀ d, runs p (m + d) c = []
  | 0 => h
  | d + 1 => by
    show runs p (m + d + 1) c = []
    rw [runs_grow, runs_empty h d]; rfl
/-- the levels, each the rows of at most bd choices -/
structure LvAt (H0 H : Hp) (L : Addr) (ps : List Prog) (bd : Nat → Nat) : Prop where
  same : Same H0 H
  ln : H0 L = none
  ls : ∃ ls : List Addr, H L = some (.lst (ls.map V.ref)) ∧ ls.length = ps.length ∧ ∀ i p a, ps[i]? = some p → ls[i]? = some a → a ≠ L ∧ ∃ m xs, m ≤ bd i ∧ H a = some (.lst xs) ∧ ImAll H ((runs p m (c0 p)).map runD) xs
theorem LvAt.more {H0 H H' : Hp} {L : Addr} {ps : List Prog} {bd : Nat → Nat} (l : LvAt H0 H L ps bd) (s : Same H H') : LvAt H0 H' L ps bd := by
  obtain ⟨ls, h1, h2, h3⟩ := l.ls
  refine ⟨l.same.trans s, l.ln, ls, s _ _ h1, h2, fun i p a hp ha => ?_⟩
  obtain ⟨n, m, xs, hm, hx, hi⟩ := h3 i p a hp ha
  exact ⟨n, m, xs, hm, s _ _ hx, hi.keep (Same.tup s)⟩
theorem LvAt.wide {H0 H : Hp} {L : Addr} {ps : List Prog} {bd bd' : Nat → Nat} (l : LvAt H0 H L ps bd) (h : ∀ i, bd i ≤ bd' i) : LvAt H0 H L ps bd' := by
  obtain ⟨ls, h1, h2, h3⟩ := l.ls
  refine ⟨l.same, l.ln, ls, h1, h2, fun i p a hp ha => ?_⟩
  obtain ⟨n, m, xs, hm, hx, hi⟩ := h3 i p a hp ha
  exact ⟨n, m, xs, Nat.le_trans hm (h i), hx, hi⟩
theorem LvAt.set {H0 H : Hp} {L : Addr} {ps : List Prog} {bd bd' : Nat → Nat} {ys : List V} (l : LvAt H0 H L ps bd) (h : ∀ i, bd i ≤ bd' i) {j m : Nat} {p : Prog} {a : Addr} {xs : List V} (hL : H L = some (.lst ys)) (hp : ps[j]? = some p) (na : a ≠ L) (hm : m ≤ bd' j)
    (hx : H a = some (.lst xs)) (hi : ImAll H ((runs p m (c0 p)).map runD) xs) : LvAt H0 (upd H L (.lst (ys.set j (.ref a)))) L ps bd' := by
  obtain ⟨ls, h1, h2, h3⟩ := l.ls
  rw [hL] at h1; cases h1
  have kt : TupK H (upd H L (.lst ((ls.map V.ref).set j (.ref a)))) := tup_upd fun zs z => by rw [hL] at z; cases z
  refine ⟨Same.mut l.ln l.same, l.ln, ls.set j a, by rw [upd_same, List.map_set], by rw [List.length_set]; exact h2, fun i q b hq hb => ?_⟩
  by_cases e : i = j
  · subst e
    have hlt : i < ls.length := by rw [h2]; exact (List.getElem?_eq_some_iff.mp hp).1
    rw [List.getElem?_set_self hlt] at hb
    cases hb
    rw [hp] at hq; cases hq
    exact ⟨na, m, xs, hm, by rw [upd_ne na]; exact hx, hi.keep kt⟩
  · rw [List.getElem?_set_ne (Ne.symm e)] at hb
    obtain ⟨n, m', xs', hm', hx', hi'⟩ := h3 i q b hq hb
    exact ⟨n, m', xs', Nat.le_trans hm' (h i), by rw [upd_ne n]; exact hx', hi'.keep kt⟩
theorem iteR {b : Bool} {A : Prop} {R : Hp → Prop} (H6 : Hp) {C : Hp → Prop} (rest : ∀ H', C H' → R H') (hA : (∀ H', C H' → R H') → A) (hB : C H6) : if b = true then A else R H6 := by
  cases b with
  | true => exact (if_pos rfl).mpr (hA rest)
  | false => exact (if_neg Bool.false_ne_true).mpr (rest H6 hB)
theorem or_read {K : PySem.W.Frag} {σ : L2.St} {H : Hp} {L a : Addr} {j n m : Nat} {xs ys : List V} {p : Prog} {Q : Bool → Hp → Prop} (h5 : σ[5]? = some (some (.ref L))) (h7 : σ[7]? = some (some (.int (j : Nat)))) (h6 : σ[6]? = some (some (.int (n + 1 : Nat))))
    (hL : H L = some (.lst ys)) (hj : ys[j]? = some (.ref a)) (ha : H a = some (.lst xs)) (hx : ImAll H ((runs p m (c0 p)).map runD) xs) (hm : m ≤ n) (k : ∀ b H', Same H H' → (b = true → ImAll H' ((runs p n (c0 p)).map runD) xs) → Q b H') :
    tOr (tTest (tOp (rEqD K) (tOp (rIxL K) (tVar 5) (tVar 7)) (tLst tNil))) (tTest (tOp rEq (tCB (fun xs H Q => ∃ p ys, xs = [.ref p] ∧ (SqL K H p ys ∨ SqT K H p ys) ∧ Q (.int ys.length) H) (tCons (tOp (rIxL K) (tOp (rIxL K) (tVar 5) (tVar 7)) (tC (.int 0))) tNil))
      (tOp (rI0 fun i j => .int (i - j)) (tVar 6) (tC (.int 1))))) σ H Q := by
  generalize hrs : runs p m (c0 p) = rs at hx
  refine ⟨_, h5, _, h7, L, _, _, .ref a, rfl, rfl, .of hL, atI_nat hj, Nat.zero_le _, fun q hq => ?_⟩
  have s1 := same_upd (o := .lst []) hq
  have hx1 := hx.keep (Same.tup s1)
  refine ⟨.list (rs.map runD), .list [], lst_dp (s1 _ _ ha) hx1, .lst (.of upd_same) .nil, shaped_runs (Nat.le_trans (depth_runs rs) (by decide)), by decide +kernel, _, rfl, ?_⟩
  rw [eqv_runs]
  cases rs with
  | nil =>
    refine iteT (k true _ s1 fun _ => ?_)
    obtain ⟨d, rfl⟩ := Nat.le.dest hm
    rw [runs_empty hrs d]
    exact hx1
  | cons r l =>
    refine iteF ?_
    obtain ⟨x, r2, rfl, h1, h2⟩ := imAll_cons.mp (show ImAll _ (runD r :: l.map runD) xs from hx1)
    obtain ⟨t, rfl, ht⟩ := im_runV h1
    have hlr : r.length = m := runs_len p m _ r (hrs ▸ List.mem_cons_self)
    refine ⟨_, h5, _, h7, L, _, _, .ref a, rfl, rfl, .of (s1 _ _ hL), atI_nat hj, a, _, _, .ref t, rfl, rfl, .of (s1 _ _ ha), atI_nat (j := 0) rfl, t, _, rfl, .inr (.of ht), _, h6, _, _, rfl, rfl, rfl, _, rfl, ?_⟩
    refine k _ _ s1 fun e => ?_
    have e2 := V.int.inj (of_decide_eq_true e)
    rw [List.length_map, hlr] at e2
    have : m = n := by omega
    subst this
    rw [hrs]
    exact hx1
theorem ixN_at {n j : Nat} (hj : j < n) : ixN n (j : Int) = some j := by
  unfold ixN
  rw [if_pos (by omega), if_pos (by omega)]
  simp
theorem bound_le (n j : Nat) (i : Nat) : (if i < j then n + 1 else n) ≤ if i < j + 1 then n + 1 else n := by
  split <;> split <;> omega
end K28

set_option Elab.async false
set_option linter.all false
set_option maxRecDepth 100000
set_option maxHeartbeats 400000
/-! law. -/
namespace K28
open PySem PySem.Spec PyProof.Rows L2 GenW
section
variable {P : Program} {w : World} {K : PySem.W.Frag} {mg : Str → Option Value} {base : Heap}
abbrev lN : List Str := ["_law_script", "_law_feed_here", "_law_some", "_law_kept", "_law_prog", "_law_levels", "_law_n", "_law_i", "_law_found"]
def spLaw (K : PySem.W.Frag) : Sp := fun vs H Q _ => ∃ (a : Addr) (ns : List Int), vs = [.ref a] ∧ SqL K H a (ns.map V.int) ∧ ∀ H', Q (.bl true) H'
theorem scLaw : FnScope lN ["_law_script"] (defScope sLaw) := ⟨rfl, rfl, rfl, by decide +kernel, rfl, by decide +kernel, by decide +kernel⟩
theorem baseText : (PyData.list [.list [.tuple []], .int 1]).shown = ("[[()], 1]" : Str) := by decide +kernel
theorem ok_law {f ge gp ga gh gd gg gr gm gn : Addr} (F : At K "law" "law" sLaw f) (Tx : Tx K mg) (FE : Ok P w K mg base 1 ge ["_law_script"] (spFeed K)) (mgE : mg "_law_feed" = some (.ref ge))
    (PR : Ok P w K mg base 5 gp ["_law_feed_here"] spProgram) (mgP : mg "_law_program" = some (.ref gp)) (AN : Ok P w K mg base 2 ga ["_law_feed_here", "_law_some"] spAny) (mgA : mg "_law_any" = some (.ref ga))
    (HA : Ok P w K mg base 1 gh [] spHands) (mgH : mg "_law_hands" = some (.ref gh)) (DR : Ok P w K mg base 1 gd ["_law_feed_here", "_law_many"] spDraw) (mgD : mg "_law_draw" = some (.ref gd))
    (GR : Ok P w K mg base 1 gg [] spGreat) (mgG : mg "_law_great" = some (.ref gg)) (RO : ∀ p, OkY P w K mg base 5 gr ["program", "count"] (spRunsOf p)) (mgR : mg "runs_of" = some (.ref gr))
    (HM : ∀ p, Ok P w K mg base 7 gm ["program", "count"] (spMany p)) (mgM : mg "how_many_runs" = some (.ref gm)) (NX : OkG P w K mg base 9 gn ["_law_prog", "_law_level", "_law_n"] spNextA) (mgN : mg "_law_next_right" = some (.ref gn)) :
    OkG P w K mg base 10 f ["_law_script"] (spLaw K) := by
  refine mkOkG F scLaw (fun _ _ _ _ _ _ us hl => match us, hl with | [_], _ => rfl) (fun vs H Q E h => ?_) (fun cdv A outer s H vs Q E hgd hr h => ?_)
  · obtain ⟨a, ns, rfl, _⟩ := h; rfl
  · obtain ⟨sc, ns, rfl, hsc, kq⟩ := h
    have hr1 : Room 1 _ := hr.mono (by decide)
    have hr2 : Room 2 _ := hr.mono (by decide)
    have hr5 : Room 5 _ := hr.mono (by decide)
    have hr7 : Room 7 _ := hr.mono (by decide)
    have hr8 : Room (5 + 3) _ := hr.mono (by decide)
    refine ⟨_, pss_cons (ps_set (i := 1) scLaw.nd rfl (Or.inl rfl) (pe_callO FE hr1 (by rfl) mgE (pa_cons (pv 0) pa_nil)))
      (pss_cons (ps_set (i := 2) scLaw.nd rfl (Or.inl rfl) (pe_lst (pa_cons (pe_callO PR hr5 (by rfl) mgP (pa_cons (pv 1) pa_nil)) (pa_cons (pe_callO AN hr2 (by rfl) mgA (pa_cons (pv 1) (pa_cons (pe_callO0 HA hr1 (by rfl) mgH) pa_nil))) (pa_cons (pe_callO PR hr5 (by rfl) mgP (pa_cons (pv 1) pa_nil)) pa_nil)))))
      (pss_cons (ps_if (pt_cmpR op_eq (pe_callO DR hr1 (by rfl) mgD (pa_cons (pv 1) (pa_cons pe_int pa_nil))) pe_int (nomark _))
        (pss_one (ps_expr (pe_bm PySem.F.plainAttrs_list PySem.F.slot_list_append PySem.F.type_list_append mt_append (pv 2) (pa_cons (pe_callO0 GR hr1 (by rfl) mgG) pa_nil)))) pss_nil)
      (pss_cons (ps_set (i := 3) scLaw.nd rfl (Or.inl rfl) (pe_repr hgd hr.u65 (by rfl) Tx.repr (pv 2)))
      (pss_cons (ps_setLc (i := 5) (own := [("_law_prog", 4)]) (g := gName 4) (tt := tYes) (te := tLst (tCons (tTup tNil) tNil)) rfl scLaw.nd rfl rfl (sw_true rfl rfl rfl (by rfl)) (pi_list (pv 2))
          (blkOk_by (own := [("_law_prog", 4)]) (N := lN) (sc := defScope sLaw) (by decide +kernel)) (fun _ _ _ _ _ => pg_name (i := 4) scLaw.nd rfl (Or.inl rfl)) (fun _ _ _ _ _ => pts_nil)
          (fun _ _ _ _ _ => pe_lst (pa_cons (pe_tup pa_nil) pa_nil)))
      (pss_cons (ps_for PassesOwn.never rfl (pi_list (pv 2)) (pg_name (i := 4) scLaw.nd rfl (Or.inl rfl))
        (pss_one (ps_if (pt_cmpR op_ne (pe_repr hgd hr.u65 (by rfl) Tx.repr (pe_lst (pa_cons (pe_listG ((pgenY_callA ([] : Prog) RO hr5 (by rfl) mgR (pa_cons (pv 4) (pa_cons pe_int pa_nil))).plain) passNo noStopNo hr8 (by rfl) Tx.list (by decide +kernel))
            (pa_cons (pe_callA ([] : Prog) HM hr7 (by rfl) mgM (pa_cons (pv 4) (pa_cons pe_int pa_nil))) pa_nil)))) pe_str (nomark _)) pss_never pss_nil)))
      (pss_cons (ps_for PassesOwn.never rfl (pi_range2 (by rfl) Tx.range (pa_cons pe_int (pa_cons pe_int pa_nil))) (pg_name (i := 6) scLaw.nd rfl (Or.inl rfl))
        (pss_one (ps_for PassesOwn.never rfl (pi_enum (by rfl) Tx.enum (pa_cons (pv 2) pa_nil)) (pg_tup (by rfl) (pgs_cons (pg_name (i := 7) scLaw.nd rfl (Or.inl rfl)) (pgs_cons (pg_name (i := 4) scLaw.nd rfl (Or.inl rfl)) pgs_nil)))
          (pss_one (ps_if (pw_and (pt_cmpR op_le (pe_callB call_len_seq (by rfl) Tx.len PySem.boot_len (pa_cons (pe_ix ix_list (pv 5) (pv 7) (fun _ _ => rfl)) pa_nil)) pe_int (nomark _))
              (pw_and1 (PW.pt (pw_or (pt_cmpR (op_eqD hr.units) (pe_ix ix_list (pv 5) (pv 7) (fun _ _ => rfl)) (pe_lst pa_nil) (nomark _))
                (pw_or1 (pt_cmpR op_eq (pe_callB call_len_seq (by rfl) Tx.len PySem.boot_len (pa_cons (pe_ix ix_list (pe_ix ix_list (pv 5) (pv 7) (fun _ _ => rfl)) pe_int (fun _ _ => rfl)) pa_nil)) (pe_op op_sub (pv 6) pe_int) (nomark _))))))).pt
            (pss_cons (ps_set (i := 8) scLaw.nd rfl (Or.inl rfl) (pe_callG NX hgd (hr.mono (by decide)) (by rfl) mgN (pa_cons (pv 4) (pa_cons (pe_ix ix_list (pv 5) (pv 7) (fun _ _ => rfl)) (pa_cons (pv 6) pa_nil)))))
            (pss_cons (ps_if (pt_cmpR op_isN (pv 8) pe_non (nomark _)) pss_never pss_nil)
            (pss_one (ps_asg (pv 8) (pg_sub (pv 5) (pv 7) set_list))))) pss_nil)))))
      (pss_one (ps_ret (pe_cmpR op_eq (pe_repr hgd hr.u65 (by rfl) Tx.repr (pv 2)) (pv 3) (nomark _)))))))))), ?_⟩
    refine ⟨_, rfl, sc, ns, rfl, hsc, fun fd cl H1 s1 nfd f1 => ?_⟩
    refine ⟨_, rfl, fd, cl, rfl, f1, fun v1 H2 p1 c2 f2 w1 i1 => ?_⟩
    refine ⟨_, rfl, rfl, fun l xs H3 s3 hl e3 h0 h1 hx => ?_⟩
    have f3 := f2.more s3
    refine ⟨fd, cl, l, xs, rfl, f3, e3, h0, by omega, fun i x H4 hi c4 f4 => ?_⟩
    obtain ⟨p2, w2, i2⟩ := hx x (List.mem_of_getElem? hi)
    refine ⟨_, rfl, fd, cl, rfl, f4, fun v3 H5 p3 c5 f5 w3 i3 => ?_⟩
    have j1 := ((i1.keep (Same.tup s3)).keep (f3.tup c4)).keep (f4.tup c5)
    have j2 := (i2.keep (f3.tup c4)).keep (f4.tup c5)
    refine ⟨by show 3 ≤ sizeLine; decide, fun sm hsm => ?_⟩
    have ss := same_upd (o := .lst [v1, x, v3]) hsm
    have l5 : LstAt (upd H5 sm (.lst [v1, x, v3])) sm ([p1, p2, p3].map progD) := LstAt.new hsm (imAll_three j1 j2 i3)
    have hw3 : ∀ p ∈ [p1, p2, p3], WF p := fun p h => by
      rcases List.mem_cons.mp h with rfl | h
      · exact w1
      rcases List.mem_cons.mp h with rfl | h
      · exact w2
      rw [List.mem_singleton.mp h]; exact w3
    refine ⟨_, rfl, fd, cl, 16, rfl, f5.more ss, by decide, by decide, fun z H6 hz c6 f6 => ⟨rfl, _, rfl, ?_⟩⟩
    have l6 := l5.draw (f5.more ss) c6
    refine iteR H6 (C := fun H' => ∃ qs : List Prog, LstAt H' sm (qs.map progD) ∧ (∀ p ∈ qs, WF p) ∧ qs.length ≤ 4) (fun H7 ⟨qs, ⟨zs, hz7, iz7⟩, hwf, hq4⟩ => ?_) (fun rest => ?_) ⟨_, l6, hw3, by show 3 ≤ 4; decide⟩
    rotate_left
    · obtain ⟨yx, ey, iy⟩ := id l6
      refine ⟨_, rfl, .inl ⟨rfl, _, .of ey⟩, rfl, fun vg H7 s7 ig => ?_⟩
      refine ⟨sm, yx, vg, rfl, rfl, s7 _ _ ey, ?_, ?_⟩
      · rw [iy.length]
        exact Nat.lt_of_le_of_lt (show 3 ≤ 3 by decide) (by decide)
      · refine rest _ ⟨[p1, p2, p3] ++ [gProg], ?_, fun p h => ?_, by show 4 ≤ 4; decide⟩
        · rw [List.map_append]
          exact (l6.more s7).put (s7 _ _ ey) ig
        · rcases List.mem_append.mp h with h | h
          · exact hw3 p h
          · rw [List.mem_singleton.mp h]; exact gProg_ok
    have bs := bd_some hwf (by omega)
    refine ⟨_, rfl, .list (qs.map progD), lst_dp hz7 iz7, bs.sh, bs.nd, rfl, Nat.le_trans bs.dp (by decide), Nat.le_trans bs.len (by decide), ?_⟩
    generalize hkept : (PyData.list (qs.map progD)).shown = kept
    have hzl : zs.length = qs.length := by rw [iz7.length, List.length_map]
    -- the levels
    refine ⟨_, rfl, sm, rfl, ⟨_, .of hz7⟩, fun L hL => ?_⟩
    refine lc_list (K := K) (a := sm) (xs := zs) (fun j H' => Same H7 H' ∧ ∃ ls : List Addr, ls.length = j ∧ H' L = some (.lst (ls.map V.ref)) ∧ ∀ a ∈ ls, a ≠ L ∧ ∃ t, H' a = some (.lst [.ref t]) ∧ H' t = some (.tup []))
      ⟨same_upd hL, [], rfl, upd_same, fun a h => (nomatch h)⟩ (fun j H' _ ⟨s, _⟩ => .of (s _ _ hz7)) ?_ ?_
    · rintro j y H8 hj ⟨s8, ls, hll, hL8, hls⟩
      refine ⟨rfl, Nat.zero_le _, fun t ht => ⟨by show 1 ≤ sizeLine; decide, fun a ha => ?_⟩⟩
      have sa := same_upd (o := .tup []) ht
      have sb := same_upd (o := .lst [V.ref t]) ha
      have sc2 := sa.trans sb
      have hLa := sc2 _ _ hL8
      refine ⟨_, hLa, ?_, Same.mut hL (s8.trans sc2), ls ++ [a], by rw [List.length_append, hll]; rfl, by rw [upd_same, List.map_append]; rfl, fun b hb => ?_⟩
      · rw [List.length_map, hll]
        have : j < zs.length := (List.getElem?_eq_some_iff.mp hj).1
        exact Nat.lt_of_le_of_lt (show j ≤ 4 by omega) (by decide)
      · rcases List.mem_append.mp hb with hb | hb
        · obtain ⟨nb, t2, e1, e2⟩ := hls b hb
          have nt : t2 ≠ L := fun e => by rw [e, hL8] at e2; cases e2
          exact ⟨nb, t2, by rw [upd_ne nb]; exact sc2 _ _ e1, by rw [upd_ne nt]; exact sc2 _ _ e2⟩
        · rw [List.mem_singleton.mp hb]
          have na : a ≠ L := fun e => by rw [e, sa _ _ hL8] at ha; cases ha
          have nt : t ≠ L := fun e => by rw [e, hL8] at ht; cases ht
          exact ⟨na, t, by rw [upd_ne na]; exact upd_same, by rw [upd_ne nt]; exact sb _ _ upd_same⟩
    rintro H8 ⟨s8, ls, hll, hL8, hls⟩
    have lv0 : LvAt H7 H8 L qs (fun _ => 0) := ⟨s8, hL, ls, hL8, by rw [hll, hzl], fun i p a hp ha => by
      obtain ⟨na, t2, e1, e2⟩ := hls a (List.mem_of_getElem? ha)
      exact ⟨na, 0, [.ref t2], Nat.le_refl _, e1, imAll_one (im_runD (ks := []) e2)⟩⟩
    -- none chosen
    refine ⟨_, rfl, sm, rfl, ⟨_, .of (s8 _ _ hz7)⟩, ?_⟩
    refine for_list (K := K) (a := sm) (xs := zs) (fun j σ H' => ∃ v4, σ = [some (.ref sc), some (.ref fd), some (.ref sm), some (.str kept), v4, some (.ref L), none, none, none] ∧ Same H8 H')
      ⟨none, rfl, fun _ _ e => e⟩ (fun j σ H' _ ⟨_, _, s⟩ => .of (s _ _ (s8 _ _ hz7))) ?_ ?_
    · rintro j y σ H9 hj ⟨v4, rfl, s9⟩
      obtain ⟨d, hd, im⟩ := iz7.getV hj
      rw [List.getElem?_map] at hd
      obtain ⟨p, hp, rfl⟩ := Option.map_eq_some_iff.mp hd
      have Wp := hwf p (List.mem_of_getElem? hp)
      have im9 := im.keep (Same.tup (s8.trans s9))
      refine ⟨_, rfl, p, y, 0, rfl, im9, Wp, by decide, by show 1 ≤ 1000; decide, fun ys H10 s10 hys q hq => ?_⟩
      have s11 := s10.trans (same_upd (o := .lst ys) hq)
      have hys2 := hys.keep (Same.tup (same_upd (o := .lst ys) hq))
      refine ⟨_, rfl, p, y, 0, rfl, im9.keep (Same.tup s11), Wp, by decide, fun H11 s12 => ?_⟩
      refine ⟨by show 2 ≤ sizeLine; decide, fun b hb => ?_⟩
      have s13 := s12.trans (same_upd (o := .lst [V.ref q, V.int ((runs p 0 (c0 p)).length : Nat)]) hb)
      refine ⟨.list [.list [.tuple []], .int 1], .lst (.of upd_same) (.cons (lst_dp (s13 _ _ upd_same) (show ImAll _ [.tuple []] ys from hys2.keep (Same.tup s13))) (.cons (.int 1) .nil)), by decide +kernel, by decide +kernel, rfl, by decide +kernel, by decide +kernel, ?_⟩
      rw [baseText]
      refine ⟨rfl, _, rfl, ?_⟩
      rw [decide_eq_true rfl]
      exact iteF ⟨_, rfl, s9.trans (s11.trans s13)⟩
    rintro σ H9 ⟨v4, rfl, s9⟩
    have lv1 := lv0.more s9
    -- one choice more
    refine ⟨_, _, rfl, ⟨by decide, by decide, by decide, by decide⟩, ?_⟩
    refine for_range (fun n σ H' => ∃ v4 v6 v7 v8, σ = [some (.ref sc), some (.ref fd), some (.ref sm), some (.str kept), v4, some (.ref L), v6, v7, v8] ∧ LvAt H7 H' L qs (fun _ => n))
      ⟨_, _, _, _, rfl, lv1⟩ ?_ ?_
    · rintro n σ H10 hn ⟨v4, v6, v7, v8, rfl, l10⟩
      have hn7 : n < 7 := hn
      rw [show V.int (1 + (n : Int)) = V.int ((n + 1 : Nat) : Int) by congr 1; omega]
      refine ⟨_, rfl, sm, _, rfl, .of (l10.same _ _ hz7), ?_⟩
      refine for_enumL (K := K) (a := sm) (xs := zs) (fun j σ H' => ∃ v4 v7 v8, σ = [some (.ref sc), some (.ref fd), some (.ref sm), some (.str kept), v4, some (.ref L), some (.int (n + 1 : Nat)), v7, v8] ∧ LvAt H7 H' L qs (fun i => if i < j then n + 1 else n))
        ⟨_, _, _, rfl, l10.wide fun i => by split <;> omega⟩ (fun j σ H' _ ⟨_, _, _, _, l⟩ => .of (l.same _ _ hz7)) ?_ ?_
      · rintro j y σ H11 Tn hj ⟨v4, v7, v8, rfl, l11⟩ hTn
        have l12 := l11.more (same_upd (o := .tup [.int (j : Nat), y]) hTn)
        refine ⟨Tn, _, rfl, .of upd_same, rfl, _, _, rfl, _, _, rfl, rfl, ?_⟩
        generalize hH12 : upd H11 Tn (.tup [.int (j : Nat), y]) = H12 at l12
        obtain ⟨d, hd, im⟩ := iz7.getV hj
        rw [List.getElem?_map] at hd
        obtain ⟨p, hp, rfl⟩ := Option.map_eq_some_iff.mp hd
        have Wp := hwf p (List.mem_of_getElem? hp)
        obtain ⟨ls, hL12, hlen, hall⟩ := id l12.ls
        have hjl : j < ls.length := by rw [hlen]; exact (List.getElem?_eq_some_iff.mp hp).1
        obtain ⟨a, ha⟩ : ∃ a, ls[j]? = some a := ⟨_, List.getElem?_eq_getElem hjl⟩
        obtain ⟨na, m, xs2, hm, hax, hix⟩ := hall j p a hp ha
        have hmn : m ≤ n := by rw [if_neg (Nat.lt_irrefl j)] at hm; exact hm
        have hja : (ls.map V.ref)[j]? = some (.ref a) := by rw [List.getElem?_map, ha]; rfl
        refine ⟨_, rfl, _, rfl, L, _, _, .ref a, rfl, rfl, .of hL12, atI_nat hja, a, xs2, rfl, .inl (.of hax), _, _, rfl, rfl, _, rfl, iteB (fun h60 => ?_) (fun _ => iteF ?_)⟩
        · refine or_read rfl rfl rfl hL12 hja hax hix hmn (fun b H13 s13 hb => iteB (fun e => ?_) (fun _ => ?_))
          · have l13 := l12.more s13
            have hi13 := hb e
            have hl60 : (runs p n (c0 p)).length ≤ 60 := by
              have := of_decide_eq_true h60
              have := hi13.length
              rw [List.length_map] at this
              omega
            refine ⟨_, rfl, _, rfl, _, rfl, L, _, _, .ref a, rfl, rfl, .of (s13 _ _ hL12), atI_nat hja, _, rfl, p, y, a, xs2, n, rfl, im.keep (Same.tup l13.same), Wp, by omega, s13 _ _ hax, hi13, hl60, fun H14 s14 => ?_, fun a2 ys2 H14 s14 na2 hy2 ih2 => ?_⟩
            · refine ⟨_, rfl, rfl, _, rfl, ?_⟩
              rw [decide_eq_false (fun h => nomatch h)]
              refine iteF ?_
              have hL14 := (s13.trans s14) _ _ hL12
              refine ⟨_, rfl, _, rfl, _, rfl, L, _, _, j, rfl, rfl, hL14, ixN_at (by rw [List.length_map]; exact hjl), ?_⟩
              exact ⟨_, _, _, rfl, (l13.more s14).set (bound_le n j) hL14 hp na (by rw [if_pos (Nat.lt_succ_self j)]; exact Nat.le_succ n) ((s13.trans s14) _ _ hax) (hi13.keep (Same.tup s14))⟩
            · refine ⟨_, rfl, rfl, _, rfl, ?_⟩
              rw [decide_eq_false (fun h => nomatch h)]
              refine iteF ?_
              have hL14 := (s13.trans s14) _ _ hL12
              have nL2 : a2 ≠ L := fun e => by rw [e, s13 _ _ hL12] at na2; cases na2
              refine ⟨_, rfl, _, rfl, _, rfl, L, _, _, j, rfl, rfl, hL14, ixN_at (by rw [List.length_map]; exact hjl), ?_⟩
              exact ⟨_, _, _, rfl, (l13.more s14).set (bound_le n j) hL14 hp nL2 (by rw [if_pos (Nat.lt_succ_self j)]; exact Nat.le_refl _) hy2 ih2⟩
          · exact ⟨_, _, _, rfl, (l12.more s13).wide (bound_le n j)⟩
        · exact ⟨_, _, _, rfl, l12.wide (bound_le n j)⟩
      · rintro σ H11 ⟨v4, v7, v8, rfl, l11⟩
        exact ⟨_, _, _, _, rfl, l11.wide fun i => by split <;> omega⟩
    rintro σ H10 ⟨v4, v6, v7, v8, rfl, l10⟩
    refine ⟨_, rfl, .list (qs.map progD), lst_dp (l10.same _ _ hz7) (iz7.keep (Same.tup l10.same)), bs.sh, bs.nd, rfl, Nat.le_trans bs.dp (by decide), Nat.le_trans bs.len (by decide), _, rfl, rfl, ?_⟩
    rw [hkept, decide_eq_true rfl]
    exact kq _
end
end K28

set_option Elab.async false
set_option linter.all false
set_option maxRecDepth 100000
set_option maxHeartbeats 400000
/-! the promises joined, and the law's end. -/
namespace K28
open PySem PySem.Spec PyProof.Rows L2
section
variable {P : Program} {w : World} {K : PySem.W.Frag} {mg : Str → Option Value} {base : Heap}
theorem Ok.imp {k : Nat} {f : Addr} {ps : List Str} {sp sp' : Sp} (O : Ok P w K mg base k f ps sp) (h : ∀ vs H Q E, sp' vs H Q E → sp vs H Q E) : Ok P w K mg base k f ps sp' := by
  obtain ⟨fd, F, b, kp⟩ := O
  exact ⟨fd, F.imp h, b, kp⟩
theorem OkY.imp {k : Nat} {f : Addr} {ps : List Str} {sp sp' : SpY} (O : OkY P w K mg base k f ps sp) (h : ∀ vs H Q, sp' vs H Q → sp vs H Q) : OkY P w K mg base k f ps sp' := by
  obtain ⟨fd, F, b, kp⟩ := O
  exact ⟨fd, ⟨fun vs H Q q => F.len vs H Q (h _ _ _ q), fun A outer s H args us vs Q hr he hb hv hs => F.run A outer s H args us vs Q hr he hb hv (h _ _ _ hs)⟩, b, kp⟩
/-- a promise for the sound programs is one for all -/
theorem ok_wf {k : Nat} {f : Addr} {ps : List Str} {sp : Prog → Sp} (O : ∀ p, WF p → Ok P w K mg base k f ps (sp p)) (h : ∀ p vs H Q E, sp p vs H Q E → WF p) (p : Prog) : Ok P w K mg base k f ps (sp p) := by
  by_cases W : WF p
  · exact O p W
  · exact (O gProg gProg_ok).imp fun vs H Q E q => absurd (h p vs H Q E q) W
theorem okY_wf {k : Nat} {f : Addr} {ps : List Str} {sp : Prog → SpY} (O : ∀ p, WF p → OkY P w K mg base k f ps (sp p)) (h : ∀ p vs H Q, sp p vs H Q → WF p) (p : Prog) : OkY P w K mg base k f ps (sp p) := by
  by_cases W : WF p
  · exact O p W
  · exact (O gProg gProg_ok).imp fun vs H Q q => absurd (h p vs H Q q) W
theorem law_ok {h : Heap} (c : He.SaysD faL fnL K) (X : K.In h) (G : h.Ns mainGlobals mg) : OkG P w K mg base 10 (He.ga K "law") ["_law_script"] (spLaw K) := by
  have m_is_integer : mg "is_integer" = some (.ref (He.ga K "is_integer")) := He.glo_ok X G (c.fact 0 (f := .glo "is_integer") (by kernel_rfl))
  have m_is_number : mg "is_number" = some (.ref (He.ga K "is_number")) := He.glo_ok X G (c.fact 1 (f := .glo "is_number") (by kernel_rfl))
  have m_table_of : mg "table_of" = some (.ref (He.ga K "table_of")) := He.glo_ok X G (c.fact 2 (f := .glo "table_of") (by kernel_rfl))
  have m_handler_line : mg "handler_line" = some (.ref (He.ga K "handler_line")) := He.glo_ok X G (c.fact 3 (f := .glo "handler_line") (by kernel_rfl))
  have m_Position : mg "Position" = some (.ref (He.ga K "Position")) := He.glo_ok X G (c.fact 4 (f := .glo "Position") (by kernel_rfl))
  have m_first_position : mg "first_position" = some (.ref (He.ga K "first_position")) := He.glo_ok X G (c.fact 5 (f := .glo "first_position") (by kernel_rfl))
  have m_follow_run : mg "follow_run" = some (.ref (He.ga K "follow_run")) := He.glo_ok X G (c.fact 6 (f := .glo "follow_run") (by kernel_rfl))
  have m_runs_of : mg "runs_of" = some (.ref (He.ga K "runs_of")) := He.glo_ok X G (c.fact 7 (f := .glo "runs_of") (by kernel_rfl))
  have m_add_to : mg "add_to" = some (.ref (He.ga K "add_to")) := He.glo_ok X G (c.fact 8 (f := .glo "add_to") (by kernel_rfl))
  have m_over_if : mg "over_if" = some (.ref (He.ga K "over_if")) := He.glo_ok X G (c.fact 9 (f := .glo "over_if") (by kernel_rfl))
  have m_Counts : mg "Counts" = some (.ref (He.ga K "Counts")) := He.glo_ok X G (c.fact 10 (f := .glo "Counts") (by kernel_rfl))
  have m_how_many_runs : mg "how_many_runs" = some (.ref (He.ga K "how_many_runs")) := He.glo_ok X G (c.fact 11 (f := .glo "how_many_runs") (by kernel_rfl))
  have m_options_after : mg "options_after" = some (.ref (He.ga K "options_after")) := He.glo_ok X G (c.fact 12 (f := .glo "options_after") (by kernel_rfl))
  have m_is_run : mg "is_run" = some (.ref (He.ga K "is_run")) := He.glo_ok X G (c.fact 13 (f := .glo "is_run") (by kernel_rfl))
  have m__law_feed : mg "_law_feed" = some (.ref (He.ga K "_law_feed")) := He.glo_ok X G (c.fact 14 (f := .glo "_law_feed") (by kernel_rfl))
  have m__law_draw : mg "_law_draw" = some (.ref (He.ga K "_law_draw")) := He.glo_ok X G (c.fact 15 (f := .glo "_law_draw") (by kernel_rfl))
  have m__law_any : mg "_law_any" = some (.ref (He.ga K "_law_any")) := He.glo_ok X G (c.fact 16 (f := .glo "_law_any") (by kernel_rfl))
  have m__law_hands : mg "_law_hands" = some (.ref (He.ga K "_law_hands")) := He.glo_ok X G (c.fact 17 (f := .glo "_law_hands") (by kernel_rfl))
  have m__law_great : mg "_law_great" = some (.ref (He.ga K "_law_great")) := He.glo_ok X G (c.fact 18 (f := .glo "_law_great") (by kernel_rfl))
  have m__law_calls : mg "_law_calls" = some (.ref (He.ga K "_law_calls")) := He.glo_ok X G (c.fact 19 (f := .glo "_law_calls") (by kernel_rfl))
  have m__law_function : mg "_law_function" = some (.ref (He.ga K "_law_function")) := He.glo_ok X G (c.fact 20 (f := .glo "_law_function") (by kernel_rfl))
  have m__law_program : mg "_law_program" = some (.ref (He.ga K "_law_program")) := He.glo_ok X G (c.fact 21 (f := .glo "_law_program") (by kernel_rfl))
  have m__law_next_right : mg "_law_next_right" = some (.ref (He.ga K "_law_next_right")) := He.glo_ok X G (c.fact 22 (f := .glo "_law_next_right") (by kernel_rfl))
  have m_law : mg "law" = some (.ref (He.ga K "law")) := He.glo_ok X G (c.fact 23 (f := .glo "law") (by kernel_rfl))
  have f_len : mg "len" = none := He.free_ok X G (c.fact 24 (f := .free "len") (by kernel_rfl))
  have f_isi : mg "isinstance" = none := He.free_ok X G (c.fact 25 (f := .free "isinstance") (by kernel_rfl))
  have f_int : mg "int" = none := He.free_ok X G (c.fact 26 (f := .free "int") (by kernel_rfl))
  have f_bool : mg "bool" = none := He.free_ok X G (c.fact 27 (f := .free "bool") (by kernel_rfl))
  have f_list : mg "list" = none := He.free_ok X G (c.fact 28 (f := .free "list") (by kernel_rfl))
  have f_tuple : mg "tuple" = none := He.free_ok X G (c.fact 29 (f := .free "tuple") (by kernel_rfl))
  have f_rev : mg "reversed" = none := He.free_ok X G (c.fact 30 (f := .free "reversed") (by kernel_rfl))
  have f_range : mg "range" = none := He.free_ok X G (c.fact 31 (f := .free "range") (by kernel_rfl))
  have f_sum : mg "sum" = none := He.free_ok X G (c.fact 32 (f := .free "sum") (by kernel_rfl))
  have f_enum : mg "enumerate" = none := He.free_ok X G (c.fact 33 (f := .free "enumerate") (by kernel_rfl))
  have f_repr : mg "repr" = none := He.free_ok X G (c.fact 34 (f := .free "repr") (by kernel_rfl))
  have f_dict : mg "dict" = none := He.free_ok X G (c.fact 35 (f := .free "dict") (by kernel_rfl))
  have f_sorted : mg "sorted" = none := He.free_ok X G (c.fact 36 (f := .free "sorted") (by kernel_rfl))
  have clP := He.cls_ok (c.fact 37 (f := .cls "Position") (by kernel_rfl))
  have mkP := He.mkr_ok (c.fact 38 (f := .mkr "Position") (by kernel_rfl))
  have clC := He.cls_ok (c.fact 39 (f := .cls "Counts") (by kernel_rfl))
  have mkC := He.mkr_ok (c.fact 40 (f := .mkr "Counts") (by kernel_rfl))
  have nP0 := He.noat_ok (c.fact 41 (f := .noat "Position" "table") (by kernel_rfl))
  have nP1 := He.noat_ok (c.fact 42 (f := .noat "Position" "stack") (by kernel_rfl))
  have nP2 := He.noat_ok (c.fact 43 (f := .noat "Position" "due") (by kernel_rfl))
  have nP3 := He.noat_ok (c.fact 44 (f := .noat "Position" "ending") (by kernel_rfl))
  have nC0 := He.noat_ok (c.fact 45 (f := .noat "Counts" "line_table") (by kernel_rfl))
  have nC1 := He.noat_ok (c.fact 46 (f := .noat "Counts" "at_call") (by kernel_rfl))
  have nC2 := He.noat_ok (c.fact 47 (f := .noat "Counts" "at_way") (by kernel_rfl))
  have t_line_here := He.meth_ok (c.fact 48 (f := .meth "Position" "line_here") (by kernel_rfl))
  have t_width := He.meth_ok (c.fact 49 (f := .meth "Position" "width") (by kernel_rfl))
  have t_can_choose := He.meth_ok (c.fact 50 (f := .meth "Position" "can_choose") (by kernel_rfl))
  have t_choose := He.meth_ok (c.fact 51 (f := .meth "Position" "choose") (by kernel_rfl))
  have t_go_way := He.meth_ok (c.fact 52 (f := .meth "Position" "go_way") (by kernel_rfl))
  have t_arrive := He.meth_ok (c.fact 53 (f := .meth "Position" "arrive") (by kernel_rfl))
  have t_leave := He.meth_ok (c.fact 54 (f := .meth "Position" "leave") (by kernel_rfl))
  have t_fail_here := He.meth_ok (c.fact 55 (f := .meth "Position" "fail_here") (by kernel_rfl))
  have t_arrival := He.meth_ok (c.fact 56 (f := .meth "Position" "arrival") (by kernel_rfl))
  have t_fill := He.meth_ok (c.fact 57 (f := .meth "Counts" "fill") (by kernel_rfl))
  have t_behind_call := He.meth_ok (c.fact 58 (f := .meth "Counts" "behind_call") (by kernel_rfl))
  have t_behind_fault := He.meth_ok (c.fact 59 (f := .meth "Counts" "behind_fault") (by kernel_rfl))
  have t_from_spot := He.meth_ok (c.fact 60 (f := .meth "Counts" "from_spot") (by kernel_rfl))
  have t_add_call := He.meth_ok (c.fact 61 (f := .meth "Counts" "add_call") (by kernel_rfl))
  have t_behind_frame := He.meth_ok (c.fact 62 (f := .meth "Counts" "behind_frame") (by kernel_rfl))
  have Tx : K28.Tx K mg := ⟨f_len, f_isi, f_int, f_bool, f_list, f_tuple, f_rev, f_range, f_sum, f_enum, f_repr, f_dict, f_sorted, clP, nP0, nP1, nP2, nP3, clC, nC0, nC1, nC2⟩
  have d_is_integer : At K "is_integer" "is_integer" sIsInteger (He.ga K "is_integer") := c.def_ 0 (d := gD "is_integer" sIsInteger) (by kernel_rfl)
  have d_is_number : At K "is_number" "is_number" sIsNumber (He.ga K "is_number") := c.def_ 1 (d := gD "is_number" sIsNumber) (by kernel_rfl)
  have d_table_of : At K "table_of" "table_of" sTableOf (He.ga K "table_of") := c.def_ 2 (d := gD "table_of" sTableOf) (by kernel_rfl)
  have d_handler_line : At K "handler_line" "handler_line" sHandlerLine (He.ga K "handler_line") := c.def_ 3 (d := gD "handler_line" sHandlerLine) (by kernel_rfl)
  have d_PI : AtI K (He.ma K (He.ga K "Position") "__init__") := c.def_ 4 (d := mD "Position" "__init__" "Position.__init__" sPInit [.str "call"]) (by kernel_rfl)
  have d_line_here : At K "line_here" "Position.line_here" sLineHere (He.ma K (He.ga K "Position") "line_here") := c.def_ 5 (d := mD "Position" "line_here" "Position.line_here" sLineHere) (by kernel_rfl)
  have d_width : At K "width" "Position.width" sWidth (He.ma K (He.ga K "Position") "width") := c.def_ 6 (d := mD "Position" "width" "Position.width" sWidth) (by kernel_rfl)
  have d_can_choose : At K "can_choose" "Position.can_choose" sCanChoose (He.ma K (He.ga K "Position") "can_choose") := c.def_ 7 (d := mD "Position" "can_choose" "Position.can_choose" sCanChoose) (by kernel_rfl)
  have d_choose : At K "choose" "Position.choose" sChoose (He.ma K (He.ga K "Position") "choose") := c.def_ 8 (d := mD "Position" "choose" "Position.choose" sChoose) (by kernel_rfl)
  have d_go_way : At K "go_way" "Position.go_way" sGoWay (He.ma K (He.ga K "Position") "go_way") := c.def_ 9 (d := mD "Position" "go_way" "Position.go_way" sGoWay) (by kernel_rfl)
  have d_arrive : At K "arrive" "Position.arrive" sArrive (He.ma K (He.ga K "Position") "arrive") := c.def_ 10 (d := mD "Position" "arrive" "Position.arrive" sArrive) (by kernel_rfl)
  have d_leave : At K "leave" "Position.leave" sLeave (He.ma K (He.ga K "Position") "leave") := c.def_ 11 (d := mD "Position" "leave" "Position.leave" sLeave) (by kernel_rfl)
  have d_fail_here : At K "fail_here" "Position.fail_here" sFailHere (He.ma K (He.ga K "Position") "fail_here") := c.def_ 12 (d := mD "Position" "fail_here" "Position.fail_here" sFailHere) (by kernel_rfl)
  have d_arrival : At K "arrival" "Position.arrival" sArrival (He.ma K (He.ga K "Position") "arrival") := c.def_ 13 (d := mD "Position" "arrival" "Position.arrival" sArrival) (by kernel_rfl)
  have d_first_position : At K "first_position" "first_position" sFirstPosition (He.ga K "first_position") := c.def_ 14 (d := gD "first_position" sFirstPosition) (by kernel_rfl)
  have d_follow_run : At K "follow_run" "follow_run" sFollowRun (He.ga K "follow_run") := c.def_ 15 (d := gD "follow_run" sFollowRun) (by kernel_rfl)
  have d_runs_of : At K "runs_of" "runs_of" sRunsOf (He.ga K "runs_of") := c.def_ 16 (d := gD "runs_of" sRunsOf) (by kernel_rfl)
  have d_add_to : At K "add_to" "add_to" sAddTo (He.ga K "add_to") := c.def_ 17 (d := gD "add_to" sAddTo) (by kernel_rfl)
  have d_over_if : At K "over_if" "over_if" sOverIf (He.ga K "over_if") := c.def_ 18 (d := gD "over_if" sOverIf) (by kernel_rfl)
  have d_CI : At K "__init__" "Counts.__init__" sCInit (He.ma K (He.ga K "Counts") "__init__") := c.def_ 19 (d := mD "Counts" "__init__" "Counts.__init__" sCInit) (by kernel_rfl)
  have d_fill : At K "fill" "Counts.fill" sFill (He.ma K (He.ga K "Counts") "fill") := c.def_ 20 (d := mD "Counts" "fill" "Counts.fill" sFill) (by kernel_rfl)
  have d_behind_call : At K "behind_call" "Counts.behind_call" sBehindCall (He.ma K (He.ga K "Counts") "behind_call") := c.def_ 21 (d := mD "Counts" "behind_call" "Counts.behind_call" sBehindCall) (by kernel_rfl)
  have d_behind_fault : At K "behind_fault" "Counts.behind_fault" sBehindFault (He.ma K (He.ga K "Counts") "behind_fault") := c.def_ 22 (d := mD "Counts" "behind_fault" "Counts.behind_fault" sBehindFault) (by kernel_rfl)
  have d_from_spot : At K "from_spot" "Counts.from_spot" sFromSpot (He.ma K (He.ga K "Counts") "from_spot") := c.def_ 23 (d := mD "Counts" "from_spot" "Counts.from_spot" sFromSpot) (by kernel_rfl)
  have d_add_call : At K "add_call" "Counts.add_call" sAddCall (He.ma K (He.ga K "Counts") "add_call") := c.def_ 24 (d := mD "Counts" "add_call" "Counts.add_call" sAddCall) (by kernel_rfl)
  have d_behind_frame : At K "behind_frame" "Counts.behind_frame" sBehindFrame (He.ma K (He.ga K "Counts") "behind_frame") := c.def_ 25 (d := mD "Counts" "behind_frame" "Counts.behind_frame" sBehindFrame) (by kernel_rfl)
  have d_how_many_runs : At K "how_many_runs" "how_many_runs" sHowMany (He.ga K "how_many_runs") := c.def_ 26 (d := gD "how_many_runs" sHowMany) (by kernel_rfl)
  have d_options_after : At K "options_after" "options_after" sOptionsAfter (He.ga K "options_after") := c.def_ 27 (d := gD "options_after" sOptionsAfter) (by kernel_rfl)
  have d_is_run : At K "is_run" "is_run" sIsRun (He.ga K "is_run") := c.def_ 28 (d := gD "is_run" sIsRun) (by kernel_rfl)
  have d__law_feed : At K "_law_feed" "_law_feed" sFeed (He.ga K "_law_feed") := c.def_ 29 (d := gD "_law_feed" sFeed) (by kernel_rfl)
  have d__law_draw : At K "_law_draw" "_law_draw" sDraw (He.ga K "_law_draw") := c.def_ 30 (d := gD "_law_draw" sDraw) (by kernel_rfl)
  have d__law_any : At K "_law_any" "_law_any" sAny (He.ga K "_law_any") := c.def_ 31 (d := gD "_law_any" sAny) (by kernel_rfl)
  have d__law_hands : At K "_law_hands" "_law_hands" sHands (He.ga K "_law_hands") := c.def_ 32 (d := gD "_law_hands" sHands) (by kernel_rfl)
  have d__law_great : At K "_law_great" "_law_great" sGreat (He.ga K "_law_great") := c.def_ 33 (d := gD "_law_great" sGreat) (by kernel_rfl)
  have d__law_calls : At K "_law_calls" "_law_calls" sCalls (He.ga K "_law_calls") := c.def_ 34 (d := gD "_law_calls" sCalls) (by kernel_rfl)
  have d__law_function : At K "_law_function" "_law_function" sFunction (He.ga K "_law_function") := c.def_ 35 (d := gD "_law_function" sFunction) (by kernel_rfl)
  have d__law_program : At K "_law_program" "_law_program" sProgram (He.ga K "_law_program") := c.def_ 36 (d := gD "_law_program" sProgram) (by kernel_rfl)
  have d__law_next_right : At K "_law_next_right" "_law_next_right" sNextRight (He.ga K "_law_next_right") := c.def_ 37 (d := gD "_law_next_right" sNextRight) (by kernel_rfl)
  have d_law : At K "law" "law" sLaw (He.ga K "law") := c.def_ 38 (d := gD "law" sLaw) (by kernel_rfl)
  have o_II : Ok P w K mg base 1 _ _ _ := ok_isInteger d_is_integer Tx
  have o_IN : Ok P w K mg base 2 _ _ _ := ok_isNumber d_is_number o_II m_is_integer
  have o_HL : Ok P w K mg base 1 _ _ _ := ok_handler d_handler_line
  have o_LH : ∀ p, Ok P w K mg base 1 _ _ _ := fun p => ok_lineHere (p := p) d_line_here Tx
  have o_W : ∀ p, Ok P w K mg base 2 _ _ _ := fun p => ok_width (p := p) d_width Tx (o_LH p) t_line_here
  have o_CC : ∀ p, Ok P w K mg base 3 _ _ _ := fun p => ok_canChoose (p := p) d_can_choose Tx o_IN m_is_number (o_W p) t_width
  have o_AR : ∀ p, Ok P w K mg base 1 _ _ _ := fun p => ok_arrive (p := p) d_arrive Tx
  have o_LV : ∀ p, Ok P w K mg base 1 _ _ _ := fun p => ok_leave (p := p) d_leave Tx
  have o_FH : ∀ p, WF p → Ok P w K mg base 2 _ _ _ := fun p W => ok_failHere (p := p) W d_fail_here Tx (o_LH p) t_line_here (o_AR p) t_arrive o_HL m_handler_line
  have o_GW : ∀ p, WF p → Ok P w K mg base 3 _ _ _ := fun p W => ok_goWay (p := p) d_go_way Tx o_IN m_is_number (o_AR p) t_arrive (o_LV p) t_leave (o_FH p W) t_fail_here
  have o_CH : ∀ p, WF p → Ok P w K mg base 4 _ _ _ := fun p W => ok_choose (p := p) W d_choose Tx (o_LH p) t_line_here (o_GW p W) t_go_way
  have o_AL : ∀ p, Ok P w K mg base 1 _ _ _ := fun p => ok_arrival (p := p) d_arrival Tx
  have o_PI : ∀ p, OkI P w K mg base _ _ := fun p => ok_pinit (p := p) d_PI Tx
  have o_TO : ∀ p, Ok P w K mg base 1 _ _ _ := fun p => ok_tableOf (p := p) d_table_of
  have o_FP : ∀ p, Ok P w K mg base 3 _ _ _ := fun p => ok_first (p := p) d_first_position Tx (o_TO p) m_table_of (o_PI p) mkP m_Position
  have o_FR : ∀ p, WF p → Ok P w K mg base 5 _ _ _ := fun p W => ok_follow (p := p) d_follow_run Tx (o_FP p) m_first_position (o_AL p) t_arrival (o_CC p) t_can_choose (o_CH p W) t_choose
  have o_OA : ∀ p, WF p → Ok P w K mg base 6 _ _ (spOptions p) := fun p W => ok_options (p := p) d_options_after Tx (o_FR p W) m_follow_run (o_W p) t_width
  have o_IR : ∀ p, WF p → Ok P w K mg base 5 _ _ (spIsRun p) := fun p W => ok_isRun (p := p) d_is_run Tx (o_FP p) m_first_position (o_CC p) t_can_choose (o_CH p W) t_choose
  have o_RO : ∀ p, WF p → OkY P w K mg base 5 _ _ (spRunsOf p) := fun p W => ok_runsOf (p := p) d_runs_of Tx (o_TO p) m_table_of (o_PI p) mkP m_Position (o_W p) t_width (o_CH p W) t_choose
  have o_AT : Ok P w K mg base 1 _ _ _ := ok_addTo d_add_to
  have o_OV : ∀ p, Ok P w K mg base 1 _ _ _ := fun p => ok_overIf (p := p) d_over_if
  have o_BF : ∀ p, Ok P w K mg base 2 _ _ _ := fun p => ok_bFault (p := p) d_behind_fault Tx o_HL m_handler_line (o_OV p) m_over_if
  have o_BR : ∀ p, Ok P w K mg base 3 _ _ _ := fun p => ok_bFrame (p := p) d_behind_frame Tx (o_BF p) t_behind_fault
  have o_BC : ∀ p, Ok P w K mg base 3 _ _ _ := fun p => ok_bCall (p := p) d_behind_call Tx o_AT m_add_to (o_OV p) m_over_if (o_BF p) t_behind_fault
  have o_AC : ∀ p, Ok P w K mg base 4 _ _ _ := fun p => ok_addCall (p := p) d_add_call Tx o_AT m_add_to (o_BR p) t_behind_frame
  have o_FS : ∀ p, Ok P w K mg base 5 _ _ _ := fun p => ok_fSpot (p := p) d_from_spot Tx o_AT m_add_to (o_AC p) t_add_call
  have o_CI : ∀ p, Ok P w K mg base 1 _ _ _ := fun p => ok_cinit (p := p) d_CI Tx
  have o_FI : ∀ p, Ok P w K mg base 6 _ _ _ := fun p => ok_fill (p := p) d_fill Tx (o_BC p) t_behind_call (o_FS p) t_from_spot
  have o_HM : ∀ p, Ok P w K mg base 7 _ _ (spMany p) := fun p => ok_many (p := p) d_how_many_runs Tx (o_CI p) mkC m_Counts (o_FI p) t_fill
  have a_OA := ok_wf o_OA fun p vs H Q E ⟨_, _, _, _, _, W, _⟩ => W
  have a_IR := ok_wf o_IR fun p vs H Q E ⟨_, _, _, _, _, W, _⟩ => W
  have a_RO := okY_wf o_RO fun p vs H Q ⟨_, _, _, _, W, _⟩ => W
  have o_FE : Ok P w K mg base 1 _ _ _ := ok_feed d__law_feed Tx
  have o_DR : Ok P w K mg base 1 _ _ _ := ok_draw d__law_draw Tx
  have o_AN : Ok P w K mg base 2 _ _ _ := ok_any d__law_any Tx o_DR m__law_draw
  have o_HA : Ok P w K mg base 1 _ _ _ := ok_hands d__law_hands
  have o_CA : Ok P w K mg base 3 _ _ _ := ok_calls d__law_calls Tx o_DR m__law_draw o_AN m__law_any
  have o_FU : Ok P w K mg base 4 _ _ _ := ok_function d__law_function Tx o_DR m__law_draw o_AN m__law_any o_CA m__law_calls
  have o_PR : Ok P w K mg base 5 _ _ _ := ok_program d__law_program Tx o_DR m__law_draw o_AN m__law_any o_HA m__law_hands o_FU m__law_function
  have o_GR : Ok P w K mg base 1 _ _ _ := ok_great d__law_great Tx
  have o_NX : OkG P w K mg base 9 _ _ _ := ok_next d__law_next_right Tx a_OA m_options_after a_RO m_runs_of o_HM m_how_many_runs a_IR m_is_run
  exact ok_law d_law Tx o_FE m__law_feed o_PR m__law_program o_AN m__law_any o_HA m__law_hands o_DR m__law_draw o_GR m__law_great a_RO m_runs_of o_HM m_how_many_runs o_NX m__law_next_right
end
/-- the law called, no repr under way: T what is tracked of the script -/
theorem called {P : Program} {w : World} {K : PySem.W.Frag} {mg mb : Str → Option Value} {k : Nat} {f a : Addr} {x : Str} {sp : Sp} {s : Shared} {us : List Value} {T : Hp}
    (kin : K.In s.heap) (gl : s.heap.Ns mainGlobals mg) (bi : s.heap.Ns builtinsNs mb) (same : ∀ y : Str, y ≠ "__name__" → mb y = bootBuiltins y) (lim : s.heap.NoLimit) (gens : s.gens = #[])
    (scr : s.heap.get? a = some { cls := .type "list", data := .seq us.toArray }) (room : Room k callerA) (prom : ∀ b : Heap, K.In b → b.Ns mainGlobals mg → OkG P w K mg b k f [x] sp)
    (good : sp [.ref a] T (fun v _ => v = .bl true) fun _ _ _ => False) (only : Only T) (ok : HOk P w T s.heap) (lone : ∀ b o, T b = some o → b = a) (apart : ∀ o, T a = some o → K.lookup a = none) :
    codeAny (model P w) callerA (.call (.ref f) ⟨[.ref a], []⟩) (fun r z => r = .ok (.ret (.bool true)) ∧ OldK s.heap z.heap ∧ z.os = s.os ∧ AllBare z.gens) s := by
  have untr : ∀ {b : Addr} {m : Str → Option Value}, s.heap.Ns b m → (hidT s.heap T).Ns b m := by
    rintro b m ⟨o, es, ep, h1, h2, h3⟩
    refine ⟨o, es, ep, hidT_get h1 ?_, h2, h3⟩
    cases e : T b with
    | none => rfl
    | some u =>
      rw [lone b u e, scr] at h1
      cases h1
      exact nomatch (show Data.seq us.toArray _ = Data.dict es ep from h2)
  have kin2 : K.In (hidT s.heap T) := by
    intro b o h1
    refine hidT_get (kin b o h1) ?_
    cases e : T b with
    | none => rfl
    | some u =>
      have eb := lone b u e
      rw [eb] at e h1
      rw [apart u e] at h1
      exact nomatch h1
  obtain ⟨mc, l1, l2⟩ := lim
  obtain ⟨fd, F, bd, _⟩ := prom _ kin2 (untr gl)
  have env : Env0 P w K mg (hidT s.heap T) callerA [] s T :=
    ⟨rfl, ⟨kin2, untr gl, ⟨mb, untr bi, same⟩, ⟨mc, untr l1, l2⟩⟩, fun _ _ q => of_hidT q, Nat.le_of_eq (hidT_size _ _), trivial, fun _ q => (nomatch q), ok, .of_eq gens⟩
  refine codeAny_mono (F.run callerA [] s T _ [.ref a] [.ref a] _ _ rfl room env (bd s [.ref a] kin rfl) (.cons rfl .nil) good) fun r z h => ?_
  match r, h with
  | .ok (.ret u), ⟨v, T2, os, bare, un, ok2, rv, q⟩ =>
    rw [show v = .bl true from q] at rv
    cases (show u = Value.bool true from rv)
    refine ⟨rfl, OldK.of_keep fun b o ho => ?_, os, bare⟩
    rcases only b with n | ⟨o2, ys, n⟩
    · exact un.keep b o ho n (fun y => nomatch (show b ∈ ([] : List Addr) from y)) (by simp)
    · have g1 := (ok b _ n).1
      rw [ho] at g1
      cases g1
      exact (ok2 b _ (un.frzs b _ _ n)).1
theorem law_callG {P : Program} {w : World} {K : PySem.W.Frag} {mg mb : Str → Option Value} {k : Nat} {f a : Addr} {x : Str} {sp : Sp} {s : Shared} {us : List Value} {ns : List Int}
    (kin : K.In s.heap) (gl : s.heap.Ns mainGlobals mg) (bi : s.heap.Ns builtinsNs mb) (same : ∀ y : Str, y ≠ "__name__" → mb y = bootBuiltins y) (lim : s.heap.NoLimit) (gens : s.gens = #[])
    (scr : s.heap.get? a = some { cls := .type "list", data := .seq us.toArray }) (hin : IntsAre us ns) (few : ns.length ≤ sizeLine) (room : Room k callerA) (prom : ∀ b : Heap, K.In b → b.Ns mainGlobals mg → OkG P w K mg b k f [x] sp)
    (good : ∀ T : Hp, Only T → SqL K T a (ns.map V.int) → sp [.ref a] T (fun v _ => v = .bl true) fun _ _ _ => False) :
    codeAny (model P w) callerA (.call (.ref f) ⟨[.ref a], []⟩) (fun r z => r = .ok (.ret (.bool true)) ∧ OldK s.heap z.heap ∧ z.os = s.os ∧ AllBare z.gens) s := by
  have vals := vals_ints hin
  by_cases e : K.lookup a = none
  · let L0 : HO := .frz { cls := .type "list", data := .seq us.toArray } (.lst (ns.map V.int))
    let T : Hp := fun b => if b = a then some L0 else none
    have at_ : T a = some L0 := if_pos rfl
    have off : ∀ b o, T b = some o → b = a ∧ o = L0 := fun b o q => by
      by_cases z : b = a
      · rw [z, at_] at q
        exact ⟨z, (Option.some.inj q).symm⟩
      · rw [show T b = none from if_neg z] at q
        exact nomatch q
    have on : Only T := fun b => by
      cases q : T b with
      | none => exact .inl rfl
      | some o => exact .inr ⟨_, _, congrArg some (off b o q).2⟩
    refine called kin gl bi same lim gens scr room prom (good T on (.inl (.inr ⟨_, at_⟩))) on (fun b o q => ?_) (fun b o q => (off b o q).1) fun _ _ => e
    obtain ⟨z1, z2⟩ := off b o q
    rw [z1, z2]
    exact ⟨scr, by rw [List.length_map]; exact few, us, _, vals, scr⟩
  · obtain ⟨o, ho⟩ := Option.ne_none_iff_exists'.mp e
    have q := kin a o ho
    rw [scr] at q
    cases q
    have len := hin.length
    let T : Hp := fun _ => none
    have sq : SqL K T a (ns.map V.int) := .inr ⟨_, us.toArray, _, ho, rfl, rfl, rfl, by rw [List.size_toArray, len]; exact few, by simpa using vals⟩
    exact called (T := T) kin gl bi same lim gens scr room prom (good T (fun _ => .inl rfl) sq) (fun _ => .inl rfl) (fun _ _ y => nomatch y) (fun _ _ y => nomatch y) fun _ y => nomatch y
theorem walk_ofG {l : PySem.W.OpenLaw} {n k : Nat} {q : Program} {loose : List Str} {XP : (Str → Option Value) → Heap → Prop} {YP : World → Heap → Prop} {d : DefRec} {x : Str}
    (hn : l.most = some n) (hn2 : n ≤ sizeLine) (hdf : d.params.defaults = []) (hr : Room k callerA)
    (F : ∀ (w : World) (mg : Str → Option Value) (fa : Addr) (h : Heap), YP w h → h.Ns mainGlobals mg → mg d.name = some (.ref fa) →
      ∃ (K : PySem.W.Frag) (sp : Sp), K.In h ∧ (∀ (H : Hp) (a : Addr) (ns : List Int), ns.length ≤ n → Only H → SqL K H a (ns.map V.int) → sp [.ref a] H (fun v _ => v = .bl true) fun _ _ _ => False) ∧
        ∀ base : Heap, K.In base → base.Ns mainGlobals mg → OkG l.prog w K mg base k fa [x] sp) :
    PySem.W.WalkO q loose XP YP l.row.toRowW d [] (fun f vs => PySem.call f vs) := by
  refine Att.attach_call hn hdf fun w s₀ s₁ mg mb fa o pm cd doc a vs ns G Y ho hd hcd hmg hobj hints hlen hg => ?_
  obtain ⟨K, sp, KX, hsp, hF⟩ := F w mg fa _ Y G.T.g hmg
  exact law_callG KX G.T.g G.T.b G.T.builtins G.T.nolimit hg hobj hints (Nat.le_trans hlen hn2) hr hF (fun H hO hS => hsp H a ns hlen hO hS)
theorem law_at {K : PySem.W.Frag} {mg : Str → Option Value} {h : Heap} (c : He.SaysD faL fnL K) (X : K.In h) (G : h.Ns mainGlobals mg) : mg "law" = some (.ref (He.ga K "law")) := He.glo_ok X G (c.fact 23 (f := .glo "law") (by kernel_rfl))
theorem walk_law {q : Program} {loose : List Str} {XP : (Str → Option Value) → Heap → Prop} {l : PySem.W.OpenLaw} {d : DefRec} (hn : l.most = some 63) (hdf : d.params.defaults = []) (hm : d.name = "law") : PySem.W.WalkO q loose XP hk.says l.row.toRowW d [] (fun f vs => PySem.call f vs) := by
  refine walk_ofG (k := 10) (x := "_law_script") (n := 63) hn (by decide) hdf (by constructor <;> decide) (fun w mg fa h Y G hm2 => ?_)
  obtain ⟨K, X, c⟩ := Y
  rw [hm, law_at c X G] at hm2
  cases hm2
  exact ⟨K, spLaw K, X, fun H a ns _ _ hs => ⟨a, ns, rfl, hs, fun _ => rfl⟩, fun base _ G2 => law_ok c X G⟩
end K28

set_option Elab.async false
set_option linter.all false
set_option maxRecDepth 100000
set_option maxHeartbeats 4000000
theorem PySem.Challenge.cw_outandover_k28_whole_counts_and_lists_holds : PySem.Challenge.rw_outandover_k28_whole_counts_and_lists.Holds := by
  w_on
  o_law
  refine HandSHeadRun.head_any (r := PySem.W.OpenLaw.row PySem.Challenge.rw_outandover_k28_whole_counts_and_lists) (q := PySem.W.view K28.R.prog [33]) (H := K28.hk) (ob := K28.ob) (M := 4000) (loose := K28.names) (d := HandSHeadRun.topDef K28.R.prog 33) (kwd := [])
    K28.ob_eq (by kernel_rfl) (fun s => by kernel_rfl) K28.run (by kernel_rfl) (by kernel_rfl) (by kernel_rfl) (by rfl) (by first | assumption | decide +kernel) (by decide +kernel) ⟨rfl, rfl, rfl, rfl, rfl, by decide +kernel⟩ ?hw ?hc
  case hw => w_witness2
  case hc =>
    exact K28.walk_law (by rfl) (by kernel_rfl) (by kernel_rfl)
